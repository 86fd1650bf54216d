import PyProof.Rows.All
import Wide.All
import OpenK.AllK
import Wide.FinOn
import HandS.ForMost
import HandS.Defaults
import HandS.Conv
import HandS.TupAny
import HandS.TupMul
import HandS.IsInst
import HandS.DictComp
import HandS.Zip
import HandS.Walk
import HandS.Style
import HandS.Deep
import HandS.Strs
import HandS.SetFor
import HandS.Evl
import KE.GoesEnum
import KE.GoesNew
import KE.KTupSum
import HandS.Head0
import HandS.Head1
import HandS.Head2
import HandS.HeadEnd
import HandS.HeadHook1
import HandS.HeadHook2
import PySem.Challenge.RW_swaprow_k57_whole_rings_reached
set_option Elab.async false
set_option linter.all false
set_option maxRecDepth 100000
set_option maxHeartbeats 4000000
/-! rules that the layer lacks: tuple.index of ints, sum and set of a tuple of ints, enumerate of a tuple, zip of a list and a tuple, xs[i] op= e, a call by keywords alone -/
namespace K57
open PySem PySem.Spec PyProof.Rows L2
section
variable {X : Cx}
/-- t.index(k) -/
def rTIdx (K : PySem.W.Frag) : V → List V → Hp → VK → Prop := fun x xs H Q =>
  ∃ (p : Addr) (ns : List Int) (k : Int) (j : Nat), x = .ref p ∧ xs = [.int k] ∧ SqT K H p (ns.map V.int) ∧ ns[j]? = some k ∧ (∀ m : Nat, m < j → ns[m]? ≠ some k) ∧ Q (.int (j : Nat)) H
theorem mt_tidx : MtR X "tuple.index" (rTIdx X.K) := by
  intro pins s σ H x xs v us Q I rx rs h
  obtain ⟨p, ns, k, j, rfl, rfl, hq, hk, hno, q⟩ := h
  cases rx
  obtain ⟨u, rfl, t, rfl⟩ := vals1 rs
  obtain ⟨its, r, pl, _⟩ := I.tuple hq
  obtain ⟨⟨c, dd, dt, sl⟩, ho, hc, n, hd⟩ := pl
  simp only at hc hd
  subst hc
  subst hd
  have hi := ints_of_vals r
  have hsz : its.toArray.size = ns.length := by rw [List.size_toArray]; exact IntsAre.length hi
  have hjn : j < ns.length := (List.getElem?_eq_some_iff.mp hk).1
  have itm : ∀ (m : Nat) (hm : m < its.toArray.size) (hn : m < ns.length), ∃ tm, its.toArray[m] = Value.int ns[m] tm := fun m hm hn => by
    obtain ⟨tm, e⟩ := hi.get m _ (List.getElem?_eq_getElem hn)
    obtain ⟨_, e2⟩ := List.getElem?_eq_some_iff.mp e
    exact ⟨tm, by simpa using e2⟩
  have hjs : j < its.toArray.size := by omega
  refine call_meets PySem.F.slot_tuple_index ⟨_, ho, rfl⟩ PySem.F.entry_tuple_index (PySem.F.args_tuple_index_2 _ _)
    (TI.tuple_indexAt p its.toArray n dd sl (.int k t) (eqk k) j hjs ?_ ?_) ⟨ho, fun y hy => (eqk_gives hi y (by simpa using hy)).at _ _, ⟨.int (j : Nat), H, I.tok _, ⟨_, rfl⟩, q⟩⟩
  · obtain ⟨tm, e⟩ := itm j hjs hjn
    have ek : ns[j] = k := (List.getElem?_eq_some_iff.mp hk).2
    rw [e, ek]
    exact beq_self_eq_true k
  · intro m hm hmj
    obtain ⟨tm, e⟩ := itm m hm (by omega)
    rw [e]
    refine beq_eq_false_iff_ne.mpr fun e2 => hno m hmj ?_
    rw [List.getElem?_eq_getElem (show m < ns.length by omega), e2]
/-- sum(t) -/
def rTSum (K : PySem.W.Frag) : List V → Hp → VK → Prop := fun vs H Q => ∃ (a : Addr) (ns : List Int), vs = [V.ref a] ∧ SqT K H a (ns.map V.int) ∧ Q (.int ns.sum) H
theorem cr_tsum (hc : X.calm = true) : CallR X (.builtin "sum") (rTSum X.K) := by
  intro pins s σ H vs us Q I r h
  obtain ⟨a, ns, rfl, hs, q⟩ := h
  obtain ⟨its, rv, ht, _⟩ := I.tuple hs
  rw [Vals.ref1 r]
  have hi := ints_of_vals rv
  obtain ⟨xs, hx⟩ := hi.allInts.items
  have hn : numsOf its.toArray.toList = ns := by rw [show its.toArray.toList = its from rfl, hi.numsOf]
  have htt : s.heap.IsTuple a its.toArray := ht
  rw [hx] at htt hn
  rw [nums_intItems] at hn
  refine PySem.W.ktm_sumG (I.ok.hd hc) htt fun h' tk t' hk => ?_
  have e : preSum (numAt xs) xs.size = ns.sum := by rw [preSum_eq, List.take_of_length_le (by simp), hn]
  rw [e]
  exact ⟨.int ns.sum, H, I.kept hk, ⟨_, rfl⟩, q⟩
/-- len(set(t)) -/
def tLenSetT (K : PySem.W.Frag) (ta : TE) : TE := fun σ H Q => ta σ H fun x H1 => ∃ (l : Addr) (ns : List Int), x = .ref l ∧ SqT K H1 l (ns.map V.int) ∧ ns.Nodup ∧ ns.length ≤ 1000 ∧ Q (.int (ns.length : Nat)) H1
theorem count_nodup {ns ks : List Int} (h1 : ns.Nodup) (h2 : ks.Nodup) (h : ∀ k, k ∈ ns ↔ k ∈ ks) : ks.length = ns.length :=
  ((List.perm_ext_iff_of_nodup h1 h2).mpr h).length_eq.symm
theorem pe_lenSetT {a : Expr} {ta : TE} {p p2 q pos : Pos} (hg : Gl X "len") (hm : X.mg "len" = none) (hg2 : Gl X "set") (hm2 : X.mg "set" = none) (ha : PE X a ta) (hc : X.calm = true := by rfl)
    (na : starEach [a] X.env = (false, eval a X.env) :: starEach [] X.env := by rfl) : PE X (.Call (.Name "len" p) [.Call (.Name "set" p2) [a] [] q] [] pos) (tLenSetT X.K ta) := by
  constructor
  intro pins s σ H Q I h
  refine Call_ (ld_blt I hg hm boot_len ?_)
  refine PyProof.Rows.callWith_builtin1 (PyProof.Rows.args_cons ?_ rfl) rfl rfl
  refine Call_ (ld_blt I hg2 hm2 boot_set ?_)
  refine PyProof.Rows.callWith_type1 (PyProof.Rows.args_cons (thn (ha.run pins s σ H _ I h) ?_) na) na rfl
  rintro v s1 ⟨x, H1, I1, r1, l, ns, rfl, hq, hnd, hl, q1⟩
  refine PyProof.Rows.args_nil ?_
  cases r1
  obtain ⟨its, r, pl, _⟩ := I1.tuple hq
  refine call_set_tupI ns (I1.ok.hd hc) (show s1.heap.IsTuple l its.toArray from pl) (ints_of_vals r) (by unfold scanBound; omega) fun h' tk c hS hcn hk => ?_
  refine PyProof.Rows.args_nil ?_
  have I2 : Inv X pins σ H1 { s1 with heap := h', toks := tk } := I1.kept hk
  obtain ⟨o, es, ep, t, ho, hex, hd, _, hnk, hmem, hlt, hf, hn, _, _⟩ := hS
  have e : es.size = ns.length := by
    have := count_nodup (ns := ns) hnd hnk fun k => by rw [← hmem k, decide_eq_true_iff]
    rw [List.length_map, Array.length_toList] at this
    exact this
  exact call_len_set ho hex hd hf (by omega) ⟨.int ns.length, H1, I2.tok _, ⟨_, by rw [e]⟩, q1⟩
end
/-! ### enumerate(t), t a tuple -/
def IeT (K : PySem.W.Frag) (a : Addr) (xs : List V) : It :=
  ⟨fun i H => SqT K H a xs ∧ i < xs.length, fun i H v H' => ∃ T x, v = .ref T ∧ H T = none ∧ H' = upd H T (.tup [.int (i : Nat), x]) ∧ xs[i]? = some x, fun i H => SqT K H a xs ∧ i = xs.length⟩
theorem turn_eT {P : Program} {w : World} {K : PySem.W.Frag} {elts : List Expr} {kk : Nat} {tpos : Pos} (a e it : Addr) (xs : List V) (hei : e ≠ it) (hea : e ≠ a) (hai : a ≠ it) :
    Turn P w K (.Tuple elts kk tpos) (IeT K a xs) [e, it] e (fun i h => (∃ old, IsEnum h e it ((i : Nat) : Int) old) ∧ h.IsTupleIter it a i) := by
  constructor
  case mem => exact List.mem_cons_self
  case obj =>
    rintro i h ⟨⟨old, he⟩, o, ho, hc, hd⟩ b hb
    rcases List.mem_cons.mp hb with z | hb
    · rw [z]
      exact ⟨_, he, fun v q => nomatch q⟩
    · rw [List.mem_singleton.mp hb]
      exact ⟨o, ho, fun v q => by rw [hd] at q; cases q⟩
  case keep =>
    rintro i h h' ⟨⟨old, he⟩, hi⟩ k
    exact ⟨⟨old, k e List.mem_cons_self _ he⟩, hi.at fun o q => k it (List.mem_cons_of_mem _ List.mem_cons_self) o q⟩
  case item =>
    intro X hP hw hK hc i pins s σ H E I hf st hg
    subst hP hw hK
    obtain ⟨⟨old, he⟩, hit⟩ := st
    obtain ⟨hq, hlt⟩ := hg
    obtain ⟨its, rv, pt, _⟩ := I.tuple hq
    have hsz : its.toArray.size = xs.length := by rw [List.size_toArray, rv.length]
    have hel : e < s.heap.objs.size := Heap.lt_size he
    have hil : it < s.heap.objs.size := by obtain ⟨_, q, _⟩ := hit; exact Heap.lt_size q
    have D := Draws.tuple (prog := X.prog) (w := X.w) (A := X.A.in1) (show X.A.in1.handled = none from I.ok.hd hc) it a hai its.toArray
    refine wpAny_pyNext_enum_itemD D he ⟨hit, pt⟩ (by rw [hsz]; exact hlt) hei (fun z => ?_) fun u h' tk hP ho hs' hT hz hk => ?_
    · rcases List.mem_cons.mp z with z | z
      · exact hei z
      · exact hea (List.mem_singleton.mp z)
    refine ⟨_, rfl, wpAny_letOwnedTupleGo_enum (s := { s with heap := h', toks := tk + 1 }) ho fun h2 he2 sb => ?_⟩
    have hux : its[i]? = some u := by simpa using hP
    obtain ⟨x, hx⟩ : ∃ x, xs[i]? = some x := ⟨xs[i], List.getElem?_eq_getElem hlt⟩
    obtain ⟨u2, hu2, ru⟩ := rv.get hx
    obtain rfl : u = u2 := Option.some.inj (hux.symm.trans hu2)
    have hT2 := (sb.2 _ (Nat.ne_of_gt hel)).trans hT
    have new : ObjOk X.prog X.w (upd H s.heap.objs.size (.tup [.int (i : Nat), x])) h2 s.heap.objs.size (.tup [.int (i : Nat), x]) :=
      ⟨Nat.le_trans (show 2 ≤ 100000 by decide) (by decide), [.int i tk, u], .cons ⟨_, rfl⟩ (.cons ru .nil), ⟨_, hT2, rfl, _, rfl⟩⟩
    have I1 : Inv X pins σ (upd H s.heap.objs.size (.tup [.int (i : Nat), x])) { s with heap := h2, toks := tk + 1 } := by
      refine I.turnedNew (ch := [e, it]) (fun b ob hb q => ?_) hf (Nat.le_refl _) new
      have b1 : b ≠ e := fun z => hb (by rw [z]; exact List.mem_cons_self)
      have b2 : b ≠ it := fun z => hb (by rw [z]; exact List.mem_cons_of_mem _ List.mem_cons_self)
      exact (sb.2 b b1).trans (hk b ob b1 b2 q)
    refine ⟨.ref s.heap.objs.size, _, I1, rfl, ⟨_, x, rfl, I.hok.fresh (Nat.le_refl _), rfl, hx⟩, ⟨⟨u, ?_⟩, hs'.1.at fun o q => (sb.2 it (Ne.symm hei)).trans q⟩, fun b hb => ?_⟩
    · have e1 : ((i + 1 : Nat) : Int) = (i : Int) + 1 := by omega
      rw [e1]
      exact he2
    · have hlb : b < s.heap.objs.size := by
        rcases List.mem_cons.mp hb with z | z
        · rw [z]; exact hel
        · rw [List.mem_singleton.mp z]; exact hil
      rw [upd_ne (Nat.ne_of_lt hlb)]
      exact (hf b hb).1
  case done =>
    intro X hP hw hK hc i pins s σ H E I hf st hg
    subst hP hw hK
    obtain ⟨⟨old, he⟩, hit⟩ := st
    obtain ⟨hq, hle⟩ := hg
    obtain ⟨its, rv, pt, _⟩ := I.tuple hq
    have hsz : its.toArray.size = xs.length := by rw [List.size_toArray, rv.length]
    have D := Draws.tuple (prog := X.prog) (w := X.w) (A := X.A.in1) (show X.A.in1.handled = none from I.ok.hd hc) it a hai its.toArray
    refine wpAny_pyNext_enum_endD D he ⟨by rw [hsz, ← hle]; exact hit, pt⟩ fun h' eb => ⟨rfl, ?_⟩
    exact I.turnedL (t' := s.toks) (ch := [e, it]) (fun b ob hb q => eb b ob (fun z => hb (by rw [z]; exact List.mem_cons_of_mem _ List.mem_cons_self)) q) hf
  case self => exact fun A i s Q E st h => wpAny_pyIter_enum st.1.choose_spec h
/-- two places ahead of which all stands are fresh -/
theorem fresh_two {X : Cx} {pins : List (Addr × Obj)} {σ : L2.St} {H : Hp} {s : Shared} (I : Inv X pins σ H s) {fp : List Addr} (h : ∀ b ∈ fp, s.heap.objs.size ≤ b) : ∀ b ∈ fp, FpOk X pins H b :=
  fun b hb => I.fpOk (h b hb) (I.hok.fresh (h b hb))
def iEnumT (K : PySem.W.Frag) (ta : TA) : TI := fun σ H R => ta σ H fun vs H1 => ∃ a xs, vs = [.ref a] ∧ SqT K H1 a xs ∧ R (IeT K a xs) H1
theorem meets_enum_t (t : Addr) (items : Array Value) : Meets (Builtin.«enumerate.__new__» ⟨[.type "enumerate", .ref t], []⟩) (fun _ R s => s.heap.IsTuple t items ∧
    R (.ok (.ret (.ref (s.heap.push { cls := .type "tuple_iterator", data := .fields #[.ref t, .int 0 0] }).objs.size)))
      { s with heap := (s.heap.push { cls := .type "tuple_iterator", data := .fields #[.ref t, .int 0 0] }).push { cls := .type "enumerate", data := .fields #[.none, .bool false, .ref s.heap.objs.size, rawInt 0, .none, .none] } }) := by
  refine .of_wp fun prog w A R s h => ?_
  obtain ⟨hp, g, d, tk, os⟩ := s
  obtain ⟨ht, h⟩ := h
  obtain ⟨⟨c, dct, dt, sl⟩, hl, hc, n, hd⟩ := id ht
  simp only at hc hd
  subst hc hd
  have hsub := sub_enumerate
  have q1 : ∀ {B : Around} {E' : Value → Shared → Prop} {Q' : Value → Shared → Prop}, Q' (.ref hp.objs.size) ⟨hp.push { cls := .type "tuple_iterator", data := .fields #[.ref t, .int 0 0] }, g, d, tk, os⟩ →
      wpAny (model prog w) B (pyIter (.ref t)) Q' E' ⟨hp, g, d, tk, os⟩ := fun q => wpAny_pyIter_tuple ht q
  wp_walk using wpAny_loadPart' hl
  refine wpAny_stack_any fun st2 => wpAny_pure ?_
  split
  · rename_i c _ _ _ _ _
    cases (c == Value.type "enumerate") <;> (wp_walk using wpAny_loadPart' hl, q1; exact ⟨_, rfl, h⟩)
  · wp_walk using wpAny_loadPart' hl, q1
    exact ⟨_, rfl, h⟩
theorem call_enum_t {prog : Program} {w : World} {A : Around} {E : Value → Shared → Prop} {s : Shared} {t : Addr} {items : Array Value} {Q : Value → Shared → Prop} (ht : s.heap.IsTuple t items)
    (h : ∀ h', IsEnum h' (s.heap.objs.size + 1) s.heap.objs.size 0 .none → h'.IsTupleIter s.heap.objs.size t 0 → (∀ b o, s.heap.get? b = some o → h'.get? b = some o) → Q (.ref (s.heap.objs.size + 1)) { s with heap := h' }) :
    wpAny (model prog w) A (call (.type "enumerate") [.ref t]) Q E s := by
  refine callType_new F.called_enumerate (by decide) (F.typeCall_enumerate_1 _) (F.newCall_enumerate_1 _) (fun ob => F.args_object_init_2 ob _) F.entry_enumerate_new (meets_enum_t t items) ⟨ht, ?_⟩
  have hz : (s.heap.push { cls := .type "tuple_iterator", data := .fields #[.ref t, .int 0 0] }).objs.size = s.heap.objs.size + 1 := Heap.size_push ..
  have he : IsEnum ((s.heap.push { cls := .type "tuple_iterator", data := .fields #[.ref t, .int 0 0] }).push { cls := .type "enumerate", data := .fields #[.none, .bool false, .ref s.heap.objs.size, rawInt 0, .none, .none] })
      (s.heap.objs.size + 1) s.heap.objs.size 0 .none := by
    have q := Heap.get?_push_size (s.heap.push { cls := .type "tuple_iterator", data := .fields #[.ref t, .int 0 0] }) (o := { cls := .type "enumerate", data := .fields #[.none, .bool false, .ref s.heap.objs.size, rawInt 0, .none, .none] }) rfl
    rw [hz] at q
    exact q
  show _ ∧ _
  rw [hz]
  exact ⟨⟨_, he, rfl⟩, h _ he ⟨_, Heap.get?_push_of_some _ (Heap.get?_push_size _ rfl), rfl, rfl⟩ fun b o x => Heap.get?_push_of_some _ (Heap.get?_push_of_some _ x)⟩
theorem pi_enumT {X : Cx} {e : Expr} {ta : TA} {p pos tpos : Pos} {elts : List Expr} {kk : Nat} (hg : Gl X "enumerate") (hm : X.mg "enumerate" = none) (ha : PA X [e] ta) (hs : starEach [e] X.env = [(false, eval e X.env)] := by rfl) :
    PI X (.Tuple elts kk tpos) (.Call (.Name "enumerate" p) [e] [] pos) (iEnumT X.K ta) := by
  constructor
  intro pins s σ H R I h
  refine Call_ (ld_blt I hg hm boot_enumerate (PyProof.Rows.callWith_type1 (thn (ha.run pos pins s σ H _ I h) ?_) hs rfl))
  rintro us s1 ⟨vs, H1, I1, r1, a, xs, rfl, hq, q⟩
  obtain ⟨u, rfl, ru⟩ := vals1 r1
  cases ru
  obtain ⟨its, rv, pt, _⟩ := I1.tuple hq
  have hal : a < s1.heap.objs.size := by obtain ⟨o, ho, _⟩ := id pt; exact Heap.lt_size ho
  refine call_enum_t (show s1.heap.IsTuple a its.toArray from pt) fun h' he hit hk => wpAny_pyIter_enum he ?_
  refine ⟨s1.heap.objs.size + 1, [s1.heap.objs.size + 1, s1.heap.objs.size], _, _, H1, rfl, I1.kept (t' := s1.toks) hk,
    turn_eT a (s1.heap.objs.size + 1) s1.heap.objs.size xs (Nat.succ_ne_self _) (Nat.ne_of_gt (Nat.lt_succ_of_lt hal)) (Nat.ne_of_lt hal), ⟨⟨.none, he⟩, hit⟩, fresh_two I1 (fun b hb => ?_), q⟩
  rcases List.mem_cons.mp hb with z | z
  · rw [z]; exact Nat.le_succ _
  · rw [List.mem_singleton.mp z]; exact Nat.le_refl _
/-! ### zip(list, tuple) -/
def IzM (K : PySem.W.Frag) (a b : Addr) (xs ys : List V) : It :=
  ⟨fun i H => SqL K H a xs ∧ SqT K H b ys ∧ i < xs.length ∧ i < ys.length, fun i H v H' => ∃ T x y, v = .ref T ∧ H T = none ∧ H' = upd H T (.tup [x, y]) ∧ xs[i]? = some x ∧ ys[i]? = some y,
    fun i H => SqL K H a xs ∧ SqT K H b ys ∧ i ≤ xs.length ∧ i ≤ ys.length ∧ (i = xs.length ∨ i = ys.length)⟩
theorem turn_zM {P : Program} {w : World} {K : PySem.W.Frag} {elts : List Expr} {kk : Nat} {tpos : Pos} (a b z TI TO i1 i2 : Addr) (xs ys : List V) (S : ZipSep2 z TI TO i1 i2 [i1, a] [i2, b]) (a1 : a ≠ i1) (b2 : b ≠ i2) :
    Turn P w K (.Tuple elts kk tpos) (IzM K a b xs ys) [z, TI, TO, i1, i2] z (fun i h => IsZip h z TI TO .none ∧ IsTupOf2 h TI (.ref i1) (.ref i2) ∧ (∃ x y, IsTupOf2 h TO x y) ∧ h.IsListIter i1 a i ∧ h.IsTupleIter i2 b i) := by
  have m3 : ∀ {c : Addr}, c ∈ [z, TI, TO, i1, i2] → c = z ∨ c = TI ∨ c = TO ∨ c = i1 ∨ c = i2 := fun h => by simpa using h
  have n1 : z ∈ [z, TI, TO, i1, i2] := by simp
  have n2 : TI ∈ [z, TI, TO, i1, i2] := by simp
  have n3 : TO ∈ [z, TI, TO, i1, i2] := by simp
  have n4 : i1 ∈ [z, TI, TO, i1, i2] := by simp
  have n5 : i2 ∈ [z, TI, TO, i1, i2] := by simp
  constructor
  case mem => exact n1
  case obj =>
    rintro i h ⟨hz, hTI, ⟨x, y, hTO⟩, ⟨o1, e1, _, d1⟩, ⟨o2, e2, _, d2⟩⟩ c hc
    rcases m3 hc with q | q | q | q | q <;> rw [q]
    · exact ⟨_, hz, fun v q => nomatch q⟩
    · exact ⟨_, hTI, fun v q => nomatch q⟩
    · exact ⟨_, hTO, fun v q => nomatch q⟩
    · exact ⟨o1, e1, fun v q => by rw [d1] at q; cases q⟩
    · exact ⟨o2, e2, fun v q => by rw [d2] at q; cases q⟩
  case keep =>
    rintro i h h' ⟨hz, hTI, ⟨x, y, hTO⟩, h1, h2⟩ k
    exact ⟨k z n1 _ hz, k TI n2 _ hTI, ⟨x, y, k TO n3 _ hTO⟩, h1.at fun o q => k i1 n4 o q, h2.at fun o q => k i2 n5 o q⟩
  case item =>
    intro X hP hw hK hc i pins s σ H E I hf st hg
    subst hP hw hK
    obtain ⟨hz, hTI, ⟨x0, y0, hTO⟩, h1, h2⟩ := st
    obtain ⟨hqx, hqy, l1, l2⟩ := hg
    obtain ⟨its, rv, p, _⟩ := I.list hqx
    obtain ⟨its2, rv2, p2, _⟩ := I.tuple hqy
    have D1 := Draws.list (prog := X.prog) (w := X.w) (A := X.A.in1) (show X.A.in1.handled = none from I.ok.hd hc) i1 a a1 its.toArray
    have D2 := Draws.tuple (prog := X.prog) (w := X.w) (A := X.A.in1) (show X.A.in1.handled = none from I.ok.hd hc) i2 b b2 its2.toArray
    have s1 : its.toArray.size = xs.length := by rw [List.size_toArray, rv.length]
    have s2 : its2.toArray.size = ys.length := by rw [List.size_toArray, rv2.length]
    have hzl : z < s.heap.objs.size := Heap.lt_size hz
    refine wpAny_pyNext_zipD2_item S D1 D2 hz hTI hTO ⟨h1, p.isList⟩ ⟨h2, p2⟩ (by rw [s1]; exact l1) (by rw [s2]; exact l2) fun u1 u2 h' tk P1 P2 z' TO' g1 g2 hT hsz hk => ?_
    refine ⟨_, rfl, wpAny_letOwnedTupleGo_zip (s := { s with heap := h', toks := tk }) z' fun h3 z3 sb => ?_⟩
    have hu1 : its[i]? = some u1 := by simpa using P1
    have hu2 : its2[i]? = some u2 := by simpa using P2
    obtain ⟨x, hx⟩ : ∃ x, xs[i]? = some x := ⟨xs[i], List.getElem?_eq_getElem l1⟩
    obtain ⟨y, hy⟩ : ∃ y, ys[i]? = some y := ⟨ys[i], List.getElem?_eq_getElem l2⟩
    obtain ⟨w1, q1, r1⟩ := rv.get hx
    obtain ⟨w2, q2, r2⟩ := rv2.get hy
    obtain rfl : u1 = w1 := Option.some.inj (hu1.symm.trans q1)
    obtain rfl : u2 = w2 := Option.some.inj (hu2.symm.trans q2)
    have hT2 := (sb.2 _ (Nat.ne_of_gt hzl)).trans hT
    have new : ObjOk X.prog X.w (upd H s.heap.objs.size (.tup [x, y])) h3 s.heap.objs.size (.tup [x, y]) :=
      ⟨Nat.le_trans (show 2 ≤ 100000 by decide) (by decide), [u1, u2], .cons r1 (.cons r2 .nil), ⟨_, hT2, rfl, _, rfl⟩⟩
    have I1 : Inv X pins σ (upd H s.heap.objs.size (.tup [x, y])) { s with heap := h3, toks := tk } := by
      refine I.turnedNew (ch := [z, TI, TO, i1, i2]) (fun c o hb q => ?_) hf (Nat.le_refl _) new
      refine (sb.2 c (fun e => hb (e ▸ n1))).trans (hk c o (fun e => hb (e ▸ n1)) (fun e => hb (e ▸ n3)) (fun e => hb (e ▸ n4)) (fun e => hb (e ▸ n5)) q)
    refine ⟨.ref s.heap.objs.size, _, I1, rfl, ⟨_, x, y, rfl, I.hok.fresh (Nat.le_refl _), rfl, hx, hy⟩, ⟨z3, ?_, ⟨u1, u2, ?_⟩, ?_, ?_⟩, fun c hcm => ?_⟩
    · refine (sb.2 _ S.TIz).trans (hk _ _ S.TIz S.TITO S.TIi1 S.TIi2 hTI)
    · exact (sb.2 _ S.TOz).trans TO'
    · exact g1.1.at fun o q => (sb.2 _ (Ne.symm S.zi1)).trans q
    · exact g2.1.at fun o q => (sb.2 _ (Ne.symm S.zi2)).trans q
    · have hlt : c < s.heap.objs.size := by
        rcases m3 hcm with q | q | q | q | q <;> rw [q]
        · exact hzl
        · exact Heap.lt_size hTI
        · exact Heap.lt_size hTO
        · obtain ⟨_, e1, _⟩ := h1; exact Heap.lt_size e1
        · obtain ⟨_, e2, _⟩ := h2; exact Heap.lt_size e2
      rw [upd_ne (Nat.ne_of_lt hlt)]
      exact (hf c hcm).1
  case done =>
    intro X hP hw hK hc i pins s σ H E I hf st hg
    subst hP hw hK
    obtain ⟨hz, hTI, ⟨x0, y0, hTO⟩, h1, h2⟩ := st
    obtain ⟨hqx, hqy, l1, l2, hend⟩ := hg
    obtain ⟨its, rv, p, _⟩ := I.list hqx
    obtain ⟨its2, rv2, p2, _⟩ := I.tuple hqy
    have D1 := Draws.list (prog := X.prog) (w := X.w) (A := X.A.in1) (show X.A.in1.handled = none from I.ok.hd hc) i1 a a1 its.toArray
    have D2 := Draws.tuple (prog := X.prog) (w := X.w) (A := X.A.in1) (show X.A.in1.handled = none from I.ok.hd hc) i2 b b2 its2.toArray
    have s1 : its.toArray.size = xs.length := by rw [List.size_toArray, rv.length]
    have s2 : its2.toArray.size = ys.length := by rw [List.size_toArray, rv2.length]
    refine wpAny_pyNext_zipD2_end S D1 D2 hz hTI hTO ⟨h1, p.isList⟩ ⟨h2, p2⟩ (by rw [s1]; exact l1) (by rw [s2]; exact l2) (by rw [s1, s2]; exact hend) fun h' tk hk => ⟨rfl, ?_⟩
    exact I.turnedL (t' := tk) (ch := [z, TI, TO, i1, i2]) (fun c o hb q => hk c o (fun e => hb (e ▸ n1)) (fun e => hb (e ▸ n3)) (fun e => hb (e ▸ n4)) (fun e => hb (e ▸ n5)) q) hf
  case self => exact fun A i s Q E st h => wpAny_pyIter_zip st.1 h
def iZipM (K : PySem.W.Frag) (ta : TA) : TI := fun σ H R => ta σ H fun vs H1 => ∃ a b xs ys, vs = [.ref a, .ref b] ∧ SqL K H1 a xs ∧ SqT K H1 b ys ∧ R (IzM K a b xs ys) H1
theorem pi_zipM {X : Cx} {e e2 : Expr} {ta : TA} {p pos tpos : Pos} {elts : List Expr} {kk : Nat} (hg : Gl X "zip") (hm : X.mg "zip" = none) (ha : PA X [e, e2] ta)
    (hs : starEach [e, e2] X.env = (false, eval e X.env) :: starEach [e2] X.env := by rfl) (hpl : (backTo pos (starEach [e2] X.env)).any (·.1) = false := by rfl) :
    PI X (.Tuple elts kk tpos) (.Call (.Name "zip" p) [e, e2] [] pos) (iZipM X.K ta) := by
  constructor
  intro pins s σ H R I h
  refine Call_ (ld_blt I hg hm PyProof.Rows.boot_zip (PyProof.Rows.callWith_type1 (thn (ha.run pos pins s σ H _ I h) ?_) hs hpl))
  rintro us s1 ⟨vs, H1, I1, r1, a, b, xs, ys, rfl, hqx, hqy, q⟩
  obtain ⟨u1, u2, rfl, r2, r3⟩ := vals2 r1
  cases r2
  cases r3
  obtain ⟨its, rv, p1, _⟩ := I1.list hqx
  obtain ⟨its2, rv2, p2, _⟩ := I1.tuple hqy
  have hal : a < s1.heap.objs.size := p1.lt
  have hbl : b < s1.heap.objs.size := by obtain ⟨o, ho, _⟩ := id p2; exact Heap.lt_size ho
  have S : ZipSep2 (s1.heap.objs.size + 4) (s1.heap.objs.size + 2) (s1.heap.objs.size + 3) s1.heap.objs.size (s1.heap.objs.size + 1) [s1.heap.objs.size, a] [s1.heap.objs.size + 1, b] :=
    zip_sep2 (fp1 := [a]) (fp2 := [b]) (fun c hc => by rw [List.mem_singleton.mp hc]; exact hal) (fun c hc => by rw [List.mem_singleton.mp hc]; exact hbl)
  refine zip_begins2 (begins_list a its.toArray) (begins_tuple b its2.toArray) p1.isList p2 fun h' hz hTI hTO g1 g2 hsz hk => wpAny_pyIter_zip hz ?_
  refine ⟨s1.heap.objs.size + 4, [s1.heap.objs.size + 4, s1.heap.objs.size + 2, s1.heap.objs.size + 3, s1.heap.objs.size, s1.heap.objs.size + 1], _, _, H1, rfl, I1.kept (t' := s1.toks) hk,
    turn_zM a b _ _ _ _ _ xs ys S (Nat.ne_of_lt hal) (Nat.ne_of_lt (Nat.lt_succ_of_lt hbl)), ⟨hz, hTI, ⟨_, _, hTO⟩, ⟨_, g1, rfl, rfl⟩, ⟨_, g2, rfl, rfl⟩⟩, fresh_two I1 (fun c hcm => ?_), q⟩
  have e' : c = s1.heap.objs.size + 4 ∨ c = s1.heap.objs.size + 2 ∨ c = s1.heap.objs.size + 3 ∨ c = s1.heap.objs.size ∨ c = s1.heap.objs.size + 1 := by simpa using hcm
  rcases e' with z | z | z | z | z <;> rw [z]
  · exact Nat.le_add_right _ _
  · exact Nat.le_add_right _ _
  · exact Nat.le_add_right _ _
  · exact Nat.le_refl _
  · exact Nat.le_add_right _ _
/-! ### xs[i] op= e -/
section
variable {X : Cx}
/-- xs[j], j a place from the left -/
def rGetL (K : PySem.W.Frag) : V → V → Hp → VK → Prop := fun o i H Q => ∃ (p : Addr) (xs : List V) (j : Nat) (v : V), o = .ref p ∧ i = .int (j : Int) ∧ SqL K H p xs ∧ xs[j]? = some v ∧ Q v H
theorem get_list : PGet X (rGetL X.K) := by
  intro pins s σ H o i ov iv Q I ro ri h
  obtain ⟨p, xs, j, z, rfl, rfl, hq, hz, q⟩ := h
  cases ro
  obtain ⟨t, rfl⟩ := ri
  obtain ⟨its, r, pl, hn⟩ := I.list hq
  obtain ⟨w, ew, rw'⟩ := r.get hz
  have l63 := line63
  have hj : j < xs.length := (List.getElem?_eq_some_iff.mp hz).1
  exact wpAny_getItem_list (x := w) pl.isList (Int.natCast_nonneg j) (by omega) (by rw [Int.toNat_natCast]; simpa using ew) ⟨z, H, I, rw', q⟩
/-- f(k = v, ..): keywords alone -/
theorem pe_callK0 {CX : CXT} {k : Nat} {f : Addr} {fd : FuncData} {ps ks : List Str} {sp : Sp} {E : XK} {x : Str} {p pos : Pos} {kws : List Keyword} {tk : TA} {g : List Value → List Value → List Value} {gV : List V → List V → List V}
    (F : FnOk X.prog X.w X.K X.mg X.base CX k f fd ps sp) (hr : Room k X.A) (hg : Gl X x) (hm : X.mg x = some (.ref f)) (hk : PySem.W.keepIn X.K (.ref f) = true) (hb : KBinds X.K fd ps ks g gV) (hx : Passes CX X E)
    (hkw : PK X kws tk) (hall : (backToKw pos (keywordEach kws X.env)).all (·.1.isSome) = true := by rfl) (hks : (backToKw pos (keywordEach kws X.env)).filterMap (·.1) = ks := by rfl)
    (hdb : (x == ("__debug__" : Str)) = false := by decide) (hpl : ((backTo pos (starEach [] X.env)).any (·.1) || (backToKw pos (keywordEach kws X.env)).any (·.1.isNone)) = false := by rfl) :
    PE X (.Call (.Name x p) [] kws pos) (tCallK sp gV E tNil tk) := by
  constructor
  intro pins s σ H Q I h
  refine wpAny_Call_Name_kw (ld_glob I hg hm ?_ hdb)
  refine PySem.W.callWith_KW0 (h₀ := X.base) I.ok.mod.kin hk hall (thn (hkw.run pos pins s σ H _ I h) ?_) hpl
  rintro ws s2 ⟨zs, H2, I2, rz, q2⟩
  refine ⟨I2.kIn, ?_⟩
  rw [hks]
  exact run_fnk (us := []) (vs := []) F hr hb hx I2 .nil rz q2
end
/-! ### rules told with the written part named (for a comprehension's block, whose context is another) -/
section
variable {X : Cx} {K : PySem.W.Frag}
theorem ixT (h : X.K = K) : IxR X (rIxT K) := by
  rw [← h]
  exact ix_tup
theorem ixL (h : X.K = K) : IxR X (rIxL K) := by
  rw [← h]
  exact ix_list
theorem opCatA (h : X.K = K) : OpR X (binaryOp .Add) (rCatA K) := by
  rw [← h]
  exact op_catA
theorem opNotIn (h : X.K = K) : OpR X (compareOp .NotIn) (rIn K true) := by
  rw [← h]
  exact op_notIn_seq
theorem callIsi (h : X.K = K) : CallR X (.builtin "isinstance") (rIsi K) := by
  rw [← h]
  exact call_isi
theorem crTsum (h : X.K = K) (hc : X.calm = true) : CallR X (.builtin "sum") (rTSum K) := by
  rw [← h]
  exact cr_tsum hc
theorem callTup (h : X.K = K) : CallR X (.type "tuple") (fun xs H Q => ∃ p ys, xs = [.ref p] ∧ ((SqL K H p ys ∧ ∀ l, H l = none → Q (.ref l) (upd H l (.tup ys))) ∨ (SqT K H p ys ∧ Q (.ref p) H))) := by
  rw [← h]
  exact call_tuple_of
theorem piList {tg l : Expr} {tl : TE} (h : X.K = K) (hl : PE X l tl) : PI X tg l (iList K tl) := by
  rw [← h]
  exact pi_list hl
theorem piTup {tg l : Expr} {tl : TE} (h : X.K = K) (hl : PE X l tl) : PI X tg l (iTup K tl) := by
  rw [← h]
  exact pi_tup hl
theorem piEnumT {e : Expr} {ta : TA} {p pos tpos : Pos} {elts : List Expr} {kk : Nat} (h : X.K = K) (hg : Gl X "enumerate") (hm : X.mg "enumerate" = none) (ha : PA X [e] ta) (hs : starEach [e] X.env = [(false, eval e X.env)] := by rfl) :
    PI X (.Tuple elts kk tpos) (.Call (.Name "enumerate" p) [e] [] pos) (iEnumT K ta) := by
  rw [← h]
  exact pi_enumT hg hm ha hs
end
end K57
set_option Elab.async false
set_option linter.all false
set_option maxRecDepth 100000
set_option maxHeartbeats 4000000
/-! tuples whose object is known to bear no dict: made, added, repeated, asked for .index -/
namespace K57
open PySem PySem.Spec PyProof.Rows L2
/-- a tuple of xs stands at a; its object bears no dict -/
def TupAt (H : Hp) (a : Addr) (xs : List V) : Prop := ∃ o : Obj, o.dict = none ∧ H a = some (.frz o (.tup xs))
/-- p is fresh; there a tuple of xs is laid -/
def NewT (xs : List V) (H : Hp) (Q : VK) : Prop := ∀ p o, H p = none → o.dict = none → Q (.ref p) (upd H p (.frz o (.tup xs)))
theorem TupAt.sq {K : PySem.W.Frag} {H : Hp} {a : Addr} {xs : List V} (h : TupAt H a xs) : SqT K H a xs := let ⟨o, _, e⟩ := h; .inl (.inr ⟨o, e⟩)
theorem TupAt.ty {K : PySem.W.Frag} {H : Hp} {a : Addr} {xs : List V} (h : TupAt H a xs) : TyX K H (.ref a) (.type "tuple") := let ⟨o, _, e⟩ := h; .fTuple e
theorem TupAt.new {H : Hp} {a : Addr} {xs : List V} {o : Obj} (h : o.dict = none) : TupAt (upd H a (.frz o (.tup xs))) a xs := ⟨o, h, upd_same⟩
section
variable {X : Cx}
/-- what lays it -/
theorem lay_frz {pins : List (Addr × Obj)} {σ : L2.St} {H : Hp} {s : Shared} {h' : Heap} {t' : Nat} {xs : List V} {us : List Value} {Q : VK} (I : Inv X pins σ H { s with heap := h', toks := t' }) (r : Vals xs us) (hz : xs.length ≤ sizeLine) (q : NewT xs H Q) :
    EP X pins σ Q (.ref h'.objs.size) { s with heap := h'.push { cls := .type "tuple", data := .seq us.toArray }, toks := t' } := by
  have hf : H h'.objs.size = none := I.hok.fresh (Nat.le_refl _)
  have hg : (h'.push { cls := .type "tuple", data := .seq us.toArray }).get? h'.objs.size = some { cls := .type "tuple", data := .seq us.toArray } := Heap.get?_push_size _ rfl
  exact ⟨.ref h'.objs.size, _, I.laid (t' := t') (o := .frz { cls := .type "tuple", data := .seq us.toArray } (.tup xs)) (fun b u e => Heap.get?_push_of_some _ e) (Nat.le_refl _)
    ⟨hg, ⟨hz, us, r, ⟨_, hg, rfl, _, rfl⟩⟩⟩, rfl, q _ _ hf rfl⟩
def tTupF (t : TA) : TE := fun σ H Q => t σ H fun xs H1 => xs.length ≤ sizeLine ∧ NewT xs H1 Q
theorem pe_tupF {x1} {es : List Expr} {t : TA} {pos : Pos} (h : PA X es t) : PE X (.Tuple es x1 pos) (tTupF t) := by
  constructor
  intro pins s σ H Q I hq
  refine wpAny_Tuple_spliced (thn (h.run pos pins s σ H _ I hq) fun us s1 z1 => ?_)
  obtain ⟨xs, H1, I1, r, z, q⟩ := z1
  exact ⟨by rw [← r.length]; exact z, lay_frz (t' := s1.toks) I1 r z q⟩
/-- tuple(xs) -/
def rTupF (K : PySem.W.Frag) : List V → Hp → VK → Prop := fun xs H Q => ∃ p ys, xs = [.ref p] ∧ ((SqL K H p ys ∧ NewT ys H Q) ∨ (SqT K H p ys ∧ Q (.ref p) H))
theorem call_tupF : CallR X (.type "tuple") (rTupF X.K) := by
  intro pins s σ H xs us Q I r h
  obtain ⟨p, ys, rfl, h⟩ := h
  obtain ⟨u, rfl, rx⟩ := vals1 r
  cases rx
  rcases h with ⟨hq, q⟩ | ⟨hq, q⟩
  · obtain ⟨its, r', pl, hz⟩ := I.list hq
    have hlen := r'.length
    exact call_tuple_list pl.isList (fun h' kp => lay_frz (t' := s.toks) (s := s) (I.kept kp) r' hz q) (by simp only [List.size_toArray] <;> omega)
  · obtain ⟨its, r', pl, hz⟩ := I.tuple hq
    exact call_tuple_same pl ⟨.ref p, H, I, rfl, q⟩
theorem callTupF {K : PySem.W.Frag} (h : X.K = K) : CallR X (.type "tuple") (rTupF K) := by
  rw [← h]
  exact call_tupF
/-- tuple(range(..)) -/
def tTupRgF (te : L2.St → Hp → (Int → Int → Hp → Prop) → Prop) : TE := fun σ H Q => te σ H fun a b H1 => RgOk a b ∧ NewT (rgV a b) H1 Q
theorem pe_tupRgF {e : Expr} {te : L2.St → Hp → (Int → Int → Hp → Prop) → Prop} {p pos : Pos} (hc : X.calm = true) (hg : Gl X "tuple") (hm : X.mg "tuple" = none) (he : PRg X e te) (na : starEach [e] X.env = (false, eval e X.env) :: starEach [] X.env := by rfl) :
    PE X (.Call (.Name "tuple" p) [e] [] pos) (tTupRgF te) := by
  constructor
  intro pins s σ H Q I h
  refine Call_ (ld_blt I hg hm boot_tuple (PyProof.Rows.callWith_type1 (args_cons (thn (he pins s σ H _ I h) fun x s1 z1 => args_nil ?_) na) na))
  obtain ⟨r, a, b, t, u, v, H1, ex, hr, I1, ok, q⟩ := z1
  subst ex
  obtain ⟨b1, b2, b3, b4, b5⟩ := ok
  refine call_tuple_range (n := (b - a).toNat) (I1.ok.hd hc) hr (small_one b1 b2 b3 b4) (rangeSize_nat a b) b5 fun h' tk acc hk hi => ?_
  have g := lay_frz (t' := tk) (h' := h') (s := s1) (us := acc.toList) (I1.kept hk) (vals_rg hi) (by rw [rgV_length, sizeLine_eq]; omega) q
  rw [Array.toArray_toList] at g
  exact g
/-- t + u -/
def rCatF (K : PySem.W.Frag) : R2 := fun x y H Q => ∃ a b xs ys, x = .ref a ∧ y = .ref b ∧ SqT K H a xs ∧ SqT K H b ys ∧ xs.length + ys.length ≤ sizeLine ∧
  (xs = [] → Q (.ref b) H) ∧ (xs ≠ [] → ys = [] → Q (.ref a) H) ∧ (xs ≠ [] → ys ≠ [] → NewT (xs ++ ys) H Q)
theorem op_catF : OpR X (binaryOp .Add) (rCatF X.K) := by
  intro pins s σ H x y v u Q I rx ry h
  obtain ⟨a, b, xs, ys, rfl, rfl, ha, hb, hz, q0, q1, q2⟩ := h
  cases rx
  cases ry
  obtain ⟨its, r1, p1, _⟩ := I.tuple ha
  obtain ⟨its2, r2, p2, _⟩ := I.tuple hb
  by_cases hx : xs = []
  · obtain rfl := r1.nil_iff.mpr hx
    exact cat_tup0 p1 p2 ⟨.ref b, H, I, rfl, q0 hx⟩
  · have hx1 : its ≠ [] := fun z => hx (r1.nil_iff.mp z)
    refine HT.cat_tup p1 p2 hx1 (fun z => ⟨.ref a, H, I, rfl, q1 hx (r2.nil_iff.mp z)⟩) (fun z => ?_) (by rw [← r1.length, ← r2.length]; exact hz)
    exact lay_frz (h' := s.heap) (t' := s.toks) (s := s) I (r1.append r2) (by rw [List.length_append]; exact hz) (q2 hx fun w => z (r2.nil_iff.mpr w))
theorem opCatF {K : PySem.W.Frag} (h : X.K = K) : OpR X (binaryOp .Add) (rCatF K) := by
  rw [← h]
  exact op_catF
/-- t * k -/
def rRepF (K : PySem.W.Frag) : R2 := fun x y H Q => ∃ l k xs, x = .ref l ∧ y = .int k ∧ SqT K H l xs ∧ xs ≠ [] ∧ 2 ≤ k ∧ k ≤ 1000 ∧ xs.length ≤ 1000 ∧ NewT (List.replicate k.toNat xs).flatten H Q
theorem op_repF : OpR X (binaryOp .Mult) (rRepF X.K) := by
  intro pins s σ H x y v u Q I rx ry h
  obtain ⟨l, k, xs, rfl, rfl, hT, hne, h1, h2, hz, q⟩ := h
  cases rx
  obtain ⟨t, rfl⟩ := ry
  obtain ⟨its, r, ⟨⟨cls, dd, data, sl⟩, ho, hc, n, hd⟩, hs⟩ := I.tuple hT
  simp only at hc hd
  subst hc
  subst hd
  have le1 : its.length = xs.length := r.length.symm
  have ne1 : its ≠ [] := fun z => hne (r.nil_iff.mp z)
  have em : its.toArray.isEmpty = false := by
    cases its with
    | nil => exact absurd rfl ne1
    | cons y ys => rfl
  have sz1 : its.toArray.size = xs.length := by rw [List.size_toArray, le1]
  have small : ((its.toArray.size : Nat) : Int) * k ≤ 1000000 := by
    rw [sz1]
    have m1 : ((xs.length : Nat) : Int) * k ≤ 1000 * k := Int.mul_le_mul_of_nonneg_right (by omega) (by omega)
    omega
  have few : k.toNat * xs.length ≤ 1000 * 1000 := Nat.mul_le_mul (by omega) hz
  have fl : (List.replicate k.toNat its).flatten.length ≤ sizeLine := by
    rw [PyProof.Rows.lm_len_rep_flat, le1, sizeLine_eq]
    omega
  have c0 : (decide (k < -(2 ^ 63)) || decide (k ≥ 2 ^ 63)) = false := by
    rw [decide_eq_false (show ¬ (k < -(2 ^ 63)) by omega), decide_eq_false (show ¬ (k ≥ 2 ^ 63) by omega), Bool.or_false]
  have c1 : (its.toArray.isEmpty || k == 1) = false := by
    rw [em]
    exact beq_eq_false_iff_ne.mpr (show k ≠ 1 by omega)
  have c2 : (decide (k ≤ 0) || its.toArray.isEmpty) = false := by
    rw [em, decide_eq_false (show ¬ (k ≤ 0) by omega), Bool.or_false]
  have c4 : Builtin.Tuple.tupleTooMany (((its.toArray.size : Nat) : Int) * k) = false := by
    unfold Builtin.Tuple.tupleTooMany
    rw [sizeLine_eq]
    exact decide_eq_false (by omega)
  have body := tuple_mulW l its.toArray n dd sl k t c0 c1 c2 (by omega) c4 (by rw [size_rep, List.size_toArray]; exact fl)
  have tyl : s.TypeIs (.ref l) "tuple" := ⟨_, ho, rfl⟩
  have ends : EP X pins σ Q (.ref s.heap.objs.size) { s with heap := s.heap.push { cls := Value.type "tuple", data := Data.seq (List.foldl (fun x1 x2 => x1 ++ x2) #[] (List.replicate k.toNat its.toArray)) }, toks := s.toks } := by
    rw [size_rep]
    exact lay_frz (h' := s.heap) (t' := s.toks) (s := s) I (r.rep k.toNat) (by rw [PyProof.Rows.lm_len_rep_flat, sizeLine_eq]; omega) q
  refine wpAny_binaryOp_repeat_ref (T := "tuple") (U := "int") (by decide) tyl (fun s' => typeIs_int s' k t) noFill_tuple_mul F.fills_int_mul F.slot_int_rmul repeat_tuple F.slot_int_index.lookup ?_
  refine call_meets F.slot_int_rmul (typeIs_int s k t) F.entry_int_rmul (F.args_int_rmul_2 _ _) (int_rmul_tuple k t l its.toArray n dd sl) ⟨ho, rfl, tyl, ?_⟩
  exact call_meets PySem.F.slot_tuple_mul tyl PySem.F.entry_tuple_mul (PySem.F.args_tuple_mul_2 _ _) body ⟨ho, ends⟩
/-! ### t.index(k) -/
def tTIx (r : V → List V → Hp → VK → Prop) (to : TE) (t : TA) : TE := fun σ H Q => to σ H fun x H1 => (∃ a xs, x = .ref a ∧ TupAt H1 a xs) ∧ t σ H1 fun ys H2 => r x ys H2 Q
theorem pe_bmT {o e : Expr} {to : TE} {t : TA} {name : Str} {apos cpos : Pos} {id : String} {r : V → List V → Hp → VK → Prop} (pa : PlainAttrs "tuple") (slot : Slot "tuple" name id) (hty : typeOf (.builtin id) = pure (.type "method_descriptor")) (hm : MtR X id r) (ho : PE X o to) (ha : PA X [e] t)
    (hbase : attributeBase o name X.env (eval o X.env) = eval o X.env := by rfl)
    (hfew : ((backTo cpos (starEach [e] X.env)).all (fun x => !x.1) && (backToKw cpos (keywordEach [] X.env)).all (fun x => x.1.isSome)
      && decide ([e].length + ([] : List Keyword).length + (if ([] : List Keyword).isEmpty then 0 else 1) < 30)) = true := by rfl)
    (hline : (apos.endLine == cpos.line) = true := by rfl) (hs : starEach [e] X.env = (false, eval e X.env) :: starEach [] X.env := by rfl) (hplain : (backTo cpos (starEach [] X.env)).any (·.1) = false := by rfl) :
    PE X (.Call (.Attribute o name apos) [e] [] cpos) (tTIx r to t) := by
  constructor
  intro pins s σ H Q I h
  refine wpAny_Call_method_late hbase hfew hline rfl (thn (ho.run pins s σ H _ I h) fun v s1 z1 => ?_)
  obtain ⟨x, H1, I1, r1, ⟨a, xs, rfl, ob, hdict, hH⟩, q1⟩ := z1
  cases r1
  obtain ⟨he, _, _, _, ⟨o2, e2, c2, _⟩⟩ := (show ObjOk X.prog X.w H1 s1.heap a (.frz ob (.tup xs)) from I1.hok a _ hH)
  refine ⟨"tuple", id, pa, slot, hty, ⟨o2, e2, c2⟩, fun b z => ?_, ?_⟩
  · cases z
    exact ⟨ob, he, hdict⟩
  · have hA := ha.run cpos pins s1 σ H1 _ I1 q1
    rw [hs] at hA ⊢
    refine Calls.callWith_builtin (by show (false || (backTo cpos (starEach [] X.env)).any (·.1)) = false; rw [hplain, Bool.or_false]) (Calls.evalArgs_plain ?_)
    exact thn hA fun us s2 z2 => let ⟨vs, H2, I2, r2, q2⟩ := z2; hm pins s2 σ H2 (.ref a) vs (.ref a) us Q I2 rfl r2 q2
end
end K57
set_option Elab.async false
set_option linter.all false
set_option maxRecDepth 100000
set_option maxHeartbeats 4000000
/-! data that never changes: numbers, texts, tuples of such; what a reading evaluates to, told as data -/
namespace K57
open PySem PySem.Spec PyProof.Rows L2 Evl

mutual
/-- v stands for the datum d, made of tuples that H holds -/
inductive TD (H : Hp) : V → PyData → Prop
  | non : TD H .non .none
  | bl (b : Bool) : TD H (.bl b) (.bool b)
  | int (i : Int) : TD H (.int i) (.int i)
  | str (x : Str) : TD H (.str x) (.str x)
  | tup {a : Addr} {xs : List V} {ds : List PyData} : TupAt H a xs → TDs H xs ds → TD H (.ref a) (.tuple ds)
inductive TDs (H : Hp) : List V → List PyData → Prop
  | nil : TDs H [] []
  | cons {v : V} {vs : List V} {d : PyData} {ds : List PyData} : TD H v d → TDs H vs ds → TDs H (v :: vs) (d :: ds)
end
/-- the tuples stay -/
def TX (H H' : Hp) : Prop := ∀ a xs, TupAt H a xs → TupAt H' a xs
theorem TX.refl (H : Hp) : TX H H := fun _ _ h => h
theorem TX.trans {H H1 H2 : Hp} (a : TX H H1) (b : TX H1 H2) : TX H H2 := fun x xs h => b x xs (a x xs h)
theorem TupAt.mono {H H' : Hp} {a : Addr} {xs : List V} (h : TupAt H a xs) (e : Ex H H') : TupAt H' a xs := let ⟨o, h1, h2⟩ := h; ⟨o, h1, e a _ h2⟩
theorem ex_tx {H H' : Hp} (e : Ex H H') : TX H H' := fun _ _ h => h.mono e
theorem tx_upd {H H' : Hp} {l : Addr} {o u : HO} (e : TX H H') (hl : H' l = some u) (hu : ∀ b v, u ≠ .frz b v) : TX H (upd H' l o) := fun a xs h => by
  obtain ⟨b, h1, h2⟩ := e a xs h
  refine ⟨b, h1, ?_⟩
  rw [upd_ne]
  · exact h2
  · intro z
    rw [z, hl] at h2
    exact hu _ _ (Option.some.inj h2)
theorem tx_lst {H H' : Hp} {l : Addr} {ys : List V} {o : HO} (e : TX H H') (hl : H' l = some (.lst ys)) : TX H (upd H' l o) := tx_upd e hl fun _ _ h => by cases h
theorem tx_dK {H H' : Hp} {l : Addr} {ys : List (Key × V)} {o : HO} (e : TX H H') (hl : H' l = some (.dK ys)) : TX H (upd H' l o) := tx_upd e hl fun _ _ h => by cases h
mutual
theorem TD.mono {H H' : Hp} (e : TX H H') : ∀ {v : V} {d : PyData}, TD H v d → TD H' v d
  | _, _, .non => .non
  | _, _, .bl b => .bl b
  | _, _, .int i => .int i
  | _, _, .str x => .str x
  | _, _, .tup h t => .tup (e _ _ h) (TDs.mono e t)
theorem TDs.mono {H H' : Hp} (e : TX H H') : ∀ {vs : List V} {ds : List PyData}, TDs H vs ds → TDs H' vs ds
  | _, _, .nil => .nil
  | _, _, .cons h t => .cons (TD.mono e h) (TDs.mono e t)
end
section
variable {H H' : Hp} {v : V} {vs : List V} {d : PyData} {ds : List PyData} {ns : List Int} {i : Int}
theorem TD.int_inv (h : TD H v (.int i)) : v = .int i := by cases h; rfl
theorem TD.bl_inv {b : Bool} (h : TD H v (.bool b)) : v = .bl b := by cases h; rfl
theorem TD.str_inv {x : Str} (h : TD H v (.str x)) : v = .str x := by cases h; rfl
theorem TD.non_inv (h : TD H v .none) : v = .non := by cases h; rfl
theorem TD.tup_inv (h : TD H v (.tuple ds)) : ∃ a xs, v = .ref a ∧ TupAt H a xs ∧ TDs H xs ds := by cases h with | tup h t => exact ⟨_, _, rfl, h, t⟩
theorem TDs.length : ∀ {vs : List V} {ds : List PyData}, TDs H vs ds → vs.length = ds.length
  | _, _, .nil => rfl
  | _, _, .cons _ t => congrArg (· + 1) (TDs.length t)
theorem TDs.get : ∀ {vs : List V} {ds : List PyData}, TDs H vs ds → ∀ {j : Nat} {d : PyData}, ds[j]? = some d → ∃ v, vs[j]? = some v ∧ TD H v d
  | _, _, .nil, _, _, h => by simp at h
  | _, _, .cons h _, 0, d, e => ⟨_, rfl, by
    have e2 := Option.some.inj e
    rw [← e2]
    exact h⟩
  | _, _, .cons _ t, j + 1, d, e => TDs.get t (j := j) e
theorem TDs.getV : ∀ {vs : List V} {ds : List PyData}, TDs H vs ds → ∀ {j : Nat} {v : V}, vs[j]? = some v → ∃ d, ds[j]? = some d ∧ TD H v d
  | _, _, .nil, _, _, h => by simp at h
  | _, _, .cons h _, 0, d, e => ⟨_, rfl, by
    have e2 := Option.some.inj e
    rw [← e2]
    exact h⟩
  | _, _, .cons _ t, j + 1, d, e => TDs.getV t (j := j) e
theorem TDs.append : ∀ {vs ws : List V} {ds es : List PyData}, TDs H vs ds → TDs H ws es → TDs H (vs ++ ws) (ds ++ es)
  | _, _, _, _, .nil, s => s
  | _, _, _, _, .cons h t, s => .cons h (TDs.append t s)
theorem TDs.one (h : TD H v d) : TDs H [v] [d] := .cons h .nil
theorem TDs.snoc {vs : List V} (h : TDs H vs ds) (q : TD H v d) : TDs H (vs ++ [v]) (ds ++ [d]) := h.append (.one q)
theorem TDs.take : ∀ (n : Nat) {vs : List V} {ds : List PyData}, TDs H vs ds → TDs H (vs.take n) (ds.take n)
  | 0, _, _, _ => by
    rw [List.take_zero, List.take_zero]
    exact .nil
  | _ + 1, _, _, .nil => .nil
  | n + 1, _, _, .cons h t => .cons h (TDs.take n t)
theorem TDs.ints_inv : ∀ {vs : List V} {ns : List Int}, TDs H vs (ns.map PyData.int) → vs = ns.map V.int
  | _, [], .nil => rfl
  | _, n :: ns, .cons h t => by rw [TD.int_inv h, TDs.ints_inv t]; rfl
theorem TDs.ints : ∀ (ns : List Int), TDs H (ns.map V.int) (ns.map PyData.int)
  | [] => .nil
  | n :: ns => .cons (.int n) (TDs.ints ns)
theorem TDs.nil_inv (h : TDs H vs []) : vs = [] := by cases h; rfl
theorem TDs.cons_inv (h : TDs H vs (d :: ds)) : ∃ w ws, vs = w :: ws ∧ TD H w d ∧ TDs H ws ds := by cases h with | cons h t => exact ⟨_, _, rfl, h, t⟩
end
/-- a tuple of ints; of such tuples; a pair of such -/
def dT (ns : List Int) : PyData := .tuple (ns.map .int)
def dLs (ls : List (List Int)) : PyData := .tuple (ls.map dT)
def dPr (p : List Int × List Int) : PyData := .tuple [dT p.1, dT p.2]
section
variable {K : PySem.W.Frag} {H H' : Hp} {v : V} {ns : List Int}
theorem TD.dT_inv (h : TD H v (dT ns)) : ∃ a, v = .ref a ∧ TupAt H a (ns.map V.int) := by
  obtain ⟨a, xs, e, h1, h2⟩ := h.tup_inv
  rw [h2.ints_inv] at h1
  exact ⟨a, e, h1⟩
theorem TD.dT {a : Addr} (h : TupAt H a (ns.map V.int)) : TD H (.ref a) (dT ns) := .tup h (.ints ns)
mutual
theorem TD.dp : ∀ {v : V} {d : PyData}, TD H v d → Dp K H v d
  | _, _, .non => .non
  | _, _, .bl b => .bl b
  | _, _, .int i => .int i
  | _, _, .str x => .str x
  | _, _, .tup h t => .tup h.sq (TDs.dp t)
theorem TDs.dp : ∀ {vs : List V} {ds : List PyData}, TDs H vs ds → DpAll K H vs ds
  | _, _, .nil => .nil
  | _, _, .cons h t => .cons (TD.dp h) (TDs.dp t)
end
end
/-! ### what is promised of a value, of a new list -/
def RetD (d : PyData) (H : Hp) (Q : VK) : Prop := ∀ v H', Ex H H' → TD H' v d → Q v H'
def RetN (ds : List PyData) (H : Hp) (Q : VK) : Prop := ∀ p xs H', H p = none → Ex H H' → H' p = some (.lst xs) → TDs H' xs ds → Q (.ref p) H'
def EvD (te : TE) (σ : L2.St) (H : Hp) (d : PyData) : Prop := ∀ H1, Ex H H1 → ∀ Q, RetD d H1 Q → te σ H1 Q
def EvN (te : TE) (σ : L2.St) (H : Hp) (ds : List PyData) : Prop := ∀ H1, Ex H H1 → ∀ Q, RetN ds H1 Q → te σ H1 Q
def EvAD (ta : TA) (σ : L2.St) (H : Hp) (ds : List PyData) : Prop := ∀ H1, Ex H H1 → ∀ Q : List V → Hp → Prop, (∀ vs H2, Ex H1 H2 → TDs H2 vs ds → Q vs H2) → ta σ H1 Q
/-- a list that stands, told as data -/
def LD (H : Hp) (a : Addr) (ds : List PyData) : Prop := ∃ xs, H a = some (.lst xs) ∧ TDs H xs ds
section
variable {K : PySem.W.Frag} {σ : L2.St} {H H' : Hp} {ta tb te tx : TE} {t u : TT} {x y z v : V} {r : R2} {d e : PyData} {ds es : List PyData} {i j : Int} {b : Bool}
theorem LD.mono {a : Addr} (h : LD H a ds) (e : Ex H H') : LD H' a ds := let ⟨xs, h1, h2⟩ := h; ⟨xs, e a _ h1, h2.mono (ex_tx e)⟩
theorem RetD.mono {Q : VK} (k : RetD d H Q) (e : Ex H H') : RetD d H' Q := fun v H2 e2 h => k v H2 (e.trans e2) h
theorem RetN.mono {Q : VK} (k : RetN ds H Q) (e : Ex H H') : RetN ds H' Q := fun p xs H2 hp e2 h t => k p xs H2 (fresh_back e hp) (e.trans e2) h t
theorem RetD.go {Q : VK} (k : RetD d H Q) (e : Ex H H') (h : TD H' v d) : Q v H' := k v H' e h
theorem EvD.mono (h : EvD te σ H d) (e : Ex H H') : EvD te σ H' d := fun H1 a Q q => h H1 (e.trans a) Q q
theorem EvN.mono (h : EvN te σ H ds) (e : Ex H H') : EvN te σ H' ds := fun H1 a Q q => h H1 (e.trans a) Q q
theorem EvAD.mono {ta : TA} (h : EvAD ta σ H ds) (e : Ex H H') : EvAD ta σ H' ds := fun H1 a Q q => h H1 (e.trans a) Q q
theorem evd_of (h : Ev te σ H v) (k : TD H v d) : EvD te σ H d := fun H1 e Q q => h H1 e Q fun H2 e2 => q v H2 e2 (k.mono (ex_tx (e.trans e2)))
theorem evd_var {n : Nat} (h : σ[n]? = some (some v)) (k : TD H v d) : EvD (tVar n) σ H d := evd_of (ev_var h) k
theorem evd_i (h : Ev te σ H (.int i)) : EvD te σ H (.int i) := evd_of h (.int i)
theorem ev_i (h : EvD te σ H (.int i)) : Ev te σ H (.int i) := fun H1 e Q q => h H1 e Q fun v H2 e2 k => by rw [k.int_inv]; exact q H2 e2
theorem ev_b (h : EvD te σ H (.bool b)) : Ev te σ H (.bl b) := fun H1 e Q q => h H1 e Q fun v H2 e2 k => by rw [k.bl_inv]; exact q H2 e2
theorem ev_s {x : Str} (h : EvD te σ H (.str x)) : Ev te σ H (.str x) := fun H1 e Q q => h H1 e Q fun v H2 e2 k => by rw [k.str_inv]; exact q H2 e2
theorem ead_nil : EvAD tNil σ H [] := fun H1 _ _ q => q [] H1 (Ex.refl H1) .nil
theorem ead_cons {tr : TA} (h : EvD te σ H d) (hr : EvAD tr σ H ds) : EvAD (tCons te tr) σ H (d :: ds) := fun H1 e Q q =>
  h H1 e _ fun v H2 e2 k => hr H2 (e.trans e2) _ fun vs H3 e3 ks => q _ H3 (e2.trans e3) (.cons (k.mono (ex_tx e3)) ks)
theorem evd_tup {ta : TA} (h : EvAD ta σ H ds) (hl : ds.length ≤ 1000) : EvD (tTupF ta) σ H (.tuple ds) := fun H1 e Q q =>
  h H1 e _ fun vs H2 e2 ks => ⟨sz_of (by rw [ks.length]; omega), fun p o hp ho => q _ _ (e2.trans (Ex.new hp)) (.tup (.new ho) (ks.mono (ex_tx (Ex.new hp))))⟩
theorem evn_lst {ta : TA} (h : EvAD ta σ H ds) (hl : ds.length ≤ 1000) : EvN (tLst ta) σ H ds := fun H1 e Q q =>
  h H1 e _ fun vs H2 e2 ks => ⟨sz_of (by rw [ks.length]; omega), fun p hp => q p vs _ (fresh_back e2 hp) (e2.trans (Ex.new hp)) upd_same (ks.mono (ex_tx (Ex.new hp)))⟩
theorem at_td {vs : List V} (ks : TDs H vs ds) (h : atI ds i = some d) : ∃ v, atI vs i = some v ∧ TD H v d := by
  unfold atI at h ⊢
  rw [ks.length]
  cases e : ixN ds.length i with
  | none => rw [e] at h; cases h
  | some j =>
    rw [e] at h
    exact ks.get h
theorem evd_ixT (h : EvD ta σ H (.tuple ds)) (hi : Ev tb σ H (.int i)) (hd : atI ds i = some d) : EvD (tOp (rIxT K) ta tb) σ H d := fun H1 e Q q =>
  h H1 e _ fun v H2 e2 k => hi H2 (e.trans e2) _ fun H3 e3 => by
    obtain ⟨a, xs, rfl, h1, h2⟩ := (k.mono (ex_tx e3)).tup_inv
    obtain ⟨w, h3, h4⟩ := at_td h2 hd
    exact ⟨a, xs, i, w, rfl, rfl, h1.sq, h3, q w H3 (e2.trans e3) h4⟩
theorem evd_ixL {a : Addr} (h : Ev ta σ H (.ref a)) (hl : LD H a ds) (hi : Ev tb σ H (.int i)) (hd : atI ds i = some d) : EvD (tOp (rIxL K) ta tb) σ H d := fun H1 e Q q =>
  h H1 e _ fun H2 e2 => hi H2 (e.trans e2) _ fun H3 e3 => by
    obtain ⟨xs, h1, h2⟩ := hl.mono ((e.trans e2).trans e3)
    obtain ⟨w, h3, h4⟩ := at_td h2 hd
    exact ⟨a, xs, i, w, rfl, rfl, SqL.of h1, h3, q w H3 (e2.trans e3) h4⟩
/-- .. of a new list -/
theorem evd_ixN (h : EvN ta σ H ds) (hi : ∀ H', Ex H H' → Ev tb σ H' (.int i)) (hd : atI ds i = some d) : EvD (tOp (rIxL K) ta tb) σ H d := fun H1 e Q q =>
  h H1 e _ fun p xs H2 hp e2 h1 h2 => hi H2 (e.trans e2) H2 (Ex.refl H2) _ fun H3 e3 => by
    obtain ⟨w, h3, h4⟩ := at_td (h2.mono (ex_tx e3)) hd
    exact ⟨p, xs, i, w, rfl, rfl, SqL.of (e3 p _ h1), h3, q w H3 (e2.trans e3) h4⟩
theorem ev_ixTi {ns : List Int} {n : Int} (h : EvD ta σ H (dT ns)) (hi : Ev tb σ H (.int i)) (hd : atI ns i = some n) : Ev (tOp (rIxT K) ta tb) σ H (.int n) :=
  ev_i (evd_ixT h hi (by
    unfold atI at hd ⊢
    rw [List.length_map]
    cases e : ixN ns.length i with
    | none => rw [e] at hd; cases hd
    | some j =>
      rw [e] at hd
      have hd2 : ns[j]? = some n := hd
      show (ns.map PyData.int)[j]? = _
      rw [List.getElem?_map, hd2] <;> rfl))
theorem ev_lenT {ns : List PyData} (h : EvD ta σ H (.tuple ns)) : Ev (tCB (fun xs H Q => ∃ p ys, xs = [.ref p] ∧ (SqL K H p ys ∨ SqT K H p ys) ∧ Q (.int ys.length) H) (tCons ta tNil)) σ H (.int (ns.length : Int)) := fun H1 e Q q =>
  h H1 e _ fun v H2 e2 k => by
    obtain ⟨a, xs, rfl, h1, h2⟩ := k.tup_inv
    have g := q H2 e2
    rw [← h2.length] at g
    exact ⟨a, xs, rfl, Or.inr h1.sq, g⟩
theorem ev_lenL {a : Addr} (h : Ev ta σ H (.ref a)) (hl : LD H a ds) : Ev (tCB (fun xs H Q => ∃ p ys, xs = [.ref p] ∧ (SqL K H p ys ∨ SqT K H p ys) ∧ Q (.int ys.length) H) (tCons ta tNil)) σ H (.int (ds.length : Int)) := fun H1 e Q q =>
  h H1 e _ fun H2 e2 => by
    obtain ⟨xs, h1, h2⟩ := hl.mono (e.trans e2)
    have g := q H2 e2
    rw [← h2.length] at g
    exact ⟨a, xs, rfl, Or.inl (SqL.of h1), g⟩
theorem ev_lenN (h : EvN ta σ H ds) : Ev (tCB (fun xs H Q => ∃ p ys, xs = [.ref p] ∧ (SqL K H p ys ∨ SqT K H p ys) ∧ Q (.int ys.length) H) (tCons ta tNil)) σ H (.int (ds.length : Int)) := fun H1 e Q q =>
  h H1 e _ fun p xs H2 hp e2 h1 h2 => by
    have g := q H2 e2
    rw [← h2.length] at g
    exact ⟨p, xs, rfl, Or.inl (SqL.of h1), g⟩
/-- data compared -/
theorem ev_eqD (h1 : EvD ta σ H d) (h2 : EvD tb σ H e) (s1 : SeqAt.shaped d = true) (s2 : SeqAt.shaped e = true) : Ev (tOp (rEqD K) ta tb) σ H (.bl (PyData.eqv d e)) := fun H1 a Q q =>
  h1 H1 a _ fun v H2 e2 k => h2 H2 (a.trans e2) _ fun w H3 e3 k2 => ⟨d, e, (k.mono (ex_tx e3)).dp, k2.dp, s1, s2, q H3 (e2.trans e3)⟩
theorem ev_neD (h1 : EvD ta σ H d) (h2 : EvD tb σ H e) (s1 : SeqAt.shaped d = true) (s2 : SeqAt.shaped e = true) : Ev (tOp (rNeD K) ta tb) σ H (.bl (!PyData.eqv d e)) := fun H1 a Q q =>
  h1 H1 a _ fun v H2 e2 k => h2 H2 (a.trans e2) _ fun w H3 e3 k2 => ⟨d, e, (k.mono (ex_tx e3)).dp, k2.dp, s1, s2, q H3 (e2.trans e3)⟩
theorem ld_dp {a : Addr} (h : LD H a ds) : Dp K H (.ref a) (.list ds) := let ⟨xs, h1, h2⟩ := h; .lst (SqL.of h1) h2.dp
/-- a list and a new list compared -/
theorem ev_neLN {a : Addr} (h1 : Ev ta σ H (.ref a)) (hl : LD H a ds) (h2 : EvN tb σ H es) (s1 : SeqAt.shaped (.list ds) = true) (s2 : SeqAt.shaped (.list es) = true) : Ev (tOp (rNeD K) ta tb) σ H (.bl (!PyData.eqv (.list ds) (.list es))) := fun H1 e Q q =>
  h1 H1 e _ fun H2 e2 => h2 H2 (e.trans e2) _ fun p xs H3 hp e3 k1 k2 => ⟨_, _, ld_dp (hl.mono ((e.trans e2).trans e3)), .lst (SqL.of k1) k2.dp, s1, s2, q H3 (e2.trans e3)⟩
theorem ev_eqLN {a : Addr} (h1 : Ev ta σ H (.ref a)) (hl : LD H a ds) (h2 : EvN tb σ H es) (s1 : SeqAt.shaped (.list ds) = true) (s2 : SeqAt.shaped (.list es) = true) : Ev (tOp (rEqD K) ta tb) σ H (.bl (PyData.eqv (.list ds) (.list es))) := fun H1 e Q q =>
  h1 H1 e _ fun H2 e2 => h2 H2 (e.trans e2) _ fun p xs H3 hp e3 k1 k2 => ⟨_, _, ld_dp (hl.mono ((e.trans e2).trans e3)), .lst (SqL.of k1) k2.dp, s1, s2, q H3 (e2.trans e3)⟩
theorem ev_eqNN (h1 : EvN ta σ H ds) (h2 : EvN tb σ H es) (s1 : SeqAt.shaped (.list ds) = true) (s2 : SeqAt.shaped (.list es) = true) : Ev (tOp (rEqD K) ta tb) σ H (.bl (PyData.eqv (.list ds) (.list es))) := fun H1 e Q q =>
  h1 H1 e _ fun p xs H2 hp e2 k1 k2 => h2 H2 (e.trans e2) _ fun p' ys H3 hp' e3 k3 k4 => ⟨_, _, .lst (SqL.of (e3 p _ k1)) (k2.mono (ex_tx e3)).dp, .lst (SqL.of k3) k4.dp, s1, s2, q H3 (e2.trans e3)⟩
theorem ev_neNN (h1 : EvN ta σ H ds) (h2 : EvN tb σ H es) (s1 : SeqAt.shaped (.list ds) = true) (s2 : SeqAt.shaped (.list es) = true) : Ev (tOp (rNeD K) ta tb) σ H (.bl (!PyData.eqv (.list ds) (.list es))) := fun H1 e Q q =>
  h1 H1 e _ fun p xs H2 hp e2 k1 k2 => h2 H2 (e.trans e2) _ fun p' ys H3 hp' e3 k3 k4 => ⟨_, _, .lst (SqL.of (e3 p _ k1)) (k2.mono (ex_tx e3)).dp, .lst (SqL.of k3) k4.dp, s1, s2, q H3 (e2.trans e3)⟩
theorem ev_inLD {a : Addr} (h1 : EvD ta σ H d) (h2 : Ev tb σ H (.ref a)) (hl : LD H a ds) (s1 : SeqAt.shaped d = true) (s2 : SeqAt.shaped (.list ds) = true) : Ev (tOp (rInD K) ta tb) σ H (.bl (ds.any fun z => PyData.eqv z d)) := fun H1 e Q q =>
  h1 H1 e _ fun v H2 e2 k => h2 H2 (e.trans e2) _ fun H3 e3 => ⟨d, ds, (k.mono (ex_tx e3)).dp, ld_dp (hl.mono ((e.trans e2).trans e3)), s1, s2, q H3 (e2.trans e3)⟩
theorem ev_inND (h1 : EvD ta σ H d) (h2 : EvN tb σ H ds) (s1 : SeqAt.shaped d = true) (s2 : SeqAt.shaped (.list ds) = true) : Ev (tOp (rInD K) ta tb) σ H (.bl (ds.any fun z => PyData.eqv z d)) := fun H1 e Q q =>
  h1 H1 e _ fun v H2 e2 k => h2 H2 (e.trans e2) _ fun p xs H3 hp e3 k1 k2 => ⟨d, ds, (k.mono (ex_tx e3)).dp, .lst (SqL.of k1) k2.dp, s1, s2, q H3 (e2.trans e3)⟩
theorem ev_niLD {a : Addr} (h1 : EvD ta σ H d) (h2 : Ev tb σ H (.ref a)) (hl : LD H a ds) (s1 : SeqAt.shaped d = true) (s2 : SeqAt.shaped (.list ds) = true) : Ev (tOp (rNotInD K) ta tb) σ H (.bl (!ds.any fun z => PyData.eqv z d)) := fun H1 e Q q =>
  h1 H1 e _ fun v H2 e2 k => h2 H2 (e.trans e2) _ fun H3 e3 => ⟨d, ds, (k.mono (ex_tx e3)).dp, ld_dp (hl.mono ((e.trans e2).trans e3)), s1, s2, q H3 (e2.trans e3)⟩
theorem ev_niND (h1 : EvD ta σ H d) (h2 : EvN tb σ H ds) (s1 : SeqAt.shaped d = true) (s2 : SeqAt.shaped (.list ds) = true) : Ev (tOp (rNotInD K) ta tb) σ H (.bl (!ds.any fun z => PyData.eqv z d)) := fun H1 e Q q =>
  h1 H1 e _ fun v H2 e2 k => h2 H2 (e.trans e2) _ fun p xs H3 hp e3 k1 k2 => ⟨d, ds, (k.mono (ex_tx e3)).dp, .lst (SqL.of k1) k2.dp, s1, s2, q H3 (e2.trans e3)⟩
/-- calls -/
theorem evd_call {sp : Sp} {dvs : List V} {E : XK} {ta : TA} (h : EvAD ta σ H ds) (hs : ∀ vs H', Ex H H' → TDs H' vs ds → ∀ Q E, RetD d H' Q → sp (vs ++ dvs) H' Q E) : EvD (tCall sp dvs E ta) σ H d := fun H1 e Q q =>
  h H1 e _ fun vs H2 e2 ks => hs vs H2 (e.trans e2) ks Q E (q.mono e2)
theorem evn_call {sp : Sp} {dvs : List V} {E : XK} {ta : TA} (h : EvAD ta σ H ds) (hs : ∀ vs H', Ex H H' → TDs H' vs ds → ∀ Q E, RetN es H' Q → sp (vs ++ dvs) H' Q E) : EvN (tCall sp dvs E ta) σ H es := fun H1 e Q q =>
  h H1 e _ fun vs H2 e2 ks => hs vs H2 (e.trans e2) ks Q E (q.mono e2)
/-- one way or the other -/
theorem evd_if {b : Bool} (h : EvT t σ H b) (h1 : b = true → EvD ta σ H d) (h2 : b = false → EvD tb σ H d) : EvD (tIf t ta tb) σ H d := fun H1 e Q q => h H1 e _ fun H2 e2 => by
  cases b with
  | true =>
    show ta σ H2 Q
    exact h1 rfl H2 (e.trans e2) Q (q.mono e2)
  | false =>
    show tb σ H2 Q
    exact h2 rfl H2 (e.trans e2) Q (q.mono e2)
theorem evn_if {b : Bool} (h : EvT t σ H b) (h1 : b = true → EvN ta σ H ds) (h2 : b = false → EvN tb σ H ds) : EvN (tIf t ta tb) σ H ds := fun H1 e Q q => h H1 e _ fun H2 e2 => by
  cases b with
  | true =>
    show ta σ H2 Q
    exact h1 rfl H2 (e.trans e2) Q (q.mono e2)
  | false =>
    show tb σ H2 Q
    exact h2 rfl H2 (e.trans e2) Q (q.mono e2)
theorem evd_is (h : EvD te σ H d) (e : d = d') : EvD te σ H d' := e ▸ h
theorem evn_is (h : EvN te σ H ds) (e : ds = es) : EvN te σ H es := e ▸ h
end
end K57
set_option maxRecDepth 100000
/-! the finite side: displacements of rings of 3 to 6 people, in plain Lean -/
namespace R57
/-- l[i] for 0 ≤ i -/
def gi (l : List Int) (i : Int) : Int := l.getD i.toNat 0
/-- range(a, b) -/
def rng (a b : Int) : List Int := (List.range (b - a).toNat).map fun i : Nat => a + (i : Int)
/-- the first place of x -/
def idx (l : List Int) (x : Int) : Int := ((l.idxOf x : Nat) : Int)
/-- l[i] = v -/
def si (l : List Int) (i : Int) (v : Int) : List Int := l.set i.toNat v
/-- the end of a copy -/
def endC (d : List Int) (u : Int) : Int := u + gi d (u % (d.length : Int))
/-- the greater copies with lesser ends, up to a bound -/
def laterB (d : List Int) (u hi : Int) : List Int := (rng (u + 1) hi).filter fun z => decide (endC d z < endC d u)
def laterP (d : List Int) (u : Int) : List Int := laterB d u (u + 2 * (d.length : Int) - 1)
def laterL (d : List Int) (u : Int) : List Int := laterB d u (u + 2 * (d.length : Int) + 2)
def invs (d : List Int) : List (Int × Int) := (rng 0 (d.length : Int)).flatMap fun x => (laterP d x).map fun z => (x, z)
def tripleOf (d : List Int) (p : Int × Int) : Option (Int × Int × Int) := (laterP d p.2).head?.map fun z => (p.1, p.2, z)
def triple? (d : List Int) : Option (Int × Int × Int) := (invs d).findSome? (tripleOf d)
/-- the place of a ring inversion -/
def placeC (d : List Int) (x z : Int) : Int := (x + (((rng (x + 1) z).filter fun y => decide (endC d y < y)).length : Int)) % (d.length : Int)
/-- what the displacements ask: person p gives x and receives z, its right neighbor the other way round -/
def asks (d : List Int) : List (Int × Int × Int) := (invs d).map fun p => (placeC d p.1 p.2, p.1 % (d.length : Int), p.2 % (d.length : Int))
/-- the possible displacements of one item -/
def ways (n shift : Int) : List Int :=
  if shift = 0 then [0] else if 0 < shift then [shift - n, shift] else [shift, shift + n]
def optsFrom (row : List Int) (n : Int) (items : List Int) (found : List (List Int)) : List (List Int) :=
  items.foldl (fun found item => found.flatMap fun start => (ways n (idx row item - item)).map fun one => start ++ [one]) found
def options (row : List Int) : List (List Int) := (optsFrom row (row.length : Int) (rng 0 (row.length : Int)) [[]]).filter fun o => decide (o.sum = 0)
/-- all orders of the items of a list -/
def perms : Nat → List Int → List (List Int)
  | 0, _ => [[]]
  | k + 1, l => l.flatMap fun x => (perms k (l.erase x)).map fun r => x :: r
def afterRow (row : List Int) (p q : Int) : List Int := si (si row p (gi row q)) q (gi row p)
def afterMv (row mv : List Int) (p q : Int) : List Int :=
  let m1 := si mv (gi row p) (gi mv (gi row p) + 1)
  si m1 (gi row q) (gi m1 (gi row q) - 1)
/-- the steps of person w: from a to b, liked -/
def likes (n : Int) (es : List (Int × Int × Int)) (w : Int) : List (Int × Int) :=
  es.flatMap fun e => (if e.1 == w then [(e.2.1, e.2.2)] else []) ++ (if (e.1 + 1) % n == w then [(e.2.2, e.2.1)] else [])
/-- the items that follow a -/
def chain (ls : List (Int × Int)) : Nat → Int → List Int
  | 0, _ => []
  | k + 1, a => match ls.find? (fun e => e.1 == a) with
    | some e => e.2 :: chain ls k e.2
    | none => []
def subE (es fs : List (Int × Int × Int)) : Bool := es.all fun e => fs.contains e
/-- one allowed step from displacements without a triple: it leads to such, or somebody takes back what they gave -/
def stepOk (n : Int) (row d : List Int) (p : Int) : Bool :=
  let q := (p + 1) % n
  let own := gi row p
  let new := gi row q
  let es := asks d
  ((chain (likes n es p) 20 new).contains own || (chain (likes n es q) 20 own).contains new) ||
    (let row' := afterRow row p q
     let d' := afterMv row d p q
     (triple? d').isNone && (options row').contains d' && subE (asks d') ((p, own, new) :: es))
/-- one sweep of sequence_for over the swaps -/
structure Sw where
  rest : List Int
  arr : List Int
  out : List Int
def turn1 (n : Int) (s : Sw) (p : Int) : Sw :=
  let q := (p + 1) % n
  let right := gi s.arr p
  let left := gi s.arr q
  if gi s.rest right > 0 ∧ gi s.rest left < 0 then
    let r1 := si s.rest right (gi s.rest right - 1)
    ⟨si r1 left (gi r1 left + 1), si (si s.arr p left) q right, s.out ++ [p]⟩
  else s
def sweep (n : Int) (s : Sw) : Sw := (rng 0 n).foldl (turn1 n) s
def restless (s : Sw) : Bool := s.rest.any fun m => decide (m ≠ 0)
def sweeps (n : Int) : Nat → Sw → Sw
  | 0, s => s
  | k + 1, s => if restless s then sweeps n k (sweep n s) else s
def seqStart (d : List Int) : Sw := ⟨d, rng 0 (d.length : Int), []⟩
def seqFor (d : List Int) : List Int := (sweeps (d.length : Int) 20 (seqStart d)).out
/-- a sequence carried out, whatever is liked: its steps are asked for, and where it ends -/
def carried (n : Int) (es : List (Int × Int × Int)) : List Int → List Int → List Int → Option (List Int × List Int)
  | [], row, mv => some (row, mv)
  | p :: ps, row, mv =>
    let q := (p + 1) % n
    if decide (0 ≤ p) && decide (p < n) && es.contains (p, gi row p, gi row q) then carried n es ps (afterRow row p q) (afterMv row mv p q) else none
def seqOk (n : Int) (row d : List Int) : Bool :=
  let s := sweeps n 20 (seqStart d)
  !restless s && (carried n (asks d) s.out (rng 0 n) (List.replicate n.toNat 0) == some (row, d))
/-- what is shown by looking at all -/
def allOk (n : Nat) (c : List Int → List Int → Bool) : Bool :=
  (perms n (rng 0 (n : Int))).all fun row => (options row).all fun d => (triple? d).isSome || c row d
end R57
set_option Elab.async false
set_option linter.all false
set_option maxRecDepth 100000
set_option maxHeartbeats 4000000
/-! comprehensions over data, statements, loops -/
namespace K57
open PySem PySem.Spec PyProof.Rows L2 Evl R57

/-- what the turns below n give -/
def keptD (n : Nat) (f : Nat → Bool) (dv : Nat → PyData) : List PyData := ((List.range n).filter f).map dv
theorem kept_succ (n : Nat) (f : Nat → Bool) (dv : Nat → PyData) : keptD (n + 1) f dv = keptD n f dv ++ (if f n = true then [dv n] else []) := by
  unfold keptD
  rw [List.range_succ, List.filter_append, List.map_append]
  congr 1
  by_cases h : f n = true
  · rw [if_pos h, List.filter_cons, if_pos h] <;> rfl
  · rw [if_neg h, List.filter_cons, if_neg h] <;> rfl
theorem kept_len (n : Nat) (f : Nat → Bool) (dv : Nat → PyData) : (keptD n f dv).length ≤ n := by
  unfold keptD
  rw [List.length_map]
  refine Nat.le_trans (List.length_filter_le f _) ?_
  rw [List.length_range]
  exact Nat.le_refl n
section
variable {K : PySem.W.Frag} {te tl : TE} {tt : TT} {g : TG} {σ : L2.St} {H : Hp}
theorem lcd_core {J : It} {n : Nat} {G : Hp → Prop} {Y : Nat → Hp → V → Hp → Prop} (W : Walk J n G Y) {vs : List Nat} {H1 : Hp} {Dl : Addr} (hD : H1 Dl = none) (f : Nat → Bool) (dv : Nat → PyData) (hG : ∀ H', Ex H1 H' → G H') (hn : n ≤ 40000)
    (ht : ∀ i x H' H2, i < n → Ex H1 H' → Y i H' x H2 → Ex H' H2 ∧ ∃ σ2, (∀ Q, Q σ2 H2 → g x (wipe σ vs) H2 Q) ∧ wipe σ2 vs = wipe σ vs ∧ EvT tt σ2 H2 (f i) ∧ (f i = true → EvD te σ2 H2 (dv i)))
    {Q : VK} (hQ : RetN (keptD n f dv) H1 Q) :
    ∃ W : Nat → Nat → Hp → Prop, (∃ m, W 0 m (upd H1 Dl (.lst []))) ∧ ∀ i m H, W i m H →
      (J.stop i H ∧ Q (.ref Dl) H) ∨ (J.go i H ∧ ∃ Nx : Hp → Prop, (∀ H', Nx H' → ∃ m', m' < m ∧ W (i + 1) m' H') ∧ ∀ x H', J.yld i H x H' → g x (wipe σ vs) H' fun σ2 H2 => wipe σ2 vs = wipe σ vs ∧ tt σ2 H2 fun b H3 =>
        if b = true then te σ2 H3 fun y H4 => ∃ acc, H4 Dl = some (.lst acc) ∧ acc.length < sizeLine ∧ Nx (upd H4 Dl (.lst (acc ++ [y]))) else Nx H3) := by
  refine lc_it W (Qd := fun H => Q (.ref Dl) H) (fun i H' => Ex H1 H' ∧ ∃ xs, H' Dl = some (.lst xs) ∧ TDs H' xs (keptD i f dv)) ⟨Ex.new hD, [], upd_same, .nil⟩ (fun i H' _ p => hG H' p.1) ?_ ?_
  · rintro i x H' H2 hi ⟨ex, xs, hl, ht'⟩ y
    obtain ⟨e2, σ2, h1, h2, h3, h4⟩ := ht i x H' H2 hi ex y
    refine h1 _ ⟨h2, h3 H2 (Ex.refl H2) _ fun H3 e3 => ?_⟩
    have l3 := e3 Dl _ (e2 Dl _ hl)
    have t3 := ht'.mono (ex_tx (e2.trans e3))
    cases hf : f i with
    | true =>
      show te σ2 H3 _
      refine (h4 hf).mono e3 H3 (Ex.refl H3) _ fun w H4 e4 k => ⟨xs, e4 Dl _ l3, sz_lt ?_, Ex.mut ((ex.trans e2).trans (e3.trans e4)) hD, xs ++ [w], upd_same, ?_⟩
      · rw [ht'.length]
        have := kept_len i f dv
        omega
      · rw [kept_succ, if_pos hf]
        exact ((t3.mono (ex_tx e4)).snoc k).mono (tx_lst (TX.refl H4) (e4 Dl _ l3))
    | false =>
      show Ex H1 H3 ∧ _
      refine ⟨(ex.trans e2).trans e3, xs, l3, ?_⟩
      rw [kept_succ, hf, if_neg Bool.false_ne_true, List.append_nil]
      exact t3
  · rintro H' ⟨ex, xs, hl, ht'⟩
    exact hQ Dl xs H' hD ex hl ht'
theorem kept_rng (lo hi : Int) (f : Int → Bool) (gv : Int → PyData) : keptD (hi - lo).toNat (fun i => f (lo + (i : Int))) (fun i => gv (lo + (i : Int))) = ((rng lo hi).filter f).map gv := by
  unfold keptD rng
  rw [List.filter_map, List.map_map]
  rfl
/-- [e for x in range(a, b) if t] -/
theorem evn_lcR2 {ta : TA} {j : Nat} {vs : List Nat} {lo hi : Int} (f : Int → Bool) (gv : Int → PyData) (h : EvA ta σ H [.int lo, .int hi]) (hb : -1000000 ≤ lo ∧ lo ≤ 1000000 ∧ -1000000 ≤ hi ∧ hi ≤ 1000000 ∧ hi - lo ≤ 40000) (hw : ∀ x, wipe ((wipe σ vs).set j (some x)) vs = wipe σ vs)
    (ht : ∀ x H1, Ex H H1 → lo ≤ x → x < hi → EvT tt ((wipe σ vs).set j (some (.int x))) H1 (f x)) (he : ∀ x H1, Ex H H1 → lo ≤ x → x < hi → f x = true → EvD te ((wipe σ vs).set j (some (.int x))) H1 (gv x)) :
    EvN (tLc (iRng2 ta) (gName j) tt te vs) σ H (((rng lo hi).filter f).map gv) := fun H0 e Q q => h H0 e _ fun H1 e1 => ⟨lo, hi, rfl, ⟨by omega, by omega, by omega, by omega⟩, fun Dl hD => by
  rw [← kept_rng] at q
  refine lcd_core walk_range hD (fun i => f (lo + (i : Int))) (fun i => gv (lo + (i : Int))) (fun _ _ => trivial) (by omega) (fun i x H' H2 hi' ex y => ?_) (q.mono e1)
  obtain ⟨rfl, rfl⟩ := y
  exact ⟨Ex.refl _, _, fun Q hq => hq, hw _, ht _ _ ((e.trans e1).trans ex) (by omega) (by omega), fun hf => he _ _ ((e.trans e1).trans ex) (by omega) (by omega) hf⟩⟩
/-- [e for x in range(n) if t] -/
theorem evn_lcR1 {ta : TA} {j : Nat} {vs : List Nat} {hi : Int} (f : Int → Bool) (gv : Int → PyData) (h : EvA ta σ H [.int hi]) (hb : -1000000 ≤ hi ∧ hi ≤ 40000) (hw : ∀ x, wipe ((wipe σ vs).set j (some x)) vs = wipe σ vs)
    (ht : ∀ x H1, Ex H H1 → 0 ≤ x → x < hi → EvT tt ((wipe σ vs).set j (some (.int x))) H1 (f x)) (he : ∀ x H1, Ex H H1 → 0 ≤ x → x < hi → f x = true → EvD te ((wipe σ vs).set j (some (.int x))) H1 (gv x)) :
    EvN (tLc (iRng1 ta) (gName j) tt te vs) σ H (((rng 0 hi).filter f).map gv) := fun H0 e Q q => h H0 e _ fun H1 e1 => ⟨hi, rfl, by omega, by omega, fun Dl hD => by
  rw [← kept_rng] at q
  have e0 : (hi - 0).toNat = hi.toNat := by omega
  rw [e0] at q
  refine lcd_core walk_range hD (fun i => f (0 + (i : Int))) (fun i => gv (0 + (i : Int))) (fun _ _ => trivial) (by omega) (fun i x H' H2 hi' ex y => ?_) (q.mono e1)
  obtain ⟨rfl, rfl⟩ := y
  exact ⟨Ex.refl _, _, fun Q hq => hq, hw _, ht _ _ ((e.trans e1).trans ex) (by omega) (by omega), fun hf => he _ _ ((e.trans e1).trans ex) (by omega) (by omega) hf⟩⟩
theorem kept_list {α : Type} (L : List α) (f : α → Bool) (gv : α → PyData) (fn : Nat → Bool) (gn : Nat → PyData) (h : ∀ i a, L[i]? = some a → fn i = f a ∧ gn i = gv a) : keptD L.length fn gn = (L.filter f).map gv := by
  unfold keptD
  have e1 : L = (List.range L.length).attach.map fun i => L[i.1]'(List.mem_range.mp i.2) := by
    apply List.ext_getElem
    · simp
    · intro i h1 h2
      simp
  have e2 : List.range L.length = (List.range L.length).attach.map Subtype.val := by simp
  conv => lhs; rw [e2]
  conv => rhs; rw [e1]
  rw [List.filter_map, List.filter_map, List.map_map, List.map_map]
  have e3 : ∀ i : { x // x ∈ List.range L.length }, fn i.1 = f (L[i.1]'(List.mem_range.mp i.2)) ∧ gn i.1 = gv (L[i.1]'(List.mem_range.mp i.2)) := fun i => h i.1 _ (List.getElem?_eq_getElem (List.mem_range.mp i.2))
  have e4 : (List.range L.length).attach.filter (fn ∘ Subtype.val) = (List.range L.length).attach.filter (f ∘ fun i => L[i.1]'(List.mem_range.mp i.2)) := List.filter_congr fun i _ => (e3 i).1
  rw [e4]
  exact List.map_congr_left fun i _ => (e3 i).2
/-- items told as data, over any walk that gives the i-th of them -/
theorem evn_items {α : Type} {J : It} {G : Hp → Prop} {xs : List V} {vs : List Nat} {H1 : Hp} {Dl : Addr} (L : List α) (enc : α → PyData) (W : Walk J xs.length G (YAt xs)) (hD : H1 Dl = none) (f : α → Bool) (gv : α → PyData) (hG : ∀ H', Ex H1 H' → G H') (hx : TDs H1 xs (L.map enc)) (hn : L.length ≤ 40000)
    (hs : ∀ a x H2, a ∈ L → Ex H1 H2 → TD H2 x (enc a) → ∃ σ2, (∀ Q, Q σ2 H2 → g x (wipe σ vs) H2 Q) ∧ wipe σ2 vs = wipe σ vs ∧ EvT tt σ2 H2 (f a) ∧ (f a = true → EvD te σ2 H2 (gv a)))
    {Q : VK} (hQ : RetN ((L.filter f).map gv) H1 Q) :
    ∃ W : Nat → Nat → Hp → Prop, (∃ m, W 0 m (upd H1 Dl (.lst []))) ∧ ∀ i m H, W i m H →
      (J.stop i H ∧ Q (.ref Dl) H) ∨ (J.go i H ∧ ∃ Nx : Hp → Prop, (∀ H', Nx H' → ∃ m', m' < m ∧ W (i + 1) m' H') ∧ ∀ x H', J.yld i H x H' → g x (wipe σ vs) H' fun σ2 H2 => wipe σ2 vs = wipe σ vs ∧ tt σ2 H2 fun b H3 =>
        if b = true then te σ2 H3 fun y H4 => ∃ acc, H4 Dl = some (.lst acc) ∧ acc.length < sizeLine ∧ Nx (upd H4 Dl (.lst (acc ++ [y]))) else Nx H3) := by
  have hl : xs.length = L.length := by rw [hx.length, List.length_map]
  rw [← kept_list L f gv (fun i => (L[i]?.map f).getD false) (fun i => (L[i]?.map gv).getD .none) (fun i a e => by rw [e]; exact ⟨rfl, rfl⟩), ← hl] at hQ
  refine lcd_core W hD _ _ hG (by omega) (fun i x H' H2 hi ex y => ?_) hQ
  obtain ⟨rfl, hx2⟩ := y
  have hi2 : i < L.length := by omega
  have ea : L[i]? = some L[i] := List.getElem?_eq_getElem hi2
  obtain ⟨w, h1, h2⟩ := hx.get (j := i) (d := enc L[i]) (by rw [List.getElem?_map, ea] <;> rfl)
  rw [hx2] at h1
  obtain rfl := Option.some.inj h1
  obtain ⟨σ2, q1, q2, q3, q4⟩ := hs L[i] x _ (List.getElem_mem hi2) ex (h2.mono (ex_tx ex))
  refine ⟨Ex.refl _, σ2, q1, q2, ?_, ?_⟩
  · rw [ea]
    exact q3
  · rw [ea]
    exact q4
/-- [e for x in xs if t], xs a list that stands -/
theorem evn_lcL {α : Type} {a : Addr} {vs : List Nat} (L : List α) (enc : α → PyData) (f : α → Bool) (gv : α → PyData) (h : Ev tl σ H (.ref a)) (hl : LD H a (L.map enc)) (hn : L.length ≤ 40000)
    (hs : ∀ a x H2, a ∈ L → Ex H H2 → TD H2 x (enc a) → ∃ σ2, (∀ Q, Q σ2 H2 → g x (wipe σ vs) H2 Q) ∧ wipe σ2 vs = wipe σ vs ∧ EvT tt σ2 H2 (f a) ∧ (f a = true → EvD te σ2 H2 (gv a))) :
    EvN (tLc (iList K tl) g tt te vs) σ H ((L.filter f).map gv) := fun H0 e Q q => h H0 e _ fun H1 e1 => by
  obtain ⟨xs, h1, h2⟩ := hl.mono (e.trans e1)
  refine ⟨a, rfl, ⟨xs, SqL.of h1⟩, fun Dl hD => ?_⟩
  exact evn_items L enc walk_list hD f gv (fun H' ex => SqL.of (ex a _ h1)) h2 hn (fun b x H2 hb ex k => hs b x H2 hb ((e.trans e1).trans ex) k) (q.mono e1)
/-- .. xs a new list -/
theorem evn_lcN {α : Type} {vs : List Nat} (L : List α) (enc : α → PyData) (f : α → Bool) (gv : α → PyData) (h : EvN tl σ H (L.map enc)) (hn : L.length ≤ 40000)
    (hs : ∀ a x H2, a ∈ L → Ex H H2 → TD H2 x (enc a) → ∃ σ2, (∀ Q, Q σ2 H2 → g x (wipe σ vs) H2 Q) ∧ wipe σ2 vs = wipe σ vs ∧ EvT tt σ2 H2 (f a) ∧ (f a = true → EvD te σ2 H2 (gv a))) :
    EvN (tLc (iList K tl) g tt te vs) σ H ((L.filter f).map gv) := fun H0 e Q q => h H0 e _ fun a xs H1 ha e1 h1 h2 => by
  refine ⟨a, rfl, ⟨xs, SqL.of h1⟩, fun Dl hD => ?_⟩
  exact evn_items L enc walk_list hD f gv (fun H' ex => SqL.of (ex a _ h1)) h2 hn (fun b x H2 hb ex k => hs b x H2 hb ((e.trans e1).trans ex) k) (q.mono e1)
/-- .. xs a tuple -/
theorem evn_lcT {α : Type} {vs : List Nat} (L : List α) (enc : α → PyData) (f : α → Bool) (gv : α → PyData) (h : EvD tl σ H (.tuple (L.map enc))) (hn : L.length ≤ 40000)
    (hs : ∀ a x H2, a ∈ L → Ex H H2 → TD H2 x (enc a) → ∃ σ2, (∀ Q, Q σ2 H2 → g x (wipe σ vs) H2 Q) ∧ wipe σ2 vs = wipe σ vs ∧ EvT tt σ2 H2 (f a) ∧ (f a = true → EvD te σ2 H2 (gv a))) :
    EvN (tLc (iTup K tl) g tt te vs) σ H ((L.filter f).map gv) := fun H0 e Q q => h H0 e _ fun v H1 e1 k => by
  obtain ⟨a, xs, rfl, h1, h2⟩ := k.tup_inv
  refine ⟨a, rfl, ⟨xs, h1.sq⟩, fun Dl hD => ?_⟩
  exact evn_items L enc walk_tup hD f gv (fun H' ex => (h1.mono ex).sq) h2 hn (fun b x H2 hb ex k => hs b x H2 hb ((e.trans e1).trans ex) k) (q.mono e1)
/-- no test -/
theorem evt_yes : EvT tYes σ H true := fun H1 _ _ q => q H1 (Ex.refl H1)
theorem filter_all {α : Type} (L : List α) : (L.filter fun _ => true) = L := List.filter_eq_self.mpr fun _ _ => rfl
end
/-! ### statements -/
section
variable {K : PySem.W.Frag} {σ : L2.St} {H : Hp} {te : TE} {d : PyData} {ds : List PyData} {D : Ends} {tz : TS} {ta : TA}
theorem q_asgD {i : Nat} (h : EvD te σ H d) (k : ∀ v H1, Ex H H1 → TD H1 v d → tz D (σ.set i (some v)) H1) : tSeq (tAsg te (gName i)) tz D σ H := h H (Ex.refl H) _ fun v H1 e t => k v H1 e t
theorem q_asgN {i : Nat} (h : EvN te σ H ds) (k : ∀ p xs H1, H p = none → Ex H H1 → H1 p = some (.lst xs) → TDs H1 xs ds → tz D (σ.set i (some (.ref p))) H1) : tSeq (tAsg te (gName i)) tz D σ H := h H (Ex.refl H) _ fun p xs H1 hp e hl t => k p xs H1 hp e hl t
theorem s_retD (h : EvD te σ H d) (k : RetD d H D.rt) : tRet te D σ H := h H (Ex.refl H) _ k
theorem s_retN (h : EvN te σ H ds) (k : RetN ds H D.rt) : tRet te D σ H := h H (Ex.refl H) _ k
/-- a, b = two values -/
theorem q_parV {i j : Nat} {v w : V} (h : EvA ta σ H [v, w]) (k : ∀ H1, Ex H H1 → tz D ((σ.set i (some v)).set j (some w)) H1) : tSeq (tPar i j ta) tz D σ H := h H (Ex.refl H) _ fun H1 e => ⟨v, w, rfl, k H1 e⟩
theorem q_parD {i j : Nat} {d1 d2 : PyData} (h : EvAD ta σ H [d1, d2]) (k : ∀ v w H1, Ex H H1 → TD H1 v d1 → TD H1 w d2 → tz D ((σ.set i (some v)).set j (some w)) H1) : tSeq (tPar i j ta) tz D σ H := h H (Ex.refl H) _ fun vs H1 e t => by
  obtain ⟨v, r, rfl, t1, t2⟩ := t.cons_inv
  obtain ⟨w, r2, rfl, t3, t4⟩ := t2.cons_inv
  obtain rfl := t4.nil_inv
  exact ⟨v, w, rfl, k v w H1 e t1 t3⟩
/-- a, b = (x, y) by a tuple that is made and taken apart -/
theorem q_tup2 {i j : Nat} {d1 d2 : PyData} (h : EvD te σ H (.tuple [d1, d2])) (k : ∀ v w H1, Ex H H1 → TD H1 v d1 → TD H1 w d2 → tz D ((σ.set i (some v)).set j (some w)) H1) : tSeq (tAsg te (gTup K 2 (gCons (gName i) (gCons (gName j) gNil)))) tz D σ H := h H (Ex.refl H) _ fun v H1 e t => by
  obtain ⟨a, xs, rfl, h1, t⟩ := t.tup_inv
  obtain ⟨v, r, rfl, t1, t2⟩ := t.cons_inv
  obtain ⟨w, r2, rfl, t3, t4⟩ := t2.cons_inv
  obtain rfl := t4.nil_inv
  exact ⟨a, [v, w], rfl, h1.sq, rfl, v, [w], rfl, w, [], rfl, rfl, k v w H1 e t1 t3⟩
/-- taking a pair apart: where the target is two names -/
theorem g_tup2 {i j : Nat} {d1 d2 : PyData} {x : V} (t : TD H x (.tuple [d1, d2])) : ∃ v w, TD H v d1 ∧ TD H w d2 ∧ ∀ Q : L2.St → Hp → Prop, Q ((σ.set i (some v)).set j (some w)) H → gTup K 2 (gCons (gName i) (gCons (gName j) gNil)) x σ H Q := by
  obtain ⟨a, xs, rfl, h1, t⟩ := t.tup_inv
  obtain ⟨v, r, rfl, t1, t2⟩ := t.cons_inv
  obtain ⟨w, r2, rfl, t3, t4⟩ := t2.cons_inv
  obtain rfl := t4.nil_inv
  exact ⟨v, w, t1, t3, fun Q q => ⟨a, [v, w], rfl, h1.sq, rfl, v, [w], rfl, w, [], rfl, rfl, q⟩⟩
/-- xs.append(e), e data -/
theorem q_appD {tx : TE} {l : Addr} {xs : List V} (hl : H l = some (.lst xs)) (ha : Ev tx σ H (.ref l)) (h : EvD te σ H d) (hz : xs.length < 100000) (k : ∀ v H1, Ex H H1 → TD H1 v d → tz D σ (upd H1 l (.lst (xs ++ [v])))) :
    tSeq (tDrop (tBM K "list" rAppend tx (tCons te tNil))) tz D σ H := ha H (Ex.refl H) _ fun H1 e1 =>
  ⟨Or.inl ⟨rfl, xs, sq_of (e1 l _ hl)⟩, h H1 e1 _ fun v H2 e2 t => ⟨l, xs, v, rfl, rfl, e2 l _ (e1 l _ hl), sz_lt hz, k v H2 (e1.trans e2) t⟩⟩
theorem s_appD {tx : TE} {l : Addr} {xs : List V} (hl : H l = some (.lst xs)) (ha : Ev tx σ H (.ref l)) (h : EvD te σ H d) (hz : xs.length < 100000) (k : ∀ v H1, Ex H H1 → TD H1 v d → D.nx σ (upd H1 l (.lst (xs ++ [v])))) :
    tDrop (tBM K "list" rAppend tx (tCons te tNil)) D σ H := ha H (Ex.refl H) _ fun H1 e1 =>
  ⟨Or.inl ⟨rfl, xs, sq_of (e1 l _ hl)⟩, h H1 e1 _ fun v H2 e2 t => ⟨l, xs, v, rfl, rfl, e2 l _ (e1 l _ hl), sz_lt hz, k v H2 (e1.trans e2) t⟩⟩
end
end K57
set_option maxRecDepth 100000
/-! ranges, arrangements, rankings: plain Lean -/
namespace R57
theorem rng_length (a b : Int) : (rng a b).length = (b - a).toNat := by
  unfold rng
  rw [List.length_map, List.length_range]
theorem mem_rng {a b x : Int} : x ∈ rng a b ↔ a ≤ x ∧ x < b := by
  unfold rng
  rw [List.mem_map]
  constructor
  · rintro ⟨i, hi, rfl⟩
    have := List.mem_range.mp hi
    omega
  · rintro ⟨h1, h2⟩
    exact ⟨(x - a).toNat, List.mem_range.mpr (by omega), by omega⟩
theorem rng_get {a b : Int} {i : Nat} (h : (i : Int) < b - a) : (rng a b)[i]? = some (a + (i : Int)) := by
  unfold rng
  rw [List.getElem?_map, List.getElem?_range (by omega)]
  rfl
theorem rng_nodup (a b : Int) : (rng a b).Nodup := by
  unfold rng
  refine List.pairwise_map.mpr (List.Pairwise.imp (fun h q => h ?_) (List.nodup_range (n := (b - a).toNat)))
  omega
theorem rng_nil {a b : Int} (h : b ≤ a) : rng a b = [] := by
  unfold rng
  rw [show (b - a).toNat = 0 by omega]
  rfl
theorem rng_succ {a b : Int} (h : a ≤ b) : rng a (b + 1) = rng a b ++ [b] := by
  unfold rng
  rw [show (b + 1 - a).toNat = (b - a).toNat + 1 by omega, List.range_succ, List.map_append]
  simp
  omega
/-- all items of 0 .. n - 1 once -/
def Pm (n : Nat) (l : List Int) : Prop := l.Perm (rng 0 (n : Int))
theorem Pm.length {n : Nat} {l : List Int} (h : Pm n l) : l.length = n := by
  rw [List.Perm.length_eq h, rng_length]
  omega
theorem Pm.mem {n : Nat} {l : List Int} (h : Pm n l) {x : Int} : x ∈ l ↔ 0 ≤ x ∧ x < n := (List.Perm.mem_iff h).trans mem_rng
theorem Pm.nodup {n : Nat} {l : List Int} (h : Pm n l) : l.Nodup := (List.Perm.nodup_iff h).mpr (rng_nodup _ _)
theorem Pm.of {n : Nat} {l : List Int} (hl : l.length = n) (hn : l.Nodup) (hm : ∀ x ∈ l, 0 ≤ x ∧ x < (n : Int)) : Pm n l := by
  have hs : l ⊆ rng 0 (n : Int) := fun x hx => mem_rng.mpr (hm x hx)
  refine (List.perm_ext_iff_of_nodup hn (rng_nodup _ _)).mpr fun x => ⟨fun hx => hs hx, fun hx => ?_⟩
  have h1 : (rng 0 (n : Int)).length ≤ l.length := by
    rw [rng_length, hl]
    omega
  rcases Classical.em (x ∈ l) with h | h
  · exact h
  · have h2 := List.Nodup.length_le_of_subset (l₁ := x :: l) (l₂ := rng 0 (n : Int)) (List.nodup_cons.mpr ⟨h, hn⟩) (fun y hy => by
      rcases List.mem_cons.mp hy with e | e
      · rw [e]; exact hx
      · exact hs e)
    rw [List.length_cons] at h2
    omega
theorem gi_get {l : List Int} {i : Int} (h0 : 0 ≤ i) (h1 : i < l.length) : l[i.toNat]? = some (gi l i) := by
  have h2 : i.toNat < l.length := by omega
  unfold gi
  rw [List.getD_eq_getElem?_getD, List.getElem?_eq_getElem h2] <;> rfl
theorem gi_mem {l : List Int} {i : Int} (h0 : 0 ≤ i) (h1 : i < l.length) : gi l i ∈ l := List.mem_of_getElem? (gi_get h0 h1)
theorem Pm.gi {n : Nat} {l : List Int} (h : Pm n l) {i : Int} (h0 : 0 ≤ i) (h1 : i < n) : 0 ≤ gi l i ∧ gi l i < n := h.mem.mp (gi_mem h0 (by rw [h.length]; exact h1))
/-- rankings: each of the n tuples holds every item once -/
structure Rk (ls : List (List Int)) : Prop where
  one : 1 ≤ ls.length
  few : ls.length ≤ 40
  all : ∀ r ∈ ls, Pm ls.length r
theorem idx_get {l : List Int} {x : Int} (h : x ∈ l) : l[l.idxOf x]? = some x := by
  have h1 := List.idxOf_lt_length_of_mem h
  rw [List.getElem?_eq_getElem h1, List.getElem_idxOf]
theorem idx_first {l : List Int} {x : Int} {m : Nat} (hm : m < l.idxOf x) : l[m]? ≠ some x := by
  intro e
  have h1 : m < l.length := (List.getElem?_eq_some_iff.mp e).1
  have h2 := (List.getElem?_eq_some_iff.mp e).2
  have h3 := List.not_of_lt_findIdx (p := (· == x)) (xs := l) (show m < l.findIdx (· == x) from hm)
  rw [h2] at h3
  simp at h3
theorem idx_lt {l : List Int} {x : Int} (h : x ∈ l) : 0 ≤ idx l x ∧ idx l x < l.length := by
  have h1 := List.idxOf_lt_length_of_mem h
  unfold idx
  omega
theorem gi_idx {l : List Int} {x : Int} (h : x ∈ l) : gi l (idx l x) = x := by
  unfold gi idx
  rw [Int.toNat_natCast, List.getD_eq_getElem?_getD, idx_get h] <;> rfl
theorem idx_of_nodup {l : List Int} (hn : l.Nodup) {j : Nat} {x : Int} (h : l[j]? = some x) : l.idxOf x = j := by
  have hx : x ∈ l := List.mem_of_getElem? h
  have h1 := idx_get hx
  obtain ⟨a1, a2⟩ := List.getElem?_eq_some_iff.mp h1
  obtain ⟨b1, b2⟩ := List.getElem?_eq_some_iff.mp h
  exact (List.getElem_inj hn).mp (a2.trans b2.symm)
theorem idx_gi {l : List Int} (hn : l.Nodup) {i : Int} (h0 : 0 ≤ i) (h1 : i < l.length) : idx l (gi l i) = i := by
  unfold idx
  rw [idx_of_nodup hn (gi_get h0 h1)]
  omega
theorem idx_inj {l : List Int} {x y : Int} (hx : x ∈ l) (hy : y ∈ l) (h : idx l x = idx l y) : x = y := by
  rw [← gi_idx hx, h, gi_idx hy]
end R57
namespace R57
theorem mem_laterB {d : List Int} {u hi z : Int} : z ∈ laterB d u hi ↔ u + 1 ≤ z ∧ z < hi ∧ endC d z < endC d u := by
  unfold laterB
  rw [List.mem_filter, mem_rng, decide_eq_true_iff, and_assoc]
theorem mem_invs {d : List Int} {x z : Int} : (x, z) ∈ invs d ↔ 0 ≤ x ∧ x < d.length ∧ x + 1 ≤ z ∧ z < x + 2 * (d.length : Int) - 1 ∧ endC d z < endC d x := by
  unfold invs
  rw [List.mem_flatMap]
  constructor
  · rintro ⟨a, ha, hm⟩
    obtain ⟨b, hb, e⟩ := List.mem_map.mp hm
    injection e with e1 e2
    subst e1 e2
    have h1 := mem_rng.mp ha
    have h2 := mem_laterB.mp hb
    exact ⟨h1.1, h1.2, h2.1, h2.2.1, h2.2.2⟩
  · rintro ⟨h0, h1, h2, h3, h4⟩
    exact ⟨x, mem_rng.mpr ⟨h0, h1⟩, List.mem_map.mpr ⟨z, mem_laterB.mpr ⟨h2, h3, h4⟩, rfl⟩⟩
theorem findSome_at {α β : Type} {f : α → Option β} {L : List α} {i : Nat} {a : α} {b : β} (h : L[i]? = some a) (hb : f a = some b) (hn : ∀ j c, j < i → L[j]? = some c → f c = none) : L.findSome? f = some b := by
  induction L generalizing i with
  | nil => simp at h
  | cons c L ih =>
    cases i with
    | zero =>
      have e : c = a := Option.some.inj h
      rw [List.findSome?_cons, e, hb]
    | succ i =>
      have h0 := hn 0 c (Nat.zero_lt_succ i) rfl
      rw [List.findSome?_cons, h0]
      exact ih (i := i) h fun j e hj he => hn (j + 1) e (by omega) he
theorem findSome_no {α β : Type} {f : α → Option β} {L : List α} (hn : ∀ (j : Nat) c, L[j]? = some c → f c = none) : L.findSome? f = none := by
  rw [List.findSome?_eq_none_iff]
  intro x hx
  obtain ⟨j, hj⟩ := List.mem_iff_getElem?.mp hx
  exact hn j x hj
/-- the ranking of a person -/
def gl (ls : List (List Int)) (w : Int) : List Int := ls.getD w.toNat []
theorem gl_get {ls : List (List Int)} {w : Int} (h0 : 0 ≤ w) (h1 : w < ls.length) : ls[w.toNat]? = some (gl ls w) := by
  have h2 : w.toNat < ls.length := by omega
  unfold gl
  rw [List.getD_eq_getElem?_getD, List.getElem?_eq_getElem h2] <;> rfl
theorem Rk.gl {ls : List (List Int)} (rk : Rk ls) {w : Int} (h0 : 0 ≤ w) (h1 : w < ls.length) : Pm ls.length (gl ls w) := rk.all _ (List.mem_of_getElem? (gl_get h0 h1))
/-- the refusals of a ring inversion -/
def refs (ls : List (List Int)) (d : List Int) (x z : Int) : List (Int × Int × Int × Int) :=
  let n : Int := d.length
  let p := placeC d x z
  let q := (p + 1) % n
  (if idx (gl ls p) (x % n) < idx (gl ls p) (z % n) then [(p, x, z, p)] else []) ++ (if idx (gl ls q) (z % n) < idx (gl ls q) (x % n) then [(p, x, z, q)] else [])
end R57
set_option Elab.async false
set_option linter.all false
set_option maxRecDepth 100000
set_option maxHeartbeats 4000000
/-! more of what a reading evaluates to -/
namespace K57
open PySem PySem.Spec PyProof.Rows L2 Evl R57
section
variable {K : PySem.W.Frag} {σ : L2.St} {H H' : Hp} {ta tb tc te : TE} {t u : TT} {x y z v : V} {r r' : R2} {d e : PyData} {ds es : List PyData} {i j : Int} {b b1 b2 : Bool}
theorem ev_chain (ha : Ev ta σ H x) (hb : Ev tb σ H y) (hr : RV r x y H (.bl b1)) (hc : Ev tc σ H z) (hr' : RV r' y z H (.bl b2)) : Ev (tChain r r' ta tb tc) σ H (.bl (b1 && b2)) := fun H1 e Q q =>
  ha H1 e _ fun H2 e2 => hb H2 (e.trans e2) _ fun H3 e3 => hr H3 ((e.trans e2).trans e3) _ fun H4 e4 => ⟨b1, rfl, by
    cases b1 with
    | false => exact q H4 ((e2.trans e3).trans e4)
    | true =>
      show tc σ H4 _
      exact hc H4 (((e.trans e2).trans e3).trans e4) _ fun H5 e5 => hr' H5 ((((e.trans e2).trans e3).trans e4).trans e5) Q fun H6 e6 => q H6 ((((e2.trans e3).trans e4).trans e5).trans e6)⟩
/-- isinstance -/
theorem ev_isi {t n : String} (h : Ev ta σ H x) (ht : ∀ H', Ex H H' → TyX K H' x (.type t)) (hk : kitB t n = some b) :
    Ev (tCB (rIsi K) (tCons ta (tCons (tC (.ty n)) tNil))) σ H (.bl b) := fun H1 e Q q => h H1 e _ fun H2 e2 => ⟨x, .ty n, .type t, .type n, b, rfl, .ty n, ht H2 (e.trans e2), kit_ty hk, q H2 e2⟩
/-- .. of data -/
theorem evd_isiT {n : String} (h : EvD ta σ H (.tuple ds)) (hk : kitB "tuple" n = some b) : Ev (tCB (rIsi K) (tCons ta (tCons (tC (.ty n)) tNil))) σ H (.bl b) := fun H1 e Q q => h H1 e _ fun v H2 e2 k => by
  obtain ⟨a, xs, rfl, h1, h2⟩ := k.tup_inv
  exact ⟨_, .ty n, .type "tuple", .type n, b, rfl, .ty n, h1.ty, kit_ty hk, q H2 e2⟩
theorem evd_isiI {n : String} (h : Ev ta σ H (.int i)) (hk : kitB "int" n = some b) : Ev (tCB (rIsi K) (tCons ta (tCons (tC (.ty n)) tNil))) σ H (.bl b) := ev_isi h (fun _ _ => .base (.int i)) hk
theorem evd_isiS {n : String} {x : Str} (h : Ev ta σ H (.str x)) (hk : kitB "str" n = some b) : Ev (tCB (rIsi K) (tCons ta (tCons (tC (.ty n)) tNil))) σ H (.bl b) := ev_isi h (fun _ _ => .base (.str x)) hk
theorem bools_inv : ∀ {vs : List V} {bs : List Bool}, TDs H vs (bs.map PyData.bool) → vs = bs.map V.bl
  | _, [], .nil => rfl
  | _, b :: bs, .cons h t => by rw [TD.bl_inv h, bools_inv t]; rfl
theorem ev_all {bs : List Bool} (h : EvN ta σ H (bs.map .bool)) : Ev (tCB (rAll K) (tCons ta tNil)) σ H (.bl (bs.all id)) := fun H1 e Q q => h H1 e _ fun p xs H2 hp e2 h1 h2 => by
  rw [bools_inv h2] at h1
  exact ⟨p, bs, rfl, SqL.of h1, q H2 e2⟩
theorem ev_any {bs : List Bool} (h : EvN ta σ H (bs.map .bool)) : Ev (tCB (rAny K) (tCons ta tNil)) σ H (.bl (bs.any id)) := fun H1 e Q q => h H1 e _ fun p xs H2 hp e2 h1 h2 => by
  rw [bools_inv h2] at h1
  exact ⟨p, bs, rfl, SqL.of h1, q H2 e2⟩
/-- ints compared, reckoned with -/
theorem ev_bin {g : Int → Int → V} (ha : Ev ta σ H (.int i)) (hb : Ev tb σ H (.int j)) : Ev (tOp (rI0 g) ta tb) σ H (g i j) := ev_op ha hb rv_I0
theorem ev_binC {C : Int → Int → Prop} {g : Int → Int → V} (ha : Ev ta σ H (.int i)) (hb : Ev tb σ H (.int j)) (hc : C i j) : Ev (tOp (rI C g) ta tb) σ H (g i j) := ev_op ha hb (rv_I hc)
theorem ev_eqI (ha : Ev ta σ H (.int i)) (hb : Ev tb σ H (.int j)) : Ev (tOp rEq ta tb) σ H (.bl (decide (i = j))) := ev_is (ev_op ha hb (rv_eq rfl)) (by simp)
theorem ev_neI (ha : Ev ta σ H (.int i)) (hb : Ev tb σ H (.int j)) : Ev (tOp rNe ta tb) σ H (.bl (!decide (i = j))) := ev_is (ev_op ha hb (rv_ne rfl)) (by simp)
theorem ev_eqS {x y : Str} (ha : Ev ta σ H (.str x)) (hb : Ev tb σ H (.str y)) : Ev (tOp rEq ta tb) σ H (.bl (decide (x = y))) := ev_is (ev_op ha hb (rv_eq rfl)) (by simp)
theorem ev_neS {x y : Str} (ha : Ev ta σ H (.str x)) (hb : Ev tb σ H (.str y)) : Ev (tOp rNe ta tb) σ H (.bl (!decide (x = y))) := ev_is (ev_op ha hb (rv_ne rfl)) (by simp)
/-- the i-th of a tuple of ints, i within -/
theorem at_gi {l : List Int} (h0 : 0 ≤ i) (h1 : i < l.length) : atI l i = some (gi l i) := by
  have e : ((i.toNat : Nat) : Int) = i := by omega
  have g := atI_nat (xs := l) (j := i.toNat) (gi_get h0 h1)
  rwa [e] at g
theorem at_map {α β : Type} (f : α → β) {l : List α} {a : α} (h : atI l i = some a) : atI (l.map f) i = some (f a) := by
  unfold atI at h ⊢
  rw [List.length_map]
  cases e : ixN l.length i with
  | none => rw [e] at h; cases h
  | some j =>
    rw [e] at h
    have h2 : l[j]? = some a := h
    show (l.map f)[j]? = _
    rw [List.getElem?_map, h2] <;> rfl
theorem ev_ixTI {l : List Int} (h : EvD ta σ H (dT l)) (hi : Ev tb σ H (.int i)) (h0 : 0 ≤ i) (h1 : i < l.length) : Ev (tOp (rIxT K) ta tb) σ H (.int (gi l i)) := ev_ixTi h hi (at_gi h0 h1)
theorem ev_ixLI {l : List Int} {a : Addr} (h : Ev ta σ H (.ref a)) (hl : H a = some (.lst (l.map V.int))) (hi : Ev tb σ H (.int i)) (h0 : 0 ≤ i) (h1 : i < l.length) : Ev (tOp (rIxL K) ta tb) σ H (.int (gi l i)) :=
  ev_op h hi (rv_ixL (SqL.of hl) (at_map V.int (at_gi h0 h1)))
theorem ev_lenTI {l : List Int} (h : EvD ta σ H (dT l)) : Ev (tCB (fun xs H Q => ∃ p ys, xs = [.ref p] ∧ (SqL K H p ys ∨ SqT K H p ys) ∧ Q (.int ys.length) H) (tCons ta tNil)) σ H (.int (l.length : Int)) := ev_is (ev_lenT h) (by rw [List.length_map])
theorem ev_lenLI {l : List Int} {a : Addr} (h : Ev ta σ H (.ref a)) (hl : H a = some (.lst (l.map V.int))) : Ev (tCB (fun xs H Q => ∃ p ys, xs = [.ref p] ∧ (SqL K H p ys ∨ SqT K H p ys) ∧ Q (.int ys.length) H) (tCons ta tNil)) σ H (.int (l.length : Int)) := fun H1 e Q q =>
  h H1 e _ fun H2 e2 => ⟨a, l.map V.int, rfl, Or.inl (SqL.of (e2 _ _ (e _ _ hl))), by rw [List.length_map]; exact q H2 e2⟩
/-- the k-th of data of one kind -/
theorem evd_ixA {α : Type} (enc : α → PyData) {l : List α} {a : α} (h : EvD ta σ H (.tuple (l.map enc))) (hi : Ev tb σ H (.int i)) (ha : atI l i = some a) : EvD (tOp (rIxT K) ta tb) σ H (enc a) := evd_ixT h hi (at_map enc ha)
end
end K57
set_option Elab.async false
set_option linter.all false
set_option maxRecDepth 100000
set_option maxHeartbeats 4000000
/-! loops over data; lists that change -/
namespace K57
open PySem PySem.Spec PyProof.Rows L2 Evl R57
/-- all but what stands at X is kept -/
def ExX (X : Addr → Prop) (H H' : Hp) : Prop := ∀ a o, ¬ X a → H a = some o → H' a = some o
section
variable {X : Addr → Prop} {H H1 H' H2 : Hp} {l : Addr} {o : HO}
theorem ExX.refl (H : Hp) : ExX X H H := fun _ _ _ h => h
theorem ExX.trans (a : ExX X H H1) (b : ExX X H1 H2) : ExX X H H2 := fun x u n h => b x u n (a x u n h)
theorem exx_of (e : Ex H H') : ExX X H H' := fun a u _ h => e a u h
theorem ExX.then (a : ExX X H H1) (b : Ex H1 H2) : ExX X H H2 := fun x u n h => b x u (a x u n h)
theorem ExX.put (a : ExX X H H1) (hl : X l) : ExX X H (upd H1 l o) := fun x u n h => by
  rw [upd_ne (show x ≠ l from fun z => n (by rw [z]; exact hl))]
  exact a x u n h
theorem ExX.ex (a : ExX (fun _ => False) H H') : Ex H H' := fun x u h => a x u (fun z => z) h
/-- what changes holds no tuple -/
def NoT (X : Addr → Prop) (H : Hp) : Prop := ∀ a xs, X a → ¬ TupAt H a xs
theorem ExX.tx (a : ExX X H H') (n : NoT X H) : TX H H' := fun x xs h => let ⟨o, h1, h2⟩ := h; ⟨o, h1, a x _ (fun z => n x xs z h) h2⟩
theorem not_lst {a : Addr} {ys xs : List V} (h : H a = some (.lst ys)) : ¬ TupAt H a xs := fun z => by
  obtain ⟨_, _, z⟩ := z
  rw [h] at z
  cases z
/-- what H does not know may change -/
theorem ExX.back (a : ExX X H1 H2) (e : Ex H H1) (hX : ∀ x, X x → H x = none) : Ex H H2 := fun x u h => a x u (fun z => by rw [hX x z] at h; cases h) (e x u h)
end
section
variable {K : PySem.W.Frag} {σ : L2.St} {H : Hp} {te tl ta tb : TE} {ds es : List PyData} {D : Ends} {tu tz : TS} {g : TG}
/-- for .. in a new list of data; X: what the body changes -/
theorem q_forX {α : Type} (L : List α) (enc : α → PyData) (X : Addr → Prop) (h : EvN tl σ H (L.map enc)) (hX : ∀ a, X a → ∃ ys, H a = some (.lst ys)) (J : Nat → L2.St → Hp → Prop) (h0 : ∀ H1, Ex H H1 → J 0 σ H1)
    (hs : ∀ H1, Ex H H1 → NoT X H1 → ∀ i a v σ' H', L[i]? = some a → ExX X H1 H' → J i σ' H' → TD H' v (enc a) → g v σ' H' fun σ2 H2 => tu { D with nx := fun σ3 H3 => ExX X H1 H3 ∧ J (i + 1) σ3 H3, ct := fun σ3 H3 => ExX X H1 H3 ∧ J (i + 1) σ3 H3, bk := tz D } σ2 H2)
    (hd : ∀ H1 σ' H', Ex H H1 → ExX X H1 H' → J L.length σ' H' → tz D σ' H') : tSeq (tFor (iList K tl) g tu) tz D σ H :=
  h H (Ex.refl H) _ fun p xs H1 hp e h1 ts => by
    have nt : NoT X H1 := fun a ys z => let ⟨zs, hz⟩ := hX a z; not_lst (e a _ hz)
    have np : ¬ X p := fun z => by
      obtain ⟨ys, hy⟩ := hX p z
      rw [hp] at hy
      cases hy
    have hxl : xs.length = L.length := by rw [ts.length, List.length_map]
    refine ⟨p, rfl, ⟨xs, SqL.of h1⟩, for_list (D := { D with nx := tz D }) (xs := xs) (fun i σ' H' => ExX X H1 H' ∧ J i σ' H') ⟨ExX.refl _, h0 H1 e⟩ (fun i σ' H' _ q => SqL.of (q.1 p _ np h1)) (fun i x σ' H' hx q => ?_) (fun σ' H' q => hd H1 σ' H' e q.1 (hxl ▸ q.2))⟩
    have hi : i < L.length := by rw [← hxl]; exact (List.getElem?_eq_some_iff.mp hx).1
    obtain ⟨d, hd1, hd2⟩ := ts.getV hx
    rw [List.getElem?_map, List.getElem?_eq_getElem hi] at hd1
    obtain rfl := Option.some.inj hd1
    exact hs H1 e nt i L[i] x σ' H' (List.getElem?_eq_getElem hi) q.1 q.2 (hd2.mono (q.1.tx nt))
/-- .. nothing changes -/
theorem q_forN {α : Type} (L : List α) (enc : α → PyData) (h : EvN tl σ H (L.map enc)) (J : Nat → L2.St → Hp → Prop) (h0 : ∀ H1, Ex H H1 → J 0 σ H1)
    (hs : ∀ H1, Ex H H1 → ∀ i a v σ' H', L[i]? = some a → Ex H1 H' → J i σ' H' → TD H' v (enc a) → g v σ' H' fun σ2 H2 => tu { D with nx := fun σ3 H3 => Ex H1 H3 ∧ J (i + 1) σ3 H3, ct := fun σ3 H3 => Ex H1 H3 ∧ J (i + 1) σ3 H3, bk := tz D } σ2 H2)
    (hd : ∀ H1 σ' H', Ex H H1 → Ex H1 H' → J L.length σ' H' → tz D σ' H') : tSeq (tFor (iList K tl) g tu) tz D σ H :=
  h H (Ex.refl H) _ fun p xs H1 hp e h1 ts => by
    have hxl : xs.length = L.length := by rw [ts.length, List.length_map]
    refine ⟨p, rfl, ⟨xs, SqL.of h1⟩, for_list (D := { D with nx := tz D }) (xs := xs) (fun i σ' H' => Ex H1 H' ∧ J i σ' H') ⟨Ex.refl _, h0 H1 e⟩ (fun i σ' H' _ q => SqL.of (q.1 p _ h1)) (fun i x σ' H' hx q => ?_) (fun σ' H' q => hd H1 σ' H' e q.1 (hxl ▸ q.2))⟩
    have hi : i < L.length := by rw [← hxl]; exact (List.getElem?_eq_some_iff.mp hx).1
    obtain ⟨d, hd1, hd2⟩ := ts.getV hx
    rw [List.getElem?_map, List.getElem?_eq_getElem hi] at hd1
    obtain rfl := Option.some.inj hd1
    exact hs H1 e i L[i] x σ' H' (List.getElem?_eq_getElem hi) q.1 q.2 (hd2.mono (ex_tx q.1))
/-- found += a new list -/
theorem s_extN {i : Nat} {l : Addr} {xs : List V} (hi : σ[i]? = some (some (.ref l))) (hl : H l = some (.lst xs)) (h : EvN te σ H ds) (hz : xs.length + ds.length ≤ 100000)
    (k : ∀ ys H1, Ex H H1 → TDs H1 ys ds → D.nx (σ.set i (some (.ref l))) (upd H1 l (.lst (xs ++ ys)))) : tAug i te rExt2 D σ H :=
  ⟨.ref l, hi, h H (Ex.refl H) _ fun p ys H1 hp e h1 ts => ⟨l, p, xs, ys, rfl, rfl, e l _ hl, h1, sz_of (by rw [ts.length]; exact hz), k ys H1 e ts⟩⟩
/-- a + b of two lists, the first one standing, the second new -/
theorem evn_cat {l : Addr} (h1 : Ev ta σ H (.ref l)) (hl : LD H l ds) (h2 : EvN tb σ H es) (hz : ds.length + es.length ≤ 100000) : EvN (tOp rCat ta tb) σ H (ds ++ es) := fun H1 e Q q =>
  h1 H1 e _ fun H2 e2 => h2 H2 (e.trans e2) _ fun p ys H3 hp e3 k1 k2 => by
    obtain ⟨xs, h3, h4⟩ := hl.mono ((e.trans e2).trans e3)
    refine ⟨l, p, xs, ys, rfl, rfl, h3, k1, sz_of (by rw [h4.length, k2.length]; exact hz), fun r hr => ?_⟩
    exact q r _ _ (fresh_back (e2.trans e3) hr) ((e2.trans e3).trans (Ex.new hr)) upd_same ((h4.append k2).mono (ex_tx (Ex.new hr)))
theorem evn_catNN (h1 : EvN ta σ H ds) (h2 : EvN tb σ H es) (hz : ds.length + es.length ≤ 100000) : EvN (tOp rCat ta tb) σ H (ds ++ es) := fun H1 e Q q =>
  h1 H1 e _ fun p0 xs H2 hp0 e2 h3 h4 => h2 H2 (e.trans e2) _ fun p ys H3 hp e3 k1 k2 => by
    refine ⟨p0, p, xs, ys, rfl, rfl, e3 p0 _ h3, k1, sz_of (by rw [h4.length, k2.length]; exact hz), fun r hr => ?_⟩
    exact q r _ _ (fresh_back (e2.trans e3) hr) ((e2.trans e3).trans (Ex.new hr)) upd_same (((h4.mono (ex_tx e3)).append k2).mono (ex_tx (Ex.new hr)))
/-- list(t), tuple(l) -/
theorem evn_listT (h : EvD ta σ H (.tuple ds)) : EvN (tCB (fun xs H Q => ∃ p ys, xs = [.ref p] ∧ (SqL K H p ys ∨ SqT K H p ys) ∧ ∀ l, H l = none → Q (.ref l) (upd H l (.lst ys))) (tCons ta tNil)) σ H ds := fun H1 e Q q =>
  h H1 e _ fun v H2 e2 k => by
    obtain ⟨a, xs, rfl, h1, h2⟩ := k.tup_inv
    exact ⟨a, xs, rfl, Or.inr h1.sq, fun l hl => q l xs _ (fresh_back e2 hl) (e2.trans (Ex.new hl)) upd_same (h2.mono (ex_tx (Ex.new hl)))⟩
theorem evn_listL {a : Addr} (h : Ev ta σ H (.ref a)) (hl : LD H a ds) : EvN (tCB (fun xs H Q => ∃ p ys, xs = [.ref p] ∧ (SqL K H p ys ∨ SqT K H p ys) ∧ ∀ l, H l = none → Q (.ref l) (upd H l (.lst ys))) (tCons ta tNil)) σ H ds := fun H1 e Q q =>
  h H1 e _ fun H2 e2 => by
    obtain ⟨xs, h1, h2⟩ := hl.mono (e.trans e2)
    exact ⟨a, xs, rfl, Or.inl (SqL.of h1), fun l hl => q l xs _ (fresh_back e2 hl) (e2.trans (Ex.new hl)) upd_same (h2.mono (ex_tx (Ex.new hl)))⟩
theorem evd_tupL {a : Addr} (h : Ev ta σ H (.ref a)) (hl : LD H a ds) : EvD (tCB (rTupF K) (tCons ta tNil)) σ H (.tuple ds) := fun H1 e Q q =>
  h H1 e _ fun H2 e2 => by
    obtain ⟨xs, h1, h2⟩ := hl.mono (e.trans e2)
    exact ⟨a, xs, rfl, Or.inl ⟨SqL.of h1, fun l o hl ho => q _ _ (e2.trans (Ex.new hl)) (.tup (.new ho) (h2.mono (ex_tx (Ex.new hl))))⟩⟩
theorem evd_tupN (h : EvN ta σ H ds) : EvD (tCB (rTupF K) (tCons ta tNil)) σ H (.tuple ds) := fun H1 e Q q =>
  h H1 e _ fun p xs H2 hp e2 h1 h2 => ⟨p, xs, rfl, Or.inl ⟨SqL.of h1, fun l o hl ho => q _ _ (e2.trans (Ex.new hl)) (.tup (.new ho) (h2.mono (ex_tx (Ex.new hl))))⟩⟩
end
end K57
namespace K57
open PySem PySem.Spec PyProof.Rows L2 Evl R57
section
variable {K : PySem.W.Frag} {σ : L2.St} {H : Hp} {te tl ta tb tc : TE} {ds es : List PyData} {D : Ends} {tu tz : TS} {g : TG} {d : PyData} {v : V}
theorem q_parVN {i j : Nat} (h1 : Ev ta σ H v) (h2 : EvN tb σ H ds) (k : ∀ p xs H1, H p = none → Ex H H1 → H1 p = some (.lst xs) → TDs H1 xs ds → tz D ((σ.set i (some v)).set j (some (.ref p))) H1) : tSeq (tPar i j (tCons ta (tCons tb tNil))) tz D σ H :=
  h1 H (Ex.refl H) _ fun H1 e1 => h2 H1 e1 _ fun p xs H2 hp e2 hl t => ⟨v, .ref p, rfl, k p xs H2 (fresh_back e1 hp) (e1.trans e2) hl t⟩
theorem q_parNN {i j : Nat} (h1 : EvN ta σ H ds) (h2 : EvN tb σ H es) (k : ∀ p q xs ys H1, H p = none → H q = none → p ≠ q → Ex H H1 → H1 p = some (.lst xs) → TDs H1 xs ds → H1 q = some (.lst ys) → TDs H1 ys es → tz D ((σ.set i (some (.ref p))).set j (some (.ref q))) H1) :
    tSeq (tPar i j (tCons ta (tCons tb tNil))) tz D σ H :=
  h1 H (Ex.refl H) _ fun p xs H1 hp e1 hl t => h2 H1 e1 _ fun q ys H2 hq e2 hl2 t2 => ⟨.ref p, .ref q, rfl, k p q xs ys H2 hp (fresh_back e1 hq) (fun z => by rw [← z, hl] at hq; cases hq) (e1.trans e2) (e2 _ _ hl) (t.mono (ex_tx e2)) hl2 t2⟩
theorem q_parDN {i j : Nat} (h1 : EvD ta σ H d) (h2 : EvN tb σ H ds) (k : ∀ v p xs H1, H p = none → Ex H H1 → TD H1 v d → H1 p = some (.lst xs) → TDs H1 xs ds → tz D ((σ.set i (some v)).set j (some (.ref p))) H1) : tSeq (tPar i j (tCons ta (tCons tb tNil))) tz D σ H :=
  h1 H (Ex.refl H) _ fun v H1 e1 tv => h2 H1 e1 _ fun p xs H2 hp e2 hl t => ⟨v, .ref p, rfl, k v p xs H2 (fresh_back e1 hp) (e1.trans e2) (tv.mono (ex_tx e2)) hl t⟩
theorem q_par3VNN {i j l : Nat} (h1 : Ev ta σ H v) (h2 : EvN tb σ H ds) (h3 : EvN tc σ H es)
    (k : ∀ p q xs ys H1, H p = none → H q = none → p ≠ q → Ex H H1 → H1 p = some (.lst xs) → TDs H1 xs ds → H1 q = some (.lst ys) → TDs H1 ys es → tz D (((σ.set i (some v)).set j (some (.ref p))).set l (some (.ref q))) H1) :
    tSeq (tPar3 i j l (tCons ta (tCons tb (tCons tc tNil)))) tz D σ H :=
  h1 H (Ex.refl H) _ fun H0 e0 => h2 H0 e0 _ fun p xs H1 hp e1 hl t => h3 H1 (e0.trans e1) _ fun q ys H2 hq e2 hl2 t2 =>
    ⟨v, .ref p, .ref q, rfl, k p q xs ys H2 (fresh_back e0 hp) (fresh_back (e0.trans e1) hq) (fun z => by rw [← z, hl] at hq; cases hq) ((e0.trans e1).trans e2) (e2 _ _ hl) (t.mono (ex_tx e2)) hl2 t2⟩
end
end K57
namespace K57
open PySem PySem.Spec PyProof.Rows L2 Evl R57
section
variable {K : PySem.W.Frag} {σ : L2.St} {H : Hp} {te tx : TE} {t : TT} {D : Ends} {tz : TS} {d : PyData}
theorem not_one {H : Hp} {l : Addr} {xs : List V} (h : H l = some (.lst xs)) : NoT (fun a => a = l) H := fun a ys e => by
  rw [show a = l from e]
  exact not_lst h
/-- if t: xs.append(e), and on -/
theorem q_whenApp {b : Bool} {l : Addr} {xs : List V} {ds : List PyData} (h : EvT t σ H b) (hx : Ev tx σ H (.ref l)) (hl : H l = some (.lst xs)) (ht : TDs H xs ds) (he : b = true → EvD te σ H d) (hz : xs.length < 100000)
    (k : ∀ ys H1, ExX (fun a => a = l) H H1 → TX H H1 → H1 l = some (.lst ys) → TDs H1 ys (ds ++ if b = true then [d] else []) → tz D σ H1) :
    tSeq (tIfS t (tDrop (tBM K "list" rAppend tx (tCons te tNil))) tNext) tz D σ H :=
  h H (Ex.refl H) _ fun H1 e1 => by
    cases b with
    | true =>
      show tDrop (tBM K "list" rAppend tx (tCons te tNil)) { D with nx := tz D } σ H1
      refine s_appD (e1 _ _ hl) (hx.mono e1) ((he rfl).mono e1) hz fun v H2 e2 tv => ?_
      have t1 : TX H2 (upd H2 l (.lst (xs ++ [v]))) := tx_lst (TX.refl H2) (e2 _ _ (e1 _ _ hl))
      refine k (xs ++ [v]) _ ((exx_of (e1.trans e2)).put rfl) ((ex_tx (e1.trans e2)).trans t1) upd_same ?_
      exact ((ht.mono (ex_tx (e1.trans e2))).snoc tv).mono t1
    | false =>
      show tz D σ H1
      refine k xs H1 (exx_of e1) (ex_tx e1) (e1 _ _ hl) ?_
      rw [if_neg Bool.false_ne_true, List.append_nil]
      exact ht.mono (ex_tx e1)
end
end K57
set_option Elab.async false
set_option linter.all false
set_option maxRecDepth 100000
set_option maxHeartbeats 4000000
/-! data compared: what == says, how deep it is -/
namespace K57
open PySem PySem.Spec PyProof.Rows L2 Evl R57
/-- laid out, no deeper than k -/
def Sh (k : Nat) (d : PyData) : Prop := d.canLay0 = true ∧ d.depth ≤ k
theorem Sh.mono {k j : Nat} {d : PyData} (h : Sh k d) (e : k ≤ j) : Sh j d := ⟨h.1, Nat.le_trans h.2 e⟩
theorem Sh.ok {k : Nat} {d : PyData} (h : Sh k d) (hk : k ≤ 64 := by decide) : SeqAt.shaped d = true := by
  show (d.canLay0 && decide (d.depth ≤ 64)) = true
  rw [Bool.and_eq_true]
  exact ⟨h.1, decide_eq_true (Nat.le_trans h.2 hk)⟩
theorem sh_int (i : Int) : Sh 3 (.int i) := ⟨by simp only [PyData.canLay0], by simp only [PyData.depth] <;> omega⟩
theorem sh_int0 (i : Int) : Sh 1 (.int i) := ⟨by simp only [PyData.canLay0], by simp only [PyData.depth] <;> omega⟩
theorem sh_non : Sh 3 .none := ⟨by simp only [PyData.canLay0], by simp only [PyData.depth] <;> omega⟩
theorem sh_all {k : Nat} : ∀ {ds : List PyData}, (∀ d ∈ ds, Sh k d) → PyData.canLayAll0 ds = true ∧ PyData.depthAll ds ≤ k
  | [], _ => ⟨by simp only [PyData.canLayAll0], by simp only [PyData.depthAll] <;> omega⟩
  | d :: ds, h => by
    have h1 := h d List.mem_cons_self
    have h2 := sh_all (k := k) (ds := ds) fun e he => h e (List.mem_cons_of_mem _ he)
    refine ⟨?_, ?_⟩
    · simp only [PyData.canLayAll0, h1.1, h2.1, Bool.and_self]
    · have a := h1.2
      have b := h2.2
      simp only [PyData.depthAll]
      omega
theorem sh_list {k : Nat} {ds : List PyData} (h : ∀ d ∈ ds, Sh k d) : Sh (k + 1) (.list ds) := by
  have q := sh_all h
  have b := q.2
  exact ⟨by simp only [PyData.canLay0]; exact q.1, by simp only [PyData.depth]; omega⟩
theorem sh_tup {k : Nat} {ds : List PyData} (h : ∀ d ∈ ds, Sh k d) : Sh (k + 1) (.tuple ds) := by
  have q := sh_all h
  have b := q.2
  exact ⟨by simp only [PyData.canLay0]; exact q.1, by simp only [PyData.depth]; omega⟩
theorem sh_dT (ns : List Int) : Sh 2 (dT ns) := sh_tup fun d h => by
  obtain ⟨i, _, rfl⟩ := List.mem_map.mp h
  exact sh_int0 i
theorem sh_dPr (p : List Int × List Int) : Sh 3 (dPr p) := sh_tup fun d h => by
  rcases List.mem_cons.mp h with e | e
  · rw [e]; exact sh_dT _
  · rw [List.mem_singleton.mp e]; exact sh_dT _
theorem sh_maps {α : Type} {k : Nat} (enc : α → PyData) (he : ∀ a, Sh k (enc a)) (L : List α) : Sh (k + 1) (.list (L.map enc)) := sh_list fun d h => by
  obtain ⟨a, _, rfl⟩ := List.mem_map.mp h
  exact he a
theorem sh_nil : Sh 1 (.list []) := ⟨by simp only [PyData.canLay0, PyData.canLayAll0], by simp only [PyData.depth, PyData.depthAll] <;> omega⟩
/-! ### == -/
theorem eqv_listnil (ds : List PyData) : PyData.eqv (.list ds) (.list []) = ds.isEmpty := by
  cases ds <;> simp only [PyData.eqv, PyData.eqvAll] <;> rfl
theorem eqvAll_map {α : Type} [DecidableEq α] (enc : α → PyData) (he : ∀ a b, PyData.eqv (enc a) (enc b) = decide (a = b)) : ∀ xs ys : List α, PyData.eqvAll (xs.map enc) (ys.map enc) = decide (xs = ys)
  | [], [] => by simp only [List.map_nil, PyData.eqvAll] <;> rfl
  | [], y :: ys => by simp only [List.map_nil, List.map_cons, PyData.eqvAll] <;> simp
  | x :: xs, [] => by simp only [List.map_nil, List.map_cons, PyData.eqvAll] <;> simp
  | x :: xs, y :: ys => by
    simp only [List.map_cons, PyData.eqvAll, he x y, eqvAll_map enc he xs ys]
    by_cases h1 : x = y
    · by_cases h2 : xs = ys
      · simp [h1, h2]
      · simp [h1, h2]
    · simp [h1]
theorem eqv_int (i j : Int) : PyData.eqv (.int i) (.int j) = decide (i = j) := by
  simp only [PyData.eqv]
  by_cases h : i = j
  · simp [h]
  · simp [h]
theorem eqv_dT (a b : List Int) : PyData.eqv (dT a) (dT b) = decide (a = b) := by
  unfold dT
  simp only [PyData.eqv]
  exact eqvAll_map _ eqv_int a b
theorem eqv_lists {α : Type} [DecidableEq α] (enc : α → PyData) (he : ∀ a b, PyData.eqv (enc a) (enc b) = decide (a = b)) (xs ys : List α) : PyData.eqv (.list (xs.map enc)) (.list (ys.map enc)) = decide (xs = ys) := by
  simp only [PyData.eqv]
  exact eqvAll_map enc he xs ys
theorem eqv_dPr (a b : List Int × List Int) : PyData.eqv (dPr a) (dPr b) = decide (a = b) := by
  unfold dPr
  simp only [PyData.eqv, PyData.eqvAll, eqv_dT]
  obtain ⟨a1, a2⟩ := a
  obtain ⟨b1, b2⟩ := b
  by_cases h1 : a1 = b1
  · by_cases h2 : a2 = b2
    · simp [h1, h2]
    · simp [h1, h2]
  · simp [h1]
theorem any_enc {α : Type} [DecidableEq α] (enc : α → PyData) (he : ∀ a b, PyData.eqv (enc a) (enc b) = decide (a = b)) (x : α) (L : List α) : ((L.map enc).any fun z => PyData.eqv z (enc x)) = decide (x ∈ L) := by
  rw [List.any_map]
  by_cases h : x ∈ L
  · rw [decide_eq_true h]
    refine List.any_eq_true.mpr ⟨x, h, ?_⟩
    show PyData.eqv (enc x) (enc x) = true
    rw [he, decide_eq_true rfl]
  · rw [decide_eq_false h]
    refine List.any_eq_false.mpr fun y hy e => ?_
    have e2 : PyData.eqv (enc y) (enc x) = true := e
    rw [he] at e2
    exact h (of_decide_eq_true e2 ▸ hy)
theorem isEmpty_map {α β : Type} (f : α → β) (L : List α) : (L.map f).isEmpty = L.isEmpty := by cases L <;> rfl
section
variable {K : PySem.W.Frag} {σ : L2.St} {H : Hp} {ta : TE} {ds : List PyData}
/-- xs != [] -/
theorem ev_neNil {a : Addr} (h : Ev ta σ H (.ref a)) (hl : LD H a ds) (s : SeqAt.shaped (.list ds) = true) : Ev (tOp (rNeD K) ta (tLst tNil)) σ H (.bl (!ds.isEmpty)) :=
  ev_is (ev_neLN h hl (evn_lst ead_nil (by decide)) s (Sh.ok sh_nil)) (by rw [eqv_listnil])
theorem ev_eqNil {a : Addr} (h : Ev ta σ H (.ref a)) (hl : LD H a ds) (s : SeqAt.shaped (.list ds) = true) : Ev (tOp (rEqD K) ta (tLst tNil)) σ H (.bl ds.isEmpty) :=
  ev_is (ev_eqLN h hl (evn_lst ead_nil (by decide)) s (Sh.ok sh_nil)) (by rw [eqv_listnil])
theorem ev_eqNilN (h : EvN ta σ H ds) (s : SeqAt.shaped (.list ds) = true) : Ev (tOp (rEqD K) ta (tLst tNil)) σ H (.bl ds.isEmpty) :=
  ev_is (ev_eqNN h (evn_lst ead_nil (by decide)) s (Sh.ok sh_nil)) (by rw [eqv_listnil])
end
end K57
set_option Elab.async false
set_option linter.all false
set_option maxRecDepth 100000
set_option maxHeartbeats 4000000
/-! tuples added, .index, sorted, comprehensions of two fors -/
namespace K57
open PySem PySem.Spec PyProof.Rows L2 Evl R57
theorem sorted_two {lo hi : Int} (h : lo ≤ hi) {ns a : List Int} (ha : a.Perm [lo, hi]) (hp : ns.Perm a) (hs : ns.Pairwise (· ≤ ·)) : ns = [lo, hi] := by
  have hq := hp.trans ha
  match ns, hq.length_eq with
  | [x, y], _ =>
    have hxy : x ≤ y := by
      have := List.pairwise_cons.mp hs
      exact this.1 y (List.mem_singleton.mpr rfl)
    have m1 : x = lo ∨ x = hi := by
      have := hq.mem_iff.mp (show x ∈ [x, y] by simp)
      simpa using this
    have m2 : y = lo ∨ y = hi := by
      have := hq.mem_iff.mp (show y ∈ [x, y] by simp)
      simpa using this
    have m3 : lo = x ∨ lo = y := by
      have := hq.mem_iff.mpr (show lo ∈ [lo, hi] by simp)
      simpa using this
    have m4 : hi = x ∨ hi = y := by
      have := hq.mem_iff.mpr (show hi ∈ [lo, hi] by simp)
      simpa using this
    have e1 : x = lo := by omega
    have e2 : y = hi := by omega
    rw [e1, e2]
theorem flat_len2 {α β γ : Type} (M : List β) (gv : α → β → γ) : ∀ L : List α, (L.flatMap fun c => M.map (gv c)).length = L.length * M.length
  | [] => by simp
  | c :: L => by
    rw [List.flatMap_cons, List.length_append, flat_len2 M gv L, List.length_map, List.length_cons, Nat.succ_mul, Nat.add_comm]
section
variable {K : PySem.W.Frag} {σ : L2.St} {H H' : Hp} {ta tb te tl tl1 tx : TE} {d e : PyData} {ds es : List PyData} {i j : Int}
/-- t + u -/
theorem evd_catT (h1 : EvD ta σ H (.tuple ds)) (h2 : EvD tb σ H (.tuple es)) (hz : ds.length + es.length ≤ 1000) : EvD (tOp (rCatF K) ta tb) σ H (.tuple (ds ++ es)) := fun H1 e Q q =>
  h1 H1 e _ fun v H2 e2 k1 => h2 H2 (e.trans e2) _ fun u H3 e3 k2 => by
    obtain ⟨a, xs, rfl, p1, t1⟩ := (k1.mono (ex_tx e3)).tup_inv
    obtain ⟨b, ys, rfl, p2, t2⟩ := k2.tup_inv
    have l1 := t1.length
    have l2 := t2.length
    have hex := e2.trans e3
    refine ⟨a, b, xs, ys, rfl, rfl, p1.sq, p2.sq, sz_of (by omega), fun z => ?_, fun _ z => ?_, fun _ _ p o hp ho => ?_⟩
    · have z2 : ds = [] := List.eq_nil_of_length_eq_zero (by rw [← l1, z] <;> rfl)
      rw [z2] at q
      exact q _ _ hex (.tup p2 t2)
    · have z2 : es = [] := List.eq_nil_of_length_eq_zero (by rw [← l2, z] <;> rfl)
      rw [z2, List.append_nil] at q
      exact q _ _ hex (.tup p1 t1)
    · exact q _ _ (hex.trans (Ex.new hp)) (.tup (.new ho) ((t1.append t2).mono (ex_tx (Ex.new hp))))
/-- t.index(k) -/
theorem ev_idx {ns : List Int} {k : Int} (h : EvD ta σ H (dT ns)) (hk : Ev tb σ H (.int k)) (hm : k ∈ ns) : Ev (tTIx (rTIdx K) ta (tCons tb tNil)) σ H (.int (idx ns k)) := fun H1 e Q q =>
  h H1 e _ fun v H2 e2 k1 => by
    obtain ⟨a, rfl, p1⟩ := k1.dT_inv
    refine ⟨⟨a, _, rfl, p1⟩, hk H2 (e.trans e2) _ fun H3 e3 => ⟨a, ns, k, ns.idxOf k, rfl, rfl, (p1.mono e3).sq, idx_get hm, fun m hlt hc => ?_, q H3 (e2.trans e3)⟩⟩
    obtain ⟨g1, g2⟩ := List.getElem?_eq_some_iff.mp hc
    have g3 := List.not_of_lt_findIdx (p := (· == k)) hlt
    rw [g2, beq_self_eq_true k] at g3
    cases g3
/-- sorted([a, b]) -/
theorem evn_sort2 {lo hi a b : Int} (ha : Ev ta σ H (.int a)) (hb : Ev tb σ H (.int b)) (h : lo ≤ hi) (hp : [a, b].Perm [lo, hi]) : EvN (tCB (rSorted K) (tCons (tLst (tCons ta (tCons tb tNil))) tNil)) σ H ([lo, hi].map PyData.int) := fun H1 e Q q =>
  ha H1 e _ fun H2 e2 => hb H2 (e.trans e2) _ fun H3 e3 => ⟨sz_of (show 2 ≤ 100000 by decide), fun p hp' => by
    refine ⟨p, [a, b], rfl, SqL.of upd_same, (show 2 < 64 by decide), fun ns r pm so hr => ?_⟩
    rw [sorted_two h hp pm so]
    have ex : Ex H1 (upd H3 p (.lst [.int a, .int b])) := (e2.trans e3).trans (Ex.new hp')
    exact q r _ _ (fresh_back ex hr) (ex.trans (Ex.new hr)) upd_same (.ints _)⟩
/-- [e for x in xs for y in ys] -/
theorem evn_lc2 {α β : Type} {a b : Addr} {i j : Nat} {vs vs1 : List Nat} (L : List α) (enc : α → PyData) (M : List β) (enc2 : β → PyData) (gv : α → β → PyData) (h : Ev tl σ H (.ref a)) (hl : LD H a (L.map enc)) (hm : LD H b (M.map enc2)) (hn : L.length * M.length ≤ 40000)
    (h1 : ∀ x H', Ev tl1 ((wipe σ vs).set i (some x)) H' (.ref b)) (hw : ∀ x, wipe ((wipe σ vs).set i (some x)) vs = wipe σ vs)
    (hw1 : ∀ x y, wipe ((wipe ((wipe σ vs).set i (some x)) vs1).set j (some y)) vs1 = wipe ((wipe σ vs).set i (some x)) vs1)
    (he : ∀ x y c d H2, c ∈ L → d ∈ M → Ex H H2 → TD H2 x (enc c) → TD H2 y (enc2 d) → EvD te ((wipe ((wipe σ vs).set i (some x)) vs1).set j (some y)) H2 (gv c d)) :
    EvN (tLc2 (iList K tl) (gName i) tYes (iList K tl1) (gName j) tYes te vs vs1) σ H (L.flatMap fun c => M.map (gv c)) := fun H0 e0 Q q => h H0 e0 _ fun H1 e1 => by
  have q := q.mono e1
  have e1 := e0.trans e1
  obtain ⟨xs, k1, k2⟩ := hl.mono e1
  obtain ⟨ys, m1, m2⟩ := hm.mono e1
  have hxl : xs.length = L.length := by rw [k2.length, List.length_map]
  have hyl : ys.length = M.length := by rw [m2.length, List.length_map]
  refine ⟨a, rfl, ⟨xs, SqL.of k1⟩, fun D hD => ?_⟩
  refine ⟨fun i m H' => m + i = L.length ∧ Ex H1 H' ∧ ∃ acc, H' D = some (.lst acc) ∧ TDs H' acc ((L.take i).flatMap fun c => M.map (gv c)), ⟨L.length, by omega, Ex.new hD, [], upd_same, .nil⟩, ?_⟩
  rintro i m H' ⟨hmi, ex, acc, hacc, tacc⟩
  have hq : SqL K H' a xs := SqL.of (ex _ _ k1)
  by_cases hi : i < L.length
  · refine .inr ⟨⟨xs, xs[i]'(by omega), hq, by simp [hxl, hi]⟩, fun H' => Ex H1 H' ∧ ∃ acc, H' D = some (.lst acc) ∧ TDs H' acc ((L.take (i + 1)).flatMap fun c => M.map (gv c)), fun H2 h2 => ⟨m - 1, by omega, by omega, h2⟩, ?_⟩
    rintro x H2 ⟨rfl, hx⟩
    have hx := hx xs hq
    obtain ⟨d, hd1, hd2⟩ := k2.getV hx
    rw [List.getElem?_map, List.getElem?_eq_getElem hi] at hd1
    obtain rfl := Option.some.inj hd1
    refine ⟨hw _, ?_⟩
    refine h1 x _ _ (Ex.refl _) _ fun H3 e3 => ⟨b, rfl, ⟨ys, SqL.of ((ex.trans e3) _ _ m1)⟩, ?_⟩
    have hlen : ∀ j : Nat, ((L.take i).flatMap fun c => M.map (gv c)).length = (L.take i).length * M.length := fun _ => by
      exact flat_len2 _ _ _
    refine ⟨fun j k H4 => k + j = M.length ∧ Ex H1 H4 ∧ ∃ acc, H4 D = some (.lst acc) ∧ TDs H4 acc (((L.take i).flatMap fun c => M.map (gv c)) ++ (M.take j).map (gv L[i])), ⟨M.length, by omega, ex.trans e3, acc, e3 _ _ hacc, ?_⟩, ?_⟩
    · rw [List.take_zero, List.map_nil, List.append_nil]
      exact tacc.mono (ex_tx e3)
    · rintro j k H4 ⟨hk, ex4, acc4, hacc4, tacc4⟩
      have hq4 : SqL K H4 b ys := SqL.of (ex4 _ _ m1)
      by_cases hj : j < M.length
      · refine .inr ⟨⟨ys, ys[j]'(by omega), hq4, by simp [hyl, hj]⟩, fun H4 => Ex H1 H4 ∧ ∃ acc, H4 D = some (.lst acc) ∧ TDs H4 acc (((L.take i).flatMap fun c => M.map (gv c)) ++ (M.take (j + 1)).map (gv L[i])), fun H5 h5 => ⟨k - 1, by omega, by omega, h5⟩, ?_⟩
        rintro y H5 ⟨rfl, hy⟩
        have hy := hy ys hq4
        obtain ⟨d2, hd3, hd4⟩ := m2.getV hy
        rw [List.getElem?_map, List.getElem?_eq_getElem hj] at hd3
        obtain rfl := Option.some.inj hd3
        refine ⟨hw1 _ _, ?_⟩
        show te _ _ _
        refine he x y L[i] M[j] _ (List.getElem_mem hi) (List.getElem_mem hj) (e1.trans ex4) (hd2.mono (ex_tx ex4)) (hd4.mono (ex_tx ex4)) _ (Ex.refl _) _ fun v H6 e6 tv => ⟨acc4, e6 _ _ hacc4, sz_lt ?_, Ex.mut (ex4.trans e6) hD, acc4 ++ [v], upd_same, ?_⟩
        · rw [tacc4.length, List.length_append, hlen 0, List.length_map, List.length_take, List.length_take]
          have a1 : min i L.length = i := by omega
          have a2 : min j M.length = j := by omega
          rw [a1, a2]
          have a3 : (i + 1) * M.length ≤ L.length * M.length := Nat.mul_le_mul_right _ (by omega)
          rw [Nat.succ_mul] at a3
          omega
        · rw [List.take_succ, List.getElem?_eq_getElem hj, List.map_append, ← List.append_assoc]
          exact ((tacc4.mono (ex_tx e6)).snoc tv).mono (tx_lst (TX.refl _) (e6 _ _ hacc4))
      · have hjm : j = M.length := by omega
        refine .inl ⟨⟨ys, hq4, by omega⟩, ex4, acc4, hacc4, ?_⟩
        rw [List.take_succ, List.getElem?_eq_getElem hi, List.flatMap_append]
        rw [hjm, List.take_length] at tacc4
        show TDs H4 acc4 (_ ++ [L[i]].flatMap _)
        rw [List.flatMap_singleton]
        exact tacc4
  · have him : i = L.length := by omega
    refine .inl ⟨⟨xs, hq, by omega⟩, ?_⟩
    rw [him, List.take_length] at tacc
    exact q D acc H' hD ex hacc tacc
end
end K57
namespace K57
open PySem PySem.Spec PyProof.Rows L2 Evl R57
section
variable {K : PySem.W.Frag} {σ : L2.St} {H H' : Hp} {ta tb te tl tl1 tx : TE} {d e : PyData} {ds es : List PyData} {i j : Int}
/-- x is not None, x data -/
def noneD : PyData → Bool
  | .none => true
  | _ => false
theorem td_none {v : V} (t : TD H v d) : decide (v = .non) = noneD d := by
  cases t <;> simp [noneD]
theorem evd_notN (h : EvD ta σ H d) : Ev (tOp (fun x y H Q => y = .non ∧ Q (.bl (!decide (x = .non))) H) ta (tC .non)) σ H (.bl (!noneD d)) := fun H1 e Q q => h H1 e _ fun v H2 e2 k => ⟨rfl, by
  rw [td_none k]
  exact q H2 e2⟩
theorem evd_isN (h : EvD ta σ H d) : Ev (tOp (fun x y H Q => y = .non ∧ Q (.bl (decide (x = .non))) H) ta (tC .non)) σ H (.bl (noneD d)) := fun H1 e Q q => h H1 e _ fun v H2 e2 k => ⟨rfl, by
  rw [td_none k]
  exact q H2 e2⟩
/-- sum(t) -/
theorem ev_tsum {ns : List Int} (h : EvD ta σ H (dT ns)) : Ev (tCB (rTSum K) (tCons ta tNil)) σ H (.int ns.sum) := fun H1 e Q q => h H1 e _ fun v H2 e2 k => by
  obtain ⟨a, rfl, h1⟩ := k.dT_inv
  exact ⟨a, ns, rfl, h1.sq, q H2 e2⟩
theorem at0 {α : Type} (a : α) (l : List α) : atI (a :: l) 0 = some a := atI_nat (j := 0) rfl
theorem at1 {α : Type} (a b : α) (l : List α) : atI (a :: b :: l) 1 = some b := atI_nat (j := 1) rfl
end
end K57
namespace K57
open PySem PySem.Spec PyProof.Rows L2 Evl R57
section
variable {σ : L2.St} {H : Hp} {d : PyData} {ds : List PyData} {sp : Sp} {dvs vs : List V} {E : XK} {ta : TA}
/-- calls, the arguments as values -/
theorem evd_callV (h : EvA ta σ H vs) (hs : ∀ H', Ex H H' → ∀ Q E, RetD d H' Q → sp (vs ++ dvs) H' Q E) : EvD (tCall sp dvs E ta) σ H d := fun H1 e Q q => h H1 e _ fun H2 e2 => hs H2 (e.trans e2) Q E (q.mono e2)
theorem evn_callV (h : EvA ta σ H vs) (hs : ∀ H', Ex H H' → ∀ Q E, RetN ds H' Q → sp (vs ++ dvs) H' Q E) : EvN (tCall sp dvs E ta) σ H ds := fun H1 e Q q => h H1 e _ fun H2 e2 => hs H2 (e.trans e2) Q E (q.mono e2)
end
end K57
set_option maxRecDepth 100000
/-! the replies, in plain Lean -/
namespace R57
inductive Rep
  | seq (l : List Int)
  | tri (t : Int × Int × Int)
  | ref (r : Int × Int × Int × Int)
def firstRef (ls : List (List Int)) (d : List Int) : Option (Int × Int × Int × Int) := (invs d).findSome? fun p => (refs ls d p.1 p.2).head?
/-- decide_there -/
def dec (ls : List (List Int)) (d : List Int) : Rep :=
  match triple? d with
  | some t => .tri t
  | none => match firstRef ls d with
    | some r => .ref r
    | none => .seq (seqFor d)
def isSeq : Rep → Bool
  | .seq _ => true
  | _ => false
/-- no triple, nobody refuses -/
def good (ls : List (List Int)) (d : List Int) : Bool := (triple? d).isNone && (firstRef ls d).isNone
theorem isSeq_dec (ls : List (List Int)) (d : List Int) : isSeq (dec ls d) = good ls d := by
  unfold dec good
  cases triple? d with
  | some t => rfl
  | none => cases firstRef ls d <;> rfl
end R57
set_option maxRecDepth 100000
set_option linter.all false
/-! the displacements without a triple, counted out once: what is not counted out has a triple -/
namespace R57
abbrev Cd := List (Nat × Bool × Bool)
/-- one more code e at the end; what stood so far gets its flags (a greater one before, a lesser one after); true at once when some code has both -/
noncomputable def addC (n e : Nat) (st : Cd) : Bool → Bool → (Bool → Bool → Cd → Bool) → Bool :=
  List.rec (motive := fun _ => Bool → Bool → (Bool → Bool → Cd → Bool) → Bool) (fun A B k => k A B [])
    (fun h _ ih A B k => Prod.rec (motive := fun _ => Bool) (fun f ab => Prod.rec (motive := fun _ => Bool) (fun a b =>
      cond (Nat.blt e f)
        (cond a true (ih true B (fun A B r => k A B ((f, false, true) :: r))))
        (cond (Nat.blt (Nat.add f n) e)
          (cond b true (ih A true (fun A B r => k A B ((f, true, false) :: r))))
          (ih A B (fun A B r => k A B ((f, a, b) :: r))))) ab) h) st
noncomputable def addE (n e : Nat) (st : Cd) (k : Cd → Bool) : Bool :=
  addC n e st false false fun A B r => cond (and A B) true (k (r ++ [(e, A, B)]))
noncomputable def tryR (n i : Nat) (st : Cd) (k : Cd → Bool) (p : Nat) : Bool :=
  and (addE n (Nat.add p n) st k) (cond (Nat.blt i p) (addE n p st k) (cond (Nat.blt p i) (addE n (Nat.add p (Nat.add n n)) st k) true))
/-- for each item of a list and the others -/
noncomputable def each (l : List Nat) : List Nat → (Nat → List Nat → Bool) → Bool :=
  List.rec (motive := fun _ => List Nat → (Nat → List Nat → Bool) → Bool) (fun _ _ => true) (fun p rest ih pre k => and (k p (pre ++ rest)) (ih (p :: pre) k)) l
noncomputable def dfs (n : Nat) (leaf : Cd → Bool) (fuel : Nat) : Nat → List Nat → Cd → Bool :=
  Nat.rec (motive := fun _ => Nat → List Nat → Cd → Bool) (fun _ _ st => leaf st) (fun _ ih i free st => each free [] fun p rest => tryR n i st (fun st' => ih (Nat.succ i) rest st') p) fuel
def disp (n : Nat) (es : List Nat) : List Int := (es.zipIdx).map fun p => ((p.1 : Nat) : Int) - (p.2 : Nat) - (n : Nat)
def rowOf (n : Int) (d : List Int) : List Int := (rng 0 n).map fun p => ((rng 0 n).find? fun i => decide ((i + gi d i) % n = p)).getD 0
def leafSeq (n : Nat) (st : Cd) : Bool := let d := disp n (st.map (·.1)); !decide (d.sum = 0) || seqOk n (rowOf n d) d
def leafStep (n : Nat) (st : Cd) : Bool := let d := disp n (st.map (·.1)); !decide (d.sum = 0) || (let row := rowOf n d; (rng 0 n).all fun p => stepOk n row d p)
/-! ### what it means -/
def HasA (n : Nat) (c : List Nat) (j f : Nat) : Prop := ∃ (m g : Nat), c[m]? = some g ∧ ((m < j ∧ f < g) ∨ (j < m ∧ f + n < g))
def HasB (n : Nat) (c : List Nat) (j f : Nat) : Prop := ∃ (m g : Nat), c[m]? = some g ∧ ((j < m ∧ g < f) ∨ (m < j ∧ g + n < f))
def Trip (n : Nat) (c : List Nat) : Prop := ∃ (j f : Nat), c[j]? = some f ∧ HasA n c j f ∧ HasB n c j f
theorem get_app {α : Type} {c : List α} {m : Nat} {g : α} (x : List α) (h : c[m]? = some g) : (c ++ x)[m]? = some g := by
  rw [List.getElem?_append_left (List.getElem?_eq_some_iff.mp h).1]
  exact h
theorem HasA.app {n : Nat} {c : List Nat} {j f : Nat} (x : List Nat) (h : HasA n c j f) : HasA n (c ++ x) j f := let ⟨m, g, h1, h2⟩ := h; ⟨m, g, get_app x h1, h2⟩
theorem HasB.app {n : Nat} {c : List Nat} {j f : Nat} (x : List Nat) (h : HasB n c j f) : HasB n (c ++ x) j f := let ⟨m, g, h1, h2⟩ := h; ⟨m, g, get_app x h1, h2⟩
theorem Trip.app {n : Nat} {c : List Nat} (x : List Nat) (h : Trip n c) : Trip n (c ++ x) := let ⟨j, f, h1, h2, h3⟩ := h; ⟨j, f, get_app x h1, h2.app x, h3.app x⟩
/-- flags that are set tell the truth -/
def FlOk (n : Nat) (st : Cd) : Prop := ∀ (j f : Nat) (a b : Bool), st[j]? = some (f, a, b) → (a = true → HasA n (st.map (·.1)) j f) ∧ (b = true → HasB n (st.map (·.1)) j f)
theorem addC_cons (n e f : Nat) (a b : Bool) (st : Cd) (A B : Bool) (k : Bool → Bool → Cd → Bool) : addC n e ((f, a, b) :: st) A B k =
    cond (Nat.blt e f) (cond a true (addC n e st true B (fun A B r => k A B ((f, false, true) :: r))))
      (cond (Nat.blt (Nat.add f n) e) (cond b true (addC n e st A true (fun A B r => k A B ((f, true, false) :: r)))) (addC n e st A B (fun A B r => k A B ((f, a, b) :: r)))) := rfl
theorem blt_t {a b : Nat} (h : Nat.blt a b = true) : a < b := by
  rw [Nat.blt_eq] at h
  exact h
theorem addC_spec (n e : Nat) : ∀ (st : Cd) (A B : Bool) (k : Bool → Bool → Cd → Bool), addC n e st A B k = true →
    (∃ (j f : Nat) (a b : Bool), st[j]? = some (f, a, b) ∧ ((a = true ∧ e < f) ∨ (b = true ∧ f + n < e))) ∨
    ∃ (A' B' : Bool) (r : Cd), k A' B' r = true ∧ r.map (·.1) = st.map (·.1) ∧ (A' = true → A = true ∨ ∃ (m g : Nat), (st.map (·.1))[m]? = some g ∧ e < g) ∧ (B' = true → B = true ∨ ∃ (m g : Nat), (st.map (·.1))[m]? = some g ∧ g + n < e) ∧
      ∀ (j f : Nat) (a b : Bool), r[j]? = some (f, a, b) → ∃ (a0 b0 : Bool), st[j]? = some (f, a0, b0) ∧ (a = true → a0 = true ∨ f + n < e) ∧ (b = true → b0 = true ∨ e < f)
  | [], A, B, k, h => .inr ⟨A, B, [], h, rfl, fun z => .inl z, fun z => .inl z, fun j f a b e => by simp at e⟩
  | (f0, a0, b0) :: st, A, B, k, h => by
    rw [addC_cons] at h
    have wrap : ∀ (A1 B1 a1 b1 : Bool), addC n e st A1 B1 (fun A B r => k A B ((f0, a1, b1) :: r)) = true → (A1 = true → A = true ∨ e < f0) → (B1 = true → B = true ∨ f0 + n < e) → (a1 = true → a0 = true ∨ f0 + n < e) → (b1 = true → b0 = true ∨ e < f0) →
        (∃ (j f : Nat) (a b : Bool), ((f0, a0, b0) :: st)[j]? = some (f, a, b) ∧ ((a = true ∧ e < f) ∨ (b = true ∧ f + n < e))) ∨
        ∃ (A' B' : Bool) (r : Cd), k A' B' r = true ∧ r.map (·.1) = ((f0, a0, b0) :: st).map (·.1) ∧ (A' = true → A = true ∨ ∃ (m g : Nat), (((f0, a0, b0) :: st).map (·.1))[m]? = some g ∧ e < g) ∧ (B' = true → B = true ∨ ∃ (m g : Nat), (((f0, a0, b0) :: st).map (·.1))[m]? = some g ∧ g + n < e) ∧
          ∀ (j f : Nat) (a b : Bool), r[j]? = some (f, a, b) → ∃ (a1 b1 : Bool), ((f0, a0, b0) :: st)[j]? = some (f, a1, b1) ∧ (a = true → a1 = true ∨ f + n < e) ∧ (b = true → b1 = true ∨ e < f) := by
      intro A1 B1 a1 b1 h2 hA hB ha hb
      rcases addC_spec n e st A1 B1 _ h2 with ⟨j, f, a, b, h3, h4⟩ | ⟨A', B', r, h3, h4, h5, h6, h7⟩
      · exact .inl ⟨j + 1, f, a, b, h3, h4⟩
      · refine .inr ⟨A', B', (f0, a1, b1) :: r, h3, ?_, fun z => ?_, fun z => ?_, fun j f a b hj => ?_⟩
        · rw [List.map_cons, List.map_cons, h4]
        · rcases h5 z with q | ⟨m, g, q1, q2⟩
          · rcases hA q with q | q
            · exact .inl q
            · exact .inr ⟨0, f0, rfl, q⟩
          · exact .inr ⟨m + 1, g, q1, q2⟩
        · rcases h6 z with q | ⟨m, g, q1, q2⟩
          · rcases hB q with q | q
            · exact .inl q
            · exact .inr ⟨0, f0, rfl, q⟩
          · exact .inr ⟨m + 1, g, q1, q2⟩
        · cases j with
          | zero =>
            have e1 : (f0, a1, b1) = (f, a, b) := Option.some.inj hj
            injection e1 with e1 e2
            injection e2 with e2 e3
            subst e1 e2 e3
            exact ⟨a0, b0, rfl, ha, hb⟩
          | succ j => exact h7 j f a b hj
    cases h1 : Nat.blt e f0 with
    | true =>
      rw [h1] at h
      have lt := blt_t h1
      cases a0 with
      | true => exact .inl ⟨0, f0, true, b0, rfl, .inl ⟨rfl, lt⟩⟩
      | false => exact wrap true B false true h (fun _ => .inr lt) (fun z => .inl z) (fun z => nomatch z) (fun _ => .inr lt)
    | false =>
      rw [h1] at h
      cases h2 : Nat.blt (Nat.add f0 n) e with
      | true =>
        rw [h2] at h
        have lt : f0 + n < e := blt_t h2
        cases b0 with
        | true => exact .inl ⟨0, f0, a0, true, rfl, .inr ⟨rfl, lt⟩⟩
        | false => exact wrap A true true false h (fun z => .inl z) (fun _ => .inr lt) (fun _ => .inr lt) (fun z => nomatch z)
      | false =>
        rw [h2] at h
        exact wrap A B a0 b0 h (fun z => .inl z) (fun z => .inl z) (fun z => .inl z) (fun z => .inl z)
theorem get_codes {st : Cd} {j : Nat} {f : Nat} {a b : Bool} (h : st[j]? = some (f, a, b)) : (st.map (·.1))[j]? = some f := by
  rw [List.getElem?_map, h] <;> rfl
theorem addE_spec {n e : Nat} {st : Cd} {k : Cd → Bool} (h : addE n e st k = true) (fl : FlOk n st) (nt : ¬ Trip n (st.map (·.1) ++ [e])) : ∃ st', st'.map (·.1) = st.map (·.1) ++ [e] ∧ FlOk n st' ∧ k st' = true := by
  have last : (st.map (·.1) ++ [e])[(st.map (·.1)).length]? = some e := List.getElem?_concat_length
  rcases addC_spec n e st false false _ h with ⟨j, f, a, b, h1, h2⟩ | ⟨A, B, r, h1, h2, h3, h4, h5⟩
  · exfalso
    obtain ⟨g1, g2⟩ := fl j f a b h1
    have hj := get_codes h1
    have hjl : j < (st.map (·.1)).length := (List.getElem?_eq_some_iff.mp hj).1
    rcases h2 with ⟨ha, hlt⟩ | ⟨hb, hlt⟩
    · exact nt ⟨j, f, get_app _ hj, (g1 ha).app _, _, e, last, .inl ⟨hjl, hlt⟩⟩
    · exact nt ⟨j, f, get_app _ hj, ⟨_, e, last, .inr ⟨hjl, hlt⟩⟩, (g2 hb).app _⟩
  · have hA : A = true → HasA n (st.map (·.1) ++ [e]) (st.map (·.1)).length e := fun z => by
      rcases h3 z with q | ⟨m, g, q1, q2⟩
      · cases q
      · exact ⟨m, g, get_app _ q1, .inl ⟨(List.getElem?_eq_some_iff.mp q1).1, q2⟩⟩
    have hB : B = true → HasB n (st.map (·.1) ++ [e]) (st.map (·.1)).length e := fun z => by
      rcases h4 z with q | ⟨m, g, q1, q2⟩
      · cases q
      · exact ⟨m, g, get_app _ q1, .inr ⟨(List.getElem?_eq_some_iff.mp q1).1, q2⟩⟩
    have codes : (r ++ [(e, A, B)]).map (·.1) = st.map (·.1) ++ [e] := by
      rw [List.map_append, h2]
      rfl
    cases hAB : and A B with
    | true =>
      exfalso
      have := Bool.and_eq_true_iff.mp hAB
      exact nt ⟨_, e, last, hA this.1, hB this.2⟩
    | false =>
      rw [hAB] at h1
      refine ⟨r ++ [(e, A, B)], codes, fun j f a b hj => ?_, h1⟩
      rw [codes]
      by_cases hjr : j < r.length
      · rw [List.getElem?_append_left hjr] at hj
        obtain ⟨a0, b0, g1, g2, g3⟩ := h5 j f a b hj
        have hjl : j < (st.map (·.1)).length := (List.getElem?_eq_some_iff.mp (get_codes g1)).1
        obtain ⟨g4, g5⟩ := fl j f a0 b0 g1
        refine ⟨fun z => ?_, fun z => ?_⟩
        · rcases g2 z with q | q
          · exact (g4 q).app _
          · exact ⟨_, e, last, .inr ⟨hjl, q⟩⟩
        · rcases g3 z with q | q
          · exact (g5 q).app _
          · exact ⟨_, e, last, .inl ⟨hjl, q⟩⟩
      · have hl : r.length = (st.map (·.1)).length := by rw [← h2, List.length_map]
        have hj2 : j = r.length := by
          have := (List.getElem?_eq_some_iff.mp hj).1
          rw [List.length_append, List.length_singleton] at this
          omega
        subst hj2
        rw [List.getElem?_concat_length] at hj
        have e1 : (e, A, B) = (f, a, b) := Option.some.inj hj
        injection e1 with e1 e2
        injection e2 with e2 e3
        subst e1 e2 e3
        rw [hl]
        exact ⟨hA, hB⟩
/-- the codes that an item i at the place p may have -/
def CdOk (n i p e : Nat) : Prop := e = p + n ∨ (i < p ∧ e = p) ∨ (p < i ∧ e = p + (n + n))
theorem tryR_spec {n i p e : Nat} {st : Cd} {k : Cd → Bool} (h : tryR n i st k p = true) (c : CdOk n i p e) : addE n e st k = true := by
  unfold tryR at h
  obtain ⟨h1, h2⟩ := Bool.and_eq_true_iff.mp h
  rcases c with c | ⟨c1, c2⟩ | ⟨c1, c2⟩
  · rw [c]
    exact h1
  · have : Nat.blt i p = true := by rw [Nat.blt_eq]; exact c1
    rw [this] at h2
    rw [c2]
    exact h2
  · have l1 : Nat.blt p i = true := by rw [Nat.blt_eq]; exact c1
    have l2 : Nat.blt i p = false := by
      cases hq : Nat.blt i p with
      | false => rfl
      | true =>
        have := blt_t hq
        omega
    rw [l1, l2] at h2
    rw [c2]
    exact h2
theorem each_spec (k : Nat → List Nat → Bool) : ∀ (l pre : List Nat), each l pre k = true → ∀ p ∈ l, ∃ rest, (p :: rest).Perm (pre ++ l) ∧ k p rest = true
  | [], _, _, p, hp => nomatch hp
  | q :: l, pre, h, p, hp => by
    have h' : and (k q (pre ++ l)) (each l (q :: pre) k) = true := h
    obtain ⟨h1, h2⟩ := Bool.and_eq_true_iff.mp h'
    by_cases hq : p = q
    · subst hq
      exact ⟨pre ++ l, List.perm_middle.symm, h1⟩
    · rcases List.mem_cons.mp hp with e | e
      · exact absurd e hq
      · obtain ⟨rest, r1, r2⟩ := each_spec k l (q :: pre) h2 p e
        exact ⟨rest, r1.trans List.perm_middle.symm, r2⟩
theorem dfs_spec {n : Nat} {leaf : Cd → Bool} : ∀ (fuel i : Nat) (free : List Nat) (st : Cd), dfs n leaf fuel i free st = true → FlOk n st → ∀ ps es : List Nat, es.length = fuel → ps.Perm free → ps.length = fuel → (∀ j p e, ps[j]? = some p → es[j]? = some e → CdOk n (i + j) p e) →
    ¬ Trip n (st.map (·.1) ++ es) → ∃ st', st'.map (·.1) = st.map (·.1) ++ es ∧ leaf st' = true
  | 0, i, free, st, h, fl, ps, es, he, hp, hl, hc, nt => by
    have : es = [] := List.eq_nil_of_length_eq_zero he
    subst this
    exact ⟨st, (List.append_nil _).symm, h⟩
  | fuel + 1, i, free, st, h, fl, ps, es, he, hp, hl, hc, nt => by
    match ps, es, hl, he with
    | p :: ps, e :: es, hl, he =>
      have h' : each free [] (fun p rest => tryR n i st (fun st' => dfs n leaf fuel (Nat.succ i) rest st') p) = true := h
      obtain ⟨rest, r1, r2⟩ := each_spec _ free [] h' p (hp.mem_iff.mp List.mem_cons_self)
      have ht := tryR_spec r2 (hc 0 p e rfl rfl)
      have e1 : st.map (·.1) ++ e :: es = (st.map (·.1) ++ [e]) ++ es := by rw [List.append_assoc]; rfl
      obtain ⟨st1, q1, q2, q3⟩ := addE_spec ht fl fun z => nt (by rw [e1]; exact z.app es)
      have pr : ps.Perm rest := List.Perm.cons_inv (hp.trans (show (p :: rest).Perm free from r1).symm)
      obtain ⟨st', s1, s2⟩ := dfs_spec fuel (i + 1) rest st1 q3 q2 ps es (Nat.succ.inj he) pr (Nat.succ.inj hl) (fun j p2 e2 h1 h2 => by
        have := hc (j + 1) p2 e2 h1 h2
        rw [show i + 1 + j = i + (j + 1) by omega]
        exact this) (by rw [q1, ← e1]; exact nt)
      exact ⟨st', by rw [s1, q1, ← e1], s2⟩
theorem flOk_nil (n : Nat) : FlOk n [] := fun j f a b h => by simp at h
end R57
set_option maxRecDepth 100000
set_option linter.all false
/-! every choice without a triple is counted out -/
namespace R57
theorem opts_mem (row : List Int) (n : Int) : ∀ (k : Nat) (o : List Int), o ∈ optsFrom row n (rng 0 (k : Int)) [[]] → o.length = k ∧ ∀ i : Nat, i < k → gi o (i : Int) ∈ ways n (idx row i - i)
  | 0, o, h => by
    rw [rng_nil (by omega)] at h
    rw [List.mem_singleton.mp h]
    exact ⟨rfl, fun i hi => absurd hi (Nat.not_lt_zero i)⟩
  | k + 1, o, h => by
    have e : ((k + 1 : Nat) : Int) = (k : Int) + 1 := by omega
    rw [e, rng_succ (by omega)] at h
    unfold optsFrom at h
    rw [List.foldl_append] at h
    obtain ⟨s, hs, hm⟩ := List.mem_flatMap.mp h
    obtain ⟨z, hz, rfl⟩ := List.mem_map.mp hm
    obtain ⟨h1, h2⟩ := opts_mem row n k s hs
    refine ⟨by rw [List.length_append, h1] <;> rfl, fun i hi => ?_⟩
    unfold gi
    rw [Int.toNat_natCast, List.getD_eq_getElem?_getD]
    by_cases hik : i < k
    · rw [List.getElem?_append_left (by omega)]
      have := h2 i hik
      unfold gi at this
      rw [Int.toNat_natCast, List.getD_eq_getElem?_getD] at this
      exact this
    · have : i = k := by omega
      subst this
      rw [← h1, List.getElem?_concat_length, h1]
      exact hz
theorem options_mem {row o : List Int} (h : o ∈ options row) : o.length = row.length ∧ o.sum = 0 ∧ ∀ i : Nat, i < row.length → gi o (i : Int) ∈ ways row.length (idx row i - i) := by
  unfold options at h
  obtain ⟨h1, h2⟩ := List.mem_filter.mp h
  obtain ⟨h3, h4⟩ := opts_mem row _ _ o h1
  exact ⟨h3, of_decide_eq_true h2, h4⟩
theorem ways_mem {n s z : Int} (h : z ∈ ways n s) : (s = 0 ∧ z = 0) ∨ (0 < s ∧ (z = s ∨ z = s - n)) ∨ (s < 0 ∧ (z = s ∨ z = s + n)) := by
  unfold ways at h
  by_cases h0 : s = 0
  · rw [if_pos h0] at h
    exact .inl ⟨h0, List.mem_singleton.mp h⟩
  · rw [if_neg h0] at h
    by_cases hp : 0 < s
    · rw [if_pos hp] at h
      simp only [List.mem_cons, List.not_mem_nil, or_false] at h
      exact .inr (.inl ⟨hp, h.symm⟩)
    · rw [if_neg hp] at h
      simp only [List.mem_cons, List.not_mem_nil, or_false] at h
      exact .inr (.inr ⟨by omega, h⟩)
/-- what is known of a choice for an arrangement -/
structure Ch (n : Nat) (row d : List Int) : Prop where
  pos : 0 < n
  pm : Pm n row
  len : d.length = n
  sum : d.sum = 0
  at_ : ∀ i : Int, 0 ≤ i → i < n → gi d i ∈ ways n (idx row i - i)
theorem Ch.of {n : Nat} {row d : List Int} (hn : 0 < n) (pm : Pm n row) (h : d ∈ options row) : Ch n row d := by
  obtain ⟨h1, h2, h3⟩ := options_mem h
  rw [pm.length] at h1 h3
  refine ⟨hn, pm, h1, h2, fun i i0 i1 => ?_⟩
  have := h3 i.toNat (by omega)
  rw [show ((i.toNat : Nat) : Int) = i by omega] at this
  exact this
theorem Pm.idx {n : Nat} {row : List Int} (pm : Pm n row) {i : Int} (i0 : 0 ≤ i) (i1 : i < n) : 0 ≤ idx row i ∧ idx row i < n := by
  have h := idx_lt (pm.mem.mpr ⟨i0, i1⟩)
  rw [pm.length] at h
  exact h
section
variable {n : Nat} {row d : List Int}
theorem Ch.small (c : Ch n row d) {i : Int} (i0 : 0 ≤ i) (i1 : i < n) : -(n : Int) < gi d i ∧ gi d i < n := by
  have h1 := c.pm.idx i0 i1
  rcases ways_mem (c.at_ i i0 i1) with h | h | h <;> omega
theorem Ch.mod (c : Ch n row d) {i : Int} (i0 : 0 ≤ i) (i1 : i < n) : (i + gi d i) % (n : Int) = idx row i := by
  have h1 := c.pm.idx i0 i1
  have hn := c.pos
  have e : ∃ k : Int, i + gi d i = idx row i + n * k := by
    rcases ways_mem (c.at_ i i0 i1) with h | ⟨_, h | h⟩ | ⟨_, h | h⟩
    · exact ⟨0, by omega⟩
    · exact ⟨0, by omega⟩
    · exact ⟨-1, by omega⟩
    · exact ⟨0, by omega⟩
    · exact ⟨1, by omega⟩
  obtain ⟨k, e⟩ := e
  rw [e, Int.add_mul_emod_self_left]
  exact Int.emod_eq_of_lt h1.1 h1.2
theorem Ch.rowIs (c : Ch n row d) : rowOf n d = row := by
  have hl := c.pm.length
  apply List.ext_getElem?
  intro k
  unfold rowOf
  rw [List.getElem?_map]
  by_cases hk : k < n
  · rw [rng_get (by omega)]
    have hg := gi_get (l := row) (i := (k : Int)) (by omega) (by omega)
    rw [Int.toNat_natCast] at hg
    rw [hg]
    show some _ = _
    congr 1
    rw [show (0 : Int) + (k : Int) = k by omega]
    have hi := c.pm.gi (i := (k : Int)) (by omega) (by omega)
    have hk2 : idx row (gi row (k : Int)) = k := idx_gi c.pm.nodup (by omega) (by omega)
    have hsat : decide ((gi row (k : Int) + gi d (gi row k)) % (n : Int) = k) = true := decide_eq_true (by rw [c.mod hi.1 hi.2, hk2])
    cases hf : (rng 0 (n : Int)).find? (fun i => decide ((i + gi d i) % (n : Int) = k)) with
    | none =>
      exfalso
      have := List.find?_eq_none.mp hf _ (mem_rng.mpr hi)
      exact this hsat
    | some j =>
      have h1 := List.find?_some hf
      have h2 := mem_rng.mp (List.mem_of_find?_eq_some hf)
      have h3 := of_decide_eq_true h1
      rw [c.mod h2.1 h2.2] at h3
      show ((rng 0 (n : Int)).find? (fun i => decide ((i + gi d i) % (n : Int) = k))).getD 0 = gi row k
      rw [hf]
      show j = gi row k
      exact idx_inj (c.pm.mem.mpr h2) (gi_mem (by omega) (by omega)) (h3.trans hk2.symm)
  · rw [List.getElem?_eq_none (by rw [rng_length]; omega), List.getElem?_eq_none (by omega)]
    rfl
end
/-! ### ends of copies, triples -/
theorem endC_shift {d : List Int} (u k : Int) : endC d (u + (d.length : Int) * k) = endC d u + (d.length : Int) * k := by
  unfold endC
  rw [Int.add_mul_emod_self_left]
  omega
theorem endC_at {d : List Int} {i : Int} (i0 : 0 ≤ i) (i1 : i < d.length) : endC d i = i + gi d i := by
  unfold endC
  rw [Int.emod_eq_of_lt i0 i1]
/-- every displacement is less than a turn -/
def Small (d : List Int) : Prop := 0 < d.length ∧ ∀ i : Int, 0 ≤ i → i < d.length → -(d.length : Int) < gi d i ∧ gi d i < d.length
theorem Ch.smallD {n : Nat} {row d : List Int} (c : Ch n row d) : Small d := by
  refine ⟨by rw [c.len]; exact c.pos, fun i i0 i1 => ?_⟩
  rw [c.len] at i1 ⊢
  exact c.small i0 i1
theorem Small.bound {d : List Int} (s : Small d) (u : Int) : u - (d.length : Int) < endC d u ∧ endC d u < u + d.length := by
  have hp := s.1
  have h0 : 0 ≤ u % (d.length : Int) := Int.emod_nonneg _ (by omega)
  have h1 : u % (d.length : Int) < d.length := Int.emod_lt_of_pos _ (by omega)
  have := s.2 _ h0 h1
  unfold endC
  omega
theorem no_triple {d : List Int} (s : Small d) (h : triple? d = none) {x y z : Int} (xy : x < y) (yz : y < z) (h1 : endC d y < endC d x) (h2 : endC d z < endC d y) : False := by
  have hp := s.1
  have hm := Int.emod_add_mul_ediv x (d.length : Int)
  generalize hk : x / (d.length : Int) = k at hm
  generalize hx : x % (d.length : Int) = x' at hm
  have x0 : 0 ≤ x' := by rw [← hx]; exact Int.emod_nonneg _ (by omega)
  have x1 : x' < d.length := by rw [← hx]; exact Int.emod_lt_of_pos _ (by omega)
  have ex : endC d x = endC d x' + (d.length : Int) * k := by rw [← hm, endC_shift]
  have ey : endC d y = endC d (y - (d.length : Int) * k) + (d.length : Int) * k := by
    rw [← endC_shift]
    congr 1
    omega
  have ez : endC d z = endC d (z - (d.length : Int) * k) + (d.length : Int) * k := by
    rw [← endC_shift]
    congr 1
    omega
  generalize hy' : y - (d.length : Int) * k = y' at ey
  generalize hz' : z - (d.length : Int) * k = z' at ez
  have bx := s.bound x'
  have by' := s.bound y'
  have bz := s.bound z'
  have hi : (x', y') ∈ invs d := mem_invs.mpr ⟨x0, x1, by omega, by omega, by omega⟩
  have hz : z' ∈ laterP d y' := by
    unfold laterP
    exact mem_laterB.mpr ⟨by omega, by omega, by omega⟩
  unfold triple? at h
  have := List.findSome?_eq_none_iff.mp h _ hi
  unfold tripleOf at this
  cases hl : laterP d y' with
  | nil =>
    rw [hl] at hz
    cases hz
  | cons a r =>
    have h3 : (laterP d y').head?.map (fun z => (x', y', z)) = none := this
    rw [hl] at h3
    cases h3
/-- the codes of displacements -/
def codes (n : Nat) (d : List Int) : List Nat := d.zipIdx.map fun p => (p.1 + ((p.2 : Nat) : Int) + ((n : Nat) : Int)).toNat
theorem codes_get {n : Nat} {d : List Int} {j : Nat} (h : j < d.length) : (codes n d)[j]? = some (gi d j + ((j : Nat) : Int) + ((n : Nat) : Int)).toNat := by
  have hg := gi_get (l := d) (i := (j : Int)) (by omega) (by omega)
  rw [Int.toNat_natCast] at hg
  unfold codes
  rw [List.getElem?_map, List.getElem?_zipIdx, hg]
  simp
theorem codes_len (n : Nat) (d : List Int) : (codes n d).length = d.length := by
  unfold codes
  rw [List.length_map, List.length_zipIdx]
section
variable {n : Nat} {row d : List Int}
theorem Ch.dispIs (c : Ch n row d) : disp n (codes n d) = d := by
  apply List.ext_getElem?
  intro k
  unfold disp
  rw [List.getElem?_map, List.getElem?_zipIdx]
  by_cases hk : k < d.length
  · rw [codes_get hk]
    have hg := gi_get (l := d) (i := (k : Int)) (by omega) (by omega)
    rw [Int.toNat_natCast] at hg
    rw [hg]
    have := c.small (i := (k : Int)) (by omega) (by have := c.len; omega)
    simp
    omega
  · rw [List.getElem?_eq_none (by rw [codes_len]; omega), List.getElem?_eq_none (by omega)]
    rfl
theorem Ch.noTrip (c : Ch n row d) (h : triple? d = none) : ¬ Trip n (codes n d) := by
  have s := c.smallD
  have hl := c.len
  have at_ : ∀ {j : Nat} {f : Nat}, (codes n d)[j]? = some f → j < n ∧ (f : Int) = endC d j + n := fun {j f} hj => by
    have h1 := (List.getElem?_eq_some_iff.mp hj).1
    rw [codes_len] at h1
    rw [codes_get h1] at hj
    have h2 := c.small (i := (j : Int)) (by omega) (by omega)
    have h3 := Option.some.inj hj
    rw [endC_at (by omega) (by omega)]
    omega
  rintro ⟨j, f, hj, ⟨m, g, hm, hA⟩, ⟨m2, g2, hm2, hB⟩⟩
  obtain ⟨a1, a2⟩ := at_ hj
  obtain ⟨b1, b2⟩ := at_ hm
  obtain ⟨c1, c2⟩ := at_ hm2
  have A : ∃ x : Int, x < j ∧ endC d j < endC d x := by
    rcases hA with ⟨q1, q2⟩ | ⟨q1, q2⟩
    · exact ⟨m, by omega, by omega⟩
    · refine ⟨(m : Int) + (d.length : Int) * (-1), by omega, ?_⟩
      rw [endC_shift]
      omega
  have B : ∃ z : Int, (j : Int) < z ∧ endC d z < endC d j := by
    rcases hB with ⟨q1, q2⟩ | ⟨q1, q2⟩
    · exact ⟨m2, by omega, by omega⟩
    · refine ⟨(m2 : Int) + (d.length : Int) * 1, by omega, ?_⟩
      rw [endC_shift]
      omega
  obtain ⟨x, x1, x2⟩ := A
  obtain ⟨z, z1, z2⟩ := B
  exact no_triple s h x1 z1 x2 z2
theorem Ch.cover (c : Ch n row d) (h : triple? d = none) {leaf : Cd → Bool} (hd : dfs n leaf n 0 (List.range n) [] = true) : ∃ st : Cd, disp n (st.map (·.1)) = d ∧ leaf st = true := by
  have hl := c.len
  have pmI : Pm n ((rng 0 (n : Int)).map (idx row)) := by
    refine Pm.of (by rw [List.length_map, rng_length]; omega) ?_ fun x hx => ?_
    · refine List.pairwise_map.mpr (List.Pairwise.imp_of_mem (fun ha hb hne e => hne ?_) (rng_nodup _ _))
      exact idx_inj (c.pm.mem.mpr (mem_rng.mp ha)) (c.pm.mem.mpr (mem_rng.mp hb)) e
    · obtain ⟨i, hi, rfl⟩ := List.mem_map.mp hx
      have := mem_rng.mp hi
      exact c.pm.idx this.1 this.2
  have rngN : (rng 0 (n : Int)).map Int.toNat = List.range n := by
    unfold rng
    rw [List.map_map, show ((n : Int) - 0).toNat = n by omega]
    conv => rhs; rw [← List.map_id (List.range n)]
    refine List.map_congr_left fun i _ => ?_
    show (0 + (i : Int)).toNat = i
    omega
  have perm : (((rng 0 (n : Int)).map (idx row)).map Int.toNat).Perm (List.range n) := by
    rw [← rngN]
    exact List.Perm.map _ pmI
  have len : (((rng 0 (n : Int)).map (idx row)).map Int.toNat).length = n := by
    rw [perm.length_eq, List.length_range]
  obtain ⟨st, s1, s2⟩ := dfs_spec n 0 (List.range n) [] hd (flOk_nil n) _ (codes n d) (by rw [codes_len, hl]) perm len (fun j p e hp he => by
    have hj : j < n := by
      have := (List.getElem?_eq_some_iff.mp he).1
      rw [codes_len, hl] at this
      exact this
    rw [codes_get (by omega)] at he
    rw [List.getElem?_map, List.getElem?_map, rng_get (by omega)] at hp
    have e1 := Option.some.inj he
    have e2 : (idx row (0 + (j : Int))).toNat = p := Option.some.inj hp
    rw [show (0 : Int) + (j : Int) = j by omega] at e2
    have h1 := c.pm.idx (i := (j : Int)) (by omega) (by omega)
    unfold CdOk
    rcases ways_mem (c.at_ j (by omega) (by omega)) with q | ⟨q1, q2 | q2⟩ | ⟨q1, q2 | q2⟩ <;> omega) (c.noTrip h)
  refine ⟨st, ?_, s2⟩
  rw [s1]
  exact c.dispIs
/-- sequence_for is right there -/
theorem Ch.seq (c : Ch n row d) (h : triple? d = none) (hd : dfs n (leafSeq n) n 0 (List.range n) [] = true) : seqOk n row d = true := by
  obtain ⟨st, s1, s2⟩ := c.cover h hd
  unfold leafSeq at s2
  simp only [s1, c.rowIs, c.sum] at s2
  simpa using s2
theorem Ch.step (c : Ch n row d) (h : triple? d = none) (hd : dfs n (leafStep n) n 0 (List.range n) [] = true) {p : Int} (p0 : 0 ≤ p) (p1 : p < n) : stepOk n row d p = true := by
  obtain ⟨st, s1, s2⟩ := c.cover h hd
  unfold leafStep at s2
  simp only [s1, c.rowIs, c.sum] at s2
  have s3 : (rng 0 (n : Int)).all (fun p => stepOk n row d p) = true := by simpa using s2
  exact List.all_eq_true.mp s3 p (mem_rng.mpr ⟨p0, p1⟩)
end
end R57
set_option maxRecDepth 100000
set_option linter.all false
/-! the law's side, in plain Lean -/
namespace R57
def likesM (ls : List (List Int)) (w a b : Int) : Bool := decide (idx (gl ls w) a < idx (gl ls w) b)
def nxt (row : List Int) (p : Int) : Int := (p + 1) % (row.length : Int)
def may (ls : List (List Int)) (row : List Int) (p : Int) : Bool := likesM ls p (gi row (nxt row p)) (gi row p) && likesM ls (nxt row p) (gi row p) (gi row (nxt row p))
/-- all that steps which both like lead to -/
inductive Reach (ls : List (List Int)) : List Int × List Int → Prop
  | start : Reach ls (rng 0 (ls.length : Int), List.replicate ls.length 0)
  | step {row mv : List Int} (p : Int) : Reach ls (row, mv) → 0 ≤ p → p < ls.length → may ls row p = true → Reach ls (afterRow row p (nxt row p), afterMv row mv p (nxt row p))
def runL (ls : List (List Int)) : List Int → List Int → List Int → Option (List Int)
  | [], _, mv => some mv
  | p :: ps, row, mv => if decide (0 ≤ p) && (decide (p < (ls.length : Int)) && may ls row p) then runL ls ps (afterRow row p (nxt row p)) (afterMv row mv p (nxt row p)) else none
theorem si_len (l : List Int) (i v : Int) : (si l i v).length = l.length := by
  unfold si
  rw [List.length_set]
theorem afterRow_len (row : List Int) (p q : Int) : (afterRow row p q).length = row.length := by
  unfold afterRow
  rw [si_len, si_len]
/-- what is asked is liked -/
def Liked (ls : List (List Int)) (n : Int) (es : List (Int × Int × Int)) : Prop := ∀ w x z, (w, x, z) ∈ es → idx (gl ls w) z < idx (gl ls w) x ∧ idx (gl ls ((w + 1) % n)) x < idx (gl ls ((w + 1) % n)) z
theorem carried_run {ls : List (List Int)} {es : List (Int × Int × Int)} (lk : Liked ls ls.length es) : ∀ (ps row mv row' mv' : List Int), row.length = ls.length → carried ls.length es ps row mv = some (row', mv') → Reach ls (row, mv) → runL ls ps row mv = some mv' ∧ Reach ls (row', mv')
  | [], row, mv, row', mv', hl, h, r => by
    have e : (row, mv) = (row', mv') := Option.some.inj h
    injection e with e1 e2
    subst e1 e2
    exact ⟨rfl, r⟩
  | p :: ps, row, mv, row', mv', hl, h, r => by
    have hq : nxt row p = (p + 1) % (ls.length : Int) := by unfold nxt; rw [hl]
    unfold carried at h
    simp only at h
    cases hc : (decide (0 ≤ p) && decide (p < (ls.length : Int)) && es.contains (p, gi row p, gi row ((p + 1) % (ls.length : Int)))) with
    | false =>
      rw [hc, if_neg Bool.false_ne_true] at h
      cases h
    | true =>
      rw [hc, if_pos rfl] at h
      obtain ⟨h1, h2⟩ := Bool.and_eq_true_iff.mp hc
      obtain ⟨h3, h4⟩ := Bool.and_eq_true_iff.mp h1
      have m := lk _ _ _ (List.contains_iff_mem.mp h2)
      have hm : may ls row p = true := by
        unfold may likesM
        rw [hq, Bool.and_eq_true, decide_eq_true_iff, decide_eq_true_iff]
        exact m
      have r2 := Reach.step p r (of_decide_eq_true h3) (of_decide_eq_true h4) hm
      rw [hq] at r2
      obtain ⟨g1, g2⟩ := carried_run lk ps _ _ row' mv' (by rw [afterRow_len]; exact hl) h r2
      refine ⟨?_, g2⟩
      unfold runL
      rw [h3, h4, hm]
      simp only [Bool.and_self, if_true]
      rw [hq]
      exact g1
/-! ### good: no triple, all asked liked -/
theorem inv_ne {d : List Int} {x z : Int} (h : (x, z) ∈ invs d) : x % (d.length : Int) ≠ z % (d.length : Int) := fun e => by
  obtain ⟨h0, h1, h2, h3, h4⟩ := mem_invs.mp h
  unfold endC at h4
  rw [e] at h4
  omega
theorem mem_asks {d : List Int} {w a b : Int} : (w, a, b) ∈ asks d ↔ ∃ x z, (x, z) ∈ invs d ∧ w = placeC d x z ∧ a = x % (d.length : Int) ∧ b = z % (d.length : Int) := by
  unfold asks
  rw [List.mem_map]
  constructor
  · rintro ⟨⟨x, z⟩, h, e⟩
    injection e with e1 e2
    injection e2 with e2 e3
    exact ⟨x, z, h, e1.symm, e2.symm, e3.symm⟩
  · rintro ⟨x, z, h, rfl, rfl, rfl⟩
    exact ⟨(x, z), h, rfl⟩
section
variable {ls : List (List Int)} {d : List Int}
theorem head_none {α : Type} {l : List α} : l.head? = none ↔ l = [] := by
  cases l with
  | nil => exact ⟨fun _ => rfl, fun _ => rfl⟩
  | cons a r => exact ⟨fun h => (nomatch h), fun h => (nomatch h)⟩
theorem firstRef_none : firstRef ls d = none ↔ ∀ x z, (x, z) ∈ invs d → refs ls d x z = [] := by
  unfold firstRef
  rw [List.findSome?_eq_none_iff]
  constructor
  · intro h x z hm
    have h2 : (refs ls d x z).head? = none := h (x, z) hm
    exact head_none.mp h2
  · intro h p hm
    have h2 : refs ls d p.1 p.2 = [] := h p.1 p.2 hm
    rw [h2]
    rfl
theorem modn {n : Nat} (hn : 0 < n) (u : Int) : 0 ≤ u % (n : Int) ∧ u % (n : Int) < n := ⟨Int.emod_nonneg _ (by omega), Int.emod_lt_of_pos _ (by omega)⟩
theorem refs_nil (rk : Rk ls) (hl : d.length = ls.length) {x z : Int} (h : (x, z) ∈ invs d) : refs ls d x z = [] ↔
    idx (gl ls (placeC d x z)) (z % (d.length : Int)) < idx (gl ls (placeC d x z)) (x % (d.length : Int)) ∧ idx (gl ls ((placeC d x z + 1) % (d.length : Int))) (x % (d.length : Int)) < idx (gl ls ((placeC d x z + 1) % (d.length : Int))) (z % (d.length : Int)) := by
  have h1 := rk.one
  have hn := inv_ne h
  have n0 : 0 < d.length := by omega
  have px : 0 ≤ placeC d x z ∧ placeC d x z < d.length := modn n0 _
  have qx := modn n0 (placeC d x z + 1)
  have xx := modn n0 x
  have zz := modn n0 z
  have m1 : ∀ w c : Int, 0 ≤ w ∧ w < d.length → 0 ≤ c ∧ c < d.length → c ∈ gl ls w := fun w c hw hc => (rk.gl hw.1 (by omega)).mem.mpr ⟨hc.1, by omega⟩
  have ne : ∀ w : Int, 0 ≤ w ∧ w < d.length → idx (gl ls w) (x % (d.length : Int)) ≠ idx (gl ls w) (z % (d.length : Int)) := fun w hw e => hn (idx_inj (m1 w _ hw xx) (m1 w _ hw zz) e)
  have n1 := ne _ px
  have n2 := ne _ qx
  unfold refs
  simp only
  generalize idx (gl ls (placeC d x z)) (x % (d.length : Int)) = a1 at n1 ⊢
  generalize idx (gl ls (placeC d x z)) (z % (d.length : Int)) = a2 at n1 ⊢
  generalize idx (gl ls ((placeC d x z + 1) % (d.length : Int))) (x % (d.length : Int)) = a3 at n2 ⊢
  generalize idx (gl ls ((placeC d x z + 1) % (d.length : Int))) (z % (d.length : Int)) = a4 at n2 ⊢
  rw [List.append_eq_nil_iff]
  by_cases c1 : a1 < a2
  · rw [if_pos c1]
    constructor
    · rintro ⟨e, _⟩; cases e
    · rintro ⟨e, _⟩; omega
  · rw [if_neg c1]
    by_cases c2 : a4 < a3
    · rw [if_pos c2]
      constructor
      · rintro ⟨_, e⟩; cases e
      · rintro ⟨_, e⟩; omega
    · rw [if_neg c2]
      exact ⟨fun _ => ⟨by omega, by omega⟩, fun _ => ⟨rfl, rfl⟩⟩
theorem good_iff (rk : Rk ls) (hl : d.length = ls.length) : good ls d = true ↔ triple? d = none ∧ Liked ls ls.length (asks d) := by
  unfold good
  rw [Bool.and_eq_true, Option.isNone_iff_eq_none, Option.isNone_iff_eq_none, firstRef_none]
  refine and_congr_right fun _ => ?_
  constructor
  · intro h w a b hm
    obtain ⟨x, z, h1, rfl, rfl, rfl⟩ := mem_asks.mp hm
    have := (refs_nil rk hl h1).mp (h x z h1)
    rw [← hl]
    exact this
  · intro h x z hm
    refine (refs_nil rk hl hm).mpr ?_
    have := h _ _ _ (mem_asks.mpr ⟨x, z, hm, rfl, rfl, rfl⟩)
    rw [← hl] at this
    exact this
end
/-! ### chains: what is liked more and more -/
theorem mem_likes {ls : List (List Int)} {n w : Int} {es : List (Int × Int × Int)} (lk : Liked ls n es) {a b : Int} (h : (a, b) ∈ likes n es w) : idx (gl ls w) b < idx (gl ls w) a := by
  unfold likes at h
  obtain ⟨⟨v, x, z⟩, he, hm⟩ := List.mem_flatMap.mp h
  have l := lk v x z he
  rcases List.mem_append.mp hm with hm | hm
  · cases hc : (v == w) with
    | false =>
      simp only [hc] at hm
      cases hm
    | true =>
      simp only [hc] at hm
      have e := List.mem_singleton.mp hm
      injection e with e1 e2
      subst e1 e2
      rw [← eq_of_beq hc]
      exact l.1
  · cases hc : ((v + 1) % n == w) with
    | false =>
      simp only [hc] at hm
      cases hm
    | true =>
      simp only [hc] at hm
      have e := List.mem_singleton.mp hm
      injection e with e1 e2
      subst e1 e2
      rw [← eq_of_beq hc]
      exact l.2
theorem chain_less {ls : List (List Int)} {w : Int} {es : List (Int × Int)} (h : ∀ a b, (a, b) ∈ es → idx (gl ls w) b < idx (gl ls w) a) : ∀ (k : Nat) (a b : Int), b ∈ chain es k a → idx (gl ls w) b < idx (gl ls w) a
  | 0, a, b, hb => nomatch hb
  | k + 1, a, b, hb => by
    unfold chain at hb
    cases hf : es.find? (fun e => e.1 == a) with
    | none =>
      rw [hf] at hb
      cases hb
    | some e =>
      rw [hf] at hb
      have h1 := List.find?_some hf
      have h2 := List.mem_of_find?_eq_some hf
      have h3 : e.1 = a := eq_of_beq h1
      have h4 := h e.1 e.2 h2
      rw [h3] at h4
      rcases List.mem_cons.mp hb with q | q
      · rw [q]; exact h4
      · exact Int.lt_trans (chain_less h k e.2 b q) h4
end R57
set_option maxRecDepth 100000
set_option linter.all false
/-! reached is good, good is reached -/
namespace R57
theorem get_ne {l : List Int} (h : l.Nodup) {i j : Nat} (hi : i < l.length) (hj : j < l.length) (ne : i ≠ j) : l[i] ≠ l[j] := fun e => ne ((List.getElem_inj h).mp e)
theorem gi_at {l : List Int} {i : Int} (h0 : 0 ≤ i) (h1 : i < l.length) : gi l i = l[i.toNat]'(by omega) := by
  have := gi_get h0 h1
  rw [List.getElem?_eq_getElem (by omega)] at this
  exact (Option.some.inj this).symm
theorem Pm.after {n : Nat} {row : List Int} (pm : Pm n row) {p q : Int} (p0 : 0 ≤ p) (p1 : p < n) (q0 : 0 ≤ q) (q1 : q < n) (ne : p ≠ q) : Pm n (afterRow row p q) := by
  have hl := pm.length
  have nd := pm.nodup
  have gp := gi_at (l := row) p0 (by omega)
  have gq := gi_at (l := row) q0 (by omega)
  have at_ : ∀ (i : Nat) (hi : i < (afterRow row p q).length), ∃ (j : Nat) (hj : j < row.length), (afterRow row p q)[i] = row[j] ∧ j = (if i = q.toNat then p.toNat else if i = p.toNat then q.toNat else i) := by
    unfold afterRow si
    intro i hi
    have hi2 : i < row.length := by rw [List.length_set, List.length_set] at hi; exact hi
    by_cases e1 : i = q.toNat
    · refine ⟨p.toNat, by omega, ?_, by rw [if_pos e1]⟩
      rw [List.getElem_set, if_pos e1.symm]
      exact gp
    · by_cases e2 : i = p.toNat
      · refine ⟨q.toNat, by omega, ?_, by rw [if_neg e1, if_pos e2]⟩
        rw [List.getElem_set, if_neg (Ne.symm e1), List.getElem_set, if_pos e2.symm]
        exact gq
      · refine ⟨i, hi2, ?_, by rw [if_neg e1, if_neg e2]⟩
        rw [List.getElem_set, if_neg (Ne.symm e1), List.getElem_set, if_neg (Ne.symm e2)]
  refine Pm.of (by rw [afterRow_len, hl]) ?_ fun x hx => ?_
  · refine List.pairwise_iff_getElem.mpr fun i j hi hj hij => ?_
    obtain ⟨a, ha, a1, a2⟩ := at_ i hi
    obtain ⟨b, hb, b1, b2⟩ := at_ j hj
    rw [a1, b1]
    refine get_ne nd ha hb ?_
    rw [a2, b2]
    split <;> split <;> (try split) <;> (try split) <;> omega
  · obtain ⟨i, hi, rfl⟩ := List.mem_iff_getElem.mp hx
    obtain ⟨a, ha, a1, a2⟩ := at_ i hi
    rw [a1]
    exact pm.mem.mp (List.getElem_mem ha)
/-- what the kernel reckons out for rings of n -/
structure Fin1 (n : Nat) : Prop where
  pos : 3 ≤ n
  few : n ≤ 6
  seq : dfs n (leafSeq n) n 0 (List.range n) [] = true
structure Fin2 (n : Nat) : Prop extends Fin1 n where
  step : dfs n (leafStep n) n 0 (List.range n) [] = true
  opt0 : (options (rng 0 (n : Int))).contains (List.replicate n 0) = true
  tri0 : triple? (List.replicate n 0) = none
  ask0 : asks (List.replicate n 0) = []
section
variable {ls : List (List Int)} {row d : List Int}
theorem seq_of (rk : Rk ls) (F : Fin1 ls.length) (c : Ch ls.length row d) (ht : triple? d = none) : restless (sweeps (d.length : Int) 20 (seqStart d)) = false ∧ carried (ls.length : Int) (asks d) (seqFor d) (rng 0 (ls.length : Int)) (List.replicate ls.length 0) = some (row, d) := by
  have h := c.seq ht F.seq
  unfold seqOk at h
  simp only at h
  obtain ⟨h1, h2⟩ := Bool.and_eq_true_iff.mp h
  unfold seqFor
  rw [c.len]
  rw [Int.toNat_natCast] at h2
  refine ⟨?_, eq_of_beq h2⟩
  cases hr : restless (sweeps (ls.length : Int) 20 (seqStart d)) with
  | false => rfl
  | true =>
    rw [hr] at h1
    cases h1
theorem good_reach (rk : Rk ls) (F : Fin1 ls.length) (c : Ch ls.length row d) (hg : good ls d = true) : runL ls (seqFor d) (rng 0 (ls.length : Int)) (List.replicate ls.length 0) = some d ∧ Reach ls (row, d) := by
  obtain ⟨ht, lk⟩ := (good_iff rk c.len).mp hg
  obtain ⟨_, h2⟩ := seq_of rk F c ht
  exact carried_run lk _ _ _ _ _ (by rw [rng_length]; omega) h2 .start
/-- what holds wherever liked steps lead -/
structure Held (ls : List (List Int)) (p : List Int × List Int) : Prop where
  ch : Ch ls.length p.1 p.2
  tri : triple? p.2 = none
  lk : Liked ls ls.length (asks p.2)
  opt : p.2 ∈ options p.1
theorem Held.good {p : List Int × List Int} (rk : Rk ls) (h : Held ls p) : R57.good ls p.2 = true := (good_iff rk h.ch.len).mpr ⟨h.tri, h.lk⟩
theorem reach_held (rk : Rk ls) (F : Fin2 ls.length) {p : List Int × List Int} (r : Reach ls p) : Held ls p := by
  have f3 := F.pos
  induction r with
  | start =>
    have ho : List.replicate ls.length 0 ∈ options (rng 0 (ls.length : Int)) := List.contains_iff_mem.mp F.opt0
    refine ⟨Ch.of (by omega) (List.Perm.refl _) ho, F.tri0, fun w x z h => ?_, ho⟩
    have h2 : (w, x, z) ∈ asks (List.replicate ls.length 0) := h
    rw [F.ask0] at h2
    cases h2
  | @step row mv p r p0 p1 hm ih =>
    have c : Ch ls.length row mv := ih.ch
    have lk : Liked ls ls.length (asks mv) := ih.lk
    have hrow := c.pm.length
    have hq : nxt row p = (p + 1) % (ls.length : Int) := by unfold nxt; rw [hrow]
    have q01 := modn (n := ls.length) (by omega) (p + 1)
    have nepq : p ≠ (p + 1) % (ls.length : Int) := by
      by_cases e : p + 1 < ls.length
      · rw [Int.emod_eq_of_lt (by omega) e]
        omega
      · have e2 : p + 1 = ls.length := by omega
        rw [e2, Int.emod_self]
        omega
    have so := c.step ih.tri F.step p0 p1
    have hm2 := hm
    unfold may likesM at hm2
    rw [hq, Bool.and_eq_true, decide_eq_true_iff, decide_eq_true_iff] at hm2
    rw [hq]
    unfold stepOk at so
    simp only at so
    generalize (p + 1) % (ls.length : Int) = q at *
    rcases Bool.or_eq_true_iff.mp so with h | h
    · exfalso
      rcases Bool.or_eq_true_iff.mp h with h | h
      · have := chain_less (ls := ls) (w := p) (fun a b hab => mem_likes lk hab) 20 _ _ (List.contains_iff_mem.mp h)
        omega
      · have := chain_less (ls := ls) (w := q) (fun a b hab => mem_likes lk hab) 20 _ _ (List.contains_iff_mem.mp h)
        omega
    · obtain ⟨h12, h3⟩ := Bool.and_eq_true_iff.mp h
      obtain ⟨h1, h2⟩ := Bool.and_eq_true_iff.mp h12
      have pm2 := c.pm.after p0 p1 q01.1 q01.2 nepq
      have ho := List.contains_iff_mem.mp h2
      refine ⟨Ch.of (by omega) pm2 ho, Option.isNone_iff_eq_none.mp h1, fun w x z hx => ?_, ho⟩
      unfold subE at h3
      have h4 := List.contains_iff_mem.mp (List.all_eq_true.mp h3 _ hx)
      rcases List.mem_cons.mp h4 with e | e
      · injection e with e1 e2
        injection e2 with e2 e3
        subst e1 e2 e3
        have e5 : (w + 1) % (ls.length : Int) = q := by
          rw [← hq]
          unfold nxt
          rw [hrow]
        rw [e5]
        exact hm2
      · exact lk w x z e
end
/-! ### all pairs, counted -/
theorem mem_perms : ∀ (k : Nat) (l row : List Int), l.length = k → row.Perm l → row ∈ perms k l
  | 0, l, row, hl, hp => by
    have : row = [] := List.eq_nil_of_length_eq_zero (by rw [hp.length_eq, hl])
    rw [this]
    exact List.mem_singleton.mpr rfl
  | k + 1, l, [], hl, hp => by
    have := hp.length_eq
    rw [hl] at this
    cases this
  | k + 1, l, x :: r, hl, hp => by
    have hx : x ∈ l := hp.mem_iff.mp List.mem_cons_self
    unfold perms
    refine List.mem_flatMap.mpr ⟨x, hx, List.mem_map.mpr ⟨r, mem_perms k (l.erase x) r ?_ ?_, rfl⟩⟩
    · rw [List.length_erase_of_mem hx, hl] <;> rfl
    · have := hp.erase x
      rw [List.erase_cons_head] at this
      exact this
def univ (n : Nat) : List (List Int × List Int) := (perms n (rng 0 (n : Int))).flatMap fun row => (options row).map fun d => (row, d)
theorem held_univ {ls : List (List Int)} {p : List Int × List Int} (h : Held ls p) : p ∈ univ ls.length := by
  unfold univ
  refine List.mem_flatMap.mpr ⟨p.1, mem_perms _ _ _ (by rw [rng_length]; omega) h.ch.pm, List.mem_map.mpr ⟨p.2, h.opt, rfl⟩⟩
theorem flat_le {α β : Type} (f : α → List β) (k : Nat) : ∀ l : List α, (∀ a ∈ l, (f a).length ≤ k) → (l.flatMap f).length ≤ l.length * k
  | [], _ => by simp
  | a :: l, h => by
    rw [List.flatMap_cons, List.length_append, List.length_cons, Nat.succ_mul]
    have h1 := flat_le f k l fun b hb => h b (List.mem_cons_of_mem _ hb)
    have h2 := h a List.mem_cons_self
    omega
def fct : Nat → Nat
  | 0 => 1
  | k + 1 => (k + 1) * fct k
theorem perms_len : ∀ (k : Nat) (l : List Int), l.length = k → (perms k l).length ≤ fct k
  | 0, _, _ => Nat.le_refl 1
  | k + 1, l, hl => by
    unfold perms fct
    rw [← hl]
    refine flat_le _ _ l fun x hx => ?_
    rw [List.length_map]
    exact perms_len k _ (by rw [List.length_erase_of_mem hx, hl] <;> rfl)
theorem ways_two (n s : Int) : (ways n s).length ≤ 2 := by
  unfold ways
  split
  · decide
  · split <;> exact Nat.le_refl 2
theorem opts_two (row : List Int) (n : Int) : ∀ k : Nat, (optsFrom row n (rng 0 (k : Int)) [[]]).length ≤ 2 ^ k
  | 0 => by
    rw [rng_nil (by omega)]
    exact Nat.le_refl _
  | k + 1 => by
    have e : ((k + 1 : Nat) : Int) = (k : Int) + 1 := by omega
    have h := opts_two row n k
    unfold optsFrom at h ⊢
    rw [e, rng_succ (by omega), List.foldl_append]
    refine Nat.le_trans (flat_le _ 2 _ fun s _ => ?_) (by rw [Nat.pow_succ]; exact Nat.mul_le_mul_right _ h)
    rw [List.length_map]
    exact ways_two _ _
theorem univ_len {n : Nat} (hn : n ≤ 5) : (univ n).length ≤ 3840 := by
  unfold univ
  have hr : (rng 0 (n : Int)).length = n := by rw [rng_length]; omega
  have h1 := perms_len n (rng 0 (n : Int)) hr
  have h2 : (perms n (rng 0 (n : Int))).length ≤ 120 := by
    refine Nat.le_trans h1 ?_
    match n, hn with
    | 0, _ => decide
    | 1, _ => decide
    | 2, _ => decide
    | 3, _ => decide
    | 4, _ => decide
    | 5, _ => decide
  have hrow : ∀ (k : Nat) (l row : List Int), row ∈ perms k l → row.length = k := by
    intro k
    induction k with
    | zero =>
      intro l row h
      rw [List.mem_singleton.mp h]
      rfl
    | succ k ih =>
      intro l row h
      unfold perms at h
      obtain ⟨x, _, hm⟩ := List.mem_flatMap.mp h
      obtain ⟨r, hr, rfl⟩ := List.mem_map.mp hm
      rw [List.length_cons, ih _ _ hr]
  refine Nat.le_trans (flat_le _ 32 _ fun row hm => ?_) (Nat.mul_le_mul_right 32 h2)
  rw [List.length_map]
  unfold options
  refine Nat.le_trans (List.length_filter_le _ _) (Nat.le_trans (opts_two _ _ _) ?_)
  rw [hrow _ _ _ hm]
  exact Nat.pow_le_pow_right (by decide) hn
/-! ### the law's inversions, triples, refusals -/
theorem rng_app {a b c : Int} (h1 : a ≤ b) (h2 : b ≤ c) : rng a c = rng a b ++ rng b c := by
  apply List.ext_getElem?
  intro k
  by_cases hk : (k : Int) < b - a
  · rw [List.getElem?_append_left (by rw [rng_length]; omega), rng_get hk, rng_get (by omega)]
  · rw [List.getElem?_append_right (by rw [rng_length]; omega), rng_length]
    by_cases hk2 : (k : Int) < c - a
    · rw [rng_get hk2, rng_get (by omega)]
      congr 1
      omega
    · rw [List.getElem?_eq_none (by rw [rng_length]; omega), List.getElem?_eq_none (by rw [rng_length]; omega)]
theorem later_same {d : List Int} (s : Small d) (u : Int) : laterL d u = laterP d u := by
  have hp := s.1
  unfold laterL laterP laterB
  rw [rng_app (a := u + 1) (b := u + 2 * (d.length : Int) - 1) (c := u + 2 * (d.length : Int) + 2) (by omega) (by omega), List.filter_append]
  have e : (rng (u + 2 * (d.length : Int) - 1) (u + 2 * (d.length : Int) + 2)).filter (fun z => decide (endC d z < endC d u)) = [] := by
    refine List.filter_eq_nil_iff.mpr fun z hz h => ?_
    have h1 := mem_rng.mp hz
    have h2 := of_decide_eq_true h
    have h3 := s.bound z
    have h4 := s.bound u
    omega
  rw [e, List.append_nil]
def invsL (d : List Int) : List (Int × Int) := (rng 0 (d.length : Int)).flatMap fun x => (laterL d x).map fun z => (x, z)
theorem invs_same {d : List Int} (s : Small d) : invsL d = invs d := by
  unfold invsL invs
  congr 1
  funext x
  rw [later_same s]
def triplesL (d : List Int) : List (Int × Int × Int) := (invsL d).flatMap fun p => (laterL d p.2).map fun z => (p.1, p.2, z)
theorem triples_nil {d : List Int} (s : Small d) : triplesL d = [] ↔ triple? d = none := by
  unfold triplesL triple?
  rw [invs_same s, List.flatMap_eq_nil_iff, List.findSome?_eq_none_iff]
  refine forall_congr' fun p => forall_congr' fun hp => ?_
  unfold tripleOf
  rw [later_same s]
  cases laterP d p.2 with
  | nil => exact ⟨fun _ => rfl, fun _ => rfl⟩
  | cons a r => exact ⟨fun h => (nomatch h), fun h => (nomatch h)⟩
theorem triple_mem {d : List Int} (s : Small d) {t : Int × Int × Int} (h : triple? d = some t) : t ∈ triplesL d := by
  unfold triple? at h
  obtain ⟨p, hp, h2⟩ := List.exists_of_findSome?_eq_some h
  unfold triplesL
  rw [invs_same s]
  refine List.mem_flatMap.mpr ⟨p, hp, ?_⟩
  rw [later_same s]
  unfold tripleOf at h2
  cases hl : laterP d p.2 with
  | nil =>
    rw [hl] at h2
    cases h2
  | cons a r =>
    rw [hl] at h2
    have e : (p.1, p.2, a) = t := Option.some.inj h2
    rw [← e]
    exact List.mem_cons_self
/-- the law's refusals of a pair -/
def refsP (ls : List (List Int)) (d : List Int) (x z : Int) : List (Int × Int × Int × Int) :=
  (if (!likesM ls (placeC d x z) (z % (d.length : Int)) (x % (d.length : Int))) = true then [(placeC d x z, x, z, placeC d x z)] else []) ++
  (if (!likesM ls ((placeC d x z + 1) % (d.length : Int)) (x % (d.length : Int)) (z % (d.length : Int))) = true then [(placeC d x z, x, z, (placeC d x z + 1) % (d.length : Int))] else [])
def refsL (ls : List (List Int)) (d : List Int) : List (Int × Int × Int × Int) := (invsL d).flatMap fun p => refsP ls d p.1 p.2
theorem refsP_same {ls : List (List Int)} {d : List Int} (rk : Rk ls) (hl : d.length = ls.length) {x z : Int} (h : (x, z) ∈ invs d) : refsP ls d x z = refs ls d x z := by
  have h1 := rk.one
  have hn := inv_ne h
  have n0 : 0 < d.length := by omega
  have px : 0 ≤ placeC d x z ∧ placeC d x z < d.length := modn n0 _
  have qx := modn n0 (placeC d x z + 1)
  have xx := modn n0 x
  have zz := modn n0 z
  have m1 : ∀ w c : Int, 0 ≤ w ∧ w < d.length → 0 ≤ c ∧ c < d.length → c ∈ gl ls w := fun w c hw hc => (rk.gl hw.1 (by omega)).mem.mpr ⟨hc.1, by omega⟩
  have ne : ∀ w : Int, 0 ≤ w ∧ w < d.length → idx (gl ls w) (x % (d.length : Int)) ≠ idx (gl ls w) (z % (d.length : Int)) := fun w hw e => hn (idx_inj (m1 w _ hw xx) (m1 w _ hw zz) e)
  have n1 := ne _ px
  have n2 := ne _ qx
  have k : ∀ (a b : Int) (u : Int × Int × Int × Int), a ≠ b → (if (!decide (b < a)) = true then [u] else []) = if a < b then [u] else [] := fun a b u hab => by
    by_cases hc : a < b
    · rw [if_pos hc, decide_eq_false (by omega)]
      rfl
    · rw [if_neg hc, decide_eq_true (by omega)]
      rfl
  unfold refsP refs likesM
  simp only
  rw [k _ _ _ n1, k _ _ _ (Ne.symm n2)]
theorem refs_nilL {ls : List (List Int)} {d : List Int} (rk : Rk ls) (hl : d.length = ls.length) (s : Small d) : refsL ls d = [] ↔ firstRef ls d = none := by
  unfold refsL
  rw [invs_same s, List.flatMap_eq_nil_iff, firstRef_none]
  constructor
  · intro h x z hm
    have := h _ hm
    rw [refsP_same rk hl hm] at this
    exact this
  · rintro h ⟨x, z⟩ hm
    rw [refsP_same rk hl hm]
    exact h x z hm
theorem ref_mem {ls : List (List Int)} {d : List Int} (rk : Rk ls) (hl : d.length = ls.length) (s : Small d) {r : Int × Int × Int × Int} (h : firstRef ls d = some r) : r ∈ refsL ls d := by
  unfold firstRef at h
  obtain ⟨p, hp, h2⟩ := List.exists_of_findSome?_eq_some h
  unfold refsL
  rw [invs_same s]
  refine List.mem_flatMap.mpr ⟨p, hp, ?_⟩
  rw [refsP_same rk hl hp]
  cases hr : refs ls d p.1 p.2 with
  | nil =>
    rw [hr] at h2
    cases h2
  | cons a q =>
    rw [hr] at h2
    have e : a = r := Option.some.inj h2
    rw [e]
    exact List.mem_cons_self
/-- what the law asks to name a row reached -/
theorem good_law {ls : List (List Int)} {d : List Int} (rk : Rk ls) (hl : d.length = ls.length) (s : Small d) : good ls d = (decide (triplesL d = []) && decide (refsL ls d = [])) := by
  unfold good
  have a := triples_nil s
  have b := refs_nilL rk hl s
  cases ht : triple? d with
  | some t =>
    rw [decide_eq_false (fun h => by rw [a.mp h] at ht; cases ht)]
    rfl
  | none =>
    rw [decide_eq_true (a.mpr ht)]
    cases hf : firstRef ls d with
    | some t =>
      rw [decide_eq_false (fun h => by rw [b.mp h] at hf; cases hf)]
      rfl
    | none =>
      rw [decide_eq_true (b.mpr hf)]
      rfl
end R57
set_option maxRecDepth 100000
set_option maxHeartbeats 4000000
/-! reckoned out by the kernel, piece by piece -/
namespace R57
theorem dfs_top3 {leaf : Cd → Bool} (h0_0 : dfs 3 leaf 2 1 [1, 2] [(3, false, false)] = true) (h1_0 : dfs 3 leaf 2 1 [0, 2] [(4, false, false)] = true) (h1_1 : dfs 3 leaf 2 1 [0, 2] [(1, false, false)] = true) (h2_0 : dfs 3 leaf 2 1 [1, 0] [(5, false, false)] = true) (h2_1 : dfs 3 leaf 2 1 [1, 0] [(2, false, false)] = true) : dfs 3 leaf 3 0 [0, 1, 2] [] = true := by
  show (and (and (dfs 3 leaf 2 1 [1, 2] [(3, false, false)]) true) (and (and (dfs 3 leaf 2 1 [0, 2] [(4, false, false)]) (dfs 3 leaf 2 1 [0, 2] [(1, false, false)])) (and (and (dfs 3 leaf 2 1 [1, 0] [(5, false, false)]) (dfs 3 leaf 2 1 [1, 0] [(2, false, false)])) true))) = true
  rw [h0_0, h1_0, h1_1, h2_0, h2_1]
  rfl
theorem q3_0_0 : dfs 3 (leafSeq 3) 2 1 [1, 2] [(3, false, false)] = true := by decide +kernel
theorem q3_1_0 : dfs 3 (leafSeq 3) 2 1 [0, 2] [(4, false, false)] = true := by decide +kernel
theorem q3_1_1 : dfs 3 (leafSeq 3) 2 1 [0, 2] [(1, false, false)] = true := by decide +kernel
theorem q3_2_0 : dfs 3 (leafSeq 3) 2 1 [1, 0] [(5, false, false)] = true := by decide +kernel
theorem q3_2_1 : dfs 3 (leafSeq 3) 2 1 [1, 0] [(2, false, false)] = true := by decide +kernel
theorem q3 : dfs 3 (leafSeq 3) 3 0 (List.range 3) [] = true := dfs_top3 q3_0_0 q3_1_0 q3_1_1 q3_2_0 q3_2_1
theorem s3_0_0 : dfs 3 (leafStep 3) 2 1 [1, 2] [(3, false, false)] = true := by decide +kernel
theorem s3_1_0 : dfs 3 (leafStep 3) 2 1 [0, 2] [(4, false, false)] = true := by decide +kernel
theorem s3_1_1 : dfs 3 (leafStep 3) 2 1 [0, 2] [(1, false, false)] = true := by decide +kernel
theorem s3_2_0 : dfs 3 (leafStep 3) 2 1 [1, 0] [(5, false, false)] = true := by decide +kernel
theorem s3_2_1 : dfs 3 (leafStep 3) 2 1 [1, 0] [(2, false, false)] = true := by decide +kernel
theorem s3 : dfs 3 (leafStep 3) 3 0 (List.range 3) [] = true := dfs_top3 s3_0_0 s3_1_0 s3_1_1 s3_2_0 s3_2_1
theorem dfs_top4 {leaf : Cd → Bool} (h0_0 : dfs 4 leaf 3 1 [1, 2, 3] [(4, false, false)] = true) (h1_0 : dfs 4 leaf 3 1 [0, 2, 3] [(5, false, false)] = true) (h1_1 : dfs 4 leaf 3 1 [0, 2, 3] [(1, false, false)] = true) (h2_0 : dfs 4 leaf 3 1 [1, 0, 3] [(6, false, false)] = true) (h2_1 : dfs 4 leaf 3 1 [1, 0, 3] [(2, false, false)] = true) (h3_0 : dfs 4 leaf 3 1 [2, 1, 0] [(7, false, false)] = true) (h3_1 : dfs 4 leaf 3 1 [2, 1, 0] [(3, false, false)] = true) : dfs 4 leaf 4 0 [0, 1, 2, 3] [] = true := by
  show (and (and (dfs 4 leaf 3 1 [1, 2, 3] [(4, false, false)]) true) (and (and (dfs 4 leaf 3 1 [0, 2, 3] [(5, false, false)]) (dfs 4 leaf 3 1 [0, 2, 3] [(1, false, false)])) (and (and (dfs 4 leaf 3 1 [1, 0, 3] [(6, false, false)]) (dfs 4 leaf 3 1 [1, 0, 3] [(2, false, false)])) (and (and (dfs 4 leaf 3 1 [2, 1, 0] [(7, false, false)]) (dfs 4 leaf 3 1 [2, 1, 0] [(3, false, false)])) true)))) = true
  rw [h0_0, h1_0, h1_1, h2_0, h2_1, h3_0, h3_1]
  rfl
theorem q4_0_0 : dfs 4 (leafSeq 4) 3 1 [1, 2, 3] [(4, false, false)] = true := by decide +kernel
theorem q4_1_0 : dfs 4 (leafSeq 4) 3 1 [0, 2, 3] [(5, false, false)] = true := by decide +kernel
theorem q4_1_1 : dfs 4 (leafSeq 4) 3 1 [0, 2, 3] [(1, false, false)] = true := by decide +kernel
theorem q4_2_0 : dfs 4 (leafSeq 4) 3 1 [1, 0, 3] [(6, false, false)] = true := by decide +kernel
theorem q4_2_1 : dfs 4 (leafSeq 4) 3 1 [1, 0, 3] [(2, false, false)] = true := by decide +kernel
theorem q4_3_0 : dfs 4 (leafSeq 4) 3 1 [2, 1, 0] [(7, false, false)] = true := by decide +kernel
theorem q4_3_1 : dfs 4 (leafSeq 4) 3 1 [2, 1, 0] [(3, false, false)] = true := by decide +kernel
theorem q4 : dfs 4 (leafSeq 4) 4 0 (List.range 4) [] = true := dfs_top4 q4_0_0 q4_1_0 q4_1_1 q4_2_0 q4_2_1 q4_3_0 q4_3_1
theorem s4_0_0 : dfs 4 (leafStep 4) 3 1 [1, 2, 3] [(4, false, false)] = true := by decide +kernel
theorem s4_1_0 : dfs 4 (leafStep 4) 3 1 [0, 2, 3] [(5, false, false)] = true := by decide +kernel
theorem s4_1_1 : dfs 4 (leafStep 4) 3 1 [0, 2, 3] [(1, false, false)] = true := by decide +kernel
theorem s4_2_0 : dfs 4 (leafStep 4) 3 1 [1, 0, 3] [(6, false, false)] = true := by decide +kernel
theorem s4_2_1 : dfs 4 (leafStep 4) 3 1 [1, 0, 3] [(2, false, false)] = true := by decide +kernel
theorem s4_3_0 : dfs 4 (leafStep 4) 3 1 [2, 1, 0] [(7, false, false)] = true := by decide +kernel
theorem s4_3_1 : dfs 4 (leafStep 4) 3 1 [2, 1, 0] [(3, false, false)] = true := by decide +kernel
theorem s4 : dfs 4 (leafStep 4) 4 0 (List.range 4) [] = true := dfs_top4 s4_0_0 s4_1_0 s4_1_1 s4_2_0 s4_2_1 s4_3_0 s4_3_1
theorem dfs_top5 {leaf : Cd → Bool} (h0_0 : dfs 5 leaf 4 1 [1, 2, 3, 4] [(5, false, false)] = true) (h1_0 : dfs 5 leaf 4 1 [0, 2, 3, 4] [(6, false, false)] = true) (h1_1 : dfs 5 leaf 4 1 [0, 2, 3, 4] [(1, false, false)] = true) (h2_0 : dfs 5 leaf 4 1 [1, 0, 3, 4] [(7, false, false)] = true) (h2_1 : dfs 5 leaf 4 1 [1, 0, 3, 4] [(2, false, false)] = true) (h3_0 : dfs 5 leaf 4 1 [2, 1, 0, 4] [(8, false, false)] = true) (h3_1 : dfs 5 leaf 4 1 [2, 1, 0, 4] [(3, false, false)] = true) (h4_0 : dfs 5 leaf 4 1 [3, 2, 1, 0] [(9, false, false)] = true) (h4_1 : dfs 5 leaf 4 1 [3, 2, 1, 0] [(4, false, false)] = true) : dfs 5 leaf 5 0 [0, 1, 2, 3, 4] [] = true := by
  show (and (and (dfs 5 leaf 4 1 [1, 2, 3, 4] [(5, false, false)]) true) (and (and (dfs 5 leaf 4 1 [0, 2, 3, 4] [(6, false, false)]) (dfs 5 leaf 4 1 [0, 2, 3, 4] [(1, false, false)])) (and (and (dfs 5 leaf 4 1 [1, 0, 3, 4] [(7, false, false)]) (dfs 5 leaf 4 1 [1, 0, 3, 4] [(2, false, false)])) (and (and (dfs 5 leaf 4 1 [2, 1, 0, 4] [(8, false, false)]) (dfs 5 leaf 4 1 [2, 1, 0, 4] [(3, false, false)])) (and (and (dfs 5 leaf 4 1 [3, 2, 1, 0] [(9, false, false)]) (dfs 5 leaf 4 1 [3, 2, 1, 0] [(4, false, false)])) true))))) = true
  rw [h0_0, h1_0, h1_1, h2_0, h2_1, h3_0, h3_1, h4_0, h4_1]
  rfl
theorem q5_0_0 : dfs 5 (leafSeq 5) 4 1 [1, 2, 3, 4] [(5, false, false)] = true := by decide +kernel
theorem q5_1_0 : dfs 5 (leafSeq 5) 4 1 [0, 2, 3, 4] [(6, false, false)] = true := by decide +kernel
theorem q5_1_1 : dfs 5 (leafSeq 5) 4 1 [0, 2, 3, 4] [(1, false, false)] = true := by decide +kernel
theorem q5_2_0 : dfs 5 (leafSeq 5) 4 1 [1, 0, 3, 4] [(7, false, false)] = true := by decide +kernel
theorem q5_2_1 : dfs 5 (leafSeq 5) 4 1 [1, 0, 3, 4] [(2, false, false)] = true := by decide +kernel
theorem q5_3_0 : dfs 5 (leafSeq 5) 4 1 [2, 1, 0, 4] [(8, false, false)] = true := by decide +kernel
theorem q5_3_1 : dfs 5 (leafSeq 5) 4 1 [2, 1, 0, 4] [(3, false, false)] = true := by decide +kernel
theorem q5_4_0 : dfs 5 (leafSeq 5) 4 1 [3, 2, 1, 0] [(9, false, false)] = true := by decide +kernel
theorem q5_4_1 : dfs 5 (leafSeq 5) 4 1 [3, 2, 1, 0] [(4, false, false)] = true := by decide +kernel
theorem q5 : dfs 5 (leafSeq 5) 5 0 (List.range 5) [] = true := dfs_top5 q5_0_0 q5_1_0 q5_1_1 q5_2_0 q5_2_1 q5_3_0 q5_3_1 q5_4_0 q5_4_1
theorem s5_0_0 : dfs 5 (leafStep 5) 4 1 [1, 2, 3, 4] [(5, false, false)] = true := by decide +kernel
theorem s5_1_0 : dfs 5 (leafStep 5) 4 1 [0, 2, 3, 4] [(6, false, false)] = true := by decide +kernel
theorem s5_1_1 : dfs 5 (leafStep 5) 4 1 [0, 2, 3, 4] [(1, false, false)] = true := by decide +kernel
theorem s5_2_0 : dfs 5 (leafStep 5) 4 1 [1, 0, 3, 4] [(7, false, false)] = true := by decide +kernel
theorem s5_2_1 : dfs 5 (leafStep 5) 4 1 [1, 0, 3, 4] [(2, false, false)] = true := by decide +kernel
theorem s5_3_0 : dfs 5 (leafStep 5) 4 1 [2, 1, 0, 4] [(8, false, false)] = true := by decide +kernel
theorem s5_3_1 : dfs 5 (leafStep 5) 4 1 [2, 1, 0, 4] [(3, false, false)] = true := by decide +kernel
theorem s5_4_0 : dfs 5 (leafStep 5) 4 1 [3, 2, 1, 0] [(9, false, false)] = true := by decide +kernel
theorem s5_4_1 : dfs 5 (leafStep 5) 4 1 [3, 2, 1, 0] [(4, false, false)] = true := by decide +kernel
theorem s5 : dfs 5 (leafStep 5) 5 0 (List.range 5) [] = true := dfs_top5 s5_0_0 s5_1_0 s5_1_1 s5_2_0 s5_2_1 s5_3_0 s5_3_1 s5_4_0 s5_4_1
theorem dfs_top6 {leaf : Cd → Bool} (h0_0 : dfs 6 leaf 5 1 [1, 2, 3, 4, 5] [(6, false, false)] = true) (h1_0 : dfs 6 leaf 5 1 [0, 2, 3, 4, 5] [(7, false, false)] = true) (h1_1 : dfs 6 leaf 5 1 [0, 2, 3, 4, 5] [(1, false, false)] = true) (h2_0 : dfs 6 leaf 5 1 [1, 0, 3, 4, 5] [(8, false, false)] = true) (h2_1 : dfs 6 leaf 5 1 [1, 0, 3, 4, 5] [(2, false, false)] = true) (h3_0 : dfs 6 leaf 5 1 [2, 1, 0, 4, 5] [(9, false, false)] = true) (h3_1 : dfs 6 leaf 5 1 [2, 1, 0, 4, 5] [(3, false, false)] = true) (h4_0 : dfs 6 leaf 5 1 [3, 2, 1, 0, 5] [(10, false, false)] = true) (h4_1 : dfs 6 leaf 5 1 [3, 2, 1, 0, 5] [(4, false, false)] = true) (h5_0 : dfs 6 leaf 5 1 [4, 3, 2, 1, 0] [(11, false, false)] = true) (h5_1 : dfs 6 leaf 5 1 [4, 3, 2, 1, 0] [(5, false, false)] = true) : dfs 6 leaf 6 0 [0, 1, 2, 3, 4, 5] [] = true := by
  show (and (and (dfs 6 leaf 5 1 [1, 2, 3, 4, 5] [(6, false, false)]) true) (and (and (dfs 6 leaf 5 1 [0, 2, 3, 4, 5] [(7, false, false)]) (dfs 6 leaf 5 1 [0, 2, 3, 4, 5] [(1, false, false)])) (and (and (dfs 6 leaf 5 1 [1, 0, 3, 4, 5] [(8, false, false)]) (dfs 6 leaf 5 1 [1, 0, 3, 4, 5] [(2, false, false)])) (and (and (dfs 6 leaf 5 1 [2, 1, 0, 4, 5] [(9, false, false)]) (dfs 6 leaf 5 1 [2, 1, 0, 4, 5] [(3, false, false)])) (and (and (dfs 6 leaf 5 1 [3, 2, 1, 0, 5] [(10, false, false)]) (dfs 6 leaf 5 1 [3, 2, 1, 0, 5] [(4, false, false)])) (and (and (dfs 6 leaf 5 1 [4, 3, 2, 1, 0] [(11, false, false)]) (dfs 6 leaf 5 1 [4, 3, 2, 1, 0] [(5, false, false)])) true)))))) = true
  rw [h0_0, h1_0, h1_1, h2_0, h2_1, h3_0, h3_1, h4_0, h4_1, h5_0, h5_1]
  rfl
theorem q6_0_0 : dfs 6 (leafSeq 6) 5 1 [1, 2, 3, 4, 5] [(6, false, false)] = true := by decide +kernel
theorem q6_1_0 : dfs 6 (leafSeq 6) 5 1 [0, 2, 3, 4, 5] [(7, false, false)] = true := by decide +kernel
theorem q6_1_1 : dfs 6 (leafSeq 6) 5 1 [0, 2, 3, 4, 5] [(1, false, false)] = true := by decide +kernel
theorem q6_2_0 : dfs 6 (leafSeq 6) 5 1 [1, 0, 3, 4, 5] [(8, false, false)] = true := by decide +kernel
theorem q6_2_1 : dfs 6 (leafSeq 6) 5 1 [1, 0, 3, 4, 5] [(2, false, false)] = true := by decide +kernel
theorem q6_3_0 : dfs 6 (leafSeq 6) 5 1 [2, 1, 0, 4, 5] [(9, false, false)] = true := by decide +kernel
theorem q6_3_1 : dfs 6 (leafSeq 6) 5 1 [2, 1, 0, 4, 5] [(3, false, false)] = true := by decide +kernel
theorem q6_4_0 : dfs 6 (leafSeq 6) 5 1 [3, 2, 1, 0, 5] [(10, false, false)] = true := by decide +kernel
theorem q6_4_1 : dfs 6 (leafSeq 6) 5 1 [3, 2, 1, 0, 5] [(4, false, false)] = true := by decide +kernel
theorem q6_5_0 : dfs 6 (leafSeq 6) 5 1 [4, 3, 2, 1, 0] [(11, false, false)] = true := by decide +kernel
theorem q6_5_1 : dfs 6 (leafSeq 6) 5 1 [4, 3, 2, 1, 0] [(5, false, false)] = true := by decide +kernel
theorem q6 : dfs 6 (leafSeq 6) 6 0 (List.range 6) [] = true := dfs_top6 q6_0_0 q6_1_0 q6_1_1 q6_2_0 q6_2_1 q6_3_0 q6_3_1 q6_4_0 q6_4_1 q6_5_0 q6_5_1
theorem fin3 : Fin2 3 := ⟨⟨by decide, by decide, q3⟩, s3, by decide +kernel, by decide +kernel, by decide +kernel⟩
theorem fin4 : Fin2 4 := ⟨⟨by decide, by decide, q4⟩, s4, by decide +kernel, by decide +kernel, by decide +kernel⟩
theorem fin5 : Fin2 5 := ⟨⟨by decide, by decide, q5⟩, s5, by decide +kernel, by decide +kernel, by decide +kernel⟩
theorem fin6 : Fin1 6 := ⟨by decide, by decide, q6⟩
end R57
set_option Elab.async false
set_option linter.all false
set_option maxRecDepth 100000
set_option maxHeartbeats 4000000
/-! the program by places, what its top leaves -/
namespace K57
open PySem PySem.Spec PyProof.Rows L2 Evl R57
def top (i : Nat) : Stmt := PySem.Challenge.pw_swaprow_k57_whole_rings_reached.main.body.getD i (.Pass ⟨0, 0, 0, 0⟩)
abbrev s_is_integer : Stmt := top 7
abbrev s_is_number_below : Stmt := top 8
abbrev s_is_ranking : Stmt := top 9
abbrev s_check_rankings : Stmt := top 10
abbrev s_rank_tables : Stmt := top 11
abbrev s_check_arrangement : Stmt := top 13
abbrev s_check_fitting : Stmt := top 14
abbrev s_end_of_copy : Stmt := top 17
abbrev s_later_copies : Stmt := top 18
abbrev s_inversions_there : Stmt := top 19
abbrev s_triple_there : Stmt := top 20
abbrev s_place_there : Stmt := top 21
abbrev s_refusals_there : Stmt := top 22
abbrev s_sequence_for : Stmt := top 23
abbrev s_decide_there : Stmt := top 24
abbrev s_check_listed : Stmt := top 25
abbrev s_options_there : Stmt := top 26
abbrev s_reach_ring : Stmt := top 27
abbrev s_law_mixed : Stmt := top 29
abbrev s_law_folded : Stmt := top 30
abbrev s_law_draw : Stmt := top 31
abbrev s_law_begun : Stmt := top 32
abbrev s_law_mixed_up : Stmt := top 33
abbrev s_law_ring_walk : Stmt := top 34
abbrev s_law_ring_lists : Stmt := top 35
abbrev s_law_likes_more : Stmt := top 36
abbrev s_law_ring_may : Stmt := top 37
abbrev s_law_ring_after : Stmt := top 38
abbrev s_law_ring_all : Stmt := top 39
abbrev s_law_ring_ended : Stmt := top 40
abbrev s_law_ring_pairs : Stmt := top 41
abbrev s_law_ring_triples : Stmt := top 42
abbrev s_law_ring_place : Stmt := top 43
abbrev s_law_ring_refusals : Stmt := top 44
abbrev s_law_ring_run : Stmt := top 45
abbrev s_law_ring_choices : Stmt := top 46
abbrev s_law_ring_word : Stmt := top 47
abbrev s_law_are_integers : Stmt := top 48
abbrev s_law_right : Stmt := top 49
abbrev s_law_six_right : Stmt := top 50
abbrev s_law : Stmt := top 51
abbrev FnP (K : PySem.W.Frag) (x : Str) (st : Stmt) (f : Addr) (fd : FuncData) : Prop := FunD K x x (defArgs st) (defBody st) (defScope st) [] [] f fd
/-- what the top leaves: the defs, the built-ins' names, two constants -/
structure Top (K : PySem.W.Frag) (mg : Str → Option Value) where
  f_is_integer : Addr
  fd_is_integer : FuncData
  F_is_integer : FnP K "is_integer" s_is_integer f_is_integer fd_is_integer
  g_is_integer : mg "is_integer" = some (.ref f_is_integer)
  f_is_number_below : Addr
  fd_is_number_below : FuncData
  F_is_number_below : FnP K "is_number_below" s_is_number_below f_is_number_below fd_is_number_below
  g_is_number_below : mg "is_number_below" = some (.ref f_is_number_below)
  f_is_ranking : Addr
  fd_is_ranking : FuncData
  F_is_ranking : FnP K "is_ranking" s_is_ranking f_is_ranking fd_is_ranking
  g_is_ranking : mg "is_ranking" = some (.ref f_is_ranking)
  f_check_rankings : Addr
  fd_check_rankings : FuncData
  F_check_rankings : FnP K "check_rankings" s_check_rankings f_check_rankings fd_check_rankings
  g_check_rankings : mg "check_rankings" = some (.ref f_check_rankings)
  f_rank_tables : Addr
  fd_rank_tables : FuncData
  F_rank_tables : FnP K "rank_tables" s_rank_tables f_rank_tables fd_rank_tables
  g_rank_tables : mg "rank_tables" = some (.ref f_rank_tables)
  f_check_arrangement : Addr
  fd_check_arrangement : FuncData
  F_check_arrangement : FnP K "check_arrangement" s_check_arrangement f_check_arrangement fd_check_arrangement
  g_check_arrangement : mg "check_arrangement" = some (.ref f_check_arrangement)
  f_check_fitting : Addr
  fd_check_fitting : FuncData
  F_check_fitting : FnP K "check_fitting" s_check_fitting f_check_fitting fd_check_fitting
  g_check_fitting : mg "check_fitting" = some (.ref f_check_fitting)
  f_end_of_copy : Addr
  fd_end_of_copy : FuncData
  F_end_of_copy : FnP K "end_of_copy" s_end_of_copy f_end_of_copy fd_end_of_copy
  g_end_of_copy : mg "end_of_copy" = some (.ref f_end_of_copy)
  f_later_copies : Addr
  fd_later_copies : FuncData
  F_later_copies : FnP K "later_copies" s_later_copies f_later_copies fd_later_copies
  g_later_copies : mg "later_copies" = some (.ref f_later_copies)
  f_inversions_there : Addr
  fd_inversions_there : FuncData
  F_inversions_there : FnP K "inversions_there" s_inversions_there f_inversions_there fd_inversions_there
  g_inversions_there : mg "inversions_there" = some (.ref f_inversions_there)
  f_triple_there : Addr
  fd_triple_there : FuncData
  F_triple_there : FnP K "triple_there" s_triple_there f_triple_there fd_triple_there
  g_triple_there : mg "triple_there" = some (.ref f_triple_there)
  f_place_there : Addr
  fd_place_there : FuncData
  F_place_there : FnP K "place_there" s_place_there f_place_there fd_place_there
  g_place_there : mg "place_there" = some (.ref f_place_there)
  f_refusals_there : Addr
  fd_refusals_there : FuncData
  F_refusals_there : FnP K "refusals_there" s_refusals_there f_refusals_there fd_refusals_there
  g_refusals_there : mg "refusals_there" = some (.ref f_refusals_there)
  f_sequence_for : Addr
  fd_sequence_for : FuncData
  F_sequence_for : FnP K "sequence_for" s_sequence_for f_sequence_for fd_sequence_for
  g_sequence_for : mg "sequence_for" = some (.ref f_sequence_for)
  f_decide_there : Addr
  fd_decide_there : FuncData
  F_decide_there : FnP K "decide_there" s_decide_there f_decide_there fd_decide_there
  g_decide_there : mg "decide_there" = some (.ref f_decide_there)
  f_check_listed : Addr
  fd_check_listed : FuncData
  F_check_listed : FnP K "check_listed" s_check_listed f_check_listed fd_check_listed
  g_check_listed : mg "check_listed" = some (.ref f_check_listed)
  f_options_there : Addr
  fd_options_there : FuncData
  F_options_there : FnP K "options_there" s_options_there f_options_there fd_options_there
  g_options_there : mg "options_there" = some (.ref f_options_there)
  f_reach_ring : Addr
  fd_reach_ring : FuncData
  F_reach_ring : FnP K "reach_ring" s_reach_ring f_reach_ring fd_reach_ring
  g_reach_ring : mg "reach_ring" = some (.ref f_reach_ring)
  f_law_mixed : Addr
  fd_law_mixed : FuncData
  F_law_mixed : FnP K "_law_mixed" s_law_mixed f_law_mixed fd_law_mixed
  g_law_mixed : mg "_law_mixed" = some (.ref f_law_mixed)
  f_law_folded : Addr
  fd_law_folded : FuncData
  F_law_folded : FnP K "_law_folded" s_law_folded f_law_folded fd_law_folded
  g_law_folded : mg "_law_folded" = some (.ref f_law_folded)
  f_law_draw : Addr
  fd_law_draw : FuncData
  F_law_draw : FnP K "_law_draw" s_law_draw f_law_draw fd_law_draw
  g_law_draw : mg "_law_draw" = some (.ref f_law_draw)
  f_law_begun : Addr
  fd_law_begun : FuncData
  F_law_begun : FnP K "_law_begun" s_law_begun f_law_begun fd_law_begun
  g_law_begun : mg "_law_begun" = some (.ref f_law_begun)
  f_law_mixed_up : Addr
  fd_law_mixed_up : FuncData
  F_law_mixed_up : FnP K "_law_mixed_up" s_law_mixed_up f_law_mixed_up fd_law_mixed_up
  g_law_mixed_up : mg "_law_mixed_up" = some (.ref f_law_mixed_up)
  f_law_ring_walk : Addr
  fd_law_ring_walk : FuncData
  F_law_ring_walk : FnP K "_law_ring_walk" s_law_ring_walk f_law_ring_walk fd_law_ring_walk
  g_law_ring_walk : mg "_law_ring_walk" = some (.ref f_law_ring_walk)
  f_law_ring_lists : Addr
  fd_law_ring_lists : FuncData
  F_law_ring_lists : FnP K "_law_ring_lists" s_law_ring_lists f_law_ring_lists fd_law_ring_lists
  g_law_ring_lists : mg "_law_ring_lists" = some (.ref f_law_ring_lists)
  f_law_likes_more : Addr
  fd_law_likes_more : FuncData
  F_law_likes_more : FnP K "_law_likes_more" s_law_likes_more f_law_likes_more fd_law_likes_more
  g_law_likes_more : mg "_law_likes_more" = some (.ref f_law_likes_more)
  f_law_ring_may : Addr
  fd_law_ring_may : FuncData
  F_law_ring_may : FnP K "_law_ring_may" s_law_ring_may f_law_ring_may fd_law_ring_may
  g_law_ring_may : mg "_law_ring_may" = some (.ref f_law_ring_may)
  f_law_ring_after : Addr
  fd_law_ring_after : FuncData
  F_law_ring_after : FnP K "_law_ring_after" s_law_ring_after f_law_ring_after fd_law_ring_after
  g_law_ring_after : mg "_law_ring_after" = some (.ref f_law_ring_after)
  f_law_ring_all : Addr
  fd_law_ring_all : FuncData
  F_law_ring_all : FnP K "_law_ring_all" s_law_ring_all f_law_ring_all fd_law_ring_all
  g_law_ring_all : mg "_law_ring_all" = some (.ref f_law_ring_all)
  f_law_ring_ended : Addr
  fd_law_ring_ended : FuncData
  F_law_ring_ended : FnP K "_law_ring_ended" s_law_ring_ended f_law_ring_ended fd_law_ring_ended
  g_law_ring_ended : mg "_law_ring_ended" = some (.ref f_law_ring_ended)
  f_law_ring_pairs : Addr
  fd_law_ring_pairs : FuncData
  F_law_ring_pairs : FnP K "_law_ring_pairs" s_law_ring_pairs f_law_ring_pairs fd_law_ring_pairs
  g_law_ring_pairs : mg "_law_ring_pairs" = some (.ref f_law_ring_pairs)
  f_law_ring_triples : Addr
  fd_law_ring_triples : FuncData
  F_law_ring_triples : FnP K "_law_ring_triples" s_law_ring_triples f_law_ring_triples fd_law_ring_triples
  g_law_ring_triples : mg "_law_ring_triples" = some (.ref f_law_ring_triples)
  f_law_ring_place : Addr
  fd_law_ring_place : FuncData
  F_law_ring_place : FnP K "_law_ring_place" s_law_ring_place f_law_ring_place fd_law_ring_place
  g_law_ring_place : mg "_law_ring_place" = some (.ref f_law_ring_place)
  f_law_ring_refusals : Addr
  fd_law_ring_refusals : FuncData
  F_law_ring_refusals : FnP K "_law_ring_refusals" s_law_ring_refusals f_law_ring_refusals fd_law_ring_refusals
  g_law_ring_refusals : mg "_law_ring_refusals" = some (.ref f_law_ring_refusals)
  f_law_ring_run : Addr
  fd_law_ring_run : FuncData
  F_law_ring_run : FnP K "_law_ring_run" s_law_ring_run f_law_ring_run fd_law_ring_run
  g_law_ring_run : mg "_law_ring_run" = some (.ref f_law_ring_run)
  f_law_ring_choices : Addr
  fd_law_ring_choices : FuncData
  F_law_ring_choices : FnP K "_law_ring_choices" s_law_ring_choices f_law_ring_choices fd_law_ring_choices
  g_law_ring_choices : mg "_law_ring_choices" = some (.ref f_law_ring_choices)
  f_law_ring_word : Addr
  fd_law_ring_word : FuncData
  F_law_ring_word : FnP K "_law_ring_word" s_law_ring_word f_law_ring_word fd_law_ring_word
  g_law_ring_word : mg "_law_ring_word" = some (.ref f_law_ring_word)
  f_law_are_integers : Addr
  fd_law_are_integers : FuncData
  F_law_are_integers : FnP K "_law_are_integers" s_law_are_integers f_law_are_integers fd_law_are_integers
  g_law_are_integers : mg "_law_are_integers" = some (.ref f_law_are_integers)
  f_law_right : Addr
  fd_law_right : FuncData
  F_law_right : FnP K "_law_right" s_law_right f_law_right fd_law_right
  g_law_right : mg "_law_right" = some (.ref f_law_right)
  f_law_six_right : Addr
  fd_law_six_right : FuncData
  F_law_six_right : FnP K "_law_six_right" s_law_six_right f_law_six_right fd_law_six_right
  g_law_six_right : mg "_law_six_right" = some (.ref f_law_six_right)
  f_law : Addr
  fd_law : FuncData
  F_law : FnP K "law" s_law f_law fd_law
  g_law : mg "law" = some (.ref f_law)
  z_enumerate : mg "enumerate" = none
  z_range : mg "range" = none
  z_list : mg "list" = none
  z_any : mg "any" = none
  z_tuple : mg "tuple" = none
  z_len : mg "len" = none
  z_isinstance : mg "isinstance" = none
  z_int : mg "int" = none
  z_bool : mg "bool" = none
  z_all : mg "all" = none
  z_set : mg "set" = none
  z_sorted : mg "sorted" = none
  z_str : mg "str" = none
  z_zip : mg "zip" = none
  z_sum : mg "sum" = none
  c_MAX_PEOPLE : ∃ t, mg "MAX_PEOPLE" = some (.int 40 t)
  c_MAX_RING_LISTED : ∃ t, mg "MAX_RING_LISTED" = some (.int 6 t)
section
variable {K : PySem.W.Frag} {mg : Str → Option Value} (T : Top K mg)
include T
theorem Top.kp_is_integer : PySem.W.keepIn K (.ref T.f_is_integer) = true := T.F_is_integer.kp
theorem Top.b_is_integer : Binds K T.fd_is_integer ["value"] [] := T.F_is_integer.bindsN fun _ _ _ _ _ _ us hl => match us, hl with | [_], _ => rfl
theorem Top.kp_is_number_below : PySem.W.keepIn K (.ref T.f_is_number_below) = true := T.F_is_number_below.kp
theorem Top.b_is_number_below : Binds K T.fd_is_number_below ["value", "limit"] [] := T.F_is_number_below.bindsN fun _ _ _ _ _ _ us hl => match us, hl with | [_, _], _ => rfl
theorem Top.kp_is_ranking : PySem.W.keepIn K (.ref T.f_is_ranking) = true := T.F_is_ranking.kp
theorem Top.b_is_ranking : Binds K T.fd_is_ranking ["value", "size"] [] := T.F_is_ranking.bindsN fun _ _ _ _ _ _ us hl => match us, hl with | [_, _], _ => rfl
theorem Top.kp_check_rankings : PySem.W.keepIn K (.ref T.f_check_rankings) = true := T.F_check_rankings.kp
theorem Top.b_check_rankings : Binds K T.fd_check_rankings ["value"] [] := T.F_check_rankings.bindsN fun _ _ _ _ _ _ us hl => match us, hl with | [_], _ => rfl
theorem Top.kp_rank_tables : PySem.W.keepIn K (.ref T.f_rank_tables) = true := T.F_rank_tables.kp
theorem Top.b_rank_tables : Binds K T.fd_rank_tables ["rankings"] [] := T.F_rank_tables.bindsN fun _ _ _ _ _ _ us hl => match us, hl with | [_], _ => rfl
theorem Top.kp_check_arrangement : PySem.W.keepIn K (.ref T.f_check_arrangement) = true := T.F_check_arrangement.kp
theorem Top.b_check_arrangement : Binds K T.fd_check_arrangement ["value"] [] := T.F_check_arrangement.bindsN fun _ _ _ _ _ _ us hl => match us, hl with | [_], _ => rfl
theorem Top.kp_check_fitting : PySem.W.keepIn K (.ref T.f_check_fitting) = true := T.F_check_fitting.kp
theorem Top.b_check_fitting : Binds K T.fd_check_fitting ["rankings", "arrangement"] [] := T.F_check_fitting.bindsN fun _ _ _ _ _ _ us hl => match us, hl with | [_, _], _ => rfl
theorem Top.kp_end_of_copy : PySem.W.keepIn K (.ref T.f_end_of_copy) = true := T.F_end_of_copy.kp
theorem Top.b_end_of_copy : Binds K T.fd_end_of_copy ["displacements", "copy"] [] := T.F_end_of_copy.bindsN fun _ _ _ _ _ _ us hl => match us, hl with | [_, _], _ => rfl
theorem Top.kp_later_copies : PySem.W.keepIn K (.ref T.f_later_copies) = true := T.F_later_copies.kp
theorem Top.b_later_copies : Binds K T.fd_later_copies ["displacements", "copy"] [] := T.F_later_copies.bindsN fun _ _ _ _ _ _ us hl => match us, hl with | [_, _], _ => rfl
theorem Top.kp_inversions_there : PySem.W.keepIn K (.ref T.f_inversions_there) = true := T.F_inversions_there.kp
theorem Top.b_inversions_there : Binds K T.fd_inversions_there ["displacements"] [] := T.F_inversions_there.bindsN fun _ _ _ _ _ _ us hl => match us, hl with | [_], _ => rfl
theorem Top.kp_triple_there : PySem.W.keepIn K (.ref T.f_triple_there) = true := T.F_triple_there.kp
theorem Top.b_triple_there : Binds K T.fd_triple_there ["displacements"] [] := T.F_triple_there.bindsN fun _ _ _ _ _ _ us hl => match us, hl with | [_], _ => rfl
theorem Top.kp_place_there : PySem.W.keepIn K (.ref T.f_place_there) = true := T.F_place_there.kp
theorem Top.b_place_there : Binds K T.fd_place_there ["displacements", "x", "z"] [] := T.F_place_there.bindsN fun _ _ _ _ _ _ us hl => match us, hl with | [_, _, _], _ => rfl
theorem Top.kp_refusals_there : PySem.W.keepIn K (.ref T.f_refusals_there) = true := T.F_refusals_there.kp
theorem Top.b_refusals_there : Binds K T.fd_refusals_there ["tables", "displacements", "x", "z"] [] := T.F_refusals_there.bindsN fun _ _ _ _ _ _ us hl => match us, hl with | [_, _, _, _], _ => rfl
theorem Top.kp_sequence_for : PySem.W.keepIn K (.ref T.f_sequence_for) = true := T.F_sequence_for.kp
theorem Top.b_sequence_for : Binds K T.fd_sequence_for ["displacements"] [] := T.F_sequence_for.bindsN fun _ _ _ _ _ _ us hl => match us, hl with | [_], _ => rfl
theorem Top.kp_decide_there : PySem.W.keepIn K (.ref T.f_decide_there) = true := T.F_decide_there.kp
theorem Top.b_decide_there : Binds K T.fd_decide_there ["rankings", "displacements"] [] := T.F_decide_there.bindsN fun _ _ _ _ _ _ us hl => match us, hl with | [_, _], _ => rfl
theorem Top.kp_check_listed : PySem.W.keepIn K (.ref T.f_check_listed) = true := T.F_check_listed.kp
theorem Top.b_check_listed : Binds K T.fd_check_listed ["size"] [] := T.F_check_listed.bindsN fun _ _ _ _ _ _ us hl => match us, hl with | [_], _ => rfl
theorem Top.kp_options_there : PySem.W.keepIn K (.ref T.f_options_there) = true := T.F_options_there.kp
theorem Top.b_options_there : Binds K T.fd_options_there ["arrangement"] [] := T.F_options_there.bindsN fun _ _ _ _ _ _ us hl => match us, hl with | [_], _ => rfl
theorem Top.kp_reach_ring : PySem.W.keepIn K (.ref T.f_reach_ring) = true := T.F_reach_ring.kp
theorem Top.b_reach_ring : Binds K T.fd_reach_ring ["rankings", "arrangement"] [] := T.F_reach_ring.bindsN fun _ _ _ _ _ _ us hl => match us, hl with | [_, _], _ => rfl
theorem Top.kp_law_mixed : PySem.W.keepIn K (.ref T.f_law_mixed) = true := T.F_law_mixed.kp
theorem Top.b_law_mixed : Binds K T.fd_law_mixed ["_law_cell", "_law_n"] [] := T.F_law_mixed.bindsN fun _ _ _ _ _ _ us hl => match us, hl with | [_, _], _ => rfl
theorem Top.kp_law_folded : PySem.W.keepIn K (.ref T.f_law_folded) = true := T.F_law_folded.kp
theorem Top.b_law_folded : Binds K T.fd_law_folded ["_law_script"] [] := T.F_law_folded.bindsN fun _ _ _ _ _ _ us hl => match us, hl with | [_], _ => rfl
theorem Top.kp_law_draw : PySem.W.keepIn K (.ref T.f_law_draw) = true := T.F_law_draw.kp
theorem Top.b_law_draw : Binds K T.fd_law_draw ["_law_m", "_law_top"] [] := T.F_law_draw.bindsN fun _ _ _ _ _ _ us hl => match us, hl with | [_, _], _ => rfl
theorem Top.kp_law_begun : PySem.W.keepIn K (.ref T.f_law_begun) = true := T.F_law_begun.kp
theorem Top.b_law_begun : Binds K T.fd_law_begun ["_law_script"] [] := T.F_law_begun.bindsN fun _ _ _ _ _ _ us hl => match us, hl with | [_], _ => rfl
theorem Top.kp_law_mixed_up : PySem.W.keepIn K (.ref T.f_law_mixed_up) = true := T.F_law_mixed_up.kp
theorem Top.b_law_mixed_up : Binds K T.fd_law_mixed_up ["_law_m", "_law_things"] [] := T.F_law_mixed_up.bindsN fun _ _ _ _ _ _ us hl => match us, hl with | [_, _], _ => rfl
theorem Top.kp_law_ring_walk : PySem.W.keepIn K (.ref T.f_law_ring_walk) = true := T.F_law_ring_walk.kp
theorem Top.b_law_ring_walk : Binds K T.fd_law_ring_walk ["_law_m", "_law_many"] [] := T.F_law_ring_walk.bindsN fun _ _ _ _ _ _ us hl => match us, hl with | [_, _], _ => rfl
theorem Top.kp_law_ring_lists : PySem.W.keepIn K (.ref T.f_law_ring_lists) = true := T.F_law_ring_lists.kp
theorem Top.b_law_ring_lists : Binds K T.fd_law_ring_lists ["_law_m", "_law_many", "_law_held"] [] := T.F_law_ring_lists.bindsN fun _ _ _ _ _ _ us hl => match us, hl with | [_, _, _], _ => rfl
theorem Top.kp_law_likes_more : PySem.W.keepIn K (.ref T.f_law_likes_more) = true := T.F_law_likes_more.kp
theorem Top.b_law_likes_more : Binds K T.fd_law_likes_more ["_law_lists", "_law_who", "_law_thing", "_law_far"] [] := T.F_law_likes_more.bindsN fun _ _ _ _ _ _ us hl => match us, hl with | [_, _, _, _], _ => rfl
theorem Top.kp_law_ring_may : PySem.W.keepIn K (.ref T.f_law_ring_may) = true := T.F_law_ring_may.kp
theorem Top.b_law_ring_may : Binds K T.fd_law_ring_may ["_law_lists", "_law_row", "_law_at"] [] := T.F_law_ring_may.bindsN fun _ _ _ _ _ _ us hl => match us, hl with | [_, _, _], _ => rfl
theorem Top.kp_law_ring_after : PySem.W.keepIn K (.ref T.f_law_ring_after) = true := T.F_law_ring_after.kp
theorem Top.b_law_ring_after : Binds K T.fd_law_ring_after ["_law_row", "_law_moves", "_law_at"] [] := T.F_law_ring_after.bindsN fun _ _ _ _ _ _ us hl => match us, hl with | [_, _, _], _ => rfl
theorem Top.kp_law_ring_all : PySem.W.keepIn K (.ref T.f_law_ring_all) = true := T.F_law_ring_all.kp
theorem Top.b_law_ring_all : Binds K T.fd_law_ring_all ["_law_lists"] [] := T.F_law_ring_all.bindsN fun _ _ _ _ _ _ us hl => match us, hl with | [_], _ => rfl
theorem Top.kp_law_ring_ended : PySem.W.keepIn K (.ref T.f_law_ring_ended) = true := T.F_law_ring_ended.kp
theorem Top.b_law_ring_ended : Binds K T.fd_law_ring_ended ["_law_moves", "_law_u"] [] := T.F_law_ring_ended.bindsN fun _ _ _ _ _ _ us hl => match us, hl with | [_, _], _ => rfl
theorem Top.kp_law_ring_pairs : PySem.W.keepIn K (.ref T.f_law_ring_pairs) = true := T.F_law_ring_pairs.kp
theorem Top.b_law_ring_pairs : Binds K T.fd_law_ring_pairs ["_law_moves"] [] := T.F_law_ring_pairs.bindsN fun _ _ _ _ _ _ us hl => match us, hl with | [_], _ => rfl
theorem Top.kp_law_ring_triples : PySem.W.keepIn K (.ref T.f_law_ring_triples) = true := T.F_law_ring_triples.kp
theorem Top.b_law_ring_triples : Binds K T.fd_law_ring_triples ["_law_moves"] [] := T.F_law_ring_triples.bindsN fun _ _ _ _ _ _ us hl => match us, hl with | [_], _ => rfl
theorem Top.kp_law_ring_place : PySem.W.keepIn K (.ref T.f_law_ring_place) = true := T.F_law_ring_place.kp
theorem Top.b_law_ring_place : Binds K T.fd_law_ring_place ["_law_moves", "_law_x", "_law_z"] [] := T.F_law_ring_place.bindsN fun _ _ _ _ _ _ us hl => match us, hl with | [_, _, _], _ => rfl
theorem Top.kp_law_ring_refusals : PySem.W.keepIn K (.ref T.f_law_ring_refusals) = true := T.F_law_ring_refusals.kp
theorem Top.b_law_ring_refusals : Binds K T.fd_law_ring_refusals ["_law_lists", "_law_moves"] [] := T.F_law_ring_refusals.bindsN fun _ _ _ _ _ _ us hl => match us, hl with | [_, _], _ => rfl
theorem Top.kp_law_ring_run : PySem.W.keepIn K (.ref T.f_law_ring_run) = true := T.F_law_ring_run.kp
theorem Top.b_law_ring_run : Binds K T.fd_law_ring_run ["_law_lists", "_law_road"] [] := T.F_law_ring_run.bindsN fun _ _ _ _ _ _ us hl => match us, hl with | [_, _], _ => rfl
theorem Top.kp_law_ring_choices : PySem.W.keepIn K (.ref T.f_law_ring_choices) = true := T.F_law_ring_choices.kp
theorem Top.b_law_ring_choices : Binds K T.fd_law_ring_choices ["_law_row"] [] := T.F_law_ring_choices.bindsN fun _ _ _ _ _ _ us hl => match us, hl with | [_], _ => rfl
theorem Top.kp_law_ring_word : PySem.W.keepIn K (.ref T.f_law_ring_word) = true := T.F_law_ring_word.kp
theorem Top.b_law_ring_word : Binds K T.fd_law_ring_word ["_law_lists", "_law_moves", "_law_reply"] [] := T.F_law_ring_word.bindsN fun _ _ _ _ _ _ us hl => match us, hl with | [_, _, _], _ => rfl
theorem Top.kp_law_are_integers : PySem.W.keepIn K (.ref T.f_law_are_integers) = true := T.F_law_are_integers.kp
theorem Top.b_law_are_integers : Binds K T.fd_law_are_integers ["_law_thing", "_law_many"] [] := T.F_law_are_integers.bindsN fun _ _ _ _ _ _ us hl => match us, hl with | [_, _], _ => rfl
theorem Top.kp_law_right : PySem.W.keepIn K (.ref T.f_law_right) = true := T.F_law_right.kp
theorem Top.b_law_right : Binds K T.fd_law_right ["_law_lists", "_law_row", "_law_rows"] [] := T.F_law_right.bindsN fun _ _ _ _ _ _ us hl => match us, hl with | [_, _, _], _ => rfl
theorem Top.kp_law_six_right : PySem.W.keepIn K (.ref T.f_law_six_right) = true := T.F_law_six_right.kp
theorem Top.b_law_six_right : Binds K T.fd_law_six_right ["_law_m"] [] := T.F_law_six_right.bindsN fun _ _ _ _ _ _ us hl => match us, hl with | [_], _ => rfl
theorem Top.kp_law : PySem.W.keepIn K (.ref T.f_law) = true := T.F_law.kp
theorem Top.b_law : Binds K T.fd_law ["_law_script"] [] := T.F_law.bindsN fun _ _ _ _ _ _ us hl => match us, hl with | [_], _ => rfl
end
abbrev n_is_integer : List Str := ["value"]
theorem sc_is_integer : FnScope n_is_integer ["value"] (defScope s_is_integer) := ⟨rfl, rfl, rfl, by decide +kernel, rfl, by decide +kernel, by decide +kernel⟩
abbrev n_is_number_below : List Str := ["value", "limit"]
theorem sc_is_number_below : FnScope n_is_number_below ["value", "limit"] (defScope s_is_number_below) := ⟨rfl, rfl, rfl, by decide +kernel, rfl, by decide +kernel, by decide +kernel⟩
abbrev n_is_ranking : List Str := ["value", "size", "item"]
theorem sc_is_ranking : FnScope n_is_ranking ["value", "size"] (defScope s_is_ranking) := ⟨rfl, rfl, rfl, by decide +kernel, rfl, by decide +kernel, by decide +kernel⟩
abbrev n_check_rankings : List Str := ["value", "person", "ranking"]
theorem sc_check_rankings : FnScope n_check_rankings ["value"] (defScope s_check_rankings) := ⟨rfl, rfl, rfl, by decide +kernel, rfl, by decide +kernel, by decide +kernel⟩
abbrev n_rank_tables : List Str := ["rankings", "ranking", "place", "item"]
theorem sc_rank_tables : FnScope n_rank_tables ["rankings"] (defScope s_rank_tables) := ⟨rfl, rfl, rfl, by decide +kernel, rfl, by decide +kernel, by decide +kernel⟩
abbrev n_check_arrangement : List Str := ["value", "position", "item"]
theorem sc_check_arrangement : FnScope n_check_arrangement ["value"] (defScope s_check_arrangement) := ⟨rfl, rfl, rfl, by decide +kernel, rfl, by decide +kernel, by decide +kernel⟩
abbrev n_check_fitting : List Str := ["rankings", "arrangement"]
theorem sc_check_fitting : FnScope n_check_fitting ["rankings", "arrangement"] (defScope s_check_fitting) := ⟨rfl, rfl, rfl, by decide +kernel, rfl, by decide +kernel, by decide +kernel⟩
abbrev n_end_of_copy : List Str := ["displacements", "copy"]
theorem sc_end_of_copy : FnScope n_end_of_copy ["displacements", "copy"] (defScope s_end_of_copy) := ⟨rfl, rfl, rfl, by decide +kernel, rfl, by decide +kernel, by decide +kernel⟩
abbrev n_later_copies : List Str := ["displacements", "copy", "end", "size", "other"]
theorem sc_later_copies : FnScope n_later_copies ["displacements", "copy"] (defScope s_later_copies) := ⟨rfl, rfl, rfl, by decide +kernel, rfl, by decide +kernel, by decide +kernel⟩
abbrev n_inversions_there : List Str := ["displacements", "found", "x", "z"]
theorem sc_inversions_there : FnScope n_inversions_there ["displacements"] (defScope s_inversions_there) := ⟨rfl, rfl, rfl, by decide +kernel, rfl, by decide +kernel, by decide +kernel⟩
abbrev n_triple_there : List Str := ["displacements", "x", "y", "later"]
theorem sc_triple_there : FnScope n_triple_there ["displacements"] (defScope s_triple_there) := ⟨rfl, rfl, rfl, by decide +kernel, rfl, by decide +kernel, by decide +kernel⟩
abbrev n_place_there : List Str := ["displacements", "x", "z", "left", "y"]
theorem sc_place_there : FnScope n_place_there ["displacements", "x", "z"] (defScope s_place_there) := ⟨rfl, rfl, rfl, by decide +kernel, rfl, by decide +kernel, by decide +kernel⟩
abbrev n_refusals_there : List Str := ["tables", "displacements", "x", "z", "size", "place", "other", "found"]
theorem sc_refusals_there : FnScope n_refusals_there ["tables", "displacements", "x", "z"] (defScope s_refusals_there) := ⟨rfl, rfl, rfl, by decide +kernel, rfl, by decide +kernel, by decide +kernel⟩
abbrev n_sequence_for : List Str := ["displacements", "size", "rest", "found", "arrangement", "swap", "other", "right", "left", "move"]
theorem sc_sequence_for : FnScope n_sequence_for ["displacements"] (defScope s_sequence_for) := ⟨rfl, rfl, rfl, by decide +kernel, rfl, by decide +kernel, by decide +kernel⟩
abbrev n_decide_there : List Str := ["rankings", "displacements", "triple", "tables", "x", "z", "found"]
theorem sc_decide_there : FnScope n_decide_there ["rankings", "displacements"] (defScope s_decide_there) := ⟨rfl, rfl, rfl, by decide +kernel, rfl, by decide +kernel, by decide +kernel⟩
abbrev n_check_listed : List Str := ["size"]
theorem sc_check_listed : FnScope n_check_listed ["size"] (defScope s_check_listed) := ⟨rfl, rfl, rfl, by decide +kernel, rfl, by decide +kernel, by decide +kernel⟩
abbrev n_options_there : List Str := ["arrangement", "size", "found", "item", "move", "moves", "start", "one", "option"]
theorem sc_options_there : FnScope n_options_there ["arrangement"] (defScope s_options_there) := ⟨rfl, rfl, rfl, by decide +kernel, rfl, by decide +kernel, by decide +kernel⟩
abbrev n_reach_ring : List Str := ["rankings", "arrangement", "answers", "found", "option", "answer"]
theorem sc_reach_ring : FnScope n_reach_ring ["rankings", "arrangement"] (defScope s_reach_ring) := ⟨rfl, rfl, rfl, by decide +kernel, rfl, by decide +kernel, by decide +kernel⟩
abbrev n_law_mixed : List Str := ["_law_cell", "_law_n", "_law_turned"]
theorem sc_law_mixed : FnScope n_law_mixed ["_law_cell", "_law_n"] (defScope s_law_mixed) := ⟨rfl, rfl, rfl, by decide +kernel, rfl, by decide +kernel, by decide +kernel⟩
abbrev n_law_folded : List Str := ["_law_script", "_law_found", "_law_n", "_law_cell"]
theorem sc_law_folded : FnScope n_law_folded ["_law_script"] (defScope s_law_folded) := ⟨rfl, rfl, rfl, by decide +kernel, rfl, by decide +kernel, by decide +kernel⟩
abbrev n_law_draw : List Str := ["_law_m", "_law_top", "_law_n", "_law_at", "_law_cell"]
theorem sc_law_draw : FnScope n_law_draw ["_law_m", "_law_top"] (defScope s_law_draw) := ⟨rfl, rfl, rfl, by decide +kernel, rfl, by decide +kernel, by decide +kernel⟩
abbrev n_law_begun : List Str := ["_law_script", "_law_m", "_law_cell"]
theorem sc_law_begun : FnScope n_law_begun ["_law_script"] (defScope s_law_begun) := ⟨rfl, rfl, rfl, by decide +kernel, rfl, by decide +kernel, by decide +kernel⟩
abbrev n_law_mixed_up : List Str := ["_law_m", "_law_things", "_law_stock", "_law_found", "_law_n"]
theorem sc_law_mixed_up : FnScope n_law_mixed_up ["_law_m", "_law_things"] (defScope s_law_mixed_up) := ⟨rfl, rfl, rfl, by decide +kernel, rfl, by decide +kernel, by decide +kernel⟩
abbrev n_law_ring_walk : List Str := ["_law_m", "_law_many", "_law_row", "_law_held", "_law_moves", "_law_n", "_law_at", "_law_near", "_law_thing", "_law_far", "_law_who"]
theorem sc_law_ring_walk : FnScope n_law_ring_walk ["_law_m", "_law_many"] (defScope s_law_ring_walk) := ⟨rfl, rfl, rfl, by decide +kernel, rfl, by decide +kernel, by decide +kernel⟩
abbrev n_law_ring_lists : List Str := ["_law_m", "_law_many", "_law_held", "_law_way", "_law_found", "_law_who", "_law_rest", "_law_liked", "_law_cut", "_law_thing"]
theorem sc_law_ring_lists : FnScope n_law_ring_lists ["_law_m", "_law_many", "_law_held"] (defScope s_law_ring_lists) := ⟨rfl, rfl, rfl, by decide +kernel, rfl, by decide +kernel, by decide +kernel⟩
abbrev n_law_likes_more : List Str := ["_law_lists", "_law_who", "_law_thing", "_law_far"]
theorem sc_law_likes_more : FnScope n_law_likes_more ["_law_lists", "_law_who", "_law_thing", "_law_far"] (defScope s_law_likes_more) := ⟨rfl, rfl, rfl, by decide +kernel, rfl, by decide +kernel, by decide +kernel⟩
abbrev n_law_ring_may : List Str := ["_law_lists", "_law_row", "_law_at", "_law_near"]
theorem sc_law_ring_may : FnScope n_law_ring_may ["_law_lists", "_law_row", "_law_at"] (defScope s_law_ring_may) := ⟨rfl, rfl, rfl, by decide +kernel, rfl, by decide +kernel, by decide +kernel⟩
abbrev n_law_ring_after : List Str := ["_law_row", "_law_moves", "_law_at", "_law_near", "_law_later", "_law_shifts"]
theorem sc_law_ring_after : FnScope n_law_ring_after ["_law_row", "_law_moves", "_law_at"] (defScope s_law_ring_after) := ⟨rfl, rfl, rfl, by decide +kernel, rfl, by decide +kernel, by decide +kernel⟩
abbrev n_law_ring_all : List Str := ["_law_lists", "_law_many", "_law_found", "_law_fresh", "_law_further", "_law_row", "_law_moves", "_law_at", "_law_there", "_law_step"]
theorem sc_law_ring_all : FnScope n_law_ring_all ["_law_lists"] (defScope s_law_ring_all) := ⟨rfl, rfl, rfl, by decide +kernel, rfl, by decide +kernel, by decide +kernel⟩
abbrev n_law_ring_ended : List Str := ["_law_moves", "_law_u"]
theorem sc_law_ring_ended : FnScope n_law_ring_ended ["_law_moves", "_law_u"] (defScope s_law_ring_ended) := ⟨rfl, rfl, rfl, by decide +kernel, rfl, by decide +kernel, by decide +kernel⟩
abbrev n_law_ring_pairs : List Str := ["_law_moves", "_law_many", "_law_found", "_law_x", "_law_end", "_law_z"]
theorem sc_law_ring_pairs : FnScope n_law_ring_pairs ["_law_moves"] (defScope s_law_ring_pairs) := ⟨rfl, rfl, rfl, by decide +kernel, rfl, by decide +kernel, by decide +kernel⟩
abbrev n_law_ring_triples : List Str := ["_law_moves", "_law_many", "_law_found", "_law_x", "_law_y", "_law_end", "_law_z"]
theorem sc_law_ring_triples : FnScope n_law_ring_triples ["_law_moves"] (defScope s_law_ring_triples) := ⟨rfl, rfl, rfl, by decide +kernel, rfl, by decide +kernel, by decide +kernel⟩
abbrev n_law_ring_place : List Str := ["_law_moves", "_law_x", "_law_z", "_law_y"]
theorem sc_law_ring_place : FnScope n_law_ring_place ["_law_moves", "_law_x", "_law_z"] (defScope s_law_ring_place) := ⟨rfl, rfl, rfl, by decide +kernel, rfl, by decide +kernel, by decide +kernel⟩
abbrev n_law_ring_refusals : List Str := ["_law_lists", "_law_moves", "_law_many", "_law_found", "_law_x", "_law_z", "_law_at", "_law_near"]
theorem sc_law_ring_refusals : FnScope n_law_ring_refusals ["_law_lists", "_law_moves"] (defScope s_law_ring_refusals) := ⟨rfl, rfl, rfl, by decide +kernel, rfl, by decide +kernel, by decide +kernel⟩
abbrev n_law_ring_run : List Str := ["_law_lists", "_law_road", "_law_many", "_law_row", "_law_moves", "_law_at"]
theorem sc_law_ring_run : FnScope n_law_ring_run ["_law_lists", "_law_road"] (defScope s_law_ring_run) := ⟨rfl, rfl, rfl, by decide +kernel, rfl, by decide +kernel, by decide +kernel⟩
abbrev n_law_ring_choices : List Str := ["_law_row", "_law_many", "_law_found", "_law_thing", "_law_shift", "_law_far", "_law_some", "_law_longer", "_law_ahead", "_law_one", "_law_moves"]
theorem sc_law_ring_choices : FnScope n_law_ring_choices ["_law_row"] (defScope s_law_ring_choices) := ⟨rfl, rfl, rfl, by decide +kernel, rfl, by decide +kernel, by decide +kernel⟩
abbrev n_law_ring_word : List Str := ["_law_lists", "_law_moves", "_law_reply", "_law_word", "_law_found", "_law_good", "_law_some"]
theorem sc_law_ring_word : FnScope n_law_ring_word ["_law_lists", "_law_moves", "_law_reply"] (defScope s_law_ring_word) := ⟨rfl, rfl, rfl, by decide +kernel, rfl, by decide +kernel, by decide +kernel⟩
abbrev n_law_are_integers : List Str := ["_law_thing", "_law_many", "_law_one"]
theorem sc_law_are_integers : FnScope n_law_are_integers ["_law_thing", "_law_many"] (defScope s_law_are_integers) := ⟨rfl, rfl, rfl, by decide +kernel, rfl, by decide +kernel, by decide +kernel⟩
abbrev n_law_right : List Str := ["_law_lists", "_law_row", "_law_rows", "_law_found", "_law_moves", "_law_some", "_law_reply"]
theorem sc_law_right : FnScope n_law_right ["_law_lists", "_law_row", "_law_rows"] (defScope s_law_right) := ⟨rfl, rfl, rfl, by decide +kernel, rfl, by decide +kernel, by decide +kernel⟩
abbrev n_law_six_right : List Str := ["_law_m", "_law_lists", "_law_time", "_law_row", "_law_rows", "_law_moves"]
theorem sc_law_six_right : FnScope n_law_six_right ["_law_m"] (defScope s_law_six_right) := ⟨rfl, rfl, rfl, by decide +kernel, rfl, by decide +kernel, by decide +kernel⟩
abbrev n_law : List Str := ["_law_script", "_law_m", "_law_bout", "_law_many", "_law_lists", "_law_rows", "_law_some", "_law_row", "_law_shifts", "_law_time"]
theorem sc_law : FnScope n_law ["_law_script"] (defScope s_law) := ⟨rfl, rfl, rfl, by decide +kernel, rfl, by decide +kernel, by decide +kernel⟩
theorem hu64 {k : Nat} {A : Around} (hr : Room k A) : A.units + 64 < cLine := by have := hr.un; omega
theorem hu65 {k : Nat} {A : Around} (hr : Room k A) : A.units + 65 < cLine := by have := hr.un; omega

theorem bt_enumerate : bootBuiltins "enumerate" = some (.type "enumerate") := by decide +kernel
theorem bt_range : bootBuiltins "range" = some (.type "range") := by decide +kernel
theorem bt_list : bootBuiltins "list" = some (.type "list") := by decide +kernel
theorem bt_any : bootBuiltins "any" = some (.builtin "any") := by decide +kernel
theorem bt_tuple : bootBuiltins "tuple" = some (.type "tuple") := by decide +kernel
theorem bt_len : bootBuiltins "len" = some (.builtin "len") := by decide +kernel
theorem bt_isinstance : bootBuiltins "isinstance" = some (.builtin "isinstance") := by decide +kernel
theorem bt_int : bootBuiltins "int" = some (.type "int") := by decide +kernel
theorem bt_bool : bootBuiltins "bool" = some (.type "bool") := by decide +kernel
theorem bt_all : bootBuiltins "all" = some (.builtin "all") := by decide +kernel
theorem bt_set : bootBuiltins "set" = some (.type "set") := by decide +kernel
theorem bt_sorted : bootBuiltins "sorted" = some (.builtin "sorted") := by decide +kernel
theorem bt_str : bootBuiltins "str" = some (.type "str") := by decide +kernel
theorem bt_zip : bootBuiltins "zip" = some (.type "zip") := by decide +kernel
theorem bt_sum : bootBuiltins "sum" = some (.builtin "sum") := by decide +kernel
end K57
set_option Elab.async false
set_option linter.all false
set_option maxRecDepth 100000
set_option maxHeartbeats 4000000
/-! the checks of rankings and arrangements -/
namespace K57
open PySem PySem.Spec PyProof.Rows L2 Evl R57
section
variable {P : Program} {w : World} {K : PySem.W.Frag} {mg : Str → Option Value} {base : Heap}
/-- is_integer -/
def sp_is_integer : Sp := fun vs H Q _ => ∃ i : Int, vs = [.int i] ∧ RetV (.bl true) H Q
theorem ok_is_integer (T : Top K mg) : FnOk P w K mg base CX0 1 T.f_is_integer T.fd_is_integer ["value"] sp_is_integer := by
  refine T.F_is_integer.ok sc_is_integer (fun vs H Q E h => ?_) (fun cdv A outer s H vs Q E hr h => ?_)
  · obtain ⟨i, rfl, _⟩ := h
    rfl
  · obtain ⟨i, rfl, q⟩ := h
    refine ⟨_, PSs.nox (pss_one (ps_ret (pe_and (pe_callB call_isi (by rfl) T.z_isinstance bt_isinstance (pa_cons (pv 0) (pa_cons (pe_bltn (v := V.ty "int") (by rfl) T.z_int bt_int rfl) pa_nil))) (pe_one (pe_not (pe_callB call_isi (by rfl) T.z_isinstance bt_isinstance (pa_cons (pv 0) (pa_cons (pe_bltn (v := V.ty "bool") (by rfl) T.z_bool bt_bool rfl) pa_nil)))))))), ?_⟩
    have v0 := ev_var (σ := start n_is_integer [.int i]) (H := H) (i := 0) (v := .int i) rfl
    exact s_ret (ev_andV (evd_isiI (b := true) v0 (by decide +kernel)) fun _ => ev_notV (evd_isiI (b := false) v0 (by decide +kernel))) q
/-- is_number_below -/
def sp_is_number_below : Sp := fun vs H Q _ => ∃ i n : Int, vs = [.int i, .int n] ∧ RetV (.bl (decide (0 ≤ i) && decide (i < n))) H Q
theorem ok_is_number_below (T : Top K mg) : FnOk P w K mg base CX0 2 T.f_is_number_below T.fd_is_number_below ["value", "limit"] sp_is_number_below := by
  have G_is_integer := ok_is_integer (P := P) (w := w) (base := base) T
  refine T.F_is_number_below.ok sc_is_number_below (fun vs H Q E h => ?_) (fun cdv A outer s H vs Q E hr h => ?_)
  · obtain ⟨i, n, rfl, _⟩ := h
    rfl
  · obtain ⟨i, n, rfl, q⟩ := h
    refine ⟨_, PSs.nox (pss_one (ps_ret (pe_and (pe_call G_is_integer hr (by rfl) T.g_is_integer T.kp_is_integer T.b_is_integer .nil pass0 (pa_cons (pv 0) pa_nil)) (pe_one (pe_chain op_le op_lt pe_int (pv 0) (pv 1)))))), ?_⟩
    have v0 := ev_var (σ := start n_is_number_below [.int i, .int n]) (H := H) (i := 0) (v := .int i) rfl
    have v1 := ev_var (σ := start n_is_number_below [.int i, .int n]) (H := H) (i := 1) (v := .int n) rfl
    exact s_ret (ev_is (ev_andV (ev_call (vs := [.int i]) (ea_cons v0 ea_nil) (fun H1 _ Q q E => ⟨i, rfl, q⟩)) fun _ => ev_chain ev_c v0 rv_I0 v1 rv_I0) (by rw [Bool.true_and])) q
/-- is_ranking -/
def sp_is_ranking : Sp := fun vs H Q _ => ∃ (v : V) (ns : List Int) (n : Nat), vs = [v, .int (n : Int)] ∧ TD H v (dT ns) ∧ Pm n ns ∧ n ≤ 40 ∧ RetV (.bl true) H Q
theorem ok_is_ranking (T : Top K mg) : FnOk P w K mg base CX0 3 T.f_is_ranking T.fd_is_ranking ["value", "size"] sp_is_ranking := by
  have G_is_number_below := ok_is_number_below (P := P) (w := w) (base := base) T
  refine T.F_is_ranking.ok sc_is_ranking (fun vs H Q E h => ?_) (fun cdv A outer s H vs Q E hr h => ?_)
  · obtain ⟨v, ns, n, rfl, _⟩ := h
    rfl
  · obtain ⟨v, ns, n, rfl, t, pm, hn, q⟩ := h
    refine ⟨_, PSs.nox (pss_cons (ps_if (PW.pt (pw_or (pt_not (pt_val (pe_callB call_isi (by rfl) T.z_isinstance bt_isinstance (pa_cons (pv 0) (pa_cons (pe_bltn (v := V.ty "tuple") (by rfl) T.z_tuple bt_tuple rfl) pa_nil))))) (pw_or (pt_cmpR op_ne (pe_callB call_len_seq (by rfl) T.z_len bt_len (pa_cons (pv 0) pa_nil)) (pv 1) (nomark _)) (pw_or1 (pt_not (pt_val (pe_callB (cr_all rfl) (by rfl) T.z_all bt_all (pa_cons (pe_lc (own := [("item", 2)]) (g := gName 2) rfl sc_is_ranking.nd (pi_tup (pv 0)) (blkOk_by (own := [("item", 2)]) (N := n_is_ranking) (sc := defScope s_is_ranking) (by decide +kernel)) (fun _ _ _ _ _ => (pg_name (i := 2) sc_is_ranking.nd rfl (Or.inl rfl))) (fun _ _ _ _ _ => pts_nil) (fun _ _ _ _ _ => (pe_call G_is_number_below hr (by rfl) T.g_is_number_below T.kp_is_number_below T.b_is_number_below .nil pass0 (pa_cons (pv 2) (pa_cons (pv 1) pa_nil))))) pa_nil))))))))
    (pss_one (ps_ret pe_bl)) pss_nil)
    (pss_one (ps_ret (pe_cmpR op_eq (pe_lenSetT (by rfl) T.z_len (by rfl) T.z_set (pv 0)) (pv 1) (nomark _))))), ?_⟩
    have v0 := evd_var (σ := start n_is_ranking [v, .int n]) (H := H) (n := 0) (v := v) rfl t
    have v1 := ev_var (σ := start n_is_ranking [v, .int n]) (H := H) (i := 1) (v := .int n) rfl
    refine q_when (b := false) ?_ (fun h => nomatch h) (fun _ H1 e1 => ?_)
    · refine et_or (a := false) (et_not (a := true) (et_B (evd_isiT v0 (by decide +kernel)))) fun _ => et_or (a := false) (et_test (ev_is (ev_neI (ev_lenTI v0) v1) ?_)) fun _ => et_not (a := true) (et_B (ev_is (ev_all (bs := (ns.map fun _ => true)) ?_) ?_))
      · rw [pm.length, decide_eq_true rfl] <;> rfl
      · refine evn_is (evn_lcT ns PyData.int (fun _ => true) (fun _ => .bool true) v0 (by rw [pm.length]; omega) fun a x H2 ha e2 k => ?_) ?_
        · obtain rfl := k.int_inv
          refine ⟨_, fun Q h => h, rfl, evt_yes, fun _ => evd_of (ev_call (vs := [.int a, .int n]) (ea_cons (ev_var rfl) (ea_cons (ev_var rfl) ea_nil)) fun H3 _ Q q E => ⟨a, n, rfl, ?_⟩) (.bl true)⟩
          have hm := pm.mem.mp ha
          rw [decide_eq_true hm.1, decide_eq_true hm.2]
          exact q
        · rw [filter_all, List.map_map] <;> rfl
      · simp
    · refine s_ret (ev_is (ev_eqI (i := (n : Int)) (j := (n : Int)) (fun H2 e2 Q q2 => ?_) (v1.mono e1)) (by simp)) fun H2 e2 => q H2 (e1.trans e2)
      obtain ⟨a, rfl, h1⟩ := (t.mono (ex_tx (e1.trans e2))).dT_inv
      exact ⟨_, rfl, a, ns, rfl, h1.sq, pm.nodup, by rw [pm.length]; omega, by rw [pm.length]; exact q2 H2 (Ex.refl H2)⟩
/-- check_rankings -/
def sp_check_rankings : Sp := fun vs H Q _ => ∃ (v : V) (ls : List (List Int)), vs = [v] ∧ TD H v (dLs ls) ∧ Rk ls ∧ RetV .non H Q
theorem ok_check_rankings (T : Top K mg) : FnOk P w K mg base CX0 4 T.f_check_rankings T.fd_check_rankings ["value"] sp_check_rankings := by
  have G_is_ranking := ok_is_ranking (P := P) (w := w) (base := base) T
  refine T.F_check_rankings.ok sc_check_rankings (fun vs H Q E h => ?_) (fun cdv A outer s H vs Q E hr h => ?_)
  · obtain ⟨v, ls, rfl, _⟩ := h
    rfl
  · obtain ⟨v, ls, rfl, t, rk, q⟩ := h
    refine ⟨_, PSs.nox (pss_cons (ps_if (PW.pt (pw_or (pt_not (pt_val (pe_callB call_isi (by rfl) T.z_isinstance bt_isinstance (pa_cons (pv 0) (pa_cons (pe_bltn (v := V.ty "tuple") (by rfl) T.z_tuple bt_tuple rfl) pa_nil))))) (pw_or1 (pt_not (pt_chain op_le op_le pe_int (pe_callB call_len_seq (by rfl) T.z_len bt_len (pa_cons (pv 0) pa_nil)) (pe_glob (v := V.int 40) rfl T.c_MAX_PEOPLE.choose_spec ⟨_, rfl⟩))))))
    (pss_one ps_never) pss_nil)
    (pss_one (ps_for PassesOwn.never rfl (pi_enumT (by rfl) T.z_enumerate (pa_cons (pv 0) pa_nil)) (pg_tup rfl (pgs_cons (pg_name (i := 1) sc_check_rankings.nd rfl (Or.inl rfl)) (pgs_cons (pg_name (i := 2) sc_check_rankings.nd rfl (Or.inl rfl)) pgs_nil)))
    (pss_one (ps_if (pt_not (pt_val (pe_call G_is_ranking hr (by rfl) T.g_is_ranking T.kp_is_ranking T.b_is_ranking .nil pass0 (pa_cons (pv 2) (pa_cons (pe_callB call_len_seq (by rfl) T.z_len bt_len (pa_cons (pv 0) pa_nil)) pa_nil)))))
    (pss_one ps_never) pss_nil))))), ?_⟩
    have v0 := evd_var (σ := start n_check_rankings [v]) (H := H) (n := 0) (v := v) rfl t
    have len : (ls.map dT).length = ls.length := List.length_map _
    have h1 := rk.one
    have h40 := rk.few
    refine q_when (b := false) ?_ (fun h => nomatch h) (fun _ H1 e1 => ?_)
    · refine et_or (a := false) (et_not (a := true) (et_B (evd_isiT v0 (by decide +kernel)))) fun _ => et_not (a := true) (et_test (ev_is (ev_chain (ev_c (v := .int 1)) (ev_lenT v0) rv_I0 (ev_c (v := .int 40)) rv_I0) ?_))
      rw [len, decide_eq_true (show (1 : Int) ≤ (ls.length : Int) by omega), decide_eq_true (show (ls.length : Int) ≤ 40 by omega)] <;> rfl
    · obtain ⟨a, xs, rfl, hx, ts⟩ := t.tup_inv
      have hxl : xs.length = ls.length := by rw [ts.length, len]
      refine ⟨.ref a, rfl, a, xs, rfl, (hx.mono e1).sq, ?_⟩
      refine ⟨fun i m σ' H' => (∃ y1 y2, σ' = [some (.ref a), y1, y2]) ∧ Ex H1 H' ∧ m + i = ls.length, ⟨ls.length, ⟨none, none, rfl⟩, Ex.refl H1, by omega⟩, ?_⟩
      rintro i m σ' H' ⟨⟨y1, y2, rfl⟩, ex, hm⟩
      have hq : SqT K H' a xs := (hx.mono (e1.trans ex)).sq
      by_cases hi : i < ls.length
      · refine .inr ⟨⟨hq, by omega⟩, fun σ2 H2 => (∃ y1 y2, σ2 = [some (.ref a), y1, y2]) ∧ Ex H1 H2, fun σ2 H2 h2 => ⟨m - 1, by omega, h2.1, h2.2, by omega⟩, ?_⟩
        rintro x H2 ⟨Tt, y, rfl, hT, rfl, hy⟩
        have el : (ls.map dT)[i]? = some (dT ls[i]) := by rw [List.getElem?_map, List.getElem?_eq_getElem hi] <;> rfl
        obtain ⟨y', h3, h4⟩ := ts.get el
        obtain rfl := Option.some.inj (hy.symm.trans h3)
        refine ⟨Tt, [.int i, y], rfl, SqT.of upd_same, rfl, _, _, rfl, _, _, rfl, rfl, ?_⟩
        have e2 : Ex H1 (upd H' Tt (.tup [.int i, y])) := ex.trans (Ex.new hT)
        refine s_when (b := false) (et_not (a := true) (et_B (ev_call (vs := [y, .int ls.length]) ?_ fun H3 e3 Q q E => ⟨y, ls[i], ls.length, rfl, h4.mono (ex_tx ((e1.trans e2).trans e3)), rk.all _ (List.getElem_mem hi), h40, q⟩))) (fun h => nomatch h) fun _ H3 e3 => ⟨⟨_, _, rfl⟩, e2.trans e3⟩
        exact ea_cons (ev_var rfl) (ea_cons (ev_is (ev_lenT (evd_var rfl (.tup (hx.mono (e1.trans e2)) (ts.mono (ex_tx (e1.trans e2)))))) (by rw [len])) ea_nil)
      · refine .inl ⟨⟨hq, by omega⟩, q H' (e1.trans ex)⟩
end
end K57
set_option Elab.async false
set_option linter.all false
set_option maxRecDepth 100000
set_option maxHeartbeats 4000000
/-! arrangements, ends of copies, inversions, triples -/
namespace K57
open PySem PySem.Spec PyProof.Rows L2 Evl R57
section
variable {P : Program} {w : World} {K : PySem.W.Frag} {mg : Str → Option Value} {base : Heap}
theorem in_take {ns : List Int} (hn : ns.Nodup) {i : Nat} {x : Int} (h : ns[i]? = some x) : inV (.int x) ((ns.take i).map V.int) = false := by
  unfold inV
  rw [List.any_map]
  refine List.any_eq_false.mpr fun y hy e => ?_
  have e2 : y = x := eq_of_beq (show (y == x) = true from e)
  rw [e2] at hy
  obtain ⟨j, hj⟩ := List.mem_iff_getElem?.mp hy
  rw [List.getElem?_take] at hj
  by_cases hji : j < i
  · rw [if_pos hji] at hj
    obtain ⟨a1, a2⟩ := List.getElem?_eq_some_iff.mp h
    obtain ⟨b1, b2⟩ := List.getElem?_eq_some_iff.mp hj
    have := (List.getElem_inj hn).mp (a2.trans b2.symm)
    omega
  · rw [if_neg hji] at hj
    cases hj
theorem all_flat (ns : List Int) : (ns.map V.int).all flatV = true := by
  rw [List.all_map]
  exact List.all_eq_true.mpr fun _ _ => rfl
/-- check_arrangement -/
def sp_check_arrangement : Sp := fun vs H Q _ => ∃ (v : V) (ns : List Int), vs = [v] ∧ TD H v (dT ns) ∧ 1 ≤ ns.length ∧ ns.length ≤ 40 ∧ Pm ns.length ns ∧ RetV .non H Q
theorem ok_check_arrangement (T : Top K mg) : FnOk P w K mg base CX0 3 T.f_check_arrangement T.fd_check_arrangement ["value"] sp_check_arrangement := by
  have G_is_number_below := ok_is_number_below (P := P) (w := w) (base := base) T
  refine T.F_check_arrangement.ok sc_check_arrangement (fun vs H Q E h => ?_) (fun cdv A outer s H vs Q E hr h => ?_)
  · obtain ⟨v, ls, rfl, _⟩ := h
    rfl
  · obtain ⟨v, ns, rfl, t, h1, h40, pm, q⟩ := h
    refine ⟨_, PSs.nox (pss_cons (ps_if (PW.pt (pw_or (pt_not (pt_val (pe_callB call_isi (by rfl) T.z_isinstance bt_isinstance (pa_cons (pv 0) (pa_cons (pe_bltn (v := V.ty "tuple") (by rfl) T.z_tuple bt_tuple rfl) pa_nil))))) (pw_or1 (pt_not (pt_chain op_le op_le pe_int (pe_callB call_len_seq (by rfl) T.z_len bt_len (pa_cons (pv 0) pa_nil)) (pe_glob (v := V.int 40) rfl T.c_MAX_PEOPLE.choose_spec ⟨_, rfl⟩))))))
    (pss_one ps_never) pss_nil)
    (pss_one (ps_for PassesOwn.never rfl (pi_enumT (by rfl) T.z_enumerate (pa_cons (pv 0) pa_nil)) (pg_tup rfl (pgs_cons (pg_name (i := 1) sc_check_arrangement.nd rfl (Or.inl rfl)) (pgs_cons (pg_name (i := 2) sc_check_arrangement.nd rfl (Or.inl rfl)) pgs_nil)))
    (pss_one (ps_if (PW.pt (pw_or (pt_not (pt_val (pe_call G_is_number_below hr (by rfl) T.g_is_number_below T.kp_is_number_below T.b_is_number_below .nil pass0 (pa_cons (pv 2) (pa_cons (pe_callB call_len_seq (by rfl) T.z_len bt_len (pa_cons (pv 0) pa_nil)) pa_nil))))) (pw_or1 (pt_cmpR op_in_seq (pv 2) (pe_slice sl_tupA (pv 0) po_none (po_some (pv 1))) rfl))))
    (pss_one ps_never) pss_nil))))), ?_⟩
    have v0 := evd_var (σ := start n_check_arrangement [v]) (H := H) (n := 0) (v := v) rfl t
    refine q_when (b := false) ?_ (fun h => nomatch h) (fun _ H1 e1 => ?_)
    · refine et_or (a := false) (et_not (a := true) (et_B (evd_isiT v0 (by decide +kernel)))) fun _ => et_not (a := true) (et_test (ev_is (ev_chain (ev_c (v := .int 1)) (ev_lenTI v0) rv_I0 (ev_c (v := .int 40)) rv_I0) ?_))
      rw [decide_eq_true (show (1 : Int) ≤ (ns.length : Int) by omega), decide_eq_true (show (ns.length : Int) ≤ 40 by omega)] <;> rfl
    · obtain ⟨a, rfl, hx⟩ := t.dT_inv
      refine ⟨.ref a, rfl, a, ns.map V.int, rfl, (hx.mono e1).sq, ?_⟩
      refine ⟨fun i m σ' H' => (∃ y1 y2, σ' = [some (.ref a), y1, y2]) ∧ Ex H1 H' ∧ m + i = ns.length, ⟨ns.length, ⟨none, none, rfl⟩, Ex.refl H1, by omega⟩, ?_⟩
      rintro i m σ' H' ⟨⟨y1, y2, rfl⟩, ex, hm⟩
      have hq : SqT K H' a (ns.map V.int) := (hx.mono (e1.trans ex)).sq
      by_cases hi : i < ns.length
      · refine .inr ⟨⟨hq, by rw [List.length_map]; exact hi⟩, fun σ2 H2 => (∃ y1 y2, σ2 = [some (.ref a), y1, y2]) ∧ Ex H1 H2, fun σ2 H2 h2 => ⟨m - 1, by omega, h2.1, h2.2, by omega⟩, ?_⟩
        rintro x H2 ⟨Tt, y, rfl, hT, rfl, hy⟩
        rw [List.getElem?_map, List.getElem?_eq_getElem hi] at hy
        obtain rfl := Option.some.inj hy
        refine ⟨Tt, [.int i, .int ns[i]], rfl, SqT.of upd_same, rfl, _, _, rfl, _, _, rfl, rfl, ?_⟩
        have e2 : Ex H1 (upd H' Tt (.tup [.int i, .int ns[i]])) := ex.trans (Ex.new hT)
        have hx2 := hx.mono (e1.trans e2)
        refine s_when (b := false) ?_ (fun h => nomatch h) fun _ H3 e3 => ⟨⟨_, _, rfl⟩, e2.trans e3⟩
        have hm2 := pm.mem.mp (List.getElem_mem hi)
        refine et_or (a := false) (et_not (a := true) (et_B (ev_call (vs := [.int ns[i], .int ns.length]) (ea_cons (ev_var rfl) (ea_cons (ev_lenTI (evd_var rfl (.dT hx2))) ea_nil)) fun H3 e3 Q q E => ⟨ns[i], ns.length, rfl, ?_⟩))) fun _ => et_test ?_
        · rw [decide_eq_true hm2.1, decide_eq_true hm2.2]
          exact q
        · refine ev_is (ev_opU (xs := (ns.take i).map V.int) (ev_var rfl) (fun H3 e3 Q q => ?_) fun p H3 hp e3 => rv_inT (neg := false) (st_of hp) rfl (all_flat _)) ?_
          · refine ⟨_, rfl, _, rfl, (i : Int), rfl, a, ns.map V.int, rfl, (hx2.mono e3).sq, fun hw => ?_, fun _ p hp => ?_⟩
            · exfalso
              have e4 : HT.sIx (ns.map V.int).length (ns.map V.int).length (some (i : Int)) = min i (ns.map V.int).length := HT.sIx_nat _ _ i
              rw [e4, List.length_map] at hw
              omega
            · have e4 : HT.sIx (ns.map V.int).length (ns.map V.int).length (some (i : Int)) = min i (ns.map V.int).length := HT.sIx_nat _ _ i
              have e5 : cutV (ns.map V.int) none (some (i : Int)) = (ns.take i).map V.int := by
                unfold cutV
                rw [e4, HT.sIx_none, List.drop_zero, Nat.sub_zero, List.length_map, Nat.min_eq_left (by omega), List.map_take]
              rw [e5]
              exact q p _ hp (Ex.new hp) upd_same
          · rw [in_take pm.nodup (List.getElem?_eq_getElem hi)]
            rfl
      · refine .inl ⟨⟨hq, by rw [List.length_map]; omega⟩, q H' (e1.trans ex)⟩
/-- check_fitting -/
def sp_check_fitting : Sp := fun vs H Q _ => ∃ (v u : V) (ls : List (List Int)) (ns : List Int), vs = [v, u] ∧ TD H v (dLs ls) ∧ TD H u (dT ns) ∧ Rk ls ∧ Pm ls.length ns ∧ RetV .non H Q
theorem ok_check_fitting (T : Top K mg) : FnOk P w K mg base CX0 5 T.f_check_fitting T.fd_check_fitting ["rankings", "arrangement"] sp_check_fitting := by
  have G_check_rankings := ok_check_rankings (P := P) (w := w) (base := base) T
  have G_check_arrangement := ok_check_arrangement (P := P) (w := w) (base := base) T
  refine T.F_check_fitting.ok sc_check_fitting (fun vs H Q E h => ?_) (fun cdv A outer s H vs Q E hr h => ?_)
  · obtain ⟨v, u, ls, ns, rfl, _⟩ := h
    rfl
  · obtain ⟨v, u, ls, ns, rfl, t, tu, rk, pm, q⟩ := h
    refine ⟨_, PSs.nox (pss_cons (ps_expr (pe_call G_check_rankings hr (by rfl) T.g_check_rankings T.kp_check_rankings T.b_check_rankings .nil pass0 (pa_cons (pv 0) pa_nil)))
    (pss_cons (ps_expr (pe_call G_check_arrangement (hr.mono (by decide)) (by rfl) T.g_check_arrangement T.kp_check_arrangement T.b_check_arrangement .nil pass0 (pa_cons (pv 1) pa_nil)))
    (pss_one (ps_if (pt_cmpR op_ne (pe_callB call_len_seq (by rfl) T.z_len bt_len (pa_cons (pv 1) pa_nil)) (pe_callB call_len_seq (by rfl) T.z_len bt_len (pa_cons (pv 0) pa_nil)) (nomark _))
    (pss_one ps_never) pss_nil)))), ?_⟩
    have hl := pm.length
    have h1 := rk.one
    have h40 := rk.few
    have v0 := evd_var (σ := start n_check_fitting [v, u]) (H := H) (n := 0) (v := v) rfl t
    have v1 := evd_var (σ := start n_check_fitting [v, u]) (H := H) (n := 1) (v := u) rfl tu
    refine q_drop (ev_call (vs := [v]) (ea_cons (ev_var rfl) ea_nil) fun H1 e1 Q q E => ⟨v, ls, rfl, t.mono (ex_tx e1), rk, q⟩) fun H1 e1 => ?_
    refine q_drop (ev_call (vs := [u]) (ea_cons (ev_var rfl) ea_nil) fun H2 e2 Q q E => ⟨u, ns, rfl, tu.mono (ex_tx (e1.trans e2)), by omega, by omega, by rw [hl]; exact pm, q⟩) fun H2 e2 => ?_
    refine s_when (b := false) (et_test (ev_is (ev_neI (ev_lenTI (v1.mono (e1.trans e2))) (ev_lenT (v0.mono (e1.trans e2)))) ?_)) (fun h => nomatch h) fun _ H3 e3 => q H3 ((e1.trans e2).trans e3)
    rw [List.length_map, hl, decide_eq_true rfl] <;> rfl
/-- check_listed -/
def sp_check_listed : Sp := fun vs H Q _ => ∃ n : Int, vs = [.int n] ∧ 3 ≤ n ∧ n ≤ 6 ∧ RetV .non H Q
theorem ok_check_listed (T : Top K mg) : FnOk P w K mg base CX0 1 T.f_check_listed T.fd_check_listed ["size"] sp_check_listed := by
  refine T.F_check_listed.ok sc_check_listed (fun vs H Q E h => ?_) (fun cdv A outer s H vs Q E hr h => ?_)
  · obtain ⟨n, rfl, _⟩ := h
    rfl
  · obtain ⟨n, rfl, h3, h6, q⟩ := h
    refine ⟨_, PSs.nox (pss_one (ps_if (pt_not (pt_chain op_le op_le pe_int (pv 0) (pe_glob (v := V.int 6) rfl T.c_MAX_RING_LISTED.choose_spec ⟨_, rfl⟩)))
    (pss_one ps_never) pss_nil)), ?_⟩
    refine s_when (b := false) (et_not (a := true) (et_test (ev_is (ev_chain (ev_c (v := .int 3)) (ev_var (v := .int n) rfl) rv_I0 (ev_c (v := .int 6)) rv_I0) ?_))) (fun h => nomatch h) fun _ H3 e3 => q H3 e3
    rw [decide_eq_true h3, decide_eq_true h6] <;> rfl
/-- end_of_copy -/
def sp_end_of_copy : Sp := fun vs H Q _ => ∃ (v : V) (d : List Int) (u : Int), vs = [v, .int u] ∧ TD H v (dT d) ∧ d ≠ [] ∧ RetV (.int (endC d u)) H Q
theorem mod_in {d : List Int} (h : d ≠ []) (u : Int) : 0 ≤ u % (d.length : Int) ∧ u % (d.length : Int) < d.length ∧ 0 < (d.length : Int) := by
  have hp : 0 < d.length := List.length_pos_iff.mpr h
  have h1 : (0 : Int) < d.length := by omega
  exact ⟨Int.emod_nonneg _ (by omega), Int.emod_lt_of_pos _ h1, h1⟩
theorem ok_end_of_copy (T : Top K mg) : FnOk P w K mg base CX0 1 T.f_end_of_copy T.fd_end_of_copy ["displacements", "copy"] sp_end_of_copy := by
  refine T.F_end_of_copy.ok sc_end_of_copy (fun vs H Q E h => ?_) (fun cdv A outer s H vs Q E hr h => ?_)
  · obtain ⟨v, d, u, rfl, _⟩ := h
    rfl
  · obtain ⟨v, d, u, rfl, t, hd, q⟩ := h
    refine ⟨_, PSs.nox (pss_one (ps_ret (pe_op op_add (pv 1) (pe_ix ix_tup (pv 0) (pe_op op_mod (pv 1) (pe_callB call_len_seq (by rfl) T.z_len bt_len (pa_cons (pv 0) pa_nil))) (fun _ _ => rfl))))), ?_⟩
    have v0 := evd_var (σ := start n_end_of_copy [v, .int u]) (H := H) (n := 0) (v := v) rfl t
    have v1 := ev_var (σ := start n_end_of_copy [v, .int u]) (H := H) (i := 1) (v := .int u) rfl
    obtain ⟨m0, m1, m2⟩ := mod_in hd u
    exact s_ret (ev_bin v1 (ev_ixTI v0 (ev_binC v1 (ev_lenTI v0) m2) m0 m1)) q
theorem sv_end {H : Hp} {v : V} {d : List Int} (u : Int) (t : TD H v (dT d)) (hd : d ≠ []) : SpV sp_end_of_copy [v, .int u] H (.int (endC d u)) := fun H1 e1 Q q E => ⟨v, d, u, rfl, t.mono (ex_tx e1), hd, q⟩
/-- later_copies -/
def sp_later_copies : Sp := fun vs H Q _ => ∃ (v : V) (d : List Int) (u : Int), vs = [v, .int u] ∧ TD H v (dT d) ∧ d ≠ [] ∧ d.length ≤ 100 ∧ -1000 ≤ u ∧ u ≤ 1000 ∧ RetN ((laterP d u).map .int) H Q
theorem ok_later_copies (T : Top K mg) : FnOk P w K mg base CX0 2 T.f_later_copies T.fd_later_copies ["displacements", "copy"] sp_later_copies := by
  have G_end_of_copy := ok_end_of_copy (P := P) (w := w) (base := base) T
  refine T.F_later_copies.ok sc_later_copies (fun vs H Q E h => ?_) (fun cdv A outer s H vs Q E hr h => ?_)
  · obtain ⟨v, d, u, rfl, _⟩ := h
    rfl
  · obtain ⟨v, d, u, rfl, t, hd, hl, u0, u1, q⟩ := h
    refine ⟨_, PSs.nox (pss_cons (ps_asg (pe_tupF (pa_cons (pe_call G_end_of_copy hr (by rfl) T.g_end_of_copy T.kp_end_of_copy T.b_end_of_copy .nil pass0 (pa_cons (pv 0) (pa_cons (pv 1) pa_nil))) (pa_cons (pe_callB call_len_seq (by rfl) T.z_len bt_len (pa_cons (pv 0) pa_nil)) pa_nil))) (pg_tup rfl (pgs_cons (pg_name (i := 2) sc_later_copies.nd rfl (Or.inr rfl)) (pgs_cons (pg_name (i := 3) sc_later_copies.nd rfl (Or.inl rfl)) pgs_nil))))
    (pss_one (ps_ret (pe_lc (own := [("other", 4)]) (g := gName 4) rfl sc_later_copies.nd (pi_range2 (by rfl) T.z_range (pa_cons (pe_op op_add (pv 1) pe_int) (pa_cons (pe_op op_sub (pe_op op_add (pv 1) (pe_op op_mul pe_int (pv 3))) pe_int) pa_nil))) (blkOk_by (own := [("other", 4)]) (N := n_later_copies) (sc := defScope s_later_copies) (by decide +kernel)) (fun _ _ _ _ _ => (pg_name (i := 4) sc_later_copies.nd rfl (Or.inl rfl))) (fun _ _ _ _ _ => (pts_one (pt_cmpR op_lt (pe_call G_end_of_copy hr (by rfl) T.g_end_of_copy T.kp_end_of_copy T.b_end_of_copy .nil pass0 (pa_cons (pv 0) (pa_cons (pv 4) pa_nil))) (pv 2) (nomark _)))) (fun _ _ _ _ _ => (pv 4)))))), ?_⟩
    have v0 := evd_var (σ := start n_later_copies [v, .int u]) (H := H) (n := 0) (v := v) rfl t
    have v1 := ev_var (σ := start n_later_copies [v, .int u]) (H := H) (i := 1) (v := .int u) rfl
    refine q_tup2 (d1 := .int (endC d u)) (d2 := .int d.length) (evd_tup (ead_cons (evd_i (ev_call (vs := [v, .int u]) (ea_cons (ev_var rfl) (ea_cons v1 ea_nil)) (sv_end u t hd))) (ead_cons (evd_i (ev_lenTI v0)) ead_nil)) (by show 2 ≤ 1000; decide)) fun x y H1 e1 tx ty => ?_
    obtain rfl := tx.int_inv
    obtain rfl := ty.int_inv
    refine s_retN (evn_lcR2 (lo := u + 1) (hi := u + 2 * (d.length : Int) - 1) (fun z => decide (endC d z < endC d u)) PyData.int (ea_cons (ev_bin (ev_var rfl) ev_c) (ea_cons (ev_bin (ev_bin (ev_var rfl) (ev_binC (ev_c (v := .int 2)) (ev_var (v := .int d.length) rfl) (.inl ⟨by decide, by decide⟩))) ev_c) ea_nil)) (by omega) (fun _ => rfl) (fun z H2 e2 z0 z1 => ?_) (fun z H2 e2 z0 z1 _ => evd_i (ev_var rfl))) (q.mono e1)
    exact et_test (ev_bin (ev_call (vs := [v, .int z]) (ea_cons (ev_var rfl) (ea_cons (ev_var rfl) ea_nil)) (sv_end z (t.mono (ex_tx (e1.trans e2))) hd)) (ev_var rfl))
theorem sn_later {H : Hp} {v : V} {d : List Int} {u : Int} (t : TD H v (dT d)) (hd : d ≠ []) (hl : d.length ≤ 100) (h0 : -1000 ≤ u) (h1 : u ≤ 1000) {σ : L2.St} {ta : TA} {dvs : List V} {E : XK} (h : EvA ta σ H [v, .int u]) : EvN (tCall sp_later_copies [] E ta) σ H ((laterP d u).map .int) :=
  fun H1 e Q q => h H1 e _ fun H2 e2 => ⟨v, d, u, rfl, t.mono (ex_tx (e.trans e2)), hd, hl, h0, h1, q.mono e2⟩
/-- inversions_there -/
def d2 (p : Int × Int) : PyData := dT [p.1, p.2]
def sp_inversions_there : Sp := fun vs H Q _ => ∃ (v : V) (d : List Int), vs = [v] ∧ TD H v (dT d) ∧ d ≠ [] ∧ d.length ≤ 100 ∧ RetN ((invs d).map d2) H Q
theorem later_len (d : List Int) (u : Int) : (laterP d u).length ≤ 2 * d.length := by
  unfold laterP laterB
  refine Nat.le_trans (List.length_filter_le _ _) ?_
  rw [rng_length]
  omega
theorem flat_len {α β : Type} (f : α → List β) (k : Nat) (hf : ∀ a, (f a).length ≤ k) : ∀ l : List α, (l.flatMap f).length ≤ l.length * k
  | [] => by simp
  | a :: l => by
    rw [List.flatMap_cons, List.length_append, List.length_cons, Nat.succ_mul]
    have := flat_len f k hf l
    have := hf a
    omega
theorem ok_inversions_there (T : Top K mg) : FnOk P w K mg base CX0 3 T.f_inversions_there T.fd_inversions_there ["displacements"] sp_inversions_there := by
  have G_later_copies := ok_later_copies (P := P) (w := w) (base := base) T
  refine T.F_inversions_there.ok sc_inversions_there (fun vs H Q E h => ?_) (fun cdv A outer s H vs Q E hr h => ?_)
  · obtain ⟨v, d, rfl, _⟩ := h
    rfl
  · obtain ⟨v, d, rfl, t, hd, hl, q⟩ := h
    refine ⟨_, PSs.nox (pss_cons (ps_set (i := 1) sc_inversions_there.nd rfl (Or.inl rfl) (pe_lst pa_nil))
    (pss_cons (ps_for PassesOwn.never rfl (pi_range1 (by rfl) T.z_range (pa_cons (pe_callB call_len_seq (by rfl) T.z_len bt_len (pa_cons (pv 0) pa_nil)) pa_nil)) (pg_name (i := 2) sc_inversions_there.nd rfl (Or.inr rfl))
    (pss_one (ps_aug (i := 1) sc_inversions_there.nd rfl (Or.inl rfl) (pe_lc (own := [("z", 3)]) (g := gName 3) rfl sc_inversions_there.nd (pi_list (pe_call G_later_copies hr (by rfl) T.g_later_copies T.kp_later_copies T.b_later_copies .nil pass0 (pa_cons (pv 0) (pa_cons (pv 2) pa_nil)))) (blkOk_by (own := [("z", 3)]) (N := n_inversions_there) (sc := defScope s_inversions_there) (by decide +kernel)) (fun _ _ _ _ _ => (pg_name (i := 3) sc_inversions_there.nd rfl (Or.inl rfl))) (fun _ _ _ _ _ => pts_nil) (fun _ _ _ _ _ => (pe_tupF (pa_cons (pv 2) (pa_cons (pv 3) pa_nil))))) iop_ext)))
    (pss_one (ps_ret (pv 1))))), ?_⟩
    have v0 := evd_var (σ := start n_inversions_there [v]) (H := H) (n := 0) (v := v) rfl t
    refine q_asgN (evn_lst ead_nil (by decide)) fun p xs H1 hp e1 h1 ts => ?_
    obtain rfl := ts.nil_inv
    have w0 := evd_var (σ := [some v, some (.ref p), none, none]) (H := H1) (n := 0) (v := v) rfl (t.mono (ex_tx e1))
    refine q_forR1 (n := (d.length : Int)) (ea_cons (ev_lenTI w0) ea_nil) (by omega)
      (fun i σ' H' => (∃ y, σ' = [some v, some (.ref p), y, none]) ∧ Ex H H' ∧ ∃ xs, H' p = some (.lst xs) ∧ TDs H' xs ((((rng 0 (i : Int)).flatMap fun x => (laterP d x).map fun z => (x, z))).map d2))
      (fun H2 e2 => ⟨⟨none, rfl⟩, e1.trans e2, [], e2 _ _ h1, .nil⟩) (fun i σ' H' hi hP => ?_) (fun σ' H' hP => ?_)
    · obtain ⟨⟨y, rfl⟩, ex, xs, hx, txs⟩ := hP
      have hlen := txs.length
      rw [List.length_map] at hlen
      have hb := flat_len (fun x => (laterP d x).map fun z => (x, z)) (2 * d.length) (fun x => by rw [List.length_map]; exact later_len d x) (rng 0 (i : Int))
      rw [rng_length] at hb
      have hb2 : ((i : Int) - 0).toNat * (2 * d.length) ≤ 100 * 200 := Nat.mul_le_mul (by omega) (by omega)
      refine s_extN (ds := (((laterP d i).map fun z => ((i : Int), z)).map d2)) rfl hx ?_ ?_ fun ys H2 e2 tys => ⟨⟨_, rfl⟩, Ex.mut (ex.trans e2) hp, xs ++ ys, upd_same, ?_⟩
      · rw [List.map_map]
        refine evn_is (evn_lcN (laterP d i) PyData.int (fun _ => true) (fun z => d2 ((i : Int), z)) (sn_later (dvs := []) (t.mono (ex_tx ex)) hd hl (by omega) (by omega) (ea_cons (ev_var rfl) (ea_cons (ev_var rfl) ea_nil))) (Nat.le_trans (later_len d i) (by omega)) fun z x H2 hz e2 k => ?_) (by rw [filter_all] <;> rfl)
        obtain rfl := k.int_inv
        exact ⟨_, fun Q h => h, rfl, evt_yes, fun _ => evd_tup (ds := [.int (i : Int), .int z]) (ead_cons (evd_i (ev_var rfl)) (ead_cons (evd_i (ev_var rfl)) ead_nil)) (by show 2 ≤ 1000; decide)⟩
      · rw [hlen, List.length_map, List.length_map]
        have := later_len d (i : Int)
        omega
      · have e3 : ((i + 1 : Nat) : Int) = (i : Int) + 1 := by omega
        rw [e3, rng_succ (by omega), List.flatMap_append, List.flatMap_singleton, List.map_append]
        exact ((txs.mono (ex_tx e2)).append tys).mono (tx_lst (TX.refl _) (e2 _ _ hx))
    · obtain ⟨⟨y, rfl⟩, ex, xs, hx, txs⟩ := hP
      refine s_ret (ev_var (v := .ref p) rfl) fun H2 e2 => q p xs H2 hp (ex.trans e2) (e2 _ _ hx) ?_
      have e3 : (((d.length : Int).toNat : Nat) : Int) = (d.length : Int) := by omega
      rw [e3] at txs
      exact txs.mono (ex_tx e2)
theorem sn_invs {H : Hp} {v : V} {d : List Int} (t : TD H v (dT d)) (hd : d ≠ []) (hl : d.length ≤ 100) {σ : L2.St} {ta : TA} {E : XK} (h : EvA ta σ H [v]) : EvN (tCall sp_inversions_there [] E ta) σ H ((invs d).map d2) :=
  fun H1 e Q q => h H1 e _ fun H2 e2 => ⟨v, d, rfl, t.mono (ex_tx (e.trans e2)), hd, hl, q.mono e2⟩
end
end K57
set_option Elab.async false
set_option linter.all false
set_option maxRecDepth 100000
set_option maxHeartbeats 4000000
/-! triples, places, rank tables, refusals -/
namespace K57
open PySem PySem.Spec PyProof.Rows L2 Evl R57
section
variable {P : Program} {w : World} {K : PySem.W.Frag} {mg : Str → Option Value} {base : Heap}
def d3 (t : Int × Int × Int) : PyData := dT [t.1, t.2.1, t.2.2]
def d4 (t : Int × Int × Int × Int) : PyData := dT [t.1, t.2.1, t.2.2.1, t.2.2.2]
def dO : Option (Int × Int × Int) → PyData
  | none => .none
  | some t => d3 t
/-- triple_there -/
def sp_triple_there : Sp := fun vs H Q _ => ∃ (v : V) (d : List Int), vs = [v] ∧ TD H v (dT d) ∧ d ≠ [] ∧ d.length ≤ 100 ∧ RetD (dO (triple? d)) H Q
theorem ok_triple_there (T : Top K mg) : FnOk P w K mg base CX0 4 T.f_triple_there T.fd_triple_there ["displacements"] sp_triple_there := by
  have G_later_copies := ok_later_copies (P := P) (w := w) (base := base) T
  have G_inversions_there := ok_inversions_there (P := P) (w := w) (base := base) T
  refine T.F_triple_there.ok sc_triple_there (fun vs H Q E h => ?_) (fun cdv A outer s H vs Q E hr h => ?_)
  · obtain ⟨v, d, rfl, _⟩ := h
    rfl
  · obtain ⟨v, d, rfl, t, hd, hl, q⟩ := h
    refine ⟨_, PSs.nox (pss_cons (ps_for PassesOwn.never rfl (pi_list (pe_call G_inversions_there hr (by rfl) T.g_inversions_there T.kp_inversions_there T.b_inversions_there .nil pass0 (pa_cons (pv 0) pa_nil))) (pg_tup rfl (pgs_cons (pg_name (i := 1) sc_triple_there.nd rfl (Or.inl rfl)) (pgs_cons (pg_name (i := 2) sc_triple_there.nd rfl (Or.inl rfl)) pgs_nil)))
    (pss_cons (ps_set (i := 3) sc_triple_there.nd rfl (Or.inl rfl) (pe_call G_later_copies (hr.mono (by decide)) (by rfl) T.g_later_copies T.kp_later_copies T.b_later_copies .nil pass0 (pa_cons (pv 0) (pa_cons (pv 2) pa_nil))))
    (pss_one (ps_if (pt_cmpR (op_neD (hu64 hr)) (pv 3) (pe_lst pa_nil) (nomark _))
    (pss_one (ps_ret (pe_tupF (pa_cons (pv 1) (pa_cons (pv 2) (pa_cons (pe_ix ix_list (pv 3) pe_int (fun _ _ => rfl)) pa_nil)))))) pss_nil))))
    (pss_one (ps_ret pe_non))), ?_⟩
    refine q_forN (invs d) d2 (sn_invs t hd hl (ea_cons (ev_var rfl) ea_nil)) (fun i σ' H' => (∃ y1 y2 y3, σ' = [some v, y1, y2, y3]) ∧ ∀ (j : Nat) c, j < i → (invs d)[j]? = some c → tripleOf d c = none)
      (fun H1 e1 => ⟨⟨none, none, none, rfl⟩, fun j c h => absurd h (Nat.not_lt_zero j)⟩) (fun H1 e1 i a x σ' H' ha ex hP k => ?_) (fun H1 σ' H' e1 ex hP => ?_)
    · obtain ⟨⟨y1, y2, y3, rfl⟩, no⟩ := hP
      obtain ⟨x0, z0⟩ := a
      obtain ⟨m0, m1, m2, m3, m4⟩ := mem_invs.mp (List.mem_of_getElem? ha)
      obtain ⟨xv, zv, tx, tz, g⟩ := g_tup2 (K := K) (σ := [some v, y1, y2, y3]) (i := 1) (j := 2) (d1 := .int x0) (d2 := .int z0) k
      obtain rfl := tx.int_inv
      obtain rfl := tz.int_inv
      refine g _ ?_
      have t' := t.mono (ex_tx (e1.trans ex))
      refine q_asgN (sn_later (dvs := []) t' hd hl (by omega) (by omega) (ea_cons (ev_var rfl) (ea_cons (ev_var rfl) ea_nil))) fun p xs H2 hp e2 h2 ts => ?_
      have sh : SeqAt.shaped (.list ((laterP d z0).map PyData.int)) = true := Sh.ok (sh_maps PyData.int sh_int _)
      refine s_when (b := !((laterP d z0).map PyData.int).isEmpty) (et_test (ev_neNil (ev_var rfl) ⟨xs, h2, ts⟩ sh)) (fun hb H3 e3 => ?_) (fun hb H3 e3 => ?_)
      · rw [isEmpty_map] at hb
        cases hL : laterP d z0 with
        | nil => rw [hL] at hb; cases hb
        | cons z r =>
          have ht : tripleOf d (x0, z0) = some (x0, z0, z) := by
            unfold tripleOf
            rw [hL] <;> rfl
          have hT : triple? d = some (x0, z0, z) := findSome_at ha ht no
          rw [hT] at q
          refine s_retD (evd_tup (ds := [.int x0, .int z0, .int z]) (ead_cons (evd_i (ev_var rfl)) (ead_cons (evd_i (ev_var rfl)) (ead_cons (evd_ixL (ds := (laterP d z0).map PyData.int) (ev_var rfl) (LD.mono ⟨xs, h2, ts⟩ e3) ev_c (i := 0) ?_) ead_nil))) (by show 3 ≤ 1000; decide)) (q.mono (((e1.trans ex).trans e2).trans e3))
          rw [hL]
          exact atI_nat (j := 0) rfl
      · refine ⟨ex.trans (e2.trans e3), ⟨_, _, _, rfl⟩, fun j c hj hc => ?_⟩
        by_cases hji : j < i
        · exact no j c hji hc
        · have e : j = i := by omega
          subst e
          rw [ha] at hc
          obtain rfl := Option.some.inj hc
          unfold tripleOf
          rw [isEmpty_map] at hb
          cases hL : laterP d z0 with
          | nil => rfl
          | cons z r => rw [hL] at hb; cases hb
    · obtain ⟨⟨y1, y2, y3, rfl⟩, no⟩ := hP
      have hT : triple? d = none := findSome_no fun j c hc => no j c (List.getElem?_eq_some_iff.mp hc).1 hc
      rw [hT] at q
      exact s_retD (evd_of ev_c .non) (q.mono (e1.trans ex))
/-- place_there -/
def sp_place_there : Sp := fun vs H Q _ => ∃ (v : V) (d : List Int) (x z : Int), vs = [v, .int x, .int z] ∧ TD H v (dT d) ∧ d ≠ [] ∧ -1000 ≤ x ∧ x ≤ 1000 ∧ -1000 ≤ z ∧ z ≤ 1000 ∧ RetV (.int (placeC d x z)) H Q
theorem ok_place_there (T : Top K mg) : FnOk P w K mg base CX0 2 T.f_place_there T.fd_place_there ["displacements", "x", "z"] sp_place_there := by
  have G_end_of_copy := ok_end_of_copy (P := P) (w := w) (base := base) T
  refine T.F_place_there.ok sc_place_there (fun vs H Q E h => ?_) (fun cdv A outer s H vs Q E hr h => ?_)
  · obtain ⟨v, d, x, z, rfl, _⟩ := h
    rfl
  · obtain ⟨v, d, x, z, rfl, t, hd, x0, x1, z0, z1, q⟩ := h
    refine ⟨_, PSs.nox (pss_cons (ps_setLc (i := 3) (own := [("y", 4)]) (g := gName 4) rfl sc_place_there.nd rfl rfl (sw_true rfl rfl rfl (by decide +kernel)) (pi_range2 (by rfl) T.z_range (pa_cons (pe_op op_add (pv 1) pe_int) (pa_cons (pv 2) pa_nil))) (blkOk_by (own := [("y", 4)]) (N := n_place_there) (sc := defScope s_place_there) (by decide +kernel)) (fun _ _ _ _ _ => (pg_name (i := 4) sc_place_there.nd rfl (Or.inl rfl))) (fun _ _ _ _ _ => (pts_one (pt_cmpR op_lt (pe_call G_end_of_copy hr (by rfl) T.g_end_of_copy T.kp_end_of_copy T.b_end_of_copy .nil pass0 (pa_cons (pv 0) (pa_cons (pv 4) pa_nil))) (pv 4) (nomark _)))) (fun _ _ _ _ _ => (pv 4)))
    (pss_one (ps_ret (pe_op op_mod (pe_op op_add (pv 1) (pe_callB call_len_seq (by rfl) T.z_len bt_len (pa_cons (pv 3) pa_nil))) (pe_callB call_len_seq (by rfl) T.z_len bt_len (pa_cons (pv 0) pa_nil)))))), ?_⟩
    refine q_asgN (evn_lcR2 (lo := x + 1) (hi := z) (fun y => decide (endC d y < y)) PyData.int (ea_cons (ev_bin (ev_var rfl) ev_c) (ea_cons (ev_var rfl) ea_nil)) (by omega) (fun _ => rfl) (fun y H2 e2 y0 y1 => ?_) (fun y H2 e2 y0 y1 _ => evd_i (ev_var rfl))) fun p xs H1 hp e1 h1 ts => ?_
    · exact et_test (ev_bin (ev_call (vs := [v, .int y]) (ea_cons (ev_var rfl) (ea_cons (ev_var rfl) ea_nil)) (sv_end y (t.mono (ex_tx e2)) hd)) (ev_var rfl))
    · obtain ⟨m0, m1, m2⟩ := mod_in hd 0
      have v0 := evd_var (σ := [some v, some (.int x), some (.int z), some (.ref p), none]) (H := H1) (n := 0) (v := v) rfl (t.mono (ex_tx e1))
      refine s_ret (ev_is (ev_binC (ev_bin (ev_var (v := .int x) rfl) (ev_lenL (ev_var (v := .ref p) rfl) ⟨xs, h1, ts⟩)) (ev_lenTI v0) m2) ?_) fun H2 e2 => q H2 (e1.trans e2)
      rw [List.length_map] <;> rfl
theorem sv_place {H : Hp} {v : V} {d : List Int} {x z : Int} (t : TD H v (dT d)) (hd : d ≠ []) (h : -1000 ≤ x ∧ x ≤ 1000 ∧ -1000 ≤ z ∧ z ≤ 1000) : SpV sp_place_there [v, .int x, .int z] H (.int (placeC d x z)) := fun H1 e1 Q q E => ⟨v, d, x, z, rfl, t.mono (ex_tx e1), hd, h.1, h.2.1, h.2.2.1, h.2.2.2, q⟩
/-! ### tables of ranks -/
def TabOk (kvs : List (Key × V)) (r : List Int) : Prop := kvs.length ≤ r.length ∧ ∀ j x, r[j]? = some x → valV kvs (Sum.inl x : Key) = some (.int (j : Nat))
/-- the list at a holds a dict for each ranking -/
def Tbl (H : Hp) (a : Addr) (ls : List (List Int)) : Prop := ∃ xs, H a = some (.lst xs) ∧ xs.length = ls.length ∧ ∀ (i : Nat) r, ls[i]? = some r → ∃ b kvs, xs[i]? = some (.ref b) ∧ H b = some (.dK kvs) ∧ TabOk kvs r
theorem Tbl.mono {H H' : Hp} {a : Addr} {ls : List (List Int)} (h : Tbl H a ls) (e : Ex H H') : Tbl H' a ls :=
  let ⟨xs, h1, h2, h3⟩ := h
  ⟨xs, e _ _ h1, h2, fun i r hr => let ⟨b, kvs, k1, k2, k3⟩ := h3 i r hr; ⟨b, kvs, k1, e _ _ k2, k3⟩⟩
def sp_rank_tables : Sp := fun vs H Q _ => ∃ (v : V) (ls : List (List Int)), vs = [v] ∧ TD H v (dLs ls) ∧ ls.length ≤ 100 ∧ (∀ r ∈ ls, r.Nodup ∧ r.length ≤ 100) ∧ ∀ p H', H p = none → Ex H H' → Tbl H' p ls → Q (.ref p) H'
theorem ok_rank_tables (T : Top K mg) : FnOk P w K mg base CX0 1 T.f_rank_tables T.fd_rank_tables ["rankings"] sp_rank_tables := by
  refine T.F_rank_tables.ok sc_rank_tables (fun vs H Q E h => ?_) (fun cdv A outer s H vs Q E hr h => ?_)
  · obtain ⟨v, ls, rfl, _⟩ := h
    rfl
  · obtain ⟨v, ls, rfl, t, hl, hall, q⟩ := h
    refine ⟨_, PSs.nox (pss_one (ps_ret (pe_lc (own := [("ranking", 1)]) (g := gName 1) rfl sc_rank_tables.nd (pi_tup (pv 0)) (blkOk_by (own := [("ranking", 1)]) (N := n_rank_tables) (sc := defScope s_rank_tables) (by decide +kernel)) (fun _ _ _ _ _ => (pg_name (i := 1) sc_rank_tables.nd rfl (Or.inl rfl))) (fun _ _ _ _ _ => pts_nil) (fun _ _ _ _ _ => (pe_dc (own := [("place", 2), ("item", 3)]) (g := gTup K 2 (gCons (gName 2) (gCons (gName 3) gNil))) rfl sc_rank_tables.nd (piEnumT (K := K) rfl (by rfl) T.z_enumerate (pa_cons (pv 1) pa_nil)) (blkOk_by (own := [("place", 2), ("item", 3)]) (N := n_rank_tables) (sc := relS _ (defScope s_rank_tables)) (by decide +kernel)) (fun _ _ _ _ _ => (pg_tup rfl (pgs_cons (pg_name (i := 2) sc_rank_tables.nd rfl (Or.inl rfl)) (pgs_cons (pg_name (i := 3) sc_rank_tables.nd rfl (Or.inl rfl)) pgs_nil)))) (fun _ _ _ _ _ => pts_nil) (fun _ _ _ _ _ => (pv 3)) (fun _ _ _ _ _ => (pv 2))))))), ?_⟩
    obtain ⟨a, xs, rfl, hx, ts⟩ := t.tup_inv
    have hxl : xs.length = ls.length := by rw [ts.length, List.length_map]
    refine ⟨_, rfl, a, rfl, ⟨xs, hx.sq⟩, fun D hD => ?_⟩
    refine lc_tup (xs := xs) (Qd := fun H' => Q (.ref D) H') (fun i H' => Ex H H' ∧ ∃ ys, H' D = some (.lst ys) ∧ ys.length = i ∧ ∀ (k : Nat) r, k < i → ls[k]? = some r → ∃ b kvs, ys[k]? = some (.ref b) ∧ b ≠ D ∧ H' b = some (.dK kvs) ∧ TabOk kvs r)
      ⟨Ex.new hD, [], upd_same, rfl, fun k r hk => absurd hk (Nat.not_lt_zero k)⟩ (fun i H' _ hP => (hx.mono hP.1).sq) (fun i x H' hxi hP => ?_) (fun H' hP => ?_)
    · obtain ⟨ex, ys, hy, hyl, hk⟩ := hP
      have hi : i < ls.length := by rw [← hxl]; exact (List.getElem?_eq_some_iff.mp hxi).1
      have el : (ls.map dT)[i]? = some (dT ls[i]) := by rw [List.getElem?_map, List.getElem?_eq_getElem hi] <;> rfl
      obtain ⟨x', h3, h4⟩ := ts.get el
      obtain rfl := Option.some.inj (hxi.symm.trans h3)
      obtain ⟨b, rfl, hb⟩ := h4.dT_inv
      obtain ⟨nd, hrl⟩ := hall _ (List.getElem_mem hi)
      refine ⟨rfl, _, rfl, b, ls[i].map V.int, rfl, (hb.mono ex).sq, fun E hE => ?_⟩
      refine ⟨fun j m H2 => m + j = ls[i].length ∧ Ex H' H2 ∧ ∃ kvs, H2 E = some (.dK kvs) ∧ kvs.length ≤ j ∧ ∀ (k : Nat) x, k < j → ls[i][k]? = some x → valV kvs (Sum.inl x : Key) = some (.int (k : Nat)), ⟨ls[i].length, by omega, Ex.new hE, [], upd_same, Nat.le_refl _, fun k x h => absurd h (Nat.not_lt_zero k)⟩, ?_⟩
      rintro j m H2 ⟨hm, ex2, kvs, hkv, hkl, hval⟩
      have hq : SqT K H2 b (ls[i].map V.int) := (hb.mono (ex.trans ex2)).sq
      by_cases hj : j < ls[i].length
      · refine .inr ⟨⟨hq, by rw [List.length_map]; exact hj⟩, fun H3 => Ex H' H3 ∧ ∃ kvs, H3 E = some (.dK kvs) ∧ kvs.length ≤ j + 1 ∧ ∀ (k : Nat) x, k < j + 1 → ls[i][k]? = some x → valV kvs (Sum.inl x : Key) = some (.int (k : Nat)), fun H3 h3 => ⟨m - 1, by omega, by omega, h3⟩, ?_⟩
        rintro y H3 ⟨Tt, z, rfl, hT, rfl, hz⟩
        rw [List.getElem?_map, List.getElem?_eq_getElem hj] at hz
        obtain rfl := Option.some.inj hz
        have nT : E ≠ Tt := ne_of_none hkv hT
        refine ⟨Tt, [.int j, .int ls[i][j]], rfl, SqT.of upd_same, rfl, _, _, rfl, _, _, rfl, rfl, rfl, ?_⟩
        refine ⟨_, rfl, _, rfl, kvs, Sum.inl ls[i][j], rfl, ?_, Nat.lt_of_le_of_lt (show kvs.length ≤ 1000 by omega) (by decide), ?_⟩
        · rw [upd_ne nT]
          exact hkv
        · refine ⟨Ex.mut (ex2.trans (Ex.new hT)) hE, _, upd_same, Nat.le_trans (length_putK _ _ _) (by omega), fun k x hk2 hx2 => ?_⟩
          rw [valV_put]
          by_cases hkj : k = j
          · subst hkj
            rw [List.getElem?_eq_getElem hj] at hx2
            obtain rfl := Option.some.inj hx2
            rw [if_pos rfl]
          · have hne : (Sum.inl x : Key) ≠ Sum.inl ls[i][j] := fun z => by
              have e := Sum.inl.inj z
              obtain ⟨c1, c2⟩ := List.getElem?_eq_some_iff.mp hx2
              exact hkj ((List.getElem_inj nd).mp (c2.trans e))
            rw [if_neg hne]
            exact hval k x (by omega) hx2
      · refine .inl ⟨⟨hq, by rw [List.length_map]; omega⟩, ys, ex2 _ _ hy, by rw [hyl]; exact sz_lt (by omega), ?_⟩
        have nE : E ≠ D := fun z => by rw [z, hy] at hE; cases hE
        refine ⟨Ex.mut (ex.trans ex2) hD, ys ++ [.ref E], upd_same, by rw [List.length_append, hyl] <;> rfl, fun k r hk2 hr2 => ?_⟩
        by_cases hki : k < i
        · obtain ⟨c, kv, c1, c2, c3, c4⟩ := hk k r hki hr2
          exact ⟨c, kv, by rw [List.getElem?_append_left (by omega)]; exact c1, c2, by rw [upd_ne c2]; exact ex2 _ _ c3, c4⟩
        · have ek : k = i := by omega
          subst ek
          rw [List.getElem?_eq_getElem hi] at hr2
          obtain rfl := Option.some.inj hr2
          refine ⟨E, kvs, ?_, nE, by rw [upd_ne nE]; exact hkv, by omega, fun k2 x hx2 => hval k2 x (by have := (List.getElem?_eq_some_iff.mp hx2).1; omega) hx2⟩
          rw [← hyl, List.getElem?_concat_length]
    · obtain ⟨ex, ys, hy, hyl, hk⟩ := hP
      refine q D H' hD ex ⟨ys, hy, by omega, fun i r hr2 => ?_⟩
      obtain ⟨b, kvs, c1, c2, c3, c4⟩ := hk i r (by rw [hxl]; exact (List.getElem?_eq_some_iff.mp hr2).1) hr2
      exact ⟨b, kvs, c1, c3, c4⟩
/-- a rank looked up -/
theorem ev_tab {σ : L2.St} {H : Hp} {ta tw ty : TE} {tb : Addr} {ls : List (List Int)} {w a : Int} (h : Ev ta σ H (.ref tb)) (ht : Tbl H tb ls) (hw : Ev tw σ H (.int w)) (w0 : 0 ≤ w) (w1 : w < ls.length) (hy : Ev ty σ H (.int a)) (ha : a ∈ gl ls w) :
    Ev (tDGet (tOp (rIxL K) ta tw) ty) σ H (.int (idx (gl ls w) a)) := fun H1 e Q q =>
  h H1 e _ fun H2 e2 => hw H2 (e.trans e2) _ fun H3 e3 => by
    obtain ⟨xs, h1, h2, h3⟩ := ht.mono ((e.trans e2).trans e3)
    obtain ⟨b, kvs, k1, k2, k3⟩ := h3 w.toNat (gl ls w) (gl_get w0 w1)
    have e4 : ((w.toNat : Nat) : Int) = w := by omega
    have g := atI_nat (xs := xs) (j := w.toNat) k1
    rw [e4] at g
    refine ⟨tb, xs, w, .ref b, rfl, rfl, SqL.of h1, g, ?_⟩
    refine hy H3 ((e.trans e2).trans e3) _ fun H4 e5 => ⟨b, _, rfl, ?_, q H4 ((e2.trans e3).trans e5)⟩
    have g2 := DGet.k (k := Sum.inl a) (e5 _ _ k2)
    rw [k3.2 _ a (idx_get ha)] at g2
    exact g2
/-- refusals_there -/
def sp_refusals_there : Sp := fun vs H Q _ => ∃ (tb : Addr) (v : V) (ls : List (List Int)) (d : List Int) (x z : Int), vs = [.ref tb, v, .int x, .int z] ∧ Tbl H tb ls ∧ TD H v (dT d) ∧ Rk ls ∧ d.length = ls.length ∧ -1000 ≤ x ∧ x ≤ 1000 ∧ -1000 ≤ z ∧ z ≤ 1000 ∧
  RetN ((refs ls d x z).map d4) H Q
theorem ok_refusals_there (T : Top K mg) : FnOk P w K mg base CX0 3 T.f_refusals_there T.fd_refusals_there ["tables", "displacements", "x", "z"] sp_refusals_there := by
  have G_place_there := ok_place_there (P := P) (w := w) (base := base) T
  refine T.F_refusals_there.ok sc_refusals_there (fun vs H Q E h => ?_) (fun cdv A outer s H vs Q E hr h => ?_)
  · obtain ⟨tb, v, ls, d, x, z, rfl, _⟩ := h
    rfl
  · obtain ⟨tb, v, ls, d, x, z, rfl, tbl, t, rk, dl, x0, x1, z0, z1, q⟩ := h
    have h1 := rk.one
    have hd : d ≠ [] := fun e => by rw [e] at dl; rw [← dl] at h1; exact absurd h1 (by decide)
    refine ⟨_, PSs.nox (pss_cons (ps_par (i := 4) (j := 5) (by rfl) sc_refusals_there.nd rfl rfl (by decide) rfl rfl (pa_cons (pe_callB call_len_seq (by rfl) T.z_len bt_len (pa_cons (pv 1) pa_nil)) (pa_cons (pe_call G_place_there hr (by rfl) T.g_place_there T.kp_place_there T.b_place_there .nil pass0 (pa_cons (pv 1) (pa_cons (pv 2) (pa_cons (pv 3) pa_nil)))) pa_nil)) (by rfl))
    (pss_cons (ps_par (i := 6) (j := 7) (by rfl) sc_refusals_there.nd rfl rfl (by decide) rfl rfl (pa_cons (pe_op op_mod (pe_op op_add (pv 5) pe_int) (pv 4)) (pa_cons (pe_lst pa_nil) pa_nil)) (by rfl))
    (pss_cons (ps_if (pt_cmpR op_gt (pe_dget (hu_of hr) (pe_ix ix_list (pv 0) (pv 5) (fun _ _ => rfl)) (pe_op op_mod (pv 3) (pv 4)) (fun _ _ => rfl)) (pe_dget (hu_of hr) (pe_ix ix_list (pv 0) (pv 5) (fun _ _ => rfl)) (pe_op op_mod (pv 2) (pv 4)) (fun _ _ => rfl)) (nomark _))
    (pss_one (ps_expr (pe_bm PySem.F.plainAttrs_list PySem.F.slot_list_append PySem.F.type_list_append mt_append (pv 7) (pa_cons (pe_tupF (pa_cons (pv 5) (pa_cons (pv 2) (pa_cons (pv 3) (pa_cons (pv 5) pa_nil))))) pa_nil)))) pss_nil)
    (pss_cons (ps_if (pt_cmpR op_gt (pe_dget (hu_of hr) (pe_ix ix_list (pv 0) (pv 6) (fun _ _ => rfl)) (pe_op op_mod (pv 2) (pv 4)) (fun _ _ => rfl)) (pe_dget (hu_of hr) (pe_ix ix_list (pv 0) (pv 6) (fun _ _ => rfl)) (pe_op op_mod (pv 3) (pv 4)) (fun _ _ => rfl)) (nomark _))
    (pss_one (ps_expr (pe_bm PySem.F.plainAttrs_list PySem.F.slot_list_append PySem.F.type_list_append mt_append (pv 7) (pa_cons (pe_tupF (pa_cons (pv 5) (pa_cons (pv 2) (pa_cons (pv 3) (pa_cons (pv 6) pa_nil))))) pa_nil)))) pss_nil)
    (pss_one (ps_ret (pv 7))))))), ?_⟩
    have v1 := evd_var (σ := start n_refusals_there [.ref tb, v, .int x, .int z]) (H := H) (n := 1) (v := v) rfl t
    refine q_parV (v := .int d.length) (w := .int (placeC d x z)) (ea_cons (ev_lenTI v1) (ea_cons (ev_call (vs := [v, .int x, .int z]) (ea_cons (ev_var rfl) (ea_cons (ev_var rfl) (ea_cons (ev_var rfl) ea_nil))) (sv_place t hd ⟨x0, x1, z0, z1⟩)) ea_nil)) fun H1 e1 => ?_
    obtain ⟨_, _, n0⟩ := mod_in hd 0
    have pl : 0 ≤ placeC d x z ∧ placeC d x z < d.length := ⟨Int.emod_nonneg _ (by omega), Int.emod_lt_of_pos _ n0⟩
    generalize hp : placeC d x z = pp at pl
    have ql : 0 ≤ (pp + 1) % (d.length : Int) ∧ (pp + 1) % (d.length : Int) < d.length := ⟨Int.emod_nonneg _ (by omega), Int.emod_lt_of_pos _ n0⟩
    generalize hqq : (pp + 1) % (d.length : Int) = qq at ql
    have xl : 0 ≤ x % (d.length : Int) ∧ x % (d.length : Int) < d.length := ⟨Int.emod_nonneg _ (by omega), Int.emod_lt_of_pos _ n0⟩
    have zl : 0 ≤ z % (d.length : Int) ∧ z % (d.length : Int) < d.length := ⟨Int.emod_nonneg _ (by omega), Int.emod_lt_of_pos _ n0⟩
    have me : ∀ {w c : Int}, 0 ≤ w ∧ w < d.length → 0 ≤ c ∧ c < d.length → c ∈ gl ls w := fun {w c} hw hc => (rk.gl hw.1 (by omega)).mem.mpr ⟨hc.1, by omega⟩
    have hR : refs ls d x z = (if idx (gl ls pp) (x % (d.length : Int)) < idx (gl ls pp) (z % (d.length : Int)) then [(pp, x, z, pp)] else []) ++ (if idx (gl ls qq) (z % (d.length : Int)) < idx (gl ls qq) (x % (d.length : Int)) then [(pp, x, z, qq)] else []) := by
      unfold refs
      simp only [hp, hqq]
    rw [hR] at q
    refine q_parVN (v := .int qq) (ev_is (ev_binC (ev_bin (ev_var (v := .int pp) rfl) ev_c) (ev_var (v := .int d.length) rfl) n0) (by rw [hqq])) (evn_lst ead_nil (by decide)) fun p xs H2 hp2 e2 h2 ts => ?_
    obtain rfl := ts.nil_inv
    have ex := e1.trans e2
    have hpn : H p = none := fresh_back e1 hp2
    have hX : ∀ a, a = p → H a = none := fun a e => by rw [e]; exact hpn
    have tab : ∀ {H' : Hp} {tw ty : TE} {w c : Int}, Ex H H' → 0 ≤ w ∧ w < d.length → 0 ≤ c ∧ c < d.length → Ev tw [some (.ref tb), some v, some (.int x), some (.int z), some (.int d.length), some (.int pp), some (.int qq), some (.ref p)] H' (.int w) →
        Ev ty [some (.ref tb), some v, some (.int x), some (.int z), some (.int d.length), some (.int pp), some (.int qq), some (.ref p)] H' (.int c) →
        Ev (tDGet (tOp (rIxL K) (tVar 0) tw) ty) [some (.ref tb), some v, some (.int x), some (.int z), some (.int d.length), some (.int pp), some (.int qq), some (.ref p)] H' (.int (idx (gl ls w) c)) := fun {H' tw ty w c} ex' hw hc h3 h4 =>
      ev_tab (ev_var rfl) (tbl.mono ex') h3 hw.1 (by omega) h4 (me hw hc)
    have md : ∀ {H' : Hp} {ty : TE} {c : Int}, Ev ty [some (.ref tb), some v, some (.int x), some (.int z), some (.int d.length), some (.int pp), some (.int qq), some (.ref p)] H' (.int c) →
        Ev (tOp (rI (fun _ j => 0 < j) fun i j => .int (i % j)) ty (tVar 4)) [some (.ref tb), some v, some (.int x), some (.int z), some (.int d.length), some (.int pp), some (.int qq), some (.ref p)] H' (.int (c % (d.length : Int))) := fun {H' ty c} h3 => ev_binC h3 (ev_var rfl) n0
    have four : ∀ {H' : Hp} {c : Int} {tl : TE}, Ev tl [some (.ref tb), some v, some (.int x), some (.int z), some (.int d.length), some (.int pp), some (.int qq), some (.ref p)] H' (.int c) →
        EvD (tTupF (tCons (tVar 5) (tCons (tVar 2) (tCons (tVar 3) (tCons tl tNil))))) [some (.ref tb), some v, some (.int x), some (.int z), some (.int d.length), some (.int pp), some (.int qq), some (.ref p)] H' (d4 (pp, x, z, c)) := fun {H' c tl} h3 =>
      evd_tup (ds := [.int pp, .int x, .int z, .int c]) (ead_cons (evd_i (ev_var rfl)) (ead_cons (evd_i (ev_var rfl)) (ead_cons (evd_i (ev_var rfl)) (ead_cons (evd_i h3) ead_nil)))) (by show 4 ≤ 1000; decide)
    refine q_whenApp (ds := []) (et_test (ev_bin (tab ex pl zl (ev_var rfl) (md (ev_var rfl))) (tab ex pl xl (ev_var rfl) (md (ev_var rfl))))) (ev_var rfl) h2 .nil (fun _ => four (ev_var rfl)) (by decide) fun ys H3 e3 t3 h3 ts3 => ?_
    have ex3 : Ex H H3 := e3.back ex hX
    have l3 := ts3.length
    refine q_whenApp (et_test (ev_bin (tab ex3 ql xl (ev_var rfl) (md (ev_var rfl))) (tab ex3 ql zl (ev_var rfl) (md (ev_var rfl))))) (ev_var rfl) h3 ts3 (fun _ => four (ev_var rfl)) (by rw [l3]; split <;> simp) fun zs H4 e4 t4 h4 ts4 => ?_
    refine s_ret (ev_var (v := .ref p) rfl) fun H5 e5 => q p zs H5 hpn ((e4.back ex3 hX).trans e5) (e5 _ _ h4) ?_
    have hd4 : ∀ (c : Prop) [Decidable c] (t : Int × Int × Int × Int), (if decide c = true then [d4 t] else []) = (if c then [t] else []).map d4 := fun c _ t => by
      by_cases hc : c
      · rw [if_pos hc, if_pos (decide_eq_true hc)] <;> rfl
      · rw [if_neg hc, if_neg (fun z => hc (of_decide_eq_true z))] <;> rfl
    rw [List.nil_append, hd4, hd4, ← List.map_append] at ts4
    exact ts4.mono (ex_tx e5)
end
end K57
set_option Elab.async false
set_option linter.all false
set_option maxRecDepth 100000
set_option maxHeartbeats 4000000
/-! the sequence of swaps -/
namespace K57
open PySem PySem.Spec PyProof.Rows L2 Evl R57
theorem map_si (ns : List Int) (j z : Int) : (ns.map V.int).set j.toNat (.int z) = (si ns j z).map V.int := by
  unfold si
  rw [List.map_set]
theorem si_length (ns : List Int) (j z : Int) : (si ns j z).length = ns.length := by
  unfold si
  rw [List.length_set]
theorem ixN_in {n : Nat} {j : Int} (h0 : 0 ≤ j) (h1 : j < n) : ixN n j = some j.toNat := by
  have e : ((j.toNat : Nat) : Int) = j := by omega
  have g := ixN_nat (n := n) (j := j.toNat) (by omega)
  rwa [e] at g
section
variable {K : PySem.W.Frag} {σ : L2.St} {H : Hp} {D : Ends} {tz : TS} {to ti te : TE}
/-- l[j] op= c -/
theorem q_augI {f : Int → Int → Int} {l : Addr} {ns : List Int} {j c : Int} (hl : H l = some (.lst (ns.map V.int))) (ho : Ev to σ H (.ref l)) (hi : Ev ti σ H (.int j)) (he : Ev te σ H (.int c)) (h0 : 0 ≤ j) (h1 : j < ns.length)
    (k : ∀ H1, Ex H H1 → tz D σ (upd H1 l (.lst ((si ns j (f (gi ns j) c)).map V.int)))) : tSeq (tAugS to ti te (rGetL K) (ipI f) rSetL) tz D σ H :=
  ho H (Ex.refl H) _ fun H1 e1 => hi H1 e1 _ fun H2 e2 => by
    have h2 := (e1.trans e2) _ _ hl
    have e3 : ((j.toNat : Nat) : Int) = j := by omega
    refine ⟨l, ns.map V.int, j.toNat, .int (gi ns j), rfl, by rw [e3], SqL.of h2, by rw [List.getElem?_map, gi_get h0 h1] <;> rfl, ?_⟩
    refine he H2 (e1.trans e2) _ fun H3 e4 => ⟨gi ns j, c, rfl, rfl, ?_⟩
    refine ⟨l, ns.map V.int, j, j.toNat, rfl, rfl, e4 _ _ h2, by rw [List.length_map]; exact ixN_in h0 h1, ?_⟩
    rw [map_si]
    exact k H3 ((e1.trans e2).trans e4)
/-- a[i], b[j] = x, y by a tuple that is made -/
theorem q_set2 {ta tb to1 ti1 to2 ti2 : TE} {l : Addr} {ns : List Int} {i j x y : Int} (hl : H l = some (.lst (ns.map V.int))) (ha : Ev ta σ H (.int x)) (hb : Ev tb σ H (.int y))
    (ho1 : ∀ H', TX H H' → (∀ a o, a ≠ l → H a = some o → H' a = some o) → Ev to1 σ H' (.ref l)) (hi1 : ∀ H', Ev ti1 σ H' (.int i)) (ho2 : ∀ H', Ev to2 σ H' (.ref l)) (hi2 : ∀ H', Ev ti2 σ H' (.int j)) (i0 : 0 ≤ i) (i1 : i < ns.length) (j0 : 0 ≤ j) (j1 : j < ns.length)
    (k : ∀ H1, ExX (fun a => a = l) H H1 → H1 l = some (.lst ((si (si ns i x) j y).map V.int)) → tz D σ H1) :
    tSeq (tAsg (tTupF (tCons ta (tCons tb tNil))) (gTup K 2 (gCons (gSub to1 ti1 rSetL) (gCons (gSub to2 ti2 rSetL) gNil)))) tz D σ H :=
  ha H (Ex.refl H) _ fun H1 e1 => hb H1 e1 _ fun H2 e2 => by
    refine ⟨sz_of (show 2 ≤ 100000 by decide), fun p o hp ho => ?_⟩
    have e3 : Ex H (upd H2 p (.frz o (.tup [.int x, .int y]))) := (e1.trans e2).trans (Ex.new hp)
    refine ⟨p, [.int x, .int y], rfl, (TupAt.new ho).sq, rfl, _, _, rfl, ?_⟩
    refine ho1 _ (ex_tx e3) (fun a o _ h => e3 a o h) _ (Ex.refl _) _ fun H3 e4 => ?_
    refine hi1 H3 H3 (Ex.refl _) _ fun H4 e5 => ?_
    have h4 := (e3.trans (e4.trans e5)) _ _ hl
    refine ⟨l, ns.map V.int, i, i.toNat, rfl, rfl, h4, by rw [List.length_map]; exact ixN_in i0 i1, ?_⟩
    rw [map_si]
    refine ⟨_, _, rfl, ?_⟩
    refine ho2 _ _ (Ex.refl _) _ fun H5 e6 => hi2 H5 H5 (Ex.refl _) _ fun H6 e7 => ?_
    refine ⟨l, (si ns i x).map V.int, j, j.toNat, rfl, rfl, (e6.trans e7) _ _ upd_same, by rw [List.length_map, si_length]; exact ixN_in j0 j1, ?_⟩
    rw [map_si]
    refine ⟨rfl, k _ ?_ upd_same⟩
    exact ExX.put (X := fun a => a = l) ((ExX.put (X := fun a => a = l) (exx_of (e3.trans (e4.trans e5))) rfl).then (e6.trans e7)) rfl
end
/-- sweeps stay within -/
structure SwOk (n : Nat) (s : Sw) : Prop where
  rl : s.rest.length = n
  al : s.arr.length = n
  ok : ∀ x ∈ s.arr, 0 ≤ x ∧ x < (n : Int)
theorem si_mem {l : List Int} {j z x : Int} (h : x ∈ si l j z) : x ∈ l ∨ x = z := by
  unfold si at h
  rcases List.mem_or_eq_of_mem_set h with e | e
  · exact .inl e
  · exact .inr e
theorem SwOk.turn {n : Nat} {s : Sw} (h : SwOk n s) {p : Int} (h0 : 0 ≤ p) (h1 : p < n) : SwOk n (turn1 n s p) := by
  have hq0 : 0 ≤ (p + 1) % (n : Int) := Int.emod_nonneg _ (by omega)
  have hq1 : (p + 1) % (n : Int) < n := Int.emod_lt_of_pos _ (by omega)
  have g1 := h.ok _ (gi_mem (l := s.arr) h0 (by rw [h.al]; exact h1))
  have g2 := h.ok _ (gi_mem (l := s.arr) hq0 (by rw [h.al]; exact hq1))
  unfold turn1
  by_cases hc : gi s.rest (gi s.arr p) > 0 ∧ gi s.rest (gi s.arr ((p + 1) % (n : Int))) < 0
  · simp only [if_pos hc]
    refine ⟨?_, ?_, fun x hx => ?_⟩
    · simp only [si_length]; exact h.rl
    · simp only [si_length]; exact h.al
    · rcases si_mem hx with e | e
      · rcases si_mem e with e | e
        · exact h.ok x e
        · rw [e]; exact g2
      · rw [e]; exact g1
  · simp only [if_neg hc]
    exact h
theorem sweeps_done {n : Int} {s : Sw} (h : restless s = false) : ∀ m, sweeps n m s = s
  | 0 => rfl
  | m + 1 => by
    unfold sweeps
    rw [h]
    rfl
section
variable {P : Program} {w : World} {K : PySem.W.Frag} {mg : Str → Option Value} {base : Heap}
/-- sequence_for -/
def sp_sequence_for : Sp := fun vs H Q _ => ∃ (v : V) (d : List Int), vs = [v] ∧ TD H v (dT d) ∧ d ≠ [] ∧ d.length ≤ 100 ∧ restless (sweeps (d.length : Int) 20 (seqStart d)) = false ∧ RetD (dT (seqFor d)) H Q
theorem ok_sequence_for (T : Top K mg) : FnOk P w K mg base CX0 1 T.f_sequence_for T.fd_sequence_for ["displacements"] sp_sequence_for := by
  refine T.F_sequence_for.ok sc_sequence_for (fun vs H Q E h => ?_) (fun cdv A outer s H vs Q E hr h => ?_)
  · obtain ⟨v, d, rfl, _⟩ := h
    rfl
  · obtain ⟨v, d, rfl, t, hd, hl, hrest, q⟩ := h
    refine ⟨_, PSs.nox (pss_cons (ps_par3 (i := 1) (j := 2) (l := 3) (by rfl) sc_sequence_for.nd rfl rfl rfl (by decide) (by decide) (by decide) rfl rfl rfl (pa_cons (pe_callB call_len_seq (by rfl) T.z_len bt_len (pa_cons (pv 0) pa_nil)) (pa_cons (pe_callTy call_list_of (by rfl) T.z_list bt_list (pa_cons (pv 0) pa_nil)) (pa_cons (pe_lst pa_nil) pa_nil))) (by rfl))
    (pss_cons (ps_set (i := 4) sc_sequence_for.nd rfl (Or.inl rfl) (pe_listRg rfl (by rfl) T.z_list (prg_1 (by rfl) T.z_range (pv 1))))
    (pss_cons (ps_while PassesOwn.never (pt_val (pe_callB (cr_any rfl) (by rfl) T.z_any bt_any (pa_cons (pe_lc (own := [("move", 9)]) (g := gName 9) rfl sc_sequence_for.nd (pi_list (pv 2)) (blkOk_by (own := [("move", 9)]) (N := n_sequence_for) (sc := defScope s_sequence_for) (by decide +kernel)) (fun _ _ _ _ _ => (pg_name (i := 9) sc_sequence_for.nd rfl (Or.inl rfl))) (fun _ _ _ _ _ => pts_nil) (fun _ _ _ _ _ => (pe_cmpR op_ne (pv 9) pe_int (nomark _)))) pa_nil)))
    (pss_one (ps_for PassesOwn.never rfl (pi_range1 (by rfl) T.z_range (pa_cons (pv 1) pa_nil)) (pg_name (i := 5) sc_sequence_for.nd rfl (Or.inl rfl))
    (pss_cons (ps_set (i := 6) sc_sequence_for.nd rfl (Or.inl rfl) (pe_op op_mod (pe_op op_add (pv 5) pe_int) (pv 1)))
    (pss_cons (ps_par (i := 7) (j := 8) (by rfl) sc_sequence_for.nd rfl rfl (by decide) rfl rfl (pa_cons (pe_ix ix_list (pv 4) (pv 5) (fun _ _ => rfl)) (pa_cons (pe_ix ix_list (pv 4) (pv 6) (fun _ _ => rfl)) pa_nil)) (by rfl))
    (pss_one (ps_if (PW.pt (pw_and (pt_cmpR op_gt (pe_ix ix_list (pv 2) (pv 7) (fun _ _ => rfl)) pe_int (nomark _)) (pw_and1 (pt_cmpR op_lt (pe_ix ix_list (pv 2) (pv 8) (fun _ _ => rfl)) pe_int (nomark _)))))
    (pss_cons (ps_augS (pv 2) (pv 7) get_list pe_int ip_sub set_list)
    (pss_cons (ps_augS (pv 2) (pv 8) get_list pe_int ip_add set_list)
    (pss_cons (ps_asg (pe_tupF (pa_cons (pv 8) (pa_cons (pv 7) pa_nil))) (pg_tup rfl (pgs_cons (pg_sub (pv 4) (pv 5) set_list) (pgs_cons (pg_sub (pv 4) (pv 6) set_list) pgs_nil))))
    (pss_one (ps_expr (pe_bm PySem.F.plainAttrs_list PySem.F.slot_list_append PySem.F.type_list_append mt_append (pv 3) (pa_cons (pv 5) pa_nil))))))) pss_nil)))))))
    (pss_one (ps_ret (pe_callTy call_tupF (by rfl) T.z_tuple bt_tuple (pa_cons (pv 3) pa_nil))))))), ?_⟩
    have v0 := evd_var (σ := start n_sequence_for [v]) (H := H) (n := 0) (v := v) rfl t
    obtain ⟨_, _, n0⟩ := mod_in hd 0
    generalize hn : d.length = n at *
    refine q_par3VNN (v := .int n) (ev_is (ev_lenTI v0) (by rw [hn])) (evn_listT v0) (evn_lst ead_nil (by decide)) fun r f xs ys H1 hr1 hf1 nrf e1 h1 t1 h2 t2 => ?_
    obtain rfl := t1.ints_inv
    obtain rfl := t2.nil_inv
    -- arrangement = list(range(size))
    refine ⟨.int n, rfl, n, rfl, RgOk.of_le (by omega) (by omega) (by omega) (by omega), fun a ha => ?_⟩
    have ear : rgV 0 (n : Int) = (rng 0 (n : Int)).map V.int := by
      unfold rgV rng
      rw [List.map_map] <;> rfl
    rw [ear]
    have e2 : Ex H (upd H1 a (.lst ((rng 0 (n : Int)).map V.int))) := e1.trans (Ex.new ha)
    have ra : r ≠ a := fun z => by rw [z, ha] at h1; cases h1
    have fa : f ≠ a := fun z => by rw [z, ha] at h2; cases h2
    have haH : H a = none := fresh_back e1 ha
    have hX : ∀ x, (x = r ∨ x = f ∨ x = a) → H x = none := fun x e => by
      rcases e with e | e | e <;> rw [e]
      · exact hr1
      · exact hf1
      · exact haH
    -- the state of the loops
    let St0 : Sw → L2.St → Hp → Prop := fun s σ' H' => Ex H H' ∧ H' r = some (.lst (s.rest.map V.int)) ∧ H' f = some (.lst (s.out.map V.int)) ∧ H' a = some (.lst (s.arr.map V.int)) ∧ SwOk n s ∧
      ∃ y5 y6 y7 y8, σ' = [some v, some (.int n), some (.ref r), some (.ref f), some (.ref a), y5, y6, y7, y8, none]
    have St0i : ∀ {s : Sw} {σ' : L2.St} {H' : Hp}, St0 s σ' H' → Ex H H' ∧ H' r = some (.lst (s.rest.map V.int)) ∧ H' f = some (.lst (s.out.map V.int)) ∧ H' a = some (.lst (s.arr.map V.int)) ∧ SwOk n s ∧
      ∃ y5 y6 y7 y8, σ' = [some v, some (.int n), some (.ref r), some (.ref f), some (.ref a), y5, y6, y7, y8, none] := fun h => h
    have St0m : ∀ {s : Sw} {σ' : L2.St} {H' H2 : Hp}, St0 s σ' H' → Ex H' H2 → St0 s σ' H2 := fun h e => ⟨h.1.trans e, e _ _ h.2.1, e _ _ h.2.2.1, e _ _ h.2.2.2.1, h.2.2.2.2⟩
    refine q_while (fun m σ' H' => ∃ s, St0 s σ' H' ∧ sweeps (n : Int) m s = sweeps (n : Int) 20 (seqStart d) ∧ s.out.length + m * n ≤ 20 * n) 20 ⟨seqStart d, ⟨e2, ?_, ?_, ?_, ⟨hn, ?_, ?_⟩, none, none, none, none, rfl⟩, rfl, ?_⟩ ?_
    · rw [upd_ne ra]
      exact h1
    · rw [upd_ne fa]
      exact h2
    · rw [upd_same]
      unfold seqStart
      rw [hn]
    · unfold seqStart
      rw [rng_length, hn]
      omega
    · intro x hx
      unfold seqStart at hx
      have := mem_rng.mp hx
      omega
    · unfold seqStart
      simp
    · rintro m σ' H' ⟨s, st, hsw, hout⟩
      obtain ⟨ex, hr', hf', ha', ok, y5, y6, y7, y8, rfl⟩ := st
      refine ⟨restless s, ?_, fun hb H2 e3 => ?_, fun hb H2 e3 => ?_⟩
      · -- any([move != 0 for move in rest])
        refine et_B (ev_is (ev_any (bs := s.rest.map fun m => !decide (m = 0)) ?_) ?_)
        · rw [List.map_map]
          refine evn_is (evn_lcL s.rest PyData.int (fun _ => true) (fun m => .bool (!decide (m = 0))) (ev_var (v := .ref r) rfl) ⟨_, hr', .ints _⟩ (by rw [ok.rl]; omega) fun m x H2 hm e3 k => ?_) (by rw [filter_all] <;> rfl)
          obtain rfl := k.int_inv
          exact ⟨_, fun Q h => h, rfl, evt_yes, fun _ => evd_of (ev_neI (ev_var rfl) ev_c) (.bl _)⟩
        · unfold restless
          rw [List.any_map]
          congr 2
          funext m
          by_cases hm : m = 0
          · simp [hm]
          · simp [hm]
      · -- one sweep
        cases m with
        | zero =>
          exfalso
          have e4 : s = sweeps (n : Int) 20 (seqStart d) := hsw
          rw [e4, hrest] at hb
          cases hb
        | succ m =>
          have hsw2 : sweeps (n : Int) m (sweep (n : Int) s) = sweeps (n : Int) 20 (seqStart d) := by
            rw [← hsw]
            show _ = (if restless s then _ else _)
            rw [hb] <;> rfl
          refine ⟨fun σ2 H3 => ∃ s, St0 s σ2 H3 ∧ sweeps (n : Int) m s = sweeps (n : Int) 20 (seqStart d) ∧ s.out.length + m * n ≤ 20 * n, fun σ2 H3 h => ⟨m, by omega, h⟩, ?_⟩
          refine s_forR1 (n := (n : Int)) (ea_cons (ev_var rfl) ea_nil) (by omega) (fun i σ2 H3 => St0 ((rng 0 (i : Int)).foldl (turn1 (n : Int)) s) σ2 H3 ∧ ((rng 0 (i : Int)).foldl (turn1 (n : Int)) s).out.length ≤ s.out.length + i)
            (fun H3 e4 => ⟨⟨(ex.trans e3).trans e4, (e3.trans e4) _ _ hr', (e3.trans e4) _ _ hf', (e3.trans e4) _ _ ha', ok, y5, y6, y7, y8, rfl⟩, Nat.le_refl _⟩) (fun i σ2 H3 hi hP => ?_) (fun σ2 H3 hP => ⟨sweep (n : Int) s, ?_, hsw2, ?_⟩)
          · obtain ⟨st, hlen⟩ := hP
            generalize hs2 : (rng 0 (i : Int)).foldl (turn1 (n : Int)) s = s2 at st hlen
            have hstep : (rng 0 ((i + 1 : Nat) : Int)).foldl (turn1 (n : Int)) s = turn1 (n : Int) s2 (i : Int) := by
              rw [show ((i + 1 : Nat) : Int) = (i : Int) + 1 by omega, rng_succ (by omega), List.foldl_append, hs2]
              rfl
            rw [hstep]
            obtain ⟨ex3, hr3, hf3, ha3, ok3, z5, z6, z7, z8, rfl⟩ := St0i st
            have i0 : (0 : Int) ≤ (i : Int) := by omega
            have j0 : 0 ≤ ((i : Int) + 1) % (n : Int) := Int.emod_nonneg _ (by omega)
            have j1 : ((i : Int) + 1) % (n : Int) < n := Int.emod_lt_of_pos _ n0
            have okt := ok3.turn i0 (by omega)
            generalize hj : ((i : Int) + 1) % (n : Int) = j at j0 j1
            have gR := ok3.ok _ (gi_mem (l := s2.arr) i0 (by rw [ok3.al]; omega))
            have gL := ok3.ok _ (gi_mem (l := s2.arr) j0 (by rw [ok3.al]; exact j1))
            generalize hR : gi s2.arr (i : Int) = R at gR
            generalize hL : gi s2.arr j = L at gL
            refine q_asg (v := .int j) (ev_is (ev_binC (ev_bin (ev_var (v := .int i) rfl) ev_c) (ev_var (v := .int n) rfl) n0) (by rw [hj])) fun H4 e4 => ?_
            refine q_parV (v := .int R) (w := .int L) (ea_cons (ev_is (ev_ixLI (ev_var rfl) (e4 _ _ ha3) (ev_var (v := .int i) rfl) i0 (by rw [ok3.al]; omega)) (by rw [hR])) (ea_cons (ev_is (ev_ixLI (ev_var rfl) (e4 _ _ ha3) (ev_var (v := .int j) rfl) j0 (by rw [ok3.al]; exact j1)) (by rw [hL])) ea_nil)) fun H5 e5 => ?_
            have e6 := e4.trans e5
            have rl := ok3.rl
            have tR : Ev (tOp (rIxL K) (tVar 2) (tVar 7)) [some v, some (.int n), some (.ref r), some (.ref f), some (.ref a), some (.int i), some (.int j), some (.int R), some (.int L), none] H5 (.int (gi s2.rest R)) := ev_ixLI (ev_var rfl) (e6 _ _ hr3) (ev_var rfl) gR.1 (by omega)
            have tL : Ev (tOp (rIxL K) (tVar 2) (tVar 8)) [some v, some (.int n), some (.ref r), some (.ref f), some (.ref a), some (.int i), some (.int j), some (.int R), some (.int L), none] H5 (.int (gi s2.rest L)) := ev_ixLI (ev_var rfl) (e6 _ _ hr3) (ev_var rfl) gL.1 (by omega)
            refine s_when (b := decide (0 < gi s2.rest R) && decide (gi s2.rest L < 0)) (et_and (et_test (ev_bin tR ev_c)) fun _ => et_test (ev_bin tL ev_c)) (fun hb2 H6 e7 => ?_) (fun hb2 H6 e7 => ?_)
            · have hc := Bool.and_eq_true_iff.mp hb2
              have c1 : 0 < gi s2.rest R := of_decide_eq_true hc.1
              have c2 : gi s2.rest L < 0 := of_decide_eq_true hc.2
              have ht : turn1 (n : Int) s2 (i : Int) = ⟨si (si s2.rest R (gi s2.rest R - 1)) L (gi (si s2.rest R (gi s2.rest R - 1)) L + 1), si (si s2.arr i L) j R, s2.out ++ [(i : Int)]⟩ := by
                unfold turn1
                simp only [hj, hR, hL]
                rw [if_pos ⟨c1, c2⟩]
              rw [ht] at okt ⊢
              have e8 := e6.trans e7
              refine q_augI (e8 _ _ hr3) (ev_var rfl) (ev_var (v := .int R) rfl) (ev_c (v := .int 1)) gR.1 (by omega) fun H7 e9 => ?_
              refine q_augI (ns := si s2.rest R (gi s2.rest R - 1)) upd_same (ev_var rfl) (ev_var (v := .int L) rfl) (ev_c (v := .int 1)) gL.1 (by rw [si_length]; omega) fun H8 e10 => ?_
              have rf : f ≠ r := Ne.symm nrf
              have ar : a ≠ r := Ne.symm ra
              have af : a ≠ f := Ne.symm fa
              have fr7 : ∀ {o : HO}, (upd H7 r o) f = some (.lst (s2.out.map V.int)) := by
                intro o
                rw [upd_ne rf]
                exact e9 _ _ (e8 _ _ hf3)
              have ar7 : ∀ {o : HO}, (upd H7 r o) a = some (.lst (s2.arr.map V.int)) := by
                intro o
                rw [upd_ne ar]
                exact e9 _ _ (e8 _ _ ha3)
              have b8 : Ex H H8 := Ex.trans (Ex.mut (ex3.trans (e8.trans e9)) hr1) e10
              refine q_set2 (ns := s2.arr) (i := (i : Int)) (j := j) (x := L) (y := R) (by rw [upd_ne ar]; exact e10 _ _ ar7) (ev_var rfl) (ev_var rfl) (fun H' _ _ => ev_var rfl) (fun H' => ev_var rfl) (fun H' => ev_var rfl) (fun H' => ev_var rfl) i0 (by rw [ok3.al]; omega) j0 (by rw [ok3.al]; exact j1) fun H9 e11 h9 => ?_
              have f9 : H9 f = some (.lst (s2.out.map V.int)) := e11 _ _ fa (by rw [upd_ne rf]; exact e10 _ _ fr7)
              have r9 := e11 r _ ra upd_same
              refine s_app f9 (ev_var rfl) (ev_var (v := .int i) rfl) (by rw [List.length_map]; omega) fun H10 e12 => ⟨⟨?_, ?_, ?_, ?_, okt, _, _, _, _, rfl⟩, ?_⟩
              · have b9 : Ex H H9 := e11.back (Ex.mut b8 hr1) (fun x e => hX x (Or.inr (Or.inr e)))
                exact Ex.mut (b9.trans e12) hf1
              · rw [upd_ne nrf]
                exact e12 _ _ r9
              · rw [upd_same, List.map_append] <;> rfl
              · rw [upd_ne af]
                exact e12 _ _ h9
              · show (s2.out ++ [(i : Int)]).length ≤ _
                rw [List.length_append, List.length_singleton]
                omega
            · have ht : turn1 (n : Int) s2 (i : Int) = s2 := by
                unfold turn1
                simp only [hj, hR, hL]
                rw [if_neg]
                rintro ⟨c1, c2⟩
                rw [decide_eq_true (show 0 < gi s2.rest R from c1), decide_eq_true c2] at hb2
                cases hb2
              rw [ht]
              have e8 := e6.trans e7
              exact ⟨⟨ex3.trans e8, e8 _ _ hr3, e8 _ _ hf3, e8 _ _ ha3, ok3, _, _, _, _, rfl⟩, by omega⟩
          · have e4 : (((n : Int).toNat : Nat) : Int) = (n : Int) := by omega
            have st := hP.1
            rw [e4] at st
            exact st
          · have e4 : (((n : Int).toNat : Nat) : Int) = (n : Int) := by omega
            have hlen := hP.2
            rw [e4] at hlen
            have e5 : (sweep (n : Int) s).out.length ≤ s.out.length + (n : Int).toNat := hlen
            rw [Nat.succ_mul] at hout
            omega
      · -- return tuple(found)
        have e4 := sweeps_done (n := (n : Int)) hb m
        rw [hsw] at e4
        have e5 : seqFor d = s.out := by
          unfold seqFor
          rw [hn, e4]
        rw [e5] at q
        exact s_retD (evd_tupL (ds := s.out.map PyData.int) (ev_var (v := .ref f) rfl) ⟨_, e3 _ _ hf', .ints _⟩) (q.mono (ex.trans e3))
end
end K57
set_option Elab.async false
set_option linter.all false
set_option maxRecDepth 100000
set_option maxHeartbeats 4000000
/-! decide_there, options_there, reach_ring -/
namespace K57
open PySem PySem.Spec PyProof.Rows L2 Evl R57
def encR : Rep → PyData
  | .seq l => .tuple [.str "sequence", dT l]
  | .tri t => .tuple [.str "triple", d3 t]
  | .ref r => .tuple [.str "refused", d4 r]
theorem sh_two (x : Str) (hx : PyData.strOk x = true) {d : PyData} (h : Sh 2 d) : Sh 3 (.tuple [.str x, d]) := sh_tup fun z hz => by
  rcases List.mem_cons.mp hz with e | e
  · rw [e]
    exact ⟨by simp only [PyData.canLay0]; exact hx, by simp only [PyData.depth] <;> omega⟩
  · rw [List.mem_singleton.mp e]
    exact h
theorem sh_rep (r : Rep) : Sh 3 (encR r) := by
  cases r with
  | seq l => exact sh_two _ (by decide +kernel) (sh_dT _)
  | tri l => exact sh_two _ (by decide +kernel) (sh_dT _)
  | ref l => exact sh_two _ (by decide +kernel) (sh_dT _)
section
variable {P : Program} {w : World} {K : PySem.W.Frag} {mg : Str → Option Value} {base : Heap}
/-- sequence_for ends on these -/
def Ends (d : List Int) : Prop := triple? d = none → restless (sweeps (d.length : Int) 20 (seqStart d)) = false
/-- decide_there -/
def sp_decide_there : Sp := fun vs H Q _ => ∃ (v u : V) (ls : List (List Int)) (d : List Int), vs = [v, u] ∧ TD H v (dLs ls) ∧ TD H u (dT d) ∧ Rk ls ∧ d.length = ls.length ∧ Ends d ∧ RetD (encR (dec ls d)) H Q
theorem ok_decide_there (T : Top K mg) : FnOk P w K mg base CX0 5 T.f_decide_there T.fd_decide_there ["rankings", "displacements"] sp_decide_there := by
  have G_triple_there := ok_triple_there (P := P) (w := w) (base := base) T
  have G_rank_tables := ok_rank_tables (P := P) (w := w) (base := base) T
  have G_inversions_there := ok_inversions_there (P := P) (w := w) (base := base) T
  have G_refusals_there := ok_refusals_there (P := P) (w := w) (base := base) T
  have G_sequence_for := ok_sequence_for (P := P) (w := w) (base := base) T
  refine T.F_decide_there.ok sc_decide_there (fun vs H Q E h => ?_) (fun cdv A outer s H vs Q E hr h => ?_)
  · obtain ⟨v, u, ls, d, rfl, _⟩ := h
    rfl
  · obtain ⟨v, u, ls, d, rfl, t, tu, rk, dl, en, q⟩ := h
    refine ⟨_, PSs.nox (pss_cons (ps_set (i := 2) sc_decide_there.nd rfl (Or.inl rfl) (pe_call G_triple_there hr (by rfl) T.g_triple_there T.kp_triple_there T.b_triple_there .nil pass0 (pa_cons (pv 1) pa_nil)))
    (pss_cons (ps_if (pt_cmpR op_notN (pv 2) pe_non (nomark _))
    (pss_one (ps_ret (pe_tupF (pa_cons pe_str (pa_cons (pv 2) pa_nil))))) pss_nil)
    (pss_cons (ps_set (i := 3) sc_decide_there.nd rfl (Or.inl rfl) (pe_call G_rank_tables (hr.mono (by decide)) (by rfl) T.g_rank_tables T.kp_rank_tables T.b_rank_tables .nil pass0 (pa_cons (pv 0) pa_nil)))
    (pss_cons (ps_for PassesOwn.never rfl (pi_list (pe_call G_inversions_there (hr.mono (by decide)) (by rfl) T.g_inversions_there T.kp_inversions_there T.b_inversions_there .nil pass0 (pa_cons (pv 1) pa_nil))) (pg_tup rfl (pgs_cons (pg_name (i := 4) sc_decide_there.nd rfl (Or.inl rfl)) (pgs_cons (pg_name (i := 5) sc_decide_there.nd rfl (Or.inl rfl)) pgs_nil)))
    (pss_cons (ps_set (i := 6) sc_decide_there.nd rfl (Or.inl rfl) (pe_call G_refusals_there (hr.mono (by decide)) (by rfl) T.g_refusals_there T.kp_refusals_there T.b_refusals_there .nil pass0 (pa_cons (pv 3) (pa_cons (pv 1) (pa_cons (pv 4) (pa_cons (pv 5) pa_nil))))))
    (pss_one (ps_if (pt_cmpR (op_neD (hu64 hr)) (pv 6) (pe_lst pa_nil) (nomark _))
    (pss_one (ps_ret (pe_tupF (pa_cons pe_str (pa_cons (pe_ix ix_list (pv 6) pe_int (fun _ _ => rfl)) pa_nil))))) pss_nil))))
    (pss_one (ps_ret (pe_tupF (pa_cons pe_str (pa_cons (pe_call G_sequence_for (hr.mono (by decide)) (by rfl) T.g_sequence_for T.kp_sequence_for T.b_sequence_for .nil pass0 (pa_cons (pv 1) pa_nil)) pa_nil))))))))), ?_⟩
    have r1 := rk.one
    have r40 := rk.few
    have hd : d ≠ [] := fun e => by rw [e] at dl; rw [← dl] at r1; exact absurd r1 (by decide)
    refine q_asgD (d := dO (triple? d)) (fun H1 e Q q => ev_var (v := u) rfl H1 e _ fun H2 e2 => ⟨u, d, rfl, tu.mono (ex_tx (e.trans e2)), hd, by omega, q.mono e2⟩) fun tr H1 e1 ttr => ?_
    refine q_when (b := !noneD (dO (triple? d))) (et_test (evd_notN (evd_var rfl ttr))) (fun hb H2 e2 => ?_) (fun hb H2 e2 => ?_)
    · cases ht : triple? d with
      | none => rw [ht] at hb; cases hb
      | some x =>
        rw [ht] at ttr
        have hdec : dec ls d = .tri x := by
          unfold dec
          rw [ht]
        rw [hdec] at q
        exact s_retD (evd_tup (ds := [.str "triple", d3 x]) (ead_cons (evd_of ev_c (.str _)) (ead_cons (evd_var rfl (ttr.mono (ex_tx e2))) ead_nil)) (by show 2 ≤ 1000; decide)) (q.mono (e1.trans e2))
    · cases ht : triple? d with
      | some x =>
        rw [ht] at hb
        cases hb
      | none =>
        have en := en ht
        have e12 := e1.trans e2
        -- tables
        refine ev_var (v := v) rfl _ (Ex.refl _) _ fun H3 e3 => ⟨v, ls, rfl, t.mono (ex_tx (e12.trans e3)), by omega, fun r hr => ⟨(rk.all r hr).nodup, by rw [(rk.all r hr).length]; omega⟩, fun p H4 hp e4 tbl => ?_⟩
        have e14 := (e12.trans e3).trans e4
        refine q_forN (invs d) d2 (sn_invs (tu.mono (ex_tx e14)) hd (by omega) (ea_cons (ev_var rfl) ea_nil)) (fun i σ' H' => (∃ y4 y5 y6, σ' = [some v, some u, some tr, some (.ref p), y4, y5, y6]) ∧ ∀ (j : Nat) c, j < i → (invs d)[j]? = some c → (refs ls d c.1 c.2).head? = none)
          (fun H5 e5 => ⟨⟨none, none, none, rfl⟩, fun j c h => absurd h (Nat.not_lt_zero j)⟩) (fun H5 e5 i a x σ' H' ha ex hP k => ?_) (fun H5 σ' H' e5 ex hP => ?_)
        · obtain ⟨⟨y4, y5, y6, rfl⟩, no⟩ := hP
          obtain ⟨x0, z0⟩ := a
          obtain ⟨m0, m1, m2, m3, m4⟩ := mem_invs.mp (List.mem_of_getElem? ha)
          obtain ⟨xv, zv, tx, tz, g⟩ := g_tup2 (K := K) (σ := [some v, some u, some tr, some (.ref p), y4, y5, y6]) (i := 4) (j := 5) (d1 := .int x0) (d2 := .int z0) k
          obtain rfl := tx.int_inv
          obtain rfl := tz.int_inv
          refine g _ ?_
          have e15 := (e14.trans e5).trans ex
          have tbl' := (tbl.mono e5).mono ex
          refine q_asgN (ds := (refs ls d x0 z0).map d4) (evn_callV (vs := [.ref p, u, .int x0, .int z0]) (ea_cons (ev_var rfl) (ea_cons (ev_var rfl) (ea_cons (ev_var rfl) (ea_cons (ev_var rfl) ea_nil)))) fun H6 e6 Q E q => ⟨p, u, ls, d, x0, z0, rfl, tbl'.mono e6, tu.mono (ex_tx (e15.trans e6)), rk, dl, by omega, by omega, by omega, by omega, q⟩) fun f xs H6 hf e6 h6 ts => ?_
          have sh : SeqAt.shaped (.list ((refs ls d x0 z0).map d4)) = true := Sh.ok (sh_maps d4 (fun _ => sh_dT _) _)
          refine s_when (b := !((refs ls d x0 z0).map d4).isEmpty) (et_test (ev_neNil (ev_var rfl) ⟨xs, h6, ts⟩ sh)) (fun hb H7 e7 => ?_) (fun hb H7 e7 => ?_)
          · rw [isEmpty_map] at hb
            cases hL : refs ls d x0 z0 with
            | nil => rw [hL] at hb; cases hb
            | cons z r =>
              have hF : firstRef ls d = some z := findSome_at ha (by show (refs ls d x0 z0).head? = _; rw [hL] <;> rfl) no
              have hdec : dec ls d = .ref z := by
                unfold dec
                rw [ht, hF]
              rw [hdec] at q
              rw [hL] at ts
              exact s_retD (evd_tup (ds := [.str "refused", d4 z]) (ead_cons (evd_of ev_c (.str _)) (ead_cons (evd_ixL (ev_var rfl) (LD.mono ⟨xs, h6, ts⟩ e7) ev_c (i := 0) (at0 _ _)) ead_nil)) (by show 2 ≤ 1000; decide)) (q.mono ((e15.trans e6).trans e7))
          · refine ⟨ex.trans (e6.trans e7), ⟨_, _, _, rfl⟩, fun j c hj hc => ?_⟩
            by_cases hji : j < i
            · exact no j c hji hc
            · have e : j = i := by omega
              subst e
              rw [ha] at hc
              obtain rfl := Option.some.inj hc
              rw [isEmpty_map] at hb
              show (refs ls d x0 z0).head? = none
              cases hL : refs ls d x0 z0 with
              | nil => rfl
              | cons z r => rw [hL] at hb; cases hb
        · obtain ⟨⟨y4, y5, y6, rfl⟩, no⟩ := hP
          have hF : firstRef ls d = none := findSome_no fun j c hc => no j c (List.getElem?_eq_some_iff.mp hc).1 hc
          have hdec : dec ls d = .seq (seqFor d) := by
            unfold dec
            rw [ht, hF]
          rw [hdec] at q
          have e15 := (e14.trans e5).trans ex
          refine s_retD (evd_tup (ds := [.str "sequence", dT (seqFor d)]) (ead_cons (evd_of ev_c (.str _)) (ead_cons (fun H6 e6 Q q => ev_var (v := u) rfl H6 e6 _ fun H7 e7 => ⟨u, d, rfl, tu.mono (ex_tx (e15.trans (e6.trans e7))), hd, by omega, en, q.mono e7⟩) ead_nil)) (by show 2 ≤ 1000; decide)) (q.mono e15)
/-- options_there -/
def sp_options_there : Sp := fun vs H Q _ => ∃ (v : V) (row : List Int), vs = [v] ∧ TD H v (dT row) ∧ row.length ≤ 6 ∧ Pm row.length row ∧ RetN ((options row).map dT) H Q
theorem opts_step (row : List Int) (n : Int) (i : Int) (h : 0 ≤ i) : optsFrom row n (rng 0 (i + 1)) [[]] = (optsFrom row n (rng 0 i) [[]]).flatMap fun start => (ways n (idx row i - i)).map fun one => start ++ [one] := by
  unfold optsFrom
  rw [rng_succ h, List.foldl_append]
  rfl
theorem ways_len (n s : Int) : (ways n s).length ≤ 2 := by
  unfold ways
  split
  · decide
  · split <;> exact Nat.le_refl 2
theorem opts_len (row : List Int) (n : Int) : ∀ k : Nat, (optsFrom row n (rng 0 (k : Int)) [[]]).length ≤ 2 ^ k ∧ ∀ o ∈ optsFrom row n (rng 0 (k : Int)) [[]], o.length = k
  | 0 => by
    rw [rng_nil (by omega)]
    exact ⟨Nat.le_refl _, fun o ho => by rw [List.mem_singleton.mp ho] <;> rfl⟩
  | k + 1 => by
    have h1 := opts_len row n k
    have e : ((k + 1 : Nat) : Int) = (k : Int) + 1 := by omega
    rw [e, opts_step row n k (by omega)]
    refine ⟨?_, fun o ho => ?_⟩
    · rw [flat_len2]
      have := Nat.mul_le_mul h1.1 (ways_len n (idx row k - k))
      rw [Nat.pow_succ]
      exact this
    · obtain ⟨s, hs, hm⟩ := List.mem_flatMap.mp ho
      obtain ⟨z, _, rfl⟩ := List.mem_map.mp hm
      rw [List.length_append, h1.2 s hs] <;> rfl
theorem ok_options_there (T : Top K mg) : FnOk P w K mg base CX0 1 T.f_options_there T.fd_options_there ["arrangement"] sp_options_there := by
  refine T.F_options_there.ok sc_options_there (fun vs H Q E h => ?_) (fun cdv A outer s H vs Q E hr h => ?_)
  · obtain ⟨v, d, rfl, _⟩ := h
    rfl
  · obtain ⟨v, row, rfl, t, hn6, pm, q⟩ := h
    refine ⟨_, PSs.nox (pss_cons (ps_par (i := 1) (j := 2) (by rfl) sc_options_there.nd rfl rfl (by decide) rfl rfl (pa_cons (pe_callB call_len_seq (by rfl) T.z_len bt_len (pa_cons (pv 0) pa_nil)) (pa_cons (pe_lst (pa_cons (pe_tupF pa_nil) pa_nil)) pa_nil)) (by rfl))
    (pss_cons (ps_for PassesOwn.never rfl (pi_range1 (by rfl) T.z_range (pa_cons (pv 1) pa_nil)) (pg_name (i := 3) sc_options_there.nd rfl (Or.inl rfl))
    (pss_cons (ps_set (i := 4) sc_options_there.nd rfl (Or.inl rfl) (pe_op op_sub (pe_bmT PySem.F.plainAttrs_tuple PySem.F.slot_tuple_index PySem.F.type_tuple_index mt_tidx (pv 0) (pa_cons (pv 3) pa_nil)) (pv 3)))
    (pss_cons (ps_set (i := 5) sc_options_there.nd rfl (Or.inr rfl) (pe_ifExp (pt_cmpR op_eq (pv 4) pe_int (nomark _)) (pe_lst (pa_cons pe_int pa_nil)) (pe_callB cr_sorted (by rfl) T.z_sorted bt_sorted (pa_cons (pe_lst (pa_cons (pv 4) (pa_cons (pe_ifExp (pt_cmpR op_gt (pv 4) pe_int (nomark _)) (pe_op op_sub (pv 4) (pv 1)) (pe_op op_add (pv 4) (pv 1))) pa_nil))) pa_nil))))
    (pss_one (ps_setLc2 (i := 2) (own := [("start", 6), ("one", 7)]) (vs1 := [7]) (g := gName 6) (g1 := gName 7) rfl sc_options_there.nd rfl rfl (sw_true rfl rfl rfl (by decide +kernel)) (pi_list (pv 2)) (blkOk_by (own := [("start", 6), ("one", 7)]) (N := n_options_there) (sc := defScope s_options_there) (by decide +kernel)) (by decide) (fun _ _ _ _ _ => (pg_name (i := 6) sc_options_there.nd rfl (Or.inl rfl))) (fun _ _ _ _ _ => pts_nil) (fun _ _ _ _ _ => (piList (K := K) rfl (pv 5))) (fun _ _ _ _ _ => (pg_name (i := 7) sc_options_there.nd rfl (Or.inl rfl))) (fun _ _ _ _ _ => pts_nil) (fun _ _ _ _ _ => (pe_op (opCatF (K := K) rfl) (pv 6) (pe_tupF (pa_cons (pv 7) pa_nil)))))))))
    (pss_one (ps_ret (pe_lc (own := [("option", 8)]) (g := gName 8) rfl sc_options_there.nd (pi_list (pv 2)) (blkOk_by (own := [("option", 8)]) (N := n_options_there) (sc := defScope s_options_there) (by decide +kernel)) (fun _ _ _ _ _ => (pg_name (i := 8) sc_options_there.nd rfl (Or.inl rfl))) (fun _ _ _ _ _ => (pts_one (pt_cmpR op_eq (pe_callB (crTsum (K := K) rfl rfl) (by rfl) T.z_sum bt_sum (pa_cons (pv 8) pa_nil)) pe_int (nomark _)))) (fun _ _ _ _ _ => (pv 8))))))), ?_⟩
    have v0 := evd_var (σ := start n_options_there [v]) (H := H) (n := 0) (v := v) rfl t
    generalize hn : row.length = n at *
    refine q_parVN (v := .int (n : Int)) (ev_is (ev_lenTI v0) (by rw [hn])) (evn_lst (ds := [dT []]) (ead_cons (evd_tup ead_nil (by decide)) ead_nil) (by show 1 ≤ 1000; decide)) fun p xs H1 hp e1 h1 ts => ?_
    refine q_forR1 (n := (n : Int)) (ea_cons (ev_var rfl) ea_nil) (by omega)
      (fun i σ' H' => ∃ f, (∃ y3 y4 y5, σ' = [some v, some (.int n), some (.ref f), y3, y4, y5, none, none, none]) ∧ Ex H H' ∧ H f = none ∧ LD H' f ((optsFrom row n (rng 0 (i : Int)) [[]]).map dT))
      (fun H2 e2 => ⟨p, ⟨none, none, none, rfl⟩, e1.trans e2, hp, xs, e2 _ _ h1, ts.mono (ex_tx e2)⟩) (fun i σ' H' hi hP => ?_) (fun σ' H' hP => ?_)
    · obtain ⟨f, ⟨y3, y4, y5, rfl⟩, ex, hf, ld⟩ := hP
      have hm : (i : Int) ∈ row := pm.mem.mpr ⟨by omega, hi⟩
      refine q_asg (v := .int (idx row i - i)) (ev_bin (ev_idx (evd_var rfl (t.mono (ex_tx ex))) (ev_var (v := .int i) rfl) hm) (ev_var (v := .int i) rfl)) fun H2 e2 => ?_
      generalize hmv : idx row (i : Int) - (i : Int) = mv
      refine q_asgN (ds := (ways n mv).map PyData.int) (evn_if (b := decide (mv = 0)) (et_test (ev_eqI (ev_var rfl) ev_c)) (fun hb => ?_) (fun hb => ?_)) fun m ms H3 hm3 e3 h3 ts3 => ?_
      · have hz := of_decide_eq_true hb
        refine evn_is (evn_lst (ds := [.int 0]) (ead_cons (evd_i ev_c) ead_nil) (by show 1 ≤ 1000; decide)) ?_
        unfold ways
        rw [if_pos hz] <;> rfl
      · have hz : mv ≠ 0 := of_decide_eq_false hb
        by_cases hpos : 0 < mv
        · refine evn_is (evn_sort2 (lo := mv - n) (hi := mv) (a := mv) (b := mv - n) (ev_var rfl) (ev_if (b := decide (0 < mv)) (et_test (ev_bin (ev_var rfl) ev_c)) (fun _ => ev_bin (ev_var (v := .int mv) rfl) (ev_var (v := .int n) rfl)) (fun h => absurd hpos (of_decide_eq_false h))) (by omega) (List.Perm.swap _ _ _)) ?_
          unfold ways
          rw [if_neg hz, if_pos hpos]
        · refine evn_is (evn_sort2 (lo := mv) (hi := mv + n) (a := mv) (b := mv + n) (ev_var rfl) (ev_if (b := decide (0 < mv)) (et_test (ev_bin (ev_var rfl) ev_c)) (fun h => absurd (of_decide_eq_true h) hpos) (fun _ => ev_bin (ev_var (v := .int mv) rfl) (ev_var (v := .int n) rfl))) (by omega) (List.Perm.refl _)) ?_
          unfold ways
          rw [if_neg hz, if_neg hpos]
      · have hb := opts_len row n i
        have hlen : (optsFrom row n (rng 0 (i : Int)) [[]]).length ≤ 2 ^ 6 := Nat.le_trans hb.1 (Nat.pow_le_pow_right (by decide) (by omega))
        have e23 := e2.trans e3
        refine (evn_lc2 (optsFrom row n (rng 0 (i : Int)) [[]]) dT (ways n mv) PyData.int (fun s o => dT (s ++ [o])) (ev_var (v := .ref f) rfl) (ld.mono e23) ⟨ms, h3, ts3⟩ (Nat.le_trans (Nat.mul_le_mul hlen (ways_len _ _)) (by decide)) (fun x H' => ev_var rfl) (fun _ => rfl) (fun _ _ => rfl) (fun x y c d H4 hc hd e4 tx ty => ?_)) H3 (Ex.refl _) _ fun g gs H4 hg e4 h4 ts4 => ?_
        · obtain rfl := ty.int_inv
          have := hb.2 c hc
          refine evd_is (evd_catT (ds := c.map PyData.int) (es := [.int d]) (evd_var rfl tx) (evd_tup (ead_cons (evd_i (ev_var rfl)) ead_nil) (by show 1 ≤ 1000; decide)) (by rw [List.length_map, this]; show i + 1 ≤ 1000; omega)) ?_
          unfold dT
          rw [List.map_append] <;> rfl
        · refine ⟨g, ⟨_, _, _, rfl⟩, (ex.trans e23).trans e4, fresh_back (ex.trans e23) hg, gs, h4, ?_⟩
          have e5 : ((i + 1 : Nat) : Int) = (i : Int) + 1 := by omega
          rw [e5, opts_step row n i (by omega), hmv, List.map_flatMap]
          simp only [List.map_map] at ts4 ⊢
          exact ts4
    · obtain ⟨f, ⟨y3, y4, y5, rfl⟩, ex, hf, ld⟩ := hP
      have e3 : (((n : Int).toNat : Nat) : Int) = (n : Int) := by omega
      rw [e3] at ld
      have hb := opts_len row n n
      have hlen : (optsFrom row n (rng 0 (n : Int)) [[]]).length ≤ 2 ^ 6 := Nat.le_trans hb.1 (Nat.pow_le_pow_right (by decide) hn6)
      refine s_retN (evn_is (evn_lcL (optsFrom row n (rng 0 (n : Int)) [[]]) dT (fun o => decide (o.sum = 0)) dT (ev_var (v := .ref f) rfl) ld (Nat.le_trans hlen (by decide)) fun o x H2 ho e2 k => ⟨_, fun Q h => h, rfl, et_test (ev_eqI (ev_tsum (evd_var rfl k)) ev_c), fun _ => evd_var rfl k⟩) ?_) (q.mono ex)
      unfold options
      rw [hn]
theorem options_len (row : List Int) : (options row).length ≤ 2 ^ row.length ∧ ∀ o ∈ options row, o.length = row.length := by
  have h := opts_len row (row.length : Int) row.length
  unfold options
  exact ⟨Nat.le_trans (List.length_filter_le _ _) h.1, fun o ho => h.2 o (List.mem_filter.mp ho).1⟩
/-- reach_ring -/
def reach (ls : List (List Int)) (row : List Int) : PyData :=
  match (options row).find? (good ls) with
  | some d => encR (.seq (seqFor d))
  | none => .tuple [.str "none", .tuple ((options row).map fun d => encR (dec ls d))]
def sp_reach_ring : Sp := fun vs H Q _ => ∃ (v u : V) (ls : List (List Int)) (row : List Int), vs = [v, u] ∧ TD H v (dLs ls) ∧ TD H u (dT row) ∧ Rk ls ∧ Pm ls.length row ∧ 3 ≤ ls.length ∧ ls.length ≤ 6 ∧ (∀ d ∈ options row, Ends d) ∧ RetD (reach ls row) H Q
theorem filter_head {α : Type} (f : α → Bool) : ∀ L : List α, L.find? f = (L.filter f).head?
  | [] => rfl
  | a :: L => by
    cases h : f a with
    | true => rw [List.find?_cons_of_pos h, List.filter_cons_of_pos h] <;> rfl
    | false =>
      have h2 : ¬ f a = true := by rw [h]; exact Bool.false_ne_true
      rw [List.find?_cons_of_neg h2, List.filter_cons_of_neg h2]
      exact filter_head f L
theorem ok_reach_ring (T : Top K mg) : FnOk P w K mg base CX0 6 T.f_reach_ring T.fd_reach_ring ["rankings", "arrangement"] sp_reach_ring := by
  have G_check_rankings := ok_check_rankings (P := P) (w := w) (base := base) T
  have G_check_listed := ok_check_listed (P := P) (w := w) (base := base) T
  have G_check_fitting := ok_check_fitting (P := P) (w := w) (base := base) T
  have G_decide_there := ok_decide_there (P := P) (w := w) (base := base) T
  have G_options_there := ok_options_there (P := P) (w := w) (base := base) T
  refine T.F_reach_ring.ok sc_reach_ring (fun vs H Q E h => ?_) (fun cdv A outer s H vs Q E hr h => ?_)
  · obtain ⟨v, u, ls, row, rfl, _⟩ := h
    rfl
  · obtain ⟨v, u, ls, row, rfl, t, tu, rk, pm, h3, h6, hen, q⟩ := h
    refine ⟨_, PSs.nox (pss_cons (ps_expr (pe_call G_check_rankings (hr.mono (by decide)) (by rfl) T.g_check_rankings T.kp_check_rankings T.b_check_rankings .nil pass0 (pa_cons (pv 0) pa_nil)))
    (pss_cons (ps_expr (pe_call G_check_listed (hr.mono (by decide)) (by rfl) T.g_check_listed T.kp_check_listed T.b_check_listed .nil pass0 (pa_cons (pe_callB call_len_seq (by rfl) T.z_len bt_len (pa_cons (pv 0) pa_nil)) pa_nil)))
    (pss_cons (ps_expr (pe_call G_check_fitting hr (by rfl) T.g_check_fitting T.kp_check_fitting T.b_check_fitting .nil pass0 (pa_cons (pv 0) (pa_cons (pv 1) pa_nil))))
    (pss_cons (ps_setLc (i := 2) (own := [("option", 4)]) (g := gName 4) rfl sc_reach_ring.nd rfl rfl (sw_true rfl rfl rfl (by decide +kernel)) (pi_list (pe_call G_options_there (hr.mono (by decide)) (by rfl) T.g_options_there T.kp_options_there T.b_options_there .nil pass0 (pa_cons (pv 1) pa_nil))) (blkOk_by (own := [("option", 4)]) (N := n_reach_ring) (sc := defScope s_reach_ring) (by decide +kernel)) (fun _ _ _ _ _ => (pg_name (i := 4) sc_reach_ring.nd rfl (Or.inl rfl))) (fun _ _ _ _ _ => pts_nil) (fun _ _ _ _ _ => (pe_call G_decide_there hr (by rfl) T.g_decide_there T.kp_decide_there T.b_decide_there .nil pass0 (pa_cons (pv 0) (pa_cons (pv 4) pa_nil)))))
    (pss_cons (ps_setLc (i := 3) (own := [("answer", 5)]) (g := gName 5) rfl sc_reach_ring.nd rfl rfl (sw_true rfl rfl rfl (by decide +kernel)) (pi_list (pv 2)) (blkOk_by (own := [("answer", 5)]) (N := n_reach_ring) (sc := defScope s_reach_ring) (by decide +kernel)) (fun _ _ _ _ _ => (pg_name (i := 5) sc_reach_ring.nd rfl (Or.inl rfl))) (fun _ _ _ _ _ => (pts_one (pt_cmpR op_eq (pe_ix (ixT (K := K) rfl) (pv 5) pe_int (fun _ _ => rfl)) pe_str (nomark _)))) (fun _ _ _ _ _ => (pv 5)))
    (pss_one (ps_ret (pe_ifExp (pt_cmpR (op_neD (hu64 hr)) (pv 3) (pe_lst pa_nil) (nomark _)) (pe_ix ix_list (pv 3) pe_int (fun _ _ => rfl)) (pe_tupF (pa_cons pe_str (pa_cons (pe_callTy call_tupF (by rfl) T.z_tuple bt_tuple (pa_cons (pv 2) pa_nil)) pa_nil))))))))))), ?_⟩
    have hl := pm.length
    refine q_drop (ev_call (vs := [v]) (ea_cons (ev_var rfl) ea_nil) fun H1 e1 Q q E => ⟨v, ls, rfl, t.mono (ex_tx e1), rk, q⟩) fun H1 e1 => ?_
    refine q_drop (ev_call (vs := [.int ls.length]) (ea_cons (ev_is (ev_lenT (evd_var (v := v) rfl (t.mono (ex_tx e1)))) (by rw [List.length_map])) ea_nil) fun H2 e2 Q q E => ⟨(ls.length : Int), rfl, by omega, by omega, q⟩) fun H2 e2 => ?_
    have e12 := e1.trans e2
    refine q_drop (ev_call (vs := [v, u]) (ea_cons (ev_var rfl) (ea_cons (ev_var rfl) ea_nil)) fun H3 e3 Q q E => ⟨v, u, ls, row, rfl, t.mono (ex_tx (e12.trans e3)), tu.mono (ex_tx (e12.trans e3)), rk, pm, q⟩) fun H3 e3 => ?_
    have e13 := e12.trans e3
    have ol := options_len row
    have o6 : (options row).length ≤ 2 ^ 6 := Nat.le_trans ol.1 (Nat.pow_le_pow_right (by decide) (by omega))
    have hop : EvN (tCall sp_options_there [] E0 (tCons (tVar 1) tNil)) [some v, some u, none, none, none, none] H3 ((options row).map dT) := evn_callV (vs := [u]) (ea_cons (ev_var rfl) ea_nil) fun H4 e4 Q E q => ⟨u, row, rfl, tu.mono (ex_tx (e13.trans e4)), by omega, by rw [hl]; exact pm, q⟩
    refine q_asgN (evn_lcN (options row) dT (fun _ => true) (fun d => encR (dec ls d)) hop (Nat.le_trans o6 (by decide))
      fun d x H4 hd e4 k => ?_) fun p xs H4 hp e4 h4 ts => ?_
    · have hdc : EvD (tCall sp_decide_there [] E0 (tCons (tVar 0) (tCons (tVar 4) tNil))) [some v, some u, none, none, some x, none] H4 (encR (dec ls d)) := evd_callV (vs := [v, x]) (ea_cons (ev_var rfl) (ea_cons (ev_var rfl) ea_nil)) fun H5 e5 Q E q => ⟨v, x, ls, d, rfl, t.mono (ex_tx ((e13.trans e4).trans e5)), k.mono (ex_tx e5), rk, by rw [ol.2 d hd, hl], hen d hd, q⟩
      exact ⟨_, fun Q h => h, rfl, evt_yes, fun _ => hdc⟩
    rw [filter_all] at ts
    have e14 := e13.trans e4
    refine q_asgN (evn_lcL (options row) (fun d => encR (dec ls d)) (good ls) (fun d => encR (dec ls d)) (ev_var (v := .ref p) rfl) ⟨xs, h4, ts⟩ (Nat.le_trans o6 (by decide))
      fun d x H5 hd e5 k => ⟨_, fun Q h => h, rfl, ?_, fun _ => evd_var rfl k⟩) fun f ys H5 hf e5 h5 ts5 => ?_
    · rw [← isSeq_dec]
      cases hdc : dec ls d with
      | seq l =>
        rw [hdc] at k
        exact et_test (ev_is (ev_eqS (ev_s (evd_ixT (evd_var rfl k) ev_c (i := 0) (at0 _ _))) ev_c) (congrArg V.bl (show decide (("sequence" : Str) = "sequence") = true by decide +kernel)))
      | tri l =>
        rw [hdc] at k
        exact et_test (ev_is (ev_eqS (ev_s (evd_ixT (evd_var rfl k) ev_c (i := 0) (at0 _ _))) ev_c) (congrArg V.bl (show decide (("triple" : Str) = "sequence") = false by decide +kernel)))
      | ref l =>
        rw [hdc] at k
        exact et_test (ev_is (ev_eqS (ev_s (evd_ixT (evd_var rfl k) ev_c (i := 0) (at0 _ _))) ev_c) (congrArg V.bl (show decide (("refused" : Str) = "sequence") = false by decide +kernel)))
    · have e15 := e14.trans e5
      have shR : ∀ d, Sh 3 (encR (dec ls d)) := fun d => sh_rep _
      have sh : SeqAt.shaped (.list (((options row).filter (good ls)).map fun d => encR (dec ls d))) = true := Sh.ok (sh_maps (fun d => encR (dec ls d)) shR _)
      refine s_retD (evd_if (b := !(((options row).filter (good ls)).map fun d => encR (dec ls d)).isEmpty) (et_test (ev_neNil (ev_var rfl) ⟨ys, h5, ts5⟩ sh)) (fun hb => ?_) (fun hb => ?_)) (q.mono e15)
      · rw [isEmpty_map] at hb
        cases hL : (options row).filter (good ls) with
        | nil => rw [hL] at hb; cases hb
        | cons d r =>
          have hfi : (options row).find? (good ls) = some d := by rw [filter_head, hL] <;> rfl
          have hg : good ls d = true := List.find?_some hfi
          have hdec : dec ls d = .seq (seqFor d) := by
            have hg2 : (triple? d).isNone = true ∧ (firstRef ls d).isNone = true := by
              unfold good at hg
              exact Bool.and_eq_true_iff.mp hg
            unfold dec
            rw [Option.isNone_iff_eq_none.mp hg2.1, Option.isNone_iff_eq_none.mp hg2.2]
          have hre : reach ls row = encR (dec ls d) := by
            unfold reach
            rw [hfi, hdec]
          rw [hre]
          rw [hL] at ts5
          exact evd_ixL (ev_var rfl) ⟨ys, h5, ts5⟩ ev_c (i := 0) (at0 _ _)
      · rw [isEmpty_map] at hb
        cases hL : (options row).filter (good ls) with
        | cons d r => rw [hL] at hb; cases hb
        | nil =>
          have hfi : (options row).find? (good ls) = none := by rw [filter_head, hL] <;> rfl
          have hre : reach ls row = .tuple [.str "none", .tuple ((options row).map fun d => encR (dec ls d))] := by
            unfold reach
            rw [hfi]
          rw [hre]
          exact evd_tup (ds := [.str "none", .tuple ((options row).map fun d => encR (dec ls d))]) (ead_cons (evd_of ev_c (.str _)) (ead_cons (evd_tupL (ev_var (v := .ref p) rfl) (LD.mono ⟨xs, h4, ts⟩ e5)) ead_nil)) (by show 2 ≤ 1000; decide)
end
end K57
set_option Elab.async false
set_option linter.all false
set_option maxRecDepth 100000
set_option maxHeartbeats 4000000
/-! the law's own draws -/
namespace K57
open PySem PySem.Spec PyProof.Rows L2 Evl R57
section
variable {P : Program} {w : World} {K : PySem.W.Frag} {mg : Str → Option Value} {base : Heap}
/-- _law_mixed -/
def sp_law_mixed : Sp := fun vs H Q _ => ∃ c n : Int, vs = [.int c, .int n] ∧ 0 ≤ n ∧ n ≤ 1000000000 ∧ ∀ (r : Int) H', Ex H H' → Q (.int r) H'
theorem ok_law_mixed (T : Top K mg) : FnOk P w K mg base CX0 1 T.f_law_mixed T.fd_law_mixed ["_law_cell", "_law_n"] sp_law_mixed := by
  refine T.F_law_mixed.ok sc_law_mixed (fun vs H Q E h => ?_) (fun cdv A outer s H vs Q E hr h => ?_)
  · obtain ⟨c, n, rfl, _⟩ := h
    rfl
  · obtain ⟨c, n, rfl, n0, n1, q⟩ := h
    refine ⟨_, PSs.nox (pss_cons (ps_set (i := 2) sc_law_mixed.nd rfl (Or.inl rfl) (pe_op op_add (pe_op op_add (pe_op op_mod (pe_op op_mul (pe_op op_mul (pv 0) (pe_op op_add pe_int (pe_op op_mul pe_int (pv 1)))) pe_int) pe_int) (pe_op op_mul (pe_op op_mul pe_int (pv 1)) (pv 1))) (pe_op op_mul pe_int (pv 1))))
    (pss_one (ps_ret (pe_op op_fdiv (pe_op op_mod (pe_op op_mul (pv 2) pe_int) pe_int) pe_int)))), ?_⟩
    have v0 := ev_var (σ := start n_law_mixed [.int c, .int n]) (H := H) (i := 0) (v := .int c) rfl
    have v1 := ev_var (σ := start n_law_mixed [.int c, .int n]) (H := H) (i := 1) (v := .int n) rfl
    have two := ev_binC (C := CMul) (g := fun i j => .int (i * j)) (ev_c (σ := start n_law_mixed [.int c, .int n]) (H := H) (v := .int 2)) v1 (.inl ⟨by decide, by decide⟩)
    have a1 := ev_binC (C := CMul) (g := fun i j => .int (i * j)) v0 (ev_bin (g := fun i j => .int (i + j)) (ev_c (v := .int 1)) two) (.inr ⟨by omega, by omega⟩)
    have a2 := ev_binC (C := CMul) (g := fun i j => .int (i * j)) a1 (ev_c (v := .int 48271)) (.inr ⟨by decide, by decide⟩)
    have a3 := ev_binC (C := fun _ j => 0 < j) (g := fun i j => .int (i % j)) a2 (ev_c (v := .int 2147483647)) (by decide)
    have b1 := ev_binC (C := CMul) (g := fun i j => .int (i * j)) (ev_c (v := .int 7919)) v1 (.inl ⟨by decide, by decide⟩)
    have b2 := ev_binC (C := CMul) (g := fun i j => .int (i * j)) b1 v1 (.inr ⟨by omega, by omega⟩)
    have c1 := ev_binC (C := CMul) (g := fun i j => .int (i * j)) (ev_c (v := .int 104729)) v1 (.inl ⟨by decide, by decide⟩)
    have t := ev_bin (g := fun i j => .int (i + j)) (ev_bin (g := fun i j => .int (i + j)) a3 b2) c1
    refine q_asg t fun H1 e1 => ?_
    refine s_ret (ev_binC (C := CDiv) (g := fun i j => .int (i / j)) (ev_binC (C := fun _ j => 0 < j) (g := fun i j => .int (i % j)) (ev_binC (C := CMul) (g := fun i j => .int (i * j)) (ev_var rfl) (ev_c (v := .int 69621)) (.inr ⟨by decide, by decide⟩)) (ev_c (v := .int 2147483629)) (by decide)) (ev_c (v := .int 7)) ⟨by decide, by decide⟩) fun H2 e2 => q _ H2 (e1.trans e2)
/-- some int, of which C holds -/
def EvR (te : TE) (σ : L2.St) (H : Hp) (C : Int → Prop) : Prop := ∀ H1, Ex H H1 → ∀ Q : VK, (∀ r H2, C r → Ex H1 H2 → Q (.int r) H2) → te σ H1 Q
theorem evr_of {te : TE} {σ : L2.St} {H : Hp} {i : Int} {C : Int → Prop} (h : Ev te σ H (.int i)) (c : C i) : EvR te σ H C := fun H1 e Q q => h H1 e Q fun H2 e2 => q i H2 c e2
theorem evr_mixed {tc tn : TE} {σ : L2.St} {H : Hp} {n : Int} {C : Int → Prop} {E : XK} (hc : EvR tc σ H C) (hn : Ev tn σ H (.int n)) (n0 : 0 ≤ n) (n1 : n ≤ 1000000000) : EvR (tCall sp_law_mixed [] E (tCons tc (tCons tn tNil))) σ H fun _ => True := fun H1 e Q q =>
  hc H1 e _ fun r H2 _ e2 => hn H2 (e.trans e2) _ fun H3 e3 => ⟨r, n, rfl, n0, n1, fun r2 H4 e4 => q r2 H4 trivial ((e2.trans e3).trans e4)⟩
theorem evr_mod {ta tb : TE} {σ : L2.St} {H : Hp} {j : Int} {C : Int → Prop} (ha : EvR ta σ H C) (hb : Ev tb σ H (.int j)) (j0 : 0 < j) : EvR (tOp (rI (fun _ j => 0 < j) fun i j => .int (i % j)) ta tb) σ H fun r => 0 ≤ r ∧ r < j := fun H1 e Q q =>
  ha H1 e _ fun r H2 _ e2 => hb H2 (e.trans e2) _ fun H3 e3 => ⟨r, j, rfl, rfl, j0, q _ H3 ⟨Int.emod_nonneg _ (by omega), Int.emod_lt_of_pos _ j0⟩ (e2.trans e3)⟩
theorem s_retR {te : TE} {σ : L2.St} {H : Hp} {C : Int → Prop} {D : L2.Ends} (h : EvR te σ H C) (k : ∀ r H1, C r → Ex H H1 → D.rt (.int r) H1) : tRet te D σ H := h H (Ex.refl H) _ k
/-- l[j] = e, l a list of ints -/
theorem s_setI {σ : L2.St} {H : Hp} {te ta tb : TE} {D : L2.Ends} {l : Addr} {ns : List Int} {j v : Int} (hl : H l = some (.lst (ns.map V.int))) (h : Ev te σ H (.int v)) (ho : Ev ta σ H (.ref l)) (hi : Ev tb σ H (.int j)) (j0 : 0 ≤ j) (j1 : j < ns.length) (k : ∀ H1, Ex H H1 → D.nx σ (upd H1 l (.lst ((si ns j v).map V.int)))) :
    tAsg te (gSub ta tb rSetL) D σ H := h H (Ex.refl H) _ fun H1 e1 => ho H1 e1 _ fun H2 e2 => hi H2 (e1.trans e2) _ fun H3 e3 => by
  refine ⟨l, ns.map V.int, j, j.toNat, rfl, rfl, ((e1.trans e2).trans e3) _ _ hl, by rw [List.length_map]; exact ixN_in j0 j1, ?_⟩
  rw [map_si]
  exact k H3 ((e1.trans e2).trans e3)
/-- _law_folded -/
def sp_law_folded (K : PySem.W.Frag) : Sp := fun vs H Q _ => ∃ (a : Addr) (scr : List Int), vs = [.ref a] ∧ SqL K H a (scr.map V.int) ∧ ∀ p (ns : List Int) H', H p = none → Ex H H' → H' p = some (.lst (ns.map V.int)) → ns.length = 64 → Q (.ref p) H'
theorem ok_law_folded (T : Top K mg) : FnOk P w K mg base CX0 1 T.f_law_folded T.fd_law_folded ["_law_script"] (sp_law_folded K) := by
  refine T.F_law_folded.ok sc_law_folded (fun vs H Q E h => ?_) (fun cdv A outer s H vs Q E hr h => ?_)
  · obtain ⟨c, n, rfl, _⟩ := h
    rfl
  · obtain ⟨a, scr, rfl, hs, q⟩ := h
    refine ⟨_, PSs.nox (pss_cons (ps_setLc (i := 1) (own := [("_law_n", 2)]) (g := gName 2) rfl sc_law_folded.nd rfl rfl (sw_true rfl rfl rfl (by decide +kernel)) (pi_range1 (by rfl) T.z_range (pa_cons pe_int pa_nil)) (blkOk_by (own := [("_law_n", 2)]) (N := n_law_folded) (sc := defScope s_law_folded) (by decide +kernel)) (fun _ _ _ _ _ => (pg_name (i := 2) sc_law_folded.nd rfl (Or.inl rfl))) (fun _ _ _ _ _ => pts_nil) (fun _ _ _ _ _ => (pe_op op_add pe_int (pv 2))))
    (pss_cons (ps_for PassesOwn.never rfl (pi_enum (by rfl) T.z_enumerate (pa_cons (pv 0) pa_nil)) (pg_tup rfl (pgs_cons (pg_name (i := 2) sc_law_folded.nd rfl (Or.inl rfl)) (pgs_cons (pg_name (i := 3) sc_law_folded.nd rfl (Or.inl rfl)) pgs_nil)))
    (pss_one (ps_asg (pe_op op_mod (pe_op op_add (pe_op op_mul (pe_ix ix_list (pv 1) (pe_op op_mod (pv 2) pe_int) (fun _ _ => rfl)) pe_int) (pv 3)) pe_int) (pg_sub (pv 1) (pe_op op_mod (pv 2) pe_int) set_list))))
    (pss_cons (ps_for PassesOwn.never rfl (pi_range2 (by rfl) T.z_range (pa_cons pe_int (pa_cons pe_int pa_nil))) (pg_name (i := 2) sc_law_folded.nd rfl (Or.inl rfl))
    (pss_one (ps_asg (pe_op op_mod (pe_op op_add (pe_ix ix_list (pv 1) (pv 2) (fun _ _ => rfl)) (pe_op op_mul (pe_ix ix_list (pv 1) (pe_op op_sub (pv 2) pe_int) (fun _ _ => rfl)) pe_int)) pe_int) (pg_sub (pv 1) (pv 2) set_list))))
    (pss_one (ps_ret (pv 1)))))), ?_⟩
    have el : EvN (tLc (iRng1 (tCons (tC (.int 64)) tNil)) (gName 2) tYes (tOp (rI0 fun i j => .int (i + j)) (tC (.int 17)) (tVar 2)) [2]) (start n_law_folded [.ref a]) H (((rng 0 64).filter fun _ => true).map fun x => PyData.int (17 + x)) :=
      evn_lcR1 (hi := 64) (fun _ => true) (fun x => PyData.int (17 + x)) (ea_cons ev_c ea_nil) (by omega) (fun _ => rfl) (fun x H1 e1 x0 x1 => evt_yes) (fun x H1 e1 x0 x1 _ => evd_i (ev_bin (g := fun i j => .int (i + j)) ev_c (ev_var rfl)))
    refine q_asgN el fun p xs H1 hp e1 h1 ts => ?_
    rw [filter_all, show (fun x => PyData.int (17 + x)) = PyData.int ∘ fun x => 17 + x from rfl, ← List.map_map] at ts
    obtain rfl := ts.ints_inv
    have len0 : ((rng 0 64).map fun x : Int => 17 + x).length = 64 := by rw [List.length_map, rng_length] <;> rfl
    refine ev_var (v := .ref a) rfl H1 (Ex.refl _) _ fun H2 e2 => ⟨a, scr.map V.int, rfl, ex_l (e1.trans e2) hs, ?_⟩
    refine for_it walk_enum (fun i σ' H' => (∃ y1 y2, σ' = [some (.ref a), some (.ref p), y1, y2]) ∧ Ex H H' ∧ ∃ ns : List Int, H' p = some (.lst (ns.map V.int)) ∧ ns.length = 64) ⟨⟨none, none, rfl⟩, e1.trans e2, _, e2 _ _ h1, len0⟩ (fun i σ' H' _ hP => ex_l hP.2.1 hs) (fun i x σ' H' H3 hi hP y => ?_) (fun σ' H' hP => ?_)
    · obtain ⟨⟨y1, y2, rfl⟩, ex, ns, hn, hl⟩ := hP
      obtain ⟨Tt, x1, x2, rfl, hT, rfl, hx1, hx2⟩ := y
      obtain rfl := Option.some.inj hx1
      have hx2 : (scr.map V.int)[i]? = some x2 := hx2
      rw [List.getElem?_map] at hx2
      obtain ⟨z, hz, rfl⟩ := Option.map_eq_some_iff.mp hx2
      have e3 : Ex H' (upd H' Tt (.tup [.int i, .int z])) := Ex.new hT
      refine ⟨Tt, [.int i, .int z], rfl, SqT.of upd_same, rfl, _, _, rfl, _, _, rfl, rfl, ?_⟩
      have m0 := modn (n := 64) (by decide) (i : Int)
      have im : ∀ {H' : Hp}, Ev (tOp (rI (fun _ j => 0 < j) fun i j => .int (i % j)) (tVar 2) (tC (.int 64))) [some (.ref a), some (.ref p), some (.int (i : Int)), some (.int z)] H' (.int ((i : Int) % 64)) := fun {H'} => ev_binC (C := fun _ j => 0 < j) (ev_var rfl) ev_c (by decide)
      refine s_setI (ns := ns) (e3 _ _ hn) (ev_binC (C := fun _ j => 0 < j) (g := fun i j => .int (i % j)) (ev_bin (g := fun i j => .int (i + j)) (ev_binC (C := CMul) (g := fun i j => .int (i * j)) (ev_ixLI (l := ns) (ev_var rfl) (e3 _ _ hn) im m0.1 (by rw [hl]; exact m0.2)) (ev_c (v := .int 48271)) (.inr ⟨by decide, by decide⟩)) (ev_var (v := .int z) rfl)) (ev_c (v := .int 2147483647)) (by decide)) (ev_var rfl) im m0.1 (by rw [hl]; exact m0.2) fun H4 e4 => ⟨⟨_, _, rfl⟩, Ex.mut ((ex.trans e3).trans e4) hp, _, upd_same, by rw [si_length]; exact hl⟩
    · obtain ⟨⟨y1, y2, rfl⟩, ex, ns, hn, hl⟩ := hP
      refine q_forR2 (lo := 1) (n := 64) (ea_cons ev_c (ea_cons ev_c ea_nil)) (by omega) (fun i σ' H' => (∃ y1 y2, σ' = [some (.ref a), some (.ref p), y1, y2]) ∧ Ex H H' ∧ ∃ ns : List Int, H' p = some (.lst (ns.map V.int)) ∧ ns.length = 64) (fun H3 e3 => ⟨⟨_, _, rfl⟩, ex.trans e3, ns, e3 _ _ hn, hl⟩) (fun i σ' H' hi hP => ?_) (fun σ' H' hP => ?_)
      · obtain ⟨⟨y1, y2, rfl⟩, ex, ns, hn, hl⟩ := hP
        refine s_setI (ns := ns) (j := 1 + (i : Int)) hn (ev_binC (C := fun _ j => 0 < j) (g := fun i j => .int (i % j)) (ev_bin (g := fun i j => .int (i + j)) (ev_ixLI (l := ns) (i := 1 + (i : Int)) (ev_var rfl) hn (ev_var rfl) (by omega) (by omega)) (ev_binC (C := CMul) (g := fun i j => .int (i * j)) (ev_ixLI (l := ns) (i := 1 + (i : Int) - 1) (ev_var rfl) hn (ev_bin (g := fun i j => .int (i - j)) (ev_var rfl) ev_c) (by omega) (by omega)) (ev_c (v := .int 16807)) (.inr ⟨by decide, by decide⟩))) (ev_c (v := .int 2147483647)) (by decide)) (ev_var rfl) (ev_var rfl) (by omega) (by omega) fun H4 e4 => ⟨⟨_, _, rfl⟩, Ex.mut (ex.trans e4) hp, _, upd_same, by rw [si_length]; exact hl⟩
      · obtain ⟨⟨y1, y2, rfl⟩, ex, ns, hn, hl⟩ := hP
        exact s_ret (ev_var (v := .ref p) rfl) fun H3 e3 => q p ns H3 hp (ex.trans e3) (e3 _ _ hn) hl
/-! ### the bag of draws -/
abbrev kC : Key := Sum.inr "cells"
abbrev kG : Key := Sum.inr "great"
abbrev kS : Key := Sum.inr "spot"
theorem ne_CG : kC ≠ kG := by decide +kernel
theorem ne_CS : kC ≠ kS := by decide +kernel
theorem ne_GS : kG ≠ kS := by decide +kernel
def bagK (c g : Addr) (s : Int) : List (Key × V) := [(kC, .ref c), (kG, .ref g), (kS, .int s)]
theorem bag_C (c g : Addr) (s : Int) : valV (bagK c g s) kC = some (.ref c) := valV_pos rfl
theorem bag_G (c g : Addr) (s : Int) : valV (bagK c g s) kG = some (.ref g) := (valV_neg ne_CG).trans (valV_pos rfl)
theorem bag_S (c g : Addr) (s : Int) : valV (bagK c g s) kS = some (.int s) := (valV_neg ne_CS).trans ((valV_neg ne_GS).trans (valV_pos rfl))
theorem bag_putS (c g : Addr) (s t : Int) : putK (bagK c g s) kS (.int t) = bagK c g t := by
  have h1 := ne_CS
  have h2 := ne_GS
  unfold putK bagK
  rw [if_pos (by simp)]
  simp [h1, h2]
theorem bag_putG (c g g2 : Addr) (s : Int) : putK (bagK c g s) kG (.ref g2) = bagK c g2 s := by
  have h1 := ne_CG
  have h2 : ¬ kS = kG := fun e => ne_GS e.symm
  unfold putK bagK
  rw [if_pos (by simp)]
  simp [h1, h2]
/-- the bag at m, the great numbers at g, the cells at c, at most B draws so far -/
structure Bag (B : Nat) (H : Hp) (m g c : Addr) : Prop where
  ex : ∃ (ns gs : List Int) (s : Int), H m = some (.dK (bagK c g s)) ∧ H c = some (.lst (ns.map V.int)) ∧ ns.length = 64 ∧ H g = some (.lst (gs.map V.int)) ∧ c ≠ g ∧ 0 ≤ s ∧ s ≤ B
theorem Bag.mono {B : Nat} {H H' : Hp} {m g c : Addr} (b : Bag B H m g c) (e : Ex H H') : Bag B H' m g c :=
  let ⟨ns, gs, s, h1, h2, h3, h4, h5, h6⟩ := b.ex
  ⟨ns, gs, s, e _ _ h1, e _ _ h2, h3, e _ _ h4, h5, h6⟩
theorem Bag.more {B B' : Nat} {H : Hp} {m g c : Addr} (b : Bag B H m g c) (e : B ≤ B') : Bag B' H m g c :=
  let ⟨ns, gs, s, h1, h2, h3, h4, h5, h6, h7⟩ := b.ex
  ⟨ns, gs, s, h1, h2, h3, h4, h5, h6, by omega⟩
/-- a write elsewhere -/
theorem Bag.put {B : Nat} {H : Hp} {m g c p : Addr} {o : HO} (b : Bag B H m g c) (np : ¬ (p = m ∨ p = g ∨ p = c)) : Bag B (upd H p o) m g c := by
  obtain ⟨ns, gs, s, h1, h2, h3, h4, h5, h6⟩ := b.ex
  have n1 : m ≠ p := fun z => np (.inl z.symm)
  have n2 : g ≠ p := fun z => np (.inr (.inl z.symm))
  have n3 : c ≠ p := fun z => np (.inr (.inr z.symm))
  exact ⟨ns, gs, s, by rw [upd_ne n1]; exact h1, by rw [upd_ne n3]; exact h2, h3, by rw [upd_ne n2]; exact h4, h5, h6⟩
/-- all but the bag is kept -/
abbrev Mv (m g : Addr) (H H' : Hp) : Prop := ExX (fun a => a = m ∨ a = g) H H'
theorem Bag.not {B : Nat} {H : Hp} {m g c : Addr} (b : Bag B H m g c) : NoT (fun a => a = m ∨ a = g) H := fun a xs h t => by
  obtain ⟨ns, gs, s, h1, h2, h3, h4, _⟩ := b.ex
  obtain ⟨o, _, e⟩ := t
  rcases h with h | h
  · rw [h, h1] at e; cases e
  · rw [h, h4] at e; cases e
theorem Bag.tx {B : Nat} {H H' : Hp} {m g c : Addr} (b : Bag B H m g c) (v : Mv m g H H') : TX H H' := v.tx b.not
theorem Bag.far {B : Nat} {H : Hp} {m g c p : Addr} (b : Bag B H m g c) (hp : H p = none) : ¬ (p = m ∨ p = g ∨ p = c) := fun h => by
  obtain ⟨ns, gs, s, h1, h2, h3, h4, _⟩ := b.ex
  rcases h with h | h | h
  · rw [h, h1] at hp; cases hp
  · rw [h, h4] at hp; cases hp
  · rw [h, h2] at hp; cases hp
theorem Bag.ne {B : Nat} {H : Hp} {m g c p : Addr} (b : Bag B H m g c) (hp : H p = none) : ¬ (p = m ∨ p = g) := fun h => b.far hp (by
  rcases h with h | h
  · exact .inl h
  · exact .inr (.inl h))
/-- what a draw gives: any number below top; the bag has moved -/
def Drew (B : Nat) (m g c : Addr) (top : Int) (H : Hp) (Q : VK) : Prop := ∀ (r : Int) H', 0 ≤ r → r < top → Mv m g H H' → Bag (B + 1) H' m g c → Q (.int r) H'
/-- _law_draw -/
def sp_law_draw : Sp := fun vs H Q _ => ∃ (B : Nat) (m g c : Addr) (top : Int), vs = [.ref m, .int top] ∧ Bag B H m g c ∧ B ≤ 1000000 ∧ 0 < top ∧ top ≤ 1000 ∧ Drew B m g c top H Q
theorem ok_law_draw (T : Top K mg) : FnOk P w K mg base CX0 2 T.f_law_draw T.fd_law_draw ["_law_m", "_law_top"] sp_law_draw := by
  have G_law_mixed := ok_law_mixed (P := P) (w := w) (base := base) T
  refine T.F_law_draw.ok sc_law_draw (fun vs H Q E h => ?_) (fun cdv A outer s H vs Q E hr h => ?_)
  · obtain ⟨B, m, g, c, top, rfl, _⟩ := h
    rfl
  · obtain ⟨B, m, g, c, top, rfl, bag, hB, t0, t1, q⟩ := h
    refine ⟨_, PSs.nox (pss_cons (ps_set (i := 2) sc_law_draw.nd rfl (Or.inl rfl) (pe_dget (hu_of hr) (pv 0) pe_str (fun _ _ => rfl)))
    (pss_cons (ps_dput (hu_of hr) (pv 0) pe_str (pe_op op_add (pv 2) pe_int) rfl)
    (pss_cons (ps_if (pt_cmpR (op_neD (hu64 hr)) (pe_dget (hu_of hr) (pv 0) pe_str (fun _ _ => rfl)) (pe_lst pa_nil) (nomark _))
    (pss_cons (ps_set (i := 3) sc_law_draw.nd rfl (Or.inl rfl) (pe_op op_mod (pv 2) (pe_callB call_len_seq (by rfl) T.z_len bt_len (pa_cons (pe_dget (hu_of hr) (pv 0) pe_str (fun _ _ => rfl)) pa_nil))))
    (pss_cons (ps_set (i := 4) sc_law_draw.nd rfl (Or.inl rfl) (pe_ix ix_list (pe_dget (hu_of hr) (pv 0) pe_str (fun _ _ => rfl)) (pv 3) (fun _ _ => rfl)))
    (pss_one (ps_if (pt_cmpR op_gt (pv 4) pe_int (nomark _))
    (pss_cons (ps_asg (pe_op op_fdiv (pv 4) (pv 1)) (pg_sub (pe_dget (hu_of hr) (pv 0) pe_str (fun _ _ => rfl)) (pv 3) set_list))
    (pss_one (ps_ret (pe_op op_mod (pv 4) (pv 1))))) pss_nil)))) pss_nil)
    (pss_one (ps_ret (pe_op op_mod (pe_call G_law_mixed hr (by rfl) T.g_law_mixed T.kp_law_mixed T.b_law_mixed .nil pass0 (pa_cons (pe_call G_law_mixed hr (by rfl) T.g_law_mixed T.kp_law_mixed T.b_law_mixed .nil pass0 (pa_cons (pe_op op_add (pe_ix ix_list (pe_dget (hu_of hr) (pv 0) pe_str (fun _ _ => rfl)) (pe_op op_mod (pv 2) pe_int) (fun _ _ => rfl)) (pe_op op_mul pe_int (pe_op op_fdiv (pv 2) pe_int))) (pa_cons (pv 2) pa_nil))) (pa_cons (pe_op op_add (pv 2) pe_int) pa_nil))) (pv 1))))))), ?_⟩
    obtain ⟨ns, gs, s, h1, h2, h3, h4, hcg, s0, s1⟩ := bag.ex
    have dg : ∀ {H' : Hp} {σ : L2.St} {k : Key} {v : V} {s : Int}, σ[0]? = some (some (.ref m)) → H' m = some (.dK (bagK c g s)) → valV (bagK c g s) k = some v → Ev (tDGet (tVar 0) (tC (kV k))) σ H' v := fun {H' σ k v s} hσ hm hv => fun H1 e1 Q q => ev_var hσ H1 e1 _ fun H2 e2 => ⟨m, v, rfl, by
      have := DGet.k (k := k) ((e1.trans e2) _ _ hm)
      rw [hv] at this
      exact this, q H2 e2⟩
    refine q_asg (v := .int s) (dg rfl h1 (bag_S c g s)) fun H1 e1 => ?_
    -- spot + 1
    refine ev_bin (g := fun i j => .int (i + j)) (ev_var (v := .int s) rfl) (ev_c (v := .int 1)) H1 (Ex.refl _) _ fun H2 e2 => ?_
    refine ev_var (v := .ref m) rfl H2 (Ex.refl _) _ fun H3 e3 => ?_
    have e13 := (e1.trans e2).trans e3
    refine ⟨m, _, rfl, DPut.k (k := kS) (e13 _ _ h1) (by show 3 < sizeLine; exact sz_lt (by decide)), ?_⟩
    rw [bag_putS]
    have mg : m ≠ g := fun z => by rw [z, h4] at h1; cases h1
    have mc : m ≠ c := fun z => by rw [z, h2] at h1; cases h1
    have mv1 : Mv m g H (upd H3 m (.dK (bagK c g (s + 1)))) := ExX.put (X := fun a => a = m ∨ a = g) (exx_of e13) (.inl rfl)
    generalize hH4 : upd H3 m (.dK (bagK c g (s + 1))) = H4 at mv1
    have m4 : H4 m = some (.dK (bagK c g (s + 1))) := by rw [← hH4]; exact upd_same
    have c4 : H4 c = some (.lst (ns.map V.int)) := by rw [← hH4, upd_ne (Ne.symm mc)]; exact e13 _ _ h2
    have g4 : H4 g = some (.lst (gs.map V.int)) := by rw [← hH4, upd_ne (Ne.symm mg)]; exact e13 _ _ h4
    have bag4 : ∀ {H' : Hp}, Ex H4 H' → Bag (B + 1) H' m g c := fun {H'} e => ⟨ns, gs, s + 1, e _ _ m4, e _ _ c4, h3, e _ _ g4, hcg, by omega, by omega⟩
    have fin : ∀ (σ : L2.St) (H5 : Hp), Ex H4 H5 → σ[0]? = some (some (.ref m)) → σ[1]? = some (some (.int top)) → σ[2]? = some (some (.int s)) → tRet (tOp (rI (fun _ j => 0 < j) fun i j => .int (i % j)) (tCall sp_law_mixed [] E0 (tCons (tCall sp_law_mixed [] E0 (tCons (tOp (rI0 fun i j => .int (i + j)) (tOp (rIxL K) (tDGet (tVar 0) (tC (.str "cells"))) (tOp (rI (fun _ j => 0 < j) fun i j => .int (i % j)) (tVar 2) (tC (.int 64)))) (tOp (rI CMul fun i j => .int (i * j)) (tC (.int 31)) (tOp (rI CDiv fun i j => .int (i / j)) (tVar 2) (tC (.int 64))))) (tCons (tVar 2) tNil))) (tCons (tOp (rI0 fun i j => .int (i + j)) (tVar 2) (tC (.int 7))) tNil))) (tVar 1)) { nx := fun _ H' => Q .non H', rt := Q } σ H5 := by
      intro σ H5 e5 z0 z1 z2
      have m0 := modn (n := 64) (by decide) s
      have cell := ev_bin (g := fun i j => .int (i + j)) (ev_ixLI (K := K) (l := ns) (dg (H' := H5) (σ := σ) (k := kC) z0 (e5 _ _ m4) (bag_C c g (s + 1))) (e5 _ _ c4) (ev_binC (C := fun _ j => 0 < j) (g := fun i j => .int (i % j)) (ev_var z2) (ev_c (v := .int 64)) (by decide)) m0.1 (by rw [h3]; exact m0.2))
        (ev_binC (C := CMul) (g := fun i j => .int (i * j)) (ev_c (v := .int 31)) (ev_binC (C := CDiv) (g := fun i j => .int (i / j)) (ev_var z2) (ev_c (v := .int 64)) ⟨by decide, by decide⟩) (.inl ⟨by decide, by decide⟩))
      refine s_retR (evr_mod (evr_mixed (evr_mixed (C := fun _ => True) (evr_of cell trivial) (ev_var z2) (by omega) (by omega)) (ev_bin (g := fun i j => .int (i + j)) (ev_var z2) (ev_c (v := .int 7))) (by omega) (by omega)) (ev_var z1) t0) fun r H6 hr e6 => ?_
      exact q _ _ hr.1 hr.2 (mv1.then (e5.trans e6)) (bag4 (e5.trans e6))
    have gl0 : LD H4 g (gs.map PyData.int) := ⟨_, g4, .ints gs⟩
    have sh : SeqAt.shaped (.list (gs.map PyData.int)) = true := Sh.ok (sh_maps PyData.int sh_int _)
    refine q_when (b := !(gs.map PyData.int).isEmpty) (et_test (ev_neNil (dg (k := kG) rfl m4 (bag_G c g (s + 1))) gl0 sh)) (fun hb H5 e5 => ?_) (fun _ H5 e5 => fin _ H5 e5 rfl rfl rfl)
    have gpos : 0 < gs.length := by
      cases gs with
      | nil => cases hb
      | cons x r => exact Nat.succ_pos _
    have at0 := modn gpos s
    have dG : ∀ {H' : Hp} {y3 y4 : Option V}, Ex H4 H' → Ev (tDGet (tVar 0) (tC (.str "great"))) [some (.ref m), some (.int top), some (.int s), y3, y4] H' (.ref g) := fun {H' y3 y4} e => dg (k := kG) rfl (e _ _ m4) (bag_G c g (s + 1))
    refine q_asg (v := .int (s % (gs.length : Int))) (ev_binC (C := fun _ j => 0 < j) (g := fun i j => .int (i % j)) (ev_var rfl) (ev_lenLI (dG e5) (e5 _ _ g4)) (by omega)) fun H6 e6 => ?_
    have e46 := e5.trans e6
    generalize hat : s % (gs.length : Int) = at_ at at0
    refine q_asg (v := .int (gi gs at_)) (ev_ixLI (dG e46) (e46 _ _ g4) (ev_var rfl) at0.1 at0.2) fun H7 e7 => ?_
    have e47 := e46.trans e7
    generalize hcell : gi gs at_ = cell
    refine s_when (b := decide (0 < cell)) (et_test (ev_bin (ev_var (v := .int cell) rfl) ev_c)) (fun _ H8 e8 => ?_) (fun _ H8 e8 => fin _ H8 (e47.trans e8) rfl rfl rfl)
    have e48 := e47.trans e8
    refine s_setI (D := { nx := _, rt := _, bk := _, ct := _ }) (ns := gs) (v := cell / top) (e48 _ _ g4) (ev_binC (C := CDiv) (g := fun i j => .int (i / j)) (ev_var rfl) (ev_var rfl) ⟨t0, by omega⟩) (dG e48) (ev_var rfl) at0.1 at0.2 fun H9 e9 => ?_
    refine s_ret (v := .int (cell % top)) (ev_binC (C := fun _ j => 0 < j) (g := fun i j => .int (i % j)) (ev_var (v := .int cell) rfl) (ev_var (v := .int top) rfl) t0) fun H10 e10 => ?_
    have mv2 : Mv m g H (upd H9 g (.lst ((si gs at_ (cell / top)).map V.int))) := ExX.put (X := fun a => a = m ∨ a = g) (mv1.then (e48.trans e9)) (.inr rfl)
    refine q _ _ (Int.emod_nonneg _ (by omega)) (Int.emod_lt_of_pos _ t0) (mv2.then e10) (Bag.mono ?_ e10)
    refine ⟨ns, _, s + 1, ?_, ?_, h3, upd_same, hcg, by omega, by omega⟩
    · rw [upd_ne mg]
      exact (e48.trans e9) _ _ m4
    · rw [upd_ne hcg]
      exact (e48.trans e9) _ _ c4
end
end K57
set_option Elab.async false
set_option linter.all false
set_option maxRecDepth 100000
set_option maxHeartbeats 4000000
/-! the law's bag begun, lists mixed up -/
namespace K57
open PySem PySem.Spec PyProof.Rows L2 Evl R57
section
variable {K : PySem.W.Frag} {σ : L2.St} {H : Hp} {te tl tt : TE} {D : L2.Ends} {tu tz : TS} {g : TG} {B : Nat} {m gr c : Addr} {top : Int} {E : XK}
/-- a draw: what is asked behind it -/
theorem dr_run (hm : σ[0]? = some (some (.ref m))) (ht : Ev tt σ H (.int top)) (bag : Bag B H m gr c) (hB : B ≤ 1000000) (t0 : 0 < top) (t1 : top ≤ 1000) {Q : VK} (q : Drew B m gr c top H Q) : tCall sp_law_draw [] E (tCons (tVar 0) (tCons tt tNil)) σ H Q :=
  ⟨_, hm, ht H (Ex.refl H) _ fun H1 e1 => ⟨B, m, gr, c, top, rfl, bag.mono e1, hB, t0, t1, fun r H2 r0 r1 v b => q r H2 r0 r1 ((exx_of e1).trans v) b⟩⟩
theorem q_asgDr {i : Nat} (hm : σ[0]? = some (some (.ref m))) (ht : Ev tt σ H (.int top)) (bag : Bag B H m gr c) (hB : B ≤ 1000000) (t0 : 0 < top) (t1 : top ≤ 1000) (k : ∀ r H1, 0 ≤ r → r < top → Mv m gr H H1 → Bag (B + 1) H1 m gr c → tz D (σ.set i (some (.int r))) H1) :
    tSeq (tAsg (tCall sp_law_draw [] E (tCons (tVar 0) (tCons tt tNil))) (gName i)) tz D σ H := dr_run hm ht bag hB t0 t1 fun r H1 r0 r1 v b => k r H1 r0 r1 v b
theorem q_forDr {j : Nat} (hm : σ[0]? = some (some (.ref m))) (ht : Ev tt σ H (.int top)) (bag : Bag B H m gr c) (hB : B ≤ 1000000) (t0 : 0 < top) (t1 : top ≤ 1000)
    (k : ∀ r H1, 0 ≤ r → r < top → Mv m gr H H1 → Bag (B + 1) H1 m gr c → ∃ Pv : Nat → L2.St → Hp → Prop, Pv 0 σ H1 ∧ (∀ (i : Nat) σ' H', (i : Int) < r → Pv i σ' H' → tu { D with nx := Pv (i + 1), ct := Pv (i + 1), bk := tz D } (σ'.set j (some (.int (i : Int)))) H') ∧ (∀ σ' H', Pv r.toNat σ' H' → tz D σ' H')) :
    tSeq (tFor (iRng1 (tCons (tCall sp_law_draw [] E (tCons (tVar 0) (tCons tt tNil))) tNil)) (gName j) tu) tz D σ H := dr_run hm ht bag hB t0 t1 fun r H1 r0 r1 v b => by
  obtain ⟨Pv, p0, ps, pd⟩ := k r H1 r0 r1 v b
  refine ⟨r, rfl, by omega, by omega, for_range (D := { D with nx := tz D }) (lo := 0) (n := r.toNat) Pv p0 (fun i σ' H' hi p => ?_) pd⟩
  have e0 : (0 : Int) + (i : Int) = (i : Int) := Int.zero_add _
  show tu { D with nx := Pv (i + 1), ct := Pv (i + 1), bk := tz D } (σ'.set j (some (.int ((0 : Int) + (i : Int))))) H'
  rw [e0]
  exact ps i σ' H' (by omega) p
/-- .. of a list that is read -/
theorem evn_lcS {a : Addr} {vs : List Nat} (L : List Int) (f : Int → Bool) (gv : Int → PyData) (h : Ev tl σ H (.ref a)) (hl : SqL K H a (L.map V.int)) (hn : L.length ≤ 40000) {t2 : TT}
    (hs : ∀ a x H2, a ∈ L → Ex H H2 → TD H2 x (.int a) → ∃ σ2, (∀ Q, Q σ2 H2 → g x (wipe σ vs) H2 Q) ∧ wipe σ2 vs = wipe σ vs ∧ EvT t2 σ2 H2 (f a) ∧ (f a = true → EvD te σ2 H2 (gv a))) :
    EvN (tLc (iList K tl) g t2 te vs) σ H ((L.filter f).map gv) := fun H0 e Q q => h H0 e _ fun H1 e1 => by
  have hl1 := ex_l (e.trans e1) hl
  refine ⟨a, rfl, ⟨_, hl1⟩, fun Dl hD => ?_⟩
  exact evn_items L PyData.int walk_list hD f gv (fun H' ex => ex_l ex hl1) (.ints L) hn (fun b x H2 hb ex k => hs b x H2 hb ((e.trans e1).trans ex) k) (q.mono e1)
end
/-- d[k] = a new list -/
theorem q_dputN {σ : L2.St} {H : Hp} {tv : TE} {D : L2.Ends} {tz : TS} {i : Nat} {m : Addr} {kvs : List (Key × V)} {ds : List PyData} (k : Key) (hm : σ[i]? = some (some (.ref m))) (hk : H m = some (.dK kvs)) (hl : kvs.length ≤ 1000) (h : EvN tv σ H ds)
    (q : ∀ p xs H1, H p = none → Ex H H1 → H1 p = some (.lst xs) → TDs H1 xs ds → tz D σ (upd H1 m (.dK (putK kvs k (.ref p))))) : tSeq (sDPut (tVar i) (tC (kV k)) tv) tz D σ H :=
  h H (Ex.refl H) _ fun p xs H1 hp e h1 ts => ⟨_, hm, m, _, rfl, DPut.k (e _ _ hk) (Nat.lt_of_le_of_lt hl (by decide)), q p xs H1 hp e h1 ts⟩
theorem g_name {i : Nat} {x : V} {σ : L2.St} {H : Hp} {Q : L2.St → Hp → Prop} (h : Q (σ.set i (some x)) H) : gName i x σ H Q := h
theorem bag_new (c g : Addr) (s : Int) : mergeK [] (bagK c g s) = bagK c g s := by
  have h1 := ne_CG
  have h2 := ne_CS
  have h3 := ne_GS
  simp [mergeK, bagK, putK, h1, h2, h3]
section
variable {P : Program} {w : World} {K : PySem.W.Frag} {mg : Str → Option Value} {base : Heap}
/-- _law_begun -/
def sp_law_begun (K : PySem.W.Frag) : Sp := fun vs H Q _ => ∃ (a : Addr) (scr : List Int), vs = [.ref a] ∧ SqL K H a (scr.map V.int) ∧ scr.length ≤ 1000 ∧ ∀ m g c H', H m = none → H g = none → H c = none → Ex H H' → Bag 0 H' m g c → Q (.ref m) H'
theorem ok_law_begun (T : Top K mg) : FnOk P w K mg base CX0 2 T.f_law_begun T.fd_law_begun ["_law_script"] (sp_law_begun K) := by
  have G_law_folded := ok_law_folded (P := P) (w := w) (base := base) T
  refine T.F_law_begun.ok sc_law_begun (fun vs H Q E h => ?_) (fun cdv A outer s H vs Q E hr h => ?_)
  · obtain ⟨c, n, rfl, _⟩ := h
    rfl
  · obtain ⟨a, scr, rfl, hs, hl, q⟩ := h
    refine ⟨_, PSs.nox (pss_cons (ps_set (i := 1) sc_law_begun.nd rfl (Or.inl rfl) (pe_disp (pps_cons pe_str (pe_call G_law_folded hr (by rfl) T.g_law_folded T.kp_law_folded T.b_law_folded .nil pass0 (pa_cons (pv 0) pa_nil)) (pps_cons pe_str (pe_lst pa_nil) (pps_cons pe_str pe_int pps_nil))) (by rfl) (by rfl) (fun z => by cases z) (by decide)))
    (pss_cons (ps_dput (hu_of hr) (pv 1) pe_str (pe_lc (own := [("_law_cell", 2)]) (g := gName 2) rfl sc_law_begun.nd (pi_list (pv 0)) (blkOk_by (own := [("_law_cell", 2)]) (N := n_law_begun) (sc := defScope s_law_begun) (by decide +kernel)) (fun _ _ _ _ _ => (pg_name (i := 2) sc_law_begun.nd rfl (Or.inl rfl))) (fun _ _ _ _ _ => pts_nil) (fun _ _ _ _ _ => (pe_ifExp (pt_cmpR op_ge (pv 2) (pe_op op_pow pe_int pe_int) (nomark _)) (pv 2) pe_int))) rfl)
    (pss_one (ps_ret (pv 1))))), ?_⟩
    refine fun m hm => ?_
    have e0 : Ex H (upd H m (.dK [])) := Ex.new hm
    refine ⟨.ref a, rfl, a, scr, rfl, ex_l e0 hs, fun c ns H1 hc e1 hcl hns => ?_⟩
    have m1 := e1 m _ upd_same
    refine ⟨sz_of (Nat.zero_le _), fun g0 hg0 => ?_⟩
    have e2 : Ex H1 (upd H1 g0 (.lst [])) := Ex.new hg0
    refine ⟨e2 m _ m1, bagK c g0 0, rfl, (show 3 ≤ 15 by decide), ?_⟩
    rw [bag_new]
    generalize hH2 : upd (upd H1 g0 (.lst [])) m (.dK (bagK c g0 0)) = H2
    have ex2 : Ex H H2 := by rw [← hH2]; exact Ex.mut ((e0.trans e1).trans e2) hm
    have mc : c ≠ m := fun z => by rw [z, m1] at hcl; cases hcl
    have c2 : H2 c = some (.lst (ns.map V.int)) := by rw [← hH2, upd_ne mc]; exact e2 _ _ hcl
    have m2 : H2 m = some (.dK (bagK c g0 0)) := by rw [← hH2]; exact upd_same
    have lc := evn_lcS (K := K) (σ := [some (.ref a), some (.ref m), none]) (H := H2) (tl := tVar 0) (g := gName 2) (vs := [2]) (t2 := tYes) (te := tIf (tTest (tOp (rI0 fun i j => .bl (decide (j ≤ i))) (tVar 2) (tOp (rI CPow fun i j => .int (i ^ j.toNat)) (tC (.int 10)) (tC (.int 18))))) (tVar 2) (tC (.int 0))) scr (fun _ => true) (fun x => .int (if (10 : Int) ^ (18 : Int).toNat ≤ x then x else 0)) (ev_var rfl) (ex_l ex2 hs) (by omega) (fun x v H3 hx e3 k => by
      obtain rfl := k.int_inv
      refine ⟨_, fun Q h => h, rfl, evt_yes, fun _ => evd_i ?_⟩
      have ht := ev_bin (g := fun i j => V.bl (decide (j ≤ i))) (ev_var (σ := [some (.ref a), some (.ref m), some (.int x)]) (H := H3) (i := 2) (v := .int x) rfl) (ev_binC (C := CPow) (g := fun i j => V.int (i ^ j.toNat)) (ev_c (v := .int 10)) (ev_c (v := .int 18)) ⟨by decide, by decide, by decide⟩)
      by_cases hc : (10 : Int) ^ (18 : Int).toNat ≤ x
      · rw [if_pos hc]
        exact ev_if (et_test ht) (fun _ => ev_var rfl) (fun z => absurd hc (of_decide_eq_false z))
      · rw [if_neg hc]
        exact ev_if (et_test ht) (fun z => absurd (of_decide_eq_true z) hc) (fun _ => ev_c))
    refine g_name ?_
    refine q_dputN kG (i := 1) (m := m) rfl m2 (show 3 ≤ 1000 by decide) lc fun g gs H3 hg e3 hgl tgs => ?_
    rw [filter_all, show (fun x : Int => PyData.int (if (10 : Int) ^ (18 : Int).toNat ≤ x then x else 0)) = PyData.int ∘ fun x => if (10 : Int) ^ (18 : Int).toNat ≤ x then x else 0 from rfl, ← List.map_map] at tgs
    obtain rfl := tgs.ints_inv
    rw [bag_putG]
    have mg : g ≠ m := fun z => by rw [z, m2] at hg; cases hg
    refine s_ret (ev_var (v := .ref m) rfl) fun H4 e4 => q m g c H4 hm (fresh_back ex2 hg) (fresh_back e0 hc) ((Ex.mut (ex2.trans e3) hm).trans e4) (Bag.mono ⟨ns, scr.map fun x => if (10 : Int) ^ (18 : Int).toNat ≤ x then x else 0, 0, upd_same, ?_, hns, ?_, ?_, Int.le_refl 0, Int.le_refl 0⟩ e4)
    · rw [upd_ne mc]
      exact e3 _ _ c2
    · rw [upd_ne mg]
      exact hgl
    · rintro rfl
      rw [c2] at hg
      cases hg
/-- _law_mixed_up -/
def sp_law_mixed_up : Sp := fun vs H Q _ => ∃ (B : Nat) (m g c a : Addr) (ts : List Int), vs = [.ref m, .ref a] ∧ Bag B H m g c ∧ B ≤ 900000 ∧ H a = some (.lst (ts.map V.int)) ∧ ts.length ≤ 100 ∧
  ∀ (p : Addr) (us : List Int) (H' : Hp), H p = none → Mv m g H H' → H' p = some (.lst (us.map V.int)) → us.Perm ts → Bag (B + 100) H' m g c → Q (.ref p) H'
theorem map_erase {α β : Type} (f : α → β) : ∀ (l : List α) (i : Nat), (l.map f).eraseIdx i = (l.eraseIdx i).map f
  | [], _ => rfl
  | a :: l, 0 => rfl
  | a :: l, i + 1 => congrArg (f a :: ·) (map_erase f l i)
theorem perm_erase {α : Type} : ∀ (l : List α) (i : Nat) (h : i < l.length), (l[i] :: l.eraseIdx i).Perm l
  | a :: l, 0, _ => List.Perm.refl _
  | a :: l, i + 1, h => (List.Perm.swap a _ _).trans (List.Perm.cons a (perm_erase l i (Nat.lt_of_succ_lt_succ h)))
theorem perm_pop {fs ss ts : List Int} {r : Int} (r0 : 0 ≤ r) (r1 : r < ss.length) (h : (fs ++ ss).Perm ts) : ((fs ++ [gi ss r]) ++ ss.eraseIdx r.toNat).Perm ts := by
  have h1 : r.toNat < ss.length := by omega
  have e : gi ss r = ss[r.toNat] := gi_at r0 r1
  have e2 : ss.Perm (ss[r.toNat] :: ss.eraseIdx r.toNat) := (perm_erase ss r.toNat h1).symm
  refine List.Perm.trans ?_ h
  rw [List.append_assoc, e]
  exact List.Perm.append_left fs e2.symm
theorem ok_law_mixed_up (T : Top K mg) : FnOk P w K mg base CX0 3 T.f_law_mixed_up T.fd_law_mixed_up ["_law_m", "_law_things"] sp_law_mixed_up := by
  have G_law_draw := ok_law_draw (P := P) (w := w) (base := base) T
  refine T.F_law_mixed_up.ok sc_law_mixed_up (fun vs H Q E h => ?_) (fun cdv A outer s H vs Q E hr h => ?_)
  · obtain ⟨B, m, g, c, a, ts, rfl, _⟩ := h
    rfl
  · obtain ⟨B, m, g, c, a, ts, rfl, bag, hB, ha, hl, q⟩ := h
    refine ⟨_, PSs.nox (pss_cons (ps_par (i := 2) (j := 3) (by rfl) sc_law_mixed_up.nd rfl rfl (by decide) rfl rfl (pa_cons (pe_callTy call_list_of (by rfl) T.z_list bt_list (pa_cons (pv 1) pa_nil)) (pa_cons (pe_lst pa_nil) pa_nil)) (by rfl))
    (pss_cons (ps_for PassesOwn.never rfl (pi_range1 (by rfl) T.z_range (pa_cons (pe_callB call_len_seq (by rfl) T.z_len bt_len (pa_cons (pv 2) pa_nil)) pa_nil)) (pg_name (i := 4) sc_law_mixed_up.nd rfl (Or.inl rfl))
    (pss_one (ps_expr (pe_bm PySem.F.plainAttrs_list PySem.F.slot_list_append PySem.F.type_list_append mt_append (pv 3) (pa_cons (pe_bm PySem.F.plainAttrs_list PySem.F.slot_list_pop PySem.F.type_list_pop mt_popAt (pv 2) (pa_cons (pe_call G_law_draw hr (by rfl) T.g_law_draw T.kp_law_draw T.b_law_draw .nil pass0 (pa_cons (pv 0) (pa_cons (pe_callB call_len_seq (by rfl) T.z_len bt_len (pa_cons (pv 2) pa_nil)) pa_nil))) pa_nil)) pa_nil)))))
    (pss_one (ps_ret (pv 3))))), ?_⟩
    refine q_parNN (evn_listL (ds := ts.map PyData.int) (ev_var (v := .ref a) rfl) ⟨_, ha, .ints ts⟩) (evn_lst ead_nil (by decide)) fun st fo xs ys H1 hst hfo nsf e1 h1 t1 h2 t2 => ?_
    obtain rfl := t1.ints_inv
    obtain rfl := t2.nil_inv
    have nst := bag.ne hst
    have nfo := bag.ne hfo
    have fst_ := bag.far hst
    have ffo_ := bag.far hfo
    refine q_forR1 (n := (ts.length : Int)) (ea_cons (ev_lenLI (ev_var rfl) h1) ea_nil) (by omega)
      (fun i σ' H' => (∃ y, σ' = [some (.ref m), some (.ref a), some (.ref st), some (.ref fo), y]) ∧ Mv m g H H' ∧ ∃ fs ss : List Int, H' st = some (.lst (ss.map V.int)) ∧ H' fo = some (.lst (fs.map V.int)) ∧ (fs ++ ss).Perm ts ∧ ss.length + i = ts.length ∧ Bag (B + i) H' m g c)
      (fun H2 e2 => ⟨⟨none, rfl⟩, exx_of (e1.trans e2), [], ts, e2 _ _ h1, e2 _ _ h2, List.Perm.refl _, rfl, bag.mono (e1.trans e2)⟩) (fun i σ' H' hi hP => ?_) (fun σ' H' hP => ?_)
    · obtain ⟨⟨y, rfl⟩, mv, fs, ss, hss, hfs, pm, hlen, bg⟩ := hP
      have hfl := pm.length_eq
      rw [List.length_append] at hfl
      refine ⟨.ref fo, rfl, Or.inl ⟨rfl, _, SqL.of hfs⟩, ?_⟩
      refine ⟨.ref st, rfl, Or.inl ⟨rfl, _, SqL.of hss⟩, ?_⟩
      refine dr_run (top := (ss.length : Int)) rfl (ev_lenLI (ev_var rfl) hss) bg (by omega) (by omega) (by omega) fun r H2 r0 r1 mv2 bg2 => ?_
      have s2 := mv2 st _ nst hss
      have f2 := mv2 fo _ nfo hfs
      refine ⟨st, ss.map V.int, r, r.toNat, .int (gi ss r), rfl, rfl, s2, by omega, by omega, (ixN_seq (by rw [List.length_map]; exact ixN_in r0 r1)).1, by rw [List.getElem?_map, gi_get r0 r1] <;> rfl, ?_⟩
      refine ⟨fo, fs.map V.int, .int (gi ss r), rfl, rfl, by rw [upd_ne (Ne.symm nsf)]; exact f2, sz_lt (by rw [List.length_map]; omega), ?_⟩
      have er : (ss.map V.int).eraseIdx r.toNat = (ss.eraseIdx r.toNat).map V.int := map_erase _ _ _
      refine ⟨⟨_, rfl⟩, ?_, fs ++ [gi ss r], ss.eraseIdx r.toNat, ?_, ?_, perm_pop r0 r1 pm, ?_, ?_⟩
      · intro x u hx hu
        have h3 := mv2 x _ hx (mv x u hx hu)
        have nx1 : x ≠ st := fun z => by rw [z, hst] at hu; cases hu
        have nx2 : x ≠ fo := fun z => by rw [z, hfo] at hu; cases hu
        rw [upd_ne nx2, upd_ne nx1]
        exact h3
      · rw [upd_ne nsf, upd_same, er]
      · rw [upd_same, List.map_append] <;> rfl
      · rw [List.length_eraseIdx_of_lt (by omega)]
        omega
      · exact Bag.put (Bag.put bg2 fst_) ffo_
    · obtain ⟨⟨y, rfl⟩, mv, fs, ss, hss, hfs, pm, hlen, bg⟩ := hP
      have e3 : (ts.length : Int).toNat = ts.length := by omega
      rw [e3] at hlen bg
      have : ss = [] := List.eq_nil_of_length_eq_zero (by omega)
      subst this
      rw [List.append_nil] at pm
      exact s_ret (ev_var (v := .ref fo) rfl) fun H2 e2 => q fo fs H2 hfo (mv.then e2) (e2 _ _ hfs) pm ((bg.more (by omega)).mono e2)
end
end K57
set_option Elab.async false
set_option linter.all false
set_option maxRecDepth 100000
set_option maxHeartbeats 4000000
/-! the law's walk along the ring -/
namespace K57
open PySem PySem.Spec PyProof.Rows L2 Evl R57
theorem inV_ints (x : Int) (l : List Int) : inV (.int x) (l.map V.int) = decide (x ∈ l) := by
  unfold inV
  rw [List.any_map]
  by_cases h : x ∈ l
  · rw [decide_eq_true h]
    refine List.any_eq_true.mpr ⟨x, h, ?_⟩
    show (x == x) = true
    exact beq_self_eq_true x
  · rw [decide_eq_false h]
    refine List.any_eq_false.mpr fun y hy e => ?_
    have e2 : y = x := eq_of_beq (show (y == x) = true from e)
    exact h (e2 ▸ hy)
/-- some items of 0 .. n - 1, each once -/
def Its (n : Nat) (l : List Int) : Prop := l.Nodup ∧ ∀ x ∈ l, 0 ≤ x ∧ x < (n : Int)
/-- lists at the places as -/
def Lsts (H : Hp) (as : List Addr) (ls : List (List Int)) : Prop := ∀ (i : Nat) a l, as[i]? = some a → ls[i]? = some l → H a = some (.lst (l.map V.int))
/-- what has been held: a list of n lists, away from the bag -/
def Hld (H : Hp) (m g c hd : Addr) (n : Nat) : Prop := ∃ (as : List Addr) (ls : List (List Int)), H hd = some (.lst (as.map V.ref)) ∧ as.length = n ∧ ls.length = n ∧ ¬ (hd = m ∨ hd = g ∨ hd = c) ∧ (∀ a ∈ as, ¬ (a = m ∨ a = g ∨ a = c)) ∧ Lsts H as ls ∧ ∀ l ∈ ls, Its n l
theorem not2 {a m g c : Addr} (h : ¬ (a = m ∨ a = g ∨ a = c)) : ¬ (a = m ∨ a = g) := fun z => h (by
  rcases z with z | z
  · exact .inl z
  · exact .inr (.inl z))
theorem Lsts.mv {H H' : Hp} {X : Addr → Prop} {as : List Addr} {ls : List (List Int)} (h : Lsts H as ls) (v : ExX X H H') (n : ∀ a ∈ as, ¬ X a) : Lsts H' as ls := fun i a l h1 h2 => v a _ (n a (List.mem_of_getElem? h1)) (h i a l h1 h2)
theorem Hld.mv {H H' : Hp} {m g c hd : Addr} {n : Nat} (h : Hld H m g c hd n) (v : Mv m g H H') : Hld H' m g c hd n :=
  let ⟨as, ls, h1, h2, h3, h4, h5, h6, h7⟩ := h
  ⟨as, ls, v _ _ (not2 h4) h1, h2, h3, h4, h5, h6.mv v fun a ha => not2 (h5 a ha), h7⟩
theorem Hld.mono {H H' : Hp} {m g c hd : Addr} {n : Nat} (h : Hld H m g c hd n) (e : Ex H H') : Hld H' m g c hd n := h.mv (exx_of e)
/-- the lists that the walk changes -/
structure Wk (n : Nat) (H : Hp) (r hd mo : Addr) (as : List Addr) : Prop where
  ex : ∃ (rw mvs : List Int) (ls : List (List Int)), H r = some (.lst (rw.map V.int)) ∧ rw.length = n ∧ (∀ x ∈ rw, 0 ≤ x ∧ x < (n : Int)) ∧ H mo = some (.lst (mvs.map V.int)) ∧ mvs.length = n ∧ H hd = some (.lst (as.map V.ref)) ∧ ls.length = n ∧ Lsts H as ls ∧ ∀ l ∈ ls, Its n l
structure Ds (P : Addr → Prop) (r hd mo : Addr) (as : List Addr) : Prop where
  rh : r ≠ hd
  rm : r ≠ mo
  hm : hd ≠ mo
  ar : ∀ a ∈ as, a ≠ r
  ah : ∀ a ∈ as, a ≠ hd
  am : ∀ a ∈ as, a ≠ mo
  nd : as.Nodup
  pr : P r
  ph : P hd
  pm : P mo
  pa : ∀ a ∈ as, P a
theorem Wk.mv {n : Nat} {H H' : Hp} {r hd mo : Addr} {as : List Addr} {X P : Addr → Prop} (k : Wk n H r hd mo as) (d : Ds P r hd mo as) (v : ExX X H H') (hX : ∀ a, P a → ¬ X a) : Wk n H' r hd mo as :=
  let ⟨rw, mvs, ls, h1, h2, h3, h4, h5, h6, h7, h8, h9⟩ := k.ex
  ⟨rw, mvs, ls, v _ _ (hX _ d.pr) h1, h2, h3, v _ _ (hX _ d.pm) h4, h5, v _ _ (hX _ d.ph) h6, h7, h8.mv v fun a ha => hX a (d.pa a ha), h9⟩
theorem rep_zero (n : Nat) : (List.replicate n [V.int 0]).flatten = (List.replicate n (0 : Int)).map V.int := by
  induction n with
  | zero => rfl
  | succ n ih =>
    rw [List.replicate_succ, List.flatten_cons, ih, List.replicate_succ]
    rfl
theorem nod1 {α : Type} (x : α) : [x].Nodup := List.nodup_cons.mpr ⟨by simp, List.nodup_nil⟩
theorem Its.snoc {n : Nat} {l : List Int} {x : Int} (h : Its n l) (h0 : 0 ≤ x) (h1 : x < n) (h2 : ¬ x ∈ l) : Its n (l ++ [x]) := by
  refine ⟨List.nodup_append.mpr ⟨h.1, nod1 x, fun a ha b hb e => h2 ?_⟩, fun y hy => ?_⟩
  · rw [List.mem_singleton] at hb
    rw [← hb, ← e]
    exact ha
  · rcases List.mem_append.mp hy with z | z
    · exact h.2 y z
    · rw [List.mem_singleton.mp z]
      exact ⟨h0, h1⟩
theorem set_at {α : Type} {l : List α} {i j : Nat} {x y : α} (h : (l.set i x)[j]? = some y) : (j = i ∧ y = x) ∨ (j ≠ i ∧ l[j]? = some y) := by
  rw [List.getElem?_set] at h
  by_cases e : i = j
  · rw [if_pos e] at h
    by_cases hl : i < l.length
    · rw [if_pos hl] at h
      exact .inl ⟨e.symm, (Option.some.inj h).symm⟩
    · rw [if_neg hl] at h
      cases h
  · rw [if_neg e] at h
    exact .inr ⟨fun z => e z.symm, h⟩
theorem mem_set {α : Type} {l : List α} {i : Nat} {x y : α} (h : y ∈ l.set i x) : y ∈ l ∨ y = x := by
  rcases List.mem_or_eq_of_mem_set h with e | e
  · exact .inl e
  · exact .inr e
section
variable {P : Program} {w : World} {K : PySem.W.Frag} {mg : Str → Option Value} {base : Heap}
/-- _law_ring_walk -/
def sp_law_ring_walk : Sp := fun vs H Q _ => ∃ (B : Nat) (m g c : Addr) (n : Nat), vs = [.ref m, .int n] ∧ Bag B H m g c ∧ B ≤ 900000 ∧ 3 ≤ n ∧ n ≤ 6 ∧
  ∀ (a hd : Addr) (ys : List V) (H' : Hp), Mv m g H H' → Bag (B + 100) H' m g c → TupAt H' a (.ref hd :: ys) → Hld H' m g c hd n → Q (.ref a) H'
theorem ok_law_ring_walk (T : Top K mg) : FnOk P w K mg base CX0 3 T.f_law_ring_walk T.fd_law_ring_walk ["_law_m", "_law_many"] sp_law_ring_walk := by
  have G_law_draw := ok_law_draw (P := P) (w := w) (base := base) T
  refine T.F_law_ring_walk.ok sc_law_ring_walk (fun vs H Q E h => ?_) (fun cdv A outer s H vs Q E hr h => ?_)
  · obtain ⟨B, m, g, c, n, rfl, _⟩ := h
    rfl
  · obtain ⟨B, m, g, c, n, rfl, bag, hB, n3, n6, q⟩ := h
    refine ⟨_, PSs.nox (pss_cons (ps_par3 (i := 2) (j := 3) (l := 4) (by rfl) sc_law_ring_walk.nd rfl rfl rfl (by decide) (by decide) (by decide) rfl rfl rfl (pa_cons (pe_listRg rfl (by rfl) T.z_list (prg_1 (by rfl) T.z_range (pv 1))) (pa_cons (pe_lc (own := [("_law_who", 10)]) (g := gName 10) rfl sc_law_ring_walk.nd (pi_range1 (by rfl) T.z_range (pa_cons (pv 1) pa_nil)) (blkOk_by (own := [("_law_who", 10)]) (N := n_law_ring_walk) (sc := defScope s_law_ring_walk) (by decide +kernel)) (fun _ _ _ _ _ => (pg_name (i := 10) sc_law_ring_walk.nd rfl (Or.inl rfl))) (fun _ _ _ _ _ => pts_nil) (fun _ _ _ _ _ => (pe_lst (pa_cons (pv 10) pa_nil)))) (pa_cons (pe_op op_rep (pe_lst (pa_cons pe_int pa_nil)) (pv 1)) pa_nil))) (by rfl))
    (pss_cons (ps_for PassesOwn.never rfl (pi_range1 (by rfl) T.z_range (pa_cons (pe_call G_law_draw hr (by rfl) T.g_law_draw T.kp_law_draw T.b_law_draw .nil pass0 (pa_cons (pv 0) (pa_cons (pe_op op_mul pe_int (pv 1)) pa_nil))) pa_nil)) (pg_name (i := 5) sc_law_ring_walk.nd rfl (Or.inl rfl))
    (pss_cons (ps_set (i := 6) sc_law_ring_walk.nd rfl (Or.inl rfl) (pe_call G_law_draw hr (by rfl) T.g_law_draw T.kp_law_draw T.b_law_draw .nil pass0 (pa_cons (pv 0) (pa_cons (pv 1) pa_nil))))
    (pss_cons (ps_set (i := 7) sc_law_ring_walk.nd rfl (Or.inl rfl) (pe_op op_mod (pe_op op_add (pv 6) pe_int) (pv 1)))
    (pss_cons (ps_par (i := 8) (j := 9) (by rfl) sc_law_ring_walk.nd rfl rfl (by decide) rfl rfl (pa_cons (pe_ix ix_list (pv 2) (pv 6) (fun _ _ => rfl)) (pa_cons (pe_ix ix_list (pv 2) (pv 7) (fun _ _ => rfl)) pa_nil)) (by rfl))
    (pss_one (ps_if (PW.pt (pw_and (pt_cmpR op_ge (pe_ix ix_list (pv 4) (pv 8) (fun _ _ => rfl)) pe_int (nomark _)) (pw_and (pt_cmpR op_le (pe_ix ix_list (pv 4) (pv 9) (fun _ _ => rfl)) pe_int (nomark _)) (pw_and (pt_cmpR op_notIn_seq (pv 9) (pe_ix ix_list (pv 3) (pv 6) (fun _ _ => rfl)) rfl) (pw_and1 (pt_cmpR op_notIn_seq (pv 8) (pe_ix ix_list (pv 3) (pv 7) (fun _ _ => rfl)) rfl))))))
    (pss_cons (ps_asg (pe_tupF (pa_cons (pe_op op_add (pe_ix ix_list (pv 4) (pv 8) (fun _ _ => rfl)) pe_int) (pa_cons (pe_op op_sub (pe_ix ix_list (pv 4) (pv 9) (fun _ _ => rfl)) pe_int) pa_nil))) (pg_tup rfl (pgs_cons (pg_sub (pv 4) (pv 8) set_list) (pgs_cons (pg_sub (pv 4) (pv 9) set_list) pgs_nil))))
    (pss_cons (ps_asg (pe_tupF (pa_cons (pv 9) (pa_cons (pv 8) pa_nil))) (pg_tup rfl (pgs_cons (pg_sub (pv 2) (pv 6) set_list) (pgs_cons (pg_sub (pv 2) (pv 7) set_list) pgs_nil))))
    (pss_cons (ps_expr (pe_bm PySem.F.plainAttrs_list PySem.F.slot_list_append PySem.F.type_list_append mt_append (pe_ix ix_list (pv 3) (pv 6) (fun _ _ => rfl)) (pa_cons (pv 9) pa_nil)))
    (pss_one (ps_expr (pe_bm PySem.F.plainAttrs_list PySem.F.slot_list_append PySem.F.type_list_append mt_append (pe_ix ix_list (pv 3) (pv 7) (fun _ _ => rfl)) (pa_cons (pv 8) pa_nil))))))) pss_nil))))))
    (pss_one (ps_ret (pe_tupF (pa_cons (pv 3) (pa_cons (pe_callTy call_tupF (by rfl) T.z_tuple bt_tuple (pa_cons (pv 4) pa_nil)) pa_nil))))))), ?_⟩
    -- row
    refine ⟨_, rfl, n, rfl, RgOk.of_le (by omega) (by omega) (by omega) (by omega), fun r hr0 => ?_⟩
    have erow : rgV 0 (n : Int) = (rng 0 (n : Int)).map V.int := by
      unfold rgV rng
      rw [List.map_map] <;> rfl
    rw [erow]
    generalize hH1 : upd H r (.lst ((rng 0 (n : Int)).map V.int)) = H1
    have e1 : Ex H H1 := by rw [← hH1]; exact Ex.new hr0
    have hr1 : H1 r = some (.lst ((rng 0 (n : Int)).map V.int)) := by rw [← hH1]; exact upd_same
    -- held
    refine ⟨_, rfl, n, rfl, by omega, by omega, fun hd hhd => ?_⟩
    refine lc_it (walk_range (lo := 0) (n := n)) (fun i H' => Ex H1 H' ∧ ∃ as : List Addr, H' hd = some (.lst (as.map V.ref)) ∧ as.length = i ∧ as.Nodup ∧ ∀ (k : Nat) a, as[k]? = some a → a ≠ hd ∧ H1 a = none ∧ H' a = some (.lst [.int (k : Nat)]))
      ⟨Ex.new hhd, [], upd_same, rfl, List.nodup_nil, fun k a h => by simp at h⟩ (fun _ _ _ _ => trivial) (fun i x H' H2 hi hP y => ?_) (fun H2 hP => ?_)
    · obtain ⟨ex, as, h1, h2, h3, h4⟩ := hP
      obtain ⟨rfl, rfl⟩ := y
      refine ⟨rfl, ?_⟩
      refine ⟨_, rfl, sz_of (show 1 ≤ 100000 by decide), fun p hp => ?_⟩
      have np : hd ≠ p := fun z => by rw [← z, h1] at hp; cases hp
      have nas : ∀ (k : Nat) a, as[k]? = some a → a ≠ p := fun k a ha z => by
        have := (h4 k a ha).2.2
        rw [z, hp] at this
        cases this
      refine ⟨as.map V.ref, by rw [upd_ne np]; exact h1, sz_lt (by rw [List.length_map]; omega), Ex.mut (ex.trans (Ex.new hp)) hhd, as ++ [p], by rw [upd_same, List.map_append] <;> rfl, by rw [List.length_append, h2] <;> rfl, ?_, fun k a ha => ?_⟩
      · refine List.nodup_append.mpr ⟨h3, nod1 p, fun a ha b hb e => ?_⟩
        rw [List.mem_singleton] at hb
        obtain ⟨k, hk⟩ := List.mem_iff_getElem?.mp ha
        exact nas k a hk (e.trans hb)
      · by_cases hk : k < i
        · rw [List.getElem?_append_left (by omega)] at ha
          obtain ⟨g1, g2, g3⟩ := h4 k a ha
          exact ⟨g1, g2, by rw [upd_ne g1, upd_ne (nas k a ha)]; exact g3⟩
        · have hk2 : k = i := by
            have := (List.getElem?_eq_some_iff.mp ha).1
            rw [List.length_append, h2, List.length_singleton] at this
            omega
          subst hk2
          rw [← h2, List.getElem?_concat_length] at ha
          obtain rfl := Option.some.inj ha
          refine ⟨Ne.symm np, fresh_back ex hp, ?_⟩
          rw [upd_ne (Ne.symm np), upd_same]
          show some (HO.lst [V.int (0 + (k : Int))]) = _
          rw [Int.zero_add]
    · obtain ⟨ex2, as, h1, h2, h3, h4⟩ := hP
      -- moves
      refine ⟨sz_of (show 1 ≤ 100000 by decide), fun z0 hz0 => ?_⟩
      have e3 : Ex H2 (upd H2 z0 (.lst [.int 0])) := Ex.new hz0
      refine ⟨_, rfl, z0, (n : Int), [.int 0], rfl, rfl, upd_same, by omega, by omega, ?_, fun mo hmo => ?_⟩
      · have : [V.int 0].length * (n : Int).toNat = n := by rw [Int.toNat_natCast, List.length_singleton, Nat.one_mul]
        rw [this]
        exact sz_of (by omega)
      rw [Int.toNat_natCast, rep_zero]
      generalize hH3 : upd (upd H2 z0 (.lst [.int 0])) mo (.lst ((List.replicate n (0 : Int)).map V.int)) = H3
      have e23 : Ex H2 H3 := by rw [← hH3]; exact e3.trans (Ex.new hmo)
      have mo3 : H3 mo = some (.lst ((List.replicate n (0 : Int)).map V.int)) := by rw [← hH3]; exact upd_same
      refine ⟨_, _, _, rfl, ?_⟩
      have e12 := e1.trans ex2
      have e13 := e12.trans e23
      have mo0 : H mo = none := fresh_back (e12.trans e3) hmo
      have rhd : r ≠ hd := fun z => by rw [← z, hr1] at hhd; cases hhd
      have far : ∀ a, H a = none → ¬ (a = m ∨ a = g ∨ a = c) := fun a ha => bag.far ha
      have fa : ∀ a ∈ as, a ≠ hd ∧ H1 a = none ∧ H2 a ≠ none := fun a ha => by
        obtain ⟨k, hk⟩ := List.mem_iff_getElem?.mp ha
        obtain ⟨g1, g2, g3⟩ := h4 k a hk
        exact ⟨g1, g2, by rw [g3]; exact fun z => nomatch z⟩
      have hm2 : H2 mo = none := fresh_back e3 hmo
      have ds : Ds (fun a => ¬ (a = m ∨ a = g ∨ a = c) ∧ H a = none) r hd mo as := by
        refine ⟨rhd, fun z => ?_, fun z => ?_, fun a ha z => ?_, fun a ha => (fa a ha).1, fun a ha z => ?_, h3, ⟨far _ hr0, hr0⟩, ⟨far _ (fresh_back e1 hhd), fresh_back e1 hhd⟩, ⟨far _ mo0, mo0⟩, fun a ha => ⟨far _ (fresh_back e1 (fa a ha).2.1), fresh_back e1 (fa a ha).2.1⟩⟩
        · have := ex2 _ _ hr1
          rw [z, hm2] at this
          cases this
        · rw [z, hm2] at h1
          cases h1
        · have := (fa a ha).2.1
          rw [z, hr1] at this
          cases this
        · have := (fa a ha).2.2
          rw [z] at this
          exact this hm2
      have wk3 : Wk n H3 r hd mo as := by
        refine ⟨rng 0 (n : Int), List.replicate n 0, (List.range n).map (fun k : Nat => [(k : Int)]), (ex2.trans e23) _ _ hr1, by rw [rng_length]; omega, fun x hx => mem_rng.mp hx, mo3, List.length_replicate, e23 _ _ h1, by rw [List.length_map, List.length_range], fun k a l ha hl => ?_, fun l hl => ?_⟩
        · have hk : k < n := by
            have := (List.getElem?_eq_some_iff.mp ha).1
            omega
          rw [List.getElem?_map, List.getElem?_range hk] at hl
          have e : [(k : Int)] = l := Option.some.inj hl
          rw [← e]
          exact e23 _ _ (h4 k a ha).2.2
        · obtain ⟨k, hk, rfl⟩ := List.mem_map.mp hl
          have := List.mem_range.mp hk
          exact ⟨nod1 _, fun x hx => by rw [List.mem_singleton.mp hx]; omega⟩
      have hPX : ∀ a, (¬ (a = m ∨ a = g ∨ a = c) ∧ H a = none) → ¬ (a = m ∨ a = g) := fun a ha => not2 ha.1
      -- the walk
      refine q_forDr (top := 3 * (n : Int)) rfl (ev_binC (C := CMul) (g := fun i j => .int (i * j)) (ev_c (v := .int 3)) (ev_var (v := .int n) rfl) (.inl ⟨by decide, by decide⟩)) (bag.mono e13) (by omega) (by omega) (by omega) fun rr H4 r0 r1 v4 bag4 => ?_
      refine ⟨fun i σ' H' => (∃ y5 y6 y7 y8 y9, σ' = [some (.ref m), some (.int n), some (.ref r), some (.ref hd), some (.ref mo), y5, y6, y7, y8, y9, none]) ∧ Mv m g H H' ∧ Bag (B + 1 + i) H' m g c ∧ Wk n H' r hd mo as, ⟨⟨none, none, none, none, none, rfl⟩, (exx_of e13).trans v4, bag4, wk3.mv ds v4 hPX⟩, fun i σ' H' hi hP => ?_, fun σ' H' hP => ?_⟩
      · obtain ⟨⟨y5, y6, y7, y8, y9, rfl⟩, v5, bag5, wk5⟩ := hP
        refine q_asgDr (top := (n : Int)) rfl (ev_var rfl) bag5 (by omega) (by omega) (by omega) fun at_ H6 a0 a1 v6 bag6 => ?_
        have v06 := v5.trans v6
        have wk6 := wk5.mv ds v6 hPX
        have nr := modn (n := n) (by omega) (at_ + 1)
        have nean : at_ ≠ (at_ + 1) % (n : Int) := by
          by_cases e : at_ + 1 < n
          · rw [Int.emod_eq_of_lt (by omega) e]
            omega
          · have e2 : at_ + 1 = n := by omega
            rw [e2, Int.emod_self]
            omega
        refine q_asg (v := .int ((at_ + 1) % (n : Int))) (ev_binC (C := fun _ j => 0 < j) (g := fun i j => .int (i % j)) (ev_bin (g := fun i j => .int (i + j)) (ev_var rfl) ev_c) (ev_var rfl) (by omega)) fun H7 e7 => ?_
        generalize (at_ + 1) % (n : Int) = ne_ at nr nean
        obtain ⟨rw_, mvs, ls, k1, k2, k3, k4, k5, k6, k7, k8, k9⟩ := (wk6.mv ds (exx_of (X := fun a => a = m ∨ a = g) e7) hPX).ex
        have th := k3 _ (gi_mem (l := rw_) a0 (by omega))
        have fr := k3 _ (gi_mem (l := rw_) nr.1 (by omega))
        refine q_parV (v := .int (gi rw_ at_)) (w := .int (gi rw_ ne_)) (ea_cons (ev_ixLI (ev_var rfl) k1 (ev_var rfl) a0 (by omega)) (ea_cons (ev_ixLI (ev_var rfl) k1 (ev_var rfl) nr.1 (by omega)) ea_nil)) fun H8 e8 => ?_
        generalize gi rw_ at_ = thing at th
        generalize gi rw_ ne_ = far_ at fr
        -- the two lists held
        obtain ⟨A, hA⟩ : ∃ A, as[at_.toNat]? = some A := ⟨as[at_.toNat]'(by omega), List.getElem?_eq_getElem _⟩
        obtain ⟨N, hN⟩ : ∃ N, as[ne_.toNat]? = some N := ⟨as[ne_.toNat]'(by omega), List.getElem?_eq_getElem _⟩
        obtain ⟨lA, hlA⟩ : ∃ l, ls[at_.toNat]? = some l := ⟨ls[at_.toNat]'(by omega), List.getElem?_eq_getElem _⟩
        obtain ⟨lN, hlN⟩ : ∃ l, ls[ne_.toNat]? = some l := ⟨ls[ne_.toNat]'(by omega), List.getElem?_eq_getElem _⟩
        have AN : A ≠ N := fun z => by
          obtain ⟨b1, b2⟩ := List.getElem?_eq_some_iff.mp hA
          obtain ⟨c1, c2⟩ := List.getElem?_eq_some_iff.mp hN
          have := (List.getElem_inj ds.nd).mp (b2.trans (z.trans c2.symm))
          omega
        have mA := List.mem_of_getElem? hA
        have mN := List.mem_of_getElem? hN
        have itA := k9 _ (List.mem_of_getElem? hlA)
        have itN := k9 _ (List.mem_of_getElem? hlN)
        have atA : atI as at_ = some A := by
          have := atI_nat (xs := as) (j := at_.toNat) hA
          rwa [show ((at_.toNat : Nat) : Int) = at_ by omega] at this
        have atN : atI as ne_ = some N := by
          have := atI_nat (xs := as) (j := ne_.toNat) hN
          rwa [show ((ne_.toNat : Nat) : Int) = ne_ by omega] at this
        have hdA : ∀ {H' : Hp} {σ : L2.St}, H' hd = some (.lst (as.map V.ref)) → σ[3]? = some (some (.ref hd)) → σ[6]? = some (some (.int at_)) → Ev (tOp (rIxL K) (tVar 3) (tVar 6)) σ H' (.ref A) := fun {H' σ} hh s3 s6 => ev_op (ev_var s3) (ev_var s6) (rv_ixL (SqL.of hh) (at_map V.ref atA))
        have hdN : ∀ {H' : Hp} {σ : L2.St}, H' hd = some (.lst (as.map V.ref)) → σ[3]? = some (some (.ref hd)) → σ[7]? = some (some (.int ne_)) → Ev (tOp (rIxL K) (tVar 3) (tVar 7)) σ H' (.ref N) := fun {H' σ} hh s3 s7 => ev_op (ev_var s3) (ev_var s7) (rv_ixL (SqL.of hh) (at_map V.ref atN))
        have h8A := e8 _ _ (k8 _ _ _ hA hlA)
        have h8N := e8 _ _ (k8 _ _ _ hN hlN)
        have h8h := e8 _ _ k6
        have h8m := e8 _ _ k4
        have h8r := e8 _ _ k1
        have v08 : Mv m g H H8 := v06.then (e7.trans e8)
        have bag8 := bag6.mono (e7.trans e8)
        refine s_when (b := decide (0 ≤ gi mvs thing) && (decide (gi mvs far_ ≤ 0) && (!decide (far_ ∈ lA) && !decide (thing ∈ lN))))
          (et_and (et_test (ev_bin (ev_ixLI (ev_var rfl) h8m (ev_var rfl) th.1 (by omega)) ev_c)) fun _ => et_and (et_test (ev_bin (ev_ixLI (ev_var rfl) h8m (ev_var rfl) fr.1 (by omega)) ev_c)) fun _ =>
            et_and (et_test (ev_is (ev_op (ev_var (v := .int far_) rfl) (hdA h8h rfl rfl) (rv_niL (SqL.of h8A) rfl (all_flat _))) (by rw [inV_ints]))) fun _ => et_test (ev_is (ev_op (ev_var (v := .int thing) rfl) (hdN h8h rfl rfl) (rv_niL (SqL.of h8N) rfl (all_flat _))) (by rw [inV_ints]))) (fun hb H9 e9 => ?_) (fun hb H9 e9 => ?_)
        · obtain ⟨_, hb2⟩ := Bool.and_eq_true_iff.mp hb
          obtain ⟨_, hb3⟩ := Bool.and_eq_true_iff.mp hb2
          obtain ⟨hb4, hb5⟩ := Bool.and_eq_true_iff.mp hb3
          have nfA : ¬ far_ ∈ lA := fun z => by rw [decide_eq_true z] at hb4; cases hb4
          have ntN : ¬ thing ∈ lN := fun z => by rw [decide_eq_true z] at hb5; cases hb5
          have h9m := e9 _ _ h8m
          refine q_set2 (ns := mvs) (i := thing) (j := far_) (x := gi mvs thing + 1) (y := gi mvs far_ - 1) h9m (ev_bin (g := fun i j => .int (i + j)) (ev_ixLI (ev_var rfl) h9m (ev_var rfl) th.1 (by omega)) ev_c) (ev_bin (g := fun i j => .int (i - j)) (ev_ixLI (ev_var rfl) h9m (ev_var rfl) fr.1 (by omega)) ev_c)
            (fun H' _ _ => ev_var rfl) (fun H' => ev_var rfl) (fun H' => ev_var rfl) (fun H' => ev_var rfl) th.1 (by omega) fr.1 (by omega) fun H10 x10 h10m => ?_
          have h10r := x10 r _ ds.rm (e9 _ _ h8r)
          refine q_set2 (ns := rw_) (i := at_) (j := ne_) (x := far_) (y := thing) h10r (ev_var rfl) (ev_var rfl) (fun H' _ _ => ev_var rfl) (fun H' => ev_var rfl) (fun H' => ev_var rfl) (fun H' => ev_var rfl) a0 (by omega) nr.1 (by omega) fun H11 x11 h11r => ?_
          have h11h := x11 hd _ (Ne.symm ds.rh) (x10 hd _ ds.hm (e9 _ _ h8h))
          have h11A := x11 A _ (ds.ar A mA) (x10 A _ (ds.am A mA) (e9 _ _ h8A))
          have h11N := x11 N _ (ds.ar N mN) (x10 N _ (ds.am N mN) (e9 _ _ h8N))
          have h11m := x11 mo _ (Ne.symm ds.rm) h10m
          refine q_app h11A (hdA h11h rfl rfl) (ev_var (v := .int far_) rfl) (by rw [List.length_map]; have := itA.1.length_le_of_subset (l₂ := rng 0 (n : Int)) (fun x hx => mem_rng.mpr (itA.2 x hx)); rw [rng_length] at this; omega) fun H12 e12' => ?_
          have hAh : hd ≠ A := Ne.symm (ds.ah A mA)
          have h12h : (upd H12 A (.lst (lA.map V.int ++ [.int far_]))) hd = some (.lst (as.map V.ref)) := by rw [upd_ne hAh]; exact e12' _ _ h11h
          have h12N : (upd H12 A (.lst (lA.map V.int ++ [.int far_]))) N = some (.lst (lN.map V.int)) := by rw [upd_ne (Ne.symm AN)]; exact e12' _ _ h11N
          refine s_app h12N (hdN h12h rfl rfl) (ev_var (v := .int thing) rfl) (by rw [List.length_map]; have := itN.1.length_le_of_subset (l₂ := rng 0 (n : Int)) (fun x hx => mem_rng.mpr (itN.2 x hx)); rw [rng_length] at this; omega) fun H13 e13' => ?_
          have hNh : hd ≠ N := Ne.symm (ds.ah N mN)
          -- all at the end
          have all : ∀ b, ¬ (b = mo ∨ b = r ∨ b = A ∨ b = N) → ∀ o, H8 b = some o → (upd H13 N (.lst (lN.map V.int ++ [.int thing]))) b = some o := fun b nb o ho => by
            have n1 : b ≠ mo := fun z => nb (.inl z)
            have n2 : b ≠ r := fun z => nb (.inr (.inl z))
            have n3 : b ≠ A := fun z => nb (.inr (.inr (.inl z)))
            have n4 : b ≠ N := fun z => nb (.inr (.inr (.inr z)))
            rw [upd_ne n4]
            refine e13' _ _ ?_
            rw [upd_ne n3]
            exact e12' _ _ (x11 b _ n2 (x10 b _ n1 (e9 _ _ ho)))
          have none4 : ∀ b o, H b = some o → ¬ (b = mo ∨ b = r ∨ b = A ∨ b = N) := fun b o ho z => by
            rcases z with z | z | z | z
            · rw [z, mo0] at ho; cases ho
            · rw [z, hr0] at ho; cases ho
            · rw [z, (ds.pa A mA).2] at ho; cases ho
            · rw [z, (ds.pa N mN).2] at ho; cases ho
          refine ⟨⟨_, _, _, _, _, rfl⟩, fun b o nb hb => all b (none4 b o hb) o (v08 b o nb hb), ?_, ?_⟩
          · obtain ⟨ns0, gs0, sp0, b1, b2, b3, b4, b5, b6, b7⟩ := bag8.ex
            have far4 : ∀ b, (b = m ∨ b = g ∨ b = c) → ¬ (b = mo ∨ b = r ∨ b = A ∨ b = N) := fun b hb z => by
              rcases z with z | z | z | z
              · rw [z] at hb; exact ds.pm.1 hb
              · rw [z] at hb; exact ds.pr.1 hb
              · rw [z] at hb; exact (ds.pa A mA).1 hb
              · rw [z] at hb; exact (ds.pa N mN).1 hb
            exact ⟨ns0, gs0, sp0, all m (far4 m (.inl rfl)) _ b1, all c (far4 c (.inr (.inr rfl))) _ b2, b3, all g (far4 g (.inr (.inl rfl))) _ b4, b5, b6, by omega⟩
          · refine ⟨si (si rw_ at_ far_) ne_ thing, si (si mvs thing (gi mvs thing + 1)) far_ (gi mvs far_ - 1), (ls.set at_.toNat (lA ++ [far_])).set ne_.toNat (lN ++ [thing]), ?_, ?_, ?_, ?_, ?_, ?_, ?_, ?_, ?_⟩
            · rw [upd_ne (Ne.symm (ds.ar N mN))]
              refine e13' _ _ ?_
              rw [upd_ne (Ne.symm (ds.ar A mA))]
              exact e12' _ _ h11r
            · rw [si_length, si_length]
              exact k2
            · intro x hx
              rcases si_mem hx with z | z
              · rcases si_mem z with z | z
                · exact k3 x z
                · rw [z]; exact fr
              · rw [z]; exact th
            · rw [upd_ne (Ne.symm (ds.am N mN))]
              refine e13' _ _ ?_
              rw [upd_ne (Ne.symm (ds.am A mA))]
              exact e12' _ _ h11m
            · rw [si_length, si_length]
              exact k5
            · rw [upd_ne hNh]
              exact e13' _ _ h12h
            · rw [List.length_set, List.length_set]
              exact k7
            · intro i' a' l' ha' hl'
              rcases set_at hl' with ⟨z1, z2⟩ | ⟨z1, z2⟩
              · rw [z1, hN] at ha'
                obtain rfl := Option.some.inj ha'
                rw [z2, upd_same, List.map_append] <;> rfl
              · have neN : a' ≠ N := fun z => z1 (by
                  obtain ⟨b1, b2⟩ := List.getElem?_eq_some_iff.mp ha'
                  obtain ⟨c1, c2⟩ := List.getElem?_eq_some_iff.mp hN
                  exact (List.getElem_inj ds.nd).mp (b2.trans (z.trans c2.symm)))
                rw [upd_ne neN]
                refine e13' _ _ ?_
                rcases set_at z2 with ⟨z3, z4⟩ | ⟨z3, z4⟩
                · rw [z3, hA] at ha'
                  obtain rfl := Option.some.inj ha'
                  rw [z4, upd_same, List.map_append] <;> rfl
                · have neA : a' ≠ A := fun z => z3 (by
                    obtain ⟨b1, b2⟩ := List.getElem?_eq_some_iff.mp ha'
                    obtain ⟨c1, c2⟩ := List.getElem?_eq_some_iff.mp hA
                    exact (List.getElem_inj ds.nd).mp (b2.trans (z.trans c2.symm)))
                  rw [upd_ne neA]
                  have ma' := List.mem_of_getElem? ha'
                  exact e12' _ _ (x11 a' _ (ds.ar a' ma') (x10 a' _ (ds.am a' ma') ((e8.trans e9) _ _ (k8 _ _ _ ha' z4))))
            · intro l hl
              rcases mem_set hl with z | z
              · rcases mem_set z with z | z
                · exact k9 l z
                · rw [z]; exact itA.snoc fr.1 fr.2 nfA
              · rw [z]; exact itN.snoc th.1 th.2 ntN
        · exact ⟨⟨_, _, _, _, _, rfl⟩, v08.then e9, (bag8.mono e9).more (by omega), ⟨rw_, mvs, ls, (e8.trans e9) _ _ k1, k2, k3, (e8.trans e9) _ _ k4, k5, (e8.trans e9) _ _ k6, k7, k8.mv (X := fun _ => False) (exx_of (e8.trans e9)) (fun _ _ z => z), k9⟩⟩
      · obtain ⟨⟨y5, y6, y7, y8, y9, rfl⟩, v5, bag5, wk5⟩ := hP
        obtain ⟨rw_, mvs, ls, k1, k2, k3, k4, k5, k6, k7, k8, k9⟩ := wk5.ex
        refine ⟨.ref hd, rfl, ?_⟩
        refine evd_tupL (ds := mvs.map PyData.int) (K := K) (ta := tVar 4) (a := mo) (ev_var rfl) ⟨_, k4, .ints _⟩ H' (Ex.refl _) _ fun tv H6 e6 _ => ?_
        refine ⟨sz_of (show 2 ≤ 100000 by decide), fun p o hp ho => ?_⟩
        have e7 : Ex H' (upd H6 p (.frz o (.tup [.ref hd, tv]))) := e6.trans (Ex.new hp)
        exact q p hd [tv] _ (v5.then e7) ((bag5.more (by omega)).mono e7) (.new ho) ⟨as, ls, e7 _ _ k6, h2, k7, ds.ph.1, fun a ha => (ds.pa a ha).1, k8.mv (X := fun _ => False) (exx_of e7) (fun _ _ z => z), k9⟩
end
end K57
set_option Elab.async false
set_option linter.all false
set_option maxRecDepth 100000
set_option maxHeartbeats 4000000
/-! the law's lists of a ring -/
namespace K57
open PySem PySem.Spec PyProof.Rows L2 Evl R57
theorem ExX.mutF {X : Addr → Prop} {H H1 : Hp} {p : Addr} {o : HO} (a : ExX X H H1) (hp : H p = none) : ExX X H (upd H1 p o) := fun x u n h => by
  rw [upd_ne (show x ≠ p from fun z => by rw [z, hp] at h; cases h)]
  exact a x u n h
section
variable {K : PySem.W.Frag} {σ : L2.St} {H : Hp} {te ta tb tl tt : TE} {D : L2.Ends} {tu tz : TS} {B : Nat} {m gr c : Addr} {E : XK} {ds es : List PyData}
theorem evn_ofL {ns : List Int} (h : EvL te σ H (ns.map V.int)) : EvN te σ H (ns.map PyData.int) := fun H1 e Q q => h H1 e Q fun p H2 hp e2 h2 => q p _ H2 hp e2 h2 (.ints ns)
/-- a new list + a standing one -/
theorem evn_catNS {l : Addr} (h1 : EvN ta σ H ds) (h2 : Ev tb σ H (.ref l)) (hl : LD H l es) (hz : ds.length + es.length ≤ 100000) : EvN (tOp rCat ta tb) σ H (ds ++ es) := fun H1 e Q q =>
  h1 H1 e _ fun p0 xs H2 hp0 e2 h3 h4 => h2 H2 (e.trans e2) _ fun H3 e3 => by
    obtain ⟨ys, k1, k2⟩ := hl.mono ((e.trans e2).trans e3)
    refine ⟨p0, l, xs, ys, rfl, rfl, e3 p0 _ h3, k1, sz_of (by rw [h4.length, k2.length]; exact hz), fun r hr => ?_⟩
    exact q r _ _ (fresh_back (e2.trans e3) hr) ((e2.trans e3).trans (Ex.new hr)) upd_same (((h4.mono (ex_tx e3)).append k2).mono (ex_tx (Ex.new hr)))
/-- what is mixed up -/
def Mixd (B : Nat) (m g c : Addr) (ts : List Int) (H : Hp) (Q : VK) : Prop := ∀ (p : Addr) (us : List Int) (H' : Hp), H p = none → Mv m g H H' → H' p = some (.lst (us.map V.int)) → us.Perm ts → Bag (B + 100) H' m g c → Q (.ref p) H'
theorem mu_runN {ts : List Int} (hm : σ[0]? = some (some (.ref m))) (h : EvN tl σ H (ts.map PyData.int)) (hl : ts.length ≤ 100) (bag : Bag B H m gr c) (hB : B ≤ 900000) {Q : VK} (q : Mixd B m gr c ts H Q) : tCall sp_law_mixed_up [] E (tCons (tVar 0) (tCons tl tNil)) σ H Q :=
  ⟨_, hm, h H (Ex.refl H) _ fun p xs H1 hp e1 h1 t1 => by
    obtain rfl := t1.ints_inv
    exact ⟨B, m, gr, c, p, ts, rfl, bag.mono e1, hB, h1, hl, fun r us H2 hr v h2 pm b => q r us H2 (fresh_back e1 hr) ((exx_of e1).trans v) h2 pm b⟩⟩
theorem mu_runS {ts : List Int} {a : Addr} (hm : σ[0]? = some (some (.ref m))) (h : Ev tl σ H (.ref a)) (ha : H a = some (.lst (ts.map V.int))) (hl : ts.length ≤ 100) (bag : Bag B H m gr c) (hB : B ≤ 900000) {Q : VK} (q : Mixd B m gr c ts H Q) : tCall sp_law_mixed_up [] E (tCons (tVar 0) (tCons tl tNil)) σ H Q :=
  ⟨_, hm, h H (Ex.refl H) _ fun H1 e1 => ⟨B, m, gr, c, a, ts, rfl, bag.mono e1, hB, e1 _ _ ha, hl, fun r us H2 hr v h2 pm b => q r us H2 (fresh_back e1 hr) ((exx_of e1).trans v) h2 pm b⟩⟩
theorem q_asgMuN {i : Nat} {ts : List Int} (hm : σ[0]? = some (some (.ref m))) (h : EvN tl σ H (ts.map PyData.int)) (hl : ts.length ≤ 100) (bag : Bag B H m gr c) (hB : B ≤ 900000) (k : ∀ (p : Addr) (us : List Int) (H' : Hp), H p = none → Mv m gr H H' → H' p = some (.lst (us.map V.int)) → us.Perm ts → Bag (B + 100) H' m gr c → tz D (σ.set i (some (.ref p))) H') :
    tSeq (tAsg (tCall sp_law_mixed_up [] E (tCons (tVar 0) (tCons tl tNil))) (gName i)) tz D σ H := mu_runN hm h hl bag hB fun p us H' hp v h2 pm b => k p us H' hp v h2 pm b
/-- a test that may draw once -/
def EvM (t : TT) (σ : L2.St) (H : Hp) (m g c : Addr) (B : Nat) : Prop := ∀ Q : Bool → Hp → Prop, (∀ b H1, Mv m g H H1 → Bag (B + 1) H1 m g c → Q b H1) → t σ H Q
theorem q_likedMu {i : Nat} {t : TT} {ts : List Int} {a : Addr} (ht : EvM t σ H m gr c B) (hm : σ[0]? = some (some (.ref m))) (hi : σ[i]? = some (some (.ref a))) (hs : σ.set i (some (.ref a)) = σ) (na : ¬ (a = m ∨ a = gr ∨ a = c)) (ha : H a = some (.lst (ts.map V.int))) (hl : ts.length ≤ 100) (hB : B + 1 ≤ 900000)
    (k : ∀ (p : Addr) (us : List Int) (H' : Hp), ¬ (p = m ∨ p = gr ∨ p = c) → Mv m gr H H' → H' p = some (.lst (us.map V.int)) → us.Perm ts → Bag (B + 101) H' m gr c → tz D (σ.set i (some (.ref p))) H') :
    tSeq (tIfS t (tAsg (tCall sp_law_mixed_up [] E (tCons (tVar 0) (tCons (tVar i) tNil))) (gName i)) tNext) tz D σ H := ht _ fun b H1 v b1 => by
  have ha1 := v _ _ (not2 na) ha
  cases b with
  | true =>
    show tAsg (tCall sp_law_mixed_up [] E (tCons (tVar 0) (tCons (tVar i) tNil))) (gName i) { D with nx := tz D } σ H1
    exact mu_runS hm (ev_var hi) ha1 hl b1 (by omega) fun p us H2 hp v2 h2 pm b2 => k p us H2 (b1.far hp) (v.trans v2) h2 pm b2
  | false =>
    show tz D σ H1
    have := k a ts H1 na v ha1 (List.Perm.refl _) (b1.more (by omega))
    rw [hs] at this
    exact this
/-- cut = a draw, or len(rest) -/
theorem q_cutDr {i : Nat} {t : TT} {b : Bool} {top : Int} (ht : EvT t σ H b) (hm : σ[0]? = some (some (.ref m))) (hb : Ev tt σ H (.int top)) (ha : Ev ta σ H (.int (top - 1))) (bag : Bag B H m gr c) (hB : B ≤ 900000) (t0 : 0 < top) (t1 : top ≤ 1000) (k : ∀ r H1, 0 ≤ r → r < top → Mv m gr H H1 → Bag (B + 1) H1 m gr c → tz D (σ.set i (some (.int r))) H1) :
    tSeq (tAsg (tIf t (tCall sp_law_draw [] E (tCons (tVar 0) (tCons tt tNil))) ta) (gName i)) tz D σ H := ht H (Ex.refl H) _ fun H1 e1 => by
  cases b with
  | true =>
    show tCall sp_law_draw [] E (tCons (tVar 0) (tCons tt tNil)) σ H1 _
    exact dr_run hm (hb.mono e1) (bag.mono e1) (by omega) t0 t1 fun r H2 r0 r1 v b2 => k r H2 r0 r1 ((exx_of e1).trans v) b2
  | false =>
    show ta σ H1 _
    exact ha H1 e1 _ fun H2 e2 => k (top - 1) H2 (by omega) (by omega) (exx_of (e1.trans e2)) ((bag.mono (e1.trans e2)).more (by omega))
end
theorem cut_drop (xs : List V) {k : Int} (h0 : 0 ≤ k) (h1 : k ≤ xs.length) : cutV xs (some k) none = xs.drop k.toNat := by
  have e : ((k.toNat : Nat) : Int) = k := by omega
  have g : HT.sIx xs.length 0 (some ((k.toNat : Nat) : Int)) = min k.toNat xs.length := HT.sIx_nat _ _ _
  rw [e] at g
  unfold cutV
  rw [g, HT.sIx_none, Nat.min_eq_left (by omega), List.take_of_length_le (by rw [List.length_drop]; omega)]
theorem cut_take (xs : List V) {k : Int} (h0 : 0 ≤ k) (h1 : k ≤ xs.length) : cutV xs none (some k) = xs.take k.toNat := by
  have e : ((k.toNat : Nat) : Int) = k := by omega
  have g : HT.sIx xs.length xs.length (some ((k.toNat : Nat) : Int)) = min k.toNat xs.length := HT.sIx_nat _ _ _
  rw [e] at g
  unfold cutV
  rw [g, HT.sIx_none, List.drop_zero, Nat.sub_zero, Nat.min_eq_left (by omega)]
theorem pm_lists {n : Nat} {l rest liked : List Int} {k : Nat} (it : Its n l) (h1 : rest.Perm ((rng 0 (n : Int)).filter fun x => !decide (x ∈ l))) (h2 : liked.Perm l) : Pm n (rest.drop k ++ liked ++ rest.take k) := by
  have p1 : (rest.drop k ++ liked ++ rest.take k).Perm (rest ++ liked) := by
    refine List.Perm.trans (List.perm_append_comm) ?_
    rw [← List.append_assoc, List.take_append_drop]
  refine List.Perm.trans p1 (List.Perm.trans (List.Perm.append h1 h2) ?_)
  have nd : ((rng 0 (n : Int)).filter (fun x => !decide (x ∈ l)) ++ l).Nodup := List.nodup_append.mpr ⟨(rng_nodup _ _).filter _, it.1, fun a ha b hb e => by
    have := (List.mem_filter.mp ha).2
    rw [e, decide_eq_true hb] at this
    cases this⟩
  refine (List.perm_ext_iff_of_nodup nd (rng_nodup _ _)).mpr fun x => ?_
  rw [List.mem_append, List.mem_filter]
  constructor
  · rintro (h | h)
    · exact h.1
    · exact mem_rng.mpr (it.2 x h)
  · intro h
    by_cases hx : x ∈ l
    · exact .inr hx
    · exact .inl ⟨h, by rw [decide_eq_false hx] <;> rfl⟩
theorem Its.len {n : Nat} {l : List Int} (h : Its n l) : l.length ≤ n := by
  have := h.1.length_le_of_subset (l₂ := rng 0 (n : Int)) (fun x hx => mem_rng.mpr (h.2 x hx))
  rw [rng_length] at this
  omega
section
variable {P : Program} {w : World} {K : PySem.W.Frag} {mg : Str → Option Value} {base : Heap}
/-- _law_ring_lists -/
def sp_law_ring_lists : Sp := fun vs H Q _ => ∃ (B : Nat) (m g c hd : Addr) (n : Nat), vs = [.ref m, .int n, .ref hd] ∧ Bag B H m g c ∧ B ≤ 800000 ∧ 3 ≤ n ∧ n ≤ 6 ∧ Hld H m g c hd n ∧
  ∀ (v : V) (ls : List (List Int)) (H' : Hp), Mv m g H H' → Bag (B + 3000) H' m g c → TD H' v (dLs ls) → ls.length = n → (∀ l ∈ ls, Pm n l) → Q v H'
theorem ok_law_ring_lists (T : Top K mg) : FnOk P w K mg base CX0 4 T.f_law_ring_lists T.fd_law_ring_lists ["_law_m", "_law_many", "_law_held"] sp_law_ring_lists := by
  have G_law_draw := ok_law_draw (P := P) (w := w) (base := base) T
  have G_law_mixed_up := ok_law_mixed_up (P := P) (w := w) (base := base) T
  refine T.F_law_ring_lists.ok sc_law_ring_lists (fun vs H Q E h => ?_) (fun cdv A outer s H vs Q E hr h => ?_)
  · obtain ⟨B, m, g, c, hd, n, rfl, _⟩ := h
    rfl
  · obtain ⟨B, m, g, c, hd, n, rfl, bag, hB, n3, n6, hld, q⟩ := h
    refine ⟨_, PSs.nox (pss_cons (ps_par (i := 3) (j := 4) (by rfl) sc_law_ring_lists.nd rfl rfl (by decide) rfl rfl (pa_cons (pe_call G_law_draw (hr.mono (by decide)) (by rfl) T.g_law_draw T.kp_law_draw T.b_law_draw .nil pass0 (pa_cons (pv 0) (pa_cons pe_int pa_nil))) (pa_cons (pe_lst pa_nil) pa_nil)) (by rfl))
    (pss_cons (ps_for PassesOwn.never rfl (pi_range1 (by rfl) T.z_range (pa_cons (pv 1) pa_nil)) (pg_name (i := 5) sc_law_ring_lists.nd rfl (Or.inr rfl))
    (pss_cons (ps_set (i := 6) sc_law_ring_lists.nd rfl (Or.inl rfl) (pe_call G_law_mixed_up hr (by rfl) T.g_law_mixed_up T.kp_law_mixed_up T.b_law_mixed_up .nil pass0 (pa_cons (pv 0) (pa_cons (pe_lc (own := [("_law_thing", 9)]) (g := gName 9) rfl sc_law_ring_lists.nd (pi_range1 (by rfl) T.z_range (pa_cons (pv 1) pa_nil)) (blkOk_by (own := [("_law_thing", 9)]) (N := n_law_ring_lists) (sc := defScope s_law_ring_lists) (by decide +kernel)) (fun _ _ _ _ _ => (pg_name (i := 9) sc_law_ring_lists.nd rfl (Or.inl rfl))) (fun _ _ _ _ _ => (pts_one (pt_cmpR (opNotIn (K := K) rfl) (pv 9) (pe_ix (ixL (K := K) rfl) (pv 2) (pv 5) (fun _ _ => rfl)) rfl))) (fun _ _ _ _ _ => (pv 9))) pa_nil))))
    (pss_cons (ps_set (i := 7) sc_law_ring_lists.nd rfl (Or.inl rfl) (pe_revL (pe_ix ix_list (pv 2) (pv 5) (fun _ _ => rfl))))
    (pss_cons (ps_if (PW.pt (pw_or (pt_cmpR op_eq (pv 3) pe_int (nomark _)) (pw_or1 (PW.pt (pw_and (pt_cmpR op_eq (pv 3) pe_int (nomark _)) (pw_and1 (pt_cmpR op_eq (pe_call G_law_draw (hr.mono (by decide)) (by rfl) T.g_law_draw T.kp_law_draw T.b_law_draw .nil pass0 (pa_cons (pv 0) (pa_cons pe_int pa_nil))) pe_int (nomark _))))))))
    (pss_one (ps_set (i := 7) sc_law_ring_lists.nd rfl (Or.inl rfl) (pe_call G_law_mixed_up hr (by rfl) T.g_law_mixed_up T.kp_law_mixed_up T.b_law_mixed_up .nil pass0 (pa_cons (pv 0) (pa_cons (pv 7) pa_nil))))) pss_nil)
    (pss_cons (ps_set (i := 8) sc_law_ring_lists.nd rfl (Or.inl rfl) (pe_ifExp (pt_cmpR op_eq (pv 3) pe_int (nomark _)) (pe_call G_law_draw (hr.mono (by decide)) (by rfl) T.g_law_draw T.kp_law_draw T.b_law_draw .nil pass0 (pa_cons (pv 0) (pa_cons (pe_op op_add (pe_callB call_len_seq (by rfl) T.z_len bt_len (pa_cons (pv 6) pa_nil)) pe_int) pa_nil))) (pe_callB call_len_seq (by rfl) T.z_len bt_len (pa_cons (pv 6) pa_nil))))
    (pss_one (ps_expr (pe_bm PySem.F.plainAttrs_list PySem.F.slot_list_append PySem.F.type_list_append mt_append (pv 4) (pa_cons (pe_callTy call_tupF (by rfl) T.z_tuple bt_tuple (pa_cons (pe_op op_cat (pe_op op_cat (pe_slice sl_list (pv 6) (po_some (pv 8)) po_none) (pv 7)) (pe_slice sl_list (pv 6) po_none (po_some (pv 8)))) pa_nil)) pa_nil)))))))))
    (pss_one (ps_ret (pe_callTy call_tupF (by rfl) T.z_tuple bt_tuple (pa_cons (pv 4) pa_nil)))))), ?_⟩
    refine dr_run (top := 4) rfl ev_c bag (by omega) (by decide) (by decide) fun way H1 w0 w1 v1 bag1 => ?_
    refine ⟨sz_of (Nat.zero_le _), fun f hf => ?_⟩
    refine ⟨_, _, rfl, ?_⟩
    have e2 : Ex H1 (upd H1 f (.lst [])) := Ex.new hf
    have ff := bag1.far hf
    refine q_forR1 (n := (n : Int)) (ea_cons (ev_var rfl) ea_nil) (by omega)
      (fun i σ' H' => (∃ y5 y6 y7 y8, σ' = [some (.ref m), some (.int n), some (.ref hd), some (.int way), some (.ref f), y5, y6, y7, y8, none]) ∧ Mv m g H1 H' ∧ Bag (B + 1 + i * 202) H' m g c ∧ ∃ (xs : List V) (ls : List (List Int)), H' f = some (.lst xs) ∧ TDs H' xs (ls.map dT) ∧ ls.length = i ∧ ∀ l ∈ ls, Pm n l)
      (fun H3 e3 => ⟨⟨none, none, none, none, rfl⟩, exx_of (e2.trans e3), (bag1.mono (e2.trans e3)).more (by omega), [], [], e3 _ _ upd_same, .nil, rfl, fun l hl => nomatch hl⟩) (fun i σ' H' hi hP => ?_) (fun σ' H' hP => ?_)
    · obtain ⟨⟨y5, y6, y7, y8, rfl⟩, v3, bag3, xs, ls, hxs, txs, hlen, hpm⟩ := hP
      have hld3 := (hld.mv v1).mv v3
      obtain ⟨as, hs, k1, k2, k3, k4, k5, k6, k7⟩ := hld3
      obtain ⟨A, hA⟩ : ∃ A, as[i]? = some A := ⟨as[i]'(by omega), List.getElem?_eq_getElem _⟩
      obtain ⟨l, hl⟩ : ∃ l, hs[i]? = some l := ⟨hs[i]'(by omega), List.getElem?_eq_getElem _⟩
      have it := k7 _ (List.mem_of_getElem? hl)
      have itl := it.len
      have hAl := k6 i A l hA hl
      have nA := k5 A (List.mem_of_getElem? hA)
      have hdA : ∀ {H' : Hp} {σ : L2.St}, H' hd = some (.lst (as.map V.ref)) → σ[2]? = some (some (.ref hd)) → σ[5]? = some (some (.int (i : Int))) → Ev (tOp (rIxL K) (tVar 2) (tVar 5)) σ H' (.ref A) := fun {H' σ} hh s3 s6 => ev_op (ev_var s3) (ev_var s6) (rv_ixL (SqL.of hh) (at_map V.ref (atI_nat hA)))
      have lcv : EvN (tLc (iRng1 (tCons (tVar 1) tNil)) (gName 9) (tTest (tOp (rIn K true) (tVar 9) (tOp (rIxL K) (tVar 2) (tVar 5)))) (tVar 9) [9]) [some (.ref m), some (.int n), some (.ref hd), some (.int way), some (.ref f), some (.int (i : Int)), y6, y7, y8, none] H' (((rng 0 (n : Int)).filter fun x => !decide (x ∈ l)).map PyData.int) :=
        evn_lcR1 (hi := (n : Int)) (fun x => !decide (x ∈ l)) PyData.int (ea_cons (ev_var rfl) ea_nil) (by omega) (fun _ => rfl) (fun x H4 e4 x0 x1 => et_test (ev_is (ev_op (ev_var (v := .int x) rfl) (hdA (e4 _ _ k1) rfl rfl) (rv_niL (SqL.of (e4 _ _ hAl)) rfl (all_flat _))) (by rw [inV_ints]))) (fun x H4 e4 x0 x1 _ => evd_i (ev_var rfl))
      have flen : ((rng 0 (n : Int)).filter fun x => !decide (x ∈ l)).length ≤ n := by
        refine Nat.le_trans (List.length_filter_le _ _) ?_
        rw [rng_length]
        omega
      refine q_asgMuN rfl lcv (by omega) bag3 (by omega) fun rp rest H4 hrp v4 h4 pmr bag4 => ?_
      have k1' := v4 _ _ (not2 k4) k1
      have hAl' := v4 _ _ (not2 nA) hAl
      have frp := bag3.far hrp
      have lrest : rest.length ≤ n := by rw [pmr.length_eq]; exact flen
      -- liked
      refine hdA k1' rfl rfl H4 (Ex.refl _) _ fun H5 e5 => ⟨A, l.map V.int, rfl, SqL.of (e5 _ _ hAl'), fun lp hlp => ?_⟩
      have e6 : Ex H4 (upd H5 lp (.lst (l.map V.int).reverse)) := e5.trans (Ex.new hlp)
      have h6l : (upd H5 lp (.lst (l.map V.int).reverse)) lp = some (.lst (l.reverse.map V.int)) := by rw [upd_same, List.map_reverse]
      have bag6 := bag4.mono e6
      have flp := bag4.far (fresh_back e5 hlp)
      generalize upd H5 lp (.lst (l.map V.int).reverse) = H6 at e6 h6l bag6
      refine g_name ?_
      dsimp only
      have h6r := e6 _ _ h4
      refine q_likedMu (i := 7) (a := lp) (ts := l.reverse) (B := B + 1 + i * 202 + 100) (gr := g) (m := m) (c := c) ?_ (by rfl) (by rfl) (by rfl) flp h6l (by rw [List.length_reverse]; omega) (by omega) fun lk liked H7 flk v7 h7 pml bag7 => ?_
      · intro Q hQ
        refine et_test (ev_eqI (ev_var (v := .int way) rfl) (ev_c (v := .int 0))) H6 (Ex.refl _) _ fun H7 e7 => ?_
        by_cases hw : way = 0
        · rw [decide_eq_true hw]
          exact hQ true H7 (exx_of e7) ((bag6.mono e7).more (by omega))
        · rw [decide_eq_false hw]
          refine et_test (ev_eqI (ev_var (v := .int way) rfl) (ev_c (v := .int 3))) H7 (Ex.refl _) _ fun H8 e8 => ?_
          have e68 := e7.trans e8
          by_cases hw3 : way = 3
          · rw [decide_eq_true hw3]
            refine dr_run (top := 5) rfl ev_c (bag6.mono e68) (by omega) (by decide) (by decide) fun r H9 r0 r1 v9 b9 => ?_
            exact ⟨rfl, _, rfl, hQ _ H9 ((exx_of e68).trans v9) b9⟩
          · rw [decide_eq_false hw3]
            exact hQ false H8 (exx_of e68) ((bag6.mono e68).more (by omega))
      have h7r := v7 _ _ (not2 frp) h6r
      have lliked : liked.length ≤ n := by rw [pml.length_eq, List.length_reverse]; exact itl
      refine q_cutDr (b := decide (way = 1)) (top := (rest.length : Int) + 1) (et_test (ev_eqI (ev_var rfl) ev_c)) rfl (ev_bin (g := fun i j => .int (i + j)) (ev_lenLI (ev_var rfl) h7r) ev_c) (ev_is (ev_lenLI (ev_var rfl) h7r) (by congr 1; omega)) bag7 (by omega) (by omega) (by omega) fun cut H8 c0 c1 v8 bag8 => ?_
      have h8r := v8 _ _ (not2 frp) h7r
      have h8l := v8 _ _ (not2 flk) h7
      have v48 : Mv m g H' H8 := (v4.then e6).trans (v7.trans v8)
      have h8f : H8 f = some (.lst xs) := v48 _ _ (not2 ff) hxs
      have t8 := txs.mono (bag3.tx v48)
      have tup : EvD (tCB (rTupF K) (tCons (tOp rCat (tOp rCat (tSl (rSlL K) (tVar 6) (tPart (tVar 8)) tNoPart) (tVar 7)) (tSl (rSlL K) (tVar 6) tNoPart (tPart (tVar 8)))) tNil)) [some (.ref m), some (.int n), some (.ref hd), some (.int way), some (.ref f), some (.int (i : Int)), some (.ref rp), some (.ref lk), some (.int cut), none] H8 (dT (rest.drop cut.toNat ++ liked ++ rest.take cut.toNat)) := by
        have s1 := evn_ofL (ns := rest.drop cut.toNat) (σ := [some (.ref m), some (.int n), some (.ref hd), some (.int way), some (.ref f), some (.int (i : Int)), some (.ref rp), some (.ref lk), some (.int cut), none]) (H := H8) (te := tSl (rSlL K) (tVar 6) (tPart (tVar 8)) tNoPart) (by
          have := el_sl (K := K) (te := tVar 6) (a := rp) (σ := [some (.ref m), some (.int n), some (.ref hd), some (.int way), some (.ref f), some (.int (i : Int)), some (.ref rp), some (.ref lk), some (.int cut), none]) (H := H8) (ev_var rfl) (eo_some (ev_var (v := .int cut) (i := 8) rfl)) eo_none (SqL.of h8r)
          rw [cut_drop _ c0 (by rw [List.length_map]; omega), ← List.map_drop] at this
          exact this)
        have s2 := evn_ofL (ns := rest.take cut.toNat) (σ := [some (.ref m), some (.int n), some (.ref hd), some (.int way), some (.ref f), some (.int (i : Int)), some (.ref rp), some (.ref lk), some (.int cut), none]) (H := H8) (te := tSl (rSlL K) (tVar 6) tNoPart (tPart (tVar 8))) (by
          have := el_sl (K := K) (te := tVar 6) (a := rp) (σ := [some (.ref m), some (.int n), some (.ref hd), some (.int way), some (.ref f), some (.int (i : Int)), some (.ref rp), some (.ref lk), some (.int cut), none]) (H := H8) (ev_var rfl) eo_none (eo_some (ev_var (v := .int cut) (i := 8) rfl)) (SqL.of h8r)
          rw [cut_take _ c0 (by rw [List.length_map]; omega), ← List.map_take] at this
          exact this)
        have cat := evn_catNN (evn_catNS (es := liked.map PyData.int) s1 (ev_var (i := 7) rfl) ⟨_, h8l, .ints _⟩ (by rw [List.length_map, List.length_map, List.length_drop]; omega)) s2 (by rw [List.length_append, List.length_map, List.length_map, List.length_map, List.length_drop, List.length_take]; omega)
        refine evd_is (evd_tupN cat) ?_
        unfold dT
        rw [List.map_append, List.map_append]
      refine s_appD h8f (ev_var rfl) tup (by rw [t8.length, List.length_map]; omega) fun v H9 e9 tv => ?_
      have pmn : Pm n (rest.drop cut.toNat ++ liked ++ rest.take cut.toNat) := pm_lists it pmr (pml.trans (List.reverse_perm l))
      have tl9 : TX H9 (upd H9 f (.lst (xs ++ [v]))) := tx_lst (TX.refl _) (e9 _ _ h8f)
      refine ⟨⟨_, _, _, _, rfl⟩, ExX.mutF ((v3.trans v48).then e9) hf, Bag.put ((bag8.mono e9).more (by rw [Nat.succ_mul]; omega)) ff, xs ++ [v], ls ++ [rest.drop cut.toNat ++ liked ++ rest.take cut.toNat], upd_same, ?_, by rw [List.length_append, hlen] <;> rfl, fun l2 hl2 => ?_⟩
      · rw [List.map_append]
        exact ((t8.mono (ex_tx e9)).snoc tv).mono tl9
      · rcases List.mem_append.mp hl2 with z | z
        · exact hpm l2 z
        · rw [List.mem_singleton.mp z]
          exact pmn
    · obtain ⟨⟨y5, y6, y7, y8, rfl⟩, v3, bag3, xs, ls, hxs, txs, hlen, hpm⟩ := hP
      have e3 : (n : Int).toNat = n := by omega
      rw [e3] at bag3 hlen
      refine s_retD (d := dLs ls) (evd_tupL (ev_var (v := .ref f) rfl) ⟨xs, hxs, txs⟩) fun v H4 e4 tv => q v ls H4 ((v1.trans v3).then e4) ((bag3.more (by omega)).mono e4) tv hlen hpm
end
end K57
set_option Elab.async false
set_option linter.all false
set_option maxRecDepth 100000
set_option maxHeartbeats 4000000
/-! the law's reckoning along the ring -/
namespace K57
open PySem PySem.Spec PyProof.Rows L2 Evl R57
theorem at_gl {ls : List (List Int)} {w : Int} (h0 : 0 ≤ w) (h1 : w < ls.length) : atI ls w = some (gl ls w) := by
  have g := atI_nat (xs := ls) (j := w.toNat) (gl_get h0 h1)
  rwa [show ((w.toNat : Nat) : Int) = w by omega] at g
section
variable {K : PySem.W.Frag} {σ : L2.St} {H : Hp} {te ta tb tl tt to ti : TE} {D : L2.Ends} {tu tz : TS} {g : TG}
theorem q_setI {l : Addr} {ns : List Int} {j v : Int} (hl : H l = some (.lst (ns.map V.int))) (h : Ev te σ H (.int v)) (ho : Ev ta σ H (.ref l)) (hi : Ev tb σ H (.int j)) (j0 : 0 ≤ j) (j1 : j < ns.length) (k : ∀ H1, Ex H H1 → tz D σ (upd H1 l (.lst ((si ns j v).map V.int)))) :
    tSeq (tAsg te (gSub ta tb rSetL)) tz D σ H := s_setI (D := { D with nx := tz D }) hl h ho hi j0 j1 k
/-- (x,) * n -/
theorem evd_rep0 {n : Nat} (h : Ev tb σ H (.int n)) (h2 : 2 ≤ n) (h3 : n ≤ 1000) : EvD (tOp (rRepF K) (tTupF (tCons (tC (.int 0)) tNil)) tb) σ H (dT (List.replicate n 0)) := fun H1 e Q q =>
  ⟨sz_of (show 1 ≤ 100000 by decide), fun p o hp ho => by
    have e1 : Ex H1 (upd H1 p (.frz o (.tup [.int 0]))) := Ex.new hp
    refine h _ (e.trans e1) _ fun H2 e2 => ⟨p, (n : Int), [.int 0], rfl, rfl, ((TupAt.new ho).mono e2).sq, (by simp), by omega, by omega, (show 1 ≤ 1000 by decide), fun r o2 hr ho2 => ?_⟩
    refine q _ _ ((e1.trans e2).trans (Ex.new hr)) ?_
    rw [Int.toNat_natCast, rep_zero]
    exact .dT (.new ho2)⟩
/-- tuple(range(n)) -/
theorem evd_tupRg {n : Nat} (h : Ev tb σ H (.int n)) (h3 : n ≤ 1000) : EvD (tTupRgF (tRg1 tb)) σ H (dT (rng 0 (n : Int))) := fun H1 e Q q =>
  h H1 e _ fun H2 e2 => ⟨n, rfl, RgOk.of_le (by omega) (by omega) (by omega) (by omega), fun r o hr ho => by
    have er : rgV 0 (n : Int) = (rng 0 (n : Int)).map V.int := by
      unfold rgV rng
      rw [List.map_map] <;> rfl
    rw [er]
    exact q _ _ (e2.trans (Ex.new hr)) (.dT (.new ho))⟩
/-- for .. in a tuple of data; nothing changes -/
theorem q_forD {α : Type} (L : List α) (enc : α → PyData) (h : EvD tl σ H (.tuple (L.map enc))) (J : Nat → L2.St → Hp → Prop) (h0 : ∀ H1, Ex H H1 → J 0 σ H1)
    (hs : ∀ H1, Ex H H1 → ∀ i a v σ' H', L[i]? = some a → Ex H1 H' → J i σ' H' → TD H' v (enc a) → g v σ' H' fun σ2 H2 => tu { D with nx := fun σ3 H3 => Ex H1 H3 ∧ J (i + 1) σ3 H3, ct := fun σ3 H3 => Ex H1 H3 ∧ J (i + 1) σ3 H3, bk := tz D } σ2 H2)
    (hd : ∀ H1 σ' H', Ex H H1 → Ex H1 H' → J L.length σ' H' → tz D σ' H') : tSeq (tFor (iTup K tl) g tu) tz D σ H :=
  h H (Ex.refl H) _ fun v H1 e k => by
    obtain ⟨p, xs, rfl, h1, ts⟩ := k.tup_inv
    have hxl : xs.length = L.length := by rw [ts.length, List.length_map]
    refine ⟨p, rfl, ⟨xs, h1.sq⟩, for_it (D := { D with nx := tz D }) (walk_tup (xs := xs)) (fun i σ' H' => Ex H1 H' ∧ J i σ' H') ⟨Ex.refl _, h0 H1 e⟩ (fun i σ' H' _ q => (h1.mono q.1).sq) (fun i x σ' H' H2 hi q y => ?_) (fun σ' H' q => hd H1 σ' H' e q.1 (hxl ▸ q.2))⟩
    obtain ⟨rfl, hx⟩ := y
    have hi : i < L.length := by rw [← hxl]; exact hi
    obtain ⟨d, hd1, hd2⟩ := ts.getV hx
    rw [List.getElem?_map, List.getElem?_eq_getElem hi] at hd1
    obtain rfl := Option.some.inj hd1
    exact hs H1 e i L[i] x σ' _ (List.getElem?_eq_getElem hi) q.1 q.2 (hd2.mono (ex_tx q.1))
/-- for .. in a standing list of data; nothing changes -/
theorem q_forLD {α : Type} {a : Addr} (L : List α) (enc : α → PyData) (h : Ev tl σ H (.ref a)) (hl : LD H a (L.map enc)) (J : Nat → L2.St → Hp → Prop) (h0 : ∀ H1, Ex H H1 → J 0 σ H1)
    (hs : ∀ i a v σ' H', L[i]? = some a → Ex H H' → J i σ' H' → TD H' v (enc a) → g v σ' H' fun σ2 H2 => tu { D with nx := fun σ3 H3 => Ex H H3 ∧ J (i + 1) σ3 H3, ct := fun σ3 H3 => Ex H H3 ∧ J (i + 1) σ3 H3, bk := tz D } σ2 H2)
    (hd : ∀ σ' H', Ex H H' → J L.length σ' H' → tz D σ' H') : tSeq (tFor (iList K tl) g tu) tz D σ H :=
  h H (Ex.refl H) _ fun H1 e => by
    obtain ⟨xs, h1, ts⟩ := hl
    have hxl : xs.length = L.length := by rw [ts.length, List.length_map]
    refine ⟨a, rfl, ⟨xs, SqL.of (e _ _ h1)⟩, for_it (D := { D with nx := tz D }) (walk_list (xs := xs)) (fun i σ' H' => Ex H H' ∧ J i σ' H') ⟨e, h0 H1 e⟩ (fun i σ' H' _ q => SqL.of (q.1 _ _ h1)) (fun i x σ' H' H2 hi q y => ?_) (fun σ' H' q => hd σ' H' q.1 (hxl ▸ q.2))⟩
    obtain ⟨rfl, hx⟩ := y
    have hi : i < L.length := by rw [← hxl]; exact hi
    obtain ⟨d, hd1, hd2⟩ := ts.getV hx
    rw [List.getElem?_map, List.getElem?_eq_getElem hi] at hd1
    obtain rfl := Option.some.inj hd1
    exact hs i L[i] x σ' _ (List.getElem?_eq_getElem hi) q.1 q.2 (hd2.mono (ex_tx q.1))
end
section
variable {P : Program} {w : World} {K : PySem.W.Frag} {mg : Str → Option Value} {base : Heap}
/-- _law_likes_more -/
def sp_law_likes_more : Sp := fun vs H Q _ => ∃ (v : V) (ls : List (List Int)) (p a b : Int), vs = [v, .int p, .int a, .int b] ∧ TD H v (dLs ls) ∧ 0 ≤ p ∧ p < ls.length ∧ a ∈ gl ls p ∧ b ∈ gl ls p ∧ RetV (.bl (likesM ls p a b)) H Q
theorem ok_law_likes_more (T : Top K mg) : FnOk P w K mg base CX0 1 T.f_law_likes_more T.fd_law_likes_more ["_law_lists", "_law_who", "_law_thing", "_law_far"] sp_law_likes_more := by
  refine T.F_law_likes_more.ok sc_law_likes_more (fun vs H Q E h => ?_) (fun cdv A outer s H vs Q E hr h => ?_)
  · obtain ⟨v, ls, p, a, b, rfl, _⟩ := h
    rfl
  · obtain ⟨v, ls, p, a, b, rfl, t, p0, p1, ha, hb, q⟩ := h
    refine ⟨_, PSs.nox (pss_one (ps_ret (pe_cmpR op_lt (pe_bmT PySem.F.plainAttrs_tuple PySem.F.slot_tuple_index PySem.F.type_tuple_index mt_tidx (pe_ix ix_tup (pv 0) (pv 1) (fun _ _ => rfl)) (pa_cons (pv 2) pa_nil)) (pe_bmT PySem.F.plainAttrs_tuple PySem.F.slot_tuple_index PySem.F.type_tuple_index mt_tidx (pe_ix ix_tup (pv 0) (pv 1) (fun _ _ => rfl)) (pa_cons (pv 3) pa_nil)) (nomark _)))), ?_⟩
    have v0 := evd_var (σ := start n_law_likes_more [v, .int p, .int a, .int b]) (H := H) (n := 0) (v := v) rfl t
    have v1 := ev_var (σ := start n_law_likes_more [v, .int p, .int a, .int b]) (H := H) (i := 1) (v := .int p) rfl
    exact s_ret (ev_bin (g := fun i j => .bl (decide (i < j))) (ev_idx (evd_ixA dT v0 v1 (at_gl p0 p1)) (ev_var (v := .int a) rfl) ha) (ev_idx (evd_ixA dT v0 v1 (at_gl p0 p1)) (ev_var (v := .int b) rfl) hb)) q
theorem sv_likes {H : Hp} {v : V} {ls : List (List Int)} {p a b : Int} (t : TD H v (dLs ls)) (p0 : 0 ≤ p) (p1 : p < ls.length) (ha : a ∈ gl ls p) (hb : b ∈ gl ls p) : SpV sp_law_likes_more [v, .int p, .int a, .int b] H (.bl (likesM ls p a b)) := fun H1 e1 Q q E => ⟨v, ls, p, a, b, rfl, t.mono (ex_tx e1), p0, p1, ha, hb, q⟩
/-- _law_ring_may -/
def sp_law_ring_may : Sp := fun vs H Q _ => ∃ (v u : V) (ls : List (List Int)) (row : List Int) (p : Int), vs = [v, u, .int p] ∧ TD H v (dLs ls) ∧ TD H u (dT row) ∧ Rk ls ∧ Pm ls.length row ∧ 0 ≤ p ∧ p < ls.length ∧ RetV (.bl (may ls row p)) H Q
theorem ok_law_ring_may (T : Top K mg) : FnOk P w K mg base CX0 2 T.f_law_ring_may T.fd_law_ring_may ["_law_lists", "_law_row", "_law_at"] sp_law_ring_may := by
  have G_law_likes_more := ok_law_likes_more (P := P) (w := w) (base := base) T
  refine T.F_law_ring_may.ok sc_law_ring_may (fun vs H Q E h => ?_) (fun cdv A outer s H vs Q E hr h => ?_)
  · obtain ⟨v, u, ls, row, p, rfl, _⟩ := h
    rfl
  · obtain ⟨v, u, ls, row, p, rfl, t, tu, rk, pm, p0, p1, q⟩ := h
    refine ⟨_, PSs.nox (pss_cons (ps_set (i := 3) sc_law_ring_may.nd rfl (Or.inl rfl) (pe_op op_mod (pe_op op_add (pv 2) pe_int) (pe_callB call_len_seq (by rfl) T.z_len bt_len (pa_cons (pv 1) pa_nil))))
    (pss_one (ps_ret (pe_and (pe_call G_law_likes_more hr (by rfl) T.g_law_likes_more T.kp_law_likes_more T.b_law_likes_more .nil pass0 (pa_cons (pv 0) (pa_cons (pv 2) (pa_cons (pe_ix ix_tup (pv 1) (pv 3) (fun _ _ => rfl)) (pa_cons (pe_ix ix_tup (pv 1) (pv 2) (fun _ _ => rfl)) pa_nil))))) (pe_one (pe_call G_law_likes_more hr (by rfl) T.g_law_likes_more T.kp_law_likes_more T.b_law_likes_more .nil pass0 (pa_cons (pv 0) (pa_cons (pv 3) (pa_cons (pe_ix ix_tup (pv 1) (pv 2) (fun _ _ => rfl)) (pa_cons (pe_ix ix_tup (pv 1) (pv 3) (fun _ _ => rfl)) pa_nil)))))))))), ?_⟩
    have hl := pm.length
    have r1 := rk.one
    have nx := modn (n := row.length) (by omega) (p + 1)
    refine q_asg (v := .int (nxt row p)) (ev_binC (C := fun _ j => 0 < j) (g := fun i j => .int (i % j)) (ev_bin (g := fun i j => .int (i + j)) (ev_var (v := .int p) rfl) ev_c) (ev_lenTI (evd_var rfl tu)) (by omega)) fun H1 e1 => ?_
    have eq : nxt row p = (p + 1) % (row.length : Int) := rfl
    rw [← eq] at nx
    have t1 := t.mono (ex_tx e1)
    have me : ∀ x c : Int, 0 ≤ x → x < ls.length → 0 ≤ c → c < ls.length → gi row c ∈ gl ls x := fun x c x0 x1 c0 c1 => (rk.gl x0 x1).mem.mpr (pm.gi c0 c1)
    have v1 := evd_var (σ := [some v, some u, some (.int p), some (.int (nxt row p))]) (H := H1) (n := 1) (v := u) rfl (tu.mono (ex_tx e1))
    have vp := ev_var (σ := [some v, some u, some (.int p), some (.int (nxt row p))]) (H := H1) (i := 2) (v := .int p) rfl
    have vq := ev_var (σ := [some v, some u, some (.int p), some (.int (nxt row p))]) (H := H1) (i := 3) (v := .int (nxt row p)) rfl
    have xp := ev_ixTI (K := K) v1 vp p0 (by omega)
    have xq := ev_ixTI (K := K) v1 vq nx.1 nx.2
    exact s_ret (ev_andV (ev_call (vs := [v, .int p, .int (gi row (nxt row p)), .int (gi row p)]) (ea_cons (ev_var rfl) (ea_cons vp (ea_cons xq (ea_cons xp ea_nil)))) (sv_likes t1 p0 p1 (me _ _ p0 p1 nx.1 (by omega)) (me _ _ p0 p1 p0 p1))) fun _ =>
      ev_call (vs := [v, .int (nxt row p), .int (gi row p), .int (gi row (nxt row p))]) (ea_cons (ev_var rfl) (ea_cons vq (ea_cons xp (ea_cons xq ea_nil)))) (sv_likes t1 nx.1 (by omega) (me _ _ nx.1 (by omega) p0 p1) (me _ _ nx.1 (by omega) nx.1 (by omega)))) fun H2 e2 => q H2 (e1.trans e2)
theorem sv_may {H : Hp} {v u : V} {ls : List (List Int)} {row : List Int} {p : Int} (t : TD H v (dLs ls)) (tu : TD H u (dT row)) (rk : Rk ls) (pm : Pm ls.length row) (p0 : 0 ≤ p) (p1 : p < ls.length) : SpV sp_law_ring_may [v, u, .int p] H (.bl (may ls row p)) := fun H1 e1 Q q E => ⟨v, u, ls, row, p, rfl, t.mono (ex_tx e1), tu.mono (ex_tx e1), rk, pm, p0, p1, q⟩
/-- _law_ring_after -/
def sp_law_ring_after : Sp := fun vs H Q _ => ∃ (u v : V) (n : Nat) (row mv : List Int) (p : Int), vs = [u, v, .int p] ∧ TD H u (dT row) ∧ TD H v (dT mv) ∧ Pm n row ∧ mv.length = n ∧ 3 ≤ n ∧ n ≤ 100 ∧ 0 ≤ p ∧ p < n ∧ RetD (dPr (afterRow row p (nxt row p), afterMv row mv p (nxt row p))) H Q
theorem ok_law_ring_after (T : Top K mg) : FnOk P w K mg base CX0 1 T.f_law_ring_after T.fd_law_ring_after ["_law_row", "_law_moves", "_law_at"] sp_law_ring_after := by
  refine T.F_law_ring_after.ok sc_law_ring_after (fun vs H Q E h => ?_) (fun cdv A outer s H vs Q E hr h => ?_)
  · obtain ⟨u, v, n, row, mv, p, rfl, _⟩ := h
    rfl
  · obtain ⟨u, v, n, row, mv, p, rfl, tu, t, pm, ml, n3, n100, p0, p1, q⟩ := h
    refine ⟨_, PSs.nox (pss_cons (ps_par3 (i := 3) (j := 4) (l := 5) (by rfl) sc_law_ring_after.nd rfl rfl rfl (by decide) (by decide) (by decide) rfl rfl rfl (pa_cons (pe_op op_mod (pe_op op_add (pv 2) pe_int) (pe_callB call_len_seq (by rfl) T.z_len bt_len (pa_cons (pv 0) pa_nil))) (pa_cons (pe_callTy call_list_of (by rfl) T.z_list bt_list (pa_cons (pv 0) pa_nil)) (pa_cons (pe_callTy call_list_of (by rfl) T.z_list bt_list (pa_cons (pv 1) pa_nil)) pa_nil))) (by rfl))
    (pss_cons (ps_asg (pe_tupF (pa_cons (pe_ix ix_tup (pv 0) (pv 3) (fun _ _ => rfl)) (pa_cons (pe_ix ix_tup (pv 0) (pv 2) (fun _ _ => rfl)) pa_nil))) (pg_tup rfl (pgs_cons (pg_sub (pv 4) (pv 2) set_list) (pgs_cons (pg_sub (pv 4) (pv 3) set_list) pgs_nil))))
    (pss_cons (ps_asg (pe_op op_add (pe_ix ix_list (pv 5) (pe_ix ix_tup (pv 0) (pv 2) (fun _ _ => rfl)) (fun _ _ => rfl)) pe_int) (pg_sub (pv 5) (pe_ix ix_tup (pv 0) (pv 2) (fun _ _ => rfl)) set_list))
    (pss_cons (ps_asg (pe_op op_sub (pe_ix ix_list (pv 5) (pe_ix ix_tup (pv 0) (pv 3) (fun _ _ => rfl)) (fun _ _ => rfl)) pe_int) (pg_sub (pv 5) (pe_ix ix_tup (pv 0) (pv 3) (fun _ _ => rfl)) set_list))
    (pss_one (ps_ret (pe_tupF (pa_cons (pe_callTy call_tupF (by rfl) T.z_tuple bt_tuple (pa_cons (pv 4) pa_nil)) (pa_cons (pe_callTy call_tupF (by rfl) T.z_tuple bt_tuple (pa_cons (pv 5) pa_nil)) pa_nil))))))))), ?_⟩
    have hl := pm.length
    have nx := modn (n := row.length) (by omega) (p + 1)
    have eq : nxt row p = (p + 1) % (row.length : Int) := rfl
    rw [← eq] at nx
    refine q_par3VNN (v := .int (nxt row p)) (ev_binC (C := fun _ j => 0 < j) (g := fun i j => .int (i % j)) (ev_bin (g := fun i j => .int (i + j)) (ev_var (v := .int p) rfl) ev_c) (ev_lenTI (evd_var rfl tu)) (by omega)) (evn_listT (evd_var rfl tu)) (evn_listT (evd_var rfl t)) fun la sh xs ys H1 hla hsh nls e1 h1 t1 h2 t2 => ?_
    obtain rfl := t1.ints_inv
    obtain rfl := t2.ints_inv
    generalize nxt row p = np at nx q
    have tu0 : ∀ {H' : Hp}, Ex H H' → EvD (tVar 0) [some u, some v, some (.int p), some (.int np), some (.ref la), some (.ref sh)] H' (dT row) := fun {H'} e => evd_var rfl (tu.mono (ex_tx e))
    have gp := pm.gi p0 p1
    have gq := pm.gi nx.1 (by omega)
    have rp : ∀ {H' : Hp}, Ex H H' → Ev (tOp (rIxT K) (tVar 0) (tVar 2)) [some u, some v, some (.int p), some (.int np), some (.ref la), some (.ref sh)] H' (.int (gi row p)) := fun {H'} e => ev_ixTI (tu0 e) (ev_var rfl) p0 (by omega)
    have rq : ∀ {H' : Hp}, Ex H H' → Ev (tOp (rIxT K) (tVar 0) (tVar 3)) [some u, some v, some (.int p), some (.int np), some (.ref la), some (.ref sh)] H' (.int (gi row np)) := fun {H'} e => ev_ixTI (tu0 e) (ev_var rfl) nx.1 nx.2
    refine q_set2 (ns := row) (i := p) (j := np) (x := gi row np) (y := gi row p) h1 (rq e1) (rp e1) (fun H' _ _ => ev_var rfl) (fun H' => ev_var rfl) (fun H' => ev_var rfl) (fun H' => ev_var rfl) p0 (by omega) nx.1 nx.2 fun H2 x2 h2l => ?_
    have e2 : Ex H H2 := x2.back e1 (fun x hx => by rw [hx]; exact hla)
    have h2s := x2 sh _ (Ne.symm nls) h2
    generalize hgp : gi row p = a at gp h2l
    generalize hgq : gi row np = b at gq h2l
    have rp : ∀ {H' : Hp}, Ex H H' → Ev (tOp (rIxT K) (tVar 0) (tVar 2)) [some u, some v, some (.int p), some (.int np), some (.ref la), some (.ref sh)] H' (.int a) := fun {H'} e => hgp ▸ rp e
    have rq : ∀ {H' : Hp}, Ex H H' → Ev (tOp (rIxT K) (tVar 0) (tVar 3)) [some u, some v, some (.int p), some (.int np), some (.ref la), some (.ref sh)] H' (.int b) := fun {H'} e => hgq ▸ rq e
    refine q_setI (ns := mv) (j := a) (v := gi mv a + 1) h2s (ev_bin (g := fun i j => .int (i + j)) (ev_ixLI (ev_var rfl) h2s (rp e2) gp.1 (by omega)) ev_c) (ev_var rfl) (rp e2) gp.1 (by omega) fun H3 e3 => ?_
    have e23 := e2.trans e3
    generalize hm1 : si mv a (gi mv a + 1) = m1
    have m1l : m1.length = n := by rw [← hm1, si_length]; exact ml
    have e3' : Ex H (upd H3 sh (.lst (m1.map V.int))) := Ex.mut e23 hsh
    refine q_setI (ns := m1) (j := b) (v := gi m1 b - 1) upd_same (ev_bin (g := fun i j => .int (i - j)) (ev_ixLI (ev_var rfl) upd_same (rq e3') gq.1 (by omega)) ev_c) (ev_var rfl) (rq e3') gq.1 (by omega) fun H4 e4 => ?_
    have nla : la ≠ sh := nls
    have e4' : Ex H (upd H4 sh (.lst ((si m1 b (gi m1 b - 1)).map V.int))) := Ex.mut (e3'.trans e4) hsh
    have h4l : (upd H4 sh (.lst ((si m1 b (gi m1 b - 1)).map V.int))) la = some (.lst ((si (si row p b) np a).map V.int)) := by
      rw [upd_ne nla]
      refine e4 _ _ ?_
      rw [upd_ne nla]
      exact e3 _ _ h2l
    refine s_retD (d := dPr (afterRow row p np, afterMv row mv p np)) (evd_is (evd_tup (ds := [.tuple ((si (si row p b) np a).map PyData.int), .tuple ((si m1 b (gi m1 b - 1)).map PyData.int)]) (ead_cons (evd_tupL (ev_var (v := .ref la) rfl) ⟨_, h4l, .ints _⟩) (ead_cons (evd_tupL (ev_var (v := .ref sh) rfl) ⟨_, upd_same, .ints _⟩) ead_nil)) (by show 2 ≤ 1000; decide)) ?_) (q.mono e4')
    unfold dPr afterRow afterMv dT
    simp only [hgp, hgq, hm1]
/-- _law_ring_ended -/
def sp_law_ring_ended : Sp := fun vs H Q _ => ∃ (v : V) (d : List Int) (u : Int), vs = [v, .int u] ∧ TD H v (dT d) ∧ d ≠ [] ∧ RetV (.int (endC d u)) H Q
theorem ok_law_ring_ended (T : Top K mg) : FnOk P w K mg base CX0 1 T.f_law_ring_ended T.fd_law_ring_ended ["_law_moves", "_law_u"] sp_law_ring_ended := by
  refine T.F_law_ring_ended.ok sc_law_ring_ended (fun vs H Q E h => ?_) (fun cdv A outer s H vs Q E hr h => ?_)
  · obtain ⟨v, d, u, rfl, _⟩ := h
    rfl
  · obtain ⟨v, d, u, rfl, t, hd, q⟩ := h
    refine ⟨_, PSs.nox (pss_one (ps_ret (pe_op op_add (pv 1) (pe_ix ix_tup (pv 0) (pe_op op_mod (pv 1) (pe_callB call_len_seq (by rfl) T.z_len bt_len (pa_cons (pv 0) pa_nil))) (fun _ _ => rfl))))), ?_⟩
    have v0 := evd_var (σ := start n_law_ring_ended [v, .int u]) (H := H) (n := 0) (v := v) rfl t
    have v1 := ev_var (σ := start n_law_ring_ended [v, .int u]) (H := H) (i := 1) (v := .int u) rfl
    obtain ⟨m0, m1, m2⟩ := mod_in hd u
    exact s_ret (ev_bin v1 (ev_ixTI v0 (ev_binC v1 (ev_lenTI v0) m2) m0 m1)) q
theorem sv_ended {H : Hp} {v : V} {d : List Int} (u : Int) (t : TD H v (dT d)) (hd : d ≠ []) : SpV sp_law_ring_ended [v, .int u] H (.int (endC d u)) := fun H1 e1 Q q E => ⟨v, d, u, rfl, t.mono (ex_tx e1), hd, q⟩
theorem laterL_len (d : List Int) (u : Int) : (laterL d u).length ≤ 2 * d.length + 1 := by
  unfold laterL laterB
  refine Nat.le_trans (List.length_filter_le _ _) ?_
  rw [rng_length]
  omega
/-- _law_ring_pairs -/
def sp_law_ring_pairs : Sp := fun vs H Q _ => ∃ (v : V) (d : List Int), vs = [v] ∧ TD H v (dT d) ∧ d ≠ [] ∧ d.length ≤ 20 ∧ RetN ((invsL d).map d2) H Q
theorem ok_law_ring_pairs (T : Top K mg) : FnOk P w K mg base CX0 2 T.f_law_ring_pairs T.fd_law_ring_pairs ["_law_moves"] sp_law_ring_pairs := by
  have G_law_ring_ended := ok_law_ring_ended (P := P) (w := w) (base := base) T
  refine T.F_law_ring_pairs.ok sc_law_ring_pairs (fun vs H Q E h => ?_) (fun cdv A outer s H vs Q E hr h => ?_)
  · obtain ⟨v, d, rfl, _⟩ := h
    rfl
  · obtain ⟨v, d, rfl, t, hd, hl, q⟩ := h
    refine ⟨_, PSs.nox (pss_cons (ps_par (i := 1) (j := 2) (by rfl) sc_law_ring_pairs.nd rfl rfl (by decide) rfl rfl (pa_cons (pe_callB call_len_seq (by rfl) T.z_len bt_len (pa_cons (pv 0) pa_nil)) (pa_cons (pe_lst pa_nil) pa_nil)) (by rfl))
    (pss_cons (ps_for PassesOwn.never rfl (pi_range1 (by rfl) T.z_range (pa_cons (pv 1) pa_nil)) (pg_name (i := 3) sc_law_ring_pairs.nd rfl (Or.inr rfl))
    (pss_cons (ps_set (i := 4) sc_law_ring_pairs.nd rfl (Or.inr rfl) (pe_call G_law_ring_ended hr (by rfl) T.g_law_ring_ended T.kp_law_ring_ended T.b_law_ring_ended .nil pass0 (pa_cons (pv 0) (pa_cons (pv 3) pa_nil))))
    (pss_one (ps_set (i := 2) sc_law_ring_pairs.nd rfl (Or.inl rfl) (pe_op op_cat (pv 2) (pe_lc (own := [("_law_z", 5)]) (g := gName 5) rfl sc_law_ring_pairs.nd (pi_range2 (by rfl) T.z_range (pa_cons (pe_op op_add (pv 3) pe_int) (pa_cons (pe_op op_add (pe_op op_add (pv 3) (pe_op op_mul pe_int (pv 1))) pe_int) pa_nil))) (blkOk_by (own := [("_law_z", 5)]) (N := n_law_ring_pairs) (sc := defScope s_law_ring_pairs) (by decide +kernel)) (fun _ _ _ _ _ => (pg_name (i := 5) sc_law_ring_pairs.nd rfl (Or.inl rfl))) (fun _ _ _ _ _ => (pts_one (pt_cmpR op_lt (pe_call G_law_ring_ended hr (by rfl) T.g_law_ring_ended T.kp_law_ring_ended T.b_law_ring_ended .nil pass0 (pa_cons (pv 0) (pa_cons (pv 5) pa_nil))) (pv 4) (nomark _)))) (fun _ _ _ _ _ => (pe_tupF (pa_cons (pv 3) (pa_cons (pv 5) pa_nil))))))))))
    (pss_one (ps_ret (pv 2))))), ?_⟩
    have v0 := evd_var (σ := start n_law_ring_pairs [v]) (H := H) (n := 0) (v := v) rfl t
    refine q_parVN (v := .int (d.length : Nat)) (ev_lenTI v0) (evn_lst ead_nil (by decide)) fun p xs H1 hp e1 h1 ts => ?_
    obtain rfl := ts.nil_inv
    refine q_forR1 (n := (d.length : Int)) (ea_cons (ev_var rfl) ea_nil) (by omega)
      (fun i σ' H' => ∃ f, (∃ y3 y4, σ' = [some v, some (.int (d.length : Nat)), some (.ref f), y3, y4, none]) ∧ Ex H H' ∧ H f = none ∧ LD H' f ((((rng 0 (i : Int)).flatMap fun x => (laterL d x).map fun z => (x, z))).map d2))
      (fun H2 e2 => ⟨p, ⟨none, none, rfl⟩, e1.trans e2, hp, [], e2 _ _ h1, .nil⟩) (fun i σ' H' hi hP => ?_) (fun σ' H' hP => ?_)
    · obtain ⟨f, ⟨y3, y4, rfl⟩, ex, hf, ld⟩ := hP
      have hb := flat_le (fun x => (laterL d x).map fun z => (x, z)) (2 * d.length + 1) (rng 0 (i : Int)) fun x _ => by rw [List.length_map]; exact laterL_len d x
      rw [rng_length] at hb
      have hb2 : ((i : Int) - 0).toNat * (2 * d.length + 1) ≤ 20 * 41 := Nat.mul_le_mul (by omega) (by omega)
      refine q_asg (v := .int (endC d i)) (ev_call (vs := [v, .int (i : Int)]) (ea_cons (ev_var rfl) (ea_cons (ev_var rfl) ea_nil)) (sv_ended _ (t.mono (ex_tx ex)) hd)) fun H2 e2 => ?_
      have exx := ex.trans e2
      have new : EvN (tLc (iRng2 (tCons (tOp (rI0 fun i j => .int (i + j)) (tVar 3) (tC (.int 1))) (tCons (tOp (rI0 fun i j => .int (i + j)) (tOp (rI0 fun i j => .int (i + j)) (tVar 3) (tOp (rI CMul fun i j => .int (i * j)) (tC (.int 2)) (tVar 1))) (tC (.int 2))) tNil))) (gName 5)
          (tTest (tOp (rI0 fun i j => .bl (decide (i < j))) (tCall sp_law_ring_ended [] E0 (tCons (tVar 0) (tCons (tVar 5) tNil))) (tVar 4))) (tTupF (tCons (tVar 3) (tCons (tVar 5) tNil))) [5]) [some v, some (.int (d.length : Nat)), some (.ref f), some (.int (i : Int)), some (.int (endC d i)), none] H2 (((laterL d i).map fun z => ((i : Int), z)).map d2) := by
        rw [List.map_map]
        refine evn_lcR2 (lo := (i : Int) + 1) (hi := (i : Int) + 2 * (d.length : Int) + 2) (fun z => decide (endC d z < endC d i)) (fun z => d2 ((i : Int), z)) (ea_cons (ev_bin (ev_var rfl) ev_c) (ea_cons (ev_bin (g := fun i j => .int (i + j)) (ev_bin (g := fun i j => .int (i + j)) (ev_var rfl) (ev_binC (C := CMul) (g := fun i j => .int (i * j)) (ev_c (v := .int 2)) (ev_var (v := .int d.length) rfl) (.inl ⟨by decide, by decide⟩))) ev_c) ea_nil)) (by omega) (fun _ => rfl) (fun z H3 e3 z0 z1 => ?_) (fun z H3 e3 z0 z1 _ => ?_)
        · exact et_test (ev_bin (ev_call (vs := [v, .int z]) (ea_cons (ev_var rfl) (ea_cons (ev_var rfl) ea_nil)) (sv_ended z (t.mono (ex_tx (exx.trans e3))) hd)) (ev_var rfl))
        · exact evd_tup (ds := [.int (i : Int), .int z]) (ead_cons (evd_i (ev_var rfl)) (ead_cons (evd_i (ev_var rfl)) ead_nil)) (by show 2 ≤ 1000; decide)
      refine (evn_cat (ev_var (v := .ref f) rfl) (ld.mono e2) new (by rw [List.length_map, List.length_map, List.length_map]; have := laterL_len d (i : Int); omega)) H2 (Ex.refl _) _ fun r rs H3 hr3 e3 h3 ts3 => ?_
      refine ⟨r, ⟨_, _, rfl⟩, exx.trans e3, fresh_back exx hr3, rs, h3, ?_⟩
      have e4 : ((i + 1 : Nat) : Int) = (i : Int) + 1 := by omega
      rw [e4, rng_succ (by omega), List.flatMap_append, List.flatMap_singleton, List.map_append]
      exact ts3
    · obtain ⟨f, ⟨y3, y4, rfl⟩, ex, hf, ld⟩ := hP
      have e3 : (((d.length : Int).toNat : Nat) : Int) = (d.length : Int) := by omega
      rw [e3] at ld
      obtain ⟨xs, hx, txs⟩ := ld
      exact s_ret (ev_var (v := .ref f) rfl) fun H2 e2 => q f xs H2 hf (ex.trans e2) (e2 _ _ hx) (txs.mono (ex_tx e2))
theorem sn_pairs {H : Hp} {v : V} {d : List Int} (t : TD H v (dT d)) (hd : d ≠ []) (hl : d.length ≤ 20) {σ : L2.St} {ta : TA} {E : XK} (h : EvA ta σ H [v]) : EvN (tCall sp_law_ring_pairs [] E ta) σ H ((invsL d).map d2) :=
  fun H1 e Q q => h H1 e _ fun H2 e2 => ⟨v, d, rfl, t.mono (ex_tx (e.trans e2)), hd, hl, q.mono e2⟩
theorem invsL_len {d : List Int} (hl : d.length ≤ 20) : (invsL d).length ≤ 820 := by
  unfold invsL
  refine Nat.le_trans (flat_le (fun x => (laterL d x).map fun z => (x, z)) (2 * d.length + 1) _ fun x _ => by rw [List.length_map]; exact laterL_len d x) ?_
  rw [rng_length]
  exact Nat.mul_le_mul (show ((d.length : Int) - 0).toNat ≤ 20 by omega) (show 2 * d.length + 1 ≤ 41 by omega)
/-- _law_ring_triples -/
def sp_law_ring_triples : Sp := fun vs H Q _ => ∃ (v : V) (d : List Int), vs = [v] ∧ TD H v (dT d) ∧ d ≠ [] ∧ d.length ≤ 20 ∧ Small d ∧ RetN ((triplesL d).map d3) H Q
theorem ok_law_ring_triples (T : Top K mg) : FnOk P w K mg base CX0 3 T.f_law_ring_triples T.fd_law_ring_triples ["_law_moves"] sp_law_ring_triples := by
  have G_law_ring_ended := ok_law_ring_ended (P := P) (w := w) (base := base) T
  have G_law_ring_pairs := ok_law_ring_pairs (P := P) (w := w) (base := base) T
  refine T.F_law_ring_triples.ok sc_law_ring_triples (fun vs H Q E h => ?_) (fun cdv A outer s H vs Q E hr h => ?_)
  · obtain ⟨v, d, rfl, _⟩ := h
    rfl
  · obtain ⟨v, d, rfl, t, hd, hl, sm, q⟩ := h
    refine ⟨_, PSs.nox (pss_cons (ps_par (i := 1) (j := 2) (by rfl) sc_law_ring_triples.nd rfl rfl (by decide) rfl rfl (pa_cons (pe_callB call_len_seq (by rfl) T.z_len bt_len (pa_cons (pv 0) pa_nil)) (pa_cons (pe_lst pa_nil) pa_nil)) (by rfl))
    (pss_cons (ps_for PassesOwn.never rfl (pi_list (pe_call G_law_ring_pairs hr (by rfl) T.g_law_ring_pairs T.kp_law_ring_pairs T.b_law_ring_pairs .nil pass0 (pa_cons (pv 0) pa_nil))) (pg_tup rfl (pgs_cons (pg_name (i := 3) sc_law_ring_triples.nd rfl (Or.inr rfl)) (pgs_cons (pg_name (i := 4) sc_law_ring_triples.nd rfl (Or.inr rfl)) pgs_nil)))
    (pss_cons (ps_set (i := 5) sc_law_ring_triples.nd rfl (Or.inr rfl) (pe_call G_law_ring_ended (hr.mono (by decide)) (by rfl) T.g_law_ring_ended T.kp_law_ring_ended T.b_law_ring_ended .nil pass0 (pa_cons (pv 0) (pa_cons (pv 4) pa_nil))))
    (pss_one (ps_set (i := 2) sc_law_ring_triples.nd rfl (Or.inl rfl) (pe_op op_cat (pv 2) (pe_lc (own := [("_law_z", 6)]) (g := gName 6) rfl sc_law_ring_triples.nd (pi_range2 (by rfl) T.z_range (pa_cons (pe_op op_add (pv 4) pe_int) (pa_cons (pe_op op_add (pe_op op_add (pv 4) (pe_op op_mul pe_int (pv 1))) pe_int) pa_nil))) (blkOk_by (own := [("_law_z", 6)]) (N := n_law_ring_triples) (sc := defScope s_law_ring_triples) (by decide +kernel)) (fun _ _ _ _ _ => (pg_name (i := 6) sc_law_ring_triples.nd rfl (Or.inl rfl))) (fun _ _ _ _ _ => (pts_one (pt_cmpR op_lt (pe_call G_law_ring_ended (hr.mono (by decide)) (by rfl) T.g_law_ring_ended T.kp_law_ring_ended T.b_law_ring_ended .nil pass0 (pa_cons (pv 0) (pa_cons (pv 6) pa_nil))) (pv 5) (nomark _)))) (fun _ _ _ _ _ => (pe_tupF (pa_cons (pv 3) (pa_cons (pv 4) (pa_cons (pv 6) pa_nil)))))))))))
    (pss_one (ps_ret (pv 2))))), ?_⟩
    have v0 := evd_var (σ := start n_law_ring_triples [v]) (H := H) (n := 0) (v := v) rfl t
    refine q_parVN (v := .int (d.length : Nat)) (ev_lenTI v0) (evn_lst ead_nil (by decide)) fun p xs H1 hp e1 h1 ts => ?_
    obtain rfl := ts.nil_inv
    refine q_forN (invsL d) d2 (sn_pairs (t.mono (ex_tx e1)) hd hl (ea_cons (ev_var rfl) ea_nil))
      (fun i σ' H' => ∃ f, (∃ y3 y4 y5, σ' = [some v, some (.int (d.length : Nat)), some (.ref f), y3, y4, y5, none]) ∧ Ex H H' ∧ H f = none ∧ LD H' f ((((invsL d).take i).flatMap fun c => (laterL d c.2).map fun z => (c.1, c.2, z)).map d3))
      (fun H2 e2 => ⟨p, ⟨none, none, none, rfl⟩, e1.trans e2, hp, [], e2 _ _ h1, .nil⟩) (fun H2 e2 i a x σ' H' ha ex hP k => ?_) (fun H2 σ' H' e2 ex hP => ?_)
    · obtain ⟨f, ⟨y3, y4, y5, rfl⟩, exx, hf, ld⟩ := hP
      obtain ⟨x0, z0⟩ := a
      have hin := List.mem_of_getElem? ha
      rw [invs_same sm] at hin
      obtain ⟨m0, m1, m2, m3, m4⟩ := mem_invs.mp hin
      obtain ⟨xv, zv, tx, tz, g⟩ := g_tup2 (K := K) (σ := [some v, some (.int (d.length : Nat)), some (.ref f), y3, y4, y5, none]) (i := 3) (j := 4) (d1 := .int x0) (d2 := .int z0) k
      obtain rfl := tx.int_inv
      obtain rfl := tz.int_inv
      refine g _ ?_
      have hb := flat_le (fun c : Int × Int => (laterL d c.2).map fun z => (c.1, c.2, z)) (2 * d.length + 1) ((invsL d).take i) fun x _ => by rw [List.length_map]; exact laterL_len d _
      have hb2 : ((invsL d).take i).length * (2 * d.length + 1) ≤ 820 * 41 := Nat.mul_le_mul (Nat.le_trans (List.length_take_le' _ _) (invsL_len hl)) (by omega)
      refine q_asg (v := .int (endC d z0)) (ev_call (vs := [v, .int z0]) (ea_cons (ev_var rfl) (ea_cons (ev_var rfl) ea_nil)) (sv_ended _ (t.mono (ex_tx exx)) hd)) fun H3 e3 => ?_
      have ex3 := exx.trans e3
      have new : EvN (tLc (iRng2 (tCons (tOp (rI0 fun i j => .int (i + j)) (tVar 4) (tC (.int 1))) (tCons (tOp (rI0 fun i j => .int (i + j)) (tOp (rI0 fun i j => .int (i + j)) (tVar 4) (tOp (rI CMul fun i j => .int (i * j)) (tC (.int 2)) (tVar 1))) (tC (.int 2))) tNil))) (gName 6)
          (tTest (tOp (rI0 fun i j => .bl (decide (i < j))) (tCall sp_law_ring_ended [] E0 (tCons (tVar 0) (tCons (tVar 6) tNil))) (tVar 5))) (tTupF (tCons (tVar 3) (tCons (tVar 4) (tCons (tVar 6) tNil)))) [6]) [some v, some (.int (d.length : Nat)), some (.ref f), some (.int x0), some (.int z0), some (.int (endC d z0)), none] H3 (((laterL d z0).map fun z => (x0, z0, z)).map d3) := by
        rw [List.map_map]
        refine evn_lcR2 (lo := z0 + 1) (hi := z0 + 2 * (d.length : Int) + 2) (fun z => decide (endC d z < endC d z0)) (fun z => d3 (x0, z0, z)) (ea_cons (ev_bin (ev_var rfl) ev_c) (ea_cons (ev_bin (g := fun i j => .int (i + j)) (ev_bin (g := fun i j => .int (i + j)) (ev_var rfl) (ev_binC (C := CMul) (g := fun i j => .int (i * j)) (ev_c (v := .int 2)) (ev_var (v := .int d.length) rfl) (.inl ⟨by decide, by decide⟩))) ev_c) ea_nil)) (by omega) (fun _ => rfl) (fun z H4 e4 z0' z1 => ?_) (fun z H4 e4 z0' z1 _ => ?_)
        · exact et_test (ev_bin (ev_call (vs := [v, .int z]) (ea_cons (ev_var rfl) (ea_cons (ev_var rfl) ea_nil)) (sv_ended z (t.mono (ex_tx (ex3.trans e4))) hd)) (ev_var rfl))
        · exact evd_tup (ds := [.int x0, .int z0, .int z]) (ead_cons (evd_i (ev_var rfl)) (ead_cons (evd_i (ev_var rfl)) (ead_cons (evd_i (ev_var rfl)) ead_nil))) (by show 3 ≤ 1000; decide)
      refine (evn_cat (ev_var (v := .ref f) rfl) (ld.mono e3) new (by rw [List.length_map, List.length_map, List.length_map]; have := laterL_len d z0; omega)) H3 (Ex.refl _) _ fun r rs H4 hr4 e4 h4 ts4 => ?_
      refine ⟨ex.trans (e3.trans e4), r, ⟨_, _, _, rfl⟩, ex3.trans e4, fresh_back ex3 hr4, rs, h4, ?_⟩
      rw [List.take_succ, ha, List.flatMap_append, List.map_append]
      show TDs H4 rs (_ ++ ([(x0, z0)].flatMap _).map d3)
      rw [List.flatMap_singleton]
      exact ts4
    · obtain ⟨f, ⟨y3, y4, y5, rfl⟩, exx, hf, ld⟩ := hP
      rw [List.take_length] at ld
      obtain ⟨xs, hx, txs⟩ := ld
      exact s_ret (ev_var (v := .ref f) rfl) fun H3 e3 => q f xs H3 hf (exx.trans e3) (e3 _ _ hx) (txs.mono (ex_tx e3))
/-- _law_ring_place -/
def sp_law_ring_place : Sp := fun vs H Q _ => ∃ (v : V) (d : List Int) (x z : Int), vs = [v, .int x, .int z] ∧ TD H v (dT d) ∧ d ≠ [] ∧ -1000 ≤ x ∧ x ≤ 1000 ∧ -1000 ≤ z ∧ z ≤ 1000 ∧ RetV (.int (placeC d x z)) H Q
theorem ok_law_ring_place (T : Top K mg) : FnOk P w K mg base CX0 2 T.f_law_ring_place T.fd_law_ring_place ["_law_moves", "_law_x", "_law_z"] sp_law_ring_place := by
  have G_law_ring_ended := ok_law_ring_ended (P := P) (w := w) (base := base) T
  refine T.F_law_ring_place.ok sc_law_ring_place (fun vs H Q E h => ?_) (fun cdv A outer s H vs Q E hr h => ?_)
  · obtain ⟨v, d, x, z, rfl, _⟩ := h
    rfl
  · obtain ⟨v, d, x, z, rfl, t, hd, x0, x1, z0, z1, q⟩ := h
    refine ⟨_, PSs.nox (pss_one (ps_ret (pe_op op_mod (pe_op op_add (pv 1) (pe_callB call_len_seq (by rfl) T.z_len bt_len (pa_cons (pe_lc (own := [("_law_y", 3)]) (g := gName 3) rfl sc_law_ring_place.nd (pi_range2 (by rfl) T.z_range (pa_cons (pe_op op_add (pv 1) pe_int) (pa_cons (pv 2) pa_nil))) (blkOk_by (own := [("_law_y", 3)]) (N := n_law_ring_place) (sc := defScope s_law_ring_place) (by decide +kernel)) (fun _ _ _ _ _ => (pg_name (i := 3) sc_law_ring_place.nd rfl (Or.inl rfl))) (fun _ _ _ _ _ => (pts_one (pt_cmpR op_lt (pe_call G_law_ring_ended hr (by rfl) T.g_law_ring_ended T.kp_law_ring_ended T.b_law_ring_ended .nil pass0 (pa_cons (pv 0) (pa_cons (pv 3) pa_nil))) (pv 3) (nomark _)))) (fun _ _ _ _ _ => (pv 3))) pa_nil))) (pe_callB call_len_seq (by rfl) T.z_len bt_len (pa_cons (pv 0) pa_nil))))), ?_⟩
    obtain ⟨m0, m1, m2⟩ := mod_in hd 0
    have v0 := evd_var (σ := start n_law_ring_place [v, .int x, .int z]) (H := H) (n := 0) (v := v) rfl t
    have lc : EvN (tLc (iRng2 (tCons (tOp (rI0 fun i j => .int (i + j)) (tVar 1) (tC (.int 1))) (tCons (tVar 2) tNil))) (gName 3) (tTest (tOp (rI0 fun i j => .bl (decide (i < j))) (tCall sp_law_ring_ended [] E0 (tCons (tVar 0) (tCons (tVar 3) tNil))) (tVar 3))) (tVar 3) [3]) (start n_law_ring_place [v, .int x, .int z]) H (((rng (x + 1) z).filter fun y => decide (endC d y < y)).map PyData.int) :=
      evn_lcR2 (lo := x + 1) (hi := z) (fun y => decide (endC d y < y)) PyData.int (ea_cons (ev_bin (ev_var rfl) ev_c) (ea_cons (ev_var rfl) ea_nil)) (by omega) (fun _ => rfl) (fun y H2 e2 y0 y1 => et_test (ev_bin (ev_call (vs := [v, .int y]) (ea_cons (ev_var rfl) (ea_cons (ev_var rfl) ea_nil)) (sv_ended y (t.mono (ex_tx e2)) hd)) (ev_var rfl))) (fun y H2 e2 y0 y1 _ => evd_i (ev_var rfl))
    refine s_ret (ev_is (ev_binC (C := fun _ j => 0 < j) (g := fun i j => .int (i % j)) (ev_bin (g := fun i j => .int (i + j)) (ev_var (v := .int x) rfl) (ev_lenN lc)) (ev_lenTI v0) m2) ?_) q
    rw [List.length_map] <;> rfl
theorem sv_placeL {H : Hp} {v : V} {d : List Int} {x z : Int} (t : TD H v (dT d)) (hd : d ≠ []) (h : -1000 ≤ x ∧ x ≤ 1000 ∧ -1000 ≤ z ∧ z ≤ 1000) : SpV sp_law_ring_place [v, .int x, .int z] H (.int (placeC d x z)) := fun H1 e1 Q q E => ⟨v, d, x, z, rfl, t.mono (ex_tx e1), hd, h.1, h.2.1, h.2.2.1, h.2.2.2, q⟩
end
end K57
set_option Elab.async false
set_option linter.all false
set_option maxRecDepth 100000
set_option maxHeartbeats 4000000
/-! the law's refusals, run, choices, words -/
namespace K57
open PySem PySem.Spec PyProof.Rows L2 Evl R57
def dOL : Option (List Int) → PyData
  | none => .none
  | some l => dT l
theorem perm_dec_ints (d : List Int) : (triplesL d = []) ∨ ¬ (triplesL d = []) := Classical.em _
section
variable {P : Program} {w : World} {K : PySem.W.Frag} {mg : Str → Option Value} {base : Heap}
/-- _law_ring_refusals -/
def sp_law_ring_refusals : Sp := fun vs H Q _ => ∃ (v u : V) (ls : List (List Int)) (d : List Int), vs = [v, u] ∧ TD H v (dLs ls) ∧ TD H u (dT d) ∧ Rk ls ∧ d.length = ls.length ∧ d.length ≤ 20 ∧ Small d ∧ RetN ((refsL ls d).map d4) H Q
theorem refsP_len (ls : List (List Int)) (d : List Int) (x z : Int) : (refsP ls d x z).length ≤ 2 := by
  unfold refsP
  rw [List.length_append]
  split <;> split <;> simp
theorem ok_law_ring_refusals (T : Top K mg) : FnOk P w K mg base CX0 3 T.f_law_ring_refusals T.fd_law_ring_refusals ["_law_lists", "_law_moves"] sp_law_ring_refusals := by
  have G_law_ring_pairs := ok_law_ring_pairs (P := P) (w := w) (base := base) T
  have G_law_ring_place := ok_law_ring_place (P := P) (w := w) (base := base) T
  have G_law_likes_more := ok_law_likes_more (P := P) (w := w) (base := base) T
  refine T.F_law_ring_refusals.ok sc_law_ring_refusals (fun vs H Q E h => ?_) (fun cdv A outer s H vs Q E hr h => ?_)
  · obtain ⟨v, u, ls, d, rfl, _⟩ := h
    rfl
  · obtain ⟨v, u, ls, d, rfl, t, tu, rk, dl, d20, sm, q⟩ := h
    refine ⟨_, PSs.nox (pss_cons (ps_par (i := 2) (j := 3) (by rfl) sc_law_ring_refusals.nd rfl rfl (by decide) rfl rfl (pa_cons (pe_callB call_len_seq (by rfl) T.z_len bt_len (pa_cons (pv 1) pa_nil)) (pa_cons (pe_lst pa_nil) pa_nil)) (by rfl))
    (pss_cons (ps_for PassesOwn.never rfl (pi_list (pe_call G_law_ring_pairs hr (by rfl) T.g_law_ring_pairs T.kp_law_ring_pairs T.b_law_ring_pairs .nil pass0 (pa_cons (pv 1) pa_nil))) (pg_tup rfl (pgs_cons (pg_name (i := 4) sc_law_ring_refusals.nd rfl (Or.inl rfl)) (pgs_cons (pg_name (i := 5) sc_law_ring_refusals.nd rfl (Or.inl rfl)) pgs_nil)))
    (pss_cons (ps_set (i := 6) sc_law_ring_refusals.nd rfl (Or.inl rfl) (pe_call G_law_ring_place hr (by rfl) T.g_law_ring_place T.kp_law_ring_place T.b_law_ring_place .nil pass0 (pa_cons (pv 1) (pa_cons (pv 4) (pa_cons (pv 5) pa_nil)))))
    (pss_cons (ps_set (i := 7) sc_law_ring_refusals.nd rfl (Or.inl rfl) (pe_op op_mod (pe_op op_add (pv 6) pe_int) (pv 2)))
    (pss_cons (ps_if (pt_not (pt_val (pe_call G_law_likes_more (hr.mono (by decide)) (by rfl) T.g_law_likes_more T.kp_law_likes_more T.b_law_likes_more .nil pass0 (pa_cons (pv 0) (pa_cons (pv 6) (pa_cons (pe_op op_mod (pv 5) (pv 2)) (pa_cons (pe_op op_mod (pv 4) (pv 2)) pa_nil)))))))
    (pss_one (ps_expr (pe_bm PySem.F.plainAttrs_list PySem.F.slot_list_append PySem.F.type_list_append mt_append (pv 3) (pa_cons (pe_tupF (pa_cons (pv 6) (pa_cons (pv 4) (pa_cons (pv 5) (pa_cons (pv 6) pa_nil))))) pa_nil)))) pss_nil)
    (pss_one (ps_if (pt_not (pt_val (pe_call G_law_likes_more (hr.mono (by decide)) (by rfl) T.g_law_likes_more T.kp_law_likes_more T.b_law_likes_more .nil pass0 (pa_cons (pv 0) (pa_cons (pv 7) (pa_cons (pe_op op_mod (pv 4) (pv 2)) (pa_cons (pe_op op_mod (pv 5) (pv 2)) pa_nil)))))))
    (pss_one (ps_expr (pe_bm PySem.F.plainAttrs_list PySem.F.slot_list_append PySem.F.type_list_append mt_append (pv 3) (pa_cons (pe_tupF (pa_cons (pv 6) (pa_cons (pv 4) (pa_cons (pv 5) (pa_cons (pv 7) pa_nil))))) pa_nil)))) pss_nil))))))
    (pss_one (ps_ret (pv 3))))), ?_⟩
    have h1 := rk.one
    have hd : d ≠ [] := fun e => by rw [e] at dl; rw [← dl] at h1; exact absurd h1 (by decide)
    refine q_parVN (v := .int (d.length : Nat)) (ev_lenTI (evd_var rfl tu)) (evn_lst ead_nil (by decide)) fun p xs H1 hp e1 h1' ts => ?_
    obtain rfl := ts.nil_inv
    have hX : ∀ a, a = p → H a = none := fun a e => by rw [e]; exact hp
    refine q_forX (invsL d) d2 (fun a => a = p) (sn_pairs (tu.mono (ex_tx e1)) hd d20 (ea_cons (ev_var rfl) ea_nil)) (fun a ha => ⟨[], by rw [ha]; exact h1'⟩)
      (fun i σ' H' => (∃ y4 y5 y6 y7, σ' = [some v, some u, some (.int (d.length : Nat)), some (.ref p), y4, y5, y6, y7]) ∧ ∃ ys, H' p = some (.lst ys) ∧ TDs H' ys ((((invsL d).take i).flatMap fun c => refsP ls d c.1 c.2).map d4))
      (fun H2 e2 => ⟨⟨none, none, none, none, rfl⟩, [], e2 _ _ h1', .nil⟩) (fun H2 e2 nt i a x σ' H' ha ex hP k => ?_) (fun H2 σ' H' e2 ex hP => ?_)
    · obtain ⟨⟨y4, y5, y6, y7, rfl⟩, ys, hys, tys⟩ := hP
      obtain ⟨x0, z0⟩ := a
      have hin := List.mem_of_getElem? ha
      rw [invs_same sm] at hin
      obtain ⟨m0, m1, m2, m3, m4⟩ := mem_invs.mp hin
      obtain ⟨xv, zv, tx, tz, g⟩ := g_tup2 (K := K) (σ := [some v, some u, some (.int (d.length : Nat)), some (.ref p), y4, y5, y6, y7]) (i := 4) (j := 5) (d1 := .int x0) (d2 := .int z0) k
      obtain rfl := tx.int_inv
      obtain rfl := tz.int_inv
      refine g _ ?_
      have e0 : Ex H H' := ex.back (e1.trans e2) hX
      have hlen := tys.length
      rw [List.length_map] at hlen
      have hb := flat_le (fun c : Int × Int => refsP ls d c.1 c.2) 2 ((invsL d).take i) fun c _ => refsP_len ls d c.1 c.2
      have hb2 : ((invsL d).take i).length * 2 ≤ 820 * 2 := Nat.mul_le_mul_right 2 (Nat.le_trans (List.length_take_le' _ _) (invsL_len d20))
      refine q_asg (v := .int (placeC d x0 z0)) (ev_call (vs := [u, .int x0, .int z0]) (ea_cons (ev_var rfl) (ea_cons (ev_var rfl) (ea_cons (ev_var rfl) ea_nil))) (sv_placeL (tu.mono (ex_tx e0)) hd ⟨by omega, by omega, by omega, by omega⟩)) fun H3 e3 => ?_
      have n0 : 0 < d.length := by omega
      have pl : 0 ≤ placeC d x0 z0 ∧ placeC d x0 z0 < d.length := modn n0 _
      generalize hpp : placeC d x0 z0 = pp at pl
      have ql := modn n0 (pp + 1)
      generalize hqq : (pp + 1) % (d.length : Int) = qq at ql
      have xl := modn n0 x0
      have zl := modn n0 z0
      have me : ∀ {w c : Int}, 0 ≤ w ∧ w < d.length → 0 ≤ c ∧ c < d.length → c ∈ gl ls w := fun {w c} hw hc => (rk.gl hw.1 (by omega)).mem.mpr ⟨hc.1, by omega⟩
      refine q_asg (v := .int qq) (ev_is (ev_binC (C := fun _ j => 0 < j) (g := fun i j => .int (i % j)) (ev_bin (g := fun i j => .int (i + j)) (ev_var (v := .int pp) rfl) ev_c) (ev_var (v := .int d.length) rfl) (by omega)) (by rw [hqq])) fun H4 e4 => ?_
      have e04 := e0.trans (e3.trans e4)
      have e34 := e3.trans e4
      have lk : ∀ {H' : Hp} {tw t1 t2 : TE} {w a b : Int}, Ex H H' → 0 ≤ w ∧ w < d.length → 0 ≤ a ∧ a < d.length → 0 ≤ b ∧ b < d.length →
          Ev tw [some v, some u, some (.int (d.length : Nat)), some (.ref p), some (.int x0), some (.int z0), some (.int pp), some (.int qq)] H' (.int w) → Ev t1 [some v, some u, some (.int (d.length : Nat)), some (.ref p), some (.int x0), some (.int z0), some (.int pp), some (.int qq)] H' (.int a) →
          Ev t2 [some v, some u, some (.int (d.length : Nat)), some (.ref p), some (.int x0), some (.int z0), some (.int pp), some (.int qq)] H' (.int b) →
          Ev (tCall sp_law_likes_more [] E0 (tCons (tVar 0) (tCons tw (tCons t1 (tCons t2 tNil))))) [some v, some u, some (.int (d.length : Nat)), some (.ref p), some (.int x0), some (.int z0), some (.int pp), some (.int qq)] H' (.bl (likesM ls w a b)) := fun {H' tw t1 t2 w a b} e hw ha hb g1 g2 g3 =>
        ev_call (vs := [v, .int w, .int a, .int b]) (ea_cons (ev_var rfl) (ea_cons g1 (ea_cons g2 (ea_cons g3 ea_nil)))) (sv_likes (t.mono (ex_tx e)) hw.1 (by omega) (me hw ha) (me hw hb))
      have md : ∀ {H' : Hp} {ty : TE} {c : Int}, Ev ty [some v, some u, some (.int (d.length : Nat)), some (.ref p), some (.int x0), some (.int z0), some (.int pp), some (.int qq)] H' (.int c) →
          Ev (tOp (rI (fun _ j => 0 < j) fun i j => .int (i % j)) ty (tVar 2)) [some v, some u, some (.int (d.length : Nat)), some (.ref p), some (.int x0), some (.int z0), some (.int pp), some (.int qq)] H' (.int (c % (d.length : Int))) := fun {H' ty c} h3 => ev_binC h3 (ev_var rfl) (by omega)
      have four : ∀ {H' : Hp} {c : Int} {tl : TE}, Ev tl [some v, some u, some (.int (d.length : Nat)), some (.ref p), some (.int x0), some (.int z0), some (.int pp), some (.int qq)] H' (.int c) →
          EvD (tTupF (tCons (tVar 6) (tCons (tVar 4) (tCons (tVar 5) (tCons tl tNil))))) [some v, some u, some (.int (d.length : Nat)), some (.ref p), some (.int x0), some (.int z0), some (.int pp), some (.int qq)] H' (d4 (pp, x0, z0, c)) := fun {H' c tl} h3 =>
        evd_tup (ds := [.int pp, .int x0, .int z0, .int c]) (ead_cons (evd_i (ev_var rfl)) (ead_cons (evd_i (ev_var rfl)) (ead_cons (evd_i (ev_var rfl)) (ead_cons (evd_i h3) ead_nil)))) (by show 4 ≤ 1000; decide)
      refine q_whenApp (b := !likesM ls pp (z0 % (d.length : Int)) (x0 % (d.length : Int))) (et_not (et_B (lk e04 pl zl xl (ev_var rfl) (md (ev_var rfl)) (md (ev_var rfl))))) (ev_var rfl) (e34 _ _ hys) (tys.mono (ex_tx e34)) (fun _ => four (ev_var rfl)) (by omega) fun zs H5 x5 t5 h5 ts5 => ?_
      have e05 : Ex H H5 := x5.back e04 hX
      have l5 := ts5.length
      rw [List.length_append, List.length_map] at l5
      have l5b : (if (!likesM ls pp (z0 % (d.length : Int)) (x0 % (d.length : Int))) = true then [d4 (pp, x0, z0, pp)] else []).length ≤ 1 := by split <;> simp
      have fin : ∀ (us : List V) (H6 : Hp), ExX (fun a => a = p) H5 H6 → H6 p = some (.lst us) → TDs H6 us (((((invsL d).take i).flatMap fun c => refsP ls d c.1 c.2).map d4 ++ if (!likesM ls pp (z0 % (d.length : Int)) (x0 % (d.length : Int))) = true then [d4 (pp, x0, z0, pp)] else []) ++ if (!likesM ls qq (x0 % (d.length : Int)) (z0 % (d.length : Int))) = true then [d4 (pp, x0, z0, qq)] else []) →
          ExX (fun a => a = p) H2 H6 ∧ (∃ y4 y5 y6 y7, [some v, some u, some (.int (d.length : Nat)), some (.ref p), some (.int x0), some (.int z0), some (.int pp), some (.int qq)] = [some v, some u, some (.int (d.length : Nat)), some (.ref p), y4, y5, y6, y7]) ∧ ∃ ys, H6 p = some (.lst ys) ∧ TDs H6 ys ((((invsL d).take (i + 1)).flatMap fun c => refsP ls d c.1 c.2).map d4) := by
        intro us H6 x6 h6 ts6
        refine ⟨(ex.then e34).trans (x5.trans x6), ⟨_, _, _, _, rfl⟩, us, h6, ?_⟩
        rw [List.take_succ, ha, List.flatMap_append, List.map_append]
        show TDs H6 us (_ ++ ([(x0, z0)].flatMap _).map d4)
        rw [List.flatMap_singleton]
        have hre : (refsP ls d x0 z0).map d4 = (if (!likesM ls pp (z0 % (d.length : Int)) (x0 % (d.length : Int))) = true then [d4 (pp, x0, z0, pp)] else []) ++ (if (!likesM ls qq (x0 % (d.length : Int)) (z0 % (d.length : Int))) = true then [d4 (pp, x0, z0, qq)] else []) := by
          unfold refsP
          rw [hpp, hqq, List.map_append]
          congr 1
          · split <;> rfl
          · split <;> rfl
        show TDs H6 us (_ ++ (refsP ls d x0 z0).map d4)
        rw [hre, ← List.append_assoc]
        exact ts6
      refine et_not (et_B (lk e05 ql xl zl (ev_var rfl) (md (ev_var rfl)) (md (ev_var rfl)))) H5 (Ex.refl _) _ fun H6 e6 => ?_
      have ts6 := ts5.mono (ex_tx e6)
      have h6 := e6 _ _ h5
      cases hb2 : !likesM ls qq (x0 % (d.length : Int)) (z0 % (d.length : Int)) with
      | true =>
        rw [hb2, if_pos rfl] at fin
        refine s_appD h6 (ev_var rfl) (four (ev_var rfl)) (by omega) fun w2 H7 e7 tw => ?_
        have t7 : TX H7 (upd H7 p (.lst (zs ++ [w2]))) := tx_lst (TX.refl H7) (e7 _ _ h6)
        exact fin (zs ++ [w2]) _ ((exx_of (e6.trans e7)).put rfl) upd_same (((ts6.mono (ex_tx e7)).snoc tw).mono t7)
      | false =>
        rw [hb2, if_neg Bool.false_ne_true, List.append_nil] at fin
        exact fin zs H6 (exx_of e6) h6 ts6
    · obtain ⟨⟨y4, y5, y6, y7, rfl⟩, ys, hys, tys⟩ := hP
      rw [List.take_length] at tys
      exact s_ret (ev_var (v := .ref p) rfl) fun H3 e3 => q p ys H3 hp ((ex.back (e1.trans e2) hX).trans e3) (e3 _ _ hys) (tys.mono (ex_tx e3))
/-- _law_ring_run -/
def sp_law_ring_run : Sp := fun vs H Q _ => ∃ (v u : V) (ls : List (List Int)) (road : List Int), vs = [v, u] ∧ TD H v (dLs ls) ∧ TD H u (dT road) ∧ Rk ls ∧ 3 ≤ ls.length ∧ RetD (dOL (runL ls road (rng 0 (ls.length : Int)) (List.replicate ls.length 0))) H Q
theorem ok_law_ring_run (T : Top K mg) : FnOk P w K mg base CX0 3 T.f_law_ring_run T.fd_law_ring_run ["_law_lists", "_law_road"] sp_law_ring_run := by
  have G_law_ring_may := ok_law_ring_may (P := P) (w := w) (base := base) T
  have G_law_ring_after := ok_law_ring_after (P := P) (w := w) (base := base) T
  refine T.F_law_ring_run.ok sc_law_ring_run (fun vs H Q E h => ?_) (fun cdv A outer s H vs Q E hr h => ?_)
  · obtain ⟨v, u, ls, d, rfl, _⟩ := h
    rfl
  · obtain ⟨v, u, ls, road, rfl, t, tu, rk, n3, q⟩ := h
    refine ⟨_, PSs.nox (pss_cons (ps_set (i := 2) sc_law_ring_run.nd rfl (Or.inl rfl) (pe_callB call_len_seq (by rfl) T.z_len bt_len (pa_cons (pv 0) pa_nil)))
    (pss_cons (ps_par (i := 3) (j := 4) (by rfl) sc_law_ring_run.nd rfl rfl (by decide) rfl rfl (pa_cons (pe_tupRgF rfl (by rfl) T.z_tuple (prg_1 (by rfl) T.z_range (pv 2))) (pa_cons (pe_op op_repF (pe_tupF (pa_cons pe_int pa_nil)) (pv 2)) pa_nil)) (by rfl))
    (pss_cons (ps_if (pt_not (pt_val (pe_callB call_isi (by rfl) T.z_isinstance bt_isinstance (pa_cons (pv 1) (pa_cons (pe_bltn (v := V.ty "tuple") (by rfl) T.z_tuple bt_tuple rfl) pa_nil)))))
    (pss_one (ps_ret pe_non)) pss_nil)
    (pss_cons (ps_for PassesOwn.never rfl (pi_tup (pv 1)) (pg_name (i := 5) sc_law_ring_run.nd rfl (Or.inl rfl))
    (pss_cons (ps_if (PW.pt (pw_or (pt_not (pt_val (pe_callB call_isi (by rfl) T.z_isinstance bt_isinstance (pa_cons (pv 5) (pa_cons (pe_bltn (v := V.ty "int") (by rfl) T.z_int bt_int rfl) pa_nil))))) (pw_or (pt_val (pe_callB call_isi (by rfl) T.z_isinstance bt_isinstance (pa_cons (pv 5) (pa_cons (pe_bltn (v := V.ty "bool") (by rfl) T.z_bool bt_bool rfl) pa_nil)))) (pw_or (pt_not (pt_chain op_le op_lt pe_int (pv 5) (pv 2))) (pw_or1 (pt_not (pt_val (pe_call G_law_ring_may hr (by rfl) T.g_law_ring_may T.kp_law_ring_may T.b_law_ring_may .nil pass0 (pa_cons (pv 0) (pa_cons (pv 3) (pa_cons (pv 5) pa_nil)))))))))))
    (pss_one (ps_ret pe_non)) pss_nil)
    (pss_one (ps_asg (pe_call G_law_ring_after (hr.mono (by decide)) (by rfl) T.g_law_ring_after T.kp_law_ring_after T.b_law_ring_after .nil pass0 (pa_cons (pv 3) (pa_cons (pv 4) (pa_cons (pv 5) pa_nil)))) (pg_tup rfl (pgs_cons (pg_name (i := 3) sc_law_ring_run.nd rfl (Or.inl rfl)) (pgs_cons (pg_name (i := 4) sc_law_ring_run.nd rfl (Or.inl rfl)) pgs_nil)))))))
    (pss_one (ps_ret (pv 4))))))), ?_⟩
    have n40 := rk.few
    generalize hR : runL ls road (rng 0 (ls.length : Int)) (List.replicate ls.length 0) = R at q
    refine q_asg (v := .int (ls.length : Nat)) (ev_is (ev_lenT (evd_var rfl t)) (by rw [List.length_map])) fun H1 e1 => ?_
    refine q_parD (d1 := dT (rng 0 (ls.length : Int))) (d2 := dT (List.replicate ls.length 0)) (ead_cons (evd_tupRg (ev_var rfl) (by omega)) (ead_cons (evd_rep0 (ev_var rfl) (by omega) (by omega)) ead_nil)) fun rv mv H2 e2 trv tmv => ?_
    have e12 := e1.trans e2
    refine q_when (b := false) (et_not (a := true) (et_B (evd_isiT (evd_var rfl (tu.mono (ex_tx e12))) (by decide +kernel)))) (fun h => nomatch h) fun _ H3 e3 => ?_
    have e13 := e12.trans e3
    refine q_forD road PyData.int (evd_var rfl (tu.mono (ex_tx e13))) (fun i σ' H' => ∃ (rv mv : V) (row mvs : List Int), (∃ y5, σ' = [some v, some u, some (.int (ls.length : Nat)), some rv, some mv, y5]) ∧ TD H' rv (dT row) ∧ TD H' mv (dT mvs) ∧ Pm ls.length row ∧ mvs.length = ls.length ∧ runL ls (road.drop i) row mvs = R)
      (fun H4 e4 => ⟨rv, mv, _, _, ⟨none, rfl⟩, trv.mono (ex_tx (e3.trans e4)), tmv.mono (ex_tx (e3.trans e4)), List.Perm.refl _, List.length_replicate, hR⟩) (fun H4 e4 i a x σ' H' ha ex hP k => ?_) (fun H4 σ' H' e4 ex hP => ?_)
    · obtain ⟨rv', mv', row, mvs, ⟨y5, rfl⟩, tr, tm, pm, ml, hrun⟩ := hP
      obtain rfl := k.int_inv
      have hi := (List.getElem?_eq_some_iff.mp ha).1
      have hdrop : road.drop i = a :: road.drop (i + 1) := by
        rw [List.drop_eq_getElem_cons hi]
        congr 1
        exact (List.getElem?_eq_some_iff.mp ha).2
      rw [hdrop] at hrun
      unfold runL at hrun
      have e04 := (e13.trans e4).trans ex
      have va : ∀ {H' : Hp}, Ev (tVar 5) [some v, some u, some (.int (ls.length : Nat)), some rv', some mv', some (.int a)] H' (.int a) := fun {H'} => ev_var rfl
      refine g_name ?_
      dsimp only
      by_cases hin : 0 ≤ a ∧ a < ls.length
      · rw [decide_eq_true hin.1, decide_eq_true hin.2, Bool.true_and, Bool.true_and] at hrun
        refine q_when (b := !may ls row a) (et_or (a := false) (et_not (a := true) (et_B (evd_isiI (b := true) va (by decide +kernel)))) fun _ => et_or (a := false) (et_B (evd_isiI (b := false) va (by decide +kernel))) fun _ => et_or (a := false) (et_not (a := true) (et_test (ev_is (ev_chain (ev_c (v := .int 0)) va rv_I0 (ev_var (v := .int (ls.length : Nat)) rfl) rv_I0) ?_))) fun _ =>
          et_not (et_B (ev_call (vs := [v, rv', .int a]) (ea_cons (ev_var rfl) (ea_cons (ev_var rfl) (ea_cons va ea_nil))) (sv_may (t.mono (ex_tx e04)) tr rk pm hin.1 hin.2)))) (fun hb H5 e5 => ?_) (fun hb H5 e5 => ?_)
        · rw [decide_eq_true hin.1, decide_eq_true hin.2] <;> rfl
        · have hb2 : may ls row a = false := by
            cases hm : may ls row a with
            | false => rfl
            | true => rw [hm] at hb; cases hb
          rw [hb2, if_neg Bool.false_ne_true] at hrun
          rw [← hrun] at q
          exact s_retD (evd_of ev_c .non) (q.mono (e04.trans e5))
        · have hb2 : may ls row a = true := by
            cases hm : may ls row a with
            | true => rfl
            | false => rw [hm] at hb; cases hb
          rw [hb2, if_pos rfl] at hrun
          have call : EvD (tCall sp_law_ring_after [] E0 (tCons (tVar 3) (tCons (tVar 4) (tCons (tVar 5) tNil)))) [some v, some u, some (.int (ls.length : Nat)), some rv', some mv', some (.int a)] H5 (.tuple [dT (afterRow row a (nxt row a)), dT (afterMv row mvs a (nxt row a))]) :=
            evd_callV (vs := [rv', mv', .int a]) (ea_cons (ev_var rfl) (ea_cons (ev_var rfl) (ea_cons va ea_nil))) fun H6 e6 Q E q => ⟨rv', mv', ls.length, row, mvs, a, rfl, tr.mono (ex_tx (e5.trans e6)), tm.mono (ex_tx (e5.trans e6)), pm, ml, n3, by omega, hin.1, hin.2, q⟩
          refine call H5 (Ex.refl _) _ fun z H6 e6 tz => ?_
          obtain ⟨v1, v2, t1, t2, g⟩ := g_tup2 (K := K) (σ := [some v, some u, some (.int (ls.length : Nat)), some rv', some mv', some (.int a)]) (i := 3) (j := 4) tz
          refine g _ ⟨ex.trans (e5.trans e6), v1, v2, _, _, ⟨_, rfl⟩, t1, t2, ?_, ?_, hrun⟩
          · have hl := pm.length
            have nx : 0 ≤ nxt row a ∧ nxt row a < row.length := modn (n := row.length) (by omega) (a + 1)
            refine pm.after hin.1 hin.2 nx.1 (by omega) fun e => ?_
            have e' : a = (a + 1) % (row.length : Int) := e
            by_cases h1 : a + 1 < row.length
            · rw [Int.emod_eq_of_lt (by omega) h1] at e'
              omega
            · have h2 : a + 1 = row.length := by omega
              rw [h2, Int.emod_self] at e'
              omega
          · unfold afterMv
            simp only [si_length]
            exact ml
      · have hc : (decide (0 ≤ a) && (decide (a < (ls.length : Int)) && may ls row a)) = false := by
          by_cases h0 : 0 ≤ a
          · have h1 : ¬ a < ls.length := fun z => hin ⟨h0, z⟩
            rw [decide_eq_false h1, Bool.false_and, Bool.and_false]
          · rw [decide_eq_false h0, Bool.false_and]
        rw [hc, if_neg Bool.false_ne_true] at hrun
        have hch : (decide (0 ≤ a) && decide (a < (ls.length : Int))) = false := by
          by_cases h0 : 0 ≤ a
          · have h1 : ¬ a < ls.length := fun z => hin ⟨h0, z⟩
            rw [decide_eq_false h1, Bool.and_false]
          · rw [decide_eq_false h0, Bool.false_and]
        refine q_when (b := true) (et_or (a := false) (et_not (a := true) (et_B (evd_isiI (b := true) va (by decide +kernel)))) fun _ => et_or (a := false) (et_B (evd_isiI (b := false) va (by decide +kernel))) fun _ => et_or (a := true) (b := false) (et_not (a := false) (et_test (ev_is (ev_chain (ev_c (v := .int 0)) va rv_I0 (ev_var (v := .int (ls.length : Nat)) rfl) rv_I0) ?_))) fun h => nomatch h) (fun _ H5 e5 => ?_) (fun h => nomatch h)
        · rw [hch]
        · rw [← hrun] at q
          exact s_retD (evd_of ev_c .non) (q.mono (e04.trans e5))
    · obtain ⟨rv', mv', row, mvs, ⟨y5, rfl⟩, tr, tm, pm, ml, hrun⟩ := hP
      rw [List.drop_length] at hrun
      have e : some mvs = R := hrun
      rw [← e] at q
      exact s_retD (evd_var (v := mv') rfl tm) (q.mono ((e13.trans e4).trans ex))
/-- _law_ring_choices -/
def sp_law_ring_choices : Sp := fun vs H Q _ => ∃ (v : V) (row : List Int), vs = [v] ∧ TD H v (dT row) ∧ row.length ≤ 6 ∧ Pm row.length row ∧ RetN ((options row).map dT) H Q
theorem ok_law_ring_choices (T : Top K mg) : FnOk P w K mg base CX0 1 T.f_law_ring_choices T.fd_law_ring_choices ["_law_row"] sp_law_ring_choices := by
  refine T.F_law_ring_choices.ok sc_law_ring_choices (fun vs H Q E h => ?_) (fun cdv A outer s H vs Q E hr h => ?_)
  · obtain ⟨v, d, rfl, _⟩ := h
    rfl
  · obtain ⟨v, row, rfl, t, hn6, pm, q⟩ := h
    refine ⟨_, PSs.nox (pss_cons (ps_par (i := 1) (j := 2) (by rfl) sc_law_ring_choices.nd rfl rfl (by decide) rfl rfl (pa_cons (pe_callB call_len_seq (by rfl) T.z_len bt_len (pa_cons (pv 0) pa_nil)) (pa_cons (pe_lst (pa_cons (pe_tupF pa_nil) pa_nil)) pa_nil)) (by rfl))
    (pss_cons (ps_for PassesOwn.never rfl (pi_range1 (by rfl) T.z_range (pa_cons (pv 1) pa_nil)) (pg_name (i := 3) sc_law_ring_choices.nd rfl (Or.inl rfl))
    (pss_cons (ps_set (i := 4) sc_law_ring_choices.nd rfl (Or.inl rfl) (pe_op op_sub (pe_bmT PySem.F.plainAttrs_tuple PySem.F.slot_tuple_index PySem.F.type_tuple_index mt_tidx (pv 0) (pa_cons (pv 3) pa_nil)) (pv 3)))
    (pss_cons (ps_set (i := 5) sc_law_ring_choices.nd rfl (Or.inl rfl) (pe_ifExp (pt_cmpR op_gt (pv 4) pe_int (nomark _)) (pe_op op_sub (pv 4) (pv 1)) (pe_op op_add (pv 4) (pv 1))))
    (pss_cons (ps_set (i := 6) sc_law_ring_choices.nd rfl (Or.inl rfl) (pe_ifExp (pt_cmpR op_eq (pv 4) pe_int (nomark _)) (pe_lst (pa_cons pe_int pa_nil)) (pe_callB cr_sorted (by rfl) T.z_sorted bt_sorted (pa_cons (pe_lst (pa_cons (pv 4) (pa_cons (pv 5) pa_nil))) pa_nil))))
    (pss_cons (ps_set (i := 7) sc_law_ring_choices.nd rfl (Or.inl rfl) (pe_lst pa_nil))
    (pss_cons (ps_for PassesOwn.never rfl (pi_list (pv 2)) (pg_name (i := 8) sc_law_ring_choices.nd rfl (Or.inr rfl))
    (pss_one (ps_set (i := 7) sc_law_ring_choices.nd rfl (Or.inl rfl) (pe_op op_cat (pv 7) (pe_lc (own := [("_law_one", 9)]) (g := gName 9) rfl sc_law_ring_choices.nd (pi_list (pv 6)) (blkOk_by (own := [("_law_one", 9)]) (N := n_law_ring_choices) (sc := defScope s_law_ring_choices) (by decide +kernel)) (fun _ _ _ _ _ => (pg_name (i := 9) sc_law_ring_choices.nd rfl (Or.inl rfl))) (fun _ _ _ _ _ => pts_nil) (fun _ _ _ _ _ => (pe_op (opCatF (K := K) rfl) (pv 8) (pe_tupF (pa_cons (pv 9) pa_nil)))))))))
    (pss_one (ps_set (i := 2) sc_law_ring_choices.nd rfl (Or.inl rfl) (pv 7)))))))))
    (pss_one (ps_ret (pe_lc (own := [("_law_moves", 10)]) (g := gName 10) rfl sc_law_ring_choices.nd (pi_list (pv 2)) (blkOk_by (own := [("_law_moves", 10)]) (N := n_law_ring_choices) (sc := defScope s_law_ring_choices) (by decide +kernel)) (fun _ _ _ _ _ => (pg_name (i := 10) sc_law_ring_choices.nd rfl (Or.inl rfl))) (fun _ _ _ _ _ => (pts_one (pt_cmpR op_eq (pe_callB (crTsum (K := K) rfl rfl) (by rfl) T.z_sum bt_sum (pa_cons (pv 10) pa_nil)) pe_int (nomark _)))) (fun _ _ _ _ _ => (pv 10))))))), ?_⟩
    have v0 := evd_var (σ := start n_law_ring_choices [v]) (H := H) (n := 0) (v := v) rfl t
    generalize hn : row.length = n at *
    refine q_parVN (v := .int (n : Int)) (ev_is (ev_lenTI v0) (by rw [hn])) (evn_lst (ds := [dT []]) (ead_cons (evd_tup ead_nil (by decide)) ead_nil) (by show 1 ≤ 1000; decide)) fun p xs H1 hp e1 h1 ts => ?_
    refine q_forR1 (n := (n : Int)) (ea_cons (ev_var rfl) ea_nil) (by omega)
      (fun i σ' H' => ∃ f, (∃ y3 y4 y5 y6 y7 y8, σ' = [some v, some (.int n), some (.ref f), y3, y4, y5, y6, y7, y8, none, none]) ∧ Ex H H' ∧ H f = none ∧ LD H' f ((optsFrom row n (rng 0 (i : Int)) [[]]).map dT))
      (fun H2 e2 => ⟨p, ⟨none, none, none, none, none, none, rfl⟩, e1.trans e2, hp, xs, e2 _ _ h1, ts.mono (ex_tx e2)⟩) (fun i σ' H' hi hP => ?_) (fun σ' H' hP => ?_)
    · obtain ⟨f, ⟨y3, y4, y5, y6, y7, y8, rfl⟩, ex, hf, ld⟩ := hP
      have hm : (i : Int) ∈ row := pm.mem.mpr ⟨by omega, hi⟩
      refine q_asg (v := .int (idx row i - i)) (ev_bin (ev_idx (evd_var rfl (t.mono (ex_tx ex))) (ev_var (v := .int i) rfl) hm) (ev_var (v := .int i) rfl)) fun H2 e2 => ?_
      generalize hmv : idx row (i : Int) - (i : Int) = mv
      refine q_asg (v := .int (if 0 < mv then mv - n else mv + n)) (ev_if (b := decide (0 < mv)) (et_test (ev_bin (ev_var rfl) ev_c)) (fun h => ev_is (ev_bin (g := fun i j => .int (i - j)) (ev_var (v := .int mv) rfl) (ev_var (v := .int n) rfl)) (by rw [if_pos (of_decide_eq_true h)])) (fun h => ev_is (ev_bin (g := fun i j => .int (i + j)) (ev_var (v := .int mv) rfl) (ev_var (v := .int n) rfl)) (by rw [if_neg (of_decide_eq_false h)]))) fun H3 e3 => ?_
      refine q_asgN (ds := (ways n mv).map PyData.int) (evn_if (b := decide (mv = 0)) (et_test (ev_eqI (ev_var rfl) ev_c)) (fun hb => ?_) (fun hb => ?_)) fun m ms H4 hm4 e4 h4 ts4 => ?_
      · have hz := of_decide_eq_true hb
        refine evn_is (evn_lst (ds := [.int 0]) (ead_cons (evd_i ev_c) ead_nil) (by show 1 ≤ 1000; decide)) ?_
        unfold ways
        rw [if_pos hz] <;> rfl
      · have hz : mv ≠ 0 := of_decide_eq_false hb
        by_cases hpos : 0 < mv
        · rw [if_pos hpos]
          refine evn_is (evn_sort2 (lo := mv - n) (hi := mv) (a := mv) (b := mv - n) (ev_var rfl) (ev_var rfl) (by omega) (List.Perm.swap _ _ _)) ?_
          unfold ways
          rw [if_neg hz, if_pos hpos]
        · rw [if_neg hpos]
          refine evn_is (evn_sort2 (lo := mv) (hi := mv + n) (a := mv) (b := mv + n) (ev_var rfl) (ev_var rfl) (by omega) (List.Perm.refl _)) ?_
          unfold ways
          rw [if_neg hz, if_neg hpos]
      generalize (if 0 < mv then mv - (n : Int) else mv + n) = fa
      have e24 := (e2.trans e3).trans e4
      have hb := opts_len row n i
      have hlen : (optsFrom row n (rng 0 (i : Int)) [[]]).length ≤ 2 ^ 6 := Nat.le_trans hb.1 (Nat.pow_le_pow_right (by decide) (by omega))
      refine q_asgN (evn_lst ead_nil (by decide)) fun l0 ys0 H5 hl0 e5 h5 ts5 => ?_
      obtain rfl := ts5.nil_inv
      have e25 := e24.trans e5
      refine q_forLD (optsFrom row n (rng 0 (i : Int)) [[]]) dT (ev_var (v := .ref f) rfl) (ld.mono e25)
        (fun j σ' H' => ∃ lg, (∃ y8, σ' = [some v, some (.int n), some (.ref f), some (.int i), some (.int mv), some (.int fa), some (.ref m), some (.ref lg), y8, none, none]) ∧ H5 l0 = some (.lst []) ∧ H lg = none ∧ LD H' lg ((((optsFrom row n (rng 0 (i : Int)) [[]]).take j).flatMap fun s => (ways n mv).map fun o => s ++ [o]).map dT))
        (fun H6 e6 => ⟨l0, ⟨_, rfl⟩, h5, fresh_back (ex.trans e24) hl0, [], e6 _ _ h5, .nil⟩) (fun j a x σ' H' ha ex6 hP k => ?_) (fun σ' H' ex6 hP => ?_)
      · obtain ⟨lg, ⟨y8, rfl⟩, _, hlg, ldg⟩ := hP
        refine g_name ?_
        have ma := List.mem_of_getElem? ha
        have hal := hb.2 a ma
        have new : EvN (tLc (iList K (tVar 6)) (gName 9) tYes (tOp (rCatF K) (tVar 8) (tTupF (tCons (tVar 9) tNil))) [9]) [some v, some (.int n), some (.ref f), some (.int i), some (.int mv), some (.int fa), some (.ref m), some (.ref lg), some x, none, none] H' (((ways n mv).map fun o => a ++ [o]).map dT) := by
          rw [List.map_map]
          refine evn_is (evn_lcL (ways n mv) PyData.int (fun _ => true) (fun o => dT (a ++ [o])) (ev_var (v := .ref m) rfl) (LD.mono ⟨ms, h4, ts4⟩ (e5.trans ex6)) (Nat.le_trans (ways_len _ _) (by decide)) fun o z H7 ho e7 tz => ?_) (by rw [filter_all] <;> rfl)
          obtain rfl := tz.int_inv
          refine ⟨_, fun Q h => h, rfl, evt_yes, fun _ => ?_⟩
          refine evd_is (evd_catT (ds := a.map PyData.int) (es := [.int o]) (evd_var rfl (k.mono (ex_tx e7))) (evd_tup (ead_cons (evd_i (ev_var rfl)) ead_nil) (by show 1 ≤ 1000; decide)) (by rw [List.length_map, hal]; show i + 1 ≤ 1000; omega)) ?_
          unfold dT
          rw [List.map_append] <;> rfl
        have hb3 := flat_le (fun s : List Int => (ways n mv).map fun o => s ++ [o]) 2 ((optsFrom row n (rng 0 (i : Int)) [[]]).take j) fun s _ => by rw [List.length_map]; exact ways_len _ _
        have hb4 : ((optsFrom row n (rng 0 (i : Int)) [[]]).take j).length * 2 ≤ 2 ^ 6 * 2 := Nat.mul_le_mul_right 2 (Nat.le_trans (List.length_take_le' _ _) hlen)
        have p26 : (2 : Nat) ^ 6 = 64 := rfl
        refine (evn_cat (ev_var (v := .ref lg) rfl) ldg new (by rw [List.length_map, List.length_map, List.length_map]; have := ways_len n mv; omega)) H' (Ex.refl _) _ fun r rs H7 hr7 e7 h7 ts7 => ?_
        refine ⟨ex6.trans e7, r, ⟨_, rfl⟩, h5, fresh_back ((ex.trans e25).trans ex6) hr7, rs, h7, ?_⟩
        rw [List.take_succ, ha, List.flatMap_append, List.map_append]
        show TDs H7 rs (_ ++ ([a].flatMap _).map dT)
        rw [List.flatMap_singleton]
        exact ts7
      · obtain ⟨lg, ⟨y8, rfl⟩, _, hlg, ldg⟩ := hP
        rw [List.take_length] at ldg
        refine s_asg (v := .ref lg) (ev_var rfl) fun H7 e7 => ⟨lg, ⟨_, _, _, _, _, _, rfl⟩, ((ex.trans e25).trans ex6).trans e7, hlg, ?_⟩
        have e8 : ((i + 1 : Nat) : Int) = (i : Int) + 1 := by omega
        rw [e8, opts_step row n i (by omega), hmv]
        exact ldg.mono e7
    · obtain ⟨f, ⟨y3, y4, y5, y6, y7, y8, rfl⟩, ex, hf, ld⟩ := hP
      have e3 : (((n : Int).toNat : Nat) : Int) = (n : Int) := by omega
      rw [e3] at ld
      have hb := opts_len row n n
      have hlen : (optsFrom row n (rng 0 (n : Int)) [[]]).length ≤ 2 ^ 6 := Nat.le_trans hb.1 (Nat.pow_le_pow_right (by decide) hn6)
      refine s_retN (evn_is (evn_lcL (optsFrom row n (rng 0 (n : Int)) [[]]) dT (fun o => decide (o.sum = 0)) dT (ev_var (v := .ref f) rfl) ld (Nat.le_trans hlen (by decide)) fun o x H2 ho e2 k => ⟨_, fun Q h => h, rfl, et_test (ev_eqI (ev_tsum (evd_var rfl k)) ev_c), fun _ => evd_var rfl k⟩) ?_) (q.mono ex)
      unfold options
      rw [hn]
theorem sn_choices {H : Hp} {v : V} {row : List Int} (t : TD H v (dT row)) (h6 : row.length ≤ 6) (pm : Pm row.length row) {σ : L2.St} {ta : TA} {E : XK} (h : EvA ta σ H [v]) : EvN (tCall sp_law_ring_choices [] E ta) σ H ((options row).map dT) :=
  fun H1 e Q q => h H1 e _ fun H2 e2 => ⟨v, row, rfl, t.mono (ex_tx (e.trans e2)), h6, pm, q.mono e2⟩
/-- _law_are_integers -/
def sp_law_are_integers : Sp := fun vs H Q _ => ∃ (v : V) (ns : List Int), vs = [v, .int (ns.length : Nat)] ∧ TD H v (dT ns) ∧ ns.length ≤ 1000 ∧ RetV (.bl true) H Q
theorem ok_law_are_integers (T : Top K mg) : FnOk P w K mg base CX0 1 T.f_law_are_integers T.fd_law_are_integers ["_law_thing", "_law_many"] sp_law_are_integers := by
  refine T.F_law_are_integers.ok sc_law_are_integers (fun vs H Q E h => ?_) (fun cdv A outer s H vs Q E hr h => ?_)
  · obtain ⟨v, d, rfl, _⟩ := h
    rfl
  · obtain ⟨v, ns, rfl, t, hl, q⟩ := h
    refine ⟨_, PSs.nox (pss_cons (ps_if (PW.pt (pw_or (pt_not (pt_val (pe_callB call_isi (by rfl) T.z_isinstance bt_isinstance (pa_cons (pv 0) (pa_cons (pe_bltn (v := V.ty "tuple") (by rfl) T.z_tuple bt_tuple rfl) pa_nil))))) (pw_or1 (pt_cmpR op_ne (pe_callB call_len_seq (by rfl) T.z_len bt_len (pa_cons (pv 0) pa_nil)) (pv 1) (nomark _)))))
    (pss_one (ps_ret pe_bl)) pss_nil)
    (pss_one (ps_ret (pe_cmpR (op_eqD (hu64 hr)) (pe_lc (own := [("_law_one", 2)]) (g := gName 2) rfl sc_law_are_integers.nd (pi_tup (pv 0)) (blkOk_by (own := [("_law_one", 2)]) (N := n_law_are_integers) (sc := defScope s_law_are_integers) (by decide +kernel)) (fun _ _ _ _ _ => (pg_name (i := 2) sc_law_are_integers.nd rfl (Or.inl rfl))) (fun _ _ _ _ _ => (pts_one (PW.pt (pw_or (pt_not (pt_val (pe_callB (callIsi (K := K) rfl) (by rfl) T.z_isinstance bt_isinstance (pa_cons (pv 2) (pa_cons (pe_bltn (v := V.ty "int") (by rfl) T.z_int bt_int rfl) pa_nil))))) (pw_or1 (pt_val (pe_callB (callIsi (K := K) rfl) (by rfl) T.z_isinstance bt_isinstance (pa_cons (pv 2) (pa_cons (pe_bltn (v := V.ty "bool") (by rfl) T.z_bool bt_bool rfl) pa_nil))))))))) (fun _ _ _ _ _ => (pv 2))) (pe_lst pa_nil) (nomark _))))), ?_⟩
    have v0 := evd_var (σ := start n_law_are_integers [v, .int (ns.length : Nat)]) (H := H) (n := 0) (v := v) rfl t
    refine q_when (b := false) (et_or (a := false) (et_not (a := true) (et_B (evd_isiT v0 (by decide +kernel)))) fun _ => et_test (ev_is (ev_neI (ev_lenTI v0) (ev_var rfl)) (by rw [decide_eq_true rfl] <;> rfl))) (fun h => nomatch h) fun _ H1 e1 => ?_
    have lc : EvN (tLc (iTup K (tVar 0)) (gName 2) (tOr (tNot (tB (tCB (rIsi K) (tCons (tVar 2) (tCons (tC (.ty "int")) tNil))))) (tB (tCB (rIsi K) (tCons (tVar 2) (tCons (tC (.ty "bool")) tNil))))) (tVar 2) [2]) [some v, some (.int (ns.length : Nat)), none] H1 ((ns.filter fun _ => false).map PyData.int) :=
      evn_lcT ns PyData.int (fun _ => false) PyData.int (v0.mono e1) (by omega) fun a x H2 ha e2 k => by
        obtain rfl := k.int_inv
        have va : Ev (tVar 2) [some v, some (.int (ns.length : Nat)), some (.int a)] H2 (.int a) := ev_var rfl
        exact ⟨_, fun Q h => h, rfl, et_or (a := false) (b := false) (et_not (a := true) (et_B (evd_isiI (b := true) va (by decide +kernel)))) fun _ => et_B (evd_isiI (b := false) va (by decide +kernel)), fun h => nomatch h⟩
    have nil : (ns.filter fun _ => false) = [] := List.filter_eq_nil_iff.mpr fun _ _ h => nomatch h
    rw [nil] at lc
    exact s_ret (ev_is (ev_eqNilN lc (Sh.ok sh_nil)) rfl) fun H2 e2 => q H2 (e1.trans e2)
/-- _law_ring_word, of a reply that refuses rightly -/
def wordOf : Rep → Str
  | .seq _ => "sequence"
  | .tri _ => "triple"
  | .ref _ => "refused"
def sp_law_ring_word : Sp := fun vs H Q _ => ∃ (v u r : V) (ls : List (List Int)) (d : List Int), vs = [v, u, r] ∧ TD H v (dLs ls) ∧ TD H u (dT d) ∧ TD H r (encR (dec ls d)) ∧ isSeq (dec ls d) = false ∧ Rk ls ∧ d.length = ls.length ∧ d.length ≤ 20 ∧ Small d ∧ RetN [.str (wordOf (dec ls d))] H Q
theorem any_in {α : Type} [DecidableEq α] (enc : α → PyData) (he : ∀ a b, PyData.eqv (enc a) (enc b) = decide (a = b)) {x : α} {L : List α} (h : x ∈ L) : ((L.map enc).any fun z => PyData.eqv z (enc x)) = true := by
  rw [any_enc enc he, decide_eq_true h]
theorem eqv_d3 (a b : Int × Int × Int) : PyData.eqv (d3 a) (d3 b) = decide (a = b) := by
  unfold d3
  rw [eqv_dT]
  obtain ⟨a1, a2, a3⟩ := a
  obtain ⟨b1, b2, b3⟩ := b
  simp
theorem eqv_d4 (a b : Int × Int × Int × Int) : PyData.eqv (d4 a) (d4 b) = decide (a = b) := by
  unfold d4
  rw [eqv_dT]
  obtain ⟨a1, a2, a3, a4⟩ := a
  obtain ⟨b1, b2, b3, b4⟩ := b
  simp
theorem word_in {x : Str} (h : x = "triple" ∨ x = "refused") : (!inV (.str x) [.str "sequence", .str "triple", .str "refused"]) = false := by
  rcases h with h | h
  · rw [h]; decide +kernel
  · rw [h]; decide +kernel
theorem ok_law_ring_word (T : Top K mg) : FnOk P w K mg base CX0 4 T.f_law_ring_word T.fd_law_ring_word ["_law_lists", "_law_moves", "_law_reply"] sp_law_ring_word := by
  have G_law_ring_run := ok_law_ring_run (P := P) (w := w) (base := base) T
  have G_law_are_integers := ok_law_are_integers (P := P) (w := w) (base := base) T
  have G_law_ring_triples := ok_law_ring_triples (P := P) (w := w) (base := base) T
  have G_law_ring_refusals := ok_law_ring_refusals (P := P) (w := w) (base := base) T
  refine T.F_law_ring_word.ok sc_law_ring_word (fun vs H Q E h => ?_) (fun cdv A outer s H vs Q E hr h => ?_)
  · obtain ⟨v, u, r, ls, d, rfl, _⟩ := h
    rfl
  · obtain ⟨v, u, r, ls, d, rfl, t, tu, tr, hns, rk, dl, d20, sm, q⟩ := h
    refine ⟨_, PSs.nox (pss_cons (ps_if (PW.pt (pw_or (pt_not (pt_val (pe_callB call_isi (by rfl) T.z_isinstance bt_isinstance (pa_cons (pv 2) (pa_cons (pe_bltn (v := V.ty "tuple") (by rfl) T.z_tuple bt_tuple rfl) pa_nil))))) (pw_or (pt_cmpR op_ne (pe_callB call_len_seq (by rfl) T.z_len bt_len (pa_cons (pv 2) pa_nil)) pe_int (nomark _)) (pw_or1 (pt_not (pt_val (pe_callB call_isi (by rfl) T.z_isinstance bt_isinstance (pa_cons (pe_ix ix_tup (pv 2) pe_int (fun _ _ => rfl)) (pa_cons (pe_bltn (v := V.ty "str") (by rfl) T.z_str bt_str rfl) pa_nil)))))))))
    (pss_one (ps_ret (pe_tupF (pa_cons pe_str (pa_cons pe_str pa_nil))))) pss_nil)
    (pss_cons (ps_asg (pv 2) (pg_tup rfl (pgs_cons (pg_name (i := 3) sc_law_ring_word.nd rfl (Or.inl rfl)) (pgs_cons (pg_name (i := 4) sc_law_ring_word.nd rfl (Or.inl rfl)) pgs_nil))))
    (pss_cons (ps_if (pt_cmpR op_notIn_seq (pv 3) (pe_lst (pa_cons pe_str (pa_cons pe_str (pa_cons pe_str pa_nil)))) rfl)
    (pss_one (ps_ret (pe_tupF (pa_cons pe_str (pa_cons pe_str pa_nil))))) pss_nil)
    (pss_cons (ps_set (i := 5) sc_law_ring_word.nd rfl (Or.inl rfl) pe_bl)
    (pss_cons (ps_if (pt_cmpR op_eq (pv 3) pe_str (nomark _))
    (pss_one (ps_set (i := 5) sc_law_ring_word.nd rfl (Or.inl rfl) (pe_cmpR (op_eqD (hu64 hr)) (pe_call G_law_ring_run hr (by rfl) T.g_law_ring_run T.kp_law_ring_run T.b_law_ring_run .nil pass0 (pa_cons (pv 0) (pa_cons (pv 4) pa_nil))) (pv 1) (nomark _)))) (pss_one (ps_if (pt_val (pe_call G_law_are_integers (hr.mono (by decide)) (by rfl) T.g_law_are_integers T.kp_law_are_integers T.b_law_are_integers .nil pass0 (pa_cons (pv 4) (pa_cons (pe_ifExp (pt_cmpR op_eq (pv 3) pe_str (nomark _)) pe_int pe_int) pa_nil))))
    (pss_cons (ps_set (i := 6) sc_law_ring_word.nd rfl (Or.inl rfl) (pe_call G_law_ring_triples hr (by rfl) T.g_law_ring_triples T.kp_law_ring_triples T.b_law_ring_triples .nil pass0 (pa_cons (pv 1) pa_nil)))
    (pss_one (ps_set (i := 5) sc_law_ring_word.nd rfl (Or.inl rfl) (pe_ifExp (pt_cmpR op_eq (pv 3) pe_str (nomark _)) (pe_cmpR (op_inD (hu65 hr)) (pv 4) (pv 6) rfl) (pe_and (pe_cmpR (op_eqD (hu64 hr)) (pv 6) (pe_lst pa_nil) (nomark _)) (pe_one (pe_cmpR (op_inD (hu65 hr)) (pv 4) (pe_call G_law_ring_refusals hr (by rfl) T.g_law_ring_refusals T.kp_law_ring_refusals T.b_law_ring_refusals .nil pass0 (pa_cons (pv 0) (pa_cons (pv 1) pa_nil))) rfl))))))) pss_nil)))
    (pss_one (ps_ret (pe_ifExp (pt_val (pv 5)) (pe_lst (pa_cons (pv 3) pa_nil)) (pe_tupF (pa_cons pe_str (pa_cons (pv 3) pa_nil))))))))))), ?_⟩
    have h1 := rk.one
    have hd : d ≠ [] := fun e => by rw [e] at dl; rw [← dl] at h1; exact absurd h1 (by decide)
    -- what the reply is
    obtain ⟨wd, b, item, k, hx, henc, hww, hint, hsh⟩ : ∃ (wd : Str) (b : Bool) (item : List Int) (k : Int), (wd = "triple" ∨ wd = "refused") ∧ encR (dec ls d) = .tuple [.str wd, dT item] ∧ wordOf (dec ls d) = wd ∧ k = item.length ∧
        ((wd = "triple" ∧ k = 3 ∧ b = true ∧ (((triplesL d).map d3).any fun z => PyData.eqv z (dT item)) = true) ∨ (wd = "refused" ∧ k = 4 ∧ b = false ∧ triplesL d = [] ∧ (((refsL ls d).map d4).any fun z => PyData.eqv z (dT item)) = true)) := by
      cases ht : triple? d with
      | some t3 =>
        have hdec : dec ls d = .tri t3 := by
          unfold dec
          rw [ht]
        rw [hdec]
        refine ⟨"triple", true, [t3.1, t3.2.1, t3.2.2], 3, .inl rfl, rfl, rfl, rfl, .inl ⟨rfl, rfl, rfl, ?_⟩⟩
        exact any_in d3 eqv_d3 (triple_mem sm ht)
      | none =>
        cases hf : firstRef ls d with
        | none =>
          exfalso
          have hdec : dec ls d = .seq (seqFor d) := by
            unfold dec
            rw [ht, hf]
          rw [hdec] at hns
          cases hns
        | some r4 =>
          have hdec : dec ls d = .ref r4 := by
            unfold dec
            rw [ht, hf]
          rw [hdec]
          refine ⟨"refused", false, [r4.1, r4.2.1, r4.2.2.1, r4.2.2.2], 4, .inr rfl, rfl, rfl, rfl, .inr ⟨rfl, rfl, rfl, (triples_nil sm).mpr ht, ?_⟩⟩
          exact any_in d4 eqv_d4 (ref_mem rk dl sm hf)
    rw [henc] at tr
    rw [hww] at q
    have v2 := evd_var (σ := start n_law_ring_word [v, u, r]) (H := H) (n := 2) (v := r) rfl tr
    refine q_when (b := false) (et_or (a := false) (et_not (a := true) (et_B (evd_isiT v2 (by decide +kernel)))) fun _ => et_or (a := false) (et_test (ev_is (ev_neI (ev_lenT v2) ev_c) (by rfl))) fun _ => et_not (a := true) (et_B (evd_isiS (ev_s (evd_ixT v2 ev_c (i := 0) (at0 _ _))) (by decide +kernel)))) (fun h => nomatch h) fun _ H1 e1 => ?_
    refine q_tup2 (v2.mono e1) fun wv fv H2 e2 twv tfv => ?_
    obtain rfl := twv.str_inv
    have e12 := e1.trans e2
    refine q_when (b := false) (et_test (ev_is (ev_opL (xs := [.str "sequence", .str "triple", .str "refused"]) (ev_var rfl) (el_lst (ea_cons ev_c (ea_cons ev_c (ea_cons ev_c ea_nil))) (by decide)) fun p H3 h3 e3 => rv_niL (SqL.of h3) rfl rfl) (by rw [word_in hx]))) (fun h => nomatch h) fun _ H3 e3 => ?_
    have e13 := e12.trans e3
    refine q_asg (v := .bl false) ev_c fun H4 e4 => ?_
    have e14 := e13.trans e4
    have nseq : decide (wd = "sequence") = false := by
      rcases hx with h | h
      · rw [h]; decide +kernel
      · rw [h]; decide +kernel
    have three : ∀ {H' : Hp} {y5 y6 : Option V}, Ev (tIf (tTest (tOp rEq (tVar 3) (tC (.str "triple")))) (tC (.int 3)) (tC (.int 4))) [some v, some u, some r, some (.str wd), some fv, y5, y6] H' (.int k) := fun {H' y5 y6} => by
      rcases hsh with ⟨s1, s2, s3, s4⟩ | ⟨s1, s2, s3, s4, s5⟩
      · rw [s1, s2]
        exact ev_if (b := true) (et_test (ev_is (ev_eqS (ev_var rfl) ev_c) (congrArg V.bl (show decide (("triple" : Str) = "triple") = true by decide +kernel)))) (fun _ => ev_c) (fun h => nomatch h)
      · rw [s1, s2]
        exact ev_if (b := false) (et_test (ev_is (ev_eqS (ev_var rfl) ev_c) (congrArg V.bl (show decide (("refused" : Str) = "triple") = false by decide +kernel)))) (fun h => nomatch h) (fun _ => ev_c)
    refine q_if (b := false) (et_test (ev_is (ev_eqS (ev_var rfl) ev_c) (by rw [nseq]))) (fun h => nomatch h) (fun _ H5 e5 => ?_)
    have e15 := e14.trans e5
    have il : item.length ≤ 4 := by
      rcases hsh with ⟨s1, s2, s3, s4⟩ | ⟨s1, s2, s3, s4, s5⟩ <;> omega
    refine s_when (b := true) (et_B (ev_call (vs := [fv, .int k]) (ea_cons (ev_var rfl) (ea_cons three ea_nil)) fun H6 e6 Q q E => ⟨fv, item, by rw [hint] <;> rfl, tfv.mono (ex_tx (((e3.trans e4).trans e5).trans e6)), by omega, q⟩)) (fun _ H6 e6 => ?_) (fun h => nomatch h)
    have e16 := e15.trans e6
    refine q_asgN (ds := (triplesL d).map d3) (evn_callV (vs := [u]) (ea_cons (ev_var rfl) ea_nil) fun H7 e7 Q E q => ⟨u, d, rfl, tu.mono (ex_tx (e16.trans e7)), hd, d20, sm, q⟩) fun sl ss H7 hsl e7 h7 ts7 => ?_
    have e17 := e16.trans e7
    have shT : SeqAt.shaped (.list ((triplesL d).map d3)) = true := Sh.ok (sh_maps d3 (fun _ => sh_dT _) _)
    have shR : SeqAt.shaped (.list ((refsL ls d).map d4)) = true := Sh.ok (sh_maps d4 (fun _ => sh_dT _) _)
    have shI : SeqAt.shaped (dT item) = true := Sh.ok (sh_dT _)
    have vf : EvD (tVar 4) [some v, some u, some r, some (.str wd), some fv, some (.bl false), some (.ref sl)] H7 (dT item) := evd_var rfl (tfv.mono (ex_tx ((((e3.trans e4).trans e5).trans e6).trans e7)))
    have refd : EvN (tCall sp_law_ring_refusals [] E0 (tCons (tVar 0) (tCons (tVar 1) tNil))) [some v, some u, some r, some (.str wd), some fv, some (.bl false), some (.ref sl)] H7 ((refsL ls d).map d4) := evn_callV (vs := [v, u]) (ea_cons (ev_var rfl) (ea_cons (ev_var rfl) ea_nil)) fun H8 e8 Q E q => ⟨v, u, ls, d, rfl, t.mono (ex_tx (e17.trans e8)), tu.mono (ex_tx (e17.trans e8)), rk, dl, d20, sm, q⟩
    refine s_asg (v := .bl true) ?_ fun H8 e8 => ?_
    · rcases hsh with ⟨s1, s2, s3, s4⟩ | ⟨s1, s2, s3, s4, s5⟩
      · subst s1
        exact ev_if (b := true) (et_test (ev_is (ev_eqS (ev_var rfl) ev_c) (congrArg V.bl (show decide (("triple" : Str) = "triple") = true by decide +kernel)))) (fun _ => ev_is (ev_inLD vf (ev_var rfl) ⟨ss, h7, ts7⟩ shI shT) (by rw [s4])) (fun h => nomatch h)
      · subst s1
        refine ev_if (b := false) (et_test (ev_is (ev_eqS (ev_var rfl) ev_c) (congrArg V.bl (show decide (("refused" : Str) = "triple") = false by decide +kernel)))) (fun h => nomatch h) (fun _ => ?_)
        rw [s4] at ts7 shT
        exact ev_andV (a := true) (b := true) (ev_eqNil (ev_var rfl) ⟨ss, h7, ts7⟩ shT) fun _ => ev_is (ev_inND vf refd shI shR) (by rw [s5])
    · exact s_retN (evn_if (b := true) (et_B (ev_var rfl)) (fun _ => evn_lst (ds := [.str wd]) (ead_cons (evd_of (ev_var rfl) (.str _)) ead_nil) (by show 1 ≤ 1000; decide)) (fun h => nomatch h)) (q.mono (e17.trans e8))
end
end K57
set_option Elab.async false
set_option linter.all false
set_option maxRecDepth 100000
set_option maxHeartbeats 4000000
/-! all that the law reaches -/
namespace K57
open PySem PySem.Spec PyProof.Rows L2 Evl R57
abbrev Pt := List Int × List Int
def stepP (p : Pt) (s : Int) : Pt := (afterRow p.1 s (nxt p.1 s), afterMv p.1 p.2 s (nxt p.1 s))
theorem reach_step {ls : List (List Int)} {p : Pt} {s : Int} (r : Reach ls p) (h0 : 0 ≤ s) (h1 : s < ls.length) (hm : may ls p.1 s = true) : Reach ls (stepP p s) := by
  obtain ⟨row, mv⟩ := p
  exact Reach.step s r h0 h1 hm
/-- all steps from p lead into L -/
def Cl (ls : List (List Int)) (L : List Pt) (p : Pt) : Prop := ∀ s : Int, 0 ≤ s → s < ls.length → may ls p.1 s = true → stepP p s ∈ L
theorem Cl.mono {ls : List (List Int)} {L L' : List Pt} {p : Pt} (c : Cl ls L p) (h : ∀ q ∈ L, q ∈ L') : Cl ls L' p := fun s h0 h1 hm => h _ (c s h0 h1 hm)
theorem reach_all {ls : List (List Int)} {L : List Pt} (h0 : (rng 0 (ls.length : Int), List.replicate ls.length 0) ∈ L) (h : ∀ p ∈ L, Cl ls L p) {p : Pt} (r : Reach ls p) : p ∈ L := by
  induction r with
  | start => exact h0
  | step s _ s0 s1 hm ih => exact h _ ih s s0 s1 hm
section
variable {K : PySem.W.Frag} {σ : L2.St} {H : Hp} {tl : TE} {D : L2.Ends} {tu tz : TS} {g : TG}
/-- as a last statement -/
theorem s_forX {α : Type} (L : List α) (enc : α → PyData) (X : Addr → Prop) (h : EvN tl σ H (L.map enc)) (hX : ∀ a, X a → ∃ ys, H a = some (.lst ys)) (J : Nat → L2.St → Hp → Prop) (h0 : ∀ H1, Ex H H1 → J 0 σ H1)
    (hs : ∀ H1, Ex H H1 → NoT X H1 → ∀ i a v σ' H', L[i]? = some a → ExX X H1 H' → J i σ' H' → TD H' v (enc a) → g v σ' H' fun σ2 H2 => tu { D with nx := fun σ3 H3 => ExX X H1 H3 ∧ J (i + 1) σ3 H3, ct := fun σ3 H3 => ExX X H1 H3 ∧ J (i + 1) σ3 H3, bk := D.nx } σ2 H2)
    (hd : ∀ H1 σ' H', Ex H H1 → ExX X H1 H' → J L.length σ' H' → D.nx σ' H') : tFor (iList K tl) g tu D σ H := q_forX (D := D) (tz := fun D σ H => D.nx σ H) L enc X h hX J h0 hs hd
/-- for .. in a standing list of data; the body changes what stands at X -/
theorem q_forLX {α : Type} {a : Addr} (L : List α) (enc : α → PyData) (X : Addr → Prop) (h : Ev tl σ H (.ref a)) (hl : LD H a (L.map enc)) (na : ¬ X a) (nt : NoT X H) (J : Nat → L2.St → Hp → Prop) (h0 : ∀ H1, Ex H H1 → J 0 σ H1)
    (hs : ∀ i a v σ' H', L[i]? = some a → ExX X H H' → J i σ' H' → TD H' v (enc a) → g v σ' H' fun σ2 H2 => tu { D with nx := fun σ3 H3 => ExX X H H3 ∧ J (i + 1) σ3 H3, ct := fun σ3 H3 => ExX X H H3 ∧ J (i + 1) σ3 H3, bk := tz D } σ2 H2)
    (hd : ∀ σ' H', ExX X H H' → J L.length σ' H' → tz D σ' H') : tSeq (tFor (iList K tl) g tu) tz D σ H :=
  h H (Ex.refl H) _ fun H1 e => by
    obtain ⟨xs, h1, ts⟩ := hl
    have hxl : xs.length = L.length := by rw [ts.length, List.length_map]
    refine ⟨a, rfl, ⟨xs, SqL.of (e _ _ h1)⟩, for_it (D := { D with nx := tz D }) (walk_list (xs := xs)) (fun i σ' H' => ExX X H H' ∧ J i σ' H') ⟨exx_of e, h0 H1 e⟩ (fun i σ' H' _ q => SqL.of (q.1 _ _ na h1)) (fun i x σ' H' H2 hi q y => ?_) (fun σ' H' q => hd σ' H' q.1 (hxl ▸ q.2))⟩
    obtain ⟨rfl, hx⟩ := y
    have hi : i < L.length := by rw [← hxl]; exact hi
    obtain ⟨d, hd1, hd2⟩ := ts.getV hx
    rw [List.getElem?_map, List.getElem?_eq_getElem hi] at hd1
    obtain rfl := Option.some.inj hd1
    exact hs i L[i] x σ' _ (List.getElem?_eq_getElem hi) q.1 q.2 (hd2.mono (q.1.tx nt))
end
section
variable {P : Program} {w : World} {K : PySem.W.Frag} {mg : Str → Option Value} {base : Heap}
/-- _law_ring_all -/
def sp_law_ring_all : Sp := fun vs H Q _ => ∃ (v : V) (ls : List (List Int)) (U : List Pt), vs = [v] ∧ TD H v (dLs ls) ∧ Rk ls ∧ 3 ≤ ls.length ∧ (∀ p, Reach ls p → p ∈ U ∧ Pm ls.length p.1 ∧ p.2.length = ls.length) ∧ U.length ≤ 4000 ∧
  ∀ (a : Addr) (xs : List V) (L : List Pt) (H' : Hp), H a = none → Ex H H' → H' a = some (.lst xs) → TDs H' xs (L.map dPr) → (∀ p, p ∈ L ↔ Reach ls p) → L.length ≤ 4000 → Q (.ref a) H'
theorem ok_law_ring_all (T : Top K mg) : FnOk P w K mg base CX0 3 T.f_law_ring_all T.fd_law_ring_all ["_law_lists"] sp_law_ring_all := by
  have G_law_ring_may := ok_law_ring_may (P := P) (w := w) (base := base) T
  have G_law_ring_after := ok_law_ring_after (P := P) (w := w) (base := base) T
  refine T.F_law_ring_all.ok sc_law_ring_all (fun vs H Q E h => ?_) (fun cdv A outer s H vs Q E hr h => ?_)
  · obtain ⟨v, ls, U, rfl, _⟩ := h
    rfl
  · obtain ⟨v, ls, U, rfl, t, rk, n3, hU, hUl, q⟩ := h
    refine ⟨_, PSs.nox (pss_cons (ps_set (i := 1) sc_law_ring_all.nd rfl (Or.inl rfl) (pe_callB call_len_seq (by rfl) T.z_len bt_len (pa_cons (pv 0) pa_nil)))
    (pss_cons (ps_set (i := 2) sc_law_ring_all.nd rfl (Or.inl rfl) (pe_lst (pa_cons (pe_tupF (pa_cons (pe_tupRgF rfl (by rfl) T.z_tuple (prg_1 (by rfl) T.z_range (pv 1))) (pa_cons (pe_op op_repF (pe_tupF (pa_cons pe_int pa_nil)) (pv 1)) pa_nil))) pa_nil)))
    (pss_cons (ps_set (i := 3) sc_law_ring_all.nd rfl (Or.inl rfl) (pe_callTy call_list_of (by rfl) T.z_list bt_list (pa_cons (pv 2) pa_nil)))
    (pss_cons (ps_while PassesOwn.never (pt_cmpR (op_neD (hu64 hr)) (pv 3) (pe_lst pa_nil) (nomark _))
    (pss_cons (ps_set (i := 4) sc_law_ring_all.nd rfl (Or.inl rfl) (pe_lst pa_nil))
    (pss_cons (ps_for PassesOwn.never rfl (pi_list (pv 3)) (pg_tup rfl (pgs_cons (pg_name (i := 5) sc_law_ring_all.nd rfl (Or.inr rfl)) (pgs_cons (pg_name (i := 6) sc_law_ring_all.nd rfl (Or.inl rfl)) pgs_nil)))
    (pss_one (ps_for PassesOwn.never rfl (pi_list (pe_lc (own := [("_law_step", 9)]) (g := gName 9) rfl sc_law_ring_all.nd (pi_range1 (by rfl) T.z_range (pa_cons (pv 1) pa_nil)) (blkOk_by (own := [("_law_step", 9)]) (N := n_law_ring_all) (sc := defScope s_law_ring_all) (by decide +kernel)) (fun _ _ _ _ _ => (pg_name (i := 9) sc_law_ring_all.nd rfl (Or.inl rfl))) (fun _ _ _ _ _ => (pts_one (pt_val (pe_call G_law_ring_may hr (by rfl) T.g_law_ring_may T.kp_law_ring_may T.b_law_ring_may .nil pass0 (pa_cons (pv 0) (pa_cons (pv 5) (pa_cons (pv 9) pa_nil))))))) (fun _ _ _ _ _ => (pv 9)))) (pg_name (i := 7) sc_law_ring_all.nd rfl (Or.inl rfl))
    (pss_cons (ps_set (i := 8) sc_law_ring_all.nd rfl (Or.inl rfl) (pe_call G_law_ring_after (hr.mono (by decide)) (by rfl) T.g_law_ring_after T.kp_law_ring_after T.b_law_ring_after .nil pass0 (pa_cons (pv 5) (pa_cons (pv 6) (pa_cons (pv 7) pa_nil)))))
    (pss_one (ps_if (pt_cmpR (op_notInD (hu65 hr)) (pv 8) (pv 2) rfl)
    (pss_cons (ps_expr (pe_bm PySem.F.plainAttrs_list PySem.F.slot_list_append PySem.F.type_list_append mt_append (pv 2) (pa_cons (pv 8) pa_nil)))
    (pss_one (ps_expr (pe_bm PySem.F.plainAttrs_list PySem.F.slot_list_append PySem.F.type_list_append mt_append (pv 4) (pa_cons (pv 8) pa_nil))))) pss_nil))))))
    (pss_one (ps_set (i := 3) sc_law_ring_all.nd rfl (Or.inl rfl) (pv 4))))))
    (pss_one (ps_ret (pv 2))))))), ?_⟩
    have n40 := rk.few
    have bound : ∀ L : List Pt, L.Nodup → (∀ p ∈ L, Reach ls p) → L.length ≤ U.length := fun L nd hr => nd.length_le_of_subset fun p hp => (hU p (hr p hp)).1
    have shL : ∀ L : List Pt, SeqAt.shaped (.list (L.map dPr)) = true := fun L => Sh.ok (sh_maps dPr sh_dPr L)
    refine q_asg (v := .int (ls.length : Nat)) (ev_is (ev_lenT (evd_var rfl t)) (by rw [List.length_map])) fun H1 e1 => ?_
    refine q_asgN (ds := [dPr (rng 0 (ls.length : Int), List.replicate ls.length 0)]) (evn_lst (ead_cons (evd_tup (ds := [dT (rng 0 (ls.length : Int)), dT (List.replicate ls.length 0)]) (ead_cons (evd_tupRg (ev_var rfl) (by omega)) (ead_cons (evd_rep0 (ev_var rfl) (by omega) (by omega)) ead_nil)) (by show 2 ≤ 1000; decide)) ead_nil) (by show 1 ≤ 1000; decide)) fun f fs H2 hf e2 h2 t2 => ?_
    refine q_asgN (evn_listL (ev_var (v := .ref f) rfl) ⟨fs, h2, t2⟩) fun fr0 frs H3 hfr e3 h3 t3 => ?_
    have fH : H f = none := fresh_back e1 hf
    have e12 := e1.trans e2
    have frH : H fr0 = none := fresh_back e12 hfr
    have nff : fr0 ≠ f := fun z => by rw [z, h2] at hfr; cases hfr
    -- the while
    refine q_while (fun m σ' H' => ∃ (fr : Addr) (L F : List Pt) (xs : List V), (∃ y4 y5 y6 y7 y8, σ' = [some v, some (.int (ls.length : Nat)), some (.ref f), some (.ref fr), y4, y5, y6, y7, y8, none]) ∧ ExX (fun a => a = f) H2 H' ∧ H fr = none ∧ fr ≠ f ∧ H' f = some (.lst xs) ∧ TDs H' xs (L.map dPr) ∧ LD H' fr (F.map dPr) ∧
        L.Nodup ∧ (∀ p ∈ L, Reach ls p) ∧ (rng 0 (ls.length : Int), List.replicate ls.length 0) ∈ L ∧ (∀ p ∈ F, p ∈ L) ∧ (∀ p ∈ L, ¬ p ∈ F → Cl ls L p) ∧ 2 * (U.length - L.length) + (if F = [] then 0 else 1) ≤ m) (2 * U.length + 1)
      ⟨fr0, [(rng 0 (ls.length : Int), List.replicate ls.length 0)], [(rng 0 (ls.length : Int), List.replicate ls.length 0)], fs, ⟨none, none, none, none, none, rfl⟩, exx_of e3, frH, nff, e3 _ _ h2, t2.mono (ex_tx e3), ⟨frs, h3, t3⟩, nod1 _, fun p hp => by rw [List.mem_singleton.mp hp]; exact .start, List.mem_singleton.mpr rfl, fun p hp => hp, fun p hp hn => absurd hp hn, by
        rw [if_neg (fun z => nomatch z), List.length_singleton]
        omega⟩ ?_
    rintro m σ' H' ⟨fr, L, F, xs, ⟨y4, y5, y6, y7, y8, rfl⟩, ex, hfrn, nfr, hx, tx, ld, nd, hre, hst, hFL, hcl, hme⟩
    have nt2 : NoT (fun a => a = f) H2 := not_one h2
    have tH' := (t.mono (ex_tx e12)).mono (ex.tx nt2)
    refine ⟨!F.isEmpty, et_test (ev_is (ev_neNil (ev_var rfl) ld (shL F)) (by rw [isEmpty_map])), fun hb H4 e4 => ?_, fun hb H4 e4 => ?_⟩
    · -- one round
      have hFne : F ≠ [] := fun z => by rw [z] at hb; cases hb
      rw [if_neg hFne] at hme
      refine ⟨fun σ2 H5 => ∃ (fr : Addr) (L F : List Pt) (xs : List V), (∃ y4 y5 y6 y7 y8, σ2 = [some v, some (.int (ls.length : Nat)), some (.ref f), some (.ref fr), y4, y5, y6, y7, y8, none]) ∧ ExX (fun a => a = f) H2 H5 ∧ H fr = none ∧ fr ≠ f ∧ H5 f = some (.lst xs) ∧ TDs H5 xs (L.map dPr) ∧ LD H5 fr (F.map dPr) ∧
        L.Nodup ∧ (∀ p ∈ L, Reach ls p) ∧ (rng 0 (ls.length : Int), List.replicate ls.length 0) ∈ L ∧ (∀ p ∈ F, p ∈ L) ∧ (∀ p ∈ L, ¬ p ∈ F → Cl ls L p) ∧ 2 * (U.length - L.length) + (if F = [] then 0 else 1) ≤ m - 1, fun σ2 H5 h5 => ⟨m - 1, by omega, h5⟩, ?_⟩
      refine q_asgN (evn_lst ead_nil (by decide)) fun fu fus H5 hfu e5 h5 t5 => ?_
      obtain rfl := t5.nil_inv
      have ex5 : ExX (fun a => a = f) H2 H5 := ex.then (e4.trans e5)
      have fu4 : H' fu = none := fresh_back e4 hfu
      have fuH2 : H2 fu = none := by
        cases hz : H2 fu with
        | none => rfl
        | some o =>
          have nf : ¬ fu = f := fun z => by rw [z, hx] at fu4; cases fu4
          have := ex fu o nf hz
          rw [fu4] at this
          cases this
      have fuH : H fu = none := fresh_back e12 fuH2
      have nfu : fu ≠ f := fun z => by rw [z, hx] at fu4; cases fu4
      have nfrfu : ¬ (fr = f ∨ fr = fu) := fun z => by
        rcases z with z | z
        · exact nfr z
        · obtain ⟨zs, hz, _⟩ := ld
          rw [z, fu4] at hz
          cases hz
      have hx5 := (e4.trans e5) _ _ hx
      have nt5 : NoT (fun a => a = f ∨ a = fu) H5 := fun a ys z => by
        rcases z with z | z
        · rw [z]; exact not_lst hx5
        · rw [z]; exact not_lst h5
      have tH5 := tH'.mono (ex_tx (e4.trans e5))
      refine q_forLX F dPr (fun a => a = f ∨ a = fu) (ev_var (v := .ref fr) rfl) (ld.mono (e4.trans e5)) nfrfu nt5
        (fun i σ2 H6 => ∃ (G : List Pt) (us ws : List V), (∃ y5 y6 y7 y8, σ2 = [some v, some (.int (ls.length : Nat)), some (.ref f), some (.ref fr), some (.ref fu), y5, y6, y7, y8, none]) ∧ H6 f = some (.lst us) ∧ TDs H6 us ((L ++ G).map dPr) ∧ H6 fu = some (.lst ws) ∧ TDs H6 ws (G.map dPr) ∧ (L ++ G).Nodup ∧ (∀ p ∈ L ++ G, Reach ls p) ∧ ∀ p ∈ F.take i, Cl ls (L ++ G) p)
        (fun H6 e6 => ⟨[], xs, [], ⟨_, _, _, _, rfl⟩, e6 _ _ hx5, by rw [List.append_nil]; exact tx.mono (ex_tx ((e4.trans e5).trans e6)), e6 _ _ h5, .nil, by rw [List.append_nil]; exact nd, by rw [List.append_nil]; exact hre, fun p hp => nomatch hp⟩)
        (fun i pr x σ2 H6 ha ex6 hP k => ?_) (fun σ2 H6 ex6 hP => ?_)
      · obtain ⟨G, us, ws, ⟨y5', y6', y7', y8', rfl⟩, hus, tus, hws, tws, ndG, reG, clG⟩ := hP
        obtain ⟨rv, mv, trv, tmv, gg⟩ := g_tup2 (K := K) (σ := [some v, some (.int (ls.length : Nat)), some (.ref f), some (.ref fr), some (.ref fu), y5', y6', y7', y8', none]) (i := 5) (j := 6) (d1 := dT pr.1) (d2 := dT pr.2) k
        refine gg _ ?_
        have hpr : Reach ls pr := hre _ (hFL _ (List.mem_of_getElem? ha))
        obtain ⟨_, pmr, mlr⟩ := hU pr hpr
        have t6 := tH5.mono (ex6.tx nt5)
        have steps : EvN (tLc (iRng1 (tCons (tVar 1) tNil)) (gName 9) (tB (tCall sp_law_ring_may [] E0 (tCons (tVar 0) (tCons (tVar 5) (tCons (tVar 9) tNil))))) (tVar 9) [9]) [some v, some (.int (ls.length : Nat)), some (.ref f), some (.ref fr), some (.ref fu), some rv, some mv, y7', y8', none] H6 (((rng 0 (ls.length : Int)).filter fun s => may ls pr.1 s).map PyData.int) :=
          evn_lcR1 (hi := (ls.length : Int)) (fun s => may ls pr.1 s) PyData.int (ea_cons (ev_var rfl) ea_nil) (by omega) (fun _ => rfl) (fun s H7 e7 s0 s1 => et_B (ev_call (vs := [v, rv, .int s]) (ea_cons (ev_var rfl) (ea_cons (ev_var rfl) (ea_cons (ev_var rfl) ea_nil))) (sv_may (t6.mono (ex_tx e7)) (trv.mono (ex_tx e7)) rk pmr s0 s1))) (fun s H7 e7 s0 s1 _ => evd_i (ev_var rfl))
        have hX6 : ∀ a, (a = f ∨ a = fu) → ∃ ys, H6 a = some (.lst ys) := fun a z => by
          rcases z with z | z
          · exact ⟨us, by rw [z]; exact hus⟩
          · exact ⟨ws, by rw [z]; exact hws⟩
        refine s_forX ((rng 0 (ls.length : Int)).filter fun s => may ls pr.1 s) PyData.int (fun a => a = f ∨ a = fu) steps hX6
          (fun j σ2 H7 => ∃ (G : List Pt) (us ws : List V), (∃ y7 y8, σ2 = [some v, some (.int (ls.length : Nat)), some (.ref f), some (.ref fr), some (.ref fu), some rv, some mv, y7, y8, none]) ∧ H7 f = some (.lst us) ∧ TDs H7 us ((L ++ G).map dPr) ∧ H7 fu = some (.lst ws) ∧ TDs H7 ws (G.map dPr) ∧ (L ++ G).Nodup ∧ (∀ p ∈ L ++ G, Reach ls p) ∧ (∀ p ∈ F.take i, Cl ls (L ++ G) p) ∧ ∀ s ∈ ((rng 0 (ls.length : Int)).filter fun s => may ls pr.1 s).take j, stepP pr s ∈ L ++ G)
          (fun H7 e7 => ⟨G, us, ws, ⟨_, _, rfl⟩, e7 _ _ hus, tus.mono (ex_tx e7), e7 _ _ hws, tws.mono (ex_tx e7), ndG, reG, clG, fun s hs => nomatch hs⟩)
          (fun H7 e7 nt7 j st z σ2 H8 hst2 ex8 hP kz => ?_) (fun H7 σ2 H8 e7 ex8 hP => ?_)
        · obtain ⟨G, us, ws, ⟨y7, y8, rfl⟩, hus, tus, hws, tws, ndG, reG, clG, done⟩ := hP
          obtain rfl := kz.int_inv
          refine g_name ?_
          dsimp only
          have hsm := List.mem_filter.mp (List.mem_of_getElem? hst2)
          have hs01 := mem_rng.mp hsm.1
          have e8x : TX H6 H8 := (ex_tx e7).trans (ex8.tx nt7)
          have thR : Reach ls (stepP pr st) := reach_step hpr hs01.1 hs01.2 hsm.2
          refine q_asgD (d := dPr (stepP pr st)) (evd_callV (vs := [rv, mv, .int st]) (ea_cons (ev_var rfl) (ea_cons (ev_var rfl) (ea_cons (ev_var rfl) ea_nil))) fun H9 e9 Q E q => ⟨rv, mv, ls.length, pr.1, pr.2, st, rfl, (trv.mono e8x).mono (ex_tx e9), (tmv.mono e8x).mono (ex_tx e9), pmr, mlr, n3, by omega, hs01.1, hs01.2, q⟩) fun th H9 e9 tth => ?_
          have blen := bound _ ndG reG
          have nxt_ : ∀ s ∈ ((rng 0 (ls.length : Int)).filter fun s => may ls pr.1 s).take (j + 1), s ∈ ((rng 0 (ls.length : Int)).filter fun s => may ls pr.1 s).take j ∨ s = st := fun s hs => by
            rw [List.take_succ, hst2] at hs
            rcases List.mem_append.mp hs with z | z
            · exact .inl z
            · exact .inr (List.mem_singleton.mp z)
          refine s_when (b := !decide (stepP pr st ∈ L ++ G)) (et_test (ev_is (ev_niLD (evd_var rfl tth) (ev_var rfl) ⟨us, e9 _ _ hus, tus.mono (ex_tx e9)⟩ (Sh.ok (sh_dPr _)) (shL _)) (by rw [any_enc dPr eqv_dPr]; congr))) (fun hb2 H10 e10 => ?_) (fun hb2 H10 e10 => ?_)
          · have hni : ¬ stepP pr st ∈ L ++ G := fun z => by rw [decide_eq_true z] at hb2; cases hb2
            have e910 := e9.trans e10
            have tus10 := tus.mono (ex_tx e910)
            have tws10 := tws.mono (ex_tx e910)
            have tth10 := tth.mono (ex_tx e10)
            refine q_appD (e910 _ _ hus) (ev_var rfl) (evd_var rfl tth10) (by rw [tus.length, List.length_map]; omega) fun v1 H11 e11 tv1 => ?_
            have tA : TX H11 (upd H11 f (.lst (us ++ [v1]))) := tx_lst (TX.refl H11) (e11 _ _ (e910 _ _ hus))
            have hws11 : (upd H11 f (.lst (us ++ [v1]))) fu = some (.lst ws) := by rw [upd_ne nfu]; exact e11 _ _ (e910 _ _ hws)
            refine s_appD hws11 (ev_var rfl) (evd_var rfl ((tth10.mono (ex_tx e11)).mono tA)) (by rw [tws.length, List.length_map]; rw [List.length_append] at blen; omega) fun v2 H12 e12' tv2 => ?_
            have tB' : TX H12 (upd H12 fu (.lst (ws ++ [v2]))) := tx_lst (TX.refl H12) (e12' _ _ hws11)
            have exA : ExX (fun a => a = f ∨ a = fu) H7 (upd H11 f (.lst (us ++ [v1]))) := (ex8.then (e910.trans e11)).put (.inl rfl)
            have exB : ExX (fun a => a = f ∨ a = fu) H7 (upd H12 fu (.lst (ws ++ [v2]))) := (exA.then e12').put (.inr rfl)
            have ea : L ++ (G ++ [stepP pr st]) = (L ++ G) ++ [stepP pr st] := (List.append_assoc _ _ _).symm
            refine ⟨exB, G ++ [stepP pr st], us ++ [v1], ws ++ [v2], ⟨_, _, rfl⟩, ?_, ?_, upd_same, ?_, ?_, ?_, ?_, ?_⟩
            · rw [upd_ne (Ne.symm nfu)]
              exact e12' _ _ upd_same
            · rw [ea, List.map_append]
              exact ((((tus10.mono (ex_tx e11)).snoc tv1).mono tA).mono (ex_tx e12')).mono tB'
            · rw [List.map_append]
              exact (((((tws10.mono (ex_tx e11)).mono tA).mono (ex_tx e12')).snoc tv2)).mono tB'
            · rw [ea]
              refine List.nodup_append.mpr ⟨ndG, nod1 _, fun a haa b hbb e => hni ?_⟩
              rw [List.mem_singleton] at hbb
              rw [← hbb, ← e]
              exact haa
            · rw [ea]
              intro p hp
              rcases List.mem_append.mp hp with z | z
              · exact reG p z
              · rw [List.mem_singleton.mp z]; exact thR
            · rw [ea]
              exact fun p hp => (clG p hp).mono fun q hq => List.mem_append_left _ hq
            · rw [ea]
              intro s hs
              rcases nxt_ s hs with z | z
              · exact List.mem_append_left _ (done s z)
              · rw [z]; exact List.mem_append_right _ (List.mem_singleton.mpr rfl)
          · have hin : stepP pr st ∈ L ++ G := by
              by_cases z : stepP pr st ∈ L ++ G
              · exact z
              · rw [decide_eq_false z] at hb2
                cases hb2
            have e910 := e9.trans e10
            refine ⟨ex8.then e910, G, us, ws, ⟨_, _, rfl⟩, e910 _ _ hus, tus.mono (ex_tx e910), e910 _ _ hws, tws.mono (ex_tx e910), ndG, reG, clG, fun s hs => ?_⟩
            rcases nxt_ s hs with z | z
            · exact done s z
            · rw [z]; exact hin
        · obtain ⟨G, us, ws, ⟨y7, y8, rfl⟩, hus, tus, hws, tws, ndG, reG, clG, done⟩ := hP
          rw [List.take_length] at done
          refine ⟨ex6.trans ((exx_of e7).trans ex8), G, us, ws, ⟨_, _, _, _, rfl⟩, hus, tus, hws, tws, ndG, reG, fun p hp => ?_⟩
          rw [List.take_succ, ha] at hp
          rcases List.mem_append.mp hp with z | z
          · exact clG p z
          · rw [List.mem_singleton.mp z]
            exact fun s s0 s1 hm => done s (List.mem_filter.mpr ⟨mem_rng.mpr ⟨s0, s1⟩, hm⟩)
      · obtain ⟨G, us, ws, ⟨y5', y6', y7', y8', rfl⟩, hus, tus, hws, tws, ndG, reG, clG⟩ := hP
        rw [List.take_length] at clG
        refine s_asg (v := .ref fu) (ev_var rfl) fun H7 e7 => ⟨fu, L ++ G, G, us, ⟨_, _, _, _, _, rfl⟩, ?_, fuH, nfu, e7 _ _ hus, tus.mono (ex_tx e7), ⟨ws, e7 _ _ hws, tws.mono (ex_tx e7)⟩, ndG, reG, List.mem_append_left _ hst, fun p hp => List.mem_append_right _ hp, fun p hp hn => ?_, ?_⟩
        · intro b o nb hb2
          have nfu2 : ¬ (b = f ∨ b = fu) := fun z => by
            rcases z with z | z
            · exact nb z
            · rw [z, fuH2] at hb2
              cases hb2
          exact e7 _ _ (ex6 b o nfu2 (ex5 b o nb hb2))
        · rcases List.mem_append.mp hp with z | z
          · by_cases hpF : p ∈ F
            · exact clG p hpF
            · exact (hcl p z hpF).mono fun q hq => List.mem_append_left _ hq
          · exact absurd z hn
        · have b1 := bound _ ndG reG
          rw [List.length_append] at b1 ⊢
          by_cases hG : G = []
          · rw [if_pos hG, hG]
            show 2 * (U.length - (L.length + 0)) + 0 ≤ m - 1
            omega
          · rw [if_neg hG]
            have : 0 < G.length := List.length_pos_iff.mpr hG
            omega
    · -- done
      have hF : F = [] := by
        cases F with
        | nil => rfl
        | cons a r => cases hb
      rw [hF] at hcl
      have all : ∀ p, p ∈ L ↔ Reach ls p := fun p => ⟨hre p, fun r => reach_all hst (fun p hp => hcl p hp fun z => nomatch z) r⟩
      refine s_ret (ev_var (v := .ref f) rfl) fun H5 e5 => q f xs L H5 fH ?_ ((e4.trans e5) _ _ hx) (tx.mono (ex_tx (e4.trans e5))) all (Nat.le_trans (bound L nd hre) hUl)
      exact (ex.back e12 (fun x z => by rw [z]; exact fH)).trans (e4.trans e5)
end
end K57
set_option Elab.async false
set_option linter.all false
set_option maxRecDepth 100000
set_option maxHeartbeats 4000000
/-! the law's question of one row -/
namespace K57
open PySem PySem.Spec PyProof.Rows L2 Evl R57
/-- two values by keywords alone, in the other order -/
def swapK {α : Type} : List α → List α → List α
  | [], [a, b] => [b, a]
  | _, _ => []
theorem Top.kb_reach_ring {K : PySem.W.Frag} {mg : Str → Option Value} (T : Top K mg) : KBinds K T.fd_reach_ring ["rankings", "arrangement"] ["arrangement", "rankings"] swapK swapK := by
  constructor
  · intro s us ws hK hl
    obtain ⟨oc, od, dV, kV, doc, pm, an, cdv, ct, osl, efd, lk, hcd, hD, hKw⟩ := T.F_reach_ring.ex
    rw [efd]
    match us, ws, hl with
    | [], [a, b], _ =>
      rcases hD with ⟨_, rfl⟩ | ⟨e, _⟩
      · exact .of_eq rfl
      · exact absurd rfl e
  · intro vs us zs ws r1 r2
    cases r1 with
    | nil =>
      cases r2 with
      | nil => exact .nil
      | cons h1 t1 =>
        cases t1 with
        | nil => exact .nil
        | cons h2 t2 =>
          cases t2 with
          | nil => exact .cons h2 (.cons h1 .nil)
          | cons h3 t3 => exact .nil
    | cons h1 t1 => exact .nil
section
variable {K : PySem.W.Frag}
theorem walk_zipM {a b : Addr} {xs ys : List V} {n : Nat} (h1 : xs.length = n) (h2 : ys.length = n) : Walk (IzM K a b xs ys) n (fun H => SqL K H a xs ∧ SqT K H b ys) (YPair (fun i => xs[i]?) (fun i => ys[i]?)) := by
  refine ⟨fun i H hi q => ⟨q.1, q.2, by omega, by omega⟩, fun H q => ⟨q.1, q.2, by omega, by omega, .inl h1.symm⟩, fun i H v H' _ q y => ?_⟩
  obtain ⟨T, x, z, e1, e2, e3, e4, e5⟩ := y
  exact ⟨T, x, z, e1, e2, e3, e4, e5⟩
end
theorem encR_word (r : Rep) : ∃ d, encR r = .tuple [.str (wordOf r), d] := by
  cases r with
  | seq l => exact ⟨_, rfl⟩
  | tri t => exact ⟨_, rfl⟩
  | ref t => exact ⟨_, rfl⟩
theorem eqv_str1 (x : Str) : PyData.eqv (.list [.str x]) (.list [.str x]) = true := by
  simp only [PyData.eqv, PyData.eqvAll]
  simp
theorem sh_str (x : Str) (h : PyData.strOk x = true) : Sh 1 (.str x) := ⟨by simp only [PyData.canLay0]; exact h, by simp only [PyData.depth] <;> omega⟩
theorem word_ok (r : Rep) : PyData.strOk (wordOf r) = true := by
  cases r with
  | seq l => exact (show PyData.strOk "sequence" = true by decide +kernel)
  | tri l => exact (show PyData.strOk "triple" = true by decide +kernel)
  | ref l => exact (show PyData.strOk "refused" = true by decide +kernel)
theorem word_ne {r : Rep} (h : isSeq r = false) : decide (wordOf r = "sequence") = false := by
  cases r with
  | seq l => cases h
  | tri l => exact (show decide (("triple" : Str) = "sequence") = false by decide +kernel)
  | ref l => exact (show decide (("refused" : Str) = "sequence") = false by decide +kernel)
section
variable {P : Program} {w : World} {K : PySem.W.Frag} {mg : Str → Option Value} {base : Heap}
/-- _law_right -/
def sp_law_right : Sp := fun vs H Q _ => ∃ (v u : V) (rs : Addr) (ls : List (List Int)) (row : List Int) (rows : List (List Int)), vs = [v, u, .ref rs] ∧ TD H v (dLs ls) ∧ TD H u (dT row) ∧ LD H rs (rows.map dT) ∧ Rk ls ∧ Pm ls.length row ∧ Fin1 ls.length ∧
  (row ∈ rows ↔ ∃ d ∈ options row, good ls d = true) ∧ RetV (.bl true) H Q
theorem ok_law_right (T : Top K mg) : FnOk P w K mg base CX0 7 T.f_law_right T.fd_law_right ["_law_lists", "_law_row", "_law_rows"] sp_law_right := by
  have G_reach_ring := ok_reach_ring (P := P) (w := w) (base := base) T
  have G_law_ring_run := ok_law_ring_run (P := P) (w := w) (base := base) T
  have G_law_ring_choices := ok_law_ring_choices (P := P) (w := w) (base := base) T
  have G_law_ring_word := ok_law_ring_word (P := P) (w := w) (base := base) T
  refine T.F_law_right.ok sc_law_right (fun vs H Q E h => ?_) (fun cdv A outer s H vs Q E hr h => ?_)
  · obtain ⟨v, u, rs, ls, row, rows, rfl, _⟩ := h
    rfl
  · obtain ⟨v, u, rs, ls, row, rows, rfl, t, tu, hrs, rk, pm, fin, hiff, q⟩ := h
    refine ⟨_, PSs.nox (pss_cons (ps_for PassesOwn.never rfl (pi_list (pe_lst (pa_cons (pe_call G_reach_ring hr (by rfl) T.g_reach_ring T.kp_reach_ring T.b_reach_ring .nil pass0 (pa_cons (pv 0) (pa_cons (pv 1) pa_nil))) (pa_cons (pe_callK0 G_reach_ring hr (by rfl) T.g_reach_ring T.kp_reach_ring T.kb_reach_ring pass0 (pk_cons (pv 1) (pk_cons (pv 0) pk_nil))) pa_nil)))) (pg_name (i := 3) sc_law_right.nd rfl (Or.inl rfl))
    (pss_cons (ps_if (PW.pt (pw_or (pt_not (pt_val (pe_callB call_isi (by rfl) T.z_isinstance bt_isinstance (pa_cons (pv 3) (pa_cons (pe_bltn (v := V.ty "tuple") (by rfl) T.z_tuple bt_tuple rfl) pa_nil))))) (pw_or (pt_cmpR op_ne (pe_callB call_len_seq (by rfl) T.z_len bt_len (pa_cons (pv 3) pa_nil)) pe_int (nomark _)) (pw_or1 (pt_cmpR op_ne (pe_ix ix_tup (pv 3) pe_int (fun _ _ => rfl)) (pe_ifExp (pt_cmpR (op_inD (hu65 hr)) (pv 1) (pv 2) rfl) pe_str pe_str) (nomark _))))))
    (pss_one (ps_ret pe_bl)) pss_nil)
    (pss_one (ps_if (pt_cmpR op_eq (pe_ix ix_tup (pv 3) pe_int (fun _ _ => rfl)) pe_str (nomark _))
    (pss_cons (ps_set (i := 4) sc_law_right.nd rfl (Or.inl rfl) (pe_call G_law_ring_run (hr.mono (by decide)) (by rfl) T.g_law_ring_run T.kp_law_ring_run T.b_law_ring_run .nil pass0 (pa_cons (pv 0) (pa_cons (pe_ix ix_tup (pv 3) pe_int (fun _ _ => rfl)) pa_nil))))
    (pss_one (ps_if (PW.pt (pw_or (pt_cmpR op_isN (pv 4) pe_non (nomark _)) (pw_or1 (pt_cmpR (op_notInD (hu65 hr)) (pv 4) (pe_call G_law_ring_choices (hr.mono (by decide)) (by rfl) T.g_law_ring_choices T.kp_law_ring_choices T.b_law_ring_choices .nil pass0 (pa_cons (pv 1) pa_nil)) rfl))))
    (pss_one (ps_ret pe_bl)) pss_nil))) (pss_cons (ps_set (i := 5) sc_law_right.nd rfl (Or.inl rfl) (pe_call G_law_ring_choices (hr.mono (by decide)) (by rfl) T.g_law_ring_choices T.kp_law_ring_choices T.b_law_ring_choices .nil pass0 (pa_cons (pv 1) pa_nil)))
    (pss_cons (ps_if (PW.pt (pw_or (pt_not (pt_val (pe_callB call_isi (by rfl) T.z_isinstance bt_isinstance (pa_cons (pe_ix ix_tup (pv 3) pe_int (fun _ _ => rfl)) (pa_cons (pe_bltn (v := V.ty "tuple") (by rfl) T.z_tuple bt_tuple rfl) pa_nil))))) (pw_or1 (pt_cmpR op_ne (pe_callB call_len_seq (by rfl) T.z_len bt_len (pa_cons (pe_ix ix_tup (pv 3) pe_int (fun _ _ => rfl)) pa_nil)) (pe_callB call_len_seq (by rfl) T.z_len bt_len (pa_cons (pv 5) pa_nil)) (nomark _)))))
    (pss_one (ps_ret pe_bl)) pss_nil)
    (pss_one (ps_for PassesOwn.never rfl (pi_zipM (by rfl) T.z_zip (pa_cons (pv 5) (pa_cons (pe_ix ix_tup (pv 3) pe_int (fun _ _ => rfl)) pa_nil))) (pg_tup rfl (pgs_cons (pg_name (i := 4) sc_law_right.nd rfl (Or.inl rfl)) (pgs_cons (pg_name (i := 6) sc_law_right.nd rfl (Or.inl rfl)) pgs_nil)))
    (pss_one (ps_if (PW.pt (pw_or (pt_cmpR op_eq (pe_ix ix_tup (pv 6) pe_int (fun _ _ => rfl)) pe_str (nomark _)) (pw_or1 (pt_cmpR (op_neD (hu64 hr)) (pe_call G_law_ring_word (hr.mono (by decide)) (by rfl) T.g_law_ring_word T.kp_law_ring_word T.b_law_ring_word .nil pass0 (pa_cons (pv 0) (pa_cons (pv 4) (pa_cons (pv 6) pa_nil)))) (pe_lst (pa_cons (pe_ix ix_tup (pv 6) pe_int (fun _ _ => rfl)) pa_nil)) (nomark _)))))
    (pss_one (ps_ret pe_bl)) pss_nil))))))))))
    (pss_one (ps_ret pe_bl))), ?_⟩
    have rl := pm.length
    have n3 := fin.pos
    have n6 := fin.few
    have hch : ∀ d ∈ options row, Ch ls.length row d := fun d hd => Ch.of (by omega) pm hd
    have hen : ∀ d ∈ options row, Ends d := fun d hd ht => (seq_of rk fin (hch d hd) ht).1
    have shRows : SeqAt.shaped (.list (rows.map dT)) = true := Sh.ok (sh_maps dT (fun _ => sh_dT _) _)
    have shOpts : SeqAt.shaped (.list ((options row).map dT)) = true := Sh.ok (sh_maps dT (fun _ => sh_dT _) _)
    have two : EvN (tLst (tCons (tCall sp_reach_ring [] E0 (tCons (tVar 0) (tCons (tVar 1) tNil))) (tCons (tCallK sp_reach_ring swapK E0 tNil (tCons (tVar 1) (tCons (tVar 0) tNil))) tNil))) (start n_law_right [v, u, .ref rs]) H ([(), ()].map fun _ => reach ls row) := by
      refine evn_lst (ead_cons ?_ (ead_cons ?_ ead_nil)) (by show 2 ≤ 1000; decide)
      · exact evd_callV (vs := [v, u]) (ea_cons (ev_var rfl) (ea_cons (ev_var rfl) ea_nil)) fun H1 e1 Q E q => ⟨v, u, ls, row, rfl, t.mono (ex_tx e1), tu.mono (ex_tx e1), rk, pm, n3, n6, hen, q⟩
      · intro H1 e1 Q q
        exact ⟨_, rfl, _, rfl, v, u, ls, row, rfl, t.mono (ex_tx e1), tu.mono (ex_tx e1), rk, pm, n3, n6, hen, q⟩
    refine q_forN [(), ()] (fun _ => reach ls row) two (fun i σ' H' => ∃ y3 y4 y5 y6, σ' = [some v, some u, some (.ref rs), y3, y4, y5, y6]) (fun H1 e1 => ⟨none, none, none, none, rfl⟩) (fun H1 e1 i a x σ' H' ha ex hP k => ?_) (fun H1 σ' H' e1 ex hP => ?_)
    · obtain ⟨y3, y4, y5, y6, rfl⟩ := hP
      refine g_name ?_
      dsimp only
      have e01 := e1.trans ex
      have rowin : ∀ {H' : Hp} {y3 y4 y5 y6 : Option V}, Ex H H' → Ev (tOp (rInD K) (tVar 1) (tVar 2)) [some v, some u, some (.ref rs), y3, y4, y5, y6] H' (.bl (decide (row ∈ rows))) := fun {H' y3 y4 y5 y6} e => ev_is (ev_inLD (evd_var (v := u) rfl (tu.mono (ex_tx e))) (ev_var (v := .ref rs) rfl) (hrs.mono e) (Sh.ok (sh_dT _)) shRows) (by rw [any_enc dT eqv_dT]; congr)
      cases hf : (options row).find? (good ls) with
      | some d =>
        -- reached
        have hd := List.mem_of_find?_eq_some hf
        have hg : good ls d = true := List.find?_some hf
        have hin : row ∈ rows := hiff.mpr ⟨d, hd, hg⟩
        have hre : reach ls row = .tuple [.str "sequence", dT (seqFor d)] := by
          unfold reach
          rw [hf]
          rfl
        rw [hre] at k
        have vx : ∀ {H2 : Hp} {y4 y5 y6 : Option V}, Ex H' H2 → EvD (tVar 3) [some v, some u, some (.ref rs), some x, y4, y5, y6] H2 (.tuple [.str "sequence", dT (seqFor d)]) := fun {H2 y4 y5 y6} e => evd_var (v := x) rfl (k.mono (ex_tx e))
        refine q_when (b := false) (et_or (a := false) (et_not (a := true) (et_B (evd_isiT (vx (Ex.refl _)) (by decide +kernel)))) fun _ => et_or (a := false) (et_test (ev_is (ev_neI (ev_lenT (vx (Ex.refl _))) ev_c) (by rfl))) fun _ =>
          et_test (ev_is (ev_neS (y := "sequence") (ev_s (evd_ixT (vx (Ex.refl _)) ev_c (i := 0) (at0 _ _))) (ev_if (b := true) (et_test (ev_is (rowin e01) (by rw [decide_eq_true hin]))) (fun _ => ev_c) (fun h => nomatch h))) (congrArg V.bl (show (!decide (("sequence" : Str) = "sequence")) = false by decide +kernel)))) (fun h => nomatch h) fun _ H2 e2 => ?_
        refine s_if (b := true) (et_test (ev_is (ev_eqS (ev_s (evd_ixT (vx e2) ev_c (i := 0) (at0 _ _))) ev_c) (congrArg V.bl (show decide (("sequence" : Str) = "sequence") = true by decide +kernel)))) (fun _ H3 e3 => ?_) (fun h => nomatch h)
        have e23 := e2.trans e3
        have run := (good_reach rk fin (hch d hd) hg).1
        have dor : dOL (runL ls (seqFor d) (rng 0 (ls.length : Int)) (List.replicate ls.length 0)) = dT d := by rw [run] <;> rfl
        refine q_asgD (d := dT d) (evd_call (ds := [dLs ls, dT (seqFor d)]) (ead_cons (evd_var (v := v) rfl (t.mono (ex_tx (e01.trans e23)))) (ead_cons (evd_ixT (vx e23) ev_c (i := 1) (at1 _ _ _)) ead_nil)) fun vs H4 e4 tvs Q E q => by
          obtain ⟨z1, r1, rfl, tz1, tr1⟩ := tvs.cons_inv
          obtain ⟨z2, r2, rfl, tz2, tr2⟩ := tr1.cons_inv
          obtain rfl := tr2.nil_inv
          exact ⟨z1, z2, ls, seqFor d, rfl, tz1, tz2, rk, n3, by rw [dor]; exact q⟩) fun mv H4 e4 tmv => ?_
        have e14 := e01.trans (e23.trans e4)
        refine s_when (b := false) (et_or (a := false) (et_test (ev_is (evd_isN (evd_var rfl tmv)) rfl)) fun _ => et_test (ev_is (ev_niND (evd_var rfl tmv) (sn_choices (tu.mono (ex_tx e14)) (by omega) (by rw [rl]; exact pm) (ea_cons (ev_var rfl) ea_nil)) (Sh.ok (sh_dT _)) shOpts) (by rw [any_in dT eqv_dT hd] <;> rfl))) (fun h => nomatch h) fun _ H5 e5 => ⟨ex.trans ((e23.trans e4).trans e5), _, _, _, _, rfl⟩
      | none =>
        have hnone := List.find?_eq_none.mp hf
        have hin : ¬ row ∈ rows := fun z => by
          obtain ⟨d, hd, hg⟩ := hiff.mp z
          exact hnone d hd hg
        have hre : reach ls row = .tuple [.str "none", .tuple ((options row).map fun d => encR (dec ls d))] := by
          unfold reach
          rw [hf]
        rw [hre] at k
        have vx : ∀ {H2 : Hp} {y4 y5 y6 : Option V}, Ex H' H2 → EvD (tVar 3) [some v, some u, some (.ref rs), some x, y4, y5, y6] H2 (.tuple [.str "none", .tuple ((options row).map fun d => encR (dec ls d))]) := fun {H2 y4 y5 y6} e => evd_var (v := x) rfl (k.mono (ex_tx e))
        refine q_when (b := false) (et_or (a := false) (et_not (a := true) (et_B (evd_isiT (vx (Ex.refl _)) (by decide +kernel)))) fun _ => et_or (a := false) (et_test (ev_is (ev_neI (ev_lenT (vx (Ex.refl _))) ev_c) (by rfl))) fun _ =>
          et_test (ev_is (ev_neS (y := "none") (ev_s (evd_ixT (vx (Ex.refl _)) ev_c (i := 0) (at0 _ _))) (ev_if (b := false) (et_test (ev_is (rowin e01) (by rw [decide_eq_false hin]))) (fun h => nomatch h) (fun _ => ev_c))) (congrArg V.bl (show (!decide (("none" : Str) = "none")) = false by decide +kernel)))) (fun h => nomatch h) fun _ H2 e2 => ?_
        refine s_if (b := false) (et_test (ev_is (ev_eqS (ev_s (evd_ixT (vx e2) ev_c (i := 0) (at0 _ _))) ev_c) (congrArg V.bl (show decide (("none" : Str) = "sequence") = false by decide +kernel)))) (fun h => nomatch h) (fun _ H3 e3 => ?_)
        have e23 := e2.trans e3
        have e13 := e01.trans e23
        refine q_asgN (sn_choices (tu.mono (ex_tx e13)) (by omega) (by rw [rl]; exact pm) (ea_cons (ev_var rfl) ea_nil)) fun so ss H4 hso e4 h4 ts4 => ?_
        have e24 := e23.trans e4
        have part : ∀ {H5 : Hp} {y4 y6 : Option V}, Ex H' H5 → EvD (tOp (rIxT K) (tVar 3) (tC (.int 1))) [some v, some u, some (.ref rs), some x, y4, some (.ref so), y6] H5 (.tuple ((options row).map fun d => encR (dec ls d))) := fun {H5 y4 y6} e => evd_ixT (vx e) ev_c (i := 1) (at1 _ _ _)
        refine q_when (b := false) (et_or (a := false) (et_not (a := true) (et_B (evd_isiT (part e24) (by decide +kernel)))) fun _ => et_test (ev_is (ev_neI (ev_lenT (part e24)) (ev_lenL (ev_var rfl) ⟨ss, h4, ts4⟩)) (by rw [List.length_map, List.length_map, decide_eq_true rfl] <;> rfl))) (fun h => nomatch h) fun _ H5 e5 => ?_
        have e25 := e24.trans e5
        refine ⟨.ref so, rfl, ?_⟩
        refine part e25 H5 (Ex.refl _) _ fun z H7 e7 tz => ?_
        obtain ⟨pz, ws, rfl, hz, tws⟩ := tz.tup_inv
        have e47 := e5.trans e7
        have e27 := e24.trans e47
        have sl : ss.length = (options row).length := by rw [ts4.length, List.length_map]
        have wl : ws.length = (options row).length := by rw [tws.length, List.length_map]
        refine ⟨so, pz, ss, ws, rfl, SqL.of (e47 _ _ h4), hz.sq, ?_⟩
        refine for_it (walk_zipM sl wl) (fun j σ2 H8 => (∃ y4 y6, σ2 = [some v, some u, some (.ref rs), some x, y4, some (.ref so), y6]) ∧ Ex H7 H8) ⟨⟨_, _, rfl⟩, Ex.refl _⟩ (fun j σ2 H8 _ p => ⟨SqL.of ((e47.trans p.2) _ _ h4), (hz.mono p.2).sq⟩) (fun j y σ2 H8 H9 hj hP yy => ?_) (fun σ2 H8 hP => ?_)
        · obtain ⟨⟨y4, y6, rfl⟩, ex8⟩ := hP
          obtain ⟨Tt, z1, z2, rfl, hT, rfl, hz1, hz2⟩ := yy
          have e9 : Ex H8 (upd H8 Tt (.tup [z1, z2])) := Ex.new hT
          obtain ⟨dj, hdj⟩ : ∃ d, (options row)[j]? = some d := ⟨(options row)[j]'hj, List.getElem?_eq_getElem hj⟩
          have mdj := List.mem_of_getElem? hdj
          obtain ⟨w1, g1, g2⟩ := ts4.get (j := j) (d := dT dj) (by rw [List.getElem?_map, hdj] <;> rfl)
          obtain ⟨w2, g3, g4⟩ := tws.get (j := j) (d := encR (dec ls dj)) (by rw [List.getElem?_map, hdj] <;> rfl)
          have hz1' : ss[j]? = some z1 := hz1
          have hz2' : ws[j]? = some z2 := hz2
          obtain rfl := Option.some.inj (hz1'.symm.trans g1)
          obtain rfl := Option.some.inj (hz2'.symm.trans g3)
          refine ⟨Tt, [z1, z2], rfl, SqT.of upd_same, rfl, _, _, rfl, _, _, rfl, rfl, ?_⟩
          have e10 := ex8.trans e9
          have td := g2.mono (ex_tx (e47.trans e10))
          have tr := g4.mono (ex_tx e10)
          have c := hch dj mdj
          have hns : isSeq (dec ls dj) = false := by
            rw [isSeq_dec]
            cases hg : good ls dj with
            | false => rfl
            | true => exact absurd hg (hnone dj mdj)
          obtain ⟨dd, hdd⟩ := encR_word (dec ls dj)
          have vr : ∀ {H2 : Hp}, Ex (upd H8 Tt (.tup [z1, z2])) H2 → EvD (tVar 6) [some v, some u, some (.ref rs), some x, some z1, some (.ref so), some z2] H2 (.tuple [.str (wordOf (dec ls dj)), dd]) := fun {H2} e => evd_var (v := z2) rfl (by rw [← hdd]; exact tr.mono (ex_tx e))
          have word : EvN (tCall sp_law_ring_word [] E0 (tCons (tVar 0) (tCons (tVar 4) (tCons (tVar 6) tNil)))) [some v, some u, some (.ref rs), some x, some z1, some (.ref so), some z2] (upd H8 Tt (.tup [z1, z2])) [.str (wordOf (dec ls dj))] :=
            evn_callV (vs := [v, z1, z2]) (ea_cons (ev_var rfl) (ea_cons (ev_var rfl) (ea_cons (ev_var rfl) ea_nil))) fun H11 e11 Q E q => ⟨v, z1, z2, ls, dj, rfl, t.mono (ex_tx (((e01.trans e27).trans e10).trans e11)), td.mono (ex_tx e11), tr.mono (ex_tx e11), hns, rk, c.len, by rw [c.len]; omega, c.smallD, q⟩
          have shW : SeqAt.shaped (.list [.str (wordOf (dec ls dj))]) = true := Sh.ok (k := 2) (sh_list fun d hd => by rw [List.mem_singleton.mp hd]; exact sh_str _ (word_ok _))
          refine s_when (b := false) (et_or (a := false) (et_test (ev_is (ev_eqS (ev_s (evd_ixT (vr (Ex.refl _)) ev_c (i := 0) (at0 _ _))) ev_c) (by rw [word_ne hns]))) fun _ => et_test (ev_is (ev_neNN word (evn_lst (ds := [.str (wordOf (dec ls dj))]) (ead_cons (evd_ixT (vr (Ex.refl _)) ev_c (i := 0) (at0 _ _)) ead_nil) (by show 1 ≤ 1000; decide)) shW shW) (by rw [eqv_str1] <;> rfl))) (fun h => nomatch h) fun _ H10 e11 => ⟨⟨_, _, rfl⟩, e10.trans e11⟩
        · obtain ⟨⟨y4, y6, rfl⟩, ex8⟩ := hP
          exact ⟨(ex.trans e27).trans ex8, _, _, _, _, rfl⟩
    · obtain ⟨y3, y4, y5, y6, rfl⟩ := hP
      exact s_ret (v := .bl true) ev_c fun H2 e2 => q H2 ((e1.trans ex).trans e2)
end
end K57
set_option Elab.async false
set_option linter.all false
set_option maxRecDepth 100000
set_option maxHeartbeats 4000000
/-! the law -/
namespace K57
open PySem PySem.Spec PyProof.Rows L2 Evl R57
section
variable {K : PySem.W.Frag} {σ : L2.St} {H : Hp} {te ta tb tl tt : TE} {D : L2.Ends} {tu tz : TS} {B : Nat} {m gr c : Addr} {E : XK} {ds : List PyData}
/-- list(range(n)) -/
theorem evn_listRg {n : Nat} (h : Ev tb σ H (.int n)) (h3 : n ≤ 1000) : EvN (tLstRg (tRg1 tb)) σ H ((rng 0 (n : Int)).map PyData.int) := fun H1 e Q q =>
  h H1 e _ fun H2 e2 => ⟨n, rfl, RgOk.of_le (by omega) (by omega) (by omega) (by omega), fun r hr => by
    have er : rgV 0 (n : Int) = (rng 0 (n : Int)).map V.int := by
      unfold rgV rng
      rw [List.map_map] <;> rfl
    rw [er]
    exact q r _ _ (fresh_back e2 hr) (e2.trans (Ex.new hr)) upd_same (.ints _)⟩
/-- xs[:k] -/
theorem evn_take {a : Addr} {k : Nat} (h : Ev ta σ H (.ref a)) (hl : LD H a ds) (hk : Ev tb σ H (.int k)) : EvN (tSl (rSlL K) ta tNoPart (tPart tb)) σ H (ds.take k) := fun H1 e Q q =>
  h H1 e _ fun H2 e2 => hk H2 (e.trans e2) _ fun H3 e3 => by
    obtain ⟨xs, h1, h2⟩ := hl.mono ((e.trans e2).trans e3)
    refine ⟨(k : Int), rfl, a, xs, rfl, SqL.of h1, fun p hp => ?_⟩
    have e4 : cutV xs none (some (k : Int)) = xs.take k := by
      have g : HT.sIx xs.length xs.length (some (k : Int)) = min k xs.length := HT.sIx_nat _ _ _
      unfold cutV
      rw [g, HT.sIx_none, List.drop_zero, Nat.sub_zero]
      by_cases hkx : k ≤ xs.length
      · rw [Nat.min_eq_left hkx]
      · rw [Nat.min_eq_right (by omega), List.take_length, List.take_of_length_le (by omega)]
    rw [e4]
    exact q p _ _ (fresh_back (e2.trans e3) hp) ((e2.trans e3).trans (Ex.new hp)) upd_same ((h2.take k).mono (ex_tx (Ex.new hp)))
/-- tuple(_law_mixed_up(m, list(range(n)))) -/
theorem mixT_run {jm n : Nat} (hm : σ[jm]? = some (some (.ref m))) (hn : Ev tb σ H (.int n)) (h6 : n ≤ 100) (bag : Bag B H m gr c) (hB : B ≤ 900000) {Q : VK} (q : ∀ v row H', Mv m gr H H' → Bag (B + 100) H' m gr c → TD H' v (dT row) → Pm n row → Q v H') :
    tCB (rTupF K) (tCons (tCall sp_law_mixed_up [] E (tCons (tVar jm) (tCons (tLstRg (tRg1 tb)) tNil))) tNil) σ H Q :=
  ⟨_, hm, evn_listRg hn (by omega) H (Ex.refl H) _ fun p xs H1 hp e1 h1 t1 => by
    obtain rfl := t1.ints_inv
    refine ⟨B, m, gr, c, p, _, rfl, bag.mono e1, hB, h1, by rw [rng_length]; omega, fun r us H2 hr v h2 pm b => ?_⟩
    refine ⟨r, us.map V.int, rfl, Or.inl ⟨SqL.of h2, fun l o hl ho => ?_⟩⟩
    exact q _ us _ (((exx_of e1).trans v).then (Ex.new hl)) (b.mono (Ex.new hl)) (.dT (.new ho)) pm⟩
/-- lists = _law_ring_lists(m, n, _law_ring_walk(m, n)[0]) -/
theorem lists_run {jm n : Nat} (hm : σ[jm]? = some (some (.ref m))) (hn : ∀ H', Ev tb σ H' (.int n)) (n3 : 3 ≤ n) (n6 : n ≤ 6) (bag : Bag B H m gr c) (hB : B ≤ 700000) {Q : VK} (q : ∀ v ls H', Mv m gr H H' → Bag (B + 3100) H' m gr c → TD H' v (dLs ls) → Rk ls → ls.length = n → Q v H') :
    tCall sp_law_ring_lists [] E (tCons (tVar jm) (tCons tb (tCons (tOp (rIxT K) (tCall sp_law_ring_walk [] E (tCons (tVar jm) (tCons tb tNil))) (tC (.int 0))) tNil))) σ H Q :=
  ⟨_, hm, hn H H (Ex.refl H) _ fun H1 e1 => ⟨_, hm, hn H1 H1 (Ex.refl H1) _ fun H2 e2 => ⟨B, m, gr, c, n, rfl, bag.mono (e1.trans e2), by omega, n3, n6, fun a hd ys H3 v3 b3 ht hld =>
    ⟨a, .ref hd :: ys, 0, .ref hd, rfl, rfl, ht.sq, at0 _ _, ⟨B + 100, m, gr, c, hd, n, rfl, b3, by omega, n3, n6, hld, fun v ls H4 v4 b4 tv hl hall => by
      refine q v ls H4 (((exx_of (e1.trans e2)).trans v3).trans v4) (b4.more (by omega)) tv ⟨by omega, by omega, ?_⟩ hl
      rw [hl]
      exact hall⟩⟩⟩⟩⟩
end
section
variable {K : PySem.W.Frag} {σ : L2.St} {H : Hp} {te tl : TE} {D : L2.Ends} {tu tz : TS} {B : Nat} {m gr c : Addr} {E : XK}
theorem tyes_if {P1 P2 : Hp → Prop} (h : P1 H) : tYes σ H fun b H3 => if b = true then P1 H3 else P2 H3 := by
  have e : (if (true : Bool) = true then P1 H else P2 H) = P1 H := if_pos rfl
  show (if (true : Bool) = true then P1 H else P2 H)
  rw [e]
  exact h
/-- if not e: .., where e gives True and may move the bag -/
theorem q_mustM {Pp : Hp → Prop} (ht : ∀ Q : VK, (∀ H1, Pp H1 → Q (.bl true) H1) → te σ H Q) (k : ∀ H1, Pp H1 → tz D σ H1) : tSeq (tIfS (tNot (tB te)) tu tNext) tz D σ H := ht _ fun H1 p => ⟨true, rfl, k H1 p⟩
/-- rows = [row for row, shifts in ..] -/
theorem q_rowsOf {i : Nat} {Pp : List Pt → Hp → Prop} (ht : ∀ R : VK, (∀ al xs L H1, H1 al = some (.lst xs) → TDs H1 xs (L.map dPr) → L.length ≤ 4000 → Pp L H1 → R (.ref al) H1) → tl σ H R) (h7 : ∀ v1 v2 : V, (((wipe σ [7, 8]).set 7 (some v1)).set 8 (some v2))[7]? = some (some v1)) (hw : ∀ v1 v2 : V, wipe (((wipe σ [7, 8]).set 7 (some v1)).set 8 (some v2)) [7, 8] = wipe σ [7, 8])
    (k : ∀ (L : List Pt) (H1 : Hp) (pr : Addr) (xr : List V) (H2 : Hp), Pp L H1 → H1 pr = none → Ex H1 H2 → H2 pr = some (.lst xr) → TDs H2 xr ((L.map (·.1)).map dT) → tz D (σ.set i (some (.ref pr))) H2) :
    tSeq (tAsg (tLc (iList K tl) (gTup K 2 (gCons (gName 7) (gCons (gName 8) gNil))) tYes (tVar 7) [7, 8]) (gName i)) tz D σ H := ht _ fun al xs L H1 h1 ts hL hp => ⟨al, rfl, ⟨xs, SqL.of h1⟩, fun Dl hD => by
  refine evn_items (Q := fun x H2 => gName i x σ H2 (tz D)) L dPr walk_list hD (fun _ => true) (fun p => dT p.1) (fun H' ex => SqL.of (ex al _ h1)) ts (by omega) (fun p x H2 _ e2 kx => ?_) (fun pr xr H2 hpr e2 h2 ts2 => ?_)
  · obtain ⟨v1, v2, t1, t2, g⟩ := g_tup2 (K := K) (σ := wipe σ [7, 8]) (i := 7) (j := 8) kx
    exact ⟨_, g, hw v1 v2, evt_yes, fun _ => evd_var (h7 v1 v2) t1⟩
  · rw [filter_all] at ts2
    refine k L H1 pr xr H2 hp hpr e2 h2 ?_
    rw [List.map_map]
    exact ts2⟩
/-- some = rows[:8] + six rows drawn -/
theorem q_someDr {n : Nat} {ra : Addr} {rws : List (List Int)} (hra : σ[5]? = some (some (.ref ra))) (hm : ∀ x : V, ((wipe σ [9]).set 9 (some x))[1]? = some (some (.ref m))) (hn : ∀ x : V, ((wipe σ [9]).set 9 (some x))[3]? = some (some (.int (n : Int)))) (hw : ∀ x : V, wipe ((wipe σ [9]).set 9 (some x)) [9] = wipe σ [9])
    (h6 : n ≤ 100) (ld : LD H ra (rws.map dT)) (bag : Bag B H m gr c) (hB : B ≤ 800000)
    (k : ∀ (so : Addr) (xs : List V) (rs : List (List Int)) (H' : Hp), Mv m gr H H' → Bag (B + 600) H' m gr c → H' so = some (.lst xs) → TDs H' xs (rs.map dT) → (∀ r ∈ rs, r ∈ rws ∨ Pm n r) → rs.length ≤ 14 → tz D (σ.set 6 (some (.ref so))) H') :
    tSeq (tAsg (tOp rCat (tSl (rSlL K) (tVar 5) tNoPart (tPart (tC (.int 8)))) (tLc (iRng1 (tCons (tC (.int 6)) tNil)) (gName 9) tYes (tCB (rTupF K) (tCons (tCall sp_law_mixed_up [] E (tCons (tVar 1) (tCons (tLstRg (tRg1 (tVar 3))) tNil))) tNil)) [9])) (gName 6)) tz D σ H :=
  evn_take (k := 8) (ev_var hra) ld ev_c H (Ex.refl H) _ fun p1 xs1 H1 hp1 e1 h1 ts1 => ⟨6, rfl, by decide, by decide, fun Dl hD => by
    have bag1 := bag.mono e1
    have fD := bag1.far hD
    have f1 := bag.far hp1
    have nD : p1 ≠ Dl := fun z => by rw [z, hD] at h1; cases h1
    refine lc_it (walk_range (lo := 0) (n := (6 : Int).toNat)) (fun i H' => Mv m gr H1 H' ∧ Bag (B + i * 100) H' m gr c ∧ ∃ (xs : List V) (rs : List (List Int)), H' Dl = some (.lst xs) ∧ TDs H' xs (rs.map dT) ∧ rs.length = i ∧ ∀ r ∈ rs, Pm n r)
      ⟨exx_of (Ex.new hD), (bag1.mono (Ex.new hD)).more (by omega), [], [], upd_same, .nil, rfl, fun r hr => (nomatch hr)⟩ (fun _ _ _ _ => trivial) (fun i x H' H2 hi hP y => ?_) (fun H2 hP => ?_)
    · obtain ⟨v1, b1, xs, rs, hx, tx, hl, hpm⟩ := hP
      obtain ⟨rfl, rfl⟩ := y
      have hi6 : i < 6 := hi
      refine ⟨hw _, ?_⟩
      refine tyes_if ?_
      refine mixT_run (jm := 1) (n := n) (hm _) (ev_var (hn _)) h6 b1 (by omega) fun v row H3 v3 b3 tv pm => ?_
      have hx3 := v3 _ _ (not2 fD) hx
      have tl3 : TX H3 (upd H3 Dl (.lst (xs ++ [v]))) := tx_lst (TX.refl H3) hx3
      refine ⟨xs, hx3, sz_lt (by rw [tx.length, List.length_map]; omega), ExX.mutF (v1.trans v3) hD, Bag.put (b3.more (by omega)) fD, xs ++ [v], rs ++ [row], upd_same, ?_, by rw [List.length_append, hl] <;> rfl, fun r hr => ?_⟩
      · rw [List.map_append]
        exact ((tx.mono (b1.tx v3)).snoc tv).mono tl3
      · rcases List.mem_append.mp hr with z | z
        · exact hpm r z
        · rw [List.mem_singleton.mp z]; exact pm
    · obtain ⟨v1, b1, xs, rs, hx, tx, hl, hpm⟩ := hP
      have hl6 : rs.length = 6 := hl
      have hp2 := v1 _ _ (not2 f1) h1
      have t1 := ts1.mono (bag1.tx v1)
      have l1 := ts1.length
      rw [List.length_take] at l1
      refine ⟨p1, Dl, xs1, xs, rfl, rfl, hp2, hx, sz_of (by rw [tx.length, List.length_map]; omega), fun r hr => ?_⟩
      refine g_name ?_
      have eN : Ex H2 (upd H2 r (.lst (xs1 ++ xs))) := Ex.new hr
      refine k r (xs1 ++ xs) (rws.take 8 ++ rs) _ ((exx_of e1).trans (v1.then eN)) ((b1.mono eN).more (by have : (6 : Int).toNat = 6 := rfl; omega)) upd_same ?_ (fun r2 hr2 => ?_) ?_
      · rw [List.map_append, List.map_take]
        exact (t1.append tx).mono (ex_tx eN)
      · rcases List.mem_append.mp hr2 with z | z
        · exact .inl (List.mem_of_mem_take z)
        · exact .inr (hpm r2 z)
      · rw [List.length_append, List.length_take, hl6]
        omega⟩
end
theorem fin1_of {n : Nat} (h : n = 3 ∨ n = 4 ∨ n = 5) : Fin2 n := by
  rcases h with h | h | h
  · rw [h]; exact fin3
  · rw [h]; exact fin4
  · rw [h]; exact fin5
section
variable {P : Program} {w : World} {K : PySem.W.Frag} {mg : Str → Option Value} {base : Heap}
/-- _law_six_right -/
def sp_law_six_right : Sp := fun vs H Q _ => ∃ (B : Nat) (m g c : Addr), vs = [.ref m] ∧ Bag B H m g c ∧ B ≤ 500000 ∧ ∀ H', Mv m g H H' → Bag (B + 10000) H' m g c → Q (.bl true) H'
theorem ok_law_six_right (T : Top K mg) : FnOk P w K mg base CX0 8 T.f_law_six_right T.fd_law_six_right ["_law_m"] sp_law_six_right := by
  have G_law_ring_lists := ok_law_ring_lists (P := P) (w := w) (base := base) T
  have G_law_ring_walk := ok_law_ring_walk (P := P) (w := w) (base := base) T
  have G_law_mixed_up := ok_law_mixed_up (P := P) (w := w) (base := base) T
  have G_law_ring_choices := ok_law_ring_choices (P := P) (w := w) (base := base) T
  have G_law_ring_triples := ok_law_ring_triples (P := P) (w := w) (base := base) T
  have G_law_ring_refusals := ok_law_ring_refusals (P := P) (w := w) (base := base) T
  have G_law_right := ok_law_right (P := P) (w := w) (base := base) T
  refine T.F_law_six_right.ok sc_law_six_right (fun vs H Q E h => ?_) (fun cdv A outer s H vs Q E hr h => ?_)
  · obtain ⟨B, m, g, c, rfl, _⟩ := h
    rfl
  · obtain ⟨B, m, g, c, rfl, bag, hB, q⟩ := h
    refine ⟨_, PSs.nox (pss_cons (ps_set (i := 1) sc_law_six_right.nd rfl (Or.inl rfl) (pe_call G_law_ring_lists (hr.mono (by decide)) (by rfl) T.g_law_ring_lists T.kp_law_ring_lists T.b_law_ring_lists .nil pass0 (pa_cons (pv 0) (pa_cons pe_int (pa_cons (pe_ix ix_tup (pe_call G_law_ring_walk (hr.mono (by decide)) (by rfl) T.g_law_ring_walk T.kp_law_ring_walk T.b_law_ring_walk .nil pass0 (pa_cons (pv 0) (pa_cons pe_int pa_nil))) pe_int (fun _ _ => rfl)) pa_nil)))))
    (pss_cons (ps_for PassesOwn.never rfl (pi_range1 (by rfl) T.z_range (pa_cons pe_int pa_nil)) (pg_name (i := 2) sc_law_six_right.nd rfl (Or.inl rfl))
    (pss_cons (ps_par (i := 3) (j := 4) (by rfl) sc_law_six_right.nd rfl rfl (by decide) rfl rfl (pa_cons (pe_callTy call_tupF (by rfl) T.z_tuple bt_tuple (pa_cons (pe_call G_law_mixed_up (hr.mono (by decide)) (by rfl) T.g_law_mixed_up T.kp_law_mixed_up T.b_law_mixed_up .nil pass0 (pa_cons (pv 0) (pa_cons (pe_listRg rfl (by rfl) T.z_list (prg_1 (by rfl) T.z_range pe_int)) pa_nil))) pa_nil)) (pa_cons (pe_lst pa_nil) pa_nil)) (by rfl))
    (pss_cons (ps_for PassesOwn.never rfl (pi_list (pe_call G_law_ring_choices (hr.mono (by decide)) (by rfl) T.g_law_ring_choices T.kp_law_ring_choices T.b_law_ring_choices .nil pass0 (pa_cons (pv 3) pa_nil))) (pg_name (i := 5) sc_law_six_right.nd rfl (Or.inl rfl))
    (pss_one (ps_if (PW.pt (pw_and (pt_cmpR (op_eqD (hu64 hr)) (pe_call G_law_ring_triples (hr.mono (by decide)) (by rfl) T.g_law_ring_triples T.kp_law_ring_triples T.b_law_ring_triples .nil pass0 (pa_cons (pv 5) pa_nil)) (pe_lst pa_nil) (nomark _)) (pw_and1 (pt_cmpR (op_eqD (hu64 hr)) (pe_call G_law_ring_refusals (hr.mono (by decide)) (by rfl) T.g_law_ring_refusals T.kp_law_ring_refusals T.b_law_ring_refusals .nil pass0 (pa_cons (pv 1) (pa_cons (pv 5) pa_nil))) (pe_lst pa_nil) (nomark _)))))
    (pss_one (ps_set (i := 4) sc_law_six_right.nd rfl (Or.inl rfl) (pe_lst (pa_cons (pv 3) pa_nil)))) pss_nil)))
    (pss_one (ps_if (pt_not (pt_val (pe_call G_law_right hr (by rfl) T.g_law_right T.kp_law_right T.b_law_right .nil pass0 (pa_cons (pv 1) (pa_cons (pv 3) (pa_cons (pv 4) pa_nil))))))
    (pss_one (ps_ret pe_bl)) pss_nil)))))
    (pss_one (ps_ret pe_bl)))), ?_⟩
    refine lists_run (K := K) (jm := 0) (n := 6) (tb := tC (.int 6)) rfl (fun H' => ev_c) (by decide) (by decide) bag (by omega) fun v ls H1 v1 b1 t1 rk l6 => ?_
    refine g_name ?_
    dsimp only
    refine q_forR1 (n := 2) (ea_cons ev_c ea_nil) (by decide) (fun i σ' H' => (∃ y2 y3 y4 y5, σ' = [some (.ref m), some v, y2, y3, y4, y5]) ∧ Mv m g H1 H' ∧ Bag (B + 3100 + i * 100) H' m g c)
      (fun H2 e2 => ⟨⟨none, none, none, none, rfl⟩, exx_of e2, b1.mono e2⟩) (fun i σ' H' hi hP => ?_) (fun σ' H' hP => ?_)
    · obtain ⟨⟨y2, y3, y4, y5, rfl⟩, v2, b2⟩ := hP
      refine mixT_run (K := K) (jm := 0) (n := 6) (tb := tC (.int 6)) rfl ev_c (by decide) b2 (by omega) fun rv row H3 v3 b3 trow pm => ?_
      refine ⟨sz_of (Nat.zero_le _), fun r0 hr0 => ?_⟩
      refine ⟨_, _, rfl, ?_⟩
      have e4 : Ex H3 (upd H3 r0 (.lst [])) := Ex.new hr0
      generalize hH4 : upd H3 r0 (.lst []) = H4 at e4
      have h4 : H4 r0 = some (.lst []) := by rw [← hH4]; exact upd_same
      have b4 := b3.mono e4
      have t4 := (t1.mono (b1.tx (v2.trans v3))).mono (ex_tx e4)
      have tr4 := trow.mono (ex_tx e4)
      have pm' : Pm ls.length row := by rw [l6]; exact pm
      have rl := pm.length
      have fin : Fin1 ls.length := by rw [l6]; exact fin6
      have hch : ∀ d ∈ options row, Ch ls.length row d := fun d hd => Ch.of (by omega) pm' hd
      refine q_forN (options row) dT (sn_choices tr4 (by omega) (by rw [rl]; exact pm) (ea_cons (ev_var rfl) ea_nil))
        (fun j σ2 H5 => ∃ (ra : Addr) (rows : List (List Int)), (∃ y2 y5, σ2 = [some (.ref m), some v, y2, some rv, some (.ref ra), y5]) ∧ Ex H4 H5 ∧ LD H5 ra (rows.map dT) ∧ (row ∈ rows ↔ ∃ d ∈ (options row).take j, good ls d = true))
        (fun H5 e5 => ⟨r0, [], ⟨_, _, rfl⟩, e5, ⟨[], e5 _ _ h4, .nil⟩, ⟨fun h => (nomatch h), fun ⟨_, h, _⟩ => (nomatch h)⟩⟩) (fun H5 e5 j d x σ2 H6 hd ex6 hP k => ?_) (fun H5 σ2 H6 e5 ex6 hP => ?_)
      · obtain ⟨ra, rows, ⟨y2, y5, rfl⟩, exx, ld, hiff⟩ := hP
        refine g_name ?_
        dsimp only
        have md := List.mem_of_getElem? hd
        have ch := hch d md
        have sm := ch.smallD
        have dl := ch.len
        have hdn : d ≠ [] := fun z => by rw [z] at dl; simp at dl; omega
        have t6 := t4.mono (ex_tx exx)
        have shT : SeqAt.shaped (.list ((triplesL d).map d3)) = true := Sh.ok (sh_maps d3 (fun _ => sh_dT _) _)
        have shR : SeqAt.shaped (.list ((refsL ls d).map d4)) = true := Sh.ok (sh_maps d4 (fun _ => sh_dT _) _)
        have tri : EvN (tCall sp_law_ring_triples [] E0 (tCons (tVar 5) tNil)) [some (.ref m), some v, y2, some rv, some (.ref ra), some x] H6 ((triplesL d).map d3) := evn_callV (vs := [x]) (ea_cons (ev_var rfl) ea_nil) fun H7 e7 Q E q => ⟨x, d, rfl, k.mono (ex_tx e7), hdn, by omega, sm, q⟩
        have ref : EvN (tCall sp_law_ring_refusals [] E0 (tCons (tVar 1) (tCons (tVar 5) tNil))) [some (.ref m), some v, y2, some rv, some (.ref ra), some x] H6 ((refsL ls d).map d4) := evn_callV (vs := [v, x]) (ea_cons (ev_var rfl) (ea_cons (ev_var rfl) ea_nil)) fun H7 e7 Q E q => ⟨v, x, ls, d, rfl, t6.mono (ex_tx e7), k.mono (ex_tx e7), rk, dl, by omega, sm, q⟩
        have eg : ((triplesL d).isEmpty && (refsL ls d).isEmpty) = good ls d := by
          rw [good_law rk dl sm]
          congr 1
          · cases triplesL d <;> simp
          · cases refsL ls d <;> simp
        have nxt_ : ∀ d2, d2 ∈ (options row).take (j + 1) ↔ d2 ∈ (options row).take j ∨ d2 = d := fun d2 => by
          rw [List.take_succ, hd, List.mem_append]
          exact or_congr_right List.mem_singleton
        refine s_when (b := good ls d) (et_is (et_and (et_test (ev_is (ev_eqNilN tri shT) (by rw [isEmpty_map]))) fun _ => et_test (ev_is (ev_eqNilN ref shR) (by rw [isEmpty_map]))) eg) (fun hb H7 e7 => ?_) (fun hb H7 e7 => ?_)
        · refine evn_lst (ds := [dT row]) (ead_cons (evd_var (v := rv) rfl (tr4.mono (ex_tx (exx.trans e7)))) ead_nil) (by show 1 ≤ 1000; decide) H7 (Ex.refl _) _ fun rn rs H8 hrn e8 h8 ts8 => ?_
          refine ⟨ex6.trans (e7.trans e8), rn, [row], ⟨_, _, rfl⟩, (exx.trans e7).trans e8, ⟨rs, h8, ts8⟩, ⟨fun _ => ⟨d, (nxt_ d).mpr (.inr rfl), hb⟩, fun _ => List.mem_singleton.mpr rfl⟩⟩
        · refine ⟨ex6.trans e7, ra, rows, ⟨_, _, rfl⟩, exx.trans e7, ld.mono e7, ?_⟩
          rw [hiff]
          constructor
          · rintro ⟨d2, h1, h2⟩
            exact ⟨d2, (nxt_ d2).mpr (.inl h1), h2⟩
          · rintro ⟨d2, h1, h2⟩
            rcases (nxt_ d2).mp h1 with z | z
            · exact ⟨d2, z, h2⟩
            · rw [z, hb] at h2
              cases h2
      · obtain ⟨ra, rows, ⟨y2, y5, rfl⟩, exx, ld, hiff⟩ := hP
        rw [List.take_length] at hiff
        refine s_when (b := false) (et_not (a := true) (et_B (ev_call (vs := [v, rv, .ref ra]) (ea_cons (ev_var rfl) (ea_cons (ev_var rfl) (ea_cons (ev_var rfl) ea_nil))) fun H7 e7 Q q E => ⟨v, rv, ra, ls, row, rows, rfl, t4.mono (ex_tx (exx.trans e7)), tr4.mono (ex_tx (exx.trans e7)), ld.mono e7, rk, pm', fin, hiff, q⟩))) (fun h => nomatch h) fun _ H7 e7 => ⟨⟨_, _, _, _, rfl⟩, (v2.trans v3).then (e4.trans (exx.trans e7)), (b4.mono (exx.trans e7)).more (by omega)⟩
    · obtain ⟨⟨y2, y3, y4, y5, rfl⟩, v2, b2⟩ := hP
      exact s_ret (v := .bl true) ev_c fun H4 e4 => q H4 ((v1.trans v2).then e4) ((b2.mono e4).more (by have : (2 : Int).toNat = 2 := rfl; omega))
/-- what the law asks of a ring of 3 to 5: its rows are those that liked steps reach -/
theorem rows_iff {ls : List (List Int)} (rk : Rk ls) (F : Fin2 ls.length) {L : List Pt} (hL : ∀ p, p ∈ L ↔ Reach ls p) {row : List Int} (pm : Pm ls.length row) : row ∈ L.map (·.1) ↔ ∃ d ∈ options row, good ls d = true := by
  rw [List.mem_map]
  constructor
  · rintro ⟨p, hp, rfl⟩
    have h := reach_held rk F ((hL p).mp hp)
    exact ⟨p.2, h.opt, h.good rk⟩
  · rintro ⟨d, hd, hg⟩
    have c : Ch ls.length row d := Ch.of (by have := F.pos; omega) pm hd
    exact ⟨(row, d), (hL _).mpr (good_reach rk F.toFin1 c hg).2, rfl⟩
theorem how_many (i : Nat) (h : i < 4) : ∃ n : Nat, atI [(3 : Int), 4, 5, 4] (i : Int) = some (n : Int) ∧ (n = 3 ∨ n = 4 ∨ n = 5) := by
  rcases (show i = 0 ∨ i = 1 ∨ i = 2 ∨ i = 3 by omega) with h | h | h | h
  · rw [h]
    exact ⟨3, atI_nat (j := 0) rfl, .inl rfl⟩
  · rw [h]
    exact ⟨4, atI_nat (j := 1) rfl, .inr (.inl rfl)⟩
  · rw [h]
    exact ⟨5, atI_nat (j := 2) rfl, .inr (.inr rfl)⟩
  · rw [h]
    exact ⟨4, atI_nat (j := 3) rfl, .inr (.inl rfl)⟩
/-- law -/
def sp_law (K : PySem.W.Frag) : Sp := fun vs H Q _ => ∃ (a : Addr) (scr : List Int), vs = [.ref a] ∧ SqL K H a (scr.map V.int) ∧ scr.length ≤ 63 ∧ ∀ H', Q (.bl true) H'
theorem ok_law (T : Top K mg) : FnOk P w K mg base CX0 9 T.f_law T.fd_law ["_law_script"] (sp_law K) := by
  have G_law_begun := ok_law_begun (P := P) (w := w) (base := base) T
  have G_law_six_right := ok_law_six_right (P := P) (w := w) (base := base) T
  have G_law_ring_lists := ok_law_ring_lists (P := P) (w := w) (base := base) T
  have G_law_ring_walk := ok_law_ring_walk (P := P) (w := w) (base := base) T
  have G_law_ring_all := ok_law_ring_all (P := P) (w := w) (base := base) T
  have G_law_mixed_up := ok_law_mixed_up (P := P) (w := w) (base := base) T
  have G_law_right := ok_law_right (P := P) (w := w) (base := base) T
  refine T.F_law.ok sc_law (fun vs H Q E h => ?_) (fun cdv A outer s H vs Q E hr h => ?_)
  · obtain ⟨a, scr, rfl, _⟩ := h
    rfl
  · obtain ⟨a, scr, rfl, hs, hl, q⟩ := h
    refine ⟨_, PSs.nox (pss_cons (ps_set (i := 1) sc_law.nd rfl (Or.inr rfl) (pe_call G_law_begun (hr.mono (by decide)) (by rfl) T.g_law_begun T.kp_law_begun T.b_law_begun .nil pass0 (pa_cons (pv 0) pa_nil)))
    (pss_cons (ps_if (pt_not (pt_val (pe_call G_law_six_right hr (by rfl) T.g_law_six_right T.kp_law_six_right T.b_law_six_right .nil pass0 (pa_cons (pv 1) pa_nil))))
    (pss_one (ps_ret pe_bl)) pss_nil)
    (pss_cons (ps_for PassesOwn.never rfl (pi_range1 (by rfl) T.z_range (pa_cons pe_int pa_nil)) (pg_name (i := 2) sc_law.nd rfl (Or.inl rfl))
    (pss_cons (ps_set (i := 3) sc_law.nd rfl (Or.inr rfl) (pe_ix ix_list (pe_lst (pa_cons pe_int (pa_cons pe_int (pa_cons pe_int (pa_cons pe_int pa_nil))))) (pv 2) (fun _ _ => rfl)))
    (pss_cons (ps_set (i := 4) sc_law.nd rfl (Or.inr rfl) (pe_call G_law_ring_lists (hr.mono (by decide)) (by rfl) T.g_law_ring_lists T.kp_law_ring_lists T.b_law_ring_lists .nil pass0 (pa_cons (pv 1) (pa_cons (pv 3) (pa_cons (pe_ix ix_tup (pe_call G_law_ring_walk (hr.mono (by decide)) (by rfl) T.g_law_ring_walk T.kp_law_ring_walk T.b_law_ring_walk .nil pass0 (pa_cons (pv 1) (pa_cons (pv 3) pa_nil))) pe_int (fun _ _ => rfl)) pa_nil)))))
    (pss_cons (ps_set (i := 5) sc_law.nd rfl (Or.inr rfl) (pe_lc (own := [("_law_row", 7), ("_law_shifts", 8)]) (g := gTup K 2 (gCons (gName 7) (gCons (gName 8) gNil))) rfl sc_law.nd (pi_list (pe_call G_law_ring_all (hr.mono (by decide)) (by rfl) T.g_law_ring_all T.kp_law_ring_all T.b_law_ring_all .nil pass0 (pa_cons (pv 4) pa_nil))) (blkOk_by (own := [("_law_row", 7), ("_law_shifts", 8)]) (N := n_law) (sc := defScope s_law) (by decide +kernel)) (fun _ _ _ _ _ => (pg_tup rfl (pgs_cons (pg_name (i := 7) sc_law.nd rfl (Or.inl rfl)) (pgs_cons (pg_name (i := 8) sc_law.nd rfl (Or.inl rfl)) pgs_nil)))) (fun _ _ _ _ _ => pts_nil) (fun _ _ _ _ _ => (pv 7))))
    (pss_cons (ps_set (i := 6) sc_law.nd rfl (Or.inl rfl) (pe_op op_cat (pe_slice sl_list (pv 5) po_none (po_some pe_int)) (pe_lc (own := [("_law_time", 9)]) (g := gName 9) rfl sc_law.nd (pi_range1 (by rfl) T.z_range (pa_cons pe_int pa_nil)) (blkOk_by (own := [("_law_time", 9)]) (N := n_law) (sc := defScope s_law) (by decide +kernel)) (fun _ _ _ _ _ => (pg_name (i := 9) sc_law.nd rfl (Or.inl rfl))) (fun _ _ _ _ _ => pts_nil) (fun _ _ _ _ _ => (pe_callTy (callTupF (K := K) rfl) (by rfl) T.z_tuple bt_tuple (pa_cons (pe_call G_law_mixed_up (hr.mono (by decide)) (by rfl) T.g_law_mixed_up T.kp_law_mixed_up T.b_law_mixed_up .nil pass0 (pa_cons (pv 1) (pa_cons (pe_listRg rfl (by rfl) T.z_list (prg_1 (by rfl) T.z_range (pv 3))) pa_nil))) pa_nil))))))
    (pss_one (ps_if (pt_not (pt_val (pe_callB (cr_all rfl) (by rfl) T.z_all bt_all (pa_cons (pe_lc (own := [("_law_row", 7)]) (g := gName 7) rfl sc_law.nd (pi_list (pv 6)) (blkOk_by (own := [("_law_row", 7)]) (N := n_law) (sc := defScope s_law) (by decide +kernel)) (fun _ _ _ _ _ => (pg_name (i := 7) sc_law.nd rfl (Or.inl rfl))) (fun _ _ _ _ _ => pts_nil) (fun _ _ _ _ _ => (pe_call G_law_right (hr.mono (by decide)) (by rfl) T.g_law_right T.kp_law_right T.b_law_right .nil pass0 (pa_cons (pv 4) (pa_cons (pv 7) (pa_cons (pv 5) pa_nil)))))) pa_nil))))
    (pss_one (ps_ret pe_bl)) pss_nil)))))))
    (pss_one (ps_ret pe_bl))))), ?_⟩
    refine ⟨.ref a, rfl, a, scr, rfl, hs, by omega, fun m g c H1 hm hg hc e1 bag => ?_⟩
    refine g_name ?_
    dsimp only
    refine q_mustM (Pp := fun H2 => Bag 10000 H2 m g c) (fun Q hQ => ⟨.ref m, rfl, 0, m, g, c, rfl, bag, by omega, fun H2 v2 b2 => hQ H2 (b2.more (by omega))⟩) fun H2 b2 => ?_
    refine q_forR1 (n := 4) (ea_cons ev_c ea_nil) (by decide) (fun i σ' H' => (∃ y2 y3 y4 y5 y6, σ' = [some (.ref a), some (.ref m), y2, y3, y4, y5, y6, none, none, none]) ∧ Bag (10000 + i * 10000) H' m g c)
      (fun H3 e3 => ⟨⟨none, none, none, none, none, rfl⟩, (b2.mono e3).more (by omega)⟩) (fun i σ' H' hi hP => ?_) (fun σ' H' hP => ?_)
    · obtain ⟨⟨y2, y3, y4, y5, y6, rfl⟩, b3⟩ := hP
      -- how many
      obtain ⟨n, hat, hn⟩ := how_many i (by omega)
      have F : Fin2 n := fin1_of hn
      refine q_asg (v := .int (n : Nat)) (ev_i (evd_ixN (ds := [(3 : Int), 4, 5, 4].map PyData.int) (evn_lst (ead_cons (evd_i ev_c) (ead_cons (evd_i ev_c) (ead_cons (evd_i ev_c) (ead_cons (evd_i ev_c) ead_nil)))) (by show 4 ≤ 1000; decide)) (fun H' _ => ev_var (v := .int (i : Int)) rfl) (at_map PyData.int hat))) fun H4 e4 => ?_
      have b4 := b3.mono e4
      refine lists_run (K := K) (jm := 1) (n := n) (tb := tVar 3) rfl (fun H' => ev_var rfl) (by omega) (by omega) b4 (by omega) fun v ls H5 v5 b5 t5 rk ln => ?_
      refine g_name ?_
      dsimp only
      subst ln
      have FU : ∀ p, Reach ls p → p ∈ univ ls.length ∧ Pm ls.length p.1 ∧ p.2.length = ls.length := fun p r => by
        have h := reach_held rk F r
        exact ⟨held_univ h, h.ch.pm, h.ch.len⟩
      have n5 : ls.length ≤ 5 := by omega
      -- rows
      refine q_rowsOf (Pp := fun L H6 => Ex H5 H6 ∧ ∀ p, p ∈ L ↔ Reach ls p) (fun R hR => ⟨v, rfl, v, ls, univ ls.length, rfl, t5, rk, by omega, FU, Nat.le_trans (univ_len n5) (by decide), fun al xs L H6 hal e6 h6 ts6 hL hLl => hR al xs L H6 h6 ts6 hLl ⟨e6, hL⟩⟩) (fun _ _ => rfl) (fun _ _ => rfl) fun L H6 pr xr H7 hp hpr e7 h7 ts7 => ?_
      obtain ⟨e6, hL⟩ := hp
      have e57 := e6.trans e7
      have b7 := b5.mono e57
      have t7 := t5.mono (ex_tx e57)
      -- the rows asked
      refine q_someDr (K := K) (n := ls.length) (ra := pr) (rws := L.map (·.1)) (m := m) (gr := g) (c := c) (B := 10000 + i * 10000 + 3100) rfl (fun _ => rfl) (fun _ => rfl) (fun _ => rfl) (by omega) ⟨xr, h7, ts7⟩ b7 (by omega) fun so xs rs H8 v8 b8 h8 ts8 hrs hrl => ?_
      have t8 := t7.mono (b7.tx v8)
      have fpr : ¬ (pr = m ∨ pr = g) := (b5.mono e6).ne hpr
      have ld8 : LD H8 pr ((L.map (·.1)).map dT) := ⟨xr, v8 _ _ fpr h7, ts7.mono (b7.tx v8)⟩
      have pmr : ∀ r ∈ rs, Pm ls.length r := fun r hr => by
        rcases hrs r hr with z | z
        · obtain ⟨p, hp, rfl⟩ := List.mem_map.mp z
          exact (FU p ((hL p).mp hp)).2.1
        · exact z
      have all : EvN (tLc (iList K (tVar 6)) (gName 7) tYes (tCall sp_law_right [] E0 (tCons (tVar 4) (tCons (tVar 7) (tCons (tVar 5) tNil)))) [7]) [some (.ref a), some (.ref m), some (.int (i : Int)), some (.int (ls.length : Nat)), some v, some (.ref pr), some (.ref so), none, none, none] H8 ((rs.map fun _ => true).map PyData.bool) := by
        rw [List.map_map]
        refine evn_is (evn_lcL rs dT (fun _ => true) (fun _ => .bool true) (ev_var (v := .ref so) rfl) ⟨xs, h8, ts8⟩ (by omega) fun row x H9 hrow e9 k => ⟨_, fun Q h => h, rfl, evt_yes, fun _ => ?_⟩) (by rw [filter_all] <;> rfl)
        refine evd_of (ev_call (vs := [v, x, .ref pr]) (ea_cons (ev_var rfl) (ea_cons (ev_var rfl) (ea_cons (ev_var rfl) ea_nil))) fun H10 e10 Q q E => ⟨v, x, pr, ls, row, L.map (·.1), rfl, t8.mono (ex_tx (e9.trans e10)), k.mono (ex_tx e10), ld8.mono (e9.trans e10), rk, pmr row hrow, F.toFin1, rows_iff rk F hL (pmr row hrow), q⟩) (.bl true)
      refine s_when (b := false) (et_not (a := true) (et_B (ev_is (ev_all (bs := rs.map fun _ => true) all) (by simp)))) (fun h => nomatch h) fun _ H9 e9 => ⟨⟨_, _, _, _, _, rfl⟩, (b8.mono e9).more (by rw [Nat.succ_mul]; omega)⟩
    · obtain ⟨⟨y2, y3, y4, y5, y6, rfl⟩, b3⟩ := hP
      exact s_ret (v := .bl true) ev_c fun H4 e4 => q H4
end
end K57
set_option Elab.async false
set_option linter.all false
set_option maxRecDepth 100000
set_option maxHeartbeats 0
namespace K57
open PySem PySem.Spec PyProof.Rows L2
/-! ### the head -/
def d_is_integer : He.DefD := ⟨("is_integer", none), "is_integer", "is_integer", defArgs s_is_integer, defBody s_is_integer, defScope s_is_integer, [], []⟩
def d_is_number_below : He.DefD := ⟨("is_number_below", none), "is_number_below", "is_number_below", defArgs s_is_number_below, defBody s_is_number_below, defScope s_is_number_below, [], []⟩
def d_is_ranking : He.DefD := ⟨("is_ranking", none), "is_ranking", "is_ranking", defArgs s_is_ranking, defBody s_is_ranking, defScope s_is_ranking, [], []⟩
def d_check_rankings : He.DefD := ⟨("check_rankings", none), "check_rankings", "check_rankings", defArgs s_check_rankings, defBody s_check_rankings, defScope s_check_rankings, [], []⟩
def d_rank_tables : He.DefD := ⟨("rank_tables", none), "rank_tables", "rank_tables", defArgs s_rank_tables, defBody s_rank_tables, defScope s_rank_tables, [], []⟩
def d_check_arrangement : He.DefD := ⟨("check_arrangement", none), "check_arrangement", "check_arrangement", defArgs s_check_arrangement, defBody s_check_arrangement, defScope s_check_arrangement, [], []⟩
def d_check_fitting : He.DefD := ⟨("check_fitting", none), "check_fitting", "check_fitting", defArgs s_check_fitting, defBody s_check_fitting, defScope s_check_fitting, [], []⟩
def d_end_of_copy : He.DefD := ⟨("end_of_copy", none), "end_of_copy", "end_of_copy", defArgs s_end_of_copy, defBody s_end_of_copy, defScope s_end_of_copy, [], []⟩
def d_later_copies : He.DefD := ⟨("later_copies", none), "later_copies", "later_copies", defArgs s_later_copies, defBody s_later_copies, defScope s_later_copies, [], []⟩
def d_inversions_there : He.DefD := ⟨("inversions_there", none), "inversions_there", "inversions_there", defArgs s_inversions_there, defBody s_inversions_there, defScope s_inversions_there, [], []⟩
def d_triple_there : He.DefD := ⟨("triple_there", none), "triple_there", "triple_there", defArgs s_triple_there, defBody s_triple_there, defScope s_triple_there, [], []⟩
def d_place_there : He.DefD := ⟨("place_there", none), "place_there", "place_there", defArgs s_place_there, defBody s_place_there, defScope s_place_there, [], []⟩
def d_refusals_there : He.DefD := ⟨("refusals_there", none), "refusals_there", "refusals_there", defArgs s_refusals_there, defBody s_refusals_there, defScope s_refusals_there, [], []⟩
def d_sequence_for : He.DefD := ⟨("sequence_for", none), "sequence_for", "sequence_for", defArgs s_sequence_for, defBody s_sequence_for, defScope s_sequence_for, [], []⟩
def d_decide_there : He.DefD := ⟨("decide_there", none), "decide_there", "decide_there", defArgs s_decide_there, defBody s_decide_there, defScope s_decide_there, [], []⟩
def d_check_listed : He.DefD := ⟨("check_listed", none), "check_listed", "check_listed", defArgs s_check_listed, defBody s_check_listed, defScope s_check_listed, [], []⟩
def d_options_there : He.DefD := ⟨("options_there", none), "options_there", "options_there", defArgs s_options_there, defBody s_options_there, defScope s_options_there, [], []⟩
def d_reach_ring : He.DefD := ⟨("reach_ring", none), "reach_ring", "reach_ring", defArgs s_reach_ring, defBody s_reach_ring, defScope s_reach_ring, [], []⟩
def d_law_mixed : He.DefD := ⟨("_law_mixed", none), "_law_mixed", "_law_mixed", defArgs s_law_mixed, defBody s_law_mixed, defScope s_law_mixed, [], []⟩
def d_law_folded : He.DefD := ⟨("_law_folded", none), "_law_folded", "_law_folded", defArgs s_law_folded, defBody s_law_folded, defScope s_law_folded, [], []⟩
def d_law_draw : He.DefD := ⟨("_law_draw", none), "_law_draw", "_law_draw", defArgs s_law_draw, defBody s_law_draw, defScope s_law_draw, [], []⟩
def d_law_begun : He.DefD := ⟨("_law_begun", none), "_law_begun", "_law_begun", defArgs s_law_begun, defBody s_law_begun, defScope s_law_begun, [], []⟩
def d_law_mixed_up : He.DefD := ⟨("_law_mixed_up", none), "_law_mixed_up", "_law_mixed_up", defArgs s_law_mixed_up, defBody s_law_mixed_up, defScope s_law_mixed_up, [], []⟩
def d_law_ring_walk : He.DefD := ⟨("_law_ring_walk", none), "_law_ring_walk", "_law_ring_walk", defArgs s_law_ring_walk, defBody s_law_ring_walk, defScope s_law_ring_walk, [], []⟩
def d_law_ring_lists : He.DefD := ⟨("_law_ring_lists", none), "_law_ring_lists", "_law_ring_lists", defArgs s_law_ring_lists, defBody s_law_ring_lists, defScope s_law_ring_lists, [], []⟩
def d_law_likes_more : He.DefD := ⟨("_law_likes_more", none), "_law_likes_more", "_law_likes_more", defArgs s_law_likes_more, defBody s_law_likes_more, defScope s_law_likes_more, [], []⟩
def d_law_ring_may : He.DefD := ⟨("_law_ring_may", none), "_law_ring_may", "_law_ring_may", defArgs s_law_ring_may, defBody s_law_ring_may, defScope s_law_ring_may, [], []⟩
def d_law_ring_after : He.DefD := ⟨("_law_ring_after", none), "_law_ring_after", "_law_ring_after", defArgs s_law_ring_after, defBody s_law_ring_after, defScope s_law_ring_after, [], []⟩
def d_law_ring_all : He.DefD := ⟨("_law_ring_all", none), "_law_ring_all", "_law_ring_all", defArgs s_law_ring_all, defBody s_law_ring_all, defScope s_law_ring_all, [], []⟩
def d_law_ring_ended : He.DefD := ⟨("_law_ring_ended", none), "_law_ring_ended", "_law_ring_ended", defArgs s_law_ring_ended, defBody s_law_ring_ended, defScope s_law_ring_ended, [], []⟩
def d_law_ring_pairs : He.DefD := ⟨("_law_ring_pairs", none), "_law_ring_pairs", "_law_ring_pairs", defArgs s_law_ring_pairs, defBody s_law_ring_pairs, defScope s_law_ring_pairs, [], []⟩
def d_law_ring_triples : He.DefD := ⟨("_law_ring_triples", none), "_law_ring_triples", "_law_ring_triples", defArgs s_law_ring_triples, defBody s_law_ring_triples, defScope s_law_ring_triples, [], []⟩
def d_law_ring_place : He.DefD := ⟨("_law_ring_place", none), "_law_ring_place", "_law_ring_place", defArgs s_law_ring_place, defBody s_law_ring_place, defScope s_law_ring_place, [], []⟩
def d_law_ring_refusals : He.DefD := ⟨("_law_ring_refusals", none), "_law_ring_refusals", "_law_ring_refusals", defArgs s_law_ring_refusals, defBody s_law_ring_refusals, defScope s_law_ring_refusals, [], []⟩
def d_law_ring_run : He.DefD := ⟨("_law_ring_run", none), "_law_ring_run", "_law_ring_run", defArgs s_law_ring_run, defBody s_law_ring_run, defScope s_law_ring_run, [], []⟩
def d_law_ring_choices : He.DefD := ⟨("_law_ring_choices", none), "_law_ring_choices", "_law_ring_choices", defArgs s_law_ring_choices, defBody s_law_ring_choices, defScope s_law_ring_choices, [], []⟩
def d_law_ring_word : He.DefD := ⟨("_law_ring_word", none), "_law_ring_word", "_law_ring_word", defArgs s_law_ring_word, defBody s_law_ring_word, defScope s_law_ring_word, [], []⟩
def d_law_are_integers : He.DefD := ⟨("_law_are_integers", none), "_law_are_integers", "_law_are_integers", defArgs s_law_are_integers, defBody s_law_are_integers, defScope s_law_are_integers, [], []⟩
def d_law_right : He.DefD := ⟨("_law_right", none), "_law_right", "_law_right", defArgs s_law_right, defBody s_law_right, defScope s_law_right, [], []⟩
def d_law_six_right : He.DefD := ⟨("_law_six_right", none), "_law_six_right", "_law_six_right", defArgs s_law_six_right, defBody s_law_six_right, defScope s_law_six_right, [], []⟩
def d_law : He.DefD := ⟨("law", none), "law", "law", defArgs s_law, defBody s_law, defScope s_law, [], []⟩
def fn : List He.DefD := [d_is_integer, d_is_number_below, d_is_ranking, d_check_rankings, d_rank_tables, d_check_arrangement, d_check_fitting, d_end_of_copy, d_later_copies, d_inversions_there, d_triple_there, d_place_there, d_refusals_there, d_sequence_for, d_decide_there, d_check_listed, d_options_there, d_reach_ring, d_law_mixed, d_law_folded, d_law_draw, d_law_begun, d_law_mixed_up, d_law_ring_walk, d_law_ring_lists, d_law_likes_more, d_law_ring_may, d_law_ring_after, d_law_ring_all, d_law_ring_ended, d_law_ring_pairs, d_law_ring_triples, d_law_ring_place, d_law_ring_refusals, d_law_ring_run, d_law_ring_choices, d_law_ring_word, d_law_are_integers, d_law_right, d_law_six_right, d_law]
def fa : List He.Fa := [.glo "is_integer", .glo "is_number_below", .glo "is_ranking", .glo "check_rankings", .glo "rank_tables", .glo "check_arrangement", .glo "check_fitting", .glo "end_of_copy", .glo "later_copies", .glo "inversions_there", .glo "triple_there", .glo "place_there", .glo "refusals_there", .glo "sequence_for", .glo "decide_there", .glo "check_listed", .glo "options_there", .glo "reach_ring", .glo "_law_mixed", .glo "_law_folded", .glo "_law_draw", .glo "_law_begun", .glo "_law_mixed_up", .glo "_law_ring_walk", .glo "_law_ring_lists", .glo "_law_likes_more", .glo "_law_ring_may", .glo "_law_ring_after", .glo "_law_ring_all", .glo "_law_ring_ended", .glo "_law_ring_pairs", .glo "_law_ring_triples", .glo "_law_ring_place", .glo "_law_ring_refusals", .glo "_law_ring_run", .glo "_law_ring_choices", .glo "_law_ring_word", .glo "_law_are_integers", .glo "_law_right", .glo "_law_six_right", .glo "law", .free "enumerate", .free "range", .free "list", .free "any", .free "tuple", .free "len", .free "isinstance", .free "int", .free "bool", .free "all", .free "set", .free "sorted", .free "str", .free "zip", .free "sum", .int "MAX_PEOPLE" 40, .int "MAX_RING_LISTED" 6]
abbrev R : PySem.W.OpenRow := PySem.W.OpenLaw.row PySem.Challenge.rw_swaprow_k57_whole_rings_reached
abbrev hk : PySem.W.Hook := He.hookD 4 fa fn
def ob (s : PySem.W.SharedT) : He.AlD := He.obsDG 4 fa fn (HandSHeadRun.getT s)
theorem ob_eq (s : PySem.W.SharedT) : ob s = hk.obs s.abs := He.obsDG_eq (HandSHeadRun.getT_eq s)
def loose1 : List PySem.Str := ["SwaprowError", "InvalidRankings", "InvalidArrangement", "LimitExceeded", "MAX_PEOPLE", "is_integer", "is_number_below", "is_ranking", "check_rankings", "rank_tables", "check_arrangement", "check_fitting", "MAX_RING_LISTED", "end_of_copy", "later_copies", "inversions_there", "triple_there", "place_there", "refusals_there", "sequence_for", "decide_there", "check_listed", "options_there", "reach_ring", "_law_mixed", "_law_folded", "_law_draw", "_law_begun", "_law_mixed_up", "_law_ring_walk"]
def loose2 : List PySem.Str := ["_law_ring_lists", "_law_likes_more", "_law_ring_may", "_law_ring_after", "_law_ring_all", "_law_ring_ended", "_law_ring_pairs", "_law_ring_triples", "_law_ring_place", "_law_ring_refusals", "_law_ring_run", "_law_ring_choices", "_law_ring_word", "_law_are_integers", "_law_right", "_law_six_right"]
def loose : List PySem.Str := loose1 ++ loose2
theorem run (w : World) : HandSHeadRun.RunEq R (PySem.W.view R.prog [51]) hk ob 6000 loose w := by
  intro os
  kernel_rfl
theorem facts {P : Program} {w : World} {K : PySem.W.Frag} {h : Heap} {mg : Str → Option Value} {f : Addr} (X : K.In h) (G : h.Ns mainGlobals mg) (hfa : mg ("law" : Str) = some (.ref f)) (c : He.SaysD fa fn K) :
    ∃ fd : FuncData, (∀ (s : Shared) (v : Value), BindsTo s fd ⟨[v], []⟩ [("_law_script", v)]) ∧ ∀ base : Heap, K.In base → base.Ns mainGlobals mg → FnOk P w K mg base CX0 9 f fd ["_law_script"] (sp_law K) := by
  obtain ⟨fd0, F0⟩ := c.def_ 0 (d := d_is_integer) rfl
  obtain ⟨fd1, F1⟩ := c.def_ 1 (d := d_is_number_below) rfl
  obtain ⟨fd2, F2⟩ := c.def_ 2 (d := d_is_ranking) rfl
  obtain ⟨fd3, F3⟩ := c.def_ 3 (d := d_check_rankings) rfl
  obtain ⟨fd4, F4⟩ := c.def_ 4 (d := d_rank_tables) rfl
  obtain ⟨fd5, F5⟩ := c.def_ 5 (d := d_check_arrangement) rfl
  obtain ⟨fd6, F6⟩ := c.def_ 6 (d := d_check_fitting) rfl
  obtain ⟨fd7, F7⟩ := c.def_ 7 (d := d_end_of_copy) rfl
  obtain ⟨fd8, F8⟩ := c.def_ 8 (d := d_later_copies) rfl
  obtain ⟨fd9, F9⟩ := c.def_ 9 (d := d_inversions_there) rfl
  obtain ⟨fd10, F10⟩ := c.def_ 10 (d := d_triple_there) rfl
  obtain ⟨fd11, F11⟩ := c.def_ 11 (d := d_place_there) rfl
  obtain ⟨fd12, F12⟩ := c.def_ 12 (d := d_refusals_there) rfl
  obtain ⟨fd13, F13⟩ := c.def_ 13 (d := d_sequence_for) rfl
  obtain ⟨fd14, F14⟩ := c.def_ 14 (d := d_decide_there) rfl
  obtain ⟨fd15, F15⟩ := c.def_ 15 (d := d_check_listed) rfl
  obtain ⟨fd16, F16⟩ := c.def_ 16 (d := d_options_there) rfl
  obtain ⟨fd17, F17⟩ := c.def_ 17 (d := d_reach_ring) rfl
  obtain ⟨fd18, F18⟩ := c.def_ 18 (d := d_law_mixed) rfl
  obtain ⟨fd19, F19⟩ := c.def_ 19 (d := d_law_folded) rfl
  obtain ⟨fd20, F20⟩ := c.def_ 20 (d := d_law_draw) rfl
  obtain ⟨fd21, F21⟩ := c.def_ 21 (d := d_law_begun) rfl
  obtain ⟨fd22, F22⟩ := c.def_ 22 (d := d_law_mixed_up) rfl
  obtain ⟨fd23, F23⟩ := c.def_ 23 (d := d_law_ring_walk) rfl
  obtain ⟨fd24, F24⟩ := c.def_ 24 (d := d_law_ring_lists) rfl
  obtain ⟨fd25, F25⟩ := c.def_ 25 (d := d_law_likes_more) rfl
  obtain ⟨fd26, F26⟩ := c.def_ 26 (d := d_law_ring_may) rfl
  obtain ⟨fd27, F27⟩ := c.def_ 27 (d := d_law_ring_after) rfl
  obtain ⟨fd28, F28⟩ := c.def_ 28 (d := d_law_ring_all) rfl
  obtain ⟨fd29, F29⟩ := c.def_ 29 (d := d_law_ring_ended) rfl
  obtain ⟨fd30, F30⟩ := c.def_ 30 (d := d_law_ring_pairs) rfl
  obtain ⟨fd31, F31⟩ := c.def_ 31 (d := d_law_ring_triples) rfl
  obtain ⟨fd32, F32⟩ := c.def_ 32 (d := d_law_ring_place) rfl
  obtain ⟨fd33, F33⟩ := c.def_ 33 (d := d_law_ring_refusals) rfl
  obtain ⟨fd34, F34⟩ := c.def_ 34 (d := d_law_ring_run) rfl
  obtain ⟨fd35, F35⟩ := c.def_ 35 (d := d_law_ring_choices) rfl
  obtain ⟨fd36, F36⟩ := c.def_ 36 (d := d_law_ring_word) rfl
  obtain ⟨fd37, F37⟩ := c.def_ 37 (d := d_law_are_integers) rfl
  obtain ⟨fd38, F38⟩ := c.def_ 38 (d := d_law_right) rfl
  obtain ⟨fd39, F39⟩ := c.def_ 39 (d := d_law_six_right) rfl
  obtain ⟨fd40, F40⟩ := c.def_ 40 (d := d_law) rfl
  have e := hfa.symm.trans (He.glo_ok X G (c.fact 40 (f := .glo "law") rfl))
  let T : Top K mg := {
    f_is_integer := He.ga K "is_integer"
    fd_is_integer := fd0
    F_is_integer := F0
    g_is_integer := He.glo_ok X G (c.fact 0 (f := .glo "is_integer") rfl)
    f_is_number_below := He.ga K "is_number_below"
    fd_is_number_below := fd1
    F_is_number_below := F1
    g_is_number_below := He.glo_ok X G (c.fact 1 (f := .glo "is_number_below") rfl)
    f_is_ranking := He.ga K "is_ranking"
    fd_is_ranking := fd2
    F_is_ranking := F2
    g_is_ranking := He.glo_ok X G (c.fact 2 (f := .glo "is_ranking") rfl)
    f_check_rankings := He.ga K "check_rankings"
    fd_check_rankings := fd3
    F_check_rankings := F3
    g_check_rankings := He.glo_ok X G (c.fact 3 (f := .glo "check_rankings") rfl)
    f_rank_tables := He.ga K "rank_tables"
    fd_rank_tables := fd4
    F_rank_tables := F4
    g_rank_tables := He.glo_ok X G (c.fact 4 (f := .glo "rank_tables") rfl)
    f_check_arrangement := He.ga K "check_arrangement"
    fd_check_arrangement := fd5
    F_check_arrangement := F5
    g_check_arrangement := He.glo_ok X G (c.fact 5 (f := .glo "check_arrangement") rfl)
    f_check_fitting := He.ga K "check_fitting"
    fd_check_fitting := fd6
    F_check_fitting := F6
    g_check_fitting := He.glo_ok X G (c.fact 6 (f := .glo "check_fitting") rfl)
    f_end_of_copy := He.ga K "end_of_copy"
    fd_end_of_copy := fd7
    F_end_of_copy := F7
    g_end_of_copy := He.glo_ok X G (c.fact 7 (f := .glo "end_of_copy") rfl)
    f_later_copies := He.ga K "later_copies"
    fd_later_copies := fd8
    F_later_copies := F8
    g_later_copies := He.glo_ok X G (c.fact 8 (f := .glo "later_copies") rfl)
    f_inversions_there := He.ga K "inversions_there"
    fd_inversions_there := fd9
    F_inversions_there := F9
    g_inversions_there := He.glo_ok X G (c.fact 9 (f := .glo "inversions_there") rfl)
    f_triple_there := He.ga K "triple_there"
    fd_triple_there := fd10
    F_triple_there := F10
    g_triple_there := He.glo_ok X G (c.fact 10 (f := .glo "triple_there") rfl)
    f_place_there := He.ga K "place_there"
    fd_place_there := fd11
    F_place_there := F11
    g_place_there := He.glo_ok X G (c.fact 11 (f := .glo "place_there") rfl)
    f_refusals_there := He.ga K "refusals_there"
    fd_refusals_there := fd12
    F_refusals_there := F12
    g_refusals_there := He.glo_ok X G (c.fact 12 (f := .glo "refusals_there") rfl)
    f_sequence_for := He.ga K "sequence_for"
    fd_sequence_for := fd13
    F_sequence_for := F13
    g_sequence_for := He.glo_ok X G (c.fact 13 (f := .glo "sequence_for") rfl)
    f_decide_there := He.ga K "decide_there"
    fd_decide_there := fd14
    F_decide_there := F14
    g_decide_there := He.glo_ok X G (c.fact 14 (f := .glo "decide_there") rfl)
    f_check_listed := He.ga K "check_listed"
    fd_check_listed := fd15
    F_check_listed := F15
    g_check_listed := He.glo_ok X G (c.fact 15 (f := .glo "check_listed") rfl)
    f_options_there := He.ga K "options_there"
    fd_options_there := fd16
    F_options_there := F16
    g_options_there := He.glo_ok X G (c.fact 16 (f := .glo "options_there") rfl)
    f_reach_ring := He.ga K "reach_ring"
    fd_reach_ring := fd17
    F_reach_ring := F17
    g_reach_ring := He.glo_ok X G (c.fact 17 (f := .glo "reach_ring") rfl)
    f_law_mixed := He.ga K "_law_mixed"
    fd_law_mixed := fd18
    F_law_mixed := F18
    g_law_mixed := He.glo_ok X G (c.fact 18 (f := .glo "_law_mixed") rfl)
    f_law_folded := He.ga K "_law_folded"
    fd_law_folded := fd19
    F_law_folded := F19
    g_law_folded := He.glo_ok X G (c.fact 19 (f := .glo "_law_folded") rfl)
    f_law_draw := He.ga K "_law_draw"
    fd_law_draw := fd20
    F_law_draw := F20
    g_law_draw := He.glo_ok X G (c.fact 20 (f := .glo "_law_draw") rfl)
    f_law_begun := He.ga K "_law_begun"
    fd_law_begun := fd21
    F_law_begun := F21
    g_law_begun := He.glo_ok X G (c.fact 21 (f := .glo "_law_begun") rfl)
    f_law_mixed_up := He.ga K "_law_mixed_up"
    fd_law_mixed_up := fd22
    F_law_mixed_up := F22
    g_law_mixed_up := He.glo_ok X G (c.fact 22 (f := .glo "_law_mixed_up") rfl)
    f_law_ring_walk := He.ga K "_law_ring_walk"
    fd_law_ring_walk := fd23
    F_law_ring_walk := F23
    g_law_ring_walk := He.glo_ok X G (c.fact 23 (f := .glo "_law_ring_walk") rfl)
    f_law_ring_lists := He.ga K "_law_ring_lists"
    fd_law_ring_lists := fd24
    F_law_ring_lists := F24
    g_law_ring_lists := He.glo_ok X G (c.fact 24 (f := .glo "_law_ring_lists") rfl)
    f_law_likes_more := He.ga K "_law_likes_more"
    fd_law_likes_more := fd25
    F_law_likes_more := F25
    g_law_likes_more := He.glo_ok X G (c.fact 25 (f := .glo "_law_likes_more") rfl)
    f_law_ring_may := He.ga K "_law_ring_may"
    fd_law_ring_may := fd26
    F_law_ring_may := F26
    g_law_ring_may := He.glo_ok X G (c.fact 26 (f := .glo "_law_ring_may") rfl)
    f_law_ring_after := He.ga K "_law_ring_after"
    fd_law_ring_after := fd27
    F_law_ring_after := F27
    g_law_ring_after := He.glo_ok X G (c.fact 27 (f := .glo "_law_ring_after") rfl)
    f_law_ring_all := He.ga K "_law_ring_all"
    fd_law_ring_all := fd28
    F_law_ring_all := F28
    g_law_ring_all := He.glo_ok X G (c.fact 28 (f := .glo "_law_ring_all") rfl)
    f_law_ring_ended := He.ga K "_law_ring_ended"
    fd_law_ring_ended := fd29
    F_law_ring_ended := F29
    g_law_ring_ended := He.glo_ok X G (c.fact 29 (f := .glo "_law_ring_ended") rfl)
    f_law_ring_pairs := He.ga K "_law_ring_pairs"
    fd_law_ring_pairs := fd30
    F_law_ring_pairs := F30
    g_law_ring_pairs := He.glo_ok X G (c.fact 30 (f := .glo "_law_ring_pairs") rfl)
    f_law_ring_triples := He.ga K "_law_ring_triples"
    fd_law_ring_triples := fd31
    F_law_ring_triples := F31
    g_law_ring_triples := He.glo_ok X G (c.fact 31 (f := .glo "_law_ring_triples") rfl)
    f_law_ring_place := He.ga K "_law_ring_place"
    fd_law_ring_place := fd32
    F_law_ring_place := F32
    g_law_ring_place := He.glo_ok X G (c.fact 32 (f := .glo "_law_ring_place") rfl)
    f_law_ring_refusals := He.ga K "_law_ring_refusals"
    fd_law_ring_refusals := fd33
    F_law_ring_refusals := F33
    g_law_ring_refusals := He.glo_ok X G (c.fact 33 (f := .glo "_law_ring_refusals") rfl)
    f_law_ring_run := He.ga K "_law_ring_run"
    fd_law_ring_run := fd34
    F_law_ring_run := F34
    g_law_ring_run := He.glo_ok X G (c.fact 34 (f := .glo "_law_ring_run") rfl)
    f_law_ring_choices := He.ga K "_law_ring_choices"
    fd_law_ring_choices := fd35
    F_law_ring_choices := F35
    g_law_ring_choices := He.glo_ok X G (c.fact 35 (f := .glo "_law_ring_choices") rfl)
    f_law_ring_word := He.ga K "_law_ring_word"
    fd_law_ring_word := fd36
    F_law_ring_word := F36
    g_law_ring_word := He.glo_ok X G (c.fact 36 (f := .glo "_law_ring_word") rfl)
    f_law_are_integers := He.ga K "_law_are_integers"
    fd_law_are_integers := fd37
    F_law_are_integers := F37
    g_law_are_integers := He.glo_ok X G (c.fact 37 (f := .glo "_law_are_integers") rfl)
    f_law_right := He.ga K "_law_right"
    fd_law_right := fd38
    F_law_right := F38
    g_law_right := He.glo_ok X G (c.fact 38 (f := .glo "_law_right") rfl)
    f_law_six_right := He.ga K "_law_six_right"
    fd_law_six_right := fd39
    F_law_six_right := F39
    g_law_six_right := He.glo_ok X G (c.fact 39 (f := .glo "_law_six_right") rfl)
    f_law := He.ga K "law"
    fd_law := fd40
    F_law := F40
    g_law := He.glo_ok X G (c.fact 40 (f := .glo "law") rfl)
    z_enumerate := He.free_ok X G (c.fact 41 (f := .free "enumerate") rfl)
    z_range := He.free_ok X G (c.fact 42 (f := .free "range") rfl)
    z_list := He.free_ok X G (c.fact 43 (f := .free "list") rfl)
    z_any := He.free_ok X G (c.fact 44 (f := .free "any") rfl)
    z_tuple := He.free_ok X G (c.fact 45 (f := .free "tuple") rfl)
    z_len := He.free_ok X G (c.fact 46 (f := .free "len") rfl)
    z_isinstance := He.free_ok X G (c.fact 47 (f := .free "isinstance") rfl)
    z_int := He.free_ok X G (c.fact 48 (f := .free "int") rfl)
    z_bool := He.free_ok X G (c.fact 49 (f := .free "bool") rfl)
    z_all := He.free_ok X G (c.fact 50 (f := .free "all") rfl)
    z_set := He.free_ok X G (c.fact 51 (f := .free "set") rfl)
    z_sorted := He.free_ok X G (c.fact 52 (f := .free "sorted") rfl)
    z_str := He.free_ok X G (c.fact 53 (f := .free "str") rfl)
    z_zip := He.free_ok X G (c.fact 54 (f := .free "zip") rfl)
    z_sum := He.free_ok X G (c.fact 55 (f := .free "sum") rfl)
    c_MAX_PEOPLE := He.int_ok X G (c.fact 56 (f := .int "MAX_PEOPLE" 40) rfl)
    c_MAX_RING_LISTED := He.int_ok X G (c.fact 57 (f := .int "MAX_RING_LISTED" 6) rfl) }
  cases e
  have b := FunD.bindsA (ps := ["_law_script"]) F40 fun _ _ _ _ _ _ us hl => match us, hl with | [_], _ => rfl
  exact ⟨fd40, fun s v => b s [v] rfl, fun base _ _ => ok_law (P := P) (w := w) (base := base) T⟩
end K57
open PySem PySem.W PySem.Calls PyProof.Rows
theorem PySem.Challenge.cw_swaprow_k57_whole_rings_reached_holds : PySem.Challenge.rw_swaprow_k57_whole_rings_reached.Holds := by
  w_on; o_law
  refine HandSHeadRun.head_any (r := K57.R) (q := view K57.R.prog [51]) (H := K57.hk) (ob := K57.ob) (M := 6000) (loose := K57.loose) (d := HandSHeadRun.topDef K57.R.prog 51) (kwd := []) K57.ob_eq
    (by kernel_rfl) (fun s => by kernel_rfl) K57.run (by kernel_rfl) (by kernel_rfl) (by kernel_rfl) (by rfl) (by first | assumption | decide +kernel) (by decide +kernel) ⟨rfl, rfl, rfl, rfl, rfl, by decide +kernel⟩ ?hw ?hc
  case hw => w_witness2
  case hc =>
    refine L2.walk_ofE (l := PySem.Challenge.rw_swaprow_k57_whole_rings_reached) (n := 63) (k := 9) (x := "_law_script") (CX := L2.CX0) rfl (by decide) (by kernel_rfl) ⟨rfl, by decide, by decide⟩ ?F (fun _ _ _ _ z => z)
    intro w mg fa h Y G hmg0
    obtain ⟨K, KX, c⟩ := Y
    have hmg : mg ("law" : PySem.Str) = some (.ref fa) := by
      have e : (HandSHeadRun.topDef K57.R.prog 51).name = ("law" : PySem.Str) := by kernel_rfl
      rw [← e]
      exact hmg0
    obtain ⟨fd, hb, hF⟩ := K57.facts (P := (PySem.Challenge.rw_swaprow_k57_whole_rings_reached).prog) (w := w) KX G hmg c
    exact ⟨K, fd, K57.sp_law K, KX, hb, fun H a ns hl _ hS => ⟨a, ns, rfl, hS, hl, fun _ => rfl⟩, hF⟩
