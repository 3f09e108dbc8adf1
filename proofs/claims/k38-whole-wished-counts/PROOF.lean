import PyProof.Rows.All
import Wide.All
import OpenK.AllK
import Wide.FinOn
import HandS.ForMost
import HandS.IsInst
import HandS.Walk
import HandS.SetFor
import HandS.Strs
import HandS.SortInts
import HandS.TupAny
import HandS.Conv
import KE.GoesNew
import PySem.Challenge.RW_countdoors_k38_whole_wished_counts
set_option Elab.async false
set_option linter.all false
set_option maxRecDepth 100000
set_option maxHeartbeats 4000000
/-! Rules of our own beside the hand layer's: enumerate of a tuple, zip of a tuple and a list. -/
namespace Cd
open PySem PySem.Spec PyProof.Rows L2

/-! ### enumerate(tuple) -/
section
variable {prog : Program} {w : World} {A : Around} {E : Value → Shared → Prop} {s : Shared}
set_option maxHeartbeats 8000000 in
theorem meetsEnumT (t : Addr) (items : Array Value) :
    Meets (Builtin.«enumerate.__new__» ⟨[.type "enumerate", .ref t], []⟩) (fun _ R s => s.heap.IsTuple t items ∧
      R (.ok (.ret (.ref (s.heap.push { cls := .type "tuple_iterator", data := .fields #[.ref t, .int 0 0] }).objs.size)))
        { s with heap := (s.heap.push { cls := .type "tuple_iterator", data := .fields #[.ref t, .int 0 0] }).push { cls := .type "enumerate", data := .fields #[.none, .bool false, .ref s.heap.objs.size, rawInt 0, .none, .none] } }) :=
  .of_wp fun prog w A R s hyp => by
    obtain ⟨hp, gs, dr, tk, os⟩ := s
    obtain ⟨isT, fin⟩ := hyp
    have subE := sub_enumerate
    have stepIter : ∀ {A' : Around} {E : Value → Shared → Prop} {Q : Value → Shared → Prop},
        Q (.ref hp.objs.size) ⟨hp.push { cls := .type "tuple_iterator", data := .fields #[.ref t, .int 0 0] }, gs, dr, tk, os⟩ →
          wpAny (model prog w) A' (pyIter (.ref t)) Q E ⟨hp, gs, dr, tk, os⟩ :=
      fun q => (begins_tuple t items).iter prog w _ _ ⟨hp, gs, dr, tk, os⟩ _ isT q
    wp_walk using stepIter
    refine wpAny_stack_any fun st => wpAny_pure ?_
    split
    · rename_i cl _ _ _ _ _
      cases (cl == Value.type "enumerate") <;> (wp_walk using stepIter; exact ⟨_, rfl, fin⟩)
    · wp_walk using stepIter
      exact ⟨_, rfl, fin⟩
theorem callEnumT {t : Addr} {items : Array Value} {Q : Value → Shared → Prop} (isT : s.heap.IsTuple t items)
    (fin : ∀ h', IsEnum h' (s.heap.objs.size + 1) s.heap.objs.size 0 .none → h'.IsTupleIter s.heap.objs.size t 0 →
      (∀ b o, s.heap.get? b = some o → h'.get? b = some o) → Q (.ref (s.heap.objs.size + 1)) { s with heap := h' }) :
    wpAny (model prog w) A (call (.type "enumerate") [.ref t]) Q E s := by
  refine callType_new F.called_enumerate (by decide) (F.typeCall_enumerate_1 _) (F.newCall_enumerate_1 _)
    (fun obj => F.args_object_init_2 obj _) F.entry_enumerate_new (meetsEnumT t items) ⟨isT, ?_⟩
  have sz : (s.heap.push { cls := .type "tuple_iterator", data := .fields #[.ref t, .int 0 0] }).objs.size = s.heap.objs.size + 1 := Heap.size_push ..
  have old : ∀ b o, s.heap.get? b = some o → ((s.heap.push { cls := .type "tuple_iterator", data := .fields #[.ref t, .int 0 0] }).push { cls := .type "enumerate", data := .fields #[.none, .bool false, .ref s.heap.objs.size, rawInt 0, .none, .none] }).get? b = some o :=
    fun b o x => Heap.get?_push_of_some _ (Heap.get?_push_of_some _ x)
  have atE := Heap.get?_push_size (s.heap.push { cls := .type "tuple_iterator", data := .fields #[.ref t, .int 0 0] })
    (o := { cls := .type "enumerate", data := .fields #[.none, .bool false, .ref s.heap.objs.size, rawInt 0, .none, .none] }) rfl
  rw [sz] at atE
  show _ ∧ _
  rw [sz]
  exact ⟨⟨_, atE, rfl⟩, fin _ atE ⟨_, Heap.get?_push_of_some _ (Heap.get?_push_size _ rfl), rfl, rfl⟩ old⟩
end

/-! ### an iterator that gives out new pairs, as a turn of the layer -/
theorem turnPairs {P : Program} {w : World} {K : PySem.W.Frag} {elts : List Expr} {kk : Nat} {tpos : Pos} {J : It} {it : Addr} {fp : List Addr} {tn : Nat → Heap → Prop}
    (mem : it ∈ fp) (obj : ∀ i h, tn i h → ∀ b ∈ fp, ∃ o, h.get? b = some o ∧ ∀ v, o.data ≠ .cell v)
    (keep : ∀ i h h', tn i h → (∀ b ∈ fp, ∀ o, h.get? b = some o → h'.get? b = some o) → tn i h')
    (goes : ∀ (X : Cx), X.prog = P → X.w = w → X.K = K → X.calm = true → ∀ (i : Nat) (pins : List (Addr × Obj)) (s : Shared) (σ : L2.St) (H : Hp), Inv X pins σ H s → tn i s.heap → J.go i H →
      (∀ b ∈ fp, ∀ xs, H b ≠ some (.tup xs) ∧ H b ≠ some (.lst xs)) →
      ∃ (gp wr : List Addr) (n : Nat) (Y : Nat → Heap → Value → Heap → Prop) (Sn : Nat → Heap → Prop), GoesN P w X.A (.Tuple elts kk tpos) it gp wr n Y Sn ∧ (∀ b ∈ wr, b ∈ fp) ∧ i < n ∧ Sn i s.heap ∧ (∀ h', Sn (i + 1) h' → tn (i + 1) h') ∧
        ∀ v h', Y i s.heap v h' → ∃ (T : Addr) (x y : V) (u1 u2 : Value), v = .ref T ∧ s.heap.objs.size ≤ T ∧ h'.IsTuple T #[u1, u2] ∧ RelV x u1 ∧ RelV y u2 ∧ J.yld i H (.ref T) (upd H T (.tup [x, y])))
    (stops : ∀ (X : Cx), X.prog = P → X.w = w → X.K = K → X.calm = true → ∀ (i : Nat) (pins : List (Addr × Obj)) (s : Shared) (σ : L2.St) (H : Hp), Inv X pins σ H s → tn i s.heap → J.stop i H →
      (∀ b ∈ fp, ∀ xs, H b ≠ some (.tup xs) ∧ H b ≠ some (.lst xs)) →
      ∃ (gp wr : List Addr) (Y : Nat → Heap → Value → Heap → Prop) (Sn : Nat → Heap → Prop), GoesN P w X.A (.Tuple elts kk tpos) it gp wr i Y Sn ∧ (∀ b ∈ wr, b ∈ fp) ∧ Sn i s.heap)
    (self : ∀ (A : Around) (i : Nat) (s : Shared) (Q : Value → Shared → Prop) (E : Value → Shared → Prop), tn i s.heap → Q (.ref it) s → wpAny (model P w) A (pyIter (.ref it)) Q E s) :
    Turn P w K (.Tuple elts kk tpos) J fp it tn where
  mem := mem
  obj := obj
  keep := keep
  item := by
    intro X hP hw hK hc i pins s σ H E I hf st hg
    have out : ∀ b ∈ fp, ∀ xs, H b ≠ some (.tup xs) ∧ H b ≠ some (.lst xs) := fun b hb xs => by
      have n := (hf b hb).1
      constructor <;> (intro e; rw [n] at e; cases e)
    obtain ⟨gp, wr, n, Y, Sn, W, sub, lt, hS, nxt, what⟩ := goes X hP hw hK hc i pins s σ H I st hg out
    refine W.goes i s _ E lt hS fun v h' tk hY hS' kept _ => ?_
    obtain ⟨T, x, y, u1, u2, rfl, new, isT, r1, r2, yl⟩ := what v h' hY
    have alive : T ∉ fp := fun hm => by
      obtain ⟨o, ho, _⟩ := obj i s.heap st T hm
      exact absurd (Nat.lt_of_lt_of_le (Heap.lt_size ho) new) (Nat.lt_irrefl _)
    refine ⟨.ref T, upd H T (.tup [x, y]), ?_, rfl, yl, nxt h' hS', fun b hb => ?_⟩
    · refine I.turnedNew (ch := fp) (fun b o hb e => kept b o (fun z => hb (sub b z)) e) hf new ⟨?_, [u1, u2], .cons r1 (.cons r2 .nil), isT⟩
      show 2 ≤ sizeLine
      decide
    · rw [upd_ne (show b ≠ T from fun z => alive (by rw [← z]; exact hb))]
      exact (hf b hb).1
  done := by
    intro X hP hw hK hc i pins s σ H E I hf st hg
    have out : ∀ b ∈ fp, ∀ xs, H b ≠ some (.tup xs) ∧ H b ≠ some (.lst xs) := fun b hb xs => by
      have n := (hf b hb).1
      constructor <;> (intro e; rw [n] at e; cases e)
    obtain ⟨gp, wr, Y, Sn, W, sub, hS⟩ := stops X hP hw hK hc i pins s σ H I st hg out
    exact W.stops s _ E hS fun h' tk kept _ => I.turnedL (ch := fp) (fun b o hb e => kept b o (fun z => hb (sub b z)) e) hf
  self := self
/-- the tuple at a, each item in a new pair behind its number -/
def IteT (K : PySem.W.Frag) (a : Addr) : It :=
  ⟨fun i H => ∃ (xs : List V) (x : V), SqT K H a xs ∧ xs[i]? = some x,
    fun i H v H' => ∃ T x, v = .ref T ∧ H T = none ∧ H' = upd H T (.tup [.int (i : Nat), x]) ∧ ∀ xs, SqT K H a xs → xs[i]? = some x,
    fun i H => ∃ xs : List V, SqT K H a xs ∧ xs.length = i⟩
theorem turnEnumT {P : Program} {w : World} {K : PySem.W.Frag} {elts : List Expr} {kk : Nat} {tpos : Pos} (a e it : Addr) (d1 : e ≠ it) (d2 : a ≠ e) (d3 : a ≠ it) :
    Turn P w K (.Tuple elts kk tpos) (IteT K a) [e, it] e (fun i h => (∃ old, IsEnum h e it (0 + ((i : Nat) : Int)) old) ∧ h.IsTupleIter it a i) := by
  refine turnPairs (by simp) (fun i h st b hb => ?_) (fun i h h' st k => ?_) ?_ ?_ fun A i s Q E st q => ?_
  · obtain ⟨⟨old, he⟩, o, ho, hc, hd⟩ := st
    rcases List.mem_cons.mp hb with z | z
    · rw [z]
      exact ⟨_, he, fun v q => nomatch q⟩
    · rw [List.mem_singleton.mp z]
      exact ⟨o, ho, fun v q => by rw [hd] at q; cases q⟩
  · obtain ⟨⟨old, he⟩, hi⟩ := st
    exact ⟨⟨old, k e (by simp) _ he⟩, hi.at fun o q => k it (by simp) o q⟩
  · intro X hP hw hK hc i pins s σ H I st hg _
    subst hP hw hK
    obtain ⟨xs, x, hq, hx⟩ := hg
    obtain ⟨its, rv, p, hz⟩ := I.tuple hq
    obtain ⟨u, hu, ru⟩ := rv.get hx
    have hlt : i < its.length := (List.getElem?_eq_some_iff.mp hu).1
    have isT : s.heap.IsTuple a its.toArray := p
    have hd : X.A.in1.handled = none := I.ok.hd hc
    refine ⟨_, [e, it], _, _, _, GoesN.enumFrom (elts := elts) (x1 := kk) (pos := tpos) 0 (Draws.tuple (prog := X.prog) (w := X.w) hd it a d3 its.toArray) e d1 (by simp [d1, Ne.symm d2]) (by simp),
      fun b hb => hb, by simpa using hlt, ⟨st.1, st.2, isT⟩, fun h' q => ⟨q.1, q.2.1⟩, fun v h' hY => ?_⟩
    obtain ⟨T, t, y, rfl, new, hy, hT⟩ := hY
    have ey : y = u := by
      have q : its[i]? = some y := by simpa using hy
      exact Option.some.inj (q.symm.trans hu)
    subst ey
    refine ⟨T, .int (i : Nat), x, _, _, rfl, new, hT, ⟨t, by rw [Int.zero_add]⟩, ru, T, x, rfl, I.hok.fresh new, rfl, fun ys hy => ?_⟩
    rw [I.tuple_inj hy hq]
    exact hx
  · intro X hP hw hK hc i pins s σ H I st hg _
    subst hP hw hK
    obtain ⟨xs, hq, hx⟩ := hg
    obtain ⟨its, rv, p, hz⟩ := I.tuple hq
    have isT : s.heap.IsTuple a its.toArray := p
    have hd : X.A.in1.handled = none := I.ok.hd hc
    have el : its.toArray.size = i := by
      rw [List.size_toArray, ← rv.length]
      exact hx
    have W := GoesN.enumFrom (elts := elts) (x1 := kk) (pos := tpos) 0 (Draws.tuple (prog := X.prog) (w := X.w) hd it a d3 its.toArray) e d1 (by simp [d1, Ne.symm d2]) (by simp)
    rw [el] at W
    exact ⟨_, [e, it], _, _, W, fun b hb => hb, st.1, st.2, isT⟩
  · obtain ⟨⟨old, he⟩, _⟩ := st
    exact wpAny_pyIter_enum he q
def iEnumT (K : PySem.W.Frag) (ta : TA) : TI := fun σ H R => ta σ H fun vs H1 => ∃ a xs, vs = [.ref a] ∧ SqT K H1 a xs ∧ R (IteT K a) H1
theorem pi_enumT {X : Cx} {e : Expr} {ta : TA} {p pos tpos : Pos} {elts : List Expr} {kk : Nat} (hg : Gl X "enumerate") (hm : X.mg "enumerate" = none) (ha : PA X [e] ta)
    (hs : starEach [e] X.env = [(false, eval e X.env)] := by rfl) : PI X (.Tuple elts kk tpos) (.Call (.Name "enumerate" p) [e] [] pos) (iEnumT X.K ta) := by
  constructor
  intro pins s σ H R I hyp
  refine Call_ (ld_blt I hg hm boot_enumerate (PyProof.Rows.callWith_type1 (thn (ha.run pos pins s σ H _ I hyp) fun us s1 want => ?_) hs rfl))
  obtain ⟨vs, H1, I1, r1, a, xs, rfl, hq, q⟩ := want
  obtain ⟨u, rfl, ru⟩ := r1.one
  cases ru
  obtain ⟨its, rv, isT, _⟩ := I1.tuple hq
  have alt : a < s1.heap.objs.size := isT.lt
  refine callEnumT isT fun h' he hit kept => wpAny_pyIter_enum he ?_
  refine ⟨s1.heap.objs.size + 1, [s1.heap.objs.size + 1, s1.heap.objs.size], _, _, H1, rfl, I1.kept (t' := s1.toks) kept,
    turnEnumT a (s1.heap.objs.size + 1) s1.heap.objs.size (Nat.succ_ne_self _) (Nat.ne_of_lt (Nat.lt_succ_of_lt alt)) (Nat.ne_of_lt alt), ⟨⟨.none, he⟩, hit⟩, fun b hb => ?_, q⟩
  have low : s1.heap.objs.size ≤ b := by
    rcases List.mem_cons.mp hb with z | z
    · rw [z]
      exact Nat.le_succ _
    · rw [List.mem_singleton.mp z]
      exact Nat.le_refl _
  exact I1.fpOk low (I1.hok.fresh low)
theorem walk_enumT {K : PySem.W.Frag} {a : Addr} {xs : List V} : Walk (IteT K a) xs.length (fun H => SqT K H a xs) (YPair (fun i => some (.int (i : Nat))) (fun i => xs[i]?)) := by
  refine ⟨fun i _ hi q => ⟨xs, xs[i], q, List.getElem?_eq_getElem hi⟩, fun _ q => ⟨xs, q, rfl⟩, fun i H v H' _ q y => ?_⟩
  obtain ⟨T, x, rfl, n, rfl, f⟩ := y
  exact ⟨T, _, x, rfl, n, rfl, rfl, f xs q⟩

/-! ### zip(tuple, list) -/
def ItzM (K : PySem.W.Frag) (a b : Addr) : It :=
  ⟨fun i H => ∃ (xs ys : List V) (x y : V), SqT K H a xs ∧ SqL K H b ys ∧ xs[i]? = some x ∧ ys[i]? = some y,
    fun i H v H' => ∃ T x y, v = .ref T ∧ H T = none ∧ H' = upd H T (.tup [x, y]) ∧ (∀ xs, SqT K H a xs → xs[i]? = some x) ∧ ∀ ys, SqL K H b ys → ys[i]? = some y,
    fun i H => ∃ xs ys : List V, SqT K H a xs ∧ SqL K H b ys ∧ xs.length = i ∧ ys.length = i⟩
theorem turnZipM {P : Program} {w : World} {K : PySem.W.Frag} {elts : List Expr} {kk : Nat} {tpos : Pos} (a b z TI TO i1 i2 : Addr) (S : ZipSep2 z TI TO i1 i2 [i1, a] [i2, b]) (d1 : a ≠ i1) (d2 : b ≠ i2) :
    Turn P w K (.Tuple elts kk tpos) (ItzM K a b) [z, TI, TO, i1, i2] z
      (fun i h => IsZip h z TI TO .none ∧ IsTupOf2 h TI (.ref i1) (.ref i2) ∧ (∃ a1 a2, IsTupOf2 h TO a1 a2) ∧ h.IsTupleIter i1 a i ∧ h.IsListIter i2 b i) := by
  refine turnPairs (by simp) (fun i h st c hc => ?_) (fun i h h' st k => ?_) ?_ ?_ fun A i s Q E st q => wpAny_pyIter_zip st.1 q
  · obtain ⟨hz, hI, ⟨a1, a2, hO⟩, ⟨o1, e1, _, f1⟩, ⟨o2, e2, _, f2⟩⟩ := st
    rcases List.mem_cons.mp hc with q | hc
    · rw [q]
      exact ⟨_, hz, fun v q => nomatch q⟩
    rcases List.mem_cons.mp hc with q | hc
    · rw [q]
      exact ⟨_, hI, fun v q => nomatch q⟩
    rcases List.mem_cons.mp hc with q | hc
    · rw [q]
      exact ⟨_, hO, fun v q => nomatch q⟩
    rcases List.mem_cons.mp hc with q | hc
    · rw [q]
      exact ⟨o1, e1, fun v q => by rw [f1] at q; cases q⟩
    · rw [List.mem_singleton.mp hc]
      exact ⟨o2, e2, fun v q => by rw [f2] at q; cases q⟩
  · obtain ⟨hz, hI, ⟨a1, a2, hO⟩, h1, h2⟩ := st
    exact ⟨k z (by simp) _ hz, k TI (by simp) _ hI, ⟨a1, a2, k TO (by simp) _ hO⟩, h1.at fun o q => k i1 (by simp) o q, h2.at fun o q => k i2 (by simp) o q⟩
  · intro X hP hw hK hc i pins s σ H I st hg _
    subst hP hw hK
    obtain ⟨xs, ys, x, y, hq, hq2, hx, hy⟩ := hg
    obtain ⟨its, rv, p, _⟩ := I.tuple hq
    obtain ⟨its2, rv2, p2, _⟩ := I.list hq2
    obtain ⟨u, hu, ru⟩ := rv.get hx
    obtain ⟨u2, hu2, ru2⟩ := rv2.get hy
    have lt1 : i < its.length := (List.getElem?_eq_some_iff.mp hu).1
    have lt2 : i < its2.length := (List.getElem?_eq_some_iff.mp hu2).1
    have isT : s.heap.IsTuple a its.toArray := p
    have hd : X.A.in1.handled = none := I.ok.hd hc
    obtain ⟨hz, hI, hO, h1, h2⟩ := st
    refine ⟨_, [z, TO, i1, i2], _, _, _, GoesN.zip2 (elts := elts) (x1 := kk) (pos := tpos) S (Draws.tuple (prog := X.prog) (w := X.w) hd i1 a d1 its.toArray) (Draws.list (prog := X.prog) (w := X.w) hd i2 b d2 its2.toArray),
      fun c hc => ?_, ?_, ⟨hz, hI, hO, ⟨h1, isT⟩, h2, p2.isList⟩, fun h' q => ⟨q.1, q.2.1, q.2.2.1, q.2.2.2.1.1, q.2.2.2.2.1⟩, fun v h' hY => ?_⟩
    · rcases List.mem_cons.mp hc with q | hc
      · simp [q]
      · exact List.mem_cons_of_mem _ (List.mem_cons_of_mem _ hc)
    · simp only [List.size_toArray]
      omega
    · obtain ⟨T, x', y', rfl, new, hx', hy', hT⟩ := hY
      have ex : x' = u := by
        have q : its[i]? = some x' := by simpa using hx'
        exact Option.some.inj (q.symm.trans hu)
      have ey : y' = u2 := by
        have q : its2[i]? = some y' := by simpa using hy'
        exact Option.some.inj (q.symm.trans hu2)
      subst ex ey
      refine ⟨T, x, y, _, _, rfl, new, hT, ru, ru2, T, x, y, rfl, I.hok.fresh new, rfl, fun l hl => ?_, fun l hl => ?_⟩
      · rw [I.tuple_inj hl hq]
        exact hx
      · rw [I.list_inj hl hq2]
        exact hy
  · intro X hP hw hK hc i pins s σ H I st hg _
    subst hP hw hK
    obtain ⟨xs, ys, hq, hq2, hx, hy⟩ := hg
    obtain ⟨its, rv, p, _⟩ := I.tuple hq
    obtain ⟨its2, rv2, p2, _⟩ := I.list hq2
    have isT : s.heap.IsTuple a its.toArray := p
    have hd : X.A.in1.handled = none := I.ok.hd hc
    obtain ⟨hz, hI, hO, h1, h2⟩ := st
    have el : min its.toArray.size its2.toArray.size = i := by
      rw [List.size_toArray, List.size_toArray, ← rv.length, ← rv2.length]
      omega
    have W := GoesN.zip2 (elts := elts) (x1 := kk) (pos := tpos) S (Draws.tuple (prog := X.prog) (w := X.w) hd i1 a d1 its.toArray) (Draws.list (prog := X.prog) (w := X.w) hd i2 b d2 its2.toArray)
    rw [el] at W
    refine ⟨_, [z, TO, i1, i2], _, _, W, fun c hc => ?_, hz, hI, hO, ⟨h1, isT⟩, h2, p2.isList⟩
    rcases List.mem_cons.mp hc with q | hc
    · simp [q]
    · exact List.mem_cons_of_mem _ (List.mem_cons_of_mem _ hc)
def iZipM (K : PySem.W.Frag) (ta : TA) : TI := fun σ H R => ta σ H fun vs H1 => ∃ a b xs ys, vs = [.ref a, .ref b] ∧ SqT K H1 a xs ∧ SqL K H1 b ys ∧ R (ItzM K a b) H1
theorem pi_zipM {X : Cx} {e e2 : Expr} {ta : TA} {p pos tpos : Pos} {elts : List Expr} {kk : Nat} (hg : Gl X "zip") (hm : X.mg "zip" = none) (ha : PA X [e, e2] ta)
    (hs : starEach [e, e2] X.env = (false, eval e X.env) :: starEach [e2] X.env := by rfl) (hpl : (backTo pos (starEach [e2] X.env)).any (·.1) = false := by rfl) :
    PI X (.Tuple elts kk tpos) (.Call (.Name "zip" p) [e, e2] [] pos) (iZipM X.K ta) := by
  constructor
  intro pins s σ H R I hyp
  refine Call_ (ld_blt I hg hm PyProof.Rows.boot_zip (PyProof.Rows.callWith_type1 (thn (ha.run pos pins s σ H _ I hyp) fun us s1 want => ?_) hs hpl))
  obtain ⟨vs, H1, I1, r1, a, b, xs, ys, rfl, hq, hq2, q⟩ := want
  obtain ⟨u, u2, rfl, ru, ru2⟩ := r1.two
  cases ru
  cases ru2
  obtain ⟨its, rv, isT, _⟩ := I1.tuple hq
  obtain ⟨its2, rv2, isL, _⟩ := I1.list hq2
  have al : a < s1.heap.objs.size := isT.lt
  have bl : b < s1.heap.objs.size := isL.lt
  refine zip_begins2 (begins_tuple a its.toArray) (begins_list b its2.toArray) (show s1.heap.IsTuple a its.toArray from isT) isL.isList
    fun h' hz hI hO g1 g2 _ kept => wpAny_pyIter_zip hz ?_
  have S : ZipSep2 (s1.heap.objs.size + 4) (s1.heap.objs.size + 2) (s1.heap.objs.size + 3) s1.heap.objs.size (s1.heap.objs.size + 1) [s1.heap.objs.size, a] [s1.heap.objs.size + 1, b] :=
    zip_sep2 (N := s1.heap.objs.size) (fp1 := [a]) (fp2 := [b]) (fun c hc => by rw [List.mem_singleton.mp hc]; exact al) (fun c hc => by rw [List.mem_singleton.mp hc]; exact bl)
  refine ⟨s1.heap.objs.size + 4, [s1.heap.objs.size + 4, s1.heap.objs.size + 2, s1.heap.objs.size + 3, s1.heap.objs.size, s1.heap.objs.size + 1], _, _, H1, rfl, I1.kept (t' := s1.toks) kept,
    turnZipM a b _ _ _ _ _ S (Nat.ne_of_lt al) (Nat.ne_of_lt (Nat.lt_succ_of_lt bl)), ⟨hz, hI, ⟨_, _, hO⟩, ⟨_, g1, rfl, rfl⟩, ⟨_, g2, rfl, rfl⟩⟩, fun c hc => ?_, q⟩
  have low : s1.heap.objs.size ≤ c := by
    simp only [List.mem_cons, List.not_mem_nil, or_false] at hc
    rcases hc with z | z | z | z | z <;> rw [z]
    · exact Nat.le_add_right _ _
    · exact Nat.le_add_right _ _
    · exact Nat.le_add_right _ _
    · exact Nat.le_refl _
    · exact Nat.le_add_right _ _
  exact I1.fpOk low (I1.hok.fresh low)
theorem walk_zipM {K : PySem.W.Frag} {a b : Addr} {xs ys : List V} (el : xs.length = ys.length) : Walk (ItzM K a b) xs.length (fun H => SqT K H a xs ∧ SqL K H b ys) (YPair (fun i => xs[i]?) (fun i => ys[i]?)) := by
  refine ⟨fun i _ hi q => ⟨xs, ys, xs[i], ys[i]'(el ▸ hi), q.1, q.2, List.getElem?_eq_getElem hi, List.getElem?_eq_getElem (el ▸ hi)⟩, fun _ q => ⟨xs, ys, q.1, q.2, rfl, el.symm⟩, fun i H v H' _ q y => ?_⟩
  obtain ⟨T, x, y, rfl, n, rfl, f, g⟩ := y
  exact ⟨T, x, y, rfl, n, rfl, f xs q.1, g ys q.2⟩
end Cd

set_option maxRecDepth 100000
set_option maxHeartbeats 4000000
/-! Rules of our own: an item of a list for an augmented store, the set of a list or a tuple of ints, such a set sorted, whatever its size. -/
namespace Cd
open PySem PySem.Spec PyProof.Rows L2

/-! ### xs[i] ahead of xs[i] op= e -/
theorem get_listP {X : Cx} : PGet X (rIxL X.K) := by
  intro pins s σ H o i ov iv Q I ro ri want
  obtain ⟨p, xs, k, v, rfl, rfl, isL, at_, q⟩ := want
  cases ro
  obtain ⟨t, rfl⟩ := ri
  obtain ⟨its, rv, pl, hz⟩ := I.list isL
  obtain ⟨j, e1, e2, e3, e4, e5⟩ := atI_get at_
  obtain ⟨u, eu, ru⟩ := rv.get e2
  have len := rv.length
  have big := line63
  have fin : EP X pins σ Q u s := ⟨v, H, I, ru, q⟩
  by_cases pos : 0 ≤ k
  · have ek : k.toNat = j := by
      rw [seqIndex_of pos e5] at e1
      exact Option.some.inj e1
    exact getItem_listL (l := its) pl.isList pos (by omega) (by rw [ek]; exact eu) fin
  · have ek : (k + (its.toArray.size : Int)).toNat = j := by
      rw [seqIndex_neg (by omega) e4] at e1
      rw [List.size_toArray, ← len]
      exact Option.some.inj e1
    exact wpAny_getItem_list_neg pl.isList (by omega) (by rw [List.size_toArray]; omega) (by omega) (by rw [ek]; simpa using eu) fin

/-! ### set(xs), xs a list of ints -/
section
variable {P : Program} {w : World} {A : Around} {E : Value → Shared → Prop} {s : Shared}
/-- a new set as the model lays it -/
abbrev emptySet (w : World) : Obj := { cls := .type "set", dict := none, data := .set #[] 0 (.fresh 0 0 (!w.params.followText "set-order")) }
/-- set(v): what its own __init__ is to reach -/
theorem setOf1 {v : Value} {Q : Value → Shared → Prop}
    (init : wpAny (model P w) A.in1.in1 (Builtin.«set.__init__» ⟨[.ref s.heap.objs.size, v], []⟩)
      (fun fin s' => match fin with
        | .done f => wants (fun r s₂ => r = .none ∧ Q (.ref s.heap.objs.size) s₂) E (.ok f) s'
        | .again c' => c'.quiet = true ∧ codeAny (model P w) A.in1 c' (wants (fun r s₂ => r = .none ∧ Q (.ref s.heap.objs.size) s₂) E) s')
      (fun e s' => wants (fun r s₂ => r = .none ∧ Q (.ref s.heap.objs.size) s₂) E (.error e) s') { s with heap := s.heap.push (emptySet w) }) :
    wpAny (model P w) A (call (.type "set") [v]) Q E s := by
  have made := F.called_set.made
  have sub := F.called_set.sub
  have own := F.called_set.notType
  have can := F.called_set.canCreate
  have look := F.typeCall_set_1 v
  obtain ⟨c, tl, line⟩ := F.called_set.mro
  refine wpAny_call (codeAny_of_tree ?_)
  show wpAny _ _ (callAny (.type "set") _) _ _ _
  refine wpAny_pure ⟨Code.quiet_builtin _ (by decide +kernel), codeAny_builtin F.entry_type_call ?_⟩
  rw [Around.under_plain (weight_type_call_type "set" [v] []) rfl]
  repeat (any_goals (first | assumption | wp_step))
  refine codeAny_mono (code_set_led1 v (E := E) (Q₁ := fun obj s1 => obj = .ref s.heap.objs.size ∧ s1 = { s with heap := s.heap.push (emptySet w) }) ⟨rfl, rfl⟩) fun r s1 want => ?_
  match r, want with
  | .error e, want => exact want
  | .ok (.ret obj), want =>
    obtain ⟨rfl, rfl⟩ := want
    have isS : Shared.TypeIs { s with heap := s.heap.push (emptySet w) } (.ref s.heap.objs.size) "set" := ⟨_, Heap.get?_push_size _ rfl, rfl⟩
    have lookI := F.called_set.init.lookup
    have bindI := F.called_set.init.bind (.ref s.heap.objs.size)
    repeat (any_goals (first | assumption | wp_step))
    refine codeAny_mono (codeAny_call_builtin F.called_set.init.plain F.entry_set_init (check_set_init_1 isS init)) fun r2 s2 want2 => ?_
    match r2, want2 with
    | .error e, want2 => exact want2
    | .ok (.ret _), want2 =>
      obtain ⟨rfl, q⟩ := want2
      repeat (any_goals (first | assumption | wp_step))
    | .ok .next, want2 => exact want2.elim
    | .ok .brk, want2 => exact want2.elim
    | .ok .cont, want2 => exact want2.elim
  | .ok .next, want => exact want.elim
  | .ok .brk, want => exact want.elim
  | .ok .cont, want => exact want.elim
/-- set(xs) of a list of ints -/
theorem setOfList {l : Addr} {items : Array Value} {ns : List Int} {Q : Value → Shared → Prop} (hh : A.handled = none) (isL : s.heap.IsList l items) (hI : IntsAre items.toList ns) (few : ns.length + 1 < scanBound)
    (fin : ∀ (h' : Heap) (tk c : Nat), SetR w h' s.heap.objs.size (fun j => decide (j ∈ ns)) c → (∀ b o, s.heap.get? b = some o → h'.get? b = some o) → Q (.ref s.heap.objs.size) { s with heap := h', toks := tk }) :
    wpAny (model P w) A (call (.type "set") [.ref l]) Q E s := by
  have many : items.size = ns.length := by
    rw [← Array.length_toList]
    exact IntsAre.length hI
  refine setOf1 ?_
  obtain ⟨⟨cl, dd, dt, sl⟩, atL, e1, n, e2⟩ := isL
  simp only at e1 e2
  subst e1 e2
  have lS : l < s.heap.objs.size := Heap.lt_size atL
  have atS : (s.heap.push (emptySet w)).get? s.heap.objs.size = some (emptySet w) := Heap.get?_push_size _ rfl
  have isS : Shared.TypeIs { s with heap := s.heap.push (emptySet w) } (.ref s.heap.objs.size) "set" := ⟨_, atS, rfl⟩
  have atL2 : (s.heap.push (emptySet w)).get? l = some ⟨.type "list", dd, .seq items n, sl⟩ := Heap.get?_push_of_some _ atL
  have isL2 : (s.heap.push (emptySet w)).IsList l items := ⟨_, atL2, rfl, n, rfl⟩
  have size2 : (s.heap.push (emptySet w)).objs.size = s.heap.objs.size + 1 := Heap.size_push ..
  have noSet := F.sub_list_set
  have noFrozen := F.sub_list_frozenset
  have noDict : (Value.type "list" == Value.type "dict") = false := by decide
  unfold Builtin.«set.__init__» noKeywords Builtin.Frozenset.updateFrom
  generalize gi : pyIter = PI
  wp_walk
  subst gi
  refine wpAny_pyIter_list isL2 (wpAny_bind (wpAny_runValue ?_))
  have neI : l ≠ (s.heap.push (emptySet w)).objs.size := by
    rw [size2]
    exact Nat.ne_of_lt (Nat.lt_succ_of_lt lS)
  have apart : s.heap.objs.size ∉ [(s.heap.push (emptySet w)).objs.size, l] := fun hm => by
    rcases List.mem_cons.mp hm with z | z
    · rw [size2] at z
      exact absurd z (Nat.ne_of_lt (Nat.lt_succ_self _))
    · exact absurd (List.mem_singleton.mp z) (Nat.ne_of_gt lS)
  have told : ∀ (i : Nat) (u : Value), items[i]? = some u → ∃ k t, ns[i]? = some k ∧ u = .int k t := fun i u hu => by
    have lt : i < ns.length := by
      rw [← many]
      exact (Array.getElem?_eq_some_iff.mp hu).1
    obtain ⟨t, e⟩ := PyProof.Rows.IntsAre.int_at hI i u (by rw [Array.getElem?_toList]; exact hu)
    refine ⟨ns[i], t, List.getElem?_eq_getElem lt, ?_⟩
    rw [e, List.getD_eq_getElem?_getD, List.getElem?_eq_getElem lt]
    rfl
  have hd : A.in1.in1.in1.handled = none := hh
  refine set_update_ints ((Walks.list hd _ l neI items).toS) s.heap.objs.size apart ns many few told (items.size - 0) 0 _ (by omega) (Nat.zero_le _)
    ⟨⟨_, Heap.get?_push_size _ rfl, rfl, rfl⟩, isL2.push _⟩ ⟨0, Nat.le_refl 0, ?start⟩ ?rest
  case start => exact setR_new_at (Heap.get?_push_of_some _ atS)
  case rest =>
  intro s' c mv _ R
  obtain ⟨h', g2, d2, tk, o2⟩ := s'
  obtain rfl : g2 = s.gens := mv.gens
  obtain rfl : d2 = s.drawn := mv.drawn
  obtain rfl : o2 = s.os := mv.os
  show wpAny _ _ _ _ _ _
  refine wpAny_pure ?_
  show wpAny _ _ (ret Value.none) _ _ _
  refine wpAny_pure ⟨rfl, fin h' tk c R fun b o e => ?_⟩
  have lt : b < s.heap.objs.size := Heap.lt_size e
  refine mv.heap b o (fun hm => ?_) (Heap.get?_push_of_some _ (Heap.get?_push_of_some _ e))
  rcases List.mem_cons.mp hm with z | z
  · exact absurd z (Nat.ne_of_lt lt)
  · rw [List.mem_singleton.mp z, size2] at lt
    exact absurd lt (Nat.not_lt_of_le (Nat.le_succ _))
/-- sorted of a set of ints, however many -/
theorem sortedOfSet {a : Addr} {S : Int → Bool} {n : Nat} {Q : Value → Shared → Prop} (R : SetR w s.heap a S n) (hh : A.handled = none)
    (fin : ∀ s' p (out : List Value) (c : Nat) (ns : List Int), (∀ b o, s.heap.get? b = some o → s'.heap.get? b = some o) → s'.gens = s.gens → s'.os = s.os → s.heap.objs.size ≤ p →
      s'.heap.get? p = some (seqObj "list" out.toArray c) → IntsAre out ns → ns.length ≤ sizeLine → ns.Pairwise (· < ·) → (∀ k, k ∈ ns ↔ S k = true) → Q (.ref p) s') :
    wpAny (model P w) A (call (.builtin "sorted") [.ref a]) Q E s := by
  obtain ⟨o, es, ep, tb, at_, exact_, data, good, once, mem, few, fits, _, rises, led⟩ := R
  refine Calls.call_function_entry kind_sorted plain_sorted entry_sorted (args_sorted1 _) ?_
  unfold Builtin.«sorted»
  refine wpAny_bind (m := checkCount "sorted" 1 1 _) (wpAny_pure (wpAny_bind ?_))
  refine collect_set (A := A.in1) hh ⟨o, at_, exact_.1, data⟩ fits few rises led fun s1 vs kept grown gens os perm => ?_
  have short : vs.length ≤ sizeLine := by
    rw [perm.length_eq, List.length_map, Array.length_toList]
    exact fits_of_scanBound few
  have hI : IntsAre vs (vs.map Builtin.Re.reRawOf) := ints_of vs fun v hv => by
    obtain ⟨e, he, q⟩ := List.mem_map.mp (perm.mem_iff.mp hv)
    obtain ⟨k, tk, e1, _⟩ := good e he
    exact ⟨k, tk, q.symm.trans e1⟩
  have permI : (vs.map Builtin.Re.reRawOf).Perm (es.toList.map keyOf) := by
    have q := perm.map Builtin.Re.reRawOf
    rw [List.map_map] at q
    exact q
  refine wpAny_bind (wpAny_newList ?_ short)
  have atN : (s1.heap.push (seqObj "list" vs.toArray 0)).get? s1.heap.objs.size = some (seqObj "list" vs.toArray 0) := Heap.get?_push_size _ rfl
  refine wpAny_bind (wpAny_holding (wpAny_call_entry slot_list_sort ⟨_, atN, rfl⟩ entry_list_sort ?_ (args_list_sort _)))
  refine SrtO.list_sort_ord SrtO.swo_int atN short (fun two => SrtO.ints_sortable hI two) fun out up stable => ⟨_, rfl, ?_⟩
  obtain ⟨k1, k2, k3⟩ := SrtO.ints_out hI up stable
  have permO : (out.map SrtO.iv).Perm (es.toList.map keyOf) := k2.trans permI
  obtain ⟨c, atO⟩ := sortedHeap_at (vs := vs) (out := out.toArray) atN
  refine wpAny_pure ⟨_, rfl, fin _ s1.heap.objs.size out c (out.map SrtO.iv) (fun b u e => ?_) gens os grown atO k1 ?_ (lt_of_le_nodup _ k3 (permO.nodup_iff.mpr once)) fun k => ?_⟩
  · have e1 := kept b u e
    have lt := Heap.lt_size e1
    refine (sortedHeap_old (Nat.ne_of_lt lt) ?_).trans (Heap.get?_push_of_some _ e1)
    rw [size_push']
    exact Nat.lt_succ_of_lt lt
  · rw [List.length_map, stable.perm.length_eq]
    exact short
  · rw [permO.mem_iff, ← mem k]
end

/-! ### the same as rules of the layer -/
section
variable {X : Cx}
def rSetL (K : PySem.W.Frag) (w : World) : List V → Hp → VK → Prop := fun vs H Q => ∃ (a : Addr) (ns : List Int), vs = [V.ref a] ∧ SqL K H a (ns.map V.int) ∧ ns.length + 1 < scanBound ∧
  ∀ (p : Addr) (c : Nat), H p = none → Q (.ref p) (upd H p (SetO w p (fun j => decide (j ∈ ns)) c))
theorem cr_setL (hc : X.calm = true) : CallR X (.type "set") (rSetL X.K X.w) := by
  intro pins s σ H vs us Q I r want
  obtain ⟨a, ns, rfl, isL, few, q⟩ := want
  obtain ⟨its, rv, pl, _⟩ := I.list isL
  rw [Vals.ref1 r]
  refine setOfList (I.ok.hd hc) pl.isList (ns := ns) (by simpa using rv.ints) few fun h' tk c R kept => ?_
  exact ⟨.ref s.heap.objs.size, _, I.laid (t' := tk) kept (Nat.le_refl _) (setO_new R), rfl, q _ c (I.hok.fresh (Nat.le_refl _))⟩
def rSetT (K : PySem.W.Frag) (w : World) : List V → Hp → VK → Prop := fun vs H Q => ∃ (a : Addr) (ns : List Int), vs = [V.ref a] ∧ SqT K H a (ns.map V.int) ∧ ns.length + 1 < scanBound ∧
  ∀ (p : Addr) (c : Nat), H p = none → Q (.ref p) (upd H p (SetO w p (fun j => decide (j ∈ ns)) c))
theorem cr_setT (hc : X.calm = true) : CallR X (.type "set") (rSetT X.K X.w) := by
  intro pins s σ H vs us Q I r want
  obtain ⟨a, ns, rfl, isT, few, q⟩ := want
  obtain ⟨its, rv, pt, _⟩ := I.tuple isT
  rw [Vals.ref1 r]
  refine call_set_tupI ns (I.ok.hd hc) (show s.heap.IsTuple a its.toArray from pt) (by simpa using rv.ints) few fun h' tk c R _ kept => ?_
  exact ⟨.ref s.heap.objs.size, _, I.laid (t' := tk) kept (Nat.le_refl _) (setO_new R), rfl, q _ c (I.hok.fresh (Nat.le_refl _))⟩
def rSortSet (w : World) : List V → Hp → VK → Prop := fun vs H Q => ∃ (a : Addr) (S : Int → Bool) (n : Nat), vs = [V.ref a] ∧ H a = some (SetO w a S n) ∧
  ∀ (ns : List Int) (p : Addr), ns.Pairwise (· < ·) → (∀ k : Int, k ∈ ns ↔ S k = true) → H p = none → Q (.ref p) (upd H p (.lst (ns.map V.int)))
theorem cr_sortSet (hc : X.calm = true) : CallR X (.builtin "sorted") (rSortSet X.w) := by
  intro pins s σ H vs us Q I r want
  obtain ⟨a, S, n, rfl, at_, q⟩ := want
  rw [Vals.ref1 r]
  refine sortedOfSet (setO_get I at_) (I.ok.hd hc) fun s' p out c ns kept gens os new atP hI short up mem => ?_
  have free : H p = none := I.hok.fresh new
  have len : (ns.map V.int).length ≤ sizeLine := by
    rw [List.length_map]
    exact short
  refine ⟨.ref p, upd H p (.lst (ns.map V.int)), I.call' (ch := []) os (Un.laid kept new free) (I.hok.laid kept new ⟨len, out, c, vals_of_ints hI, atP⟩) ?_ (fun _ z => nomatch z), rfl, q ns p up mem free⟩
  rw [gens]
  exact I.bare
end
end Cd

/-! Plain mathematics: sizes of a nest, products, parts, sets of small ints. No program in sight. -/
namespace Cd

/-! ### products -/
def pr : List Int → Int
  | [] => 1
  | x :: r => x * pr r
theorem pr_append : ∀ a b : List Int, pr (a ++ b) = pr a * pr b
  | [], b => (Int.one_mul _).symm
  | x :: a, b => by
    show x * pr (a ++ b) = x * pr a * pr b
    rw [pr_append a b, Int.mul_assoc]
theorem pr_take {l : List Int} {i : Nat} {x : Int} (h : l[i]? = some x) : pr (l.take (i + 1)) = pr (l.take i) * x := by
  rw [List.take_add_one, h, pr_append]
  show pr (l.take i) * (x * 1) = _
  rw [Int.mul_one]
theorem pr_pos : ∀ {l : List Int}, (∀ x ∈ l, 1 ≤ x) → 1 ≤ pr l
  | [], _ => Int.le_refl 1
  | x :: r, h => by
    have h1 := h x List.mem_cons_self
    have h2 := pr_pos fun y hy => h y (List.mem_cons_of_mem _ hy)
    show 1 ≤ x * pr r
    exact Int.le_trans (by omega : (1 : Int) ≤ 1 * 1) (Int.mul_le_mul h1 h2 (by omega) (by omega))
theorem pr_le : ∀ {l m : List Int}, l.length = m.length → (∀ (i : Nat) (x y : Int), l[i]? = some x → m[i]? = some y → 0 ≤ x ∧ x ≤ y) → 0 ≤ pr l ∧ pr l ≤ pr m
  | [], [], _, _ => ⟨by decide, Int.le_refl _⟩
  | [], _ :: _, h, _ => by simp at h
  | _ :: _, [], h, _ => by simp at h
  | x :: l, y :: m, h, f => by
    obtain ⟨h1, h2⟩ := f 0 x y rfl rfl
    obtain ⟨h3, h4⟩ := pr_le (l := l) (m := m) (by simpa using h) fun i u v e1 e2 => f (i + 1) u v (by simpa using e1) (by simpa using e2)
    exact ⟨Int.mul_nonneg h1 h3, Int.mul_le_mul h2 h4 h3 (Int.le_trans h1 h2)⟩
theorem pr_nine : ∀ {l : List Int}, (∀ x ∈ l, 0 ≤ x ∧ x ≤ 9) → 0 ≤ pr l ∧ pr l ≤ 9 ^ l.length
  | [], _ => ⟨by decide, Int.le_refl _⟩
  | x :: r, h => by
    obtain ⟨h1, h2⟩ := h x List.mem_cons_self
    obtain ⟨h3, h4⟩ := pr_nine fun y hy => h y (List.mem_cons_of_mem _ hy)
    refine ⟨Int.mul_nonneg h1 h3, ?_⟩
    show x * pr r ≤ 9 ^ (r.length + 1)
    rw [Int.pow_succ, Int.mul_comm (9 ^ r.length) 9]
    exact Int.mul_le_mul h2 h4 h3 (by omega)
theorem nine_pow {n : Nat} (h : n ≤ 9) : (9 : Int) ^ n ≤ 387420489 := by
  have : n = 0 ∨ n = 1 ∨ n = 2 ∨ n = 3 ∨ n = 4 ∨ n = 5 ∨ n = 6 ∨ n = 7 ∨ n = 8 ∨ n = 9 := by omega
  rcases this with rfl | rfl | rfl | rfl | rfl | rfl | rfl | rfl | rfl | rfl <;> decide

/-- a, a + 1, .. below b -/
def rg (a b : Int) : List Int := (List.range (b - a).toNat).map fun (i : Nat) => a + (i : Int)
theorem rg_length (a b : Int) : (rg a b).length = (b - a).toNat := by
  unfold rg
  rw [List.length_map, List.length_range]
theorem rg_get (a b : Int) (i : Nat) (h : i < (b - a).toNat) : (rg a b)[i]? = some (a + (i : Int)) := by
  unfold rg
  rw [List.getElem?_map, List.getElem?_range h]
  rfl
theorem rg_mem {a b x : Int} : x ∈ rg a b ↔ a ≤ x ∧ x < b := by
  unfold rg
  rw [List.mem_map]
  constructor
  · rintro ⟨i, hi, rfl⟩
    have := List.mem_range.mp hi
    omega
  · rintro ⟨h1, h2⟩
    exact ⟨(x - a).toNat, List.mem_range.mpr (by omega), by omega⟩
theorem rg_up (a b : Int) : (rg a b).Pairwise (· < ·) := by
  unfold rg
  refine List.pairwise_map.mpr (List.pairwise_lt_range.imp ?_)
  intro x y h
  omega

/-! ### nests and their sizes -/
abbrev Nst := List (Option Nat)
def NestOk (ns : Nst) : Prop := 1 ≤ ns.length ∧ ns.length ≤ 9 ∧ ∀ i j : Nat, ns[i]? = some (some j) → i < j ∧ j < ns.length
def szStep (o : Option (Option Nat)) (f : List Int) (k : Nat) : List Int :=
  match o with
  | some (some j) => f.set j (f.getD j 0 + f.getD k 0)
  | _ => f
def szTo (ns : Nst) : Nat → List Int
  | 0 => List.replicate ns.length 1
  | k + 1 => szStep ns[k]? (szTo ns k) k
def szs (ns : Nst) : List Int := szTo ns ns.length
theorem szStep_length (o : Option (Option Nat)) (f : List Int) (k : Nat) : (szStep o f k).length = f.length := by
  unfold szStep
  split
  · rw [List.length_set]
  · rfl
theorem szTo_length (ns : Nst) : ∀ k, (szTo ns k).length = ns.length
  | 0 => by simp [szTo]
  | k + 1 => by
    show (szStep ns[k]? (szTo ns k) k).length = _
    rw [szStep_length, szTo_length ns k]
theorem szs_length (ns : Nst) : (szs ns).length = ns.length := szTo_length ns _
theorem sum_put : ∀ {l : List Int} {j : Nat} {z y : Int}, l[j]? = some z → (l.set j y).sum = l.sum - z + y
  | [], j, z, y, h => by simp at h
  | a :: r, 0, z, y, h => by
    have e : a = z := Option.some.inj h
    subst e
    simp only [List.set_cons_zero, List.sum_cons]
    omega
  | a :: r, j + 1, z, y, h => by
    have ih := sum_put (l := r) (j := j) (z := z) (y := y) h
    simp only [List.set_cons_succ, List.sum_cons, ih]
    omega
theorem sum_ge : ∀ {l : List Int}, (∀ x ∈ l, 1 ≤ x) → (l.length : Int) ≤ l.sum
  | [], _ => by simp
  | x :: r, h => by
    have h1 := h x List.mem_cons_self
    have h2 := sum_ge fun y hy => h y (List.mem_cons_of_mem _ hy)
    simp only [List.sum_cons, List.length_cons]
    omega
theorem szTo_pos {ns : Nst} (ok : NestOk ns) : ∀ k, ∀ x ∈ szTo ns k, 1 ≤ x
  | 0 => fun x hx => by
    have := List.eq_of_mem_replicate hx
    omega
  | k + 1 => fun x hx => by
    have ih := szTo_pos ok k
    have hx' : x ∈ szStep ns[k]? (szTo ns k) k := hx
    unfold szStep at hx'
    split at hx'
    · rename_i j e
      obtain ⟨h1, h2⟩ := ok.2.2 k j e
      have l := szTo_length ns k
      have hj : j < (szTo ns k).length := by omega
      have hk : k < (szTo ns k).length := by omega
      rcases List.mem_or_eq_of_mem_set hx' with q | q
      · exact ih x q
      · have a1 := ih _ (List.getElem_mem hj)
        have a2 := ih _ (List.getElem_mem hk)
        rw [q, List.getD_eq_getElem?_getD, List.getD_eq_getElem?_getD, List.getElem?_eq_getElem hj, List.getElem?_eq_getElem hk]
        simp only [Option.getD_some]
        omega
    · exact ih x hx'
theorem sum_ones : ∀ n : Nat, (List.replicate n (1 : Int)).sum = (n : Int)
  | 0 => rfl
  | n + 1 => by
    rw [List.replicate_succ, List.sum_cons, sum_ones n]
    omega
theorem szTo_sum {ns : Nst} (ok : NestOk ns) : ∀ k, k ≤ ns.length → ((szTo ns k).drop k).sum ≤ (ns.length : Int)
  | 0, _ => by
    show (List.drop 0 (List.replicate ns.length (1 : Int))).sum ≤ _
    rw [List.drop_zero, sum_ones]
    exact Int.le_refl _
  | k + 1, h => by
    have ih := szTo_sum ok k (by omega)
    have l := szTo_length ns k
    have hk : k < (szTo ns k).length := by omega
    have split := List.drop_eq_getElem_cons hk
    rw [split, List.sum_cons] at ih
    have p := szTo_pos ok k _ (List.getElem_mem hk)
    show ((szStep ns[k]? (szTo ns k) k).drop (k + 1)).sum ≤ _
    unfold szStep
    split
    · rename_i j e
      obtain ⟨h1, h2⟩ := ok.2.2 k j e
      have hj : j < (szTo ns k).length := by omega
      rw [List.drop_set, if_neg (by omega)]
      have at_ : ((szTo ns k).drop (k + 1))[j - (k + 1)]? = some (szTo ns k)[j] := by
        rw [List.getElem?_drop, show k + 1 + (j - (k + 1)) = j by omega, List.getElem?_eq_getElem hj]
      rw [sum_put at_, List.getD_eq_getElem?_getD, List.getD_eq_getElem?_getD, List.getElem?_eq_getElem hj, List.getElem?_eq_getElem hk]
      simp only [Option.getD_some]
      omega
    · omega
theorem szTo_stay {ns : Nst} (ok : NestOk ns) {i : Nat} : ∀ d, (szTo ns (i + d))[i]? = (szTo ns i)[i]?
  | 0 => rfl
  | d + 1 => by
    have ih := szTo_stay ok (i := i) d
    show (szStep ns[i + d]? (szTo ns (i + d)) (i + d))[i]? = _
    unfold szStep
    split
    · rename_i j e
      obtain ⟨h1, _⟩ := ok.2.2 _ j e
      rw [List.getElem?_set_ne (by omega)]
      exact ih
    · exact ih
/-- a door's size is at most its place counted from 1 -/
theorem szs_at {ns : Nst} (ok : NestOk ns) {i : Nat} {x : Int} (h : (szs ns)[i]? = some x) : 1 ≤ x ∧ x ≤ (i : Int) + 1 := by
  have hi : i < ns.length := by
    have := (List.getElem?_eq_some_iff.mp h).1
    rw [szs_length] at this
    exact this
  refine ⟨szTo_pos ok _ x (List.mem_of_getElem? h), ?_⟩
  have e := szTo_stay ok (i := i) (ns.length - i)
  rw [show i + (ns.length - i) = ns.length by omega] at e
  have h2 : (szTo ns i)[i]? = some x := e.symm.trans h
  have l := szTo_length ns i
  have hk : i < (szTo ns i).length := by omega
  have sm := szTo_sum ok i (by omega)
  rw [List.drop_eq_getElem_cons hk, List.sum_cons] at sm
  have ge := sum_ge (l := (szTo ns i).drop (i + 1)) fun y hy => szTo_pos ok i y (List.mem_of_mem_drop hy)
  rw [List.length_drop] at ge
  have ex : (szTo ns i)[i] = x := by
    rw [List.getElem?_eq_getElem hk] at h2
    exact Option.some.inj h2
  rw [ex] at sm
  omega
theorem szs_mem {ns : Nst} (ok : NestOk ns) {x : Int} (h : x ∈ szs ns) : 1 ≤ x ∧ x ≤ 9 := by
  obtain ⟨i, hi, e⟩ := List.mem_iff_getElem.mp h
  have q := szs_at ok (i := i) (x := x) (by rw [List.getElem?_eq_getElem hi, e])
  have l := szs_length ns
  have := ok.2.1
  omega

/-- the number of mixings, as the program reckons it -/
def facs (ns : Nst) : List Int := rg 1 ((ns.length : Int) + 1)
def whole (ns : Nst) : Int := pr (facs ns) / pr (szs ns)
theorem facs_mem {ns : Nst} (ok : NestOk ns) {x : Int} (h : x ∈ facs ns) : 1 ≤ x ∧ x ≤ 9 := by
  have := rg_mem.mp h
  have := ok.2.1
  omega
theorem facs_length (ns : Nst) : (facs ns).length = ns.length := by
  unfold facs
  rw [rg_length]
  omega
theorem szs_pr {ns : Nst} (ok : NestOk ns) : 1 ≤ pr (szs ns) ∧ pr (szs ns) ≤ 387420489 := by
  refine ⟨pr_pos fun x hx => (szs_mem ok hx).1, ?_⟩
  have h := (pr_nine (l := szs ns) fun x hx => ⟨by have := szs_mem ok hx; omega, (szs_mem ok hx).2⟩).2
  rw [szs_length] at h
  exact Int.le_trans h (nine_pow ok.2.1)
theorem facs_pr {ns : Nst} (ok : NestOk ns) : 1 ≤ pr (facs ns) ∧ pr (facs ns) ≤ 387420489 := by
  refine ⟨pr_pos fun x hx => (facs_mem ok hx).1, ?_⟩
  have h := (pr_nine (l := facs ns) fun x hx => ⟨by have := facs_mem ok hx; omega, (facs_mem ok hx).2⟩).2
  rw [facs_length] at h
  exact Int.le_trans h (nine_pow ok.2.1)
theorem szs_facs {ns : Nst} (ok : NestOk ns) : pr (szs ns) ≤ pr (facs ns) := by
  refine (pr_le (by rw [szs_length, facs_length]) fun i x y h1 h2 => ?_).2
  have q := szs_at ok h1
  have hi : i < ns.length := by
    have := (List.getElem?_eq_some_iff.mp h1).1
    rw [szs_length] at this
    exact this
  have e : y = 1 + (i : Int) := by
    have g := rg_get 1 ((ns.length : Int) + 1) i (by omega)
    exact Option.some.inj (h2.symm.trans g)
  omega
theorem whole_pos {ns : Nst} (ok : NestOk ns) : 1 ≤ whole ns ∧ whole ns ≤ 387420489 := by
  have h1 := szs_pr ok
  have h2 := facs_pr ok
  have h3 := szs_facs ok
  constructor
  · exact Int.le_ediv_of_mul_le (by omega) (by omega)
  · exact Int.le_trans (Int.ediv_le_self _ (by omega)) h2.2

/-! ### parts: integers from 1 to some sizes with a product -/
/-- from k down to 1, the first part behind which f finds the rest -/
def pofL (f : Int → Option (List Int)) (r : Int) : Nat → Option (List Int)
  | 0 => none
  | k + 1 => if r % ((k : Int) + 1) = 0 then (match f (r / ((k : Int) + 1)) with
      | some l => some (((k : Int) + 1) :: l)
      | none => pofL f r k) else pofL f r k
def pof : List Int → Int → Option (List Int)
  | [], r => if r = 1 then some [] else none
  | s :: ss, r => pofL (pof ss) r s.toNat
/-- r is a product of integers from 1 to the sizes -/
def PV : List Int → Int → Prop
  | [], r => r = 1
  | s :: ss, r => ∃ p q : Int, 1 ≤ p ∧ p ≤ s ∧ PV ss q ∧ r = p * q
/-- what parts are -/
def Parts (ss l : List Int) : Prop := l.length = ss.length ∧ ∀ (i : Nat) (p s : Int), l[i]? = some p → ss[i]? = some s → 1 ≤ p ∧ p ≤ s
theorem pofL_some {f : Int → Option (List Int)} {r : Int} : ∀ {k : Nat} {l : List Int}, pofL f r k = some l → ∃ p m, l = p :: m ∧ 1 ≤ p ∧ p ≤ (k : Int) ∧ r % p = 0 ∧ f (r / p) = some m
  | 0, l, h => by simp [pofL] at h
  | k + 1, l, h => by
    unfold pofL at h
    split at h
    · rename_i e
      split at h
      · rename_i m em
        exact ⟨_, m, (Option.some.inj h).symm, by omega, by omega, e, em⟩
      · obtain ⟨p, m, h1, h2, h3, h4⟩ := pofL_some h
        exact ⟨p, m, h1, h2, by omega, h4⟩
    · obtain ⟨p, m, h1, h2, h3, h4⟩ := pofL_some h
      exact ⟨p, m, h1, h2, by omega, h4⟩
theorem pofL_none {f : Int → Option (List Int)} {r : Int} : ∀ {k : Nat}, pofL f r k = none → ∀ p : Int, 1 ≤ p → p ≤ (k : Int) → r % p = 0 → f (r / p) = none
  | 0, _, p, h1, h2, _ => by omega
  | k + 1, h, p, h1, h2, h3 => by
    unfold pofL at h
    by_cases e : p = (k : Int) + 1
    · subst e
      rw [if_pos h3] at h
      split at h
      · cases h
      · assumption
    · split at h
      · split at h
        · cases h
        · exact pofL_none h p h1 (by omega) h3
      · exact pofL_none h p h1 (by omega) h3
theorem pof_some : ∀ {ss : List Int} {r : Int} {l : List Int}, pof ss r = some l → Parts ss l ∧ pr l = r ∧ PV ss r
  | [], r, l, h => by
    unfold pof at h
    split at h
    · rename_i e
      cases h
      exact ⟨⟨rfl, fun i p s h1 => by simp at h1⟩, e.symm, e⟩
    · cases h
  | s :: ss, r, l, h => by
    obtain ⟨p, m, rfl, h1, h2, h3, h4⟩ := pofL_some (show pofL (pof ss) r s.toNat = some l from h)
    obtain ⟨⟨a1, a2⟩, a3, a4⟩ := pof_some h4
    have e : r = p * (r / p) := by
      have := Int.mul_ediv_add_emod r p
      omega
    refine ⟨⟨by simp [a1], fun i p' s' e1 e2 => ?_⟩, ?_, p, r / p, h1, by omega, a4, e⟩
    · cases i with
      | zero =>
        have x1 : p = p' := Option.some.inj e1
        have x2 : s = s' := Option.some.inj e2
        omega
      | succ i => exact a2 i p' s' (by simpa using e1) (by simpa using e2)
    · show p * pr m = r
      rw [a3]
      exact e.symm
theorem pof_of : ∀ {ss : List Int} {r : Int}, PV ss r → pof ss r ≠ none
  | [], r, h => by
    have e : r = 1 := h
    subst e
    simp [pof]
  | s :: ss, r, h => by
    obtain ⟨p, q, h1, h2, h3, rfl⟩ := h
    intro z
    have n := pofL_none (show pofL (pof ss) (p * q) s.toNat = none from z) p h1 (by omega) (by rw [Int.mul_emod_right])
    rw [Int.mul_ediv_cancel_left _ (by omega)] at n
    exact pof_of h3 n
theorem pof_iff {ss : List Int} {r : Int} : (pof ss r).isSome = true ↔ PV ss r := by
  constructor
  · intro h
    obtain ⟨l, e⟩ := Option.isSome_iff_exists.mp h
    exact (pof_some e).2.2
  · intro h
    cases e : pof ss r with
    | none => exact absurd e (pof_of h)
    | some l => rfl
theorem PV_end : ∀ {ss : List Int} {s y : Int}, PV (ss ++ [s]) y ↔ ∃ x p : Int, PV ss x ∧ 1 ≤ p ∧ p ≤ s ∧ y = x * p
  | [], s, y => by
    constructor
    · rintro ⟨p, q, h1, h2, h3, rfl⟩
      have h3 : q = 1 := h3
      subst h3
      exact ⟨1, p, rfl, h1, h2, by rw [Int.mul_comm]⟩
    · rintro ⟨x, p, h1, h2, h3, rfl⟩
      have h1 : x = 1 := h1
      subst h1
      exact ⟨p, 1, h2, h3, rfl, by rw [Int.mul_comm]⟩
  | t :: ss, s, y => by
    constructor
    · rintro ⟨p, q, h1, h2, h3, rfl⟩
      obtain ⟨x, p', h4, h5, h6, rfl⟩ := PV_end.mp h3
      exact ⟨p * x, p', ⟨p, x, h1, h2, h4, rfl⟩, h5, h6, by rw [Int.mul_assoc]⟩
    · rintro ⟨x, p', ⟨p, x', h1, h2, h4, rfl⟩, h5, h6, rfl⟩
      exact ⟨p, x' * p', h1, h2, PV_end.mpr ⟨x', p', h4, h5, h6, rfl⟩, by rw [Int.mul_assoc]⟩
theorem PV_pos : ∀ {ss : List Int} {y : Int}, PV ss y → 1 ≤ y
  | [], y, h => by
    have e : y = 1 := h
    omega
  | s :: ss, y, h => by
    obtain ⟨p, q, h1, h2, h3, rfl⟩ := h
    exact Int.le_trans (by omega : (1 : Int) ≤ 1 * 1) (Int.mul_le_mul h1 (PV_pos h3) (by omega) (by omega))
/-- what the program's wished gives -/
def wishO (ns : Nst) (c : Int) : Option (List Int) := if c % whole ns = 0 then pof (szs ns) (c / whole ns) else none
theorem wishO_iff {ns : Nst} (ok : NestOk ns) {c : Int} : (wishO ns c).isSome = true ↔ ∃ x, PV (szs ns) x ∧ c = whole ns * x := by
  have w := (whole_pos ok).1
  unfold wishO
  split
  · rename_i e
    rw [pof_iff]
    constructor
    · intro h
      refine ⟨_, h, ?_⟩
      have := Int.mul_ediv_add_emod c (whole ns)
      omega
    · rintro ⟨x, h1, rfl⟩
      rw [Int.mul_ediv_cancel_left _ (by omega)]
      exact h1
  · rename_i e
    constructor
    · intro h
      cases h
    · rintro ⟨x, h1, rfl⟩
      exact absurd (Int.mul_emod_right _ _) e
theorem wishO_some {ns : Nst} {c : Int} {l : List Int} (h : wishO ns c = some l) : Parts (szs ns) l ∧ whole ns * pr l = c := by
  unfold wishO at h
  split at h
  · rename_i e
    obtain ⟨h1, h2, _⟩ := pof_some h
    refine ⟨h1, ?_⟩
    rw [h2]
    have := Int.mul_ediv_add_emod c (whole ns)
    omega
  · cases h

/-! ### how many products there are -/
def ins (x : Nat) : List Nat → List Nat
  | [] => [x]
  | y :: r => match Nat.blt x y with
    | true => x :: y :: r
    | false => match Nat.beq x y with
      | true => y :: r
      | false => y :: ins x r
theorem mem_ins {x z : Nat} : ∀ {l : List Nat}, z = x ∨ z ∈ l → z ∈ ins x l
  | [], h => by
    rcases h with h | h
    · simp [ins, h]
    · cases h
  | y :: r, h => by
    unfold ins
    split
    · rcases h with h | h
      · simp [h]
      · exact List.mem_cons_of_mem _ h
    · split
      · rename_i e
        have e := Nat.eq_of_beq_eq_true e
        rcases h with h | h
        · simp [h, e]
        · exact h
      · rcases h with h | h
        · exact List.mem_cons_of_mem _ (mem_ins (.inl h))
        · rcases List.mem_cons.mp h with h | h
          · simp [h]
          · exact List.mem_cons_of_mem _ (mem_ins (.inr h))
def insTo (x : Nat) : Nat → List Nat → List Nat
  | 0, l => l
  | p + 1, l => ins (x * (p + 1)) (insTo x p l)
theorem mem_insTo {x z : Nat} : ∀ {p : Nat} {l : List Nat}, (z ∈ l ∨ ∃ q, 1 ≤ q ∧ q ≤ p ∧ z = x * q) → z ∈ insTo x p l
  | 0, l, h => by
    rcases h with h | ⟨q, h1, h2, _⟩
    · exact h
    · omega
  | p + 1, l, h => by
    refine mem_ins ?_
    rcases h with h | ⟨q, h1, h2, h3⟩
    · exact .inr (mem_insTo (.inl h))
    · by_cases e : q = p + 1
      · subst e
        exact .inl h3
      · exact .inr (mem_insTo (.inr ⟨q, h1, by omega, h3⟩))
def grow (k : Nat) : List Nat → List Nat → List Nat
  | [], acc => acc
  | x :: r, acc => grow k r (insTo x k acc)
theorem mem_grow {k z : Nat} : ∀ {l acc : List Nat}, (z ∈ acc ∨ ∃ x q, x ∈ l ∧ 1 ≤ q ∧ q ≤ k ∧ z = x * q) → z ∈ grow k l acc
  | [], acc, h => by
    rcases h with h | ⟨x, q, h, _⟩
    · exact h
    · cases h
  | y :: r, acc, h => by
    refine mem_grow (l := r) ?_
    rcases h with h | ⟨x, q, h, h1, h2, h3⟩
    · exact .inl (mem_insTo (.inl h))
    · rcases List.mem_cons.mp h with h | h
      · subst h
        exact .inl (mem_insTo (.inr ⟨q, h1, h2, h3⟩))
      · exact .inr ⟨x, q, h, h1, h2, h3⟩
/-- all products of k integers, the i-th from 1 to i -/
def U : Nat → List Nat
  | 0 => [1]
  | k + 1 => grow (k + 1) (U k) []
theorem U_few : (U 0).length ≤ 382 ∧ (U 1).length ≤ 382 ∧ (U 2).length ≤ 382 ∧ (U 3).length ≤ 382 ∧ (U 4).length ≤ 382 ∧ (U 5).length ≤ 382 ∧ (U 6).length ≤ 382 ∧ (U 7).length ≤ 382 ∧ (U 8).length ≤ 382 := by
  decide +kernel
theorem U_len {k : Nat} (h : k ≤ 8) : (U k).length ≤ 382 := by
  obtain ⟨h0, h1, h2, h3, h4, h5, h6, h7, h8⟩ := U_few
  have : k = 0 ∨ k = 1 ∨ k = 2 ∨ k = 3 ∨ k = 4 ∨ k = 5 ∨ k = 6 ∨ k = 7 ∨ k = 8 := by omega
  rcases this with rfl | rfl | rfl | rfl | rfl | rfl | rfl | rfl | rfl
  · exact h0
  · exact h1
  · exact h2
  · exact h3
  · exact h4
  · exact h5
  · exact h6
  · exact h7
  · exact h8
theorem nodup_le : ∀ {l m : List Int}, l.Nodup → (∀ x ∈ l, x ∈ m) → l.length ≤ m.length
  | [], m, _, _ => by simp
  | x :: l, m, nd, h => by
    obtain ⟨n1, n2⟩ := List.nodup_cons.mp nd
    have hx := h x List.mem_cons_self
    have ih := nodup_le (l := l) (m := m.erase x) n2 fun y hy => (List.mem_erase_of_ne (fun e : y = x => n1 (by rw [← e]; exact hy))).mpr (h y (List.mem_cons_of_mem _ hy))
    rw [List.length_erase_of_mem hx] at ih
    have : 0 < m.length := List.length_pos_of_mem hx
    rw [List.length_cons]
    omega
/-- sizes as they can be: the i-th at most i + 1 -/
def Small (ss : List Int) : Prop := ∀ (i : Nat) (s : Int), ss[i]? = some s → s ≤ (i : Int) + 1
theorem PV_mem_U : ∀ (n : Nat) {ss : List Int} {y : Int}, ss.length = n → Small ss → PV ss y → ∃ z : Nat, z ∈ U n ∧ y = (z : Int)
  | 0, ss, y, hl, _, h => by
    have e : ss = [] := List.eq_nil_of_length_eq_zero hl
    subst e
    have e : y = 1 := h
    exact ⟨1, by simp [U], by omega⟩
  | n + 1, ss, y, hl, sm, h => by
    have ne : ss ≠ [] := fun e => by simp [e] at hl
    have e := List.dropLast_concat_getLast ne
    rw [← e] at h
    obtain ⟨x, p, h1, h2, h3, rfl⟩ := PV_end.mp h
    have hd : (ss.dropLast).length = n := by rw [List.length_dropLast, hl]; rfl
    obtain ⟨z, hz, rfl⟩ := PV_mem_U n hd (fun i s hi => sm i s (by
      have lt := (List.getElem?_eq_some_iff.mp hi).1
      rw [List.getElem?_dropLast, if_pos (by omega)] at hi
      exact hi)) h1
    have last := sm n (ss.getLast ne) (by
      rw [List.getLast_eq_getElem, List.getElem?_eq_getElem (by omega)]
      congr 1
      congr 1
      omega)
    refine ⟨z * p.toNat, mem_grow (.inr ⟨z, p.toNat, hz, by omega, by omega, rfl⟩), ?_⟩
    rw [Int.natCast_mul]
    congr 1
    omega
/-- a list of unlike products has at most 382 items, if the sizes are at most 8 -/
theorem few_products {w : Int} {ss : List Int} {l : List Int} (hs : ss.length ≤ 8) (sm : Small ss) (nd : l.Nodup) (h : ∀ c ∈ l, ∃ x, PV ss x ∧ c = w * x) : l.length ≤ 382 := by
  have q := nodup_le (m := (U ss.length).map fun (z : Nat) => w * (z : Int)) nd fun c hc => by
    obtain ⟨x, h1, rfl⟩ := h c hc
    obtain ⟨z, hz, rfl⟩ := PV_mem_U _ rfl sm h1
    exact List.mem_map.mpr ⟨z, hz, rfl⟩
  rw [List.length_map] at q
  exact Nat.le_trans q (U_len hs)
theorem szs_small {ns : Nst} (ok : NestOk ns) : Small (szs ns) := fun i s h => (szs_at ok h).2
end Cd

set_option maxRecDepth 100000
set_option maxHeartbeats 4000000
/-! The program's text by places, what stands behind its top, the data that the promises speak of, rules in short. -/
namespace Cd
open PySem PySem.Spec PyProof.Rows L2

/-! ### the text -/
def top (i : Nat) : Stmt := PySem.Challenge.pw_countdoors_k38_whole_wished_counts.main.body.getD i (.Pass ⟨0, 0, 0, 0⟩)
abbrev sIsIn : Stmt := top 6
abbrev sNeedNest : Stmt := top 10
abbrev sIsSet : Stmt := top 11
abbrev sNeedNumbers : Stmt := top 12
abbrev sSizesIn : Stmt := top 13
abbrev sSizes : Stmt := top 14
abbrev sProduct : Stmt := top 15
abbrev sMixingsIn : Stmt := top 16
abbrev sMixings : Stmt := top 17
abbrev sKeptIn : Stmt := top 18
abbrev sOrderCount : Stmt := top 20
abbrev sNeedCount : Stmt := top 23
abbrev sPartsOf : Stmt := top 24
abbrev sWished : Stmt := top 25
abbrev sNumbersWith : Stmt := top 26
abbrev sShows : Stmt := top 27
abbrev sTaken : Stmt := top 29
abbrev sPick : Stmt := top 30
abbrev sNest : Stmt := top 31
abbrev sCounts : Stmt := top 32
abbrev sIsVector : Stmt := top 33
abbrev sAlike : Stmt := top 34
abbrev sLaw : Stmt := top 35

/-! ### what the top leaves: a def, the names -/
/-- a def of the top: where it stands, and how its arguments bind -/
structure Fn (K : PySem.W.Frag) (mg : Str → Option Value) (x : Str) (st : Stmt) (ps : List Str) where
  f : Addr
  fd : FuncData
  F : Fun K x x st f fd
  g : mg x = some (.ref f)
  b : Binds K fd ps []
/-- the built-in names that the program uses, and its constants -/
structure Bi (mg : Str → Option Value) : Prop where
  isinstance : mg "isinstance" = none
  int : mg "int" = none
  bool : mg "bool" = none
  str : mg "str" = none
  tuple : mg "tuple" = none
  list : mg "list" = none
  set : mg "set" = none
  sorted : mg "sorted" = none
  len : mg "len" = none
  range : mg "range" = none
  enumerate : mg "enumerate" = none
  zip : mg "zip" = none
  min : mg "min" = none
  doors : ∃ t, mg "MOST_DOORS" = some (.int 9 t)
  number : ∃ t, mg "MOST_NUMBER" = some (.int 8 t)
  count : ∃ t, mg "MOST_COUNT" = some (.int 1000000 t)

section
variable {X : Cx}
/-- a call of such a def -/
theorem pe_fn {x : Str} {st : Stmt} {ps : List Str} {k : Nat} {sp : Sp} {e : Expr} {es : List Expr} {p pos : Pos} {t : TA} (L : Fn X.K X.mg x st ps) (G : FnOk X.prog X.w X.K X.mg X.base CX0 k L.f L.fd ps sp) (hr : Room k X.A) (ha : PA X (e :: es) t)
    (hg : Gl X x := by rfl) (hd : (x == ("__debug__" : Str)) = false := by decide) (hs : starEach (e :: es) X.env = (false, eval e X.env) :: starEach es X.env := by rfl) (hpl : (backTo pos (starEach es X.env)).any (·.1) = false := by rfl) :
    PE X (.Call (.Name x p) (e :: es) [] pos) (tCall sp [] E0 t) :=
  pe_call G hr hg L.g L.F.kp L.b .nil pass0 ha hd hs hpl
end

/-! ### the data -/
/-- a nest's item -/
def nv : Option Nat → V
  | none => .non
  | some j => .int (j : Int)
def NestAt (H : Hp) (t : Addr) (ns : Nst) : Prop := H t = some (.tup (ns.map nv)) ∧ NestOk ns
theorem NestAt.same {H H' : Hp} {t : Addr} {ns : Nst} (h : NestAt H t ns) (s : Same H H') : NestAt H' t ns := ⟨s _ _ h.1, h.2⟩
/-- an item of a value that is judged: a tuple or a list of ints -/
inductive Itm where
  | tup (ns : List Int)
  | lst (ns : List Int)
def Itm.ho : Itm → HO
  | .tup ns => .tup (ns.map V.int)
  | .lst ns => .lst (ns.map V.int)
def Itm.len : Itm → Nat
  | .tup ns => ns.length
  | .lst ns => ns.length
/-- the objects at some addresses -/
def Rows (H : Hp) : List Addr → List Itm → Prop := Paired fun a it => H a = some it.ho
theorem Rows.same {H H' : Hp} {as : List Addr} {its : List Itm} (h : Rows H as its) (s : Same H H') : Rows H' as its := Paired.mapP h fun _ _ e => s _ _ e
theorem Rows.length {H : Hp} {as : List Addr} {its : List Itm} (h : Rows H as its) : as.length = its.length := Paired.length h
theorem Rows.get {H : Hp} : ∀ {as : List Addr} {its : List Itm} {i : Nat} {it : Itm}, Rows H as its → its[i]? = some it → ∃ a, as[i]? = some a ∧ H a = some it.ho
  | _, _, _, _, .nil, e => by simp at e
  | _, _, 0, _, .cons r _, e => by
    cases e
    exact ⟨_, rfl, r⟩
  | _, _, i + 1, it, .cons _ t, e => by
    obtain ⟨a, h1, h2⟩ := Rows.get (i := i) (it := it) t (by simpa using e)
    exact ⟨a, by simpa using h1, h2⟩
theorem Rows.append {H : Hp} : ∀ {as bs : List Addr} {its jts : List Itm}, Rows H as its → Rows H bs jts → Rows H (as ++ bs) (its ++ jts)
  | _, _, _, _, .nil, h => h
  | _, _, _, _, .cons r t, h => .cons r (Rows.append t h)
theorem Rows.take {H : Hp} : ∀ {as : List Addr} {its : List Itm} (n : Nat), Rows H as its → Rows H (as.take n) (its.take n)
  | _, _, 0, _ => .nil
  | _, _, _ + 1, .nil => .nil
  | _, _, n + 1, .cons r t => .cons r (Rows.take n t)
theorem Rows.drop {H : Hp} : ∀ {as : List Addr} {its : List Itm} (n : Nat), Rows H as its → Rows H (as.drop n) (its.drop n)
  | _, _, 0, h => h
  | _, _, _ + 1, .nil => .nil
  | _, _, n + 1, .cons _ t => Rows.drop n t
/-- a tuple of such items -/
def TupsAt (H : Hp) (q : Addr) (its : List Itm) : Prop := ∃ as : List Addr, H q = some (.tup (as.map V.ref)) ∧ Rows H as its
theorem TupsAt.same {H H' : Hp} {q : Addr} {its : List Itm} (h : TupsAt H q its) (s : Same H H') : TupsAt H' q its := by
  obtain ⟨as, h1, h2⟩ := h
  exact ⟨as, s _ _ h1, h2.same s⟩
def upp (ns : List Int) : Bool := decide (ns.Pairwise (· < ·))
def isSetB (ns : List Int) : Bool := ns.all (fun x => decide (0 ≤ x) && decide (x ≤ 8)) && upp ns
def Itm.set : Itm → Bool
  | .tup ns => isSetB ns
  | .lst _ => false
theorem same_upd {H : Hp} {p : Addr} {o : HO} (h : H p = none) : Same H (upd H p o) := fun b x e => by
  rw [upd_ne (ne_of_none e h)]
  exact e
/-- behind a change of a new object -/
theorem Same.put {H H' : Hp} {p : Addr} {o : HO} (s : Same H H') (h : H p = none) : Same H (upd H' p o) := fun b x e => by
  rw [upd_ne (ne_of_none e h)]
  exact s _ _ e

/-! ### isinstance of a built-in type -/
def rTy (K : PySem.W.Frag) (T : String) : List V → Hp → VK → Prop := fun xs H Q => ∃ (x : V) (tn : String) (b : Bool), xs = [x, .ty T] ∧ TyX K H x (.type tn) ∧ kitB tn T = some b ∧ Q (.bl b) H
theorem cr_ty {X : Cx} {T : String} : CallR X (.builtin "isinstance") (rTy X.K T) := by
  intro pins s σ H xs us Q I r want
  obtain ⟨x, tn, b, rfl, ty, k, q⟩ := want
  exact call_isi pins s σ H _ us Q I r ⟨x, .ty T, .type tn, .type T, b, rfl, .ty T, ty, kit_ty k, q⟩
theorem ty_int {K : PySem.W.Frag} {H : Hp} {i : Int} : TyX K H (.int i) (.type "int") := .base (.int i)
theorem ty_bl {K : PySem.W.Frag} {H : Hp} {i : Bool} : TyX K H (.bl i) (.type "bool") := .base (.bl i)
theorem ty_non {K : PySem.W.Frag} {H : Hp} : TyX K H .non (.type "NoneType") := .base .non
theorem ty_tup {K : PySem.W.Frag} {H : Hp} {a : Addr} {xs : List V} (h : H a = some (.tup xs)) : TyX K H (.ref a) (.type "tuple") := .base (.tup h)
theorem ty_lst {K : PySem.W.Frag} {H : Hp} {a : Addr} {xs : List V} (h : H a = some (.lst xs)) : TyX K H (.ref a) (.type "list") := .base (.lst h)
theorem ty_dK {K : PySem.W.Frag} {H : Hp} {a : Addr} {xs : List (Key × V)} (h : H a = some (.dK xs)) : TyX K H (.ref a) (.type "dict") := .base (.dK h)
theorem k_ii : kitB "int" "int" = some true := by decide +kernel
theorem k_ib : kitB "int" "bool" = some false := by decide +kernel
theorem k_it : kitB "int" "tuple" = some false := by decide +kernel
theorem k_bi : kitB "bool" "int" = some true := by decide +kernel
theorem k_bb : kitB "bool" "bool" = some true := by decide +kernel
theorem k_bs : kitB "bool" "str" = some false := by decide +kernel
theorem k_bt : kitB "bool" "tuple" = some false := by decide +kernel
theorem k_bl : kitB "bool" "list" = some false := by decide +kernel
theorem k_tt : kitB "tuple" "tuple" = some true := by decide +kernel
theorem k_lt : kitB "list" "tuple" = some false := by decide +kernel
theorem k_dt : kitB "dict" "tuple" = some false := by decide +kernel
theorem k_nt : kitB "NoneType" "tuple" = some false := by decide +kernel
section
variable {X : Cx} {e : Expr} {te : TE} {p pos p2 : Pos}
/-- isinstance(e, T) -/
theorem pe_isi {T : Str} {Tn : String} (he : PE X e te) (B : Bi X.mg) (hT : bootBuiltins T = some (.type Tn)) (mT : X.mg T = none) (hg : Gl X "isinstance" := by rfl) (gT : Gl X T := by rfl)
    (hn : T ≠ "__name__" := by decide) (hd : (T == ("__debug__" : Str)) = false := by decide) (hs : starEach [e, .Name T p2] X.env = (false, eval e X.env) :: starEach [.Name T p2] X.env := by rfl)
    (hs2 : starEach [.Name T p2] X.env = (false, eval (.Name T p2) X.env) :: starEach [] X.env := by rfl) (hpl : (backTo pos (starEach [.Name T p2] X.env)).any (·.1) = false := by rfl) :
    PE X (.Call (.Name "isinstance" p) [e, .Name T p2] [] pos) (tCB (rTy X.K Tn) (tCons te (tCons (tC (.ty Tn)) tNil))) :=
  pe_callB cr_ty hg B.isinstance boot_isinstance (pa_cons he (pa_cons (pe_bltn gT mT hT rfl hn hd) pa_nil hs2) hs) (by decide) (by decide) hs hpl
end

/-! ### == and != of lists of ints; != [] of a list of rows -/
def rEqI (K : PySem.W.Frag) (neg : Bool) : R2 := fun x y H Q => ∃ (a b : Addr) (ns ms : List Int), x = .ref a ∧ y = .ref b ∧ SqL K H a (ns.map V.int) ∧ SqL K H b (ms.map V.int) ∧ Q (.bl (if neg then !decide (ns = ms) else decide (ns = ms))) H
theorem op_eqI {X : Cx} (hu : X.A.units + 64 < cLine) : OpR X (compareOp .Eq) (rEqI X.K false) := by
  intro pins s σ H x y v u Q I rx ry want
  obtain ⟨a, b, ns, ms, rfl, rfl, h1, h2, q⟩ := want
  cases rx
  cases ry
  obtain ⟨its, r1, p1, _⟩ := I.list h1
  obtain ⟨its2, r2, p2, _⟩ := I.list h2
  exact PySem.W.ke_eq_ints p1.isList p2.isList r1.ints r2.ints hu ⟨.bl _, H, I, rfl, q⟩
theorem op_neI {X : Cx} (hu : X.A.units + 64 < cLine) : OpR X (compareOp .NotEq) (rEqI X.K true) := by
  intro pins s σ H x y v u Q I rx ry want
  obtain ⟨a, b, ns, ms, rfl, rfl, h1, h2, q⟩ := want
  cases rx
  cases ry
  obtain ⟨its, r1, p1, _⟩ := I.list h1
  obtain ⟨its2, r2, p2, _⟩ := I.list h2
  exact PySem.W.ke_ne_ints p1.isList p2.isList r1.ints r2.ints hu ⟨.bl _, H, I, rfl, q⟩
def Itm.data : Itm → PyData
  | .tup ns => .tuple (ns.map PyData.int)
  | .lst ns => .list (ns.map PyData.int)
theorem dp_ints {K : PySem.W.Frag} {H : Hp} : ∀ ns : List Int, DpAll K H (ns.map V.int) (ns.map PyData.int)
  | [] => .nil
  | n :: r => .cons (.int n) (dp_ints r)
theorem dp_itm {K : PySem.W.Frag} {H : Hp} {a : Addr} : ∀ {it : Itm}, H a = some it.ho → Dp K H (.ref a) it.data
  | .tup ns, h => .tup (SqT.of h) (dp_ints ns)
  | .lst ns, h => .lst (SqL.of h) (dp_ints ns)
theorem dp_rows {K : PySem.W.Frag} {H : Hp} : ∀ {as : List Addr} {its : List Itm}, Rows H as its → DpAll K H (as.map V.ref) (its.map Itm.data)
  | _, _, .nil => .nil
  | _, _, .cons r t => .cons (dp_itm r) (dp_rows t)
theorem lay_itm (it : Itm) : it.data.canLay0 = true ∧ it.data.depth ≤ 1 := by
  cases it <;> simp [Itm.data, PyData.canLay0, PyData.depth, PySem.W.ke_canLayAll0, PySem.W.ke_depthAll]
theorem lay_rows : ∀ its : List Itm, PyData.canLayAll0 (its.map Itm.data) = true ∧ PyData.depthAll (its.map Itm.data) ≤ 1
  | [] => by simp [PyData.canLayAll0, PyData.depthAll]
  | it :: r => by
    obtain ⟨h1, h2⟩ := lay_rows r
    obtain ⟨h3, h4⟩ := lay_itm it
    simp only [List.map_cons, PyData.canLayAll0, PyData.depthAll, h1, h3]
    exact ⟨rfl, by omega⟩
theorem shaped_rows (its : List Itm) : SeqAt.shaped (.list (its.map Itm.data)) = true := by
  obtain ⟨h1, h2⟩ := lay_rows its
  unfold SeqAt.shaped
  simp only [PyData.canLay0, PyData.depth, h1, Bool.true_and]
  exact decide_eq_true (by omega)
def rNeNil (K : PySem.W.Frag) : R2 := fun x y H Q => ∃ (a b : Addr) (as : List Addr) (its : List Itm), x = .ref a ∧ y = .ref b ∧ SqL K H a (as.map V.ref) ∧ Rows H as its ∧ SqL K H b [] ∧ Q (.bl (!its.isEmpty)) H
theorem op_neNil {X : Cx} (hu : X.A.units + 64 < cLine) : OpR X (compareOp .NotEq) (rNeNil X.K) := by
  intro pins s σ H x y v u Q I rx ry want
  obtain ⟨a, b, as, its, rfl, rfl, h1, h2, h3, q⟩ := want
  refine op_neD hu pins s σ H _ _ v u Q I rx ry ⟨.list (its.map Itm.data), .list [], .lst h1 (dp_rows h2), .lst h3 .nil, shaped_rows its, shaped_rows [], ?_⟩
  cases its with
  | nil =>
    have e : PyData.eqv (.list (([] : List Itm).map Itm.data)) (.list []) = true := by simp [PyData.eqv, PyData.eqvAll]
    rw [e]
    exact q
  | cons it r =>
    have e : PyData.eqv (.list ((it :: r).map Itm.data)) (.list []) = false := by simp [PyData.eqv, PyData.eqvAll]
    rw [e]
    exact q
end Cd

set_option maxRecDepth 100000
set_option maxHeartbeats 4000000
/-! Walks of the program's small defs. -/
namespace Cd
open PySem PySem.Spec PyProof.Rows L2
section
variable {P : Program} {w : World} {K : PySem.W.Frag} {mg : Str → Option Value} {base : Heap}
/-! ### is_in -/
def spIsIn : Sp := fun vs H Q _ => ∃ v a b : Int, vs = [.int v, .int a, .int b] ∧ Q (.bl (decide (a ≤ v) && decide (v ≤ b))) H
theorem scIsIn : FnScope ["value", "least", "most"] ["value", "least", "most"] (defScope sIsIn) := ⟨rfl, rfl, rfl, by decide +kernel, rfl, by decide +kernel, by decide +kernel⟩
abbrev LIsIn (K : PySem.W.Frag) (mg : Str → Option Value) := Fn K mg "is_in" sIsIn ["value", "least", "most"]
theorem ok_isIn (L : LIsIn K mg) (B : Bi mg) : FnOk P w K mg base CX0 1 L.f L.fd ["value", "least", "most"] spIsIn := by
  refine L.F.ok scIsIn (fun vs H Q E h => ?_) (fun cdv A outer s H vs Q E hr h => ?_)
  · obtain ⟨v, a, b, rfl, _⟩ := h
    rfl
  · obtain ⟨v, a, b, rfl, q⟩ := h
    refine ⟨_, pss_one (ps_ret (pe_and (pe_isi (pv 0) B boot_int B.int) (pe_and (pe_not (pe_isi (pv 0) B boot_bool B.bool)) (pe_one (pe_chain op_le op_le (pv 1) (pv 0) (pv 2)))))), ?_⟩
    refine ⟨_, rfl, _, "int", true, rfl, ty_int, k_ii, true, rfl, iteT ?_⟩
    refine ⟨_, rfl, _, "int", false, rfl, ty_int, k_ib, false, rfl, true, rfl, iteT ?_⟩
    refine ⟨_, rfl, _, rfl, _, _, rfl, rfl, _, rfl, ite2 (fun e => ?_) (fun e => ?_)⟩
    · refine ⟨_, rfl, _, _, rfl, rfl, ?_⟩
      rw [e] at q
      exact q
    · rw [Bool.eq_false_iff.mpr e] at q
      exact q

/-! ### need_count -/
def spNeedCount : Sp := fun vs H Q _ => ∃ c : Int, vs = [.int c] ∧ 1 ≤ c ∧ c ≤ 1000000 ∧ Q .non H
theorem scNeedCount : FnScope ["count"] ["count"] (defScope sNeedCount) := ⟨rfl, rfl, rfl, by decide +kernel, rfl, by decide +kernel, by decide +kernel⟩
abbrev LNeedCount (K : PySem.W.Frag) (mg : Str → Option Value) := Fn K mg "need_count" sNeedCount ["count"]
theorem ok_needCount (L : LNeedCount K mg) (B : Bi mg) (LI : LIsIn K mg) : FnOk P w K mg base CX0 2 L.f L.fd ["count"] spNeedCount := by
  refine L.F.ok scNeedCount (fun vs H Q E h => ?_) (fun cdv A outer s H vs Q E hr h => ?_)
  · obtain ⟨c, rfl, _⟩ := h
    rfl
  · obtain ⟨c, rfl, h1, h2, q⟩ := h
    obtain ⟨t, hc⟩ := B.count
    refine ⟨_, pss_one (ps_if (pt_not (pt_val (pe_fn LI (ok_isIn LI B) hr (pa_cons (pv 0) (pa_cons pe_int (pa_cons (pe_glob (v := .int 1000000) rfl hc ⟨t, rfl⟩) pa_nil)))))) (pss_one ps_never) pss_nil), ?_⟩
    refine ⟨_, rfl, c, 1, 1000000, rfl, _, rfl, ?_⟩
    rw [decide_eq_true h1, decide_eq_true h2]
    exact iteF q

/-! ### need_nest -/
def spNeedNest : Sp := fun vs H Q _ => ∃ (t : Addr) (ns : Nst), vs = [.ref t] ∧ NestAt H t ns ∧ ∀ H', Same H H' → Q .non H'
theorem scNeedNest : FnScope ["nest", "index", "one"] ["nest"] (defScope sNeedNest) := ⟨rfl, rfl, rfl, by decide +kernel, rfl, by decide +kernel, by decide +kernel⟩
abbrev LNeedNest (K : PySem.W.Frag) (mg : Str → Option Value) := Fn K mg "need_nest" sNeedNest ["nest"]
theorem ok_needNest (L : LNeedNest K mg) (B : Bi mg) (LI : LIsIn K mg) : FnOk P w K mg base CX0 2 L.f L.fd ["nest"] spNeedNest := by
  refine L.F.ok scNeedNest (fun vs H Q E h => ?_) (fun cdv A outer s H vs Q E hr h => ?_)
  · obtain ⟨t, ns, rfl, _⟩ := h
    rfl
  · obtain ⟨t, ns, rfl, hN, q⟩ := h
    obtain ⟨u, hc⟩ := B.doors
    refine ⟨_, pss_cons (ps_if (PW.pt (pw_or (pt_not (pt_val (pe_isi (pv 0) B boot_tuple B.tuple))) (pw_or1 (pt_not (pt_chain op_le op_le pe_int (pe_callB call_len_seq (by rfl) B.len PySem.boot_len (pa_cons (pv 0) pa_nil)) (pe_glob (v := .int 9) rfl hc ⟨u, rfl⟩)))))) (pss_one ps_never) pss_nil)
      (pss_one (ps_for PassesOwn.never rfl (pi_enumT (by rfl) B.enumerate (pa_cons (pv 0) pa_nil)) (pg_tup rfl (pgs_cons (pg_name (i := 1) scNeedNest.nd rfl (.inl rfl)) (pgs_cons (pg_name (i := 2) scNeedNest.nd rfl (.inl rfl)) pgs_nil)))
        (pss_one (ps_if (PW.pt (pw_and (pt_cmpR op_notN (pv 2) pe_non (nomark _)) (pw_and1 (pt_not (pt_val (pe_fn LI (ok_isIn LI B) hr (pa_cons (pv 2) (pa_cons (pe_op op_add (pv 1) pe_int) (pa_cons (pe_op op_sub (pe_callB call_len_seq (by rfl) B.len PySem.boot_len (pa_cons (pv 0) pa_nil)) pe_int) pa_nil)))))))))
          (pss_one ps_never) pss_nil)))), ?_⟩
    have len : (ns.map nv).length = ns.length := List.length_map ..
    -- the first test
    refine ⟨_, rfl, _, "tuple", true, rfl, ty_tup hN.1, k_tt, true, rfl, iteF ?_⟩
    refine ⟨_, rfl, t, ns.map nv, rfl, .inr (SqT.of hN.1), _, _, rfl, rfl, _, rfl, ?_⟩
    rw [len, decide_eq_true (by have := hN.2.1; omega)]
    refine iteT ⟨_, _, rfl, rfl, _, rfl, ?_⟩
    rw [decide_eq_true (by have := hN.2.2.1; omega)]
    refine iteF ?_
    -- the loop
    refine ⟨_, rfl, t, ns.map nv, rfl, SqT.of hN.1, ?_⟩
    refine for_it (walk_enumT (K := K) (a := t) (xs := ns.map nv)) (fun i σ H' => Same H H' ∧ ∃ a b, σ = [some (.ref t), a, b]) ⟨Same.refl H, none, none, rfl⟩ (fun i σ H' _ h => SqT.of (h.1 _ _ hN.1)) ?_ (fun σ H' h => q H' h.1)
    rintro i x σ H' H2 hi ⟨sm, a, b, rfl⟩ ⟨T, x1, x2, rfl, nT, rfl, e1, e2⟩
    cases e1
    have sm2 : Same H (upd H' T (.tup [.int (i : Nat), x2])) := sm.trans (same_upd nT)
    refine ⟨T, _, rfl, SqT.of upd_same, rfl, _, _, rfl, _, _, rfl, rfl, ?_⟩
    have e2 : (ns.map nv)[i]? = some x2 := e2
    rw [List.getElem?_map] at e2
    rcases e : ns[i]? with _ | o
    · rw [e] at e2
      cases e2
    · rw [e] at e2
      cases e2
      cases o with
      | none =>
        refine ⟨_, rfl, rfl, _, rfl, ?_⟩
        rw [decide_eq_true (show nv none = V.non from rfl)]
        exact iteF (iteF ⟨sm2, _, _, rfl⟩)
      | some j =>
        obtain ⟨h1, h2⟩ := hN.2.2.2 i j e
        refine ⟨_, rfl, rfl, _, rfl, ?_⟩
        rw [decide_eq_false (show ¬ nv (some j) = V.non from fun z => nomatch z)]
        refine iteT ⟨_, rfl, _, rfl, _, _, rfl, rfl, _, rfl, t, ns.map nv, rfl, .inr (SqT.of (sm2 _ _ hN.1)), _, _, rfl, rfl, (j : Int), _, _, rfl, _, rfl, ?_⟩
        rw [len, decide_eq_true (by omega), decide_eq_true (by omega)]
        exact iteF ⟨sm2, _, _, rfl⟩

/-! ### sizes_in -/
def spSizesIn : Sp := fun vs H Q _ => ∃ (t : Addr) (ns : Nst), vs = [.ref t] ∧ NestAt H t ns ∧ ∀ H' p, Same H H' → H' p = some (.lst ((szs ns).map V.int)) → Q (.ref p) H'
theorem scSizesIn : FnScope ["nest", "found", "k", "one"] ["nest"] (defScope sSizesIn) := ⟨rfl, rfl, rfl, by decide +kernel, rfl, by decide +kernel, by decide +kernel⟩
abbrev LSizesIn (K : PySem.W.Frag) (mg : Str → Option Value) := Fn K mg "sizes_in" sSizesIn ["nest"]
theorem ones_rep (n : Nat) : (List.replicate n [V.int 1]).flatten = (List.replicate n (1 : Int)).map V.int := by
  induction n with
  | zero => rfl
  | succ n ih =>
    rw [List.replicate_succ, List.replicate_succ, List.flatten_cons, ih]
    rfl
theorem ok_sizesIn (L : LSizesIn K mg) (B : Bi mg) : FnOk P w K mg base CX0 1 L.f L.fd ["nest"] spSizesIn := by
  refine L.F.ok scSizesIn (fun vs H Q E h => ?_) (fun cdv A outer s H vs Q E hr h => ?_)
  · obtain ⟨t, ns, rfl, _⟩ := h
    rfl
  · obtain ⟨t, ns, rfl, hN, q⟩ := h
    refine ⟨_, pss_cons (ps_set (i := 1) scSizesIn.nd rfl (.inl rfl) (pe_op op_rep (pe_lst (pa_cons pe_int pa_nil)) (pe_callB call_len_seq (by rfl) B.len PySem.boot_len (pa_cons (pv 0) pa_nil))))
      (pss_cons (ps_for PassesOwn.never rfl (pi_enumT (by rfl) B.enumerate (pa_cons (pv 0) pa_nil)) (pg_tup rfl (pgs_cons (pg_name (i := 2) scSizesIn.nd rfl (.inl rfl)) (pgs_cons (pg_name (i := 3) scSizesIn.nd rfl (.inl rfl)) pgs_nil)))
        (pss_one (ps_if (pt_cmpR op_notN (pv 3) pe_non (nomark _)) (pss_one (ps_augS (pv 1) (pv 3) get_listP (pe_ix ix_list (pv 1) (pv 2) (fun _ _ => rfl)) ip_add set_list)) pss_nil)))
      (pss_one (ps_ret (pv 1)))), ?_⟩
    have len : (ns.map nv).length = ns.length := List.length_map ..
    have few := hN.2.2.1
    -- found = [1] * len(nest)
    refine ⟨by show 1 ≤ sizeLine; decide, fun l nl => ?_⟩
    have sl : Same H (upd H l (.lst [V.int 1])) := same_upd nl
    refine ⟨.ref t, rfl, t, ns.map nv, rfl, .inr (SqT.of (sl _ _ hN.1)), l, _, [V.int 1], rfl, rfl, upd_same, ?_, ?_, ?_, fun p np => ?_⟩
    · rw [len]
      omega
    · rw [len]
      omega
    · rw [len, sizeLine_eq]
      show 1 * ((ns.length : Nat) : Int).toNat ≤ 16777216
      omega
    have np0 : H p = none := sl.free np
    -- the loop
    refine ⟨_, rfl, t, ns.map nv, rfl, SqT.of (same_upd np _ _ (sl _ _ hN.1)), ?_⟩
    refine for_it (walk_enumT (K := K) (a := t) (xs := ns.map nv)) (fun i σ H' => Same H H' ∧ H' p = some (.lst ((szTo ns i).map V.int)) ∧ ∃ a b, σ = [some (.ref t), some (.ref p), a, b])
      ⟨sl.trans (same_upd np), ?_, none, none, rfl⟩ (fun i σ H' _ h => SqT.of (h.1 _ _ hN.1)) ?_ ?_
    · rw [upd_same, len]
      show some (HO.lst (List.replicate ((ns.length : Nat) : Int).toNat [V.int 1]).flatten) = _
      rw [Int.toNat_natCast, ones_rep]
      rfl
    · rintro i x σ H' H2 hi ⟨sm, hp, a, b, rfl⟩ ⟨T, x1, x2, rfl, nT, rfl, e1, e2⟩
      cases e1
      have e2 : (ns.map nv)[i]? = some x2 := e2
      have sT : Same H' (upd H' T (.tup [.int (i : Nat), x2])) := same_upd nT
      have hp2 := sT _ _ hp
      rw [len] at hi
      refine ⟨T, _, rfl, SqT.of upd_same, rfl, _, _, rfl, _, _, rfl, rfl, ?_⟩
      rw [List.getElem?_map] at e2
      have step : szTo ns (i + 1) = szStep ns[i]? (szTo ns i) i := rfl
      rcases e : ns[i]? with _ | o
      · rw [e] at e2
        cases e2
      · rw [e] at e2 step
        cases e2
        cases o with
        | none =>
          refine ⟨_, rfl, rfl, _, rfl, ?_⟩
          rw [decide_eq_true (show nv none = V.non from rfl)]
          refine iteF ⟨sm.trans sT, ?_, _, _, rfl⟩
          rw [step]
          exact hp2
        | some j =>
          obtain ⟨h1, h2⟩ := hN.2.2.2 i j e
          have ll := szTo_length ns i
          have hj : j < (szTo ns i).length := by omega
          have hk : i < (szTo ns i).length := by omega
          have gj : ((szTo ns i).map V.int)[j]? = some (.int ((szTo ns i).getD j 0)) := by
            rw [List.getElem?_map, List.getD_eq_getElem?_getD, List.getElem?_eq_getElem hj]
            rfl
          have gk : ((szTo ns i).map V.int)[i]? = some (.int ((szTo ns i).getD i 0)) := by
            rw [List.getElem?_map, List.getD_eq_getElem?_getD, List.getElem?_eq_getElem hk]
            rfl
          refine ⟨_, rfl, rfl, _, rfl, ?_⟩
          rw [decide_eq_false (show ¬ nv (some j) = V.non from fun z => nomatch z)]
          refine iteT ⟨_, rfl, _, rfl, p, _, (j : Int), _, rfl, rfl, SqL.of hp2, atI_nat gj, _, rfl, _, rfl, p, _, (i : Int), _, rfl, rfl, SqL.of hp2, atI_nat gk, _, _, rfl, rfl,
            p, _, (j : Int), j, rfl, rfl, hp2, ?_, ?_⟩
          · unfold ixN
            rw [if_pos (by omega), if_pos (by rw [List.length_map]; omega)]
            simp
          · refine ⟨?_, ?_, _, _, rfl⟩
            · exact Same.put (sm.trans sT) np0
            · rw [upd_same, step]
              show some (HO.lst (((szTo ns i).map V.int).set j (.int ((szTo ns i).getD j 0 + (szTo ns i).getD i 0)))) = some (HO.lst (((szTo ns i).set j ((szTo ns i).getD j 0 + (szTo ns i).getD i 0)).map V.int))
              rw [List.map_set]
    · rintro σ H' ⟨sm, hp, a, b, rfl⟩
      rw [len] at hp
      exact ⟨_, rfl, q H' p sm hp⟩

/-! ### sizes -/
def spSizes : Sp := fun vs H Q _ => ∃ (t : Addr) (ns : Nst), vs = [.ref t] ∧ NestAt H t ns ∧ ∀ H' p, Same H H' → H' p = some (.tup ((szs ns).map V.int)) → Q (.ref p) H'
theorem scSizes : FnScope ["nest"] ["nest"] (defScope sSizes) := ⟨rfl, rfl, rfl, by decide +kernel, rfl, by decide +kernel, by decide +kernel⟩
abbrev LSizes (K : PySem.W.Frag) (mg : Str → Option Value) := Fn K mg "sizes" sSizes ["nest"]
theorem ok_sizes (L : LSizes K mg) (B : Bi mg) (LI : LIsIn K mg) (LN : LNeedNest K mg) (LS : LSizesIn K mg) : FnOk P w K mg base CX0 3 L.f L.fd ["nest"] spSizes := by
  refine L.F.ok scSizes (fun vs H Q E h => ?_) (fun cdv A outer s H vs Q E hr h => ?_)
  · obtain ⟨t, ns, rfl, _⟩ := h
    rfl
  · obtain ⟨t, ns, rfl, hN, q⟩ := h
    refine ⟨_, pss_cons (ps_expr (pe_fn LN (ok_needNest LN B LI) hr (pa_cons (pv 0) pa_nil)))
      (pss_one (ps_ret (pe_callTy call_tuple_of (by rfl) B.tuple boot_tuple (pa_cons (pe_fn LS (ok_sizesIn LS B) (hr.mono (by decide)) (pa_cons (pv 0) pa_nil)) pa_nil)))), ?_⟩
    refine ⟨_, rfl, t, ns, rfl, hN, fun H1 s1 => ?_⟩
    refine ⟨_, rfl, t, ns, rfl, hN.same s1, fun H2 p s2 hp => ⟨p, _, rfl, .inl ⟨SqL.of hp, fun l nl => ?_⟩⟩⟩
    exact q _ l ((s1.trans s2).trans (same_upd nl)) upd_same

/-! ### product -/
def spProduct : Sp := fun vs H Q _ => ∃ (p : Addr) (ns : List Int), vs = [.ref p] ∧ H p = some (.lst (ns.map V.int)) ∧ (∀ x ∈ ns, 0 ≤ x ∧ x ≤ 9) ∧ Q (.int (pr ns)) H
theorem scProduct : FnScope ["values", "found", "one"] ["values"] (defScope sProduct) := ⟨rfl, rfl, rfl, by decide +kernel, rfl, by decide +kernel, by decide +kernel⟩
abbrev LProduct (K : PySem.W.Frag) (mg : Str → Option Value) := Fn K mg "product" sProduct ["values"]
theorem ok_product (L : LProduct K mg) : FnOk P w K mg base CX0 1 L.f L.fd ["values"] spProduct := by
  refine L.F.ok scProduct (fun vs H Q E h => ?_) (fun cdv A outer s H vs Q E hr h => ?_)
  · obtain ⟨p, ns, rfl, _⟩ := h
    rfl
  · obtain ⟨p, ns, rfl, hp, hb, q⟩ := h
    refine ⟨_, pss_cons (ps_set (i := 1) scProduct.nd rfl (.inl rfl) pe_int)
      (pss_cons (ps_for PassesOwn.never rfl (pi_list (pv 0)) (pg_name (i := 2) scProduct.nd rfl (.inl rfl)) (pss_one (ps_aug (i := 1) scProduct.nd rfl (.inl rfl) (pv 2) iop_mul)))
      (pss_one (ps_ret (pv 1)))), ?_⟩
    refine ⟨_, rfl, p, rfl, ⟨_, SqL.of hp⟩, ?_⟩
    refine for_list (K := K) (a := p) (xs := ns.map V.int) (fun i σ H' => H' = H ∧ ∃ a, σ = [some (.ref p), some (.int (pr (ns.take i))), a]) ⟨rfl, none, rfl⟩ (fun i σ H' _ h => by rw [h.1]; exact SqL.of hp) ?_ ?_
    · rintro i x σ H' hx ⟨rfl, a, rfl⟩
      rw [List.getElem?_map] at hx
      rcases e : ns[i]? with _ | z
      · rw [e] at hx
        cases hx
      · rw [e] at hx
        cases hx
        have bz := hb z (List.mem_of_getElem? e)
        refine ⟨_, rfl, _, rfl, pr (ns.take i), z, rfl, rfl, .inr ⟨by omega, by omega⟩, rfl, some (.int z), ?_⟩
        rw [pr_take e]
        rfl
    · rintro σ H' ⟨rfl, a, rfl⟩
      refine ⟨_, rfl, ?_⟩
      rw [List.length_map, List.take_length]
      exact q

/-! ### mixings_in, mixings -/
theorem rgV_eq (a b : Int) : rgV a b = (rg a b).map V.int := by
  unfold rgV rg
  rw [List.map_map]
  rfl
def spMixings : Sp := fun vs H Q _ => ∃ (t : Addr) (ns : Nst), vs = [.ref t] ∧ NestAt H t ns ∧ ∀ H', Same H H' → Q (.int (whole ns)) H'
theorem scMixingsIn : FnScope ["nest"] ["nest"] (defScope sMixingsIn) := ⟨rfl, rfl, rfl, by decide +kernel, rfl, by decide +kernel, by decide +kernel⟩
abbrev LMixingsIn (K : PySem.W.Frag) (mg : Str → Option Value) := Fn K mg "mixings_in" sMixingsIn ["nest"]
theorem ok_mixingsIn (L : LMixingsIn K mg) (B : Bi mg) (LS : LSizesIn K mg) (LP : LProduct K mg) : FnOk P w K mg base CX0 2 L.f L.fd ["nest"] spMixings := by
  refine L.F.ok scMixingsIn (fun vs H Q E h => ?_) (fun cdv A outer s H vs Q E hr h => ?_)
  · obtain ⟨t, ns, rfl, _⟩ := h
    rfl
  · obtain ⟨t, ns, rfl, hN, q⟩ := h
    refine ⟨_, pss_one (ps_ret (pe_op op_fdiv
      (pe_fn LP (ok_product LP) hr (pa_cons (pe_listRg rfl (by rfl) B.list (prg_2 (by rfl) B.range pe_int (pe_op op_add (pe_callB call_len_seq (by rfl) B.len PySem.boot_len (pa_cons (pv 0) pa_nil)) pe_int))) pa_nil))
      (pe_fn LP (ok_product LP) hr (pa_cons (pe_fn LS (ok_sizesIn LS B) hr (pa_cons (pv 0) pa_nil)) pa_nil)))), ?_⟩
    have few := hN.2.2.1
    refine ⟨_, rfl, t, ns.map nv, rfl, .inr (SqT.of hN.1), _, _, rfl, rfl, _, _, rfl, rfl, ?_, fun l nl => ?_⟩
    · rw [List.length_map]
      exact RgOk.of_le (by omega) (by omega) (by omega) (by omega)
    rw [rgV_eq, List.length_map]
    have s1 : Same H (upd H l (.lst ((rg 1 ((ns.length : Nat) + 1)).map V.int))) := same_upd nl
    refine ⟨l, rg 1 ((ns.length : Nat) + 1), rfl, upd_same, fun x hx => by have := facs_mem hN.2 hx; omega, ?_⟩
    refine ⟨_, rfl, t, ns, rfl, hN.same s1, fun H2 p s2 hp => ⟨p, szs ns, rfl, hp, fun x hx => by have := szs_mem hN.2 hx; omega, ?_⟩⟩
    have b := szs_pr hN.2
    exact ⟨_, _, rfl, rfl, ⟨by omega, by omega⟩, q H2 (s1.trans s2)⟩
theorem scMixings : FnScope ["nest"] ["nest"] (defScope sMixings) := ⟨rfl, rfl, rfl, by decide +kernel, rfl, by decide +kernel, by decide +kernel⟩
abbrev LMixings (K : PySem.W.Frag) (mg : Str → Option Value) := Fn K mg "mixings" sMixings ["nest"]
theorem ok_mixings (L : LMixings K mg) (B : Bi mg) (LI : LIsIn K mg) (LN : LNeedNest K mg) (LM : LMixingsIn K mg) (LS : LSizesIn K mg) (LP : LProduct K mg) : FnOk P w K mg base CX0 3 L.f L.fd ["nest"] spMixings := by
  refine L.F.ok scMixings (fun vs H Q E h => ?_) (fun cdv A outer s H vs Q E hr h => ?_)
  · obtain ⟨t, ns, rfl, _⟩ := h
    rfl
  · obtain ⟨t, ns, rfl, hN, q⟩ := h
    refine ⟨_, pss_cons (ps_expr (pe_fn LN (ok_needNest LN B LI) hr (pa_cons (pv 0) pa_nil)))
      (pss_one (ps_ret (pe_fn LM (ok_mixingsIn LM B LS LP) hr (pa_cons (pv 0) pa_nil)))), ?_⟩
    refine ⟨_, rfl, t, ns, rfl, hN, fun H1 s1 => ?_⟩
    exact ⟨_, rfl, t, ns, rfl, hN.same s1, fun H2 s2 => q H2 (s1.trans s2)⟩
end
end Cd

set_option maxRecDepth 100000
set_option maxHeartbeats 4000000
/-! Walks: is_set, need_numbers, kept_in, order_count. -/
namespace Cd
open PySem PySem.Spec PyProof.Rows L2

theorem filt_take {f : Int → Bool} {ns : List Int} {i : Nat} {x : Int} (h : ns[i]? = some x) : (ns.take (i + 1)).filter f = (ns.take i).filter f ++ (if f x = true then [x] else []) := by
  rw [List.take_add_one, h, List.filter_append]
  congr 1
  cases hf : f x <;> simp [hf]
theorem int_at {ns : List Int} {i : Nat} {x : V} (h : (ns.map V.int)[i]? = some x) : ∃ z, ns[i]? = some z ∧ x = .int z := by
  rw [List.getElem?_map] at h
  rcases e : ns[i]? with _ | z
  · rw [e] at h
    cases h
  · rw [e] at h
    exact ⟨z, rfl, (Option.some.inj h).symm⟩
theorem small_list {ns : List Int} {n : Nat} {f : Int → Bool} (h : ns.length ≤ 1000) : (((ns.take n).filter f).map V.int).length < sizeLine := by
  rw [List.length_map]
  have h1 := List.length_filter_le f (ns.take n)
  rw [List.length_take] at h1
  exact small1000 (by omega)
/-- a comprehension without a test -/
theorem tyes {σ : L2.St} {H : Hp} {A B : Hp → Prop} (h : A H) : tYes σ H (fun b H3 => if b = true then A H3 else B H3) := by
  show (if true = true then A H else B H)
  exact iteT h
/-- two rising lists with the same members are one -/
theorem up_same : ∀ {l m : List Int}, l.Pairwise (· < ·) → m.Pairwise (· < ·) → (∀ x, x ∈ l ↔ x ∈ m) → l = m
  | [], [], _, _, _ => rfl
  | [], y :: m, _, _, h => absurd ((h y).mpr List.mem_cons_self) (by simp)
  | x :: l, [], _, _, h => absurd ((h x).mp List.mem_cons_self) (by simp)
  | x :: l, y :: m, h1, h2, h => by
    obtain ⟨a1, b1⟩ := List.pairwise_cons.mp h1
    obtain ⟨a2, b2⟩ := List.pairwise_cons.mp h2
    have e : x = y := by
      rcases List.mem_cons.mp ((h x).mp List.mem_cons_self) with e | m1
      · exact e
      · rcases List.mem_cons.mp ((h y).mpr List.mem_cons_self) with e | m2
        · exact e.symm
        · have := a2 x m1
          have := a1 y m2
          omega
    subst e
    refine congrArg (x :: ·) (up_same b1 b2 fun z => ?_)
    constructor
    · intro hz
      rcases List.mem_cons.mp ((h z).mp (List.mem_cons_of_mem _ hz)) with e | hm
      · have := a1 z hz
        omega
      · exact hm
    · intro hz
      rcases List.mem_cons.mp ((h z).mpr (List.mem_cons_of_mem _ hz)) with e | hm
      · have := a2 z hz
        omega
      · exact hm
theorem up_dec {l m : List Int} (hm : m.Pairwise (· < ·)) (h : ∀ x, x ∈ m ↔ x ∈ l) : decide (l = m) = upp l := by
  unfold upp
  by_cases e : l.Pairwise (· < ·)
  · rw [decide_eq_true e, decide_eq_true (up_same e hm fun x => (h x).symm)]
  · rw [decide_eq_false e, decide_eq_false fun z => e (by rw [z]; exact hm)]

section
variable {P : Program} {w : World} {K : PySem.W.Frag} {mg : Str → Option Value} {base : Heap}
/-! ### is_set -/
def spIsSet : Sp := fun vs H Q _ => ∃ (p : Addr) (it : Itm), vs = [.ref p] ∧ H p = some it.ho ∧ it.len ≤ 1000 ∧ ∀ H', Same H H' → Q (.bl it.set) H'
theorem scIsSet : FnScope ["value", "x"] ["value"] (defScope sIsSet) := ⟨rfl, rfl, rfl, by decide +kernel, rfl, by decide +kernel, by decide +kernel⟩
abbrev LIsSet (K : PySem.W.Frag) (mg : Str → Option Value) := Fn K mg "is_set" sIsSet ["value"]
theorem ok_isSet (L : LIsSet K mg) (B : Bi mg) (LI : LIsIn K mg) : FnOk P w K mg base CX0 2 L.f L.fd ["value"] spIsSet := by
  refine L.F.ok scIsSet (fun vs H Q E h => ?_) (fun cdv A outer s H vs Q E hr h => ?_)
  · obtain ⟨p, it, rfl, _⟩ := h
    rfl
  · obtain ⟨p, it, rfl, hp, hlen, q⟩ := h
    obtain ⟨u, hc⟩ := B.number
    refine ⟨_, pss_cons (ps_if (PW.pt (pw_or (pt_not (pt_val (pe_isi (pv 0) B boot_tuple B.tuple)))
        (pw_or1 (pt_cmpR (op_neI hr.units) (pe_lc (own := [("x", 1)]) (g := gName 1) rfl scIsSet.nd (pi_tup (pv 0)) (blkOk_by (own := [("x", 1)]) (N := ["value", "x"]) (sc := defScope sIsSet) (by decide +kernel))
            (fun _ _ _ _ _ => pg_name (i := 1) scIsSet.nd rfl (Or.inl rfl))
            (fun _ _ _ _ _ => pts_one (pt_not (pt_val (pe_fn LI (ok_isIn LI B) hr (pa_cons (pv 1) (pa_cons pe_int (pa_cons (pe_glob (v := .int 8) rfl hc ⟨u, rfl⟩) pa_nil)))))))
            (fun _ _ _ _ _ => pv 1)) (pe_lst pa_nil) (nomark _))))) (pss_one (ps_ret pe_bl)) pss_nil)
      (pss_one (ps_ret (pe_cmpR (op_eqI hr.units) (pe_callTy call_list_of (by rfl) B.list boot_list (pa_cons (pv 0) pa_nil))
        (pe_callB (cr_sortSet rfl) (by rfl) B.sorted boot_sorted (pa_cons (pe_callTy (cr_setT rfl) (by rfl) B.set boot_set (pa_cons (pv 0) pa_nil)) pa_nil)) (nomark _)))), ?_⟩
    cases it with
    | lst ns =>
      refine ⟨_, rfl, _, "list", false, rfl, ty_lst hp, k_lt, false, rfl, iteT (iteT ?_)⟩
      exact q H (Same.refl H)
    | tup ns =>
      have hlen : ns.length ≤ 1000 := hlen
      refine ⟨_, rfl, _, "tuple", true, rfl, ty_tup hp, k_tt, true, rfl, iteF ?_⟩
      refine ⟨_, rfl, p, rfl, ⟨_, SqT.of hp⟩, fun D nD => ?_⟩
      refine lc_tup (K := K) (a := p) (xs := ns.map V.int) (fun i H' => Same H H' ∧ H' D = some (.lst (((ns.take i).filter fun x => !(decide (0 ≤ x) && decide (x ≤ 8))).map V.int)))
        ⟨same_upd nD, upd_same⟩ (fun i H' _ h => SqT.of (h.1 _ _ hp)) ?_ ?_
      · rintro i x H' hx ⟨sm, hD⟩
        obtain ⟨z, hz, rfl⟩ := int_at hx
        have st := filt_take (f := fun x => !(decide (0 ≤ x) && decide (x ≤ 8))) hz
        refine ⟨rfl, _, rfl, z, 0, 8, rfl, _, rfl, ite2 (fun e => ?_) (fun e => ?_)⟩
        · refine ⟨_, rfl, _, hD, small_list hlen, Same.put sm nD, ?_⟩
          rw [upd_same, st, if_pos e, List.map_append]
          rfl
        · refine ⟨sm, ?_⟩
          rw [st, if_neg e, List.append_nil]
          exact hD
      · rintro H' ⟨sm, hD⟩
        rw [List.length_map, List.take_length] at hD
        refine ⟨Nat.zero_le _, fun l nl => ⟨D, l, _, [], rfl, rfl, SqL.of (same_upd nl _ _ hD), SqL.of upd_same, _, rfl, ?_⟩⟩
        have sl : Same H (upd H' l (.lst [])) := sm.trans (same_upd nl)
        refine ite2 (fun e => ?_) (fun e => ?_)
        · have no : (Itm.tup ns).set = false := by
            show isSetB ns = false
            unfold isSetB
            rw [Bool.and_eq_false_iff]
            left
            have e : (!decide (ns.filter (fun x => !(decide (0 ≤ x) && decide (x ≤ 8))) = [])) = true := e
            rw [Bool.not_eq_true', decide_eq_false_iff_not] at e
            rw [List.all_eq_false]
            obtain ⟨x, hx⟩ := List.exists_mem_of_ne_nil _ e
            obtain ⟨h1, h2⟩ := List.mem_filter.mp hx
            refine ⟨x, h1, fun z => ?_⟩
            rw [z] at h2
            cases h2
          have q := q _ sl
          rw [no] at q
          exact q
        · have e : (!decide (ns.filter (fun x => !(decide (0 ≤ x) && decide (x ≤ 8))) = [])) = false := Bool.eq_false_iff.mpr e
          rw [Bool.not_eq_false', decide_eq_true_eq] at e
          have all : ns.all (fun x => decide (0 ≤ x) && decide (x ≤ 8)) = true := by
            rw [List.all_eq_true]
            intro x hx
            have := List.filter_eq_nil_iff.mp e x hx
            simpa using this
          refine ⟨.ref p, rfl, p, _, rfl, .inr (SqT.of (sl _ _ hp)), fun l2 n2 => ?_⟩
          have s2 := sl.trans (same_upd (o := .lst (ns.map V.int)) n2)
          refine ⟨.ref p, rfl, p, ns, rfl, SqT.of (s2 _ _ hp), ?_, fun p3 c n3 => ?_⟩
          · show ns.length + 1 < 4096
            omega
          have s3 := s2.trans (same_upd (o := SetO w p3 (fun j => decide (j ∈ ns)) c) n3)
          refine ⟨p3, _, c, rfl, upd_same, fun ms p4 up mem n4 => ?_⟩
          have s4 := s3.trans (same_upd (o := .lst (ms.map V.int)) n4)
          refine ⟨l2, p4, ns, ms, rfl, rfl, SqL.of (same_upd n4 _ _ (same_upd n3 _ _ upd_same)), SqL.of upd_same, ?_⟩
          have e2 : decide (ns = ms) = (Itm.tup ns).set := by
            rw [up_dec up fun x => (mem x).trans decide_eq_true_iff]
            show upp ns = (ns.all (fun x => decide (0 ≤ x) && decide (x ≤ 8)) && upp ns)
            rw [all]
            rfl
          show Q (.bl (decide (ns = ms))) _
          rw [e2]
          exact q _ s4

/-! ### need_numbers -/
def spNeedNumbers : Sp := fun vs H Q _ => ∃ (t q : Addr) (ns : Nst) (its : List Itm), vs = [.ref t, .ref q] ∧ NestAt H t ns ∧ TupsAt H q its ∧ its.length = ns.length ∧ (∀ it ∈ its, it.set = true ∧ it.len ≤ 1000) ∧ ∀ H', Same H H' → Q .non H'
theorem scNeedNumbers : FnScope ["nest", "numbers", "index", "one"] ["nest", "numbers"] (defScope sNeedNumbers) := ⟨rfl, rfl, rfl, by decide +kernel, rfl, by decide +kernel, by decide +kernel⟩
abbrev LNeedNumbers (K : PySem.W.Frag) (mg : Str → Option Value) := Fn K mg "need_numbers" sNeedNumbers ["nest", "numbers"]
theorem ok_needNumbers (L : LNeedNumbers K mg) (B : Bi mg) (LI : LIsIn K mg) (LN : LNeedNest K mg) (LS : LIsSet K mg) : FnOk P w K mg base CX0 3 L.f L.fd ["nest", "numbers"] spNeedNumbers := by
  refine L.F.ok scNeedNumbers (fun vs H Q E h => ?_) (fun cdv A outer s H vs Q E hr h => ?_)
  · obtain ⟨t, q, ns, its, rfl, _⟩ := h
    rfl
  · obtain ⟨t, q, ns, its, rfl, hN, hT, hl, good, k⟩ := h
    refine ⟨_, pss_cons (ps_expr (pe_fn LN (ok_needNest LN B LI) hr (pa_cons (pv 0) pa_nil)))
      (pss_cons (ps_if (PW.pt (pw_or (pt_not (pt_val (pe_isi (pv 1) B boot_tuple B.tuple))) (pw_or1 (pt_cmpR op_ne (pe_callB call_len_seq (by rfl) B.len PySem.boot_len (pa_cons (pv 1) pa_nil)) (pe_callB call_len_seq (by rfl) B.len PySem.boot_len (pa_cons (pv 0) pa_nil)) (nomark _))))) (pss_one ps_never) pss_nil)
      (pss_one (ps_for PassesOwn.never rfl (pi_enumT (by rfl) B.enumerate (pa_cons (pv 1) pa_nil)) (pg_tup rfl (pgs_cons (pg_name (i := 2) scNeedNumbers.nd rfl (.inl rfl)) (pgs_cons (pg_name (i := 3) scNeedNumbers.nd rfl (.inl rfl)) pgs_nil)))
        (pss_one (ps_if (pt_not (pt_val (pe_fn LS (ok_isSet LS B LI) hr (pa_cons (pv 3) pa_nil)))) (pss_one ps_never) pss_nil))))), ?_⟩
    refine ⟨_, rfl, t, ns, rfl, hN, fun H1 s1 => ?_⟩
    obtain ⟨as, hq, rows⟩ := hT.same s1
    have lenA : (as.map V.ref).length = ns.length := by rw [List.length_map, rows.length, hl]
    have lenN : (ns.map nv).length = ns.length := List.length_map ..
    refine ⟨_, rfl, _, "tuple", true, rfl, ty_tup hq, k_tt, true, rfl, iteF ?_⟩
    refine ⟨_, rfl, q, _, rfl, .inr (SqT.of hq), _, rfl, t, _, rfl, .inr (SqT.of (s1 _ _ hN.1)), rfl, _, rfl, ?_⟩
    rw [lenA, lenN, decide_eq_true (show V.int ((ns.length : Nat) : Int) = V.int ((ns.length : Nat) : Int) from rfl)]
    refine iteF ?_
    refine ⟨_, rfl, q, as.map V.ref, rfl, SqT.of hq, ?_⟩
    refine for_it (walk_enumT (K := K) (a := q) (xs := as.map V.ref)) (fun i σ H' => Same H1 H' ∧ ∃ a b, σ = [some (.ref t), some (.ref q), a, b]) ⟨Same.refl H1, none, none, rfl⟩ (fun i σ H' _ h => SqT.of (h.1 _ _ hq)) ?_ (fun σ H' h => k H' (s1.trans h.1))
    rintro i x σ H' H2 hi ⟨sm, a, b, rfl⟩ ⟨T, x1, x2, rfl, nT, rfl, e1, e2⟩
    cases e1
    have e2 : (as.map V.ref)[i]? = some x2 := e2
    have lt : i < its.length := by
      rw [List.length_map, rows.length] at hi
      exact hi
    obtain ⟨c, hc, hcr⟩ := rows.get (List.getElem?_eq_getElem lt)
    rw [List.getElem?_map, hc] at e2
    cases e2
    obtain ⟨g1, g2⟩ := good _ (List.getElem_mem lt)
    have sT : Same H' (upd H' T (.tup [.int (i : Nat), .ref c])) := same_upd nT
    refine ⟨T, _, rfl, SqT.of upd_same, rfl, _, _, rfl, _, _, rfl, rfl, ?_⟩
    refine ⟨_, rfl, c, its[i], rfl, sT _ _ (sm _ _ hcr), g2, fun H3 s3 => ⟨true, by rw [g1], iteF ⟨(sm.trans sT).trans s3, _, _, rfl⟩⟩⟩

/-! ### kept_in -/
def Lists (H : Hp) : List Addr → List (List Int) → Prop := Paired fun a r => H a = some (.lst (r.map V.int))
theorem Lists.same {H H' : Hp} {as : List Addr} {rs : List (List Int)} (h : Lists H as rs) (s : Same H H') : Lists H' as rs := Paired.mapP h fun _ _ e => s _ _ e
theorem Lists.get {H : Hp} : ∀ {as : List Addr} {rs : List (List Int)} {i : Nat} {a : Addr}, Lists H as rs → as[i]? = some a → ∃ r, rs[i]? = some r ∧ H a = some (.lst (r.map V.int))
  | _, _, _, _, .nil, e => by simp at e
  | _, _, 0, _, .cons r _, e => by
    cases e
    exact ⟨_, rfl, r⟩
  | _, _, i + 1, a, .cons _ t, e => by
    obtain ⟨r, h1, h2⟩ := Lists.get (i := i) (a := a) t (by simpa using e)
    exact ⟨r, by simpa using h1, h2⟩
theorem Lists.snoc {H : Hp} {a : Addr} {r : List Int} (ha : H a = some (.lst (r.map V.int))) : ∀ {as : List Addr} {rs : List (List Int)}, Lists H as rs → Lists H (as ++ [a]) (rs ++ [r])
  | _, _, .nil => .cons ha .nil
  | _, _, .cons q t => .cons q (Lists.snoc ha t)
theorem Lists.put {H : Hp} {D : Addr} {o : HO} : ∀ {as : List Addr} {rs : List (List Int)}, (∀ c ∈ as, c ≠ D) → Lists H as rs → Lists (upd H D o) as rs
  | _, _, _, .nil => .nil
  | _, _, h, .cons q t => .cons (by rw [upd_ne (h _ List.mem_cons_self)]; exact q) (Lists.put (fun c hc => h c (List.mem_cons_of_mem _ hc)) t)
theorem Lists.length {H : Hp} {as : List Addr} {rs : List (List Int)} (h : Lists H as rs) : as.length = rs.length := Paired.length h
/-- the rows without what is not less than the sizes -/
def keptR : List (List Int) → List Int → List (List Int)
  | r :: rs, s :: ss => r.filter (fun x => decide (x < s)) :: keptR rs ss
  | _, _ => []
theorem keptR_length : ∀ {rs : List (List Int)} {ss : List Int}, rs.length = ss.length → (keptR rs ss).length = rs.length
  | [], _, _ => by simp [keptR]
  | _ :: _, [], h => by simp at h
  | r :: rs, s :: ss, h => by
    show (keptR rs ss).length + 1 = rs.length + 1
    rw [keptR_length (by simpa using h)]
theorem keptR_take : ∀ {rs : List (List Int)} {ss : List Int} {i : Nat} {r : List Int} {s : Int}, rs[i]? = some r → ss[i]? = some s → keptR (rs.take (i + 1)) (ss.take (i + 1)) = keptR (rs.take i) (ss.take i) ++ [r.filter fun x => decide (x < s)]
  | [], _, _, _, _, h, _ => by simp at h
  | _ :: _, [], _, _, _, _, h => by simp at h
  | r :: rs, s :: ss, 0, r', s', h1, h2 => by
    cases h1
    cases h2
    rfl
  | r :: rs, s :: ss, i + 1, r', s', h1, h2 => by
    have ih := keptR_take (rs := rs) (ss := ss) (i := i) (r := r') (s := s') (by simpa using h1) (by simpa using h2)
    show _ :: keptR (rs.take (i + 1)) (ss.take (i + 1)) = _ :: (keptR (rs.take i) (ss.take i) ++ _)
    rw [ih]
def spKeptIn : Sp := fun vs H Q _ => ∃ (t q : Addr) (ns : Nst) (rs : List (List Int)), vs = [.ref t, .ref q] ∧ NestAt H t ns ∧ TupsAt H q (rs.map Itm.tup) ∧ rs.length = ns.length ∧ (∀ r ∈ rs, r.length ≤ 1000) ∧
  ∀ H' (p : Addr) (as : List Addr), Same H H' → H' p = some (.lst (as.map V.ref)) → Lists H' as (keptR rs (szs ns)) → Q (.ref p) H'
theorem scKeptIn : FnScope ["nest", "numbers", "some", "size", "x"] ["nest", "numbers"] (defScope sKeptIn) := ⟨rfl, rfl, rfl, by decide +kernel, rfl, by decide +kernel, by decide +kernel⟩
abbrev LKeptIn (K : PySem.W.Frag) (mg : Str → Option Value) := Fn K mg "kept_in" sKeptIn ["nest", "numbers"]
/-- the outer comprehension's own names -/
def keptScope : Scope := { kind := .function, names := [(".0", .local), ("some", .local), ("size", .cell)], isGenerator := false, isCoroutine := false }
theorem ok_keptIn (L : LKeptIn K mg) (B : Bi mg) (LS : LSizesIn K mg) : FnOk P w K mg base CX0 2 L.f L.fd ["nest", "numbers"] spKeptIn := by
  refine L.F.ok scKeptIn (fun vs H Q E h => ?_) (fun cdv A outer s H vs Q E hr h => ?_)
  · obtain ⟨t, q, ns, rs, rfl, _⟩ := h
    rfl
  · obtain ⟨t, q, ns, rs, rfl, hN, hT, hl, short, k⟩ := h
    refine ⟨_, pss_one (ps_ret (pe_lc (own := [("some", 2), ("size", 3)]) (g := gTup K 2 (gCons (gName 2) (gCons (gName 3) gNil))) (tt := tYes) (te := tLc (iTup K (tVar 2)) (gName 4) (tTest (tOp (rI0 fun i j => .bl (decide (i < j))) (tVar 4) (tVar 3))) (tVar 4) [4])
      rfl scKeptIn.nd (pi_zipM (by rfl) B.zip (pa_cons (pv 1) (pa_cons (pe_fn LS (ok_sizesIn LS B) hr (pa_cons (pv 0) pa_nil)) pa_nil)))
      (blkOk_by (own := [("some", 2), ("size", 3)]) (N := ["nest", "numbers", "some", "size", "x"]) (sc := defScope sKeptIn) (by decide +kernel))
      (fun _ _ _ _ _ => pg_tup rfl (pgs_cons (pg_name (i := 2) scKeptIn.nd rfl (Or.inl rfl)) (pgs_cons (pg_name (i := 3) scKeptIn.nd rfl (Or.inr rfl)) pgs_nil)))
      (fun _ _ _ _ _ => pts_nil)
      (fun _ _ _ _ _ => pe_lc (own := [("x", 4)]) (g := gName 4) rfl scKeptIn.nd (pi_tup (pv 2)) (blkOk_by (own := [("x", 4)]) (N := ["nest", "numbers", "some", "size", "x"]) (sc := relS keptScope (defScope sKeptIn)) (by decide +kernel))
        (fun _ _ _ _ _ => pg_name (i := 4) scKeptIn.nd rfl (Or.inl rfl)) (fun _ _ _ _ _ => pts_one (pt_cmpR op_lt (pv 4) (pv 3) (nomark _))) (fun _ _ _ _ _ => pv 4)))), ?_⟩
    have few := hN.2.2.1
    have lS := szs_length ns
    obtain ⟨bs, hq, rows⟩ := hT
    have lB : bs.length = rs.length := by rw [rows.length, List.length_map]
    refine ⟨_, rfl, _, rfl, t, ns, rfl, hN, fun H1 p s1 hp => ⟨q, p, bs.map V.ref, (szs ns).map V.int, rfl, SqT.of (s1 _ _ hq), SqL.of hp, fun D nD => ?_⟩⟩
    refine lc_it (walk_zipM (K := K) (a := q) (b := p) (xs := bs.map V.ref) (ys := (szs ns).map V.int) (by rw [List.length_map, List.length_map]; omega))
      (fun i H' => Same H1 H' ∧ ∃ cs : List Addr, H' D = some (.lst (cs.map V.ref)) ∧ (∀ c ∈ cs, c ≠ D) ∧ Lists H' cs (keptR (rs.take i) ((szs ns).take i)))
      ⟨same_upd nD, [], upd_same, (fun c hc => nomatch hc), .nil⟩ (fun i H' _ h => ⟨SqT.of (h.1 _ _ (s1 _ _ hq)), SqL.of (h.1 _ _ hp)⟩) ?_ ?_
    · rintro i x H' H2 hi ⟨sm, cs, hD, ne, ls⟩ ⟨T, x1, x2, rfl, nT, rfl, e1, e2⟩
      have e1 : (bs.map V.ref)[i]? = some x1 := e1
      have e2 : ((szs ns).map V.int)[i]? = some x2 := e2
      obtain ⟨z, hz, rfl⟩ := int_at e2
      have lt : i < rs.length := by
        rw [List.length_map] at hi
        omega
      have gr : (rs.map Itm.tup)[i]? = some (.tup rs[i]) := by
        rw [List.getElem?_map, List.getElem?_eq_getElem lt]
        rfl
      obtain ⟨c, hc, hcr⟩ := rows.get gr
      rw [List.getElem?_map, hc] at e1
      cases e1
      have sT : Same H' (upd H' T (.tup [.ref c, .int z])) := same_upd nT
      have hc2 := sT _ _ (sm _ _ (s1 _ _ hcr))
      have hr1 : rs[i].length ≤ 1000 := short _ (List.getElem_mem lt)
      refine ⟨T, _, rfl, SqT.of upd_same, rfl, _, _, rfl, _, _, rfl, rfl, rfl, tyes ?_⟩
      refine ⟨_, rfl, c, rfl, ⟨_, SqT.of hc2⟩, fun D2 n2 => ?_⟩
      refine lc_tup (K := K) (a := c) (xs := rs[i].map V.int) (fun j H3 => Same (upd H' T (.tup [.ref c, .int z])) H3 ∧ H3 D2 = some (.lst (((rs[i].take j).filter fun x => decide (x < z)).map V.int)))
        ⟨same_upd n2, upd_same⟩ (fun j H3 _ h => SqT.of (h.1 _ _ hc2)) ?_ ?_
      · rintro j y H3 hy ⟨sm3, h3⟩
        obtain ⟨y, gy, rfl⟩ := int_at hy
        have st := filt_take (f := fun x => decide (x < z)) gy
        refine ⟨rfl, _, rfl, _, rfl, y, z, rfl, rfl, _, rfl, ite2 (fun e => ?_) (fun e => ?_)⟩
        · refine ⟨_, rfl, _, h3, small_list hr1, Same.put sm3 n2, ?_⟩
          rw [upd_same, st, if_pos e, List.map_append]
          rfl
        · refine ⟨sm3, ?_⟩
          rw [st, if_neg e, List.append_nil]
          exact h3
      · rintro H3 ⟨sm3, h3⟩
        rw [List.length_map, List.take_length] at h3
        have hD3 := sm3 _ _ (sT _ _ hD)
        have nD2 : D2 ≠ D := fun e => by
          rw [e, sT _ _ hD] at n2
          cases n2
        refine ⟨cs.map V.ref, hD3, ?_, ?_, cs ++ [D2], ?_, ?_, ?_⟩
        · rw [List.length_map, ls.length, keptR_length (by rw [List.length_take, List.length_take]; omega), List.length_take]
          exact small1000 (by omega)
        · exact Same.put (sm.trans (sT.trans sm3)) nD
        · rw [upd_same, List.map_append]
          rfl
        · intro c' hc'
          rcases List.mem_append.mp hc' with m | m
          · exact ne c' m
          · rw [List.mem_singleton.mp m]
            exact nD2
        · rw [keptR_take (List.getElem?_eq_getElem lt) hz]
          refine Lists.snoc ?_ (Lists.put ne ((ls.same sT).same sm3))
          rw [upd_ne nD2]
          exact h3
    · rintro H' ⟨sm, cs, hD, ne, ls⟩
      refine k H' D cs (s1.trans sm) hD ?_
      rw [List.length_map, List.take_of_length_le (by omega), List.take_of_length_le (by omega)] at ls
      exact ls

/-! ### order_count -/
theorem keptR_all : ∀ {rs : List (List Int)} {ss : List Int}, rs.length = ss.length → (∀ (i : Nat) (r : List Int) (s : Int), rs[i]? = some r → ss[i]? = some s → ∀ x ∈ r, x < s) → keptR rs ss = rs
  | [], _, _, _ => by simp [keptR]
  | _ :: _, [], h, _ => by simp at h
  | r :: rs, s :: ss, h, f => by
    have e : r.filter (fun x => decide (x < s)) = r := List.filter_eq_self.mpr fun x hx => decide_eq_true (f 0 r s rfl rfl x hx)
    show r.filter (fun x => decide (x < s)) :: keptR rs ss = r :: rs
    rw [e, keptR_all (by simpa using h) fun i r' s' h1 h2 => f (i + 1) r' s' (by simpa using h1) (by simpa using h2)]
/-- a set of at most nine small ints has at most nine members -/
theorem isSet_len {ns : List Int} (h : isSetB ns = true) : ns.length ≤ 9 := by
  unfold isSetB upp at h
  rw [Bool.and_eq_true, List.all_eq_true, decide_eq_true_eq] at h
  obtain ⟨h1, h2⟩ := h
  have nd : ns.Nodup := h2.imp fun {a b} q => Int.ne_of_lt q
  have := nodup_le (m := rg 0 9) nd fun x hx => by
    have q := h1 x hx
    rw [Bool.and_eq_true, decide_eq_true_eq, decide_eq_true_eq] at q
    exact rg_mem.mpr (by omega)
  rw [rg_length] at this
  exact this
def lens (rs : List (List Int)) : List Int := rs.map fun r => (r.length : Int)
def spOrderCount : Sp := fun vs H Q _ => ∃ (t q : Addr) (ns : Nst) (rs : List (List Int)), vs = [.ref t, .ref q] ∧ NestAt H t ns ∧ TupsAt H q (rs.map Itm.tup) ∧ rs.length = ns.length ∧ (∀ r ∈ rs, isSetB r = true) ∧
  (∀ (i : Nat) (r : List Int) (s : Int), rs[i]? = some r → (szs ns)[i]? = some s → ∀ x ∈ r, x < s) ∧ ∀ H', Same H H' → Q (.int (whole ns * pr (lens rs))) H'
theorem scOrderCount : FnScope ["nest", "numbers", "some"] ["nest", "numbers"] (defScope sOrderCount) := ⟨rfl, rfl, rfl, by decide +kernel, rfl, by decide +kernel, by decide +kernel⟩
abbrev LOrderCount (K : PySem.W.Frag) (mg : Str → Option Value) := Fn K mg "order_count" sOrderCount ["nest", "numbers"]
theorem ok_orderCount (L : LOrderCount K mg) (B : Bi mg) (LI : LIsIn K mg) (LN : LNeedNest K mg) (LT : LIsSet K mg) (LNN : LNeedNumbers K mg) (LM : LMixingsIn K mg) (LS : LSizesIn K mg) (LP : LProduct K mg) (LK : LKeptIn K mg) :
    FnOk P w K mg base CX0 4 L.f L.fd ["nest", "numbers"] spOrderCount := by
  refine L.F.ok scOrderCount (fun vs H Q E h => ?_) (fun cdv A outer s H vs Q E hr h => ?_)
  · obtain ⟨t, q, ns, rs, rfl, _⟩ := h
    rfl
  · obtain ⟨t, q, ns, rs, rfl, hN, hT, hl, sets, below, k⟩ := h
    refine ⟨_, pss_cons (ps_expr (pe_fn LNN (ok_needNumbers LNN B LI LN LT) hr (pa_cons (pv 0) (pa_cons (pv 1) pa_nil))))
      (pss_one (ps_ret (pe_op op_mul (pe_fn LM (ok_mixingsIn LM B LS LP) (hr.mono (by decide)) (pa_cons (pv 0) pa_nil))
        (pe_fn LP (ok_product LP) (hr.mono (by decide)) (pa_cons (pe_lc (own := [("some", 2)]) (g := gName 2) (tt := tYes) rfl scOrderCount.nd (pi_list (pe_fn LK (ok_keptIn LK B LS) (hr.mono (by decide)) (pa_cons (pv 0) (pa_cons (pv 1) pa_nil))))
          (blkOk_by (own := [("some", 2)]) (N := ["nest", "numbers", "some"]) (sc := defScope sOrderCount) (by decide +kernel)) (fun _ _ _ _ _ => pg_name (i := 2) scOrderCount.nd rfl (Or.inl rfl)) (fun _ _ _ _ _ => pts_nil)
          (te := tCB (fun xs H Q => ∃ p ys, xs = [.ref p] ∧ (SqL K H p ys ∨ SqT K H p ys) ∧ Q (.int ys.length) H) (tCons (tVar 2) tNil))
          (fun _ _ _ _ _ => pe_callB call_len_seq (by rfl) B.len PySem.boot_len (pa_cons (pv 2) pa_nil))) pa_nil))))), ?_⟩
    have few := hN.2.2.1
    have lS := szs_length ns
    refine ⟨_, rfl, _, rfl, t, q, ns, rs.map Itm.tup, rfl, hN, hT, by rw [List.length_map, hl], fun it hit => ?_, fun H1 s1 => ?_⟩
    · obtain ⟨r, hr', rfl⟩ := List.mem_map.mp hit
      exact ⟨sets r hr', Nat.le_trans (isSet_len (sets r hr')) (by decide)⟩
    refine ⟨_, rfl, t, ns, rfl, hN.same s1, fun H2 s2 => ?_⟩
    have s12 := s1.trans s2
    refine ⟨_, rfl, _, rfl, t, q, ns, rs, rfl, hN.same s12, hT.same s12, hl, fun r hr' => Nat.le_trans (isSet_len (sets r hr')) (by decide), fun H3 p as s3 hp ls => ?_⟩
    rw [keptR_all (by omega) below] at ls
    refine ⟨p, rfl, ⟨_, SqL.of hp⟩, fun D nD => ?_⟩
    refine lc_list (K := K) (a := p) (xs := as.map V.ref) (fun i H' => Same H3 H' ∧ H' D = some (.lst (((lens rs).take i).map V.int))) ⟨same_upd nD, upd_same⟩ (fun i H' _ h => SqL.of (h.1 _ _ hp)) ?_ ?_
    · rintro i x H' hx ⟨sm, hD⟩
      rw [List.getElem?_map] at hx
      rcases e : as[i]? with _ | a
      · rw [e] at hx
        cases hx
      · rw [e] at hx
        cases hx
        obtain ⟨r, hr', ha⟩ := ls.get e
        have gl : (lens rs)[i]? = some (r.length : Int) := by
          unfold lens
          rw [List.getElem?_map, hr']
          rfl
        refine ⟨rfl, tyes ⟨_, rfl, a, _, rfl, .inl (SqL.of (sm _ _ ha)), _, hD, ?_, Same.put sm nD, ?_⟩⟩
        · rw [List.length_map, List.length_take]
          have : (lens rs).length = rs.length := List.length_map ..
          exact small1000 (by omega)
        · rw [upd_same, List.take_add_one, gl, List.map_append, List.length_map]
          rfl
    · rintro H' ⟨sm, hD⟩
      have le : (lens rs).length = rs.length := List.length_map ..
      rw [List.length_map, ls.length, ← le, List.take_length] at hD
      refine ⟨D, lens rs, rfl, hD, fun x hx => ?_, whole ns, pr (lens rs), rfl, rfl, .inl ?_, k H' (s12.trans (s3.trans sm))⟩
      · obtain ⟨r, hr', rfl⟩ := List.mem_map.mp hx
        have := isSet_len (sets r hr')
        omega
      · have := whole_pos hN.2
        omega
end
end Cd

set_option maxRecDepth 100000
set_option maxHeartbeats 4000000
/-! Walks: parts_of, wished, numbers_with. -/
namespace Cd
open PySem PySem.Spec PyProof.Rows L2
theorem pofL_found {f : Int → Option (List Int)} {r : Int} {k : Nat} {l : List Int} (e : r % ((k : Int) + 1) = 0) (h : f (r / ((k : Int) + 1)) = some l) : pofL f r (k + 1) = some (((k : Int) + 1) :: l) := by
  unfold pofL
  rw [if_pos e, h]
theorem pofL_lost {f : Int → Option (List Int)} {r : Int} {k : Nat} (e : r % ((k : Int) + 1) = 0) (h : f (r / ((k : Int) + 1)) = none) : pofL f r (k + 1) = pofL f r k := by
  rw [show pofL f r (k + 1) = _ from by unfold pofL; rfl, if_pos e, h]
theorem pofL_miss {f : Int → Option (List Int)} {r : Int} {k : Nat} (e : ¬ r % ((k : Int) + 1) = 0) : pofL f r (k + 1) = pofL f r k := by
  rw [show pofL f r (k + 1) = _ from by unfold pofL; rfl, if_neg e]
section
variable {P : Program} {w : World} {K : PySem.W.Frag} {mg : Str → Option Value} {base : Heap}
/-! ### parts_of -/
/-- what an optional list of ints is handed back as -/
def Gives (H : Hp) (o : Option (List Int)) (Q : VK) : Prop := (o = none → ∀ H', Same H H' → Q .non H') ∧ ∀ l, o = some l → ∀ H' q, Same H H' → H' q = some (.lst (l.map V.int)) → Q (.ref q) H'
theorem Gives.after {H H1 : Hp} {o : Option (List Int)} {Q : VK} (h : Gives H o Q) (s : Same H H1) : Gives H1 o Q :=
  ⟨fun e H' s' => h.1 e H' (s.trans s'), fun l e H' q s' hq => h.2 l e H' q (s.trans s') hq⟩
def spParts (n : Nat) : Sp := fun vs H Q _ => ∃ (p : Addr) (ss : List Int) (r : Int), vs = [.ref p, .int r] ∧ H p = some (.lst (ss.map V.int)) ∧ ss.length < n ∧ ss.length ≤ 9 ∧ (∀ s ∈ ss, 1 ≤ s ∧ s ≤ 9) ∧ Gives H (pof ss r) Q
theorem scParts : FnScope ["sizes", "rest", "part", "found"] ["sizes", "rest"] (defScope sPartsOf) := ⟨rfl, rfl, rfl, by decide +kernel, rfl, by decide +kernel, by decide +kernel⟩
abbrev LParts (K : PySem.W.Frag) (mg : Str → Option Value) := Fn K mg "parts_of" sPartsOf ["sizes", "rest"]
theorem cut_tail (s : Int) (ss : List Int) : cutV ((s :: ss).map V.int) (some 1) none = ss.map V.int := by
  unfold cutV
  have e1 : HT.sIx ((s :: ss).map V.int).length 0 (some 1) = min 1 ((s :: ss).map V.int).length := HT.sIx_nat _ 0 1
  rw [e1, HT.sIx_none, List.length_map, List.length_cons, show min 1 (ss.length + 1) = 1 by omega]
  show (ss.map V.int).take (ss.length + 1 - 1) = ss.map V.int
  exact List.take_of_length_le (by rw [List.length_map]; omega)
theorem parts0 (L : LParts K mg) : FnOk P w K mg base CX0 0 L.f L.fd ["sizes", "rest"] (spParts 0) := by
  have no : ∀ vs H Q E, ¬ spParts 0 vs H Q E := fun vs H Q E h => by
    obtain ⟨p, ss, r, _, _, h1, _⟩ := h
    omega
  exact ⟨fun vs H Q E h => absurd h (no vs H Q E), fun A outer s H args us vs Q E _ _ _ _ h => absurd h (no vs H Q E)⟩
theorem partsS (L : LParts K mg) (B : Bi mg) {n : Nat} (G : FnOk P w K mg base CX0 n L.f L.fd ["sizes", "rest"] (spParts n)) : FnOk P w K mg base CX0 (n + 1) L.f L.fd ["sizes", "rest"] (spParts (n + 1)) := by
  refine L.F.ok scParts (fun vs H Q E h => ?_) (fun cdv A outer s H vs Q E hr h => ?_)
  · obtain ⟨p, ss, r, rfl, _⟩ := h
    rfl
  · obtain ⟨p, ss, r, rfl, hp, hn, h9, hb, k⟩ := h
    refine ⟨_, pss_cons (ps_if (pt_cmpR (op_eqI hr.units) (pv 0) (pe_lst pa_nil) (nomark _)) (pss_one (ps_ret (pe_ifExp (pt_cmpR op_eq (pv 1) pe_int (nomark _)) (pe_lst pa_nil) pe_non))) pss_nil)
      (pss_cons (ps_for PassesOwn.never rfl (pi_range3 (by rfl) B.range (pa_cons (pe_ix ix_list (pv 0) pe_int (fun _ _ => rfl)) (pa_cons pe_int (pa_cons (pe_un un_neg pe_int) pa_nil)))) (pg_name (i := 2) scParts.nd rfl (.inl rfl))
        (pss_one (ps_if (pt_cmpR op_eq (pe_op op_mod (pv 1) (pv 2)) pe_int (nomark _))
          (pss_cons (ps_set (i := 3) scParts.nd rfl (.inl rfl) (pe_fn L G hr (pa_cons (pe_slice sl_list (pv 0) (po_some pe_int) po_none) (pa_cons (pe_op op_fdiv (pv 1) (pv 2)) pa_nil))))
            (pss_one (ps_if (pt_cmpR op_notN (pv 3) pe_non (nomark _)) (pss_one (ps_ret (pe_op op_cat (pe_lst (pa_cons (pv 2) pa_nil)) (pv 3)))) pss_nil))) pss_nil)))
      (pss_one (ps_ret pe_non))), ?_⟩
    refine ⟨_, rfl, Nat.zero_le _, fun l nl => ⟨p, l, ss, [], rfl, rfl, SqL.of (same_upd nl _ _ hp), SqL.of upd_same, _, rfl, ?_⟩⟩
    have sl : Same H (upd H l (.lst [])) := same_upd nl
    cases ss with
    | nil =>
      refine iteT ⟨_, rfl, rfl, _, rfl, ite2 (fun e => ?_) (fun e => ?_)⟩
      · have e : r = 1 := V.int.inj (of_decide_eq_true e)
        have o : pof [] r = some [] := by
          unfold pof
          rw [if_pos e]
        exact ⟨Nat.zero_le _, fun l2 n2 => k.2 [] o _ l2 (sl.trans (same_upd n2)) upd_same⟩
      · have e : ¬ r = 1 := fun z => e (decide_eq_true (congrArg V.int z))
        have o : pof [] r = none := by
          unfold pof
          rw [if_neg e]
        exact k.1 o _ sl
    | cons z ss =>
      have bz := hb z List.mem_cons_self
      refine iteF ?_
      refine ⟨_, rfl, p, _, 0, .int z, rfl, rfl, SqL.of (sl _ _ hp), atI_nat (j := 0) rfl, _, rfl, z, 0, -1, (z - 0).toNat, rfl, RgC.neg (by omega) (by omega) (by omega) (by omega), ?_⟩
      refine for_it (walk_rangeC (lo := z) (c := -1) (n := (z - 0).toNat)) (fun i σ H' => Same H H' ∧ pofL (pof ss) r z.toNat = pofL (pof ss) r (z.toNat - i) ∧ ∃ a b, σ = [some (.ref p), some (.int r), a, b])
        ⟨sl, rfl, none, none, rfl⟩ (fun _ _ _ _ _ => trivial) ?_ ?_
      · rintro i x σ H1 H2 hi ⟨sm, eqn, a, b, rfl⟩ ⟨rfl, rfl⟩
        obtain ⟨m, hm⟩ : ∃ m : Nat, z.toNat - i = m + 1 := ⟨z.toNat - i - 1, by omega⟩
        have hm2 : z.toNat - (i + 1) = m := by omega
        have part : z + (i : Int) * -1 = (m : Int) + 1 := by omega
        rw [hm] at eqn
        show gName 2 (.int (z + (i : Int) * -1)) _ _ _
        rw [part]
        have posm : (0 : Int) < (m : Int) + 1 := by omega
        refine ⟨_, rfl, _, rfl, r, (m : Int) + 1, rfl, rfl, posm, rfl, _, rfl, ite2 (fun e => ?_) (fun e => ?_)⟩
        · have e : r % ((m : Int) + 1) = 0 := V.int.inj (of_decide_eq_true e)
          refine ⟨_, rfl, 1, rfl, p, _, rfl, SqL.of (sm _ _ hp), fun l2 n2 => ?_⟩
          rw [cut_tail]
          have s2 : Same H (upd H2 l2 (.lst (ss.map V.int))) := sm.trans (same_upd n2)
          refine ⟨_, rfl, _, rfl, r, (m : Int) + 1, rfl, rfl, ⟨posm, by omega⟩, l2, ss, r / ((m : Int) + 1), rfl, upd_same, by simp only [List.length_cons] at hn; omega, by simp only [List.length_cons] at h9; omega,
            fun s hs => hb s (List.mem_cons_of_mem _ hs), fun o H3 s3 => ?_, fun l3 o H3 q3 s3 hq => ?_⟩
          · refine ⟨_, rfl, rfl, _, rfl, iteF ⟨s2.trans s3, ?_, _, _, rfl⟩⟩
            rw [hm2, eqn]
            exact pofL_lost e o
          · refine ⟨_, rfl, rfl, _, rfl, iteT ⟨_, rfl, by show 1 ≤ sizeLine; decide, fun l4 n4 => ⟨_, rfl, l4, q3, _, _, rfl, rfl, upd_same, same_upd n4 _ _ hq, ?_, fun p5 n5 => ?_⟩⟩⟩
            · have lp := (pof_some o).1.1
              rw [List.length_map, lp]
              simp only [List.length_cons] at h9
              exact Nat.le_trans (show 1 + ss.length ≤ 10 by omega) (by decide)
            · refine k.2 (((m : Int) + 1) :: l3) ?_ _ p5 ((s2.trans s3).trans ((same_upd n4).trans (same_upd n5))) upd_same
              show pofL (pof ss) r z.toNat = _
              rw [eqn]
              exact pofL_found e o
        · have e : ¬ r % ((m : Int) + 1) = 0 := fun q => e (decide_eq_true (congrArg V.int q))
          refine ⟨sm, ?_, _, _, rfl⟩
          rw [hm2, eqn]
          exact pofL_miss e
      · rintro σ H1 ⟨sm, eqn, a, b, rfl⟩
        refine k.1 ?_ H1 sm
        show pofL (pof ss) r z.toNat = none
        rw [eqn, show z.toNat - (z - 0).toNat = 0 by omega]
        rfl
theorem ok_parts (L : LParts K mg) (B : Bi mg) : ∀ n : Nat, FnOk P w K mg base CX0 n L.f L.fd ["sizes", "rest"] (spParts n)
  | 0 => parts0 L
  | n + 1 => partsS L B (ok_parts L B n)

/-! ### wished -/
def spWished : Sp := fun vs H Q _ => ∃ (t : Addr) (ns : Nst) (c : Int), vs = [.ref t, .int c] ∧ NestAt H t ns ∧ Gives H (wishO ns c) Q
theorem scWished : FnScope ["nest", "count", "whole"] ["nest", "count"] (defScope sWished) := ⟨rfl, rfl, rfl, by decide +kernel, rfl, by decide +kernel, by decide +kernel⟩
abbrev LWished (K : PySem.W.Frag) (mg : Str → Option Value) := Fn K mg "wished" sWished ["nest", "count"]
theorem ok_wished (L : LWished K mg) (B : Bi mg) (LM : LMixingsIn K mg) (LS : LSizesIn K mg) (LP : LProduct K mg) (LA : LParts K mg) : FnOk P w K mg base CX0 11 L.f L.fd ["nest", "count"] spWished := by
  refine L.F.ok scWished (fun vs H Q E h => ?_) (fun cdv A outer s H vs Q E hr h => ?_)
  · obtain ⟨t, ns, c, rfl, _⟩ := h
    rfl
  · obtain ⟨t, ns, c, rfl, hN, k⟩ := h
    refine ⟨_, pss_cons (ps_set (i := 2) scWished.nd rfl (.inl rfl) (pe_fn LM (ok_mixingsIn LM B LS LP) (hr.mono (by decide)) (pa_cons (pv 0) pa_nil)))
      (pss_one (ps_ret (pe_ifExp (pt_cmpR op_eq (pe_op op_mod (pv 1) (pv 2)) pe_int (nomark _))
        (pe_fn LA (ok_parts LA B 10) hr (pa_cons (pe_fn LS (ok_sizesIn LS B) (hr.mono (by decide)) (pa_cons (pv 0) pa_nil)) (pa_cons (pe_op op_fdiv (pv 1) (pv 2)) pa_nil))) pe_non))), ?_⟩
    have wp := whole_pos hN.2
    have lS := szs_length ns
    have few := hN.2.2.1
    refine ⟨_, rfl, t, ns, rfl, hN, fun H1 s1 => ?_⟩
    refine ⟨_, rfl, _, rfl, c, whole ns, rfl, rfl, by omega, rfl, _, rfl, ite2 (fun e => ?_) (fun e => ?_)⟩
    · have e : c % whole ns = 0 := V.int.inj (of_decide_eq_true e)
      have o : wishO ns c = pof (szs ns) (c / whole ns) := by
        unfold wishO
        rw [if_pos e]
      rw [o] at k
      refine ⟨_, rfl, t, ns, rfl, hN.same s1, fun H2 p s2 hp => ⟨_, rfl, _, rfl, c, whole ns, rfl, rfl, ⟨by omega, by omega⟩, p, szs ns, c / whole ns, rfl, hp, by omega, by omega, fun s hs => szs_mem hN.2 hs, k.after (s1.trans s2)⟩⟩
    · have e : ¬ c % whole ns = 0 := fun q => e (decide_eq_true (congrArg V.int q))
      have o : wishO ns c = none := by
        unfold wishO
        rw [if_neg e]
      exact k.1 o H1 s1

/-! ### numbers_with -/
def spNumbersWith : Sp := fun vs H Q _ => ∃ (t : Addr) (ns : Nst) (c : Int), vs = [.ref t, .int c] ∧ NestAt H t ns ∧ 1 ≤ c ∧ c ≤ 1000000 ∧ (wishO ns c = none → ∀ H', Same H H' → Q .non H') ∧
  ∀ l, wishO ns c = some l → ∀ H' q, Same H H' → TupsAt H' q (l.map fun p => Itm.tup (rg 0 p)) → Q (.ref q) H'
theorem scNumbersWith : FnScope ["nest", "count", "found", "part"] ["nest", "count"] (defScope sNumbersWith) := ⟨rfl, rfl, rfl, by decide +kernel, rfl, by decide +kernel, by decide +kernel⟩
abbrev LNumbersWith (K : PySem.W.Frag) (mg : Str → Option Value) := Fn K mg "numbers_with" sNumbersWith ["nest", "count"]
theorem Rows.put {H : Hp} {D : Addr} {o : HO} : ∀ {as : List Addr} {its : List Itm}, (∀ c ∈ as, c ≠ D) → Rows H as its → Rows (upd H D o) as its
  | _, _, _, .nil => .nil
  | _, _, h, .cons q t => .cons (by rw [upd_ne (h _ List.mem_cons_self)]; exact q) (Rows.put (fun c hc => h c (List.mem_cons_of_mem _ hc)) t)
theorem ok_numbersWith (L : LNumbersWith K mg) (B : Bi mg) (LI : LIsIn K mg) (LN : LNeedNest K mg) (LC : LNeedCount K mg) (LW : LWished K mg) (LM : LMixingsIn K mg) (LS : LSizesIn K mg) (LP : LProduct K mg) (LA : LParts K mg) :
    FnOk P w K mg base CX0 12 L.f L.fd ["nest", "count"] spNumbersWith := by
  refine L.F.ok scNumbersWith (fun vs H Q E h => ?_) (fun cdv A outer s H vs Q E hr h => ?_)
  · obtain ⟨t, ns, c, rfl, _⟩ := h
    rfl
  · obtain ⟨t, ns, c, rfl, hN, c1, c2, k1, k2⟩ := h
    refine ⟨_, pss_cons (ps_expr (pe_fn LN (ok_needNest LN B LI) (hr.mono (by decide)) (pa_cons (pv 0) pa_nil)))
      (pss_cons (ps_expr (pe_fn LC (ok_needCount LC B LI) (hr.mono (by decide)) (pa_cons (pv 1) pa_nil)))
      (pss_cons (ps_set (i := 2) scNumbersWith.nd rfl (.inl rfl) (pe_fn LW (ok_wished LW B LM LS LP LA) hr (pa_cons (pv 0) (pa_cons (pv 1) pa_nil))))
      (pss_one (ps_ret (pe_ifExp (pt_cmpR op_isN (pv 2) pe_non (nomark _)) pe_non
        (pe_callTy call_tuple_of (by rfl) B.tuple boot_tuple (pa_cons (pe_lc (own := [("part", 3)]) (g := gName 3) (tt := tYes) rfl scNumbersWith.nd (pi_list (pv 2))
          (blkOk_by (own := [("part", 3)]) (N := ["nest", "count", "found", "part"]) (sc := defScope sNumbersWith) (by decide +kernel)) (fun _ _ _ _ _ => pg_name (i := 3) scNumbersWith.nd rfl (Or.inl rfl)) (fun _ _ _ _ _ => pts_nil)
          (fun _ _ _ _ _ => pe_tupRg rfl (by rfl) B.tuple (prg_1 (by rfl) B.range (pv 3)))) pa_nil))))))), ?_⟩
    have few := hN.2.2.1
    refine ⟨_, rfl, t, ns, rfl, hN, fun H1 s1 => ?_⟩
    refine ⟨_, rfl, c, rfl, c1, c2, ?_⟩
    refine ⟨_, rfl, _, rfl, t, ns, c, rfl, hN.same s1, fun o H2 s2 => ?_, fun l o H2 q s2 hq => ?_⟩
    · exact ⟨_, rfl, rfl, _, rfl, iteT (k1 o H2 (s1.trans s2))⟩
    · obtain ⟨⟨lp, bp⟩, _⟩ := wishO_some o
      have lS := szs_length ns
      refine ⟨_, rfl, rfl, _, rfl, iteF ⟨_, rfl, q, rfl, ⟨_, SqL.of hq⟩, fun D nD => ?_⟩⟩
      refine lc_list (K := K) (a := q) (xs := l.map V.int) (fun i H' => Same H2 H' ∧ ∃ cs : List Addr, H' D = some (.lst (cs.map V.ref)) ∧ (∀ c ∈ cs, c ≠ D) ∧ Rows H' cs ((l.take i).map fun p => Itm.tup (rg 0 p)))
        ⟨same_upd nD, [], upd_same, (fun c hc => nomatch hc), .nil⟩ (fun i H' _ h => SqL.of (h.1 _ _ hq)) ?_ ?_
      · rintro i x H' hx ⟨sm, cs, hD, ne, rows⟩
        obtain ⟨z, gz, rfl⟩ := int_at hx
        have lt : i < l.length := (List.getElem?_eq_some_iff.mp gz).1
        have gs : (szs ns)[i]? = some (szs ns)[i] := List.getElem?_eq_getElem (by omega)
        have b := bp i z _ gz gs
        have b9 := szs_mem hN.2 (List.mem_of_getElem? gs)
        refine ⟨rfl, tyes ⟨_, rfl, z, rfl, RgOk.of_le (by omega) (by omega) (by omega) (by omega), fun T nT => ?_⟩⟩
        have nTD : T ≠ D := fun e => by
          rw [e, hD] at nT
          cases nT
        have sT : Same H' (upd H' T (.tup (rgV 0 z))) := same_upd nT
        refine ⟨_, sT _ _ hD, ?_, Same.put (sm.trans sT) nD, cs ++ [T], ?_, ?_, ?_⟩
        · rw [List.length_map, rows.length, List.length_map, List.length_take]
          exact small1000 (by omega)
        · rw [upd_same, List.map_append]
          rfl
        · intro c' hc'
          rcases List.mem_append.mp hc' with m | m
          · exact ne c' m
          · rw [List.mem_singleton.mp m]
            exact nTD
        · rw [List.take_add_one, gz, List.map_append]
          refine Rows.append (Rows.put ne (rows.same sT)) (.cons ?_ .nil)
          rw [upd_ne nTD, upd_same, rgV_eq]
          rfl
      · rintro H' ⟨sm, cs, hD, ne, rows⟩
        rw [List.length_map, List.take_length] at rows
        refine ⟨D, _, rfl, .inl ⟨SqL.of hD, fun T nT => ?_⟩⟩
        have sT : Same H' (upd H' T (.tup (cs.map V.ref))) := same_upd nT
        exact k2 l o _ T (s1.trans (s2.trans (sm.trans sT))) ⟨cs, upd_same, rows.same sT⟩
end
end Cd

set_option maxRecDepth 100000
set_option maxHeartbeats 4000000
/-! The walk of shows_numbers_with. -/
namespace Cd
open PySem PySem.Spec PyProof.Rows L2

/-! ### a value that is judged -/
inductive Va where
  | non
  | tups (its : List Itm)
  | oth
def VaAt (H : Hp) (x : V) : Va → Prop
  | .non => x = .non
  | .tups its => ∃ q, x = .ref q ∧ TupsAt H q its
  | .oth => (∃ i, x = .int i) ∨ (∃ a xs, x = .ref a ∧ H a = some (.lst xs)) ∨ ∃ a kvs, x = .ref a ∧ H a = some (.dK kvs)
theorem VaAt.same {H H' : Hp} {x : V} {va : Va} (h : VaAt H x va) (s : Same H H') : VaAt H' x va := by
  cases va with
  | non => exact h
  | tups its =>
    obtain ⟨q, e, t⟩ := h
    exact ⟨q, e, t.same s⟩
  | oth =>
    rcases h with h | ⟨a, xs, e, h⟩ | ⟨a, kvs, e, h⟩
    · exact .inl h
    · exact .inr (.inl ⟨a, xs, e, s _ _ h⟩)
    · exact .inr (.inr ⟨a, kvs, e, s _ _ h⟩)
def Va.short : Va → Prop
  | .tups its => its.length ≤ 100 ∧ ∀ it ∈ its, it.len ≤ 100
  | _ => True
/-- the ints of an item -/
def Itm.ints : Itm → List Int
  | .tup ns => ns
  | .lst ns => ns
/-- each item's ints are less than its size -/
def belowB : List Itm → List Int → Bool
  | it :: its, s :: ss => it.ints.all (fun x => decide (x < s)) && belowB its ss
  | _, _ => true
theorem belowB_iff : ∀ {its : List Itm} {ss : List Int}, belowB its ss = true ↔ ∀ (i : Nat) (it : Itm) (s : Int), its[i]? = some it → ss[i]? = some s → ∀ x ∈ it.ints, x < s
  | [], ss => by simp [belowB]
  | _ :: _, [] => by simp [belowB]
  | it :: its, s :: ss => by
    unfold belowB
    rw [Bool.and_eq_true, List.all_eq_true, belowB_iff]
    constructor
    · rintro ⟨h1, h2⟩ i it' s' e1 e2
      cases i with
      | zero =>
        cases e1
        cases e2
        exact fun x hx => of_decide_eq_true (h1 x hx)
      | succ i => exact h2 i it' s' (by simpa using e1) (by simpa using e2)
    · intro h
      exact ⟨fun x hx => decide_eq_true (h 0 it s rfl rfl x hx), fun i it' s' e1 e2 => h (i + 1) it' s' (by simpa using e1) (by simpa using e2)⟩
def lensI (its : List Itm) : List Int := its.map fun it => (it.len : Int)
def showsB (ns : Nst) (c : Int) : Va → Bool
  | .non => (wishO ns c).isNone
  | .oth => false
  | .tups its => decide (its.length = ns.length) && its.all Itm.set && belowB its (szs ns) && decide (whole ns * pr (lensI its) = c)
theorem set_tup : ∀ {it : Itm}, it.set = true → ∃ r, it = .tup r ∧ isSetB r = true
  | .tup r, h => ⟨r, rfl, h⟩
  | .lst _, h => nomatch h
theorem filtI_take {f : Itm → Bool} {its : List Itm} {i : Nat} {x : Itm} (h : its[i]? = some x) : (its.take (i + 1)).filter f = (its.take i).filter f ++ (if f x = true then [x] else []) := by
  rw [List.take_add_one, h, List.filter_append]
  congr 1
  cases hf : f x <;> simp [hf]

section
variable {P : Program} {w : World} {K : PySem.W.Frag} {mg : Str → Option Value} {base : Heap}
def spShows : Sp := fun vs H Q _ => ∃ (t : Addr) (ns : Nst) (c : Int) (x : V) (va : Va), vs = [.ref t, .int c, x] ∧ NestAt H t ns ∧ 1 ≤ c ∧ c ≤ 1000000 ∧ VaAt H x va ∧ va.short ∧ ∀ H', Same H H' → Q (.bl (showsB ns c va)) H'
theorem scShows : FnScope ["nest", "count", "value", "one", "k", "size", "x"] ["nest", "count", "value"] (defScope sShows) := ⟨rfl, rfl, rfl, by decide +kernel, rfl, by decide +kernel, by decide +kernel⟩
abbrev LShows (K : PySem.W.Frag) (mg : Str → Option Value) := Fn K mg "shows_numbers_with" sShows ["nest", "count", "value"]
/-- the names of the comprehension over enumerate -/
def showScope : Scope := { kind := .function, names := [(".0", .local), ("k", .local), ("size", .cell), ("value", .free)], isGenerator := false, isCoroutine := false }
theorem ok_shows (L : LShows K mg) (B : Bi mg) (LI : LIsIn K mg) (LN : LNeedNest K mg) (LC : LNeedCount K mg) (LT : LIsSet K mg) (LW : LWished K mg) (LM : LMixingsIn K mg) (LS : LSizesIn K mg) (LP : LProduct K mg) (LA : LParts K mg) :
    FnOk P w K mg base CX0 12 L.f L.fd ["nest", "count", "value"] spShows := by
  refine L.F.ok scShows (fun vs H Q E h => ?_) (fun cdv A outer s H vs Q E hr h => ?_)
  · obtain ⟨t, ns, c, x, va, rfl, _⟩ := h
    rfl
  · obtain ⟨t, ns, c, x, va, rfl, hN, c1, c2, hV, sh, k⟩ := h
    refine ⟨_, pss_cons (ps_expr (pe_fn LN (ok_needNest LN B LI) (hr.mono (by decide)) (pa_cons (pv 0) pa_nil)))
      (pss_cons (ps_expr (pe_fn LC (ok_needCount LC B LI) (hr.mono (by decide)) (pa_cons (pv 1) pa_nil)))
      (pss_cons (ps_if (pt_cmpR op_isN (pv 2) pe_non (nomark _)) (pss_one (ps_ret (pe_cmpR op_isN (pe_fn LW (ok_wished LW B LM LS LP LA) hr (pa_cons (pv 0) (pa_cons (pv 1) pa_nil))) pe_non (nomark _)))) pss_nil)
      (pss_cons (ps_if (PW.pt (pw_or (pt_not (pt_val (pe_isi (pv 2) B boot_tuple B.tuple)))
          (pw_or (pt_cmpR op_ne (pe_callB call_len_seq (by rfl) B.len PySem.boot_len (pa_cons (pv 2) pa_nil)) (pe_callB call_len_seq (by rfl) B.len PySem.boot_len (pa_cons (pv 0) pa_nil)) (nomark _))
          (pw_or1 (pt_cmpR (op_neNil hr.units) (pe_lc (own := [("one", 3)]) (g := gName 3) rfl scShows.nd (pi_tup (pv 2)) (blkOk_by (own := [("one", 3)]) (N := ["nest", "count", "value", "one", "k", "size", "x"]) (sc := defScope sShows) (by decide +kernel))
            (fun _ _ _ _ _ => pg_name (i := 3) scShows.nd rfl (Or.inl rfl)) (fun _ _ _ _ _ => pts_one (pt_not (pt_val (pe_fn LT (ok_isSet LT B LI) (hr.mono (by decide)) (pa_cons (pv 3) pa_nil))))) (fun _ _ _ _ _ => pv 3)) (pe_lst pa_nil) (nomark _))))))
          (pss_one (ps_ret pe_bl)) pss_nil)
      (pss_cons (ps_if (pt_cmpR (op_neI hr.units) (pe_lc (own := [("k", 4), ("size", 5)]) (g := gTup K 2 (gCons (gName 4) (gCons (gName 5) gNil)))
          (tt := tTest (tOp (rEqI K true) (tLc (iTup K (tOp (rIxT K) (tVar 2) (tVar 4))) (gName 6) (tTest (tOp (rI0 fun i j => .bl (decide (j ≤ i))) (tVar 6) (tVar 5))) (tVar 6) [6]) (tLst tNil))) (te := tVar 4)
          rfl scShows.nd (pi_enum (by rfl) B.enumerate (pa_cons (pe_fn LS (ok_sizesIn LS B) (hr.mono (by decide)) (pa_cons (pv 0) pa_nil)) pa_nil))
          (blkOk_by (own := [("k", 4), ("size", 5)]) (N := ["nest", "count", "value", "one", "k", "size", "x"]) (sc := defScope sShows) (by decide +kernel))
          (fun _ _ _ _ _ => pg_tup rfl (pgs_cons (pg_name (i := 4) scShows.nd rfl (Or.inl rfl)) (pgs_cons (pg_name (i := 5) scShows.nd rfl (Or.inr rfl)) pgs_nil)))
          (fun _ _ _ _ _ => pts_one (pt_cmpR (op_neI hr.units) (pe_lc (own := [("x", 6)]) (g := gName 6) rfl scShows.nd (pi_tup (pe_ix ix_tup (pv 2) (pv 4) (fun _ _ => rfl)))
              (blkOk_by (own := [("x", 6)]) (N := ["nest", "count", "value", "one", "k", "size", "x"]) (sc := relS showScope (defScope sShows)) (by decide +kernel))
              (fun _ _ _ _ _ => pg_name (i := 6) scShows.nd rfl (Or.inl rfl)) (fun _ _ _ _ _ => pts_one (pt_cmpR op_ge (pv 6) (pv 5) (nomark _))) (fun _ _ _ _ _ => pv 6)) (pe_lst pa_nil) (nomark _)))
          (fun _ _ _ _ _ => pv 4)) (pe_lst pa_nil) (nomark _)) (pss_one (ps_ret pe_bl)) pss_nil)
      (pss_one (ps_ret (pe_cmpR op_eq (pe_op op_mul (pe_fn LM (ok_mixingsIn LM B LS LP) (hr.mono (by decide)) (pa_cons (pv 0) pa_nil))
        (pe_fn LP (ok_product LP) (hr.mono (by decide)) (pa_cons (pe_lc (own := [("one", 3)]) (g := gName 3) (tt := tYes) rfl scShows.nd (pi_tup (pv 2))
          (blkOk_by (own := [("one", 3)]) (N := ["nest", "count", "value", "one", "k", "size", "x"]) (sc := defScope sShows) (by decide +kernel)) (fun _ _ _ _ _ => pg_name (i := 3) scShows.nd rfl (Or.inl rfl)) (fun _ _ _ _ _ => pts_nil)
          (te := tCB (fun xs H Q => ∃ p ys, xs = [.ref p] ∧ (SqL K H p ys ∨ SqT K H p ys) ∧ Q (.int ys.length) H) (tCons (tVar 3) tNil))
          (fun _ _ _ _ _ => pe_callB call_len_seq (by rfl) B.len PySem.boot_len (pa_cons (pv 3) pa_nil))) pa_nil))) (pv 1) (nomark _)))))))), ?_⟩
    have few := hN.2.2.1
    have lS := szs_length ns
    refine ⟨_, rfl, t, ns, rfl, hN, fun H1 s1 => ?_⟩
    refine ⟨_, rfl, c, rfl, c1, c2, ?_⟩
    have hV1 := hV.same s1
    have hN1 := hN.same s1
    cases va with
    | non =>
      cases (show x = V.non from hV)
      refine ⟨_, rfl, rfl, _, rfl, iteT ?_⟩
      refine ⟨_, rfl, _, rfl, t, ns, c, rfl, hN1, fun o H2 s2 => ⟨rfl, ?_⟩, fun l o H2 q s2 hq => ⟨rfl, ?_⟩⟩
      · have e : showsB ns c .non = true := by
          show (wishO ns c).isNone = true
          rw [o]
          rfl
        have q := k H2 (s1.trans s2)
        rw [e] at q
        exact q
      · have e : showsB ns c .non = false := by
          show (wishO ns c).isNone = false
          rw [o]
          rfl
        have q := k H2 (s1.trans s2)
        rw [e] at q
        exact q
    | oth =>
      obtain ⟨nn, tn, ty, kb⟩ : x ≠ .non ∧ ∃ tn, TyX K H1 x (.type tn) ∧ kitB tn "tuple" = some false := by
        rcases hV1 with ⟨i, rfl⟩ | ⟨a, xs, rfl, h⟩ | ⟨a, kvs, rfl, h⟩
        · exact ⟨fun z => (nomatch z), "int", ty_int, k_it⟩
        · exact ⟨fun z => (nomatch z), "list", ty_lst h, k_lt⟩
        · exact ⟨fun z => (nomatch z), "dict", ty_dK h, k_dt⟩
      refine ⟨_, rfl, rfl, _, rfl, ?_⟩
      rw [decide_eq_false nn]
      refine iteF ⟨_, rfl, _, tn, false, rfl, ty, kb, false, rfl, iteT (iteT ?_)⟩
      exact k H1 s1
    | tups its =>
      obtain ⟨q, rfl, as, hq, rows⟩ := hV1
      obtain ⟨shL, shI⟩ := sh
      have lenA : (as.map V.ref).length = its.length := by rw [List.length_map, rows.length]
      have lenN : (ns.map nv).length = ns.length := List.length_map ..
      refine ⟨_, rfl, rfl, _, rfl, ?_⟩
      rw [decide_eq_false (show ¬ V.ref q = V.non from fun z => nomatch z)]
      refine iteF ⟨_, rfl, _, "tuple", true, rfl, ty_tup hq, k_tt, true, rfl, iteF ?_⟩
      refine ⟨_, rfl, q, _, rfl, .inr (SqT.of hq), _, rfl, t, _, rfl, .inr (SqT.of hN1.1), rfl, _, rfl, ?_⟩
      rw [lenA, lenN]
      by_cases hl : its.length = ns.length
      · rw [hl, decide_eq_true (show V.int ((ns.length : Nat) : Int) = V.int ((ns.length : Nat) : Int) from rfl)]
        refine iteF ?_
        -- the items that are no sets
        refine ⟨_, rfl, q, rfl, ⟨_, SqT.of hq⟩, fun D nD => ?_⟩
        refine lc_tup (K := K) (a := q) (xs := as.map V.ref) (fun i H' => Same H1 H' ∧ ∃ cs : List Addr, H' D = some (.lst (cs.map V.ref)) ∧ Rows H1 cs ((its.take i).filter fun it => !it.set))
          ⟨same_upd nD, [], upd_same, .nil⟩ (fun i H' _ h => SqT.of (h.1 _ _ hq)) ?_ ?_
        · rintro i y H' hy ⟨sm, cs, hD, rw'⟩
          have lt : i < its.length := by
            have := (List.getElem?_eq_some_iff.mp hy).1
            omega
          have gi := List.getElem?_eq_getElem lt
          obtain ⟨a, ha, har⟩ := rows.get gi
          rw [List.getElem?_map, ha] at hy
          cases hy
          have st := filtI_take (f := fun it => !it.set) gi
          refine ⟨rfl, _, rfl, a, its[i], rfl, sm _ _ har, Nat.le_trans (shI _ (List.getElem_mem lt)) (by decide), fun H2 s2 => ⟨_, rfl, ite2 (fun e => ?_) (fun e => ?_)⟩⟩
          · refine ⟨_, rfl, _, s2 _ _ hD, ?_, Same.put (sm.trans s2) nD, cs ++ [a], ?_, ?_⟩
            · have h1 := List.length_filter_le (fun it => !it.set) (its.take i)
              rw [List.length_take] at h1
              rw [List.length_map, rw'.length]
              exact small1000 (by omega)
            · rw [upd_same, List.map_append]
              rfl
            · rw [st, if_pos e]
              exact Rows.append rw' (.cons har .nil)
          · refine ⟨sm.trans s2, cs, s2 _ _ hD, ?_⟩
            rw [st, if_neg e, List.append_nil]
            exact rw'
        · rintro H2 ⟨s2, cs, hD, rw'⟩
          rw [lenA, List.take_length] at rw'
          refine ⟨Nat.zero_le _, fun l nl => ⟨D, l, cs, _, rfl, rfl, SqL.of (same_upd nl _ _ hD), (rw'.same s2).same (same_upd nl), SqL.of upd_same, _, rfl, ?_⟩⟩
          have sl : Same H (upd H2 l (.lst [])) := (s1.trans s2).trans (same_upd nl)
          refine ite2 (fun e => ?_) (fun e => ?_)
          · -- one is none
            have q := k _ sl
            have no : showsB ns c (.tups its) = false := by
              have e : (!(its.filter fun it => !it.set).isEmpty) = true := e
              rw [Bool.not_eq_true', List.isEmpty_eq_false_iff] at e
              obtain ⟨it, hit⟩ := List.exists_mem_of_ne_nil _ e
              obtain ⟨m1, m2⟩ := List.mem_filter.mp hit
              have bad : its.all Itm.set = false := by
                rw [List.all_eq_false]
                refine ⟨it, m1, fun z => ?_⟩
                rw [z] at m2
                cases m2
              show (decide (its.length = ns.length) && its.all Itm.set && belowB its (szs ns) && decide (whole ns * pr (lensI its) = c)) = false
              rw [bad, Bool.and_false, Bool.false_and, Bool.false_and]
            rw [no] at q
            exact q
          · have e : (!(its.filter fun it => !it.set).isEmpty) = false := Bool.eq_false_iff.mpr e
            rw [Bool.not_eq_false', List.isEmpty_iff] at e
            have sets : ∀ it ∈ its, it.set = true := fun it hit => by
              have := List.filter_eq_nil_iff.mp e it hit
              simpa using this
            have allS : its.all Itm.set = true := List.all_eq_true.mpr sets
            have qU : upd H2 l (.lst []) q = some (.tup (as.map V.ref)) := same_upd nl _ _ (s2 _ _ hq)
            have rowsU : Rows (upd H2 l (.lst [])) as its := (rows.same s2).same (same_upd nl)
            -- the places of those with an int that is not less
            refine ⟨_, rfl, t, ns, rfl, hN.same sl, fun H3 p s3 hp => ⟨p, _, rfl, SqL.of hp, fun D2 nD2 => ?_⟩⟩
            refine lc_it (walk_enum (K := K) (a := p) (xs := (szs ns).map V.int)) (fun i H' => Same H3 H' ∧ ∃ ds : List Int, H' D2 = some (.lst (ds.map V.int)) ∧ ds.length ≤ i ∧
                (ds = [] ↔ ∀ j, j < i → ∀ it s, its[j]? = some it → (szs ns)[j]? = some s → ∀ x ∈ it.ints, x < s))
              ⟨same_upd nD2, [], upd_same, Nat.le_refl _, ⟨fun _ j hj => absurd hj (Nat.not_lt_zero _), fun _ => rfl⟩⟩ (fun i H' _ h => SqL.of (h.1 _ _ hp)) ?_ ?_
            · rintro i y H' H4 hi ⟨sm, ds, hD2, dl, dI⟩ ⟨T, x1, x2, rfl, nT, rfl, e1, e2⟩
              cases e1
              have e2 : ((szs ns).map V.int)[i]? = some x2 := e2
              obtain ⟨z, gz, rfl⟩ := int_at e2
              have lt : i < its.length := by
                rw [List.length_map] at hi
                omega
              have gi := List.getElem?_eq_getElem lt
              obtain ⟨r, er, hr1⟩ := set_tup (sets _ (List.getElem_mem lt))
              obtain ⟨a, ha, har⟩ := rowsU.get gi
              have sT : Same H' (upd H' T (.tup [.int (i : Nat), .int z])) := same_upd nT
              have smT := sm.trans sT
              have ha2 : upd H' T (.tup [.int (i : Nat), .int z]) a = some (.tup (r.map V.int)) := by
                have h := smT _ _ (s3 _ _ har)
                rw [er] at h
                exact h
              have ga : (as.map V.ref)[i]? = some (.ref a) := by
                rw [List.getElem?_map, ha]
                rfl
              have shr : r.length ≤ 1000 := Nat.le_trans (isSet_len hr1) (by decide)
              refine ⟨T, _, rfl, SqT.of upd_same, rfl, _, _, rfl, _, _, rfl, rfl, rfl, ?_⟩
              refine ⟨_, rfl, _, rfl, q, _, (i : Int), .ref a, rfl, rfl, SqT.of (smT _ _ (s3 _ _ qU)), atI_nat ga, a, rfl, ⟨_, SqT.of ha2⟩, fun D3 n3 => ?_⟩
              refine lc_tup (K := K) (a := a) (xs := r.map V.int) (fun j H5 => Same (upd H' T (.tup [.int (i : Nat), .int z])) H5 ∧ H5 D3 = some (.lst (((r.take j).filter fun x => decide (z ≤ x)).map V.int)))
                ⟨same_upd n3, upd_same⟩ (fun j H5 _ h => SqT.of (h.1 _ _ ha2)) ?_ ?_
              · rintro j u H5 hu ⟨sm5, h5⟩
                obtain ⟨u, gu, rfl⟩ := int_at hu
                have st := filt_take (f := fun x => decide (z ≤ x)) gu
                refine ⟨rfl, _, rfl, _, rfl, u, z, rfl, rfl, _, rfl, ite2 (fun e => ?_) (fun e => ?_)⟩
                · refine ⟨_, rfl, _, h5, small_list shr, Same.put sm5 n3, ?_⟩
                  rw [upd_same, st, if_pos e, List.map_append]
                  rfl
                · refine ⟨sm5, ?_⟩
                  rw [st, if_neg e, List.append_nil]
                  exact h5
              · rintro H5 ⟨sm5, h5⟩
                rw [List.length_map, List.take_length] at h5
                refine ⟨Nat.zero_le _, fun l3 nl3 => ⟨D3, l3, _, [], rfl, rfl, SqL.of (same_upd nl3 _ _ h5), SqL.of upd_same, _, rfl, ?_⟩⟩
                have s6 : Same H' (upd H5 l3 (.lst [])) := sT.trans (sm5.trans (same_upd nl3))
                have turn : ∀ Z : Prop, (Z ↔ ∀ x ∈ r, x < z) → ((ds = [] ∧ Z) ↔ ∀ j, j < i + 1 → ∀ it s, its[j]? = some it → (szs ns)[j]? = some s → ∀ x ∈ it.ints, x < s) := fun Z hZ => by
                  rw [dI, hZ]
                  constructor
                  · rintro ⟨h1, h2⟩ j hj it s f1 f2
                    by_cases ej : j = i
                    · subst ej
                      rw [gi] at f1
                      cases f1
                      rw [gz] at f2
                      cases f2
                      rw [er]
                      exact h2
                    · exact h1 j (by omega) it s f1 f2
                  · intro h
                    refine ⟨fun j hj => h j (by omega), ?_⟩
                    have := h i (by omega) _ z gi gz
                    rw [er] at this
                    exact this
                refine ite2 (fun e => ?_) (fun e => ?_)
                · have e : (!decide (r.filter (fun x => decide (z ≤ x)) = [])) = true := e
                  rw [Bool.not_eq_true', decide_eq_false_iff_not] at e
                  refine ⟨_, rfl, _, s6 _ _ hD2, ?_, Same.put (sm.trans s6) nD2, ds ++ [(i : Int)], ?_, ?_, ?_⟩
                  · rw [List.length_map]
                    exact small1000 (by omega)
                  · rw [upd_same, List.map_append]
                    rfl
                  · rw [List.length_append, List.length_singleton]
                    omega
                  · rw [← turn False ?_]
                    · simp
                    · refine ⟨False.elim, fun h => e (List.filter_eq_nil_iff.mpr fun x hx => ?_)⟩
                      have := h x hx
                      simp
                      omega
                · have e : (!decide (r.filter (fun x => decide (z ≤ x)) = [])) = false := Bool.eq_false_iff.mpr e
                  rw [Bool.not_eq_false', decide_eq_true_eq] at e
                  refine ⟨sm.trans s6, ds, s6 _ _ hD2, by omega, ?_⟩
                  rw [← turn True ?_]
                  · simp
                  · refine ⟨fun _ x hx => ?_, fun _ => trivial⟩
                    have := List.filter_eq_nil_iff.mp e x hx
                    simp at this
                    omega
            · rintro H4 ⟨sm, ds, hD2, _, dI⟩
              rw [List.length_map] at dI
              refine ⟨Nat.zero_le _, fun l4 nl4 => ⟨D2, l4, ds, [], rfl, rfl, SqL.of (same_upd nl4 _ _ hD2), SqL.of upd_same, _, rfl, ?_⟩⟩
              have s5 : Same (upd H2 l (.lst [])) (upd H4 l4 (.lst [])) := s3.trans (sm.trans (same_upd nl4))
              have bel : belowB its (szs ns) = decide (ds = []) := by
                rw [Bool.eq_iff_iff, belowB_iff, decide_eq_true_eq, dI]
                constructor
                · exact fun h j _ => h j
                · exact fun h j it s f1 f2 => h j (by have := (List.getElem?_eq_some_iff.mp f2).1; exact this) it s f1 f2
              refine ite2 (fun e => ?_) (fun e => ?_)
              · have e : (!decide (ds = [])) = true := e
                rw [Bool.not_eq_true'] at e
                have q := k _ (sl.trans s5)
                have no : showsB ns c (.tups its) = false := by
                  show (decide (its.length = ns.length) && its.all Itm.set && belowB its (szs ns) && decide (whole ns * pr (lensI its) = c)) = false
                  rw [bel, e, Bool.and_false, Bool.false_and]
                rw [no] at q
                exact q
              · have e : (!decide (ds = [])) = false := Bool.eq_false_iff.mpr e
                rw [Bool.not_eq_false'] at e
                have yes : showsB ns c (.tups its) = decide (whole ns * pr (lensI its) = c) := by
                  show (decide (its.length = ns.length) && its.all Itm.set && belowB its (szs ns) && decide (whole ns * pr (lensI its) = c)) = _
                  rw [bel, e, allS, decide_eq_true hl]
                  rfl
                rw [yes] at k
                -- the product
                refine ⟨_, rfl, t, ns, rfl, hN.same (sl.trans s5), fun H6 s6 => ?_⟩
                have q6 := s6 _ _ (s5 _ _ qU)
                have rows6 := (rowsU.same s5).same s6
                refine ⟨_, rfl, q, rfl, ⟨_, SqT.of q6⟩, fun D5 nD5 => ?_⟩
                refine lc_tup (K := K) (a := q) (xs := as.map V.ref) (fun i H' => Same H6 H' ∧ H' D5 = some (.lst (((lensI its).take i).map V.int))) ⟨same_upd nD5, upd_same⟩ (fun i H' _ h => SqT.of (h.1 _ _ q6)) ?_ ?_
                · rintro i y H' hy ⟨sm7, hD5⟩
                  have lt : i < its.length := by
                    have := (List.getElem?_eq_some_iff.mp hy).1
                    omega
                  have gi := List.getElem?_eq_getElem lt
                  obtain ⟨a, ha, har⟩ := rows6.get gi
                  rw [List.getElem?_map, ha] at hy
                  cases hy
                  obtain ⟨r, er, hr1⟩ := set_tup (sets _ (List.getElem_mem lt))
                  have ha2 : H' a = some (.tup (r.map V.int)) := by
                    have h := sm7 _ _ har
                    rw [er] at h
                    exact h
                  have gl : (lensI its)[i]? = some (r.length : Int) := by
                    unfold lensI
                    rw [List.getElem?_map, gi, er]
                    rfl
                  have ll : (lensI its).length = its.length := List.length_map ..
                  refine ⟨rfl, tyes ⟨_, rfl, a, _, rfl, .inr (SqT.of ha2), _, hD5, ?_, Same.put sm7 nD5, ?_⟩⟩
                  · rw [List.length_map, List.length_take]
                    exact small1000 (by omega)
                  · rw [upd_same, List.take_add_one, gl, List.map_append, List.length_map]
                    rfl
                · rintro H7 ⟨sm7, hD5⟩
                  have ll : (lensI its).length = its.length := List.length_map ..
                  rw [lenA, ← ll, List.take_length] at hD5
                  refine ⟨D5, lensI its, rfl, hD5, fun x hx => ?_, whole ns, pr (lensI its), rfl, rfl, .inl ?_, _, rfl, rfl, ?_⟩
                  · obtain ⟨it, hit, rfl⟩ := List.mem_map.mp hx
                    obtain ⟨r, er, hr1⟩ := set_tup (sets it hit)
                    have := isSet_len hr1
                    rw [er]
                    show (0 : Int) ≤ (r.length : Int) ∧ (r.length : Int) ≤ 9
                    omega
                  · have := whole_pos hN.2
                    omega
                  · have q := k H7 ((sl.trans s5).trans (s6.trans sm7))
                    have ed : decide (V.int (whole ns * pr (lensI its)) = V.int c) = decide (whole ns * pr (lensI its) = c) := by
                      by_cases e : whole ns * pr (lensI its) = c
                      · rw [decide_eq_true e, e, decide_eq_true rfl]
                      · rw [decide_eq_false e, decide_eq_false fun z => e (V.int.inj z)]
                    show Q (.bl (decide (V.int (whole ns * pr (lensI its)) = V.int c))) H7
                    rw [ed]
                    exact q
      · rw [decide_eq_false (show ¬ V.int ((its.length : Nat) : Int) = V.int ((ns.length : Nat) : Int) from fun z => hl (by have := V.int.inj z; omega))]
        refine iteT (iteT ?_)
        have q := k H1 s1
        have no : showsB ns c (.tups its) = false := by
          show (decide (its.length = ns.length) && its.all Itm.set && belowB its (szs ns) && decide (whole ns * pr (lensI its) = c)) = false
          rw [decide_eq_false hl, Bool.false_and, Bool.false_and, Bool.false_and]
        rw [no] at q
        exact q
end
end Cd

set_option maxRecDepth 100000
set_option maxHeartbeats 4000000
/-! Walks of the law's helpers: draws, the nest, vectors, alike. -/
namespace Cd
open PySem PySem.Spec PyProof.Rows L2

/-- all but what stands at R is as it was -/
def But (R : Addr) (H H' : Hp) : Prop := ∀ b o, b ≠ R → H b = some o → H' b = some o
theorem But.refl (R : Addr) (H : Hp) : But R H H := fun _ _ _ h => h
theorem But.trans {R : Addr} {H H1 H2 : Hp} (a : But R H H1) (b : But R H1 H2) : But R H H2 := fun c o n h => b c o n (a c o n h)
theorem But.of {R : Addr} {H H' : Hp} (s : Same H H') : But R H H' := fun b o _ h => s b o h
theorem But.own {R : Addr} {H : Hp} {o : HO} : But R H (upd H R o) := fun b u n h => by
  rw [upd_ne n]
  exact h
theorem But.put {R p : Addr} {H H' : Hp} {o : HO} (s : But R H H') (n : H p = none) : But R H (upd H' p o) := fun b u nb h => by
  rw [upd_ne (ne_of_none h n)]
  exact s b u nb h
/-- the law's row of draws: the script, the place, the mixed number, a cell's rest -/
structure RowOk (K : PySem.W.Frag) (H0 H : Hp) (R a : Addr) (sc : List Int) : Prop where
  old : Same H0 H
  new : H0 R = none
  scr : SqL K H0 a (sc.map V.int)
  few : sc.length ≤ 63
  row : ∃ x y z : Int, 0 ≤ x ∧ H R = some (.lst [.ref a, .int x, .int y, .int z])
theorem RowOk.after {K : PySem.W.Frag} {H0 H H' : Hp} {R a : Addr} {sc : List Int} (r : RowOk K H0 H R a sc) (s : Same H H') : RowOk K H0 H' R a sc := by
  obtain ⟨x, y, z, h0, h⟩ := r.row
  exact ⟨r.old.trans s, r.new, r.scr, r.few, x, y, z, h0, s _ _ h⟩
theorem RowOk.put {K : PySem.W.Frag} {H0 H : Hp} {R a : Addr} {sc : List Int} (r : RowOk K H0 H R a sc) {x y z : Int} (h : 0 ≤ x) : RowOk K H0 (upd H R (.lst [.ref a, .int x, .int y, .int z])) R a sc :=
  ⟨Same.put r.old r.new, r.new, r.scr, r.few, x, y, z, h, upd_same⟩
theorem RowOk.side {K : PySem.W.Frag} {H0 H : Hp} {R a p : Addr} {sc : List Int} {o : HO} (r : RowOk K H0 H R a sc) (n : H0 p = none) (d : R ≠ p) : RowOk K H0 (upd H p o) R a sc := by
  obtain ⟨x, y, z, h0, h⟩ := r.row
  exact ⟨Same.put r.old n, r.new, r.scr, r.few, x, y, z, h0, by rw [upd_ne d]; exact h⟩

theorem ix41 : ixN 4 1 = some 1 := by decide
theorem ix42 : ixN 4 2 = some 2 := by decide
theorem ix43 : ixN 4 3 = some 3 := by decide
theorem big0 : (0 : Int) < 2147483647 := by decide
section
variable {P : Program} {w : World} {K : PySem.W.Frag} {mg : Str → Option Value} {base : Heap}
/-! ### a draw -/
def spTaken (K : PySem.W.Frag) : Sp := fun vs H Q _ => ∃ (H0 : Hp) (R a : Addr) (sc : List Int) (m : Int), vs = [.ref R, .int m] ∧ RowOk K H0 H R a sc ∧ 0 < m ∧ m < 1073741824 ∧
  ∀ H' r, RowOk K H0 H' R a sc → But R H H' → 0 ≤ r → r < m → Q (.int r) H'
theorem scTaken : FnScope ["_law_row", "_law_many", "_law_found", "_law_cell"] ["_law_row", "_law_many"] (defScope sTaken) := ⟨rfl, rfl, rfl, by decide +kernel, rfl, by decide +kernel, by decide +kernel⟩
abbrev LTaken (K : PySem.W.Frag) (mg : Str → Option Value) := Fn K mg "_law_taken" sTaken ["_law_row", "_law_many"]
theorem ok_taken (L : LTaken K mg) (B : Bi mg) : FnOk P w K mg base CX0 1 L.f L.fd ["_law_row", "_law_many"] (spTaken K) := by
  refine L.F.ok scTaken (fun vs H Q E h => ?_) (fun cdv A outer s H vs Q E hr h => ?_)
  · obtain ⟨H0, R, a, sc, m, rfl, _⟩ := h
    rfl
  · obtain ⟨H0, R, a, sc, m, rfl, ok, m0, m1, k⟩ := h
    refine ⟨_, pss_cons (ps_if (pt_cmpR op_gt (pe_ix ix_list (pv 0) pe_int (fun _ _ => rfl)) pe_int (nomark _))
        (pss_cons (ps_set (i := 2) scTaken.nd rfl (.inl rfl) (pe_op op_mod (pe_callTy call_int1 (by rfl) B.int boot_int (pa_cons (pe_ix ix_list (pv 0) pe_int (fun _ _ => rfl)) pa_nil)) (pv 1)))
        (pss_cons (ps_asg (pe_op op_fdiv (pe_ix ix_list (pv 0) pe_int (fun _ _ => rfl)) (pv 1)) (pg_sub (pv 0) pe_int set_list))
        (pss_one (ps_ret (pv 2))))) pss_nil)
      (pss_cons (ps_asg (pe_op op_add (pe_ix ix_list (pv 0) pe_int (fun _ _ => rfl)) pe_int) (pg_sub (pv 0) pe_int set_list))
      (pss_cons (ps_if (pt_cmpR op_gt (pe_ix ix_list (pv 0) pe_int (fun _ _ => rfl)) (pe_callB call_len_seq (by rfl) B.len PySem.boot_len (pa_cons (pe_ix ix_list (pv 0) pe_int (fun _ _ => rfl)) pa_nil)) (nomark _))
        (pss_cons (ps_asg (pe_op op_mod (pe_callTy call_int1 (by rfl) B.int boot_int (pa_cons (pe_op op_add (pe_op op_mul (pe_ix ix_list (pv 0) pe_int (fun _ _ => rfl)) pe_int) pe_int) pa_nil)) pe_int) (pg_sub (pv 0) pe_int set_list))
        (pss_one (ps_ret (pe_op op_mod (pe_callTy call_int1 (by rfl) B.int boot_int (pa_cons (pe_op op_fdiv (pe_ix ix_list (pv 0) pe_int (fun _ _ => rfl)) pe_int) pa_nil)) (pv 1))))) pss_nil)
      (pss_cons (ps_set (i := 3) scTaken.nd rfl (.inl rfl) (pe_ix ix_list (pe_ix ix_list (pv 0) pe_int (fun _ _ => rfl)) (pe_op op_sub (pe_ix ix_list (pv 0) pe_int (fun _ _ => rfl)) pe_int) (fun _ _ => rfl)))
      (pss_cons (ps_asg (pe_op op_mod (pe_callTy call_int1 (by rfl) B.int boot_int (pa_cons (pe_op op_add (pe_op op_add (pe_op op_mul (pe_ix ix_list (pv 0) pe_int (fun _ _ => rfl)) pe_int) (pv 3)) pe_int) pa_nil)) pe_int) (pg_sub (pv 0) pe_int set_list))
      (pss_cons (ps_if (pt_cmpR op_ge (pv 3) (pe_op op_pow pe_int pe_int) (nomark _)) (pss_one (ps_asg (pe_op op_fdiv (pv 3) (pv 1)) (pg_sub (pv 0) pe_int set_list))) pss_nil)
      (pss_one (ps_ret (pe_op op_mod (pe_callTy call_int1 (by rfl) B.int boot_int (pa_cons (pv 3) pa_nil)) (pv 1))))))))), ?_⟩
    obtain ⟨x, y, z, x0, hR⟩ := ok.row
    -- a rest of a great cell
    refine ⟨_, rfl, R, _, 3, .int z, rfl, rfl, SqL.of hR, atI_nat (j := 3) rfl, z, 0, rfl, rfl, _, rfl, ite2 (fun e => ?_) (fun e => ?_)⟩
    · refine ⟨_, rfl, R, _, 3, .int z, rfl, rfl, SqL.of hR, atI_nat (j := 3) rfl, .inl ⟨z, rfl, _, rfl, z, m, rfl, rfl, m0, ?_⟩⟩
      refine ⟨_, rfl, R, _, 3, .int z, rfl, rfl, SqL.of hR, atI_nat (j := 3) rfl, _, rfl, z, m, rfl, rfl, ⟨m0, m1⟩, ?_⟩
      refine ⟨_, rfl, R, _, 3, 3, rfl, rfl, hR, ix43, ?_⟩
      refine ⟨_, rfl, ?_⟩
      exact k _ _ (ok.put (y := y) (z := z / m) x0) But.own (Int.emod_nonneg _ (by omega)) (Int.emod_lt_of_pos _ m0)
    -- the next place
    refine ⟨_, rfl, R, _, 1, .int x, rfl, rfl, SqL.of hR, atI_nat (j := 1) rfl, x, 1, rfl, rfl, ?_⟩
    refine ⟨_, rfl, R, _, 1, 1, rfl, rfl, hR, ix41, ?_⟩
    have h1 : (upd H R (.lst [.ref a, .int (x + 1), .int y, .int z])) R = some (.lst [.ref a, .int (x + 1), .int y, .int z]) := upd_same
    have ok1 : RowOk K H0 (upd H R (.lst [.ref a, .int (x + 1), .int y, .int z])) R a sc := ok.put (by omega)
    have b1 : But R H (upd H R (.lst [.ref a, .int (x + 1), .int y, .int z])) := But.own
    have hS := ok1.old.seq ok1.scr
    have lenS : (sc.map V.int).length = sc.length := List.length_map ..
    refine ⟨_, rfl, R, _, 1, .int (x + 1), rfl, rfl, SqL.of h1, atI_nat (j := 1) rfl, ?_⟩
    refine ⟨_, rfl, R, _, 0, .ref a, rfl, rfl, SqL.of h1, atI_nat (j := 0) rfl, a, _, rfl, .inl hS, x + 1, _, rfl, rfl, _, rfl, ite2 (fun e => ?_) (fun e => ?_)⟩
    · refine ⟨_, rfl, R, _, 2, .int y, rfl, rfl, SqL.of h1, atI_nat (j := 2) rfl, y, 48271, rfl, rfl, .inr (by decide), _, _, rfl, rfl, .inl ⟨_, rfl, _, _, rfl, rfl, big0, ?_⟩⟩
      refine ⟨_, rfl, R, _, 2, 2, rfl, rfl, h1, ix42, ?_⟩
      refine ⟨_, rfl, R, _, 2, _, rfl, rfl, SqL.of upd_same, atI_nat (j := 2) rfl, _, 7, rfl, rfl, ⟨by decide, by decide⟩, .inl ⟨_, rfl, _, rfl, _, m, rfl, rfl, m0, ?_⟩⟩
      exact k _ _ (ok1.put (y := (y * 48271 + 11) % 2147483647) (z := z) (by omega)) (b1.trans But.own) (Int.emod_nonneg _ (by omega)) (Int.emod_lt_of_pos _ m0)
    · have e : x + 1 ≤ (sc.length : Int) := by
        have e : ¬ decide (((sc.map V.int).length : Int) < x + 1) = true := e
        rw [decide_eq_true_eq, lenS] at e
        omega
      have lt : x.toNat < sc.length := by omega
      have gc : (sc.map V.int)[x.toNat]? = some (.int sc[x.toNat]) := by
        rw [List.getElem?_map, List.getElem?_eq_getElem lt]
        rfl
      refine ⟨_, rfl, R, _, 0, .ref a, rfl, rfl, SqL.of h1, atI_nat (j := 0) rfl, ?_⟩
      refine ⟨_, rfl, R, _, 1, .int (x + 1), rfl, rfl, SqL.of h1, atI_nat (j := 1) rfl, x + 1, 1, rfl, rfl, a, _, x + 1 - 1, _, rfl, rfl, hS, at_of (j := x.toNat) (by omega) gc, ?_⟩
      refine ⟨_, rfl, R, _, 2, .int y, rfl, rfl, SqL.of h1, atI_nat (j := 2) rfl, y, 48271, rfl, rfl, .inr (by decide), _, rfl, _, sc[x.toNat], rfl, rfl, _, _, rfl, rfl, .inl ⟨_, rfl, _, _, rfl, rfl, big0, ?_⟩⟩
      refine ⟨_, rfl, R, _, 2, 2, rfl, rfl, h1, ix42, ?_⟩
      have ok2 : RowOk K H0 (upd (upd H R (.lst [.ref a, .int (x + 1), .int y, .int z])) R (.lst [.ref a, .int (x + 1), .int ((y * 48271 + sc[x.toNat] + 11) % 2147483647), .int z])) R a sc := ok1.put (by omega)
      have b2 := b1.trans (But.own (o := .lst [.ref a, .int (x + 1), .int ((y * 48271 + sc[x.toNat] + 11) % 2147483647), .int z]))
      refine ⟨_, rfl, 10, 18, rfl, rfl, ⟨by decide, by decide, by decide⟩, sc[x.toNat], _, rfl, rfl, _, rfl, ite2 (fun e2 => ?_) (fun e2 => ?_)⟩
      · refine ⟨_, rfl, _, rfl, sc[x.toNat], m, rfl, rfl, ⟨m0, m1⟩, ?_⟩
        refine ⟨_, rfl, R, _, 3, 3, rfl, rfl, upd_same, ix43, ?_⟩
        refine ⟨_, rfl, .inl ⟨_, rfl, _, rfl, sc[x.toNat], m, rfl, rfl, m0, ?_⟩⟩
        exact k _ _ (ok2.put (y := (y * 48271 + sc[x.toNat] + 11) % 2147483647) (z := sc[x.toNat] / m) (by omega)) (b2.trans But.own) (Int.emod_nonneg _ (by omega)) (Int.emod_lt_of_pos _ m0)
      · refine ⟨_, rfl, .inl ⟨_, rfl, _, rfl, sc[x.toNat], m, rfl, rfl, m0, ?_⟩⟩
        exact k _ _ ok2 b2 (Int.emod_nonneg _ (by omega)) (Int.emod_lt_of_pos _ m0)

/-! ### a pick -/
def spPick (K : PySem.W.Frag) : Sp := fun vs H Q _ => ∃ (H0 : Hp) (R a T : Addr) (sc ms : List Int), vs = [.ref R, .ref T] ∧ RowOk K H0 H R a sc ∧ T ≠ R ∧ H T = some (.lst (ms.map V.int)) ∧ ms ≠ [] ∧ ms.length < 1073741824 ∧
  ∀ H' r, RowOk K H0 H' R a sc → But R H H' → r ∈ ms → Q (.int r) H'
theorem scPick : FnScope ["_law_row", "_law_things"] ["_law_row", "_law_things"] (defScope sPick) := ⟨rfl, rfl, rfl, by decide +kernel, rfl, by decide +kernel, by decide +kernel⟩
abbrev LPick (K : PySem.W.Frag) (mg : Str → Option Value) := Fn K mg "_law_pick" sPick ["_law_row", "_law_things"]
theorem ok_pick (L : LPick K mg) (B : Bi mg) (LT : LTaken K mg) : FnOk P w K mg base CX0 2 L.f L.fd ["_law_row", "_law_things"] (spPick K) := by
  refine L.F.ok scPick (fun vs H Q E h => ?_) (fun cdv A outer s H vs Q E hr h => ?_)
  · obtain ⟨H0, R, a, T, sc, ms, rfl, _⟩ := h
    rfl
  · obtain ⟨H0, R, a, T, sc, ms, rfl, ok, nT, hT, ne, few, k⟩ := h
    refine ⟨_, pss_one (ps_ret (pe_ix ix_list (pv 1) (pe_fn LT (ok_taken LT B) hr (pa_cons (pv 0) (pa_cons (pe_callB call_len_seq (by rfl) B.len PySem.boot_len (pa_cons (pv 1) pa_nil)) pa_nil))) (fun _ _ => rfl))), ?_⟩
    have pos : 0 < ms.length := List.length_pos_iff.mpr ne
    refine ⟨_, rfl, _, rfl, _, rfl, T, _, rfl, .inl (SqL.of hT), H0, R, a, sc, _, rfl, ok, ?_, ?_, fun H1 r ok1 b1 r0 r1 => ?_⟩
    · rw [List.length_map]
      omega
    · rw [List.length_map]
      omega
    · rw [List.length_map] at r1
      have lt : r.toNat < ms.length := by omega
      refine ⟨T, _, r, .int ms[r.toNat], rfl, rfl, SqL.of (b1 _ _ nT hT), at_of (j := r.toNat) (by omega) ?_, k H1 _ ok1 b1 (List.getElem_mem lt)⟩
      rw [List.getElem?_map, List.getElem?_eq_getElem lt]
      rfl
end
end Cd

set_option maxRecDepth 100000
set_option maxHeartbeats 4000000
/-! Walks of the law's helpers: the nest, vectors, alike. -/
namespace Cd
open PySem PySem.Spec PyProof.Rows L2
section
variable {P : Program} {w : World} {K : PySem.W.Frag} {mg : Str → Option Value} {base : Heap}
/-! ### the nest -/
/-- the first doors of a nest of n -/
def Begun (n : Nat) (xs : Nst) : Prop := ∀ i j : Nat, xs[i]? = some (some j) → i < j ∧ j < n
theorem Begun.snoc {n : Nat} {xs : Nst} (h : Begun n xs) {o : Option Nat} (ho : ∀ j, o = some j → xs.length < j ∧ j < n) : Begun n (xs ++ [o]) := fun i j e => by
  by_cases lt : i < xs.length
  · rw [List.getElem?_append_left lt] at e
    exact h i j e
  · rw [List.getElem?_append_right (by omega)] at e
    by_cases z : i - xs.length = 0
    · rw [z] at e
      have := ho j (Option.some.inj e)
      omega
    · rw [List.getElem?_eq_none (by simp; omega)] at e
      cases e
def spNest (K : PySem.W.Frag) : Sp := fun vs H Q _ => ∃ (H0 : Hp) (R a : Addr) (sc : List Int), vs = [.ref R, .int 9] ∧ RowOk K H0 H R a sc ∧
  ∀ H' t ns, RowOk K H0 H' R a sc → But R H H' → NestAt H' t ns → Q (.ref t) H'
theorem scNest : FnScope ["_law_row", "_law_most", "_law_many", "_law_found", "_law_way", "_law_k", "_law_rest"] ["_law_row", "_law_most"] (defScope sNest) := ⟨rfl, rfl, rfl, by decide +kernel, rfl, by decide +kernel, by decide +kernel⟩
abbrev LNest (K : PySem.W.Frag) (mg : Str → Option Value) := Fn K mg "_law_nest" sNest ["_law_row", "_law_most"]
/-- the branch that draws the door around -/
def nestElse (K : PySem.W.Frag) : TS := tDrop (tBM K "list" rAppend (tVar 3) (tCons (tIf (tTest (tOp rEq (tVar 4) (tC (.int 0)))) (tOp (rI0 fun i j => .int (i + j)) (tVar 5) (tC (.int 1)))
  (tOp (rI0 fun i j => .int (i + j)) (tOp (rI0 fun i j => .int (i + j)) (tVar 5) (tC (.int 1))) (tCall (spTaken K) [] E0 (tCons (tVar 0) (tCons (tCall (spPick K) [] E0 (tCons (tVar 0) (tCons (tLst (tCons (tC (.int 1)) (tCons (tVar 6) tNil))) tNil))) tNil))))) tNil))
theorem nest_else {D : Ends} {H0 H3 : Hp} {R a F : Addr} {sc : List Int} {xs : Nst} {n i : Nat} {m way : Int} (ok : RowOk K H0 H3 R a sc) (nRF : R ≠ F) (hF : H3 F = some (.lst (xs.map nv))) (lx : xs.length = i) (hm : m = (n : Int)) (hn9 : n ≤ 9) (rest : 1 ≤ m - 1 - (i : Int))
    (k : ∀ (H' : Hp) (j : Nat), RowOk K H0 H' R a sc → But R H3 H' → H' F = some (.lst (xs.map nv)) → i < j ∧ j < n → D.nx [some (.ref R), some (.int 9), some (.int m), some (.ref F), some (.int way), some (.int (i : Int)), some (.int (m - 1 - (i : Int)))] (upd H' F (.lst (xs.map nv ++ [nv (some j)])))) :
    nestElse K D [some (.ref R), some (.int 9), some (.int m), some (.ref F), some (.int way), some (.int (i : Int)), some (.int (m - 1 - (i : Int)))] H3 := by
  have big : (xs.map nv).length < sizeLine := by
    rw [List.length_map]
    exact small1000 (by omega)
  refine ⟨_, rfl, .inl ⟨rfl, _, SqL.of hF⟩, ?_⟩
  refine ⟨_, rfl, rfl, _, rfl, ite2 (fun _ => ?_) (fun _ => ?_)⟩
  · refine ⟨_, rfl, (i : Int), 1, rfl, rfl, F, _, _, rfl, rfl, hF, big, ?_⟩
    exact k H3 (i + 1) ok (But.refl R H3) hF (by omega)
  · refine ⟨_, rfl, (i : Int), 1, rfl, rfl, _, rfl, _, rfl, _, rfl, by show 2 ≤ sizeLine; decide, fun T nT => ?_⟩
    have nRT : R ≠ T := by
      obtain ⟨x, y, z, _, h⟩ := ok.row
      exact ne_of_none h nT
    have sT : Same H3 (upd H3 T (.lst [.int 1, .int (m - 1 - (i : Int))])) := same_upd nT
    refine ⟨H0, R, a, T, sc, [1, m - 1 - (i : Int)], rfl, ok.after sT, nRT.symm, upd_same, by simp, by show 2 < 1073741824; decide, fun H4 r ok4 b4 hr => ?_⟩
    have br : 1 ≤ r ∧ r ≤ m - 1 - (i : Int) := by
      rcases List.mem_cons.mp hr with e | e
      · omega
      · have := List.mem_singleton.mp e
        omega
    refine ⟨H0, R, a, sc, r, rfl, ok4, by omega, by omega, fun H5 r2 ok5 b5 r0 r1 => ?_⟩
    have b35 : But R H3 H5 := ((But.of sT).trans b4).trans b5
    have hF5 := b35 _ _ nRF.symm hF
    refine ⟨(i : Int) + 1, r2, rfl, rfl, F, _, _, rfl, rfl, hF5, big, ?_⟩
    obtain ⟨j, hj⟩ : ∃ j : Nat, (i : Int) + 1 + r2 = (j : Int) := ⟨((i : Int) + 1 + r2).toNat, by omega⟩
    have q := k H5 j ok5 b35 hF5 (by omega)
    show D.nx _ (upd H5 F (.lst (xs.map nv ++ [.int ((i : Int) + 1 + r2)])))
    rw [hj]
    exact q
theorem ok_nest (L : LNest K mg) (B : Bi mg) (LT : LTaken K mg) (LP : LPick K mg) : FnOk P w K mg base CX0 3 L.f L.fd ["_law_row", "_law_most"] (spNest K) := by
  refine L.F.ok scNest (fun vs H Q E h => ?_) (fun cdv A outer s H vs Q E hr h => ?_)
  · obtain ⟨H0, R, a, sc, rfl, _⟩ := h
    rfl
  · obtain ⟨H0, R, a, sc, rfl, ok, k⟩ := h
    have G := ok_taken (P := P) (w := w) (base := base) LT B
    have hr1 : Room 1 (A.deeper (envOfC "_law_nest" (defScope sNest) s.heap.objs.size L.f cdv)) := hr.mono (by decide)
    refine ⟨_, pss_cons (ps_par (i := 2) (j := 3) rfl scNest.nd rfl rfl (by decide) rfl rfl (pa_cons (pe_op op_add pe_int (pe_fn LT G hr1 (pa_cons (pv 0) (pa_cons (pv 1) pa_nil)))) (pa_cons (pe_lst pa_nil) pa_nil)) (by rfl))
      (pss_cons (ps_set (i := 4) scNest.nd rfl (.inl rfl) (pe_fn LT G hr1 (pa_cons (pv 0) (pa_cons pe_int pa_nil))))
      (pss_cons (ps_for PassesOwn.never rfl (pi_range1 (by rfl) B.range (pa_cons (pv 2) pa_nil)) (pg_name (i := 5) scNest.nd rfl (.inl rfl))
        (pss_cons (ps_set (i := 6) scNest.nd rfl (.inl rfl) (pe_op op_sub (pe_op op_sub (pv 2) pe_int) (pv 5)))
        (pss_one (ps_if (PW.pt (pw_or (pt_cmpR op_eq (pv 6) pe_int (nomark _)) (pw_or1 (PW.pt (pw_and (pt_cmpR op_eq (pv 4) pe_int (nomark _)) (pw_and1 (pt_cmpR op_eq (pe_fn LT G hr1 (pa_cons (pv 0) (pa_cons pe_int pa_nil))) pe_int (nomark _))))))))
          (pss_one (ps_expr (pe_bm PySem.F.plainAttrs_list PySem.F.slot_list_append PySem.F.type_list_append mt_append (pv 3) (pa_cons pe_non pa_nil))))
          (pss_one (ps_expr (pe_bm PySem.F.plainAttrs_list PySem.F.slot_list_append PySem.F.type_list_append mt_append (pv 3) (pa_cons
            (pe_ifExp (pt_cmpR op_eq (pv 4) pe_int (nomark _)) (pe_op op_add (pv 5) pe_int)
              (pe_op op_add (pe_op op_add (pv 5) pe_int) (pe_fn LT G hr1 (pa_cons (pv 0) (pa_cons (pe_fn LP (ok_pick LP B LT) hr (pa_cons (pv 0) (pa_cons (pe_lst (pa_cons pe_int (pa_cons (pv 6) pa_nil))) pa_nil))) pa_nil))))) pa_nil))))))))
      (pss_one (ps_ret (pe_callTy call_tuple_of (by rfl) B.tuple boot_tuple (pa_cons (pv 3) pa_nil)))))), ?_⟩
    -- many, found = 1 + taken(row, most), []
    refine ⟨_, rfl, _, rfl, H0, R, a, sc, 9, rfl, ok, by decide, by decide, fun H1 n1 ok1 b1 n0 n9 => ⟨1, n1, rfl, rfl, Nat.zero_le _, fun F nF => ⟨_, _, rfl, ?_⟩⟩⟩
    obtain ⟨n, hn, hn1, hn9⟩ : ∃ n : Nat, 1 + n1 = (n : Int) ∧ 1 ≤ n ∧ n ≤ 9 := ⟨(1 + n1).toNat, by omega, by omega, by omega⟩
    have nF0 : H0 F = none := ok1.old.free nF
    have nRF : R ≠ F := by
      obtain ⟨x, y, z, _, h⟩ := ok1.row
      exact ne_of_none h nF
    have nFH : H F = none := by
      cases e : H F with
      | none => rfl
      | some o =>
        have q := b1 F o (fun z => nRF z.symm) e
        rw [nF] at q
        cases q
    have ok2 : RowOk K H0 (upd H1 F (.lst [])) R a sc := ok1.side nF0 nRF
    -- way = taken(row, 4)
    refine ⟨_, rfl, H0, R, a, sc, 4, rfl, ok2, by decide, by decide, fun H2 way ok3 b3 _ _ => ?_⟩
    have b2 : But R H H2 := (b1.trans (But.of (same_upd nF))).trans b3
    have hF2 : H2 F = some (.lst []) := b3 _ _ (fun z => nRF z.symm) upd_same
    refine ⟨_, rfl, 1 + n1, rfl, by omega, by omega, ?_⟩
    rw [show (1 + n1).toNat = n by omega]
    refine for_range (lo := 0) (n := n) (fun i σ H' => RowOk K H0 H' R a sc ∧ But R H H' ∧ ∃ xs : Nst, xs.length = i ∧ Begun n xs ∧ H' F = some (.lst (xs.map nv)) ∧ ∃ u v, σ = [some (.ref R), some (.int 9), some (.int (1 + n1)), some (.ref F), some (.int way), u, v])
      ⟨ok3, b2, [], rfl, (fun i j e => by simp at e), hF2, none, none, rfl⟩ ?_ ?_
    · rintro i σ H' hi ⟨oki, bi, xs, lx, bx, hF, u, v, rfl⟩
      have e0 : (0 : Int) + (i : Int) = (i : Int) := Int.zero_add _
      show gName 5 (.int (0 + (i : Int))) _ _ _
      rw [e0]
      have big : (xs.map nv).length < sizeLine := by
        rw [List.length_map]
        exact small1000 (by omega)
      -- what an append leaves
      have done : ∀ (H3 : Hp) (o : Option Nat) (y : V), RowOk K H0 H3 R a sc → But R H H3 → H3 F = some (.lst (xs.map nv)) → y = nv o → (∀ j, o = some j → i < j ∧ j < n) →
          RowOk K H0 (upd H3 F (.lst (xs.map nv ++ [y]))) R a sc ∧ But R H (upd H3 F (.lst (xs.map nv ++ [y]))) ∧ ∃ zs : Nst, zs.length = i + 1 ∧ Begun n zs ∧ (upd H3 F (.lst (xs.map nv ++ [y]))) F = some (.lst (zs.map nv)) := fun H3 o y o3 b3 h3 hy ho => by
        refine ⟨o3.side nF0 nRF, b3.put nFH, xs ++ [o], ?_, bx.snoc fun j e => ?_, ?_⟩
        · rw [List.length_append, lx]
          rfl
        · rw [lx]
          exact ho j e
        · rw [upd_same, List.map_append, hy]
          rfl
      refine ⟨_, rfl, 1 + n1, 1, rfl, rfl, _, rfl, 1 + n1 - 1, (i : Int), rfl, rfl, ?_⟩
      -- rest == 0
      refine ⟨_, rfl, rfl, _, rfl, ite2 (fun e => ?_) (fun e => ?_)⟩
      · refine iteT ⟨_, rfl, .inl ⟨rfl, _, SqL.of hF⟩, F, _, .non, rfl, rfl, hF, big, ?_⟩
        obtain ⟨h1, h2, zs, h3, h4, h5⟩ := done H' none .non oki bi hF rfl (fun j z => nomatch z)
        exact ⟨h1, h2, zs, h3, h4, h5, _, _, rfl⟩
      · have rest : 1 ≤ 1 + n1 - 1 - (i : Int) := by
          have e : ¬ 1 + n1 - 1 - (i : Int) = 0 := fun z => e (decide_eq_true (congrArg V.int z))
          omega
        -- way == 3
        refine ⟨_, rfl, rfl, _, rfl, ite2 (fun e3 => ?_) (fun e3 => ?_)⟩
        · refine ⟨_, rfl, H0, R, a, sc, 3, rfl, oki, by decide, by decide, fun H3 r o3 b3 _ _ => ⟨rfl, _, rfl, ?_⟩⟩
          have hF3 := b3 _ _ nRF.symm hF
          refine ite2 (fun e4 => ?_) (fun e4 => ?_)
          · refine ⟨_, rfl, .inl ⟨rfl, _, SqL.of hF3⟩, F, _, .non, rfl, rfl, hF3, big, ?_⟩
            obtain ⟨h1, h2, zs, h3, h4, h5⟩ := done H3 none .non o3 (bi.trans b3) hF3 rfl (fun j z => nomatch z)
            exact ⟨h1, h2, zs, h3, h4, h5, _, _, rfl⟩
          · refine nest_else (n := n) o3 nRF hF3 lx hn hn9 rest fun H4 j o4 b4 h4 hj => ?_
            obtain ⟨h1, h2, zs, h3, h4, h5⟩ := done H4 (some j) (nv (some j)) o4 ((bi.trans b3).trans b4) h4 rfl (fun j' z => by cases z; exact hj)
            exact ⟨h1, h2, zs, h3, h4, h5, _, _, rfl⟩
        · refine iteF ?_
          refine nest_else (n := n) oki nRF hF lx hn hn9 rest fun H4 j o4 b4 h4 hj => ?_
          obtain ⟨h1, h2, zs, h3, h4, h5⟩ := done H4 (some j) (nv (some j)) o4 (bi.trans b4) h4 rfl (fun j' z => by cases z; exact hj)
          exact ⟨h1, h2, zs, h3, h4, h5, _, _, rfl⟩
    · rintro σ H' ⟨oki, bi, xs, lx, bx, hF, u, v, rfl⟩
      refine ⟨_, rfl, F, _, rfl, .inl ⟨SqL.of hF, fun T nT => ?_⟩⟩
      refine k _ T xs (oki.after (same_upd nT)) (bi.trans (But.of (same_upd nT))) ⟨upd_same, ?_⟩
      rw [← lx] at hn1 hn9 bx
      exact ⟨hn1, hn9, bx⟩
end
end Cd

set_option maxRecDepth 100000
set_option maxHeartbeats 4000000
/-! Walks of the law's helpers: vectors, alike, counts. -/
namespace Cd
open PySem PySem.Spec PyProof.Rows L2

theorem PV_one : ∀ {ss : List Int}, (∀ s ∈ ss, 1 ≤ s) → PV ss 1
  | [], _ => rfl
  | s :: ss, h => ⟨1, 1, Int.le_refl 1, h s List.mem_cons_self, PV_one fun t ht => h t (List.mem_cons_of_mem _ ht), rfl⟩
theorem Small.take {ss : List Int} (h : Small ss) (i : Nat) : Small (ss.take i) := fun j s e => by
  rw [List.getElem?_take] at e
  split at e
  · exact h j s e
  · cases e
/-- what the counts are behind some sizes -/
def Cnt (w0 : Int) (ss cs : List Int) : Prop := cs.Nodup ∧ ∀ c, c ∈ cs ↔ ∃ x, PV ss x ∧ c = w0 * x
/-- one size more: all products with 1 to the size -/
theorem Cnt.grow {w0 s : Int} {ss cs ms ns : List Int} (h : Cnt w0 ss cs) (hm : ∀ c, c ∈ ms ↔ ∃ o ∈ cs, ∃ p, 1 ≤ p ∧ p ≤ s ∧ c = o * p) (up : ns.Pairwise (· < ·)) (mem : ∀ c, c ∈ ns ↔ c ∈ ms) : Cnt w0 (ss ++ [s]) ns := by
  refine ⟨up.imp fun {a b} q => Int.ne_of_lt q, fun c => ?_⟩
  rw [mem, hm]
  constructor
  · rintro ⟨o, ho, p, h1, h2, rfl⟩
    obtain ⟨x, hx, rfl⟩ := (h.2 o).mp ho
    exact ⟨x * p, PV_end.mpr ⟨x, p, hx, h1, h2, rfl⟩, by rw [Int.mul_assoc]⟩
  · rintro ⟨y, hy, rfl⟩
    obtain ⟨x, p, hx, h1, h2, rfl⟩ := PV_end.mp hy
    exact ⟨w0 * x, (h.2 _).mpr ⟨x, hx, rfl⟩, p, h1, h2, by rw [Int.mul_assoc]⟩

section
variable {P : Program} {w : World} {K : PySem.W.Frag} {mg : Str → Option Value} {base : Heap}
/-! ### is_vector -/
def spIsVector : Sp := fun vs H Q _ => ∃ (q : Addr) (ns : List Int), vs = [.ref q, .int ns.length] ∧ H q = some (.tup (ns.map V.int)) ∧ ∀ H', Same H H' → Q (.bl true) H'
theorem scIsVector : FnScope ["_law_value", "_law_size", "_law_x"] ["_law_value", "_law_size"] (defScope sIsVector) := ⟨rfl, rfl, rfl, by decide +kernel, rfl, by decide +kernel, by decide +kernel⟩
abbrev LIsVector (K : PySem.W.Frag) (mg : Str → Option Value) := Fn K mg "_law_is_vector" sIsVector ["_law_value", "_law_size"]
theorem ok_isVector (L : LIsVector K mg) (B : Bi mg) : FnOk P w K mg base CX0 1 L.f L.fd ["_law_value", "_law_size"] spIsVector := by
  refine L.F.ok scIsVector (fun vs H Q E h => ?_) (fun cdv A outer s H vs Q E hr h => ?_)
  · obtain ⟨q, ns, rfl, _⟩ := h
    rfl
  · obtain ⟨q, ns, rfl, hq, k⟩ := h
    refine ⟨_, pss_cons (ps_if (PW.pt (pw_or (pt_not (pt_val (pe_isi (pv 0) B boot_tuple B.tuple))) (pw_or1 (pt_cmpR op_ne (pe_callB call_len_seq (by rfl) B.len PySem.boot_len (pa_cons (pv 0) pa_nil)) (pv 1) (nomark _))))) (pss_one (ps_ret pe_bl)) pss_nil)
      (pss_one (ps_ret (pe_cmpR (op_eqI hr.units) (pe_lc (own := [("_law_x", 2)]) (g := gName 2)
        (tt := tOr (tNot (tB (tCB (rTy K "int") (tCons (tVar 2) (tCons (tC (.ty "int")) tNil))))) (tB (tCB (rTy K "bool") (tCons (tVar 2) (tCons (tC (.ty "bool")) tNil)))))
        rfl scIsVector.nd (pi_tup (pv 0)) (blkOk_by (own := [("_law_x", 2)]) (N := ["_law_value", "_law_size", "_law_x"]) (sc := defScope sIsVector) (by decide +kernel))
        (fun _ _ _ _ _ => pg_name (i := 2) scIsVector.nd rfl (Or.inl rfl))
        (fun _ _ _ _ _ => pts_one (PW.pt (pw_or (pt_not (pt_val (pe_isi (pv 2) B boot_int B.int))) (pw_or1 (pt_val (pe_isi (pv 2) B boot_bool B.bool))))))
        (fun _ _ _ _ _ => pv 2)) (pe_lst pa_nil) (nomark _)))), ?_⟩
    have len : (ns.map V.int).length = ns.length := List.length_map ..
    refine ⟨_, rfl, _, "tuple", true, rfl, ty_tup hq, k_tt, true, rfl, iteF ?_⟩
    refine ⟨_, rfl, q, _, rfl, .inr (SqT.of hq), _, rfl, rfl, _, rfl, ?_⟩
    rw [len, decide_eq_true (show V.int ((ns.length : Nat) : Int) = V.int ((ns.length : Nat) : Int) from rfl)]
    refine iteF ?_
    refine ⟨_, rfl, q, rfl, ⟨_, SqT.of hq⟩, fun D nD => ?_⟩
    refine lc_tup (K := K) (a := q) (xs := ns.map V.int) (fun i H' => Same H H' ∧ H' D = some (.lst [])) ⟨same_upd nD, upd_same⟩ (fun i H' _ h => SqT.of (h.1 _ _ hq)) ?_ ?_
    · rintro i x H' hx ⟨sm, hD⟩
      obtain ⟨z, gz, rfl⟩ := int_at hx
      refine ⟨rfl, _, rfl, _, "int", true, rfl, ty_int, k_ii, true, rfl, iteF ⟨_, rfl, _, "int", false, rfl, ty_int, k_ib, false, rfl, iteF ⟨sm, hD⟩⟩⟩
    · rintro H' ⟨sm, hD⟩
      refine ⟨Nat.zero_le _, fun l nl => ⟨D, l, [], [], rfl, rfl, SqL.of (same_upd nl _ _ hD), SqL.of upd_same, ?_⟩⟩
      exact k _ (sm.trans (same_upd nl))

/-! ### alike, of two truth values -/
def spAlike : Sp := fun vs H Q _ => ∃ a b : Bool, vs = [.bl a, .bl b] ∧ ∀ H', Same H H' → Q (.bl (decide (a = b))) H'
theorem scAlike : FnScope ["_law_found", "_law_due", "_law_k"] ["_law_found", "_law_due"] (defScope sAlike) := ⟨rfl, rfl, rfl, by decide +kernel, rfl, by decide +kernel, by decide +kernel⟩
abbrev LAlike (K : PySem.W.Frag) (mg : Str → Option Value) := Fn K mg "_law_alike" sAlike ["_law_found", "_law_due"]
theorem ok_alike (L : LAlike K mg) (B : Bi mg) : FnOk P w K mg base CX0 1 L.f L.fd ["_law_found", "_law_due"] spAlike := by
  refine L.F.ok scAlike (fun vs H Q E h => ?_) (fun cdv A outer s H vs Q E hr h => ?_)
  · obtain ⟨a, b, rfl, _⟩ := h
    rfl
  · obtain ⟨a, b, rfl, k⟩ := h
    refine ⟨_, pss_cons (ps_if (pt_val (pe_callB call_isiT (by rfl) B.isinstance boot_isinstance (pa_cons (pv 1) (pa_cons (pe_tup (pa_cons (pe_bltn (v := .ty "tuple") (by rfl) B.tuple boot_tuple rfl) (pa_cons (pe_bltn (v := .ty "list") (by rfl) B.list boot_list rfl) pa_nil))) pa_nil)))) pss_never pss_nil)
      (pss_cons (ps_if (PW.pt (pw_or (pt_cmpR op_isN (pv 1) pe_non (nomark _)) (pw_or1 (pt_val (pe_isi (pv 1) B boot_str B.str))))) pss_never pss_nil)
      (pss_one (ps_ret (pe_and (pe_isi (pv 0) B boot_int B.int) (pe_and (pe_cmpR op_eq (pe_isi (pv 0) B boot_bool B.bool) (pe_isi (pv 1) B boot_bool B.bool) (nomark _)) (pe_one (pe_cmpR op_eq (pv 0) (pv 1) (nomark _)))))))), ?_⟩
    refine ⟨_, rfl, by show 2 ≤ sizeLine; decide, fun T nT => ?_⟩
    refine ⟨.bl b, T, [.ty "tuple", .ty "list"], .type "bool", [.type "tuple", .type "list"], false, rfl, upd_same, .cons (.ty _) (.cons (.ty _) .nil), ty_bl,
      kitAny_cons (kit_ty k_bt) (fun _ => kitAny_cons (kit_ty k_bl) (fun _ => kitAny_nil) (fun z => z)) (fun z => nomatch z), false, rfl, iteF ?_⟩
    refine ⟨_, rfl, rfl, _, rfl, ?_⟩
    rw [decide_eq_false (show ¬ V.bl b = V.non from fun z => nomatch z)]
    refine iteF ⟨_, rfl, _, "bool", false, rfl, ty_bl, k_bs, false, rfl, iteF ?_⟩
    refine ⟨_, rfl, _, "bool", true, rfl, ty_bl, k_bi, true, rfl, iteT ?_⟩
    refine ⟨_, rfl, _, "bool", true, rfl, ty_bl, k_bb, _, rfl, _, "bool", true, rfl, ty_bl, k_bb, rfl, true, by rfl, iteT ?_⟩
    refine ⟨_, rfl, _, rfl, rfl, ?_⟩
    have q := k _ (same_upd (o := .tup [.ty "tuple", .ty "list"]) nT)
    have e : decide (V.bl a = V.bl b) = decide (a = b) := by
      by_cases h : a = b
      · rw [decide_eq_true h, h, decide_eq_true rfl]
      · rw [decide_eq_false h, decide_eq_false fun z => h (V.bl.inj z)]
    show Q (.bl (decide (V.bl a = V.bl b))) _
    rw [e]
    exact q

/-! ### counts -/
def spCounts : Sp := fun vs H Q _ => ∃ (t : Addr) (ss : List Int) (w0 : Int), vs = [.ref t, .int w0] ∧ H t = some (.tup (ss.map V.int)) ∧ (∀ s ∈ ss, 1 ≤ s ∧ s ≤ 9) ∧ Small ss ∧ ss.length ≤ 9 ∧
  ∀ H' p cs, Same H H' → H p = none → H' p = some (.lst (cs.map V.int)) → Cnt w0 ss cs → cs.length ≤ 4000 → cs ≠ [] → Q (.ref p) H'
theorem scCounts : FnScope ["_law_wide", "_law_whole", "_law_found", "_law_size", "_law_more", "_law_one", "_law_part"] ["_law_wide", "_law_whole"] (defScope sCounts) := ⟨rfl, rfl, rfl, by decide +kernel, rfl, by decide +kernel, by decide +kernel⟩
abbrev LCounts (K : PySem.W.Frag) (mg : Str → Option Value) := Fn K mg "_law_counts" sCounts ["_law_wide", "_law_whole"]
theorem ok_counts (L : LCounts K mg) (B : Bi mg) : FnOk P w K mg base CX0 1 L.f L.fd ["_law_wide", "_law_whole"] spCounts := by
  refine L.F.ok scCounts (fun vs H Q E h => ?_) (fun cdv A outer s H vs Q E hr h => ?_)
  · obtain ⟨t, ss, w0, rfl, _⟩ := h
    rfl
  · obtain ⟨t, ss, w0, rfl, hT, hb, sm9, l9, k⟩ := h
    refine ⟨_, pss_cons (ps_set (i := 2) scCounts.nd rfl (.inl rfl) (pe_lst (pa_cons (pv 1) pa_nil)))
      (pss_cons (ps_for PassesOwn.never rfl (pi_tup (pv 0)) (pg_name (i := 3) scCounts.nd rfl (.inl rfl))
        (pss_cons (ps_set (i := 4) scCounts.nd rfl (.inl rfl) (pe_lst pa_nil))
        (pss_cons (ps_for PassesOwn.never rfl (pi_list (pv 2)) (pg_name (i := 5) scCounts.nd rfl (.inr rfl))
          (pss_one (ps_set (i := 4) scCounts.nd rfl (.inl rfl) (pe_op op_cat (pv 4) (pe_lc (own := [("_law_part", 6)]) (g := gName 6) (tt := tYes) rfl scCounts.nd
            (pi_range2 (by rfl) B.range (pa_cons pe_int (pa_cons (pe_op op_add (pv 3) pe_int) pa_nil)))
            (blkOk_by (own := [("_law_part", 6)]) (N := ["_law_wide", "_law_whole", "_law_found", "_law_size", "_law_more", "_law_one", "_law_part"]) (sc := defScope sCounts) (by decide +kernel))
            (fun _ _ _ _ _ => pg_name (i := 6) scCounts.nd rfl (Or.inl rfl)) (fun _ _ _ _ _ => pts_nil) (fun _ _ _ _ _ => pe_op op_mul (pv 5) (pv 6)))))))
        (pss_one (ps_set (i := 2) scCounts.nd rfl (.inl rfl) (pe_callB (cr_sortSet rfl) (by rfl) B.sorted boot_sorted (pa_cons (pe_callTy (cr_setL rfl) (by rfl) B.set boot_set (pa_cons (pv 4) pa_nil)) pa_nil)))))))
      (pss_one (ps_ret (pv 2)))), ?_⟩
    refine ⟨_, rfl, by show 1 ≤ sizeLine; decide, fun F0 nF0 => ?_⟩
    refine ⟨_, rfl, t, rfl, ⟨_, SqT.of (same_upd nF0 _ _ hT)⟩, ?_⟩
    refine for_tup (K := K) (a := t) (xs := ss.map V.int) (fun i σ H' => Same H H' ∧ ∃ (F : Addr) (cs : List Int), H F = none ∧ H' F = some (.lst (cs.map V.int)) ∧ Cnt w0 (ss.take i) cs ∧ cs.length ≤ 4000 ∧ ∃ a b c d, σ = [some (.ref t), some (.int w0), some (.ref F), a, b, c, d])
      ⟨same_upd nF0, F0, [w0], nF0, upd_same, ⟨by simp, fun c => ?_⟩, by simp, none, none, none, none, rfl⟩ (fun i σ H' _ h => SqT.of (h.1 _ _ hT)) ?_ ?_
    · rw [List.mem_singleton]
      constructor
      · intro e
        exact ⟨1, rfl, by omega⟩
      · rintro ⟨x, hx, rfl⟩
        have hx : x = 1 := hx
        rw [hx]
        omega
    · rintro i x σ H1 hx ⟨s1, F, cs, nF, hF, cnt, _, a, b, c, d, rfl⟩
      obtain ⟨z, gz, rfl⟩ := int_at hx
      have bz := hb z (List.mem_of_getElem? gz)
      have hi : i < ss.length := (List.getElem?_eq_some_iff.mp gz).1
      have l382 : cs.length ≤ 382 := few_products (w := w0) (ss := ss.take i) (by rw [List.length_take]; omega) (sm9.take i) cnt.1 fun c hc => (cnt.2 c).mp hc
      -- more = []
      refine ⟨Nat.zero_le _, fun M nM => ?_⟩
      have sM : Same H1 (upd H1 M (.lst [])) := same_upd nM
      refine ⟨_, rfl, F, rfl, ⟨_, SqL.of (sM _ _ hF)⟩, ?_⟩
      refine for_list (K := K) (a := F) (xs := cs.map V.int) (fun j σ H' => Same H1 H' ∧ ∃ (M' : Addr) (ms : List Int), H' M' = some (.lst (ms.map V.int)) ∧ ms.length = j * z.toNat ∧ (∀ c, c ∈ ms ↔ ∃ o ∈ cs.take j, ∃ p, 1 ≤ p ∧ p ≤ z ∧ c = o * p) ∧
          ∃ u v, σ = [some (.ref t), some (.int w0), some (.ref F), some (.int z), some (.ref M'), u, v])
        ⟨sM, M, [], upd_same, by simp, by simp, c, d, rfl⟩ (fun j σ H' _ h => SqL.of (h.1 _ _ hF)) ?_ ?_
      · rintro j y σ H2 hy ⟨s2, M', ms, hM, lm, mm, u, v, rfl⟩
        obtain ⟨o, go, rfl⟩ := int_at hy
        have hj : j < cs.length := (List.getElem?_eq_some_iff.mp go).1
        refine ⟨_, rfl, _, rfl, z, 1, rfl, rfl, ?_⟩
        refine ⟨1, z + 1, rfl, ⟨by omega, by omega, by omega, by omega⟩, fun D nD => ?_⟩
        rw [show (z + 1 - 1).toNat = z.toNat by omega]
        refine lc_range (lo := 1) (n := z.toNat) (fun e H' => Same H2 H' ∧ H' D = some (.lst ((((rg 1 (z + 1)).take e).map fun p => o * p).map V.int))) ⟨same_upd nD, upd_same⟩ ?_ ?_
        · rintro e H3 he ⟨s3, hD⟩
          have ge : (rg 1 (z + 1))[e]? = some (1 + (e : Int)) := rg_get 1 (z + 1) e (by omega)
          refine ⟨rfl, tyes ⟨_, rfl, _, rfl, o, 1 + (e : Int), rfl, rfl, .inr ⟨by omega, by omega⟩, _, hD, ?_, Same.put s3 nD, ?_⟩⟩
          · rw [List.length_map, List.length_map, List.length_take, rg_length]
            exact small1000 (by omega)
          · rw [upd_same, List.take_add_one, ge, List.map_append, List.map_append]
            rfl
        · rintro H3 ⟨s3, hD⟩
          rw [List.take_of_length_le (by rw [rg_length]; omega)] at hD
          refine ⟨M', D, _, _, rfl, rfl, s3 _ _ hM, hD, ?_, fun M2 nM2 => ⟨(s2.trans s3).trans (same_upd nM2), M2, ms ++ (rg 1 (z + 1)).map (fun p => o * p), ?_, ?_, fun c => ?_, _, _, rfl⟩⟩
          · rw [List.length_map, List.length_map, List.length_map, rg_length, lm]
            have h1 : j * z.toNat ≤ 382 * 9 := Nat.mul_le_mul (by omega) (by omega)
            exact Nat.le_trans (show j * z.toNat + (z + 1 - 1).toNat ≤ 4000 by omega) (by decide)
          · rw [upd_same, List.map_append]
          · rw [List.length_append, List.length_map, rg_length, lm, Nat.add_mul]
            omega
          · rw [List.mem_append, mm, List.take_add_one, go, List.mem_map]
            constructor
            · rintro (⟨o', ho', p, h1, h2, e⟩ | ⟨p, hp, e⟩)
              · exact ⟨o', List.mem_append_left _ ho', p, h1, h2, e⟩
              · have := rg_mem.mp hp
                exact ⟨o, List.mem_append_right _ (by simp), p, by omega, by omega, e.symm⟩
            · rintro ⟨o', ho', p, h1, h2, e⟩
              rcases List.mem_append.mp ho' with m | m
              · exact .inl ⟨o', m, p, h1, h2, e⟩
              · have eo : o' = o := by simpa using m
                subst eo
                exact .inr ⟨p, rg_mem.mpr (by omega), e.symm⟩
      · rintro σ H2 ⟨s2, M', ms, hM, lm, mm, u, v, rfl⟩
        rw [List.length_map] at lm mm
        rw [List.take_length] at mm
        have short : ms.length ≤ 3438 := by
          have h1 : cs.length * z.toNat ≤ 382 * 9 := Nat.mul_le_mul l382 (by omega)
          omega
        -- found = sorted(set(more))
        refine ⟨_, rfl, M', ms, rfl, SqL.of hM, by show ms.length + 1 < 4096; omega, fun p3 n3c n3 => ⟨p3, _, n3c, rfl, upd_same, fun ns p4 up mem n4 => ?_⟩⟩
        have s4 : Same H1 (upd (upd H2 p3 (SetO w p3 (fun j => decide (j ∈ ms)) n3c)) p4 (.lst (ns.map V.int))) := s2.trans ((same_upd n3).trans (same_upd n4))
        have mem2 : ∀ c, c ∈ ns ↔ c ∈ ms := fun c => (mem c).trans decide_eq_true_iff
        have n4H : H p4 = none := by
          have a1 : (upd H2 p3 (SetO w p3 (fun j => decide (j ∈ ms)) n3c)) p4 = none := n4
          have a2 : H2 p4 = none := (same_upd (o := SetO w p3 (fun j => decide (j ∈ ms)) n3c) n3).free a1
          exact s1.free (s2.free a2)
        refine ⟨s1.trans s4, p4, ns, n4H, upd_same, ?_, ?_, _, _, _, _, rfl⟩
        · rw [List.take_add_one, gz]
          exact cnt.grow mm up mem2
        · have := nodup_le (m := ms) (up.imp fun {a b} q => Int.ne_of_lt q) fun c hc => (mem2 c).mp hc
          omega
    · rintro σ H1 ⟨s1, F, cs, nF, hF, cnt, l4, a, b, c, d, rfl⟩
      rw [List.length_map, List.take_length] at cnt
      refine ⟨_, rfl, k H1 F cs s1 nF hF cnt l4 fun e => ?_⟩
      have := (cnt.2 (w0 * 1)).mpr ⟨1, PV_one fun s hs => (hb s hs).1, rfl⟩
      rw [e] at this
      cases this
end
end Cd

set_option maxRecDepth 100000
set_option maxHeartbeats 4000000
/-! The law's last loop: each value is judged as it is due. -/
namespace Cd
open PySem PySem.Spec PyProof.Rows L2

abbrev lawN : List Str := ["_law_script", "_law_row", "_law_nest_here", "_law_some", "_law_count", "_law_found", "_law_base", "_law_at", "_law_values", "_law_x", "_law_value", "_law_due", "_law_k", "_law_one"]
theorem scLaw : FnScope lawN ["_law_script"] (defScope sLaw) := ⟨rfl, rfl, rfl, by decide +kernel, rfl, by decide +kernel, by decide +kernel⟩
def lawSt (i : Nat) : Stmt := (defBody sLaw).getD i (.Pass ⟨0, 0, 0, 0⟩)
/-- the law's slots behind the making of the values -/
abbrev sg (a R t S : Addr) (c : Int) (fv : V) (bq : Addr) (at_ : Nat) (Vl : Addr) (x9 x10 x11 x12 x13 : Option V) : L2.St :=
  [some (.ref a), some (.ref R), some (.ref t), some (.ref S), some (.int c), some fv, some (.ref bq), some (.int (at_ : Int)), some (.ref Vl), x9, x10, x11, x12, x13]

/-! ### what is due -/
def outB (s : Int) (x : Int) : Bool := decide (x < 0) || decide (s ≤ x)
def Itm.okB (s : Int) : Itm → Bool
  | .tup r => upp r && decide (r.filter (outB s) = [])
  | .lst _ => false
def okB : List Itm → List Int → Bool
  | it :: its, s :: ss => it.okB s && okB its ss
  | _, _ => true
theorem okB_take : ∀ {its : List Itm} {ss : List Int} {i : Nat} {it : Itm} {s : Int}, its[i]? = some it → ss[i]? = some s → okB (its.take (i + 1)) (ss.take (i + 1)) = (okB (its.take i) (ss.take i) && it.okB s)
  | [], _, _, _, _, h, _ => by simp at h
  | _ :: _, [], _, _, _, _, h => by simp at h
  | it :: its, s :: ss, 0, it', s', h1, h2 => by
    cases h1
    cases h2
    simp [okB]
  | it :: its, s :: ss, i + 1, it', s', h1, h2 => by
    have ih := okB_take (its := its) (ss := ss) (i := i) (it := it') (s := s') (by simpa using h1) (by simpa using h2)
    show (it.okB s && okB (its.take (i + 1)) (ss.take (i + 1))) = ((it.okB s && okB (its.take i) (ss.take i)) && it'.okB s')
    rw [ih, Bool.and_assoc]
theorem okItm_iff {r : List Int} {s : Int} (hs : s ≤ 9) : (Itm.tup r).okB s = (isSetB r && r.all fun x => decide (x < s)) := by
  rw [Bool.eq_iff_iff]
  show (upp r && decide (r.filter (outB s) = [])) = true ↔ ((r.all (fun x => decide (0 ≤ x) && decide (x ≤ 8)) && upp r) && r.all fun x => decide (x < s)) = true
  rw [Bool.and_eq_true, Bool.and_eq_true, Bool.and_eq_true, decide_eq_true_eq, List.filter_eq_nil_iff, List.all_eq_true, List.all_eq_true]
  constructor
  · rintro ⟨h1, h2⟩
    have ins : ∀ x ∈ r, 0 ≤ x ∧ x < s := fun x hx => by
      have q := h2 x hx
      unfold outB at q
      rw [Bool.or_eq_true, decide_eq_true_eq, decide_eq_true_eq] at q
      omega
    refine ⟨⟨fun x hx => ?_, h1⟩, fun x hx => decide_eq_true (ins x hx).2⟩
    have := ins x hx
    rw [Bool.and_eq_true, decide_eq_true_eq, decide_eq_true_eq]
    omega
  · rintro ⟨⟨h1, h2⟩, h3⟩
    refine ⟨h2, fun x hx => ?_⟩
    have q1 := h1 x hx
    have q2 := of_decide_eq_true (h3 x hx)
    rw [Bool.and_eq_true, decide_eq_true_eq, decide_eq_true_eq] at q1
    unfold outB
    rw [Bool.or_eq_true, decide_eq_true_eq, decide_eq_true_eq]
    omega
theorem okB_eq : ∀ {its : List Itm} {ss : List Int}, its.length = ss.length → (∀ s ∈ ss, s ≤ 9) → okB its ss = (its.all Itm.set && belowB its ss)
  | [], [], _, _ => rfl
  | [], _ :: _, h, _ => by simp at h
  | _ :: _, [], h, _ => by simp at h
  | it :: its, s :: ss, h, hs => by
    have ih := okB_eq (its := its) (ss := ss) (by simpa using h) fun t ht => hs t (List.mem_cons_of_mem _ ht)
    show (it.okB s && okB its ss) = ((it.set && its.all Itm.set) && (it.ints.all (fun x => decide (x < s)) && belowB its ss))
    rw [ih]
    cases it with
    | tup r =>
      rw [okItm_iff (hs s List.mem_cons_self)]
      show ((isSetB r && r.all fun x => decide (x < s)) && (its.all Itm.set && belowB its ss)) = ((isSetB r && its.all Itm.set) && (r.all (fun x => decide (x < s)) && belowB its ss))
      cases isSetB r <;> cases r.all (fun x => decide (x < s)) <;> cases its.all Itm.set <;> cases belowB its ss <;> rfl
    | lst r =>
      show (false && _) = ((false && _) && _)
      rw [Bool.false_and, Bool.false_and, Bool.false_and]
/-- where all is as it should be, the items are tuples that are sets below the sizes -/
theorem okB_rows : ∀ {its : List Itm} {ss : List Int}, its.length = ss.length → (∀ s ∈ ss, s ≤ 9) → okB its ss = true → ∃ rs : List (List Int), its = rs.map Itm.tup ∧ (∀ r ∈ rs, isSetB r = true) ∧ ∀ (i : Nat) (r : List Int) (s : Int), rs[i]? = some r → ss[i]? = some s → ∀ x ∈ r, x < s
  | [], ss, _, _, _ => ⟨[], rfl, (fun r hr => nomatch hr), fun i r s h => by simp at h⟩
  | _ :: _, [], h, _, _ => by simp at h
  | it :: its, s :: ss, h, hs, ok => by
    have ok : (it.okB s && okB its ss) = true := ok
    rw [Bool.and_eq_true] at ok
    obtain ⟨rs, e, h1, h2⟩ := okB_rows (its := its) (ss := ss) (by simpa using h) (fun t ht => hs t (List.mem_cons_of_mem _ ht)) ok.2
    cases it with
    | lst r => exact nomatch ok.1
    | tup r =>
      have o := ok.1
      rw [okItm_iff (hs s List.mem_cons_self), Bool.and_eq_true, List.all_eq_true] at o
      refine ⟨r :: rs, by rw [e]; rfl, fun r' hr => ?_, fun i r' s' e1 e2 => ?_⟩
      · rcases List.mem_cons.mp hr with e | hr
        · rw [e]
          exact o.1
        · exact h1 r' hr
      · cases i with
        | zero =>
          cases e1
          cases e2
          exact fun x hx => of_decide_eq_true (o.2 x hx)
        | succ i => exact h2 i r' s' (by simpa using e1) (by simpa using e2)
theorem inV_ints (c : Int) : ∀ cs : List Int, inV (.int c) (cs.map V.int) = decide (c ∈ cs)
  | [] => rfl
  | d :: cs => by
    have ih := inV_ints c cs
    show ((d == c) || inV (.int c) (cs.map V.int)) = decide (c ∈ d :: cs)
    rw [ih, Bool.eq_iff_iff, Bool.or_eq_true, decide_eq_true_eq, decide_eq_true_eq, beq_iff_eq, List.mem_cons]
    constructor
    · rintro (e | e)
      · exact .inl e.symm
      · exact .inr e
    · rintro (e | e)
      · exact .inl e.symm
      · exact .inr e
theorem flat_ints (cs : List Int) : (cs.map V.int).all flatV = true := by
  rw [List.all_map]
  exact List.all_eq_true.mpr fun _ _ => rfl
/-- whether a count is among the counts, and whether it can be wished -/
theorem cnt_wish {ns : Nst} (ok : NestOk ns) {cs : List Int} (h : Cnt (whole ns) (szs ns) cs) (c : Int) : (!decide (c ∈ cs)) = (wishO ns c).isNone := by
  have q : c ∈ cs ↔ (wishO ns c).isSome = true := (h.2 c).trans (wishO_iff ok).symm
  cases e : wishO ns c with
  | none =>
    rw [e] at q
    rw [decide_eq_false fun z => nomatch q.mp z]
    rfl
  | some l =>
    rw [e] at q
    rw [decide_eq_true (q.mpr rfl)]
    rfl
theorem lensI_tup (rs : List (List Int)) : lensI (rs.map Itm.tup) = lens rs := by
  unfold lensI lens
  rw [List.map_map]
  rfl
theorem pair_at {H : Hp} : ∀ {xs : List V} {vas : List Va} {i : Nat} {x : V}, Paired (VaAt H) xs vas → xs[i]? = some x → ∃ va ∈ vas, VaAt H x va
  | _, _, _, _, .nil, e => by simp at e
  | _, _, 0, _, .cons r _, e => by
    cases e
    exact ⟨_, List.mem_cons_self, r⟩
  | _, _, i + 1, x, .cons _ t, e => by
    obtain ⟨va, h1, h2⟩ := pair_at (i := i) (x := x) t (by simpa using e)
    exact ⟨va, List.mem_cons_of_mem _ h1, h2⟩

/-- the defs that the law's last loop calls -/
structure Prog (K : PySem.W.Frag) (mg : Str → Option Value) where
  B : Bi mg
  isIn : LIsIn K mg
  needNest : LNeedNest K mg
  isSet : LIsSet K mg
  needNumbers : LNeedNumbers K mg
  sizesIn : LSizesIn K mg
  sizes : LSizes K mg
  product : LProduct K mg
  mixingsIn : LMixingsIn K mg
  mixings : LMixings K mg
  keptIn : LKeptIn K mg
  orderCount : LOrderCount K mg
  needCount : LNeedCount K mg
  parts : LParts K mg
  wished : LWished K mg
  numbersWith : LNumbersWith K mg
  shows : LShows K mg
  taken : LTaken K mg
  pick : LPick K mg
  nest : LNest K mg
  counts : LCounts K mg
  isVector : LIsVector K mg
  alike : LAlike K mg

section
variable {P : Program} {w : World} {K : PySem.W.Frag} {mg : Str → Option Value} {base : Heap}
/-- a loop over range(0) -/
theorem no_turn {g : TG} {tb : TS} {D : Ends} {σ : L2.St} {H : Hp} (h : D.nx σ H) :
    ∃ W : Nat → Nat → L2.St → Hp → Prop, (∃ m, W 0 m σ H) ∧ ∀ i m σ H, W i m σ H →
      ((Itr 0 (0 : Int).toNat).stop i H ∧ D.nx σ H) ∨ ((Itr 0 (0 : Int).toNat).go i H ∧ ∃ N : L2.St → Hp → Prop, (∀ σ' H', N σ' H' → ∃ m', m' < m ∧ W (i + 1) m' σ' H') ∧ ∀ x H', (Itr 0 (0 : Int).toNat).yld i H x H' → g x σ H' fun σ2 H2 => tb { D with nx := N, ct := N, bk := D.nx } σ2 H2) :=
  for_range (lo := 0) (n := 0) (fun _ σ' H' => σ' = σ ∧ H' = H) ⟨rfl, rfl⟩ (fun i _ _ hi => absurd hi (Nat.not_lt_zero i)) fun σ' H' e => by
    rw [e.1, e.2]
    exact h
/-- the last test of a turn -/
theorem judge_fin {D : Ends} {H : Hp} {a R t S bq Vl : Addr} {c : Int} {fv x : V} {at_ : Nat} {ns : Nst} {va : Va} {due : Bool} {w9 w12 w13 : Option V} (hN : NestAt H t ns) (c1 : 1 ≤ c) (c2 : c ≤ 1000000) (hV : VaAt H x va) (sh : va.short) (e : showsB ns c va = due)
    (k : ∀ H', Same H H' → D.nx (sg a R t S c fv bq at_ Vl w9 (some x) (some (.bl due)) w12 w13) H') :
    tIfS (tNot (tB (tCall spAlike [] E0 (tCons (tCall spShows [] E0 (tCons (tVar 2) (tCons (tVar 4) (tCons (tVar 10) tNil)))) (tCons (tVar 11) tNil))))) (tRet (tC (.bl false))) tNext D (sg a R t S c fv bq at_ Vl w9 (some x) (some (.bl due)) w12 w13) H := by
  refine ⟨_, rfl, _, rfl, _, rfl, t, ns, c, x, va, rfl, hN, c1, c2, hV, sh, fun H6 s6 => ⟨_, rfl, showsB ns c va, due, rfl, fun H7 s7 => ⟨_, rfl, ?_⟩⟩⟩
  rw [decide_eq_true e]
  exact iteF (k H7 (s6.trans s7))
set_option maxHeartbeats 16000000 in
theorem law_judge (p : Prog K mg) {f : Addr} {cdv : Value} {A : Around} {outer : List Env} {s : Shared} {H : Hp} {E : XK} (hr : Room 12 (A.deeper (envOfC "law" (defScope sLaw) s.heap.objs.size f cdv))) :
    ∃ tS, PS (cxOf CX0 P w K mg base lawN "law" (defScope sLaw) f cdv A outer s H E).nox (lawSt 11) tS ∧
      ∀ (D : Ends) (H1 : Hp) (a R t S : Addr) (c : Int) (fv : V) (bq : Addr) (at_ : Nat) (Vl : Addr) (ns : Nst) (cs : List Int) (xs : List V) (vas : List Va) (y9 y10 y11 y12 y13 : Option V),
        NestAt H1 t ns → H1 S = some (.lst (cs.map V.int)) → Cnt (whole ns) (szs ns) cs → 1 ≤ c → c ≤ 1000000 → H1 Vl = some (.lst xs) → Paired (VaAt H1) xs vas → (∀ va ∈ vas, va.short) →
        (∀ H' x9 x10 x11 x12 x13, Same H1 H' → D.nx (sg a R t S c fv bq at_ Vl x9 x10 x11 x12 x13) H') → tS D (sg a R t S c fv bq at_ Vl y9 y10 y11 y12 y13) H1 := by
  have B := p.B
  have G1 := ok_isVector (P := P) (w := w) (base := base) p.isVector B
  have G2 := ok_sizes (P := P) (w := w) (base := base) p.sizes B p.isIn p.needNest p.sizesIn
  have G3 := ok_orderCount (P := P) (w := w) (base := base) p.orderCount B p.isIn p.needNest p.isSet p.needNumbers p.mixingsIn p.sizesIn p.product p.keptIn
  have G4 := ok_shows (P := P) (w := w) (base := base) p.shows B p.isIn p.needNest p.needCount p.isSet p.wished p.mixingsIn p.sizesIn p.product p.parts
  have G5 := ok_alike (P := P) (w := w) (base := base) p.alike B
  refine ⟨_, ps_for PassesOwn.never rfl (pi_list (pv 8)) (pg_name (i := 10) scLaw.nd rfl (.inl rfl))
    (pss_cons (ps_set (i := 11) scLaw.nd rfl (.inl rfl) (pe_ifExp (pt_cmpR op_isN (pv 10) pe_non (nomark _)) (pe_cmpR op_notIn_seq (pv 4) (pv 3) (by rfl))
      (pe_and (pe_isi (pv 10) B boot_tuple B.tuple) (pe_one (pe_cmpR op_eq (pe_callB call_len_seq (by rfl) B.len PySem.boot_len (pa_cons (pv 10) pa_nil)) (pe_callB call_len_seq (by rfl) B.len PySem.boot_len (pa_cons (pv 2) pa_nil)) (nomark _))))))
    (pss_cons (ps_for PassesOwn.never rfl (pi_range1 (by rfl) B.range (pa_cons (pe_ifExp (PW.pt (pw_and (pt_val (pv 11)) (pw_and1 (pt_cmpR op_notN (pv 10) pe_non (nomark _))))) (pe_callB call_len_seq (by rfl) B.len PySem.boot_len (pa_cons (pv 2) pa_nil)) pe_int) pa_nil)) (pg_name (i := 12) scLaw.nd rfl (.inr rfl))
      (pss_cons (ps_set (i := 13) scLaw.nd rfl (.inl rfl) (pe_ix ix_tup (pv 10) (pv 12) (fun _ _ => rfl)))
      (pss_cons (ps_set (i := 11) scLaw.nd rfl (.inl rfl) (pe_and (pv 11) (pe_and (pe_isi (pv 13) B boot_tuple B.tuple) (pe_and (pe_fn p.isVector G1 (hr.mono (by decide)) (pa_cons (pv 13) (pa_cons (pe_callB call_len_seq (by rfl) B.len PySem.boot_len (pa_cons (pv 13) pa_nil)) pa_nil)))
        (pe_one (pe_cmpR (op_eqI hr.units) (pe_callTy call_list_of (by rfl) B.list boot_list (pa_cons (pv 13) pa_nil)) (pe_callB (cr_sortSet rfl) (by rfl) B.sorted boot_sorted (pa_cons (pe_callTy (cr_setT rfl) (by rfl) B.set boot_set (pa_cons (pv 13) pa_nil)) pa_nil)) (nomark _)))))))
      (pss_one (ps_set (i := 11) scLaw.nd rfl (.inl rfl) (pe_and (pv 11) (pe_one (pe_cmpR (op_eqI hr.units) (pe_lc (own := [("_law_x", 9)]) (g := gName 9)
        (tt := tOr (tTest (tOp (rI0 fun i j => .bl (decide (i < j))) (tVar 9) (tC (.int 0)))) (tTest (tOp (rI0 fun i j => .bl (decide (j ≤ i))) (tVar 9) (tOp (rIxT K) (tCall spSizes [] E0 (tCons (tVar 2) tNil)) (tVar 12)))))
        rfl scLaw.nd (pi_tup (pv 13)) (blkOk_by (own := [("_law_x", 9)]) (N := lawN) (sc := defScope sLaw) (by decide +kernel)) (fun _ _ _ _ _ => pg_name (i := 9) scLaw.nd rfl (Or.inl rfl))
        (fun _ _ _ _ _ => pts_one (PW.pt (pw_or (pt_cmpR op_lt (pv 9) pe_int (nomark _)) (pw_or1 (pt_cmpR op_ge (pv 9) (pe_ix ix_tup (pe_fn p.sizes G2 (hr.mono (by decide)) (pa_cons (pv 2) pa_nil)) (pv 12) (fun _ _ => rfl)) (nomark _))))))
        (fun _ _ _ _ _ => pv 9)) (pe_lst pa_nil) (nomark _)))))))))
    (pss_cons (ps_set (i := 11) scLaw.nd rfl (.inl rfl) (pe_and (pv 11) (pe_one (pe_or (pe_cmpR op_isN (pv 10) pe_non (nomark _)) (pe_one (pe_cmpR op_eq (pe_fn p.orderCount G3 (hr.mono (by decide)) (pa_cons (pv 2) (pa_cons (pv 10) pa_nil))) (pv 4) (nomark _)))))))
    (pss_one (ps_if (pt_not (pt_val (pe_fn p.alike G5 (hr.mono (by decide)) (pa_cons (pe_fn p.shows G4 hr (pa_cons (pv 2) (pa_cons (pv 4) (pa_cons (pv 10) pa_nil)))) (pa_cons (pv 11) pa_nil))))) (pss_one (ps_ret pe_bl)) pss_nil))))), ?_⟩
  intro D H1 a R t S c fv bq at_ Vl ns cs xs vas y9 y10 y11 y12 y13 hN hS hC c1 c2 hVl hvs hsh k
  have lS := szs_length ns
  have lN : (ns.map nv).length = ns.length := List.length_map ..
  have n9 : ∀ s ∈ szs ns, s ≤ 9 := fun s hs => (szs_mem hN.2 hs).2
  refine ⟨_, rfl, Vl, rfl, ⟨_, SqL.of hVl⟩, ?_⟩
  refine for_list (K := K) (a := Vl) (xs := xs) (fun i σ H' => Same H1 H' ∧ ∃ x9 x10 x11 x12 x13, σ = sg a R t S c fv bq at_ Vl x9 x10 x11 x12 x13) ⟨Same.refl H1, y9, y10, y11, y12, y13, rfl⟩ (fun i σ H' _ h => SqL.of (h.1 _ _ hVl)) ?_ ?_
  case refine_2 =>
    rintro σ H' ⟨sm, x9, x10, x11, x12, x13, rfl⟩
    exact k H' x9 x10 x11 x12 x13 sm
  rintro i x σ H2 hx ⟨s2, z9, z10, z11, z12, z13, rfl⟩
  obtain ⟨va, hva, hV⟩ := pair_at hvs hx
  have sh := hsh va hva
  have hV2 := hV.same s2
  have hN2 := hN.same s2
  have hS2 := s2 _ _ hS
  cases va with
  | non =>
    cases (show x = V.non from hV)
    refine ⟨_, rfl, rfl, _, rfl, ?_⟩
    rw [decide_eq_true (show V.non = V.non from rfl)]
    refine iteT ⟨_, rfl, _, rfl, S, cs.map V.int, rfl, .inl (SqL.of hS2), rfl, flat_ints cs, ?_⟩
    rw [inV_ints]
    have ew := cnt_wish hN.2 hC c
    refine ⟨_, rfl, !decide (c ∈ cs), rfl, ite2 (fun e => ?_) (fun e => ?_)⟩
    · refine ⟨_, rfl, rfl, _, rfl, ?_⟩
      rw [decide_eq_true (show V.non = V.non from rfl)]
      refine iteF ⟨0, rfl, by omega, by omega, no_turn ?_⟩
      refine ⟨_, rfl, !decide (c ∈ cs), rfl, ?_⟩
      rw [e]
      refine iteT ⟨_, rfl, rfl, _, rfl, ?_⟩
      rw [decide_eq_true (show V.non = V.non from rfl)]
      refine iteT ?_
      exact judge_fin (va := .non) hN2 c1 c2 hV2 sh (ew.symm.trans e) fun H' s' => ⟨s2.trans s', _, _, _, _, _, rfl⟩
    · have e := Bool.eq_false_iff.mpr e
      refine iteF ⟨0, rfl, by omega, by omega, no_turn ?_⟩
      refine ⟨_, rfl, !decide (c ∈ cs), rfl, ?_⟩
      rw [e]
      refine iteF ?_
      exact judge_fin (va := .non) hN2 c1 c2 hV2 sh (ew.symm.trans e) fun H' s' => ⟨s2.trans s', _, _, _, _, _, rfl⟩
  | oth =>
    obtain ⟨nn, tn, ty, kb⟩ : x ≠ .non ∧ ∃ tn, TyX K H2 x (.type tn) ∧ kitB tn "tuple" = some false := by
      rcases hV2 with ⟨i, rfl⟩ | ⟨a, xs, rfl, h⟩ | ⟨a, kvs, rfl, h⟩
      · exact ⟨fun z => (nomatch z), "int", ty_int, k_it⟩
      · exact ⟨fun z => (nomatch z), "list", ty_lst h, k_lt⟩
      · exact ⟨fun z => (nomatch z), "dict", ty_dK h, k_dt⟩
    refine ⟨_, rfl, rfl, _, rfl, ?_⟩
    rw [decide_eq_false nn]
    refine iteF ⟨_, rfl, _, tn, false, rfl, ty, kb, false, rfl, iteF ?_⟩
    refine ⟨_, rfl, false, rfl, iteF (iteF ⟨0, rfl, by omega, by omega, no_turn ?_⟩)⟩
    refine ⟨_, rfl, false, rfl, iteF ?_⟩
    exact judge_fin (va := .oth) hN2 c1 c2 hV2 sh rfl fun H' s' => ⟨s2.trans s', _, _, _, _, _, rfl⟩
  | tups its =>
    have hV2' := hV2
    obtain ⟨q, rfl, as, hq, rows⟩ := hV2
    obtain ⟨shL, shI⟩ := sh
    have lenA : (as.map V.ref).length = its.length := by rw [List.length_map, rows.length]
    refine ⟨_, rfl, rfl, _, rfl, ?_⟩
    rw [decide_eq_false (show ¬ V.ref q = V.non from fun z => nomatch z)]
    refine iteF ⟨_, rfl, _, "tuple", true, rfl, ty_tup hq, k_tt, true, rfl, iteT ?_⟩
    refine ⟨_, rfl, q, _, rfl, .inr (SqT.of hq), _, rfl, t, _, rfl, .inr (SqT.of hN2.1), rfl, ?_⟩
    rw [lenA, lN]
    by_cases hl : its.length = ns.length
    · rw [hl, decide_eq_true (show V.int ((ns.length : Nat) : Int) = V.int ((ns.length : Nat) : Int) from rfl)]
      refine ⟨_, rfl, true, rfl, iteT ⟨_, rfl, rfl, _, rfl, ?_⟩⟩
      rw [decide_eq_false (show ¬ V.ref q = V.non from fun z => nomatch z)]
      refine iteT ⟨_, rfl, t, _, rfl, .inr (SqT.of hN2.1), ?_⟩
      rw [lN]
      refine ⟨(ns.length : Int), rfl, by omega, by have := hN.2.2.1; omega, ?_⟩
      rw [Int.toNat_natCast]
      refine for_range (lo := 0) (n := ns.length) (fun j σ H' => Same H2 H' ∧ ∃ x9 x12 x13, σ = sg a R t S c fv bq at_ Vl x9 (some (.ref q)) (some (.bl (okB (its.take j) ((szs ns).take j)))) x12 x13)
        ⟨Same.refl H2, _, _, _, rfl⟩ ?_ ?_
      · rintro j σ H3 hj ⟨s3, x9, x12, x13, rfl⟩
        have e0 : (0 : Int) + (j : Int) = (j : Int) := Int.zero_add _
        show gName 12 (.int (0 + (j : Int))) _ _ _
        rw [e0]
        have lt : j < its.length := by omega
        have gi := List.getElem?_eq_getElem lt
        have gz : (szs ns)[j]? = some (szs ns)[j] := List.getElem?_eq_getElem (by omega)
        have step := okB_take gi gz
        obtain ⟨o, ho, hor⟩ := rows.get gi
        have go : (as.map V.ref)[j]? = some (.ref o) := by
          rw [List.getElem?_map, ho]
          rfl
        have hor3 := s3 _ _ hor
        -- one = value[k]
        refine ⟨_, rfl, _, rfl, q, _, (j : Int), .ref o, rfl, rfl, SqT.of (s3 _ _ hq), atI_nat go, ?_⟩
        -- due, first
        refine ⟨_, rfl, okB (its.take j) ((szs ns).take j), rfl, ite2 (fun e => ?_) (fun e => ?_)⟩
        · rw [e, Bool.true_and] at step
          cases hit : its[j] with
          | lst r =>
            rw [hit] at hor3 step
            refine ⟨_, rfl, _, "list", false, rfl, ty_lst hor3, k_lt, false, rfl, iteF ?_⟩
            refine ⟨_, rfl, false, rfl, iteF ⟨s3, x9, some (.int (j : Int)), some (.ref o), ?_⟩⟩
            rw [step]
            rfl
          | tup r =>
            rw [hit] at hor3 step
            have shr : r.length ≤ 100 := by
              have := shI _ (List.getElem_mem lt)
              rw [hit] at this
              exact this
            have lr : (r.map V.int).length = r.length := List.length_map ..
            refine ⟨_, rfl, _, "tuple", true, rfl, ty_tup hor3, k_tt, true, rfl, iteT ?_⟩
            refine ⟨_, rfl, _, rfl, o, _, rfl, .inr (SqT.of hor3), o, r, ?_, hor3, fun H4 s4 => ⟨true, rfl, iteT ?_⟩⟩
            · rw [lr]
              rfl
            have h4 := s4 _ _ hor3
            refine ⟨_, rfl, o, _, rfl, .inr (SqT.of h4), fun l2 n2 => ?_⟩
            have s5 : Same H3 (upd H4 l2 (.lst (r.map V.int))) := s4.trans (same_upd n2)
            refine ⟨_, rfl, o, r, rfl, SqT.of (s5 _ _ hor3), by show r.length + 1 < 4096; omega, fun p3 n3c n3 => ?_⟩
            have s6 := s5.trans (same_upd (o := SetO w p3 (fun j => decide (j ∈ r)) n3c) n3)
            refine ⟨p3, _, n3c, rfl, upd_same, fun ms p4 up mem n4 => ?_⟩
            have s7 := s6.trans (same_upd (o := .lst (ms.map V.int)) n4)
            refine ⟨l2, p4, r, ms, rfl, rfl, SqL.of (same_upd n4 _ _ (same_upd n3 _ _ upd_same)), SqL.of upd_same, ?_⟩
            have eu : decide (r = ms) = upp r := up_dec up fun x => (mem x).trans decide_eq_true_iff
            show gName 11 (.bl (decide (r = ms))) _ _ _
            rw [eu]
            -- due, second
            refine ⟨_, rfl, upp r, rfl, ite2 (fun e2 => ?_) (fun e2 => ?_)⟩
            · refine ⟨_, rfl, o, rfl, ⟨_, SqT.of (s7 _ _ hor3)⟩, fun D nD => ?_⟩
              refine lc_tup (K := K) (a := o) (xs := r.map V.int) (fun e H' => Same (upd (upd (upd H4 l2 (.lst (r.map V.int))) p3 (SetO w p3 (fun j => decide (j ∈ r)) n3c)) p4 (.lst (ms.map V.int))) H' ∧ H' D = some (.lst (((r.take e).filter (outB (szs ns)[j])).map V.int)))
                ⟨same_upd nD, upd_same⟩ (fun e H' _ h => SqT.of (h.1 _ _ (s7 _ _ hor3))) ?_ ?_
              · rintro e3 u H8 hu ⟨s8, hD⟩
                obtain ⟨u, gu, rfl⟩ := int_at hu
                have st := filt_take (f := outB (szs ns)[j]) gu
                have add : ∀ H9, Same H8 H9 → outB (szs ns)[j] u = true → ∃ acc, H9 D = some (.lst acc) ∧ acc.length < sizeLine ∧ Same (upd (upd (upd H4 l2 (.lst (r.map V.int))) p3 (SetO w p3 (fun j => decide (j ∈ r)) n3c)) p4 (.lst (ms.map V.int))) (upd H9 D (.lst (acc ++ [.int u]))) ∧
                    (upd H9 D (.lst (acc ++ [.int u]))) D = some (.lst (((r.take (e3 + 1)).filter (outB (szs ns)[j])).map V.int)) := fun H9 s9 yes => by
                  refine ⟨_, s9 _ _ hD, small_list (by omega), Same.put (s8.trans s9) nD, ?_⟩
                  rw [upd_same, st, if_pos yes, List.map_append]
                  rfl
                refine ⟨rfl, _, rfl, u, 0, rfl, rfl, _, rfl, ite2 (fun e4 => ?_) (fun e4 => ?_)⟩
                · refine iteT ⟨_, rfl, ?_⟩
                  exact add H8 (Same.refl H8) (by unfold outB; rw [e4, Bool.true_or])
                · have hN8 := hN2.same ((s3.trans s7).trans s8)
                  refine ⟨_, rfl, _, rfl, t, ns, rfl, hN8, fun H9 p9 s9 h9 => ⟨_, rfl, p9, _, (j : Int), _, rfl, rfl, SqT.of h9, atI_nat (show ((szs ns).map V.int)[j]? = some (.int (szs ns)[j]) by rw [List.getElem?_map, gz]; rfl), u, (szs ns)[j], rfl, rfl, _, rfl, ite2 (fun e5 => ?_) (fun e5 => ?_)⟩⟩
                  · refine ⟨_, rfl, ?_⟩
                    exact add H9 s9 (by unfold outB; rw [e5, Bool.or_true])
                  · refine ⟨s8.trans s9, ?_⟩
                    have no : outB (szs ns)[j] u = false := by
                      unfold outB
                      rw [Bool.eq_false_iff.mpr e4, Bool.eq_false_iff.mpr e5]
                      rfl
                    rw [st, no, if_neg Bool.false_ne_true, List.append_nil]
                    exact s9 _ _ hD
              · rintro H8 ⟨s8, hD⟩
                rw [lr, List.take_length] at hD
                refine ⟨Nat.zero_le _, fun l9 n9' => ⟨D, l9, _, [], rfl, rfl, SqL.of (same_upd n9' _ _ hD), SqL.of upd_same, (s3.trans s7).trans (s8.trans (same_upd n9')), x9, some (.int (j : Int)), some (.ref o), ?_⟩⟩
                rw [step]
                show _ = sg a R t S c fv bq at_ Vl x9 (some (.ref q)) (some (.bl (upp r && decide (r.filter (outB (szs ns)[j]) = [])))) (some (.int (j : Int))) (some (.ref o))
                rw [e2, Bool.true_and]
                rfl
            · refine ⟨s3.trans s7, x9, some (.int (j : Int)), some (.ref o), ?_⟩
              rw [step]
              show _ = sg a R t S c fv bq at_ Vl x9 (some (.ref q)) (some (.bl (upp r && decide (r.filter (outB (szs ns)[j]) = [])))) (some (.int (j : Int))) (some (.ref o))
              rw [Bool.eq_false_iff.mpr e2, Bool.false_and]
              rfl
        · have e := Bool.eq_false_iff.mpr e
          rw [e, Bool.false_and] at step
          refine ⟨_, rfl, false, rfl, iteF ⟨s3, x9, some (.int (j : Int)), some (.ref o), ?_⟩⟩
          rw [step]
          rfl
      · rintro σ H3 ⟨s3, x9, x12, x13, rfl⟩
        rw [List.take_of_length_le (by omega), List.take_of_length_le (by omega)]
        have s13 := s2.trans s3
        have form : showsB ns c (.tups its) = (okB its (szs ns) && decide (whole ns * pr (lensI its) = c)) := by
          show (decide (its.length = ns.length) && its.all Itm.set && belowB its (szs ns) && decide (whole ns * pr (lensI its) = c)) = _
          rw [okB_eq (by omega) n9, decide_eq_true hl, Bool.true_and]
        refine ⟨_, rfl, okB its (szs ns), rfl, ite2 (fun e => ?_) (fun e => ?_)⟩
        · obtain ⟨rs, er, h1, h2⟩ := okB_rows (its := its) (ss := szs ns) (by omega) n9 e
          refine ⟨_, rfl, rfl, _, rfl, ?_⟩
          rw [decide_eq_false (show ¬ V.ref q = V.non from fun z => nomatch z)]
          have hT3 : TupsAt H3 q (rs.map Itm.tup) := by
            rw [← er]
            exact ⟨as, s3 _ _ hq, rows.same s3⟩
          refine iteF ⟨_, rfl, _, rfl, t, q, ns, rs, rfl, hN.same s13, hT3, by have := congrArg List.length er; rw [List.length_map] at this; omega, h1, h2, fun H4 s4 => ⟨_, rfl, rfl, ?_⟩⟩
          have ed : decide (V.int (whole ns * pr (lens rs)) = V.int c) = decide (whole ns * pr (lens rs) = c) := by
            by_cases e : whole ns * pr (lens rs) = c
            · rw [decide_eq_true e, e, decide_eq_true rfl]
            · rw [decide_eq_false e, decide_eq_false fun z => e (V.int.inj z)]
          rw [ed]
          refine judge_fin (va := .tups its) (hN.same (s13.trans s4)) c1 c2 (hV2'.same (s3.trans s4)) ⟨shL, shI⟩ ?_ fun H' s' => ⟨(s13.trans s4).trans s', _, _, _, _, _, rfl⟩
          rw [form, e, Bool.true_and, er, lensI_tup]
        · have e := Bool.eq_false_iff.mpr e
          rw [e]
          refine judge_fin (va := .tups its) (hN.same s13) c1 c2 (hV2'.same s3) ⟨shL, shI⟩ ?_ fun H' s' => ⟨s13.trans s', _, _, _, _, _, rfl⟩
          rw [form, e, Bool.false_and]
    · rw [decide_eq_false (show ¬ V.int ((its.length : Nat) : Int) = V.int ((ns.length : Nat) : Int) from fun z => hl (by have := V.int.inj z; omega))]
      refine ⟨_, rfl, false, rfl, iteF (iteF ⟨0, rfl, by omega, by omega, no_turn ?_⟩)⟩
      refine ⟨_, rfl, false, rfl, iteF ?_⟩
      refine judge_fin (va := .tups its) hN2 c1 c2 hV2' ⟨shL, shI⟩ ?_ fun H' s' => ⟨s2.trans s', _, _, _, _, _, rfl⟩
      show (decide (its.length = ns.length) && its.all Itm.set && belowB its (szs ns) && decide (whole ns * pr (lensI its) = c)) = false
      rw [decide_eq_false hl, Bool.false_and, Bool.false_and, Bool.false_and]
end
end Cd

set_option maxRecDepth 100000
set_option maxHeartbeats 4000000
/-! The law's values: how they are made. -/
namespace Cd
open PySem PySem.Spec PyProof.Rows L2

/-- the law's slots behind the finding -/
abbrev sf (a R t S : Addr) (c : Int) (fv : V) (x6 x7 x8 x9 x10 x11 x12 x13 : Option V) : L2.St :=
  [some (.ref a), some (.ref R), some (.ref t), some (.ref S), some (.int c), some fv, x6, x7, x8, x9, x10, x11, x12, x13]

/-! ### a heap without what stands at one address -/
def del (H : Hp) (p : Addr) : Hp := fun b => if b = p then none else H b
theorem del_ne {H : Hp} {p b : Addr} (h : b ≠ p) : del H p b = H b := by
  unfold del
  rw [if_neg h]
theorem del_le {H : Hp} {p : Addr} : Same (del H p) H := fun b o e => by
  by_cases h : b = p
  · unfold del at e
    rw [if_pos h] at e
    cases e
  · rw [del_ne h] at e
    exact e
theorem del_upd {H : Hp} {p : Addr} {o : HO} : del (upd H p o) p = del H p := by
  funext b
  by_cases h : b = p
  · unfold del
    rw [if_pos h, if_pos h]
  · rw [del_ne h, del_ne h, upd_ne h]
theorem del_same {H H' : Hp} {p : Addr} (s : Same H H') : Same (del H p) (del H' p) := fun b o e => by
  have h : b ≠ p := fun z => by
    rw [z] at e
    unfold del at e
    rw [if_pos rfl] at e
    cases e
  rw [del_ne h] at e ⊢
  exact s _ _ e
theorem del_new {H H' : Hp} {p : Addr} (s : Same H H') (n : H p = none) : Same H (del H' p) := fun b o e => by
  rw [del_ne (ne_of_none e n)]
  exact s _ _ e
theorem TupsAt.del {H : Hp} {p v : Addr} {rs : List (List Int)} {xs : List V} (h : TupsAt H p (rs.map Itm.tup)) (hv : H v = some (.lst xs)) : TupsAt (del H v) p (rs.map Itm.tup) := by
  obtain ⟨as, h1, h2⟩ := h
  refine ⟨as, ?_, ?_⟩
  · rw [del_ne (ne_of h1 hv (fun z => nomatch z))]
    exact h1
  · have go : ∀ {as : List Addr} {rs : List (List Int)}, Rows H as (rs.map Itm.tup) → Rows (Cd.del H v) as (rs.map Itm.tup) := by
      intro as
      induction as with
      | nil =>
        intro rs h
        cases rs with
        | nil => exact .nil
        | cons r rs => cases h
      | cons a as ih =>
        intro rs h
        cases rs with
        | nil => cases h
        | cons r rs =>
          cases h with
          | cons q t =>
            refine .cons ?_ (ih t)
            rw [del_ne (ne_of q hv (fun z => nomatch z))]
            exact q
    exact go h2
theorem vas_same {H H' : Hp} (s : Same H H') {xs : List V} {vas : List Va} (h : Paired (VaAt H) xs vas) : Paired (VaAt H') xs vas := Paired.mapP h fun _ _ q => q.same s
theorem vas_snoc {H : Hp} {x : V} {va : Va} (hx : VaAt H x va) : ∀ {xs : List V} {vas : List Va}, Paired (VaAt H) xs vas → Paired (VaAt H) (xs ++ [x]) (vas ++ [va])
  | _, _, .nil => .cons hx .nil
  | _, _, .cons q t => .cons q (vas_snoc hx t)
theorem vas_append {H : Hp} : ∀ {xs ys : List V} {vas was : List Va}, Paired (VaAt H) xs vas → Paired (VaAt H) ys was → Paired (VaAt H) (xs ++ ys) (vas ++ was)
  | _, _, _, _, .nil, h => h
  | _, _, _, _, .cons q t, h => .cons q (vas_append t h)
theorem short_tups {rs : List (List Int)} (h1 : rs.length ≤ 20) (h2 : ∀ r ∈ rs, r.length ≤ 20) : (Va.tups (rs.map Itm.tup)).short := by
  refine ⟨by rw [List.length_map]; omega, fun it hit => ?_⟩
  obtain ⟨r, hr, rfl⟩ := List.mem_map.mp hit
  have := h2 r hr
  show r.length ≤ 100
  omega

/-! ### slices and sums of a tuple of rows -/
section
variable {K : PySem.W.Frag} {H : Hp}
theorem cat_tups {a b : Addr} {its jts : List Itm} {Q : VK} (ha : TupsAt H a its) (hb : TupsAt H b jts) (sz : its.length + jts.length ≤ 1000) (hQ : ∀ H' p, Same H H' → TupsAt H' p (its ++ jts) → Q (.ref p) H') : rCatA K (.ref a) (.ref b) H Q := by
  obtain ⟨as, h1, h2⟩ := ha
  obtain ⟨bs, h3, h4⟩ := hb
  have l1 := h2.length
  have l2 := h4.length
  refine ⟨a, b, as.map V.ref, bs.map V.ref, rfl, rfl, SqT.of h1, SqT.of h3, ?_, fun e => ?_, fun _ e => ?_, fun _ _ p np => ?_⟩
  · rw [List.length_map, List.length_map]
    exact Nat.le_of_lt (small1000 (by omega))
  · have e : as = [] := List.map_eq_nil_iff.mp e
    subst e
    have e2 : its = [] := List.eq_nil_of_length_eq_zero l1.symm
    subst e2
    exact hQ H b (Same.refl H) ⟨bs, h3, h4⟩
  · have e : bs = [] := List.map_eq_nil_iff.mp e
    subst e
    have e2 : jts = [] := List.eq_nil_of_length_eq_zero l2.symm
    subst e2
    refine hQ H a (Same.refl H) ⟨as, h1, ?_⟩
    rw [List.append_nil]
    exact h2
  · refine hQ _ p (same_upd np) ⟨as ++ bs, ?_, (Rows.append h2 h4).same (same_upd np)⟩
    rw [upd_same, List.map_append]
theorem cut_to {xs : List V} {n : Nat} (h : n ≤ xs.length) : cutV xs none (some (n : Int)) = xs.take n := by
  unfold cutV
  rw [HT.sIx_none, show HT.sIx xs.length xs.length (some (n : Int)) = min n xs.length from HT.sIx_nat _ _ n, List.drop_zero, Nat.sub_zero, Nat.min_eq_left h]
theorem cut_from {xs : List V} {n : Nat} (h : n ≤ xs.length) : cutV xs (some (n : Int)) none = xs.drop n := by
  unfold cutV
  rw [HT.sIx_none, show HT.sIx xs.length 0 (some (n : Int)) = min n xs.length from HT.sIx_nat _ _ n, Nat.min_eq_left h]
  exact List.take_of_length_le (by rw [List.length_drop]; exact Nat.le_refl _)
theorem slice_to {b : Addr} {its : List Itm} {n : Nat} {Q : VK} (hb : TupsAt H b its) (lt : n < its.length) (hQ : ∀ H' p, Same H H' → TupsAt H' p (its.take n) → Q (.ref p) H') : rSlA K (.ref b) none (some (n : Int)) H Q := by
  obtain ⟨as, h1, h2⟩ := hb
  have l1 := h2.length
  have lm : (as.map V.ref).length = its.length := by rw [List.length_map, l1]
  refine ⟨b, as.map V.ref, rfl, SqT.of h1, fun e => ?_, fun _ p np => ?_⟩
  · have e2 := e.2
    rw [show HT.sIx (as.map V.ref).length (as.map V.ref).length (some (n : Int)) = min n (as.map V.ref).length from HT.sIx_nat _ _ n] at e2
    omega
  · refine hQ _ p (same_upd np) ⟨as.take n, ?_, (Rows.take n h2).same (same_upd np)⟩
    rw [upd_same, cut_to (by omega), List.map_take]
theorem slice_from {b : Addr} {its : List Itm} {n : Nat} {i : Int} {Q : VK} (ei : i = (n : Int)) (hb : TupsAt H b its) (n0 : 0 < n) (le : n ≤ its.length) (hQ : ∀ H' p, Same H H' → TupsAt H' p (its.drop n) → Q (.ref p) H') : rSlA K (.ref b) (some i) none H Q := by
  subst ei
  obtain ⟨as, h1, h2⟩ := hb
  have l1 := h2.length
  have lm : (as.map V.ref).length = its.length := by rw [List.length_map, l1]
  refine ⟨b, as.map V.ref, rfl, SqT.of h1, fun e => ?_, fun _ p np => ?_⟩
  · have e1 := e.1
    rw [show HT.sIx (as.map V.ref).length 0 (some (n : Int)) = min n (as.map V.ref).length from HT.sIx_nat _ _ n] at e1
    omega
  · refine hQ _ p (same_upd np) ⟨as.drop n, ?_, (Rows.drop n h2).same (same_upd np)⟩
    rw [upd_same, cut_from (by omega), List.map_drop]
theorem np_intro {σ : L2.St} {k : Option Int → Hp → Prop} (h : k none H) : tNoPart σ H k := h
/-- base[:at] + (X,) + base[at + 1:] -/
def tPut (K : PySem.W.Frag) (teX : TE) : TE := tOp (rCatA K) (tOp (rCatA K) (tSl (rSlA K) (tVar 6) tNoPart (tPart (tVar 7))) (tTup (tCons teX tNil))) (tSl (rSlA K) (tVar 6) (tPart (tOp (rI0 fun i j => .int (i + j)) (tVar 7) (tC (.int 1)))) tNoPart)
theorem read_put {teX : TE} {σ : L2.St} {Q : VK} {bq : Addr} {n : Nat} {its : List Itm} {it : Itm} (h6 : σ[6]? = some (some (.ref bq))) (h7 : σ[7]? = some (some (.int (n : Int)))) (hb : TupsAt H bq its) (lt : n < its.length) (few : its.length ≤ 20)
    (hX : ∀ (H1 : Hp) (Q' : VK), Same H H1 → (∀ H2 p, Same H1 H2 → H2 p = some it.ho → Q' (.ref p) H2) → teX σ H1 Q') (hQ : ∀ H' p, Same H H' → TupsAt H' p (its.take n ++ it :: its.drop (n + 1)) → Q (.ref p) H') : tPut K teX σ H Q := by
  refine ⟨_, h6, _, h7, (n : Int), rfl, ?_⟩
  refine slice_to hb lt fun H1 p1 s1 t1 => ?_
  refine hX H1 _ s1 fun H2 p2 s2 hit => ⟨by show 1 ≤ sizeLine; decide, fun T nT => ?_⟩
  have sT : Same H2 (upd H2 T (.tup [.ref p2])) := same_upd nT
  have tT : TupsAt (upd H2 T (.tup [.ref p2])) T [it] := ⟨[p2], upd_same, .cons (sT _ _ hit) .nil⟩
  refine cat_tups (t1.same (s2.trans sT)) tT (by rw [List.length_take]; simp; omega) fun H3 p3 s3 t3 => ?_
  have s03 := s1.trans (s2.trans (sT.trans s3))
  refine ⟨_, h6, _, h7, (n : Int), 1, rfl, rfl, (n : Int) + 1, rfl, ?_⟩
  refine np_intro ?_
  refine slice_from (n := n + 1) (by omega) (hb.same s03) (Nat.succ_pos n) (by omega) fun H4 p4 s4 t4 => ?_
  refine cat_tups (t3.same s4) t4 (by rw [List.length_append, List.length_take, List.length_drop]; simp; omega) fun H5 p5 s5 t5 => ?_
  refine hQ H5 p5 (s03.trans (s4.trans s5)) ?_
  rw [List.append_assoc] at t5
  exact t5
end

section
variable {P : Program} {w : World} {K : PySem.W.Frag} {mg : Str → Option Value} {base : Heap}
/-- tuple(sorted(set(base[at] + (x,)))) -/
def tMore (K : PySem.W.Frag) (w : World) : TE := tCB (fun xs H Q => ∃ p ys, xs = [.ref p] ∧ ((SqL K H p ys ∧ ∀ l, H l = none → Q (.ref l) (upd H l (.tup ys))) ∨ (SqT K H p ys ∧ Q (.ref p) H)))
  (tCons (tCB (rSortSet w) (tCons (tCB (rSetT K w) (tCons (tOp (rCatA K) (tOp (rIxT K) (tVar 6) (tVar 7)) (tTup (tCons (tVar 9) tNil))) tNil)) tNil)) tNil)
theorem read_more {σ : L2.St} {H : Hp} {Q : VK} {bq : Addr} {n : Nat} {rs : List (List Int)} {x : Int} (h6 : σ[6]? = some (some (.ref bq))) (h7 : σ[7]? = some (some (.int (n : Int)))) (h9 : σ[9]? = some (some (.int x))) (hb : TupsAt H bq (rs.map Itm.tup)) (lt : n < rs.length)
    (few : ∀ r ∈ rs, r.length ≤ 9) (hQ : ∀ H' p (ms : List Int), Same H H' → ms.length ≤ 10 → H' p = some (.tup (ms.map V.int)) → Q (.ref p) H') : tMore K w σ H Q := by
  obtain ⟨as, h1, h2⟩ := hb
  have gr : (rs.map Itm.tup)[n]? = some (.tup rs[n]) := by
    rw [List.getElem?_map, List.getElem?_eq_getElem lt]
    rfl
  obtain ⟨a, ha, har⟩ := h2.get gr
  have har : H a = some (.tup (rs[n].map V.int)) := har
  have lr := few _ (List.getElem_mem lt)
  have ga : (as.map V.ref)[n]? = some (.ref a) := by
    rw [List.getElem?_map, ha]
    rfl
  refine ⟨_, h6, _, h7, bq, _, (n : Int), .ref a, rfl, rfl, SqT.of h1, atI_nat ga, _, h9, by show 1 ≤ sizeLine; decide, fun T nT => ?_⟩
  have sT : Same H (upd H T (.tup [.int x])) := same_upd nT
  -- behind the sum
  have rest : ∀ (H1 : Hp) (u : Addr), Same H H1 → H1 u = some (.tup ((rs[n] ++ [x]).map V.int)) →
      rSetT K w [.ref u] H1 (fun y H2 => rSortSet w [y] H2 fun y2 H3 => ∃ p ys, [y2] = [V.ref p] ∧ ((SqL K H3 p ys ∧ ∀ l, H3 l = none → Q (.ref l) (upd H3 l (.tup ys))) ∨ (SqT K H3 p ys ∧ Q (.ref p) H3))) := fun H1 u s1 hu => by
    refine ⟨u, rs[n] ++ [x], rfl, SqT.of hu, by rw [List.length_append, List.length_singleton]; show rs[n].length + 1 + 1 < 4096; omega, fun p2 c2 n2 => ?_⟩
    have s2 := s1.trans (same_upd (o := SetO w p2 (fun j => decide (j ∈ rs[n] ++ [x])) c2) n2)
    refine ⟨p2, _, c2, rfl, upd_same, fun ms p3 up mem n3 => ⟨p3, _, rfl, .inl ⟨SqL.of upd_same, fun l nl => ?_⟩⟩⟩
    have s3 := s2.trans (same_upd (o := .lst (ms.map V.int)) n3)
    refine hQ _ l ms (s3.trans (same_upd nl)) ?_ upd_same
    have := nodup_le (m := rs[n] ++ [x]) (up.imp fun {a b} q => Int.ne_of_lt q) fun y hy => of_decide_eq_true ((mem y).mp hy)
    rw [List.length_append, List.length_singleton] at this
    omega
  refine ⟨a, T, rs[n].map V.int, [.int x], rfl, rfl, SqT.of (sT _ _ har), SqT.of upd_same, ?_, fun e => ?_, (fun _ e => nomatch e), fun _ _ p np => ?_⟩
  · rw [List.length_map]
    exact Nat.le_of_lt (small1000 (by show rs[n].length + 1 ≤ 1000; omega))
  · have e : rs[n] = [] := List.map_eq_nil_iff.mp e
    refine rest _ T sT ?_
    rw [e]
    exact upd_same
  · refine rest _ p (sT.trans (same_upd np)) ?_
    rw [upd_same, List.map_append]
    rfl

/-! ### base -/
theorem law_base (p : Prog K mg) {f : Addr} {cdv : Value} {A : Around} {outer : List Env} {s : Shared} {H : Hp} {E : XK} :
    ∃ tS, PS (cxOf CX0 P w K mg base lawN "law" (defScope sLaw) f cdv A outer s H E).nox (lawSt 6) tS ∧
      ∀ (D : Ends) (H1 : Hp) (a R t S : Addr) (c : Int) (fv : V) (ns : Nst) (x6 x7 x8 x9 x10 x11 x12 x13 : Option V), NestAt H1 t ns →
        (fv = .non ∨ ∃ (q : Addr) (rs : List (List Int)), fv = .ref q ∧ TupsAt H1 q (rs.map Itm.tup) ∧ rs.length = ns.length ∧ ∀ r ∈ rs, r.length ≤ 9) →
        (∀ (H' : Hp) (bq : Addr) (rs : List (List Int)), Same H1 H' → TupsAt H' bq (rs.map Itm.tup) → rs.length = ns.length → (∀ r ∈ rs, r.length ≤ 9) → D.nx (sf a R t S c fv (some (.ref bq)) x7 x8 x9 x10 x11 x12 x13) H') →
        tS D (sf a R t S c fv x6 x7 x8 x9 x10 x11 x12 x13) H1 := by
  have B := p.B
  refine ⟨_, ps_set (i := 6) scLaw.nd rfl (.inl rfl) (pe_ifExp (pt_cmpR op_notN (pv 5) pe_non (nomark _)) (pv 5)
    (pe_callTy call_tuple_of (by rfl) B.tuple boot_tuple (pa_cons (pe_op op_rep (pe_lst (pa_cons (pe_tup (pa_cons pe_int pa_nil)) pa_nil)) (pe_callB call_len_seq (by rfl) B.len PySem.boot_len (pa_cons (pv 2) pa_nil))) pa_nil))), ?_⟩
  intro D H1 a R t S c fv ns x6 x7 x8 x9 x10 x11 x12 x13 hN hf k
  have few := hN.2.2.1
  rcases hf with rfl | ⟨q, rs, rfl, hT, hl, hr⟩
  · refine ⟨_, rfl, rfl, _, rfl, ?_⟩
    rw [decide_eq_true (show V.non = V.non from rfl)]
    refine iteF ⟨by show 1 ≤ sizeLine; decide, fun T nT => ⟨by show 1 ≤ sizeLine; decide, fun l nl => ?_⟩⟩
    have s1 : Same H1 (upd H1 T (.tup [.int 0])) := same_upd nT
    have s2 : Same (upd H1 T (.tup [.int 0])) (upd (upd H1 T (.tup [.int 0])) l (.lst [.ref T])) := same_upd nl
    have s12 := s1.trans s2
    have lN : (ns.map nv).length = ns.length := List.length_map ..
    refine ⟨_, rfl, t, ns.map nv, rfl, .inr (SqT.of (s12 _ _ hN.1)), l, _, [.ref T], rfl, rfl, upd_same, ?_, ?_, ?_, fun p3 n3 => ?_⟩
    · rw [lN]
      omega
    · rw [lN]
      omega
    · rw [lN, sizeLine_eq]
      show 1 * ((ns.length : Nat) : Int).toNat ≤ 16777216
      omega
    · rw [lN, Int.toNat_natCast]
      refine ⟨p3, _, rfl, .inl ⟨SqL.of upd_same, fun p4 n4 => ?_⟩⟩
      have rep : ∀ n : Nat, (List.replicate n [V.ref T]).flatten = (List.replicate n T).map V.ref := fun n => by
        induction n with
        | zero => rfl
        | succ n ih =>
          rw [List.replicate_succ, List.replicate_succ, List.flatten_cons, ih]
          rfl
      rw [rep] at n4 ⊢
      have s3 : Same (upd (upd H1 T (.tup [.int 0])) l (.lst [.ref T])) (upd (upd (upd (upd H1 T (.tup [.int 0])) l (.lst [.ref T])) p3 (.lst ((List.replicate ns.length T).map V.ref))) p4 (.tup ((List.replicate ns.length T).map V.ref))) :=
        (same_upd n3).trans (same_upd n4)
      refine k _ p4 (List.replicate ns.length [0]) (s12.trans s3) ⟨List.replicate ns.length T, upd_same, ?_⟩ (List.length_replicate ..) fun r hr => ?_
      · have hT : ∀ n : Nat, Rows (upd (upd (upd (upd H1 T (.tup [.int 0])) l (.lst [.ref T])) p3 (.lst ((List.replicate ns.length T).map V.ref))) p4 (.tup ((List.replicate ns.length T).map V.ref))) (List.replicate n T) ((List.replicate n [0]).map Itm.tup) := fun n => by
          induction n with
          | zero => exact .nil
          | succ n ih => exact .cons (s3 _ _ (s2 _ _ upd_same)) ih
        exact hT _
      · rw [List.eq_of_mem_replicate hr]
        decide
  · refine ⟨_, rfl, rfl, _, rfl, ?_⟩
    rw [decide_eq_false (show ¬ V.ref q = V.non from fun z => nomatch z)]
    exact iteT ⟨_, rfl, k H1 q rs (Same.refl H1) hT hl hr⟩

/-! ### the first values -/
theorem law_values (p : Prog K mg) {f : Addr} {cdv : Value} {A : Around} {outer : List Env} {s : Shared} {H : Hp} {E : XK} :
    ∃ tS, PS (cxOf CX0 P w K mg base lawN "law" (defScope sLaw) f cdv A outer s H E).nox (lawSt 8) tS ∧
      ∀ (D : Ends) (H1 : Hp) (a R t S : Addr) (c : Int) (fv : V) (va : Va) (bq : Addr) (rs : List (List Int)) (x7 x8 x9 x10 x11 x12 x13 : Option V), VaAt H1 fv va → va.short →
        TupsAt H1 bq (rs.map Itm.tup) → 1 ≤ rs.length → rs.length ≤ 9 → (∀ r ∈ rs, r.length ≤ 9) →
        (∀ H' Vl xs vas, Same H1 H' → H' Vl = some (.lst xs) → Paired (VaAt H') xs vas → (∀ v ∈ vas, v.short) → xs.length = 9 → D.nx (sf a R t S c fv (some (.ref bq)) x7 (some (.ref Vl)) x9 x10 x11 x12 x13) H') →
        tS D (sf a R t S c fv (some (.ref bq)) x7 x8 x9 x10 x11 x12 x13) H1 := by
  have B := p.B
  refine ⟨_, ps_set (i := 8) scLaw.nd rfl (.inl rfl) (pe_lst (pa_cons (pv 5) (pa_cons (pv 6) (pa_cons pe_non (pa_cons (pe_callTy call_list_of (by rfl) B.list boot_list (pa_cons (pv 6) pa_nil))
    (pa_cons (pe_slice sl_tupA (pv 6) (po_some pe_int) po_none) (pa_cons (pe_op op_catA (pv 6) (pe_tup (pa_cons (pe_tup (pa_cons pe_int pa_nil)) pa_nil))) (pa_cons (pe_tup pa_nil) (pa_cons pe_int (pa_cons pe_dnewK pa_nil)))))))))), ?_⟩
  intro D H1 a R t S c fv va bq rs x7 x8 x9 x10 x11 x12 x13 hv shv hT r1 r9 few k
  have lm : (rs.map Itm.tup).length = rs.length := List.length_map ..
  have shB : (Va.tups (rs.map Itm.tup)).short := short_tups (by omega) fun r hr => by have := few r hr; omega
  obtain ⟨as, h1, h2⟩ := id hT
  refine ⟨_, rfl, _, rfl, _, rfl, bq, as.map V.ref, rfl, .inr (SqT.of h1), fun l nl => ?_⟩
  have s1 : Same H1 (upd H1 l (.lst (as.map V.ref))) := same_upd nl
  refine ⟨_, rfl, 1, rfl, ?_⟩
  refine np_intro ?_
  refine slice_from (i := 1) (n := 1) rfl (hT.same s1) (by decide) (by omega) fun H2 p2 s2 t2 => ?_
  refine ⟨_, rfl, by show 1 ≤ sizeLine; decide, fun T nT => ⟨by show 1 ≤ sizeLine; decide, fun T2 nT2 => ?_⟩⟩
  have s3 : Same H2 (upd H2 T (.tup [.int 0])) := same_upd nT
  have s4 : Same (upd H2 T (.tup [.int 0])) (upd (upd H2 T (.tup [.int 0])) T2 (.tup [.ref T])) := same_upd nT2
  have tT2 : TupsAt (upd (upd H2 T (.tup [.int 0])) T2 (.tup [.ref T])) T2 [Itm.tup [0]] := ⟨[T], upd_same, .cons (s4 _ _ upd_same) .nil⟩
  refine cat_tups (hT.same (s1.trans (s2.trans (s3.trans s4)))) tT2 (by rw [lm]; simp; omega) fun H3 p3 s5 t3 => ?_
  refine ⟨Nat.zero_le _, fun T3 nT3 => ?_⟩
  have s6 : Same H3 (upd H3 T3 (.tup [])) := same_upd nT3
  refine fun d nd => ⟨by show 9 ≤ sizeLine; decide, fun Vl nVl => ?_⟩
  have s7 : Same (upd H3 T3 (.tup [])) (upd (upd H3 T3 (.tup [])) d (.dK [])) := same_upd nd
  have s8 := same_upd (o := .lst [fv, .ref bq, .non, .ref l, .ref p2, .ref p3, .ref T3, .int 3, .ref d]) nVl
  have s12 := s1.trans s2
  have s38 := (s3.trans s4).trans (s5.trans (s6.trans (s7.trans s8)))
  have all := s12.trans s38
  refine k _ Vl [fv, .ref bq, .non, .ref l, .ref p2, .ref p3, .ref T3, .int 3, .ref d] [va, .tups (rs.map Itm.tup), .non, .oth, .tups ((rs.map Itm.tup).drop 1), .tups (rs.map Itm.tup ++ [Itm.tup [0]]), .tups [], .oth, .oth] all upd_same ?_ ?_ rfl
  · refine .cons (hv.same all) (.cons ⟨bq, rfl, hT.same all⟩ (.cons rfl (.cons (.inr (.inl ⟨l, _, rfl, (s2.trans s38) _ _ upd_same⟩)) (.cons ⟨p2, rfl, t2.same s38⟩ (.cons ⟨p3, rfl, t3.same (s6.trans (s7.trans s8))⟩
      (.cons ⟨T3, rfl, [], (s7.trans s8) _ _ upd_same, .nil⟩ (.cons (.inl ⟨3, rfl⟩) (.cons (.inr (.inr ⟨d, [], rfl, s8 _ _ upd_same⟩)) .nil))))))))
  · intro v hv'
    simp only [List.mem_cons, List.not_mem_nil, or_false] at hv'
    rcases hv' with rfl | rfl | rfl | rfl | rfl | rfl | rfl | rfl | rfl
    · exact shv
    · exact shB
    · trivial
    · trivial
    · refine ⟨by rw [List.length_drop]; omega, fun it hit => shB.2 it (List.mem_of_mem_drop hit)⟩
    · refine ⟨by rw [List.length_append, lm]; simp; omega, fun it hit => ?_⟩
      rcases List.mem_append.mp hit with m | m
      · exact shB.2 it m
      · rw [List.mem_singleton.mp m]
        decide
    · exact ⟨by decide, fun it hit => nomatch hit⟩
    · trivial
    · trivial
end
end Cd

set_option maxRecDepth 100000
set_option maxHeartbeats 4000000
/-! The law's values, continued: two more, and two for each number. -/
namespace Cd
open PySem PySem.Spec PyProof.Rows L2

theorem lst_intro {t : TA} {σ : L2.St} {H : Hp} {Q : VK} (h : t σ H (fun xs H1 => xs.length ≤ sizeLine ∧ ∀ p, H1 p = none → Q (.ref p) (upd H1 p (.lst xs)))) : tLst t σ H Q := h
theorem cons_intro {te : TE} {t : TA} {σ : L2.St} {H : Hp} {Q : List V → Hp → Prop} (h : te σ H fun x H1 => t σ H1 fun xs H2 => Q (x :: xs) H2) : tCons te t σ H Q := h
theorem nil_intro {σ : L2.St} {H : Hp} {Q : List V → Hp → Prop} (h : Q [] H) : tNil σ H Q := h
theorem as_te {X : Cx} {e : Expr} {t t' : TE} (h : PE X e t) (q : t = t') : PE X e t' := q ▸ h

section
variable {K : PySem.W.Frag} {H : Hp}
/-- base[:at] + (X,) + base[at + 1:], whatever stands at X -/
theorem read_putI {Ok : Itm → Prop} {teX : TE} {σ : L2.St} {Q : VK} {bq : Addr} {n : Nat} {its : List Itm} (h6 : σ[6]? = some (some (.ref bq))) (h7 : σ[7]? = some (some (.int (n : Int)))) (hb : TupsAt H bq its) (lt : n < its.length) (few : its.length ≤ 20)
    (hX : ∀ (H1 : Hp) (Q' : VK), Same H H1 → (∀ H2 p it, Same H1 H2 → H2 p = some it.ho → Ok it → Q' (.ref p) H2) → teX σ H1 Q') (hQ : ∀ H' p it, Ok it → Same H H' → TupsAt H' p (its.take n ++ it :: its.drop (n + 1)) → Q (.ref p) H') : tPut K teX σ H Q := by
  refine ⟨_, h6, _, h7, (n : Int), rfl, ?_⟩
  refine slice_to hb lt fun H1 p1 s1 t1 => ?_
  refine hX H1 _ s1 fun H2 p2 it s2 hit ok => ⟨by show 1 ≤ sizeLine; decide, fun T nT => ?_⟩
  have sT : Same H2 (upd H2 T (.tup [.ref p2])) := same_upd nT
  have tT : TupsAt (upd H2 T (.tup [.ref p2])) T [it] := ⟨[p2], upd_same, .cons (sT _ _ hit) .nil⟩
  refine cat_tups (t1.same (s2.trans sT)) tT (by rw [List.length_take]; simp; omega) fun H3 p3 s3 t3 => ?_
  have s03 := s1.trans (s2.trans (sT.trans s3))
  refine ⟨_, h6, _, h7, (n : Int), 1, rfl, rfl, (n : Int) + 1, rfl, ?_⟩
  refine np_intro ?_
  refine slice_from (n := n + 1) (by omega) (hb.same s03) (Nat.succ_pos n) (by omega) fun H4 p4 s4 t4 => ?_
  refine cat_tups (t3.same s4) t4 (by rw [List.length_append, List.length_take, List.length_drop]; simp; omega) fun H5 p5 s5 t5 => ?_
  refine hQ H5 p5 it ok (s03.trans (s4.trans s5)) ?_
  rw [List.append_assoc] at t5
  exact t5
theorem put_rows {rs : List (List Int)} {n : Nat} {ms : List Int} : (rs.map Itm.tup).take n ++ Itm.tup ms :: (rs.map Itm.tup).drop (n + 1) = (rs.take n ++ ms :: rs.drop (n + 1)).map Itm.tup := by
  rw [List.map_append, List.map_cons, List.map_take, List.map_drop]
theorem short_put {rs : List (List Int)} {n : Nat} {it : Itm} (h1 : rs.length ≤ 9) (h2 : ∀ r ∈ rs, r.length ≤ 9) (hi : it.len ≤ 10) : (Va.tups ((rs.map Itm.tup).take n ++ it :: (rs.map Itm.tup).drop (n + 1))).short := by
  refine ⟨?_, fun jt hjt => ?_⟩
  · rw [List.length_append, List.length_cons, List.length_take, List.length_drop, List.length_map]
    omega
  · have old : ∀ jt ∈ rs.map Itm.tup, jt.len ≤ 100 := fun jt m => by
      obtain ⟨r, hr, rfl⟩ := List.mem_map.mp m
      have := h2 r hr
      show r.length ≤ 100
      omega
    rcases List.mem_append.mp hjt with m | m
    · exact old _ (List.mem_of_mem_take m)
    · rcases List.mem_cons.mp m with e | m
      · rw [e]
        omega
      · exact old _ (List.mem_of_mem_drop m)
/-- one more value at the end of the list -/
theorem grow_vals {H2 : Hp} {Vl p : Addr} {xs : List V} {vas : List Va} {rs : List (List Int)} (s : Same H H2) (hV : H Vl = some (.lst xs)) (hP : Paired (VaAt (del H Vl)) xs vas) (hp : TupsAt H2 p (rs.map Itm.tup)) :
    Paired (VaAt (del (upd H2 Vl (.lst (xs ++ [.ref p]))) Vl)) (xs ++ [.ref p]) (vas ++ [.tups (rs.map Itm.tup)]) := by
  rw [del_upd]
  have hx : VaAt (del H2 Vl) (.ref p) (.tups (rs.map Itm.tup)) := ⟨p, rfl, TupsAt.del hp (s _ _ hV)⟩
  exact vas_snoc hx (vas_same (del_same s) hP)
end

section
variable {P : Program} {w : World} {K : PySem.W.Frag} {mg : Str → Option Value} {base : Heap}
theorem law_two (p : Prog K mg) {f : Addr} {cdv : Value} {A : Around} {outer : List Env} {s : Shared} {H : Hp} {E : XK} :
    ∃ tS, PS (cxOf CX0 P w K mg base lawN "law" (defScope sLaw) f cdv A outer s H E).nox (lawSt 9) tS ∧
      ∀ (D : Ends) (H1 : Hp) (a R t S : Addr) (c : Int) (fv : V) (bq : Addr) (n : Nat) (Vl : Addr) (rs : List (List Int)) (xs : List V) (vas : List Va) (x9 x10 x11 x12 x13 : Option V),
        TupsAt H1 bq (rs.map Itm.tup) → n < rs.length → rs.length ≤ 9 → (∀ r ∈ rs, r.length ≤ 9) → H1 Vl = some (.lst xs) → Paired (VaAt H1) xs vas → (∀ v ∈ vas, v.short) → xs.length = 9 →
        (∀ (H' : Hp) (Vm : Addr) (ys : List V) (was : List Va), Same H1 (del H' Vm) → H' Vm = some (.lst ys) → Paired (VaAt (del H' Vm)) ys was → (∀ v ∈ was, v.short) → ys.length = 11 → D.nx (sg a R t S c fv bq n Vm x9 x10 x11 x12 x13) H') →
        tS D (sg a R t S c fv bq n Vl x9 x10 x11 x12 x13) H1 := by
  have B := p.B
  refine ⟨_, ps_set (i := 8) scLaw.nd rfl (.inl rfl) (pe_op op_cat (pv 8) (pe_lst (pa_cons
    (as_te (t' := tPut K (tLst (tCons (tC (.int 0)) tNil))) (pe_op op_catA (pe_op op_catA (pe_slice sl_tupA (pv 6) po_none (po_some (pv 7))) (pe_tup (pa_cons (pe_lst (pa_cons pe_int pa_nil)) pa_nil))) (pe_slice sl_tupA (pv 6) (po_some (pe_op op_add (pv 7) pe_int)) po_none)) rfl)
    (pa_cons (as_te (t' := tPut K (tTup (tCons (tC (.int 8)) tNil))) (pe_op op_catA (pe_op op_catA (pe_slice sl_tupA (pv 6) po_none (po_some (pv 7))) (pe_tup (pa_cons (pe_tup (pa_cons pe_int pa_nil)) pa_nil))) (pe_slice sl_tupA (pv 6) (po_some (pe_op op_add (pv 7) pe_int)) po_none)) rfl) pa_nil)))), ?_⟩
  intro D H1 a R t S c fv bq n Vl rs xs vas x9 x10 x11 x12 x13 hT lt r9 few hVl hvs hsh lx k
  have lm : (rs.map Itm.tup).length = rs.length := List.length_map ..
  refine ⟨_, rfl, ?_⟩
  refine lst_intro (cons_intro ?_)
  refine read_put (K := K) (n := n) (its := rs.map Itm.tup) (it := .lst [0]) rfl rfl hT (by omega) (by omega) (fun H2 Q' s2 k2 => ⟨by show 1 ≤ sizeLine; decide, fun T nT => k2 _ T (same_upd nT) upd_same⟩) fun H2 p2 s2 t2 => ?_
  refine cons_intro ?_
  refine read_put (K := K) (n := n) (its := rs.map Itm.tup) (it := .tup [8]) rfl rfl (hT.same s2) (by omega) (by omega) (fun H3 Q' s3 k3 => ⟨by show 1 ≤ sizeLine; decide, fun T nT => k3 _ T (same_upd nT) upd_same⟩) fun H3 p3 s3 t3 => ?_
  refine nil_intro ⟨by show 2 ≤ sizeLine; decide, fun l nl => ?_⟩
  have s4 : Same H3 (upd H3 l (.lst [.ref p2, .ref p3])) := same_upd nl
  have s14 := s2.trans (s3.trans s4)
  refine ⟨Vl, l, xs, [.ref p2, .ref p3], rfl, rfl, s14 _ _ hVl, upd_same, ?_, fun Vm nVm => ?_⟩
  · rw [lx]
    exact Nat.le_of_lt (small1000 (show 9 + 2 ≤ 1000 by decide))
  · refine k _ Vm (xs ++ [.ref p2, .ref p3]) (vas ++ [.tups ((rs.map Itm.tup).take n ++ Itm.lst [0] :: (rs.map Itm.tup).drop (n + 1)), .tups ((rs.map Itm.tup).take n ++ Itm.tup [8] :: (rs.map Itm.tup).drop (n + 1))]) ?_ upd_same ?_ ?_ ?_
    · rw [del_upd]
      exact s14.trans (del_new (Same.refl _) nVm)
    · rw [del_upd]
      refine vas_same (del_new (Same.refl _) nVm) (vas_append (vas_same s14 hvs) (.cons ⟨p2, rfl, t2.same (s3.trans s4)⟩ (.cons ⟨p3, rfl, t3.same s4⟩ .nil)))
    · intro v hv
      rcases List.mem_append.mp hv with m | m
      · exact hsh v m
      · simp only [List.mem_cons, List.not_mem_nil, or_false] at m
        rcases m with rfl | rfl
        · exact short_put r9 few (by decide)
        · exact short_put r9 few (by decide)
    · rw [List.length_append, lx]
      rfl
theorem law_more (p : Prog K mg) {f : Addr} {cdv : Value} {A : Around} {outer : List Env} {s : Shared} {H : Hp} {E : XK} :
    ∃ tS, PS (cxOf CX0 P w K mg base lawN "law" (defScope sLaw) f cdv A outer s H E).nox (lawSt 10) tS ∧
      ∀ (D : Ends) (H1 : Hp) (a R t S : Addr) (c : Int) (fv : V) (bq : Addr) (n : Nat) (Vl : Addr) (rs : List (List Int)) (xs : List V) (vas : List Va) (x9 x10 x11 x12 x13 : Option V),
        TupsAt (del H1 Vl) bq (rs.map Itm.tup) → n < rs.length → rs.length ≤ 9 → (∀ r ∈ rs, r.length ≤ 9) → H1 Vl = some (.lst xs) → Paired (VaAt (del H1 Vl)) xs vas → (∀ v ∈ vas, v.short) → xs.length = 11 →
        (∀ (H' : Hp) (ys : List V) (was : List Va) (z9 : Option V), Same (del H1 Vl) (del H' Vl) → H' Vl = some (.lst ys) → Paired (VaAt (del H' Vl)) ys was → (∀ v ∈ was, v.short) → D.nx (sg a R t S c fv bq n Vl z9 x10 x11 x12 x13) H') →
        tS D (sg a R t S c fv bq n Vl x9 x10 x11 x12 x13) H1 := by
  have B := p.B
  refine ⟨_, ps_for PassesOwn.never rfl (pi_range1 (by rfl) B.range (pa_cons pe_int pa_nil)) (pg_name (i := 9) scLaw.nd rfl (.inl rfl))
    (pss_cons (ps_expr (pe_bm PySem.F.plainAttrs_list PySem.F.slot_list_append PySem.F.type_list_append mt_append (pv 8) (pa_cons
      (as_te (t' := tPut K (tMore K w)) (pe_op op_catA (pe_op op_catA (pe_slice sl_tupA (pv 6) po_none (po_some (pv 7))) (pe_tup (pa_cons
        (pe_callTy call_tuple_of (by rfl) B.tuple boot_tuple (pa_cons (pe_callB (cr_sortSet rfl) (by rfl) B.sorted boot_sorted (pa_cons (pe_callTy (cr_setT rfl) (by rfl) B.set boot_set (pa_cons (pe_op op_catA (pe_ix ix_tup (pv 6) (pv 7) (fun _ _ => rfl)) (pe_tup (pa_cons (pv 9) pa_nil))) pa_nil)) pa_nil)) pa_nil))
        pa_nil))) (pe_slice sl_tupA (pv 6) (po_some (pe_op op_add (pv 7) pe_int)) po_none)) rfl) pa_nil)))
    (pss_one (ps_expr (pe_bm PySem.F.plainAttrs_list PySem.F.slot_list_append PySem.F.type_list_append mt_append (pv 8) (pa_cons
      (as_te (t' := tPut K (tTup (tCons (tVar 9) tNil))) (pe_op op_catA (pe_op op_catA (pe_slice sl_tupA (pv 6) po_none (po_some (pv 7))) (pe_tup (pa_cons (pe_tup (pa_cons (pv 9) pa_nil)) pa_nil))) (pe_slice sl_tupA (pv 6) (po_some (pe_op op_add (pv 7) pe_int)) po_none)) rfl) pa_nil))))), ?_⟩
  intro D H1 a R t S c fv bq n Vl rs xs vas x9 x10 x11 x12 x13 hT lt r9 few hVl hvs hsh lx k
  have lm : (rs.map Itm.tup).length = rs.length := List.length_map ..
  refine ⟨9, rfl, by decide, by decide, ?_⟩
  refine for_range (lo := 0) (n := 9) (fun i σ H' => ∃ (ys : List V) (was : List Va) (z9 : Option V), Same (del H1 Vl) (del H' Vl) ∧ H' Vl = some (.lst ys) ∧ Paired (VaAt (del H' Vl)) ys was ∧ (∀ v ∈ was, v.short) ∧ ys.length = 11 + 2 * i ∧ σ = sg a R t S c fv bq n Vl z9 x10 x11 x12 x13)
    ⟨xs, vas, x9, Same.refl _, hVl, hvs, hsh, lx, rfl⟩ ?_ ?_
  case refine_2 =>
    rintro σ H' ⟨ys, was, z9, s1, h1, h2, h3, _, rfl⟩
    exact k H' ys was z9 s1 h1 h2 h3
  rintro i σ H2 hi ⟨ys, was, z9, s2, hV2, hv2, sh2, ly, rfl⟩
  have hT2 : TupsAt H2 bq (rs.map Itm.tup) := hT.same (s2.trans del_le)
  -- the first append
  refine ⟨_, rfl, .inl ⟨rfl, _, SqL.of hV2⟩, ?_⟩
  refine cons_intro ?_
  refine read_putI (Ok := fun it => ∃ ms : List Int, it = .tup ms ∧ ms.length ≤ 10) (K := K) (n := n) (its := rs.map Itm.tup) rfl rfl hT2 (by omega) (by omega)
    (fun H3 Q' s3 k3 => read_more rfl rfl rfl (hT2.same s3) lt few fun H4 p4 ms s4 l4 h4 => k3 H4 p4 (.tup ms) s4 h4 ⟨ms, rfl, l4⟩) ?_
  rintro H3 p3 it ⟨ms, rfl, lms⟩ s3 t3
  rw [put_rows] at t3
  refine nil_intro ?_
  refine ⟨Vl, _, _, rfl, rfl, s3 _ _ hV2, small1000 (by omega), ?_⟩
  have hv3 := grow_vals s3 hV2 hv2 t3
  have hV3 : (upd H3 Vl (.lst (ys ++ [.ref p3]))) Vl = some (.lst (ys ++ [.ref p3])) := upd_same
  have s13 : Same (del H1 Vl) (del (upd H3 Vl (.lst (ys ++ [.ref p3]))) Vl) := by
    rw [del_upd]
    exact s2.trans (del_same s3)
  have hT3 : TupsAt (upd H3 Vl (.lst (ys ++ [.ref p3]))) bq (rs.map Itm.tup) := hT.same (s13.trans del_le)
  -- the second append
  refine ⟨_, rfl, .inl ⟨rfl, _, SqL.of hV3⟩, ?_⟩
  refine cons_intro ?_
  refine read_put (K := K) (n := n) (its := rs.map Itm.tup) (it := .tup [0 + (i : Int)]) rfl rfl hT3 (by omega) (by omega) (fun H4 Q' s4 k4 => ⟨_, rfl, by show 1 ≤ sizeLine; decide, fun T nT => k4 _ T (same_upd nT) upd_same⟩) fun H4 p4 s4 t4 => ?_
  rw [put_rows] at t4
  refine nil_intro ?_
  refine ⟨Vl, _, _, rfl, rfl, s4 _ _ hV3, small1000 (by rw [List.length_append, List.length_singleton]; omega), ?_⟩
  have hv4 := grow_vals s4 hV3 hv3 t4
  refine ⟨_, _, _, ?_, upd_same, hv4, ?_, ?_, rfl⟩
  · rw [del_upd]
    exact s13.trans (del_same s4)
  · intro v hv
    rcases List.mem_append.mp hv with m | m
    · rcases List.mem_append.mp m with m | m
      · exact sh2 v m
      · rw [List.mem_singleton.mp m, ← put_rows]
        exact short_put r9 few lms
    · rw [List.mem_singleton.mp m, ← put_rows]
      exact short_put r9 few (show 1 ≤ 10 by decide)
  · rw [List.length_append, List.length_append, List.length_singleton, List.length_singleton]
    omega
end
end Cd

set_option maxRecDepth 100000
set_option maxHeartbeats 4000000
/-! The law. -/
namespace Cd
open PySem PySem.Spec PyProof.Rows L2

theorem tups_map {l : List Int} {g : Int → List Int} : (l.map fun p => Itm.tup (g p)) = (l.map g).map Itm.tup := by
  rw [List.map_map]
  rfl
theorem rg0_len {p : Int} (h : p ≤ 9) : (rg 0 p).length ≤ 9 := by
  rw [rg_length]
  omega
/-- the parts that a wish finds are small -/
theorem wish_small {ns : Nst} (ok : NestOk ns) {c : Int} {l : List Int} (h : wishO ns c = some l) : l.length = ns.length ∧ ∀ p ∈ l, p ≤ 9 := by
  obtain ⟨⟨h1, h2⟩, _⟩ := wishO_some h
  have e := szs_length ns
  refine ⟨h1.trans e, fun p hp => ?_⟩
  obtain ⟨i, hi, rfl⟩ := List.mem_iff_getElem.mp hp
  have hs : i < (szs ns).length := by omega
  have q := h2 i _ _ (List.getElem?_eq_getElem hi) (List.getElem?_eq_getElem hs)
  have := szs_mem ok (List.getElem_mem hs)
  omega
/-- what numbers_with has found -/
def Found (H : Hp) (ns : Nst) (c : Int) (fv : V) : Prop := (fv = .non ∧ wishO ns c = none) ∨ ∃ (q : Addr) (l : List Int), fv = .ref q ∧ wishO ns c = some l ∧ TupsAt H q ((l.map (rg 0)).map Itm.tup)
theorem iteF' {b : Bool} {p q : Prop} (e : b = false) (h : q) : if b = true then p else q := by
  rw [e]
  exact h
theorem del_but {R : Addr} {H H' : Hp} (b : But R H H') : Same (del H R) H' := fun c o e => by
  have n : c ≠ R := fun z => by
    rw [z] at e
    unfold del at e
    rw [if_pos rfl] at e
    cases e
  rw [del_ne n] at e
  exact b c o n e
/-- the slots before the count -/
abbrev se (a R t S : Addr) (x4 x5 x6 x7 x8 x9 x10 x11 x12 x13 : Option V) : L2.St :=
  [some (.ref a), some (.ref R), some (.ref t), some (.ref S), x4, x5, x6, x7, x8, x9, x10, x11, x12, x13]

section
variable {P : Program} {w : World} {K : PySem.W.Frag} {mg : Str → Option Value} {base : Heap}
theorem nest_but {R t : Addr} {H H' : Hp} {ns : Nst} (h : NestAt H t ns) (n : t ≠ R) (b : But R H H') : NestAt H' t ns := ⟨b _ _ n h.1, h.2⟩
theorem row_ne {H0 H : Hp} {R a t : Addr} {sc : List Int} {ns : Nst} (ok : RowOk K H0 H R a sc) (h : NestAt H t ns) : t ≠ R := by
  obtain ⟨x, y, z, _, hR⟩ := ok.row
  exact ne_of h.1 hR (fun z => nomatch z)
theorem law_count (p : Prog K mg) {f : Addr} {cdv : Value} {A : Around} {outer : List Env} {s : Shared} {H : Hp} {E : XK} (hr : Room 12 (A.deeper (envOfC "law" (defScope sLaw) s.heap.objs.size f cdv))) :
    ∃ tS, PS (cxOf CX0 P w K mg base lawN "law" (defScope sLaw) f cdv A outer s H E).nox (lawSt 3) tS ∧
      ∀ (D : Ends) (H0 H1 : Hp) (a R t S : Addr) (sc : List Int) (ns : Nst) (cs : List Int) (x4 x5 x6 x7 x8 x9 x10 x11 x12 x13 : Option V), RowOk K H0 H1 R a sc → NestAt H1 t ns → S ≠ R → H1 S = some (.lst (cs.map V.int)) → cs ≠ [] → cs.length ≤ 4000 → (∀ c ∈ cs, 1 ≤ c) →
        (∀ (H' : Hp) (c : Int), RowOk K H0 H' R a sc → But R H1 H' → 1 ≤ c → c ≤ 1000000 → D.nx (se a R t S (some (.int c)) x5 x6 x7 x8 x9 x10 x11 x12 x13) H') → tS D (se a R t S x4 x5 x6 x7 x8 x9 x10 x11 x12 x13) H1 := by
  have B := p.B
  have GT := ok_taken (P := P) (w := w) (base := base) p.taken B
  have GP := ok_pick (P := P) (w := w) (base := base) p.pick B p.taken
  have GM := ok_mixings (P := P) (w := w) (base := base) p.mixings B p.isIn p.needNest p.mixingsIn p.sizesIn p.product
  refine ⟨_, ps_set (i := 4) scLaw.nd rfl (.inl rfl) (pe_callB (call_min2 rfl) (by rfl) B.min boot_min (pa_cons pe_int (pa_cons (pe_fn p.pick GP (hr.mono (by decide)) (pa_cons (pv 1) (pa_cons (pe_lst
    (pa_cons (pe_fn p.pick GP (hr.mono (by decide)) (pa_cons (pv 1) (pa_cons (pv 3) pa_nil)))
    (pa_cons (pe_op op_add (pe_fn p.pick GP (hr.mono (by decide)) (pa_cons (pv 1) (pa_cons (pv 3) pa_nil))) pe_int)
    (pa_cons (pe_op op_mul (pe_fn p.mixings GM (hr.mono (by decide)) (pa_cons (pv 2) pa_nil)) (pe_op op_add pe_int (pe_fn p.taken GT (hr.mono (by decide)) (pa_cons (pv 1) (pa_cons pe_int pa_nil)))))
    (pa_cons (pe_op op_add pe_int (pe_fn p.taken GT (hr.mono (by decide)) (pa_cons (pv 1) (pa_cons pe_int pa_nil)))) pa_nil))))) pa_nil))) pa_nil))), ?_⟩
  intro D H0 H1 a R t S sc ns cs x4 x5 x6 x7 x8 x9 x10 x11 x12 x13 ok1 hN nS hS ne l4 pos k
  have tR := row_ne ok1 hN
  have wp := (whole_pos hN.2).1
  refine ⟨_, rfl, _, rfl, _, rfl, H0, R, a, S, sc, cs, rfl, ok1, nS, hS, ne, by omega, fun H2 r1 ok2 b2 m1 => ?_⟩
  refine ⟨_, rfl, _, rfl, H0, R, a, S, sc, cs, rfl, ok2, nS, b2 _ _ nS hS, ne, by omega, fun H3 r2 ok3 b3 m2 => ⟨r2, 1, rfl, rfl, ?_⟩⟩
  have b13 := b2.trans b3
  refine ⟨_, rfl, t, ns, rfl, nest_but hN tR b13, fun H4 s4 => ?_⟩
  refine ⟨_, rfl, H0, R, a, sc, 200, rfl, ok3.after s4, by decide, by decide, fun H5 r3 ok5 b5 r30 _ => ⟨1, r3, rfl, rfl, whole ns, 1 + r3, rfl, rfl, .inl (by have := (whole_pos hN.2).2; omega), ?_⟩⟩
  refine ⟨_, rfl, H0, R, a, sc, 30, rfl, ok5, by decide, by decide, fun H6 r4 ok6 b6 r40 _ => ⟨1, r4, rfl, rfl, ?_⟩⟩
  have b16 := ((b13.trans (But.of s4)).trans b5).trans b6
  refine ⟨by show 4 ≤ sizeLine; decide, fun T nT => ?_⟩
  have nRT : R ≠ T := by
    obtain ⟨x, y, z, _, h⟩ := ok6.row
    exact ne_of_none h nT
  have sT : Same H6 (upd H6 T (.lst [.int r1, .int (r2 + 1), .int (whole ns * (1 + r3)), .int (1 + r4)])) := same_upd nT
  refine ⟨H0, R, a, T, sc, [r1, r2 + 1, whole ns * (1 + r3), 1 + r4], rfl, ok6.after sT, nRT.symm, upd_same, by simp, by show 4 < 1073741824; decide, fun H7 r ok7 b7 hm => ?_⟩
  have r1p : 1 ≤ r := by
    simp only [List.mem_cons, List.not_mem_nil, or_false] at hm
    rcases hm with e | e | e | e
    · rw [e]
      exact pos _ m1
    · have := pos _ m2
      omega
    · have h1 : 1 * 1 ≤ whole ns * (1 + r3) := Int.mul_le_mul wp (by omega) (by decide) (by omega)
      omega
    · omega
  refine ⟨1000000, r, rfl, ?_⟩
  refine k H7 _ ok7 ((b16.trans (But.of sT)).trans b7) ?_ ?_
  · split <;> omega
  · split <;> omega

theorem law_found (p : Prog K mg) {f : Addr} {cdv : Value} {A : Around} {outer : List Env} {s : Shared} {H : Hp} {E : XK} (hr : Room 12 (A.deeper (envOfC "law" (defScope sLaw) s.heap.objs.size f cdv))) :
    ∃ tS, PS (cxOf CX0 P w K mg base lawN "law" (defScope sLaw) f cdv A outer s H E).nox (lawSt 4) tS ∧
      ∀ (D : Ends) (H1 : Hp) (a R t S : Addr) (c : Int) (ns : Nst) (x5 x6 x7 x8 x9 x10 x11 x12 x13 : Option V), NestAt H1 t ns → 1 ≤ c → c ≤ 1000000 →
        (∀ (H' : Hp) (fv : V), Same H1 H' → Found H' ns c fv → D.nx (sf a R t S c fv x6 x7 x8 x9 x10 x11 x12 x13) H') → tS D (se a R t S (some (.int c)) x5 x6 x7 x8 x9 x10 x11 x12 x13) H1 := by
  have B := p.B
  have G := ok_numbersWith (P := P) (w := w) (base := base) p.numbersWith B p.isIn p.needNest p.needCount p.wished p.mixingsIn p.sizesIn p.product p.parts
  refine ⟨_, ps_set (i := 5) scLaw.nd rfl (.inl rfl) (pe_fn p.numbersWith G hr (pa_cons (pv 2) (pa_cons (pv 4) pa_nil))), ?_⟩
  intro D H1 a R t S c ns x5 x6 x7 x8 x9 x10 x11 x12 x13 hN c1 c2 k
  refine ⟨_, rfl, _, rfl, t, ns, c, rfl, hN, c1, c2, fun e H2 s2 => k H2 .non s2 (.inl ⟨rfl, e⟩), fun l e H2 q s2 hT => ?_⟩
  rw [tups_map] at hT
  exact k H2 (.ref q) s2 (.inr ⟨q, l, rfl, e, hT⟩)

theorem law_test (p : Prog K mg) {f : Addr} {cdv : Value} {A : Around} {outer : List Env} {s : Shared} {H : Hp} {E : XK} :
    ∃ tS, PS (cxOf CX0 P w K mg base lawN "law" (defScope sLaw) f cdv A outer s H E).nox (lawSt 5) tS ∧
      ∀ (D : Ends) (H1 : Hp) (a R t S : Addr) (c : Int) (fv : V) (ns : Nst) (cs : List Int) (x6 x7 x8 x9 x10 x11 x12 x13 : Option V), NestOk ns → Found H1 ns c fv → H1 S = some (.lst (cs.map V.int)) → Cnt (whole ns) (szs ns) cs →
        D.nx (sf a R t S c fv x6 x7 x8 x9 x10 x11 x12 x13) H1 → tS D (sf a R t S c fv x6 x7 x8 x9 x10 x11 x12 x13) H1 := by
  refine ⟨_, ps_if (pt_cmpR op_ne (pe_cmpR op_isN (pv 5) pe_non (nomark _)) (pe_cmpR op_notIn_seq (pv 4) (pv 3) (by rfl)) (nomark _)) (pss_one (ps_ret pe_bl)) pss_nil, ?_⟩
  intro D H1 a R t S c fv ns cs x6 x7 x8 x9 x10 x11 x12 x13 ok hf hS hC k
  have ew := cnt_wish ok hC c
  have ef : decide (fv = V.non) = (wishO ns c).isNone := by
    rcases hf with ⟨rfl, e⟩ | ⟨q, l, rfl, e, _⟩
    · rw [e]
      exact decide_eq_true rfl
    · rw [e]
      exact decide_eq_false fun z => nomatch z
  have e : (!decide (V.bl (decide (fv = V.non)) = V.bl (!inV (.int c) (cs.map V.int)))) = false := by
    rw [inV_ints, ew, ef, decide_eq_true rfl]
    rfl
  refine ⟨_, rfl, rfl, _, rfl, _, rfl, S, cs.map V.int, rfl, .inl (SqL.of hS), rfl, flat_ints cs, rfl, _, rfl, ?_⟩
  exact iteF' e k

theorem law_at (p : Prog K mg) {f : Addr} {cdv : Value} {A : Around} {outer : List Env} {s : Shared} {H : Hp} {E : XK} (hr : Room 12 (A.deeper (envOfC "law" (defScope sLaw) s.heap.objs.size f cdv))) :
    ∃ tS, PS (cxOf CX0 P w K mg base lawN "law" (defScope sLaw) f cdv A outer s H E).nox (lawSt 7) tS ∧
      ∀ (D : Ends) (H0 H1 : Hp) (a R t S : Addr) (sc : List Int) (c : Int) (fv : V) (bq : Addr) (ns : Nst) (x7 x8 x9 x10 x11 x12 x13 : Option V), RowOk K H0 H1 R a sc → NestAt H1 t ns →
        (∀ (H' : Hp) (n : Nat), RowOk K H0 H' R a sc → But R H1 H' → n < ns.length → D.nx (sf a R t S c fv (some (.ref bq)) (some (.int (n : Int))) x8 x9 x10 x11 x12 x13) H') → tS D (sf a R t S c fv (some (.ref bq)) x7 x8 x9 x10 x11 x12 x13) H1 := by
  have B := p.B
  have GT := ok_taken (P := P) (w := w) (base := base) p.taken B
  refine ⟨_, ps_set (i := 7) scLaw.nd rfl (.inl rfl) (pe_fn p.taken GT (hr.mono (by decide)) (pa_cons (pv 1) (pa_cons (pe_callB call_len_seq (by rfl) B.len PySem.boot_len (pa_cons (pv 2) pa_nil)) pa_nil))), ?_⟩
  intro D H0 H1 a R t S sc c fv bq ns x7 x8 x9 x10 x11 x12 x13 ok hN k
  have lN : (ns.map nv).length = ns.length := List.length_map ..
  have n1 := hN.2.1
  have n9 := hN.2.2.1
  refine ⟨_, rfl, _, rfl, t, _, rfl, .inr (SqT.of hN.1), H0, R, a, sc, _, rfl, ok, ?_, ?_, fun H2 r ok2 b2 r0 r1 => ?_⟩
  · rw [lN]
    omega
  · rw [lN]
    omega
  · rw [lN] at r1
    obtain ⟨n, rfl⟩ : ∃ n : Nat, r = (n : Int) := ⟨r.toNat, by omega⟩
    exact k H2 n ok2 b2 (by omega)

/-! ### the law -/
def spLaw (K : PySem.W.Frag) : Sp := fun vs H Q _ => ∃ (a : Addr) (ns : List Int), vs = [.ref a] ∧ SqL K H a (ns.map V.int) ∧ ns.length ≤ 63 ∧ ∀ H', Q (.bl true) H'
theorem ok_law {f : Addr} {fd : FuncData} (F : Fun K "law" "law" sLaw f fd) (p : Prog K mg) : FnOk P w K mg base CX0 13 f fd ["_law_script"] (spLaw K) := by
  refine F.ok scLaw (fun vs H Q E h => ?_) (fun cdv A outer s H vs Q E hr h => ?_)
  · obtain ⟨a, ns, rfl, _⟩ := h
    rfl
  · obtain ⟨a, sc, rfl, hSc, hlen, fin⟩ := h
    have B := p.B
    have GN := ok_nest (P := P) (w := w) (base := base) p.nest B p.taken p.pick
    have GC := ok_counts (P := P) (w := w) (base := base) p.counts B
    have GS := ok_sizes (P := P) (w := w) (base := base) p.sizes B p.isIn p.needNest p.sizesIn
    have GM := ok_mixings (P := P) (w := w) (base := base) p.mixings B p.isIn p.needNest p.mixingsIn p.sizesIn p.product
    obtain ⟨t3, p3, r3⟩ := law_count (P := P) (w := w) (base := base) (outer := outer) (H := H) (E := E) p hr
    obtain ⟨t4, p4, r4⟩ := law_found (P := P) (w := w) (base := base) (outer := outer) (H := H) (E := E) p hr
    obtain ⟨t5, p5, r5⟩ := law_test (P := P) (w := w) (base := base) (f := f) (cdv := cdv) (A := A) (outer := outer) (s := s) (H := H) (E := E) p
    obtain ⟨t6, p6, r6⟩ := law_base (P := P) (w := w) (base := base) (f := f) (cdv := cdv) (A := A) (outer := outer) (s := s) (H := H) (E := E) p
    obtain ⟨t7, p7, r7⟩ := law_at (P := P) (w := w) (base := base) (outer := outer) (H := H) (E := E) p hr
    obtain ⟨t8, p8, r8⟩ := law_values (P := P) (w := w) (base := base) (f := f) (cdv := cdv) (A := A) (outer := outer) (s := s) (H := H) (E := E) p
    obtain ⟨t9, p9, r9⟩ := law_two (P := P) (w := w) (base := base) (f := f) (cdv := cdv) (A := A) (outer := outer) (s := s) (H := H) (E := E) p
    obtain ⟨t10, p10, r10⟩ := law_more (P := P) (w := w) (base := base) (f := f) (cdv := cdv) (A := A) (outer := outer) (s := s) (H := H) (E := E) p
    obtain ⟨t11, p11, r11⟩ := law_judge (P := P) (w := w) (base := base) (outer := outer) (H := H) (E := E) p hr
    refine ⟨_, pss_cons (ps_set (i := 1) scLaw.nd rfl (.inl rfl) (pe_lst (pa_cons (pv 0) (pa_cons pe_int (pa_cons pe_int (pa_cons pe_int pa_nil))))))
      (pss_cons (ps_set (i := 2) scLaw.nd rfl (.inr rfl) (pe_fn p.nest GN (hr.mono (by decide)) (pa_cons (pv 1) (pa_cons pe_int pa_nil))))
      (pss_cons (ps_set (i := 3) scLaw.nd rfl (.inl rfl) (pe_fn p.counts GC (hr.mono (by decide)) (pa_cons (pe_fn p.sizes GS (hr.mono (by decide)) (pa_cons (pv 2) pa_nil)) (pa_cons (pe_fn p.mixings GM (hr.mono (by decide)) (pa_cons (pv 2) pa_nil)) pa_nil))))
      (pss_cons p3 (pss_cons p4 (pss_cons p5 (pss_cons p6 (pss_cons p7 (pss_cons p8 (pss_cons p9 (pss_cons p10 (pss_cons p11 (pss_one (ps_ret pe_bl))))))))))))), ?_⟩
    -- row
    refine ⟨_, rfl, by show 4 ≤ sizeLine; decide, fun R nR => ?_⟩
    have ok0 : RowOk K H (upd H R (.lst [.ref a, .int 0, .int 7738, .int 0])) R a sc := ⟨same_upd nR, nR, hSc, hlen, 0, 7738, 0, Int.le_refl 0, upd_same⟩
    -- nest
    refine ⟨_, rfl, H, R, a, sc, rfl, ok0, fun H1 t ns ok1 _ hN => ?_⟩
    have tR := row_ne ok1 hN
    -- some
    refine ⟨_, rfl, t, ns, rfl, hN, fun H2 p2 s2 h2 => ⟨_, rfl, t, ns, rfl, hN.same s2, fun H3 s3 => ?_⟩⟩
    refine ⟨p2, szs ns, whole ns, rfl, s3 _ _ h2, fun x hx => szs_mem hN.2 hx, szs_small hN.2, by rw [szs_length]; exact hN.2.2.1, fun H4 S cs s4 nS hS cnt l4 ne => ?_⟩
    have s14 := s2.trans (s3.trans s4)
    have ok4 := ok1.after s14
    have SR : S ≠ R := by
      obtain ⟨x, y, z, _, h⟩ := (ok1.after (s2.trans s3)).row
      exact fun z => ne_of_none h nS z.symm
    -- count
    refine r3 _ H H4 a R t S sc ns cs _ _ _ _ _ _ _ _ _ _ ok4 (hN.same s14) SR hS ne l4 (fun c hc => ?_) fun H5 c ok5 b5 c1 c2 => ?_
    · obtain ⟨x, hx, rfl⟩ := (cnt.2 c).mp hc
      have h1 : 1 * 1 ≤ whole ns * x := Int.mul_le_mul (whole_pos hN.2).1 (PV_pos hx) (by decide) (by have := (whole_pos hN.2).1; omega)
      omega
    have hN5 : NestAt H5 t ns := nest_but (hN.same s14) tR b5
    have hS5 := b5 _ _ SR hS
    -- found
    refine r4 _ H5 a R t S c ns _ _ _ _ _ _ _ _ _ hN5 c1 c2 fun H6 fv s6 hF => ?_
    have hN6 := hN5.same s6
    refine r5 _ H6 a R t S c fv ns cs _ _ _ _ _ _ _ _ hN.2 hF (s6 _ _ hS5) cnt ?_
    -- base
    refine r6 _ H6 a R t S c fv ns _ _ _ _ _ _ _ _ hN6 ?_ fun H7 bq rs s7 hT lrs few => ?_
    · rcases hF with ⟨e, _⟩ | ⟨q, l, e, hl, hq⟩
      · exact .inl e
      · obtain ⟨h1, h2⟩ := wish_small hN.2 hl
        refine .inr ⟨q, l.map (rg 0), e, hq, by rw [List.length_map, h1], fun r hr => ?_⟩
        obtain ⟨x, hx, rfl⟩ := List.mem_map.mp hr
        exact rg0_len (h2 x hx)
    have n1 := hN.2.1
    have n9 := hN.2.2.1
    -- at
    refine r7 _ H H7 a R t S sc c fv bq ns _ _ _ _ _ _ _ ((ok5.after s6).after s7) (hN6.same s7) fun H8 n ok8 b8 lt => ?_
    obtain ⟨x0, y0, z0, _, hR7⟩ := ((ok5.after s6).after s7).row
    have s78 := del_but b8
    have hT8 : TupsAt H8 bq (rs.map Itm.tup) := (TupsAt.del hT hR7).same s78
    have hN8 : NestAt H8 t ns := nest_but (hN6.same s7) tR b8
    have hS8 := b8 _ _ SR (s7 _ _ (s6 _ _ hS5))
    obtain ⟨va, hv, shv⟩ : ∃ va, VaAt H8 fv va ∧ va.short := by
      rcases hF with ⟨e, _⟩ | ⟨q, l, e, hl, hq⟩
      · exact ⟨.non, e, trivial⟩
      · obtain ⟨h1, h2⟩ := wish_small hN.2 hl
        refine ⟨.tups ((l.map (rg 0)).map Itm.tup), ⟨q, e, (TupsAt.del (hq.same s7) hR7).same s78⟩, short_tups (by rw [List.length_map]; omega) fun r hr => ?_⟩
        obtain ⟨x, hx, rfl⟩ := List.mem_map.mp hr
        have := rg0_len (h2 x hx)
        omega
    -- values
    refine r8 _ H8 a R t S c fv va bq rs _ _ _ _ _ _ _ hv shv hT8 (by omega) (by omega) few fun H9 Vl xs vas s9 hVl hvs hsh lx => ?_
    refine r9 _ H9 a R t S c fv bq n Vl rs xs vas _ _ _ _ _ (hT8.same s9) (by omega) (by omega) few hVl hvs hsh lx fun H10 Vm ys was s10 hVm hys hsh2 ly => ?_
    refine r10 _ H10 a R t S c fv bq n Vm rs ys was _ _ _ _ _ ((hT8.same s9).same s10) (by omega) (by omega) few hVm hys hsh2 ly fun H11 zs was2 z9 s11 hV11 hz hsh3 => ?_
    have all := s9.trans (s10.trans (s11.trans del_le))
    refine r11 _ H11 a R t S c fv bq n Vm ns cs zs was2 _ _ _ _ _ (hN8.same all) (all _ _ hS8) cnt c1 c2 hV11 (vas_same del_le hz) hsh3 fun H12 _ _ _ _ _ _ => ?_
    exact fin H12
end
end Cd

set_option maxRecDepth 100000
/-! What the top has written; the law's own head. Printed by end.py. -/
namespace Cd
open PySem PySem.Spec PyProof.Rows L2
set_option maxHeartbeats 0 in
theorem all_mk {l : PySem.W.OpenLaw} {w : World} {K : PySem.W.Frag} {h : Heap} {mg : Str → Option Value} {fa f1 f2 f3 f4 f5 f6 f7 f8 f9 f10 f11 f12 f13 f14 f15 f16 f17 f18 f19 f20 f21 f22 f23 : Addr} (X : K.In h) (G : h.Ns mainGlobals mg) (hfa : mg "law" = some (.ref fa))
    {od1 an1 od2 an2 od3 an3 od4 an4 od5 an5 od6 an6 od7 an7 od8 an8 od9 an9 od10 an10 od11 an11 od12 an12 od13 an13 od14 an14 od15 an15 od16 an16 od17 an17 od18 an18 od19 an19 od20 an20 od21 an21 od22 an22 od23 an23 : Option Addr} {sl1 sl2 sl3 sl4 sl5 sl6 sl7 sl8 sl9 sl10 sl11 sl12 sl13 sl14 sl15 sl16 sl17 sl18 sl19 sl20 sl21 sl22 sl23 : Array (Option Value)} {oc1 kV1 dc1 pm1 cd1 ct1 oc2 kV2 dc2 pm2 cd2 ct2 oc3 kV3 dc3 pm3 cd3 ct3 oc4 kV4 dc4 pm4 cd4 ct4 oc5 kV5 dc5 pm5 cd5 ct5 oc6 kV6 dc6 pm6 cd6 ct6 oc7 kV7 dc7 pm7 cd7 ct7 oc8 kV8 dc8 pm8 cd8 ct8 oc9 kV9 dc9 pm9 cd9 ct9 oc10 kV10 dc10 pm10 cd10 ct10 oc11 kV11 dc11 pm11 cd11 ct11 oc12 kV12 dc12 pm12 cd12 ct12 oc13 kV13 dc13 pm13 cd13 ct13 oc14 kV14 dc14 pm14 cd14 ct14 oc15 kV15 dc15 pm15 cd15 ct15 oc16 kV16 dc16 pm16 cd16 ct16 oc17 kV17 dc17 pm17 cd17 ct17 oc18 kV18 dc18 pm18 cd18 ct18 oc19 kV19 dc19 pm19 cd19 ct19 oc20 kV20 dc20 pm20 cd20 ct20 oc21 kV21 dc21 pm21 cd21 ct21 oc22 kV22 dc22 pm22 cd22 ct22 oc23 kV23 dc23 pm23 cd23 ct23 : Value} {tk1 tk2 tk3 : Tok}
    (a1 : PySem.W.nsIn K mainGlobals "is_in" = some (some (.ref f1))) (l1 : K.lookup f1 = some ⟨oc1, od1, .func (PySem.W.fnOf "is_in" "is_in" (defArgs sIsIn) (defBody sIsIn) (defScope sIsIn) .none kV1 dc1 pm1 an1 cd1 ct1), sl1⟩) (c1 : PySem.W.codeIn K cd1 "is_in" = true) (k1 : PySem.W.keepIn K (.ref f1) = true)
    (a2 : PySem.W.nsIn K mainGlobals "need_nest" = some (some (.ref f2))) (l2 : K.lookup f2 = some ⟨oc2, od2, .func (PySem.W.fnOf "need_nest" "need_nest" (defArgs sNeedNest) (defBody sNeedNest) (defScope sNeedNest) .none kV2 dc2 pm2 an2 cd2 ct2), sl2⟩) (c2 : PySem.W.codeIn K cd2 "need_nest" = true) (k2 : PySem.W.keepIn K (.ref f2) = true)
    (a3 : PySem.W.nsIn K mainGlobals "is_set" = some (some (.ref f3))) (l3 : K.lookup f3 = some ⟨oc3, od3, .func (PySem.W.fnOf "is_set" "is_set" (defArgs sIsSet) (defBody sIsSet) (defScope sIsSet) .none kV3 dc3 pm3 an3 cd3 ct3), sl3⟩) (c3 : PySem.W.codeIn K cd3 "is_set" = true) (k3 : PySem.W.keepIn K (.ref f3) = true)
    (a4 : PySem.W.nsIn K mainGlobals "need_numbers" = some (some (.ref f4))) (l4 : K.lookup f4 = some ⟨oc4, od4, .func (PySem.W.fnOf "need_numbers" "need_numbers" (defArgs sNeedNumbers) (defBody sNeedNumbers) (defScope sNeedNumbers) .none kV4 dc4 pm4 an4 cd4 ct4), sl4⟩) (c4 : PySem.W.codeIn K cd4 "need_numbers" = true) (k4 : PySem.W.keepIn K (.ref f4) = true)
    (a5 : PySem.W.nsIn K mainGlobals "sizes_in" = some (some (.ref f5))) (l5 : K.lookup f5 = some ⟨oc5, od5, .func (PySem.W.fnOf "sizes_in" "sizes_in" (defArgs sSizesIn) (defBody sSizesIn) (defScope sSizesIn) .none kV5 dc5 pm5 an5 cd5 ct5), sl5⟩) (c5 : PySem.W.codeIn K cd5 "sizes_in" = true) (k5 : PySem.W.keepIn K (.ref f5) = true)
    (a6 : PySem.W.nsIn K mainGlobals "sizes" = some (some (.ref f6))) (l6 : K.lookup f6 = some ⟨oc6, od6, .func (PySem.W.fnOf "sizes" "sizes" (defArgs sSizes) (defBody sSizes) (defScope sSizes) .none kV6 dc6 pm6 an6 cd6 ct6), sl6⟩) (c6 : PySem.W.codeIn K cd6 "sizes" = true) (k6 : PySem.W.keepIn K (.ref f6) = true)
    (a7 : PySem.W.nsIn K mainGlobals "product" = some (some (.ref f7))) (l7 : K.lookup f7 = some ⟨oc7, od7, .func (PySem.W.fnOf "product" "product" (defArgs sProduct) (defBody sProduct) (defScope sProduct) .none kV7 dc7 pm7 an7 cd7 ct7), sl7⟩) (c7 : PySem.W.codeIn K cd7 "product" = true) (k7 : PySem.W.keepIn K (.ref f7) = true)
    (a8 : PySem.W.nsIn K mainGlobals "mixings_in" = some (some (.ref f8))) (l8 : K.lookup f8 = some ⟨oc8, od8, .func (PySem.W.fnOf "mixings_in" "mixings_in" (defArgs sMixingsIn) (defBody sMixingsIn) (defScope sMixingsIn) .none kV8 dc8 pm8 an8 cd8 ct8), sl8⟩) (c8 : PySem.W.codeIn K cd8 "mixings_in" = true) (k8 : PySem.W.keepIn K (.ref f8) = true)
    (a9 : PySem.W.nsIn K mainGlobals "mixings" = some (some (.ref f9))) (l9 : K.lookup f9 = some ⟨oc9, od9, .func (PySem.W.fnOf "mixings" "mixings" (defArgs sMixings) (defBody sMixings) (defScope sMixings) .none kV9 dc9 pm9 an9 cd9 ct9), sl9⟩) (c9 : PySem.W.codeIn K cd9 "mixings" = true) (k9 : PySem.W.keepIn K (.ref f9) = true)
    (a10 : PySem.W.nsIn K mainGlobals "kept_in" = some (some (.ref f10))) (l10 : K.lookup f10 = some ⟨oc10, od10, .func (PySem.W.fnOf "kept_in" "kept_in" (defArgs sKeptIn) (defBody sKeptIn) (defScope sKeptIn) .none kV10 dc10 pm10 an10 cd10 ct10), sl10⟩) (c10 : PySem.W.codeIn K cd10 "kept_in" = true) (k10 : PySem.W.keepIn K (.ref f10) = true)
    (a11 : PySem.W.nsIn K mainGlobals "order_count" = some (some (.ref f11))) (l11 : K.lookup f11 = some ⟨oc11, od11, .func (PySem.W.fnOf "order_count" "order_count" (defArgs sOrderCount) (defBody sOrderCount) (defScope sOrderCount) .none kV11 dc11 pm11 an11 cd11 ct11), sl11⟩) (c11 : PySem.W.codeIn K cd11 "order_count" = true) (k11 : PySem.W.keepIn K (.ref f11) = true)
    (a12 : PySem.W.nsIn K mainGlobals "need_count" = some (some (.ref f12))) (l12 : K.lookup f12 = some ⟨oc12, od12, .func (PySem.W.fnOf "need_count" "need_count" (defArgs sNeedCount) (defBody sNeedCount) (defScope sNeedCount) .none kV12 dc12 pm12 an12 cd12 ct12), sl12⟩) (c12 : PySem.W.codeIn K cd12 "need_count" = true) (k12 : PySem.W.keepIn K (.ref f12) = true)
    (a13 : PySem.W.nsIn K mainGlobals "parts_of" = some (some (.ref f13))) (l13 : K.lookup f13 = some ⟨oc13, od13, .func (PySem.W.fnOf "parts_of" "parts_of" (defArgs sPartsOf) (defBody sPartsOf) (defScope sPartsOf) .none kV13 dc13 pm13 an13 cd13 ct13), sl13⟩) (c13 : PySem.W.codeIn K cd13 "parts_of" = true) (k13 : PySem.W.keepIn K (.ref f13) = true)
    (a14 : PySem.W.nsIn K mainGlobals "wished" = some (some (.ref f14))) (l14 : K.lookup f14 = some ⟨oc14, od14, .func (PySem.W.fnOf "wished" "wished" (defArgs sWished) (defBody sWished) (defScope sWished) .none kV14 dc14 pm14 an14 cd14 ct14), sl14⟩) (c14 : PySem.W.codeIn K cd14 "wished" = true) (k14 : PySem.W.keepIn K (.ref f14) = true)
    (a15 : PySem.W.nsIn K mainGlobals "numbers_with" = some (some (.ref f15))) (l15 : K.lookup f15 = some ⟨oc15, od15, .func (PySem.W.fnOf "numbers_with" "numbers_with" (defArgs sNumbersWith) (defBody sNumbersWith) (defScope sNumbersWith) .none kV15 dc15 pm15 an15 cd15 ct15), sl15⟩) (c15 : PySem.W.codeIn K cd15 "numbers_with" = true) (k15 : PySem.W.keepIn K (.ref f15) = true)
    (a16 : PySem.W.nsIn K mainGlobals "shows_numbers_with" = some (some (.ref f16))) (l16 : K.lookup f16 = some ⟨oc16, od16, .func (PySem.W.fnOf "shows_numbers_with" "shows_numbers_with" (defArgs sShows) (defBody sShows) (defScope sShows) .none kV16 dc16 pm16 an16 cd16 ct16), sl16⟩) (c16 : PySem.W.codeIn K cd16 "shows_numbers_with" = true) (k16 : PySem.W.keepIn K (.ref f16) = true)
    (a17 : PySem.W.nsIn K mainGlobals "_law_taken" = some (some (.ref f17))) (l17 : K.lookup f17 = some ⟨oc17, od17, .func (PySem.W.fnOf "_law_taken" "_law_taken" (defArgs sTaken) (defBody sTaken) (defScope sTaken) .none kV17 dc17 pm17 an17 cd17 ct17), sl17⟩) (c17 : PySem.W.codeIn K cd17 "_law_taken" = true) (k17 : PySem.W.keepIn K (.ref f17) = true)
    (a18 : PySem.W.nsIn K mainGlobals "_law_pick" = some (some (.ref f18))) (l18 : K.lookup f18 = some ⟨oc18, od18, .func (PySem.W.fnOf "_law_pick" "_law_pick" (defArgs sPick) (defBody sPick) (defScope sPick) .none kV18 dc18 pm18 an18 cd18 ct18), sl18⟩) (c18 : PySem.W.codeIn K cd18 "_law_pick" = true) (k18 : PySem.W.keepIn K (.ref f18) = true)
    (a19 : PySem.W.nsIn K mainGlobals "_law_nest" = some (some (.ref f19))) (l19 : K.lookup f19 = some ⟨oc19, od19, .func (PySem.W.fnOf "_law_nest" "_law_nest" (defArgs sNest) (defBody sNest) (defScope sNest) .none kV19 dc19 pm19 an19 cd19 ct19), sl19⟩) (c19 : PySem.W.codeIn K cd19 "_law_nest" = true) (k19 : PySem.W.keepIn K (.ref f19) = true)
    (a20 : PySem.W.nsIn K mainGlobals "_law_counts" = some (some (.ref f20))) (l20 : K.lookup f20 = some ⟨oc20, od20, .func (PySem.W.fnOf "_law_counts" "_law_counts" (defArgs sCounts) (defBody sCounts) (defScope sCounts) .none kV20 dc20 pm20 an20 cd20 ct20), sl20⟩) (c20 : PySem.W.codeIn K cd20 "_law_counts" = true) (k20 : PySem.W.keepIn K (.ref f20) = true)
    (a21 : PySem.W.nsIn K mainGlobals "_law_is_vector" = some (some (.ref f21))) (l21 : K.lookup f21 = some ⟨oc21, od21, .func (PySem.W.fnOf "_law_is_vector" "_law_is_vector" (defArgs sIsVector) (defBody sIsVector) (defScope sIsVector) .none kV21 dc21 pm21 an21 cd21 ct21), sl21⟩) (c21 : PySem.W.codeIn K cd21 "_law_is_vector" = true) (k21 : PySem.W.keepIn K (.ref f21) = true)
    (a22 : PySem.W.nsIn K mainGlobals "_law_alike" = some (some (.ref f22))) (l22 : K.lookup f22 = some ⟨oc22, od22, .func (PySem.W.fnOf "_law_alike" "_law_alike" (defArgs sAlike) (defBody sAlike) (defScope sAlike) .none kV22 dc22 pm22 an22 cd22 ct22), sl22⟩) (c22 : PySem.W.codeIn K cd22 "_law_alike" = true) (k22 : PySem.W.keepIn K (.ref f22) = true)
    (a23 : PySem.W.nsIn K mainGlobals "law" = some (some (.ref f23))) (l23 : K.lookup f23 = some ⟨oc23, od23, .func (PySem.W.fnOf "law" "law" (defArgs sLaw) (defBody sLaw) (defScope sLaw) .none kV23 dc23 pm23 an23 cd23 ct23), sl23⟩) (c23 : PySem.W.codeIn K cd23 "law" = true) (k23 : PySem.W.keepIn K (.ref f23) = true)
    (z1 : PySem.W.nsIn K mainGlobals "isinstance" = some none)
    (z2 : PySem.W.nsIn K mainGlobals "int" = some none)
    (z3 : PySem.W.nsIn K mainGlobals "bool" = some none)
    (z4 : PySem.W.nsIn K mainGlobals "str" = some none)
    (z5 : PySem.W.nsIn K mainGlobals "tuple" = some none)
    (z6 : PySem.W.nsIn K mainGlobals "list" = some none)
    (z7 : PySem.W.nsIn K mainGlobals "set" = some none)
    (z8 : PySem.W.nsIn K mainGlobals "sorted" = some none)
    (z9 : PySem.W.nsIn K mainGlobals "len" = some none)
    (z10 : PySem.W.nsIn K mainGlobals "range" = some none)
    (z11 : PySem.W.nsIn K mainGlobals "enumerate" = some none)
    (z12 : PySem.W.nsIn K mainGlobals "zip" = some none)
    (z13 : PySem.W.nsIn K mainGlobals "min" = some none)
    (m1 : PySem.W.nsIn K mainGlobals "MOST_DOORS" = some (some (.int 9 tk1)))
    (m2 : PySem.W.nsIn K mainGlobals "MOST_NUMBER" = some (some (.int 8 tk2)))
    (m3 : PySem.W.nsIn K mainGlobals "MOST_COUNT" = some (some (.int 1000000 tk3)))
    : ∃ fd : FuncData, (∀ (s : Shared) (v : Value), BindsTo s fd ⟨[v], []⟩ [("_law_script", v)]) ∧ ∀ base : Heap, K.In base → base.Ns mainGlobals mg → FnOk l.prog w K mg base CX0 13 fa fd ["_law_script"] (spLaw K) := by
  have e := hfa.symm.trans (PySem.W.mg_of X G a23)
  cases e
  have F1 := fun_mk (st := sIsIn) l1 c1 k1
  have b1 := F1.binds (ps := ["value", "least", "most"]) fun _ _ _ _ _ _ us hl => match us, hl with | [_, _, _], _ => rfl
  have F2 := fun_mk (st := sNeedNest) l2 c2 k2
  have b2 := F2.binds (ps := ["nest"]) fun _ _ _ _ _ _ us hl => match us, hl with | [_], _ => rfl
  have F3 := fun_mk (st := sIsSet) l3 c3 k3
  have b3 := F3.binds (ps := ["value"]) fun _ _ _ _ _ _ us hl => match us, hl with | [_], _ => rfl
  have F4 := fun_mk (st := sNeedNumbers) l4 c4 k4
  have b4 := F4.binds (ps := ["nest", "numbers"]) fun _ _ _ _ _ _ us hl => match us, hl with | [_, _], _ => rfl
  have F5 := fun_mk (st := sSizesIn) l5 c5 k5
  have b5 := F5.binds (ps := ["nest"]) fun _ _ _ _ _ _ us hl => match us, hl with | [_], _ => rfl
  have F6 := fun_mk (st := sSizes) l6 c6 k6
  have b6 := F6.binds (ps := ["nest"]) fun _ _ _ _ _ _ us hl => match us, hl with | [_], _ => rfl
  have F7 := fun_mk (st := sProduct) l7 c7 k7
  have b7 := F7.binds (ps := ["values"]) fun _ _ _ _ _ _ us hl => match us, hl with | [_], _ => rfl
  have F8 := fun_mk (st := sMixingsIn) l8 c8 k8
  have b8 := F8.binds (ps := ["nest"]) fun _ _ _ _ _ _ us hl => match us, hl with | [_], _ => rfl
  have F9 := fun_mk (st := sMixings) l9 c9 k9
  have b9 := F9.binds (ps := ["nest"]) fun _ _ _ _ _ _ us hl => match us, hl with | [_], _ => rfl
  have F10 := fun_mk (st := sKeptIn) l10 c10 k10
  have b10 := F10.binds (ps := ["nest", "numbers"]) fun _ _ _ _ _ _ us hl => match us, hl with | [_, _], _ => rfl
  have F11 := fun_mk (st := sOrderCount) l11 c11 k11
  have b11 := F11.binds (ps := ["nest", "numbers"]) fun _ _ _ _ _ _ us hl => match us, hl with | [_, _], _ => rfl
  have F12 := fun_mk (st := sNeedCount) l12 c12 k12
  have b12 := F12.binds (ps := ["count"]) fun _ _ _ _ _ _ us hl => match us, hl with | [_], _ => rfl
  have F13 := fun_mk (st := sPartsOf) l13 c13 k13
  have b13 := F13.binds (ps := ["sizes", "rest"]) fun _ _ _ _ _ _ us hl => match us, hl with | [_, _], _ => rfl
  have F14 := fun_mk (st := sWished) l14 c14 k14
  have b14 := F14.binds (ps := ["nest", "count"]) fun _ _ _ _ _ _ us hl => match us, hl with | [_, _], _ => rfl
  have F15 := fun_mk (st := sNumbersWith) l15 c15 k15
  have b15 := F15.binds (ps := ["nest", "count"]) fun _ _ _ _ _ _ us hl => match us, hl with | [_, _], _ => rfl
  have F16 := fun_mk (st := sShows) l16 c16 k16
  have b16 := F16.binds (ps := ["nest", "count", "value"]) fun _ _ _ _ _ _ us hl => match us, hl with | [_, _, _], _ => rfl
  have F17 := fun_mk (st := sTaken) l17 c17 k17
  have b17 := F17.binds (ps := ["_law_row", "_law_many"]) fun _ _ _ _ _ _ us hl => match us, hl with | [_, _], _ => rfl
  have F18 := fun_mk (st := sPick) l18 c18 k18
  have b18 := F18.binds (ps := ["_law_row", "_law_things"]) fun _ _ _ _ _ _ us hl => match us, hl with | [_, _], _ => rfl
  have F19 := fun_mk (st := sNest) l19 c19 k19
  have b19 := F19.binds (ps := ["_law_row", "_law_most"]) fun _ _ _ _ _ _ us hl => match us, hl with | [_, _], _ => rfl
  have F20 := fun_mk (st := sCounts) l20 c20 k20
  have b20 := F20.binds (ps := ["_law_wide", "_law_whole"]) fun _ _ _ _ _ _ us hl => match us, hl with | [_, _], _ => rfl
  have F21 := fun_mk (st := sIsVector) l21 c21 k21
  have b21 := F21.binds (ps := ["_law_value", "_law_size"]) fun _ _ _ _ _ _ us hl => match us, hl with | [_, _], _ => rfl
  have F22 := fun_mk (st := sAlike) l22 c22 k22
  have b22 := F22.binds (ps := ["_law_found", "_law_due"]) fun _ _ _ _ _ _ us hl => match us, hl with | [_, _], _ => rfl
  have F23 := fun_mk (st := sLaw) l23 c23 k23
  have B : Bi mg := ⟨PySem.W.mg_none_of X G z1, PySem.W.mg_none_of X G z2, PySem.W.mg_none_of X G z3, PySem.W.mg_none_of X G z4, PySem.W.mg_none_of X G z5, PySem.W.mg_none_of X G z6, PySem.W.mg_none_of X G z7, PySem.W.mg_none_of X G z8, PySem.W.mg_none_of X G z9, PySem.W.mg_none_of X G z10, PySem.W.mg_none_of X G z11, PySem.W.mg_none_of X G z12, PySem.W.mg_none_of X G z13, ⟨_, PySem.W.mg_of X G m1⟩, ⟨_, PySem.W.mg_of X G m2⟩, ⟨_, PySem.W.mg_of X G m3⟩⟩
  have p : Prog K mg := {
    B := B
    isIn := ⟨f1, _, F1, PySem.W.mg_of X G a1, b1⟩
    needNest := ⟨f2, _, F2, PySem.W.mg_of X G a2, b2⟩
    isSet := ⟨f3, _, F3, PySem.W.mg_of X G a3, b3⟩
    needNumbers := ⟨f4, _, F4, PySem.W.mg_of X G a4, b4⟩
    sizesIn := ⟨f5, _, F5, PySem.W.mg_of X G a5, b5⟩
    sizes := ⟨f6, _, F6, PySem.W.mg_of X G a6, b6⟩
    product := ⟨f7, _, F7, PySem.W.mg_of X G a7, b7⟩
    mixingsIn := ⟨f8, _, F8, PySem.W.mg_of X G a8, b8⟩
    mixings := ⟨f9, _, F9, PySem.W.mg_of X G a9, b9⟩
    keptIn := ⟨f10, _, F10, PySem.W.mg_of X G a10, b10⟩
    orderCount := ⟨f11, _, F11, PySem.W.mg_of X G a11, b11⟩
    needCount := ⟨f12, _, F12, PySem.W.mg_of X G a12, b12⟩
    parts := ⟨f13, _, F13, PySem.W.mg_of X G a13, b13⟩
    wished := ⟨f14, _, F14, PySem.W.mg_of X G a14, b14⟩
    numbersWith := ⟨f15, _, F15, PySem.W.mg_of X G a15, b15⟩
    shows := ⟨f16, _, F16, PySem.W.mg_of X G a16, b16⟩
    taken := ⟨f17, _, F17, PySem.W.mg_of X G a17, b17⟩
    pick := ⟨f18, _, F18, PySem.W.mg_of X G a18, b18⟩
    nest := ⟨f19, _, F19, PySem.W.mg_of X G a19, b19⟩
    counts := ⟨f20, _, F20, PySem.W.mg_of X G a20, b20⟩
    isVector := ⟨f21, _, F21, PySem.W.mg_of X G a21, b21⟩
    alike := ⟨f22, _, F22, PySem.W.mg_of X G a22, b22⟩
  }
  exact ⟨PySem.W.fnOf "law" "law" (defArgs sLaw) (defBody sLaw) (defScope sLaw) .none kV23 dc23 pm23 an23 cd23 ct23, fun s v => .of_eq rfl, fun base _ _ => ok_law F23 p⟩
end Cd

open PySem PySem.W PyProof.Rows
set_option maxRecDepth 100000 in
set_option maxHeartbeats 0 in
theorem PySem.Challenge.cw_countdoors_k38_whole_wished_counts_holds : PySem.Challenge.rw_countdoors_k38_whole_wished_counts.Holds := by
  w_on; o_law; k_head; (case hw => w_witness2)
  k_fill
  refine L2.walk_of (l := PySem.Challenge.rw_countdoors_k38_whole_wished_counts) (n := 63) (k := 13) (x := "_law_script") (CX := fun _ => L2.CX0) (sp := fun w => Cd.spLaw _) rfl (by decide) rfl ⟨rfl, by decide, by decide⟩ (fun w h Y => PySem.W.kIn_of Y) ?F (fun _ _ a ns hl _ hS => ⟨a, ns, rfl, hS, hl, fun _ => rfl⟩) (fun _ _ _ _ _ h => h)
  case F =>
    intro w mg fa h KX G hmg
    refine' Cd.all_mk KX G hmg ?a1 ?l1 ?c1 ?k1 ?a2 ?l2 ?c2 ?k2 ?a3 ?l3 ?c3 ?k3 ?a4 ?l4 ?c4 ?k4 ?a5 ?l5 ?c5 ?k5 ?a6 ?l6 ?c6 ?k6 ?a7 ?l7 ?c7 ?k7 ?a8 ?l8 ?c8 ?k8 ?a9 ?l9 ?c9 ?k9 ?a10 ?l10 ?c10 ?k10 ?a11 ?l11 ?c11 ?k11 ?a12 ?l12 ?c12 ?k12 ?a13 ?l13 ?c13 ?k13 ?a14 ?l14 ?c14 ?k14 ?a15 ?l15 ?c15 ?k15 ?a16 ?l16 ?c16 ?k16 ?a17 ?l17 ?c17 ?k17 ?a18 ?l18 ?c18 ?k18 ?a19 ?l19 ?c19 ?k19 ?a20 ?l20 ?c20 ?k20 ?a21 ?l21 ?c21 ?k21 ?a22 ?l22 ?c22 ?k22 ?a23 ?l23 ?c23 ?k23 ?z1 ?z2 ?z3 ?z4 ?z5 ?z6 ?z7 ?z8 ?z9 ?z10 ?z11 ?z12 ?z13 ?m1 ?m2 ?m3
    (case a1 => k_is)
    (case l1 => k_is)
    (case c1 => k_is)
    (case k1 => k_is)
    (case a2 => k_is)
    (case l2 => k_is)
    (case c2 => k_is)
    (case k2 => k_is)
    (case a3 => k_is)
    (case l3 => k_is)
    (case c3 => k_is)
    (case k3 => k_is)
    (case a4 => k_is)
    (case l4 => k_is)
    (case c4 => k_is)
    (case k4 => k_is)
    (case a5 => k_is)
    (case l5 => k_is)
    (case c5 => k_is)
    (case k5 => k_is)
    (case a6 => k_is)
    (case l6 => k_is)
    (case c6 => k_is)
    (case k6 => k_is)
    (case a7 => k_is)
    (case l7 => k_is)
    (case c7 => k_is)
    (case k7 => k_is)
    (case a8 => k_is)
    (case l8 => k_is)
    (case c8 => k_is)
    (case k8 => k_is)
    (case a9 => k_is)
    (case l9 => k_is)
    (case c9 => k_is)
    (case k9 => k_is)
    (case a10 => k_is)
    (case l10 => k_is)
    (case c10 => k_is)
    (case k10 => k_is)
    (case a11 => k_is)
    (case l11 => k_is)
    (case c11 => k_is)
    (case k11 => k_is)
    (case a12 => k_is)
    (case l12 => k_is)
    (case c12 => k_is)
    (case k12 => k_is)
    (case a13 => k_is)
    (case l13 => k_is)
    (case c13 => k_is)
    (case k13 => k_is)
    (case a14 => k_is)
    (case l14 => k_is)
    (case c14 => k_is)
    (case k14 => k_is)
    (case a15 => k_is)
    (case l15 => k_is)
    (case c15 => k_is)
    (case k15 => k_is)
    (case a16 => k_is)
    (case l16 => k_is)
    (case c16 => k_is)
    (case k16 => k_is)
    (case a17 => k_is)
    (case l17 => k_is)
    (case c17 => k_is)
    (case k17 => k_is)
    (case a18 => k_is)
    (case l18 => k_is)
    (case c18 => k_is)
    (case k18 => k_is)
    (case a19 => k_is)
    (case l19 => k_is)
    (case c19 => k_is)
    (case k19 => k_is)
    (case a20 => k_is)
    (case l20 => k_is)
    (case c20 => k_is)
    (case k20 => k_is)
    (case a21 => k_is)
    (case l21 => k_is)
    (case c21 => k_is)
    (case k21 => k_is)
    (case a22 => k_is)
    (case l22 => k_is)
    (case c22 => k_is)
    (case k22 => k_is)
    (case a23 => k_is)
    (case l23 => k_is)
    (case c23 => k_is)
    (case k23 => k_is)
    (case z1 => k_is)
    (case z2 => k_is)
    (case z3 => k_is)
    (case z4 => k_is)
    (case z5 => k_is)
    (case z6 => k_is)
    (case z7 => k_is)
    (case z8 => k_is)
    (case z9 => k_is)
    (case z10 => k_is)
    (case z11 => k_is)
    (case z12 => k_is)
    (case z13 => k_is)
    (case m1 => k_is)
    (case m2 => k_is)
    (case m3 => k_is)

