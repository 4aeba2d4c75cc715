import PyProof.Rows.All
import Wide.All
import OpenK.AllK
import Wide.FinOn
import HandS.ForMost
import HandS.Walk
import HandS.Zip
import HandS.Style
import HandS.Flow
import HandS.Wide
import HandS.IsInst
import HandS.Strs
import HandS.SetFor
import HandS.TupAny
import HandS.TupMul
import PyProof.FactsAll.tuple_2
import HandS.Star
import KE.GoesNew
import PySem.Challenge.RW_monicsums_k13_whole_products_and_least_m
set_option Elab.async false
set_option linter.all false
set_option maxRecDepth 100000
set_option maxHeartbeats 4000000
/-! rules that the layer lacks: enumerate of a tuple, zip of a list and a tuple, tuple.index and tuple.count of ints, a tuple times any int, a power of a great int, a written dict read by an int key -/
namespace K13
open PySem PySem.Spec PyProof.Rows L2
/-! ### a tuple's methods -/
section
variable {X : Cx}
theorem flat_ints (ns : List Int) : (ns.map V.int).all flatV = true := by
  rw [List.all_map]
  exact List.all_eq_true.mpr fun _ _ => rfl
theorem mt_tindex : MtR X "tuple.index" (fun x xs H Q => ∃ (p : Addr) (ns : List Int) (k : Int) (j : Nat), x = .ref p ∧ xs = [.int k] ∧ SqT X.K H p (ns.map V.int) ∧ ns[j]? = some k ∧ (∀ m, m < j → ns[m]? ≠ some k) ∧ Q (.int (j : Nat)) H) := by
  intro pins s σ H x xs v us Q I rx rs h
  obtain ⟨p, ns, k, j, rfl, rfl, hq, hy, hno, q⟩ := h
  cases rx
  obtain ⟨u, rfl, t, rfl⟩ := vals1 rs
  obtain ⟨its, r, pl, hz⟩ := I.tuple hq
  obtain ⟨⟨cls, dd, dt, sl⟩, ho, hc, n, hd⟩ := pl
  simp only at hc hd
  subst hc
  subst hd
  have hl : its.toArray.size = ns.length := by rw [List.size_toArray, ← r.length, List.length_map]
  have hj : j < its.toArray.size := by rw [hl]; exact (List.getElem?_eq_some_iff.mp hy).1
  have at' : ∀ (m : Nat) (hm : m < its.toArray.size), ∃ y t', ns[m]? = some y ∧ its.toArray[m] = Value.int y t' := fun m hm => by
    have hm' : m < ns.length := by rw [← hl]; exact hm
    obtain ⟨w, hw, t', hw'⟩ := r.get (i := m) (x := .int ns[m]) (by simp [hm'])
    refine ⟨ns[m], t', List.getElem?_eq_getElem hm', ?_⟩
    have e := (List.getElem?_eq_some_iff.mp hw).2
    rw [← hw', ← e]
    simp
  refine call_meets PySem.F.slot_tuple_index ⟨_, ho, rfl⟩ PySem.F.entry_tuple_index (PySem.F.args_tuple_index_2 _ _) (TI.tuple_indexAt p its.toArray n dd sl (.int k t) (eqU (.int k)) j hj ?_ ?_)
    ⟨ho, fun w hw => mem_eqAt (x := .int k) ⟨t, rfl⟩ rfl r (flat_ints ns) w (by simpa using hw), ⟨.int (j : Nat), H, I.tok _, ⟨_, rfl⟩, q⟩⟩
  · obtain ⟨y, t', h1, h2⟩ := at' j hj
    rw [hy] at h1
    cases h1
    rw [h2]
    show (k == k) = true
    exact beq_self_eq_true k
  · intro m hm hmj
    obtain ⟨y, t', h1, h2⟩ := at' m hm
    rw [h2]
    show (y == k) = false
    exact beq_eq_false_iff_ne.mpr fun e => hno m hmj (e ▸ h1)
theorem mt_tcount : MtR X "tuple.count" (fun x xs H Q => ∃ (p : Addr) (ns : List Int) (k : Int), x = .ref p ∧ xs = [.int k] ∧ SqT X.K H p (ns.map V.int) ∧ Q (.int (ns.count k : Nat)) H) := by
  intro pins s σ H x xs v us Q I rx rxs h
  obtain ⟨p, ns, k, rfl, rfl, hs, q⟩ := h
  cases rx
  obtain ⟨u, rfl, ru⟩ := rxs.one
  obtain ⟨t, rfl⟩ := ru
  obtain ⟨its, rv, ⟨⟨cls, dd, data, sl⟩, ho, hc, n, hd⟩, hlen⟩ := I.tuple hs
  simp only at hc hd
  subst hc hd
  have hi := ints_of_vals rv
  refine call_meets PySem.F.slot_tuple_count ⟨_, ho, rfl⟩ PySem.F.entry_tuple_count (PySem.F.args_tuple_count_2 _ _)
    (SeqAt.tuple_countAt p its.toArray n dd sl (.int k t) (eqk k)) ⟨ho, fun y hy => (eqk_gives hi y (by simpa using hy)).at _ _, ?_⟩
  have ec : its.toArray.toList.countP (eqk k) = ns.count k := eqk_count hi
  refine ⟨.int (ns.count k : Nat), H, I.tok _, ⟨s.toks, ?_⟩, q⟩
  show Value.int ((its.toArray.toList.countP (eqk k) : Nat) : Int) s.toks = Value.int ((ns.count k : Nat) : Int) s.toks
  rw [ec]
/-! ### a power of a great int -/
theorem op_powW : OpR X (binaryOp .Pow) (rI (fun i j => 0 ≤ j ∧ (Builtin.Int.intBits i : Int) * j ≤ 2 ^ 27) fun i j => .int (i ^ j.toNat)) := opI fun _ _ _ _ _ _ _ hc q => pow_int hc.1 hc.2 q
/-! ### a written dict by an int key -/
def KDctI (K : PySem.W.Frag) (a : Addr) (i : Int) (v : V) : Prop :=
  ∃ es n u, K.lookup a = some ⟨.type "dict", none, .dict es n, #[]⟩ ∧ (es.toList.all fun e => match e.key with | .int k _ => e.hash == hashInt k | _ => false) = true ∧ findBy Value.isInt es i = some u ∧ RelV v u
theorem keysOf_all {prog : Program} {w : World} {es : Array DictEntry} (hk : (es.toList.all fun e => match e.key with | .int k _ => e.hash == hashInt k | _ => false) = true) : KeysOf (intKind prog w) es := by
  intro e he
  have z := List.all_eq_true.mp hk e (Array.mem_toList_iff.mpr he)
  split at z
  · rename_i k t hk2
    refine ⟨k, ?_, beq_iff_eq.mp z⟩
    rw [hk2]
    show Value.isInt k (.int k t) = true
    simp [Value.isInt]
  · cases z
theorem ix_kdictI : IxR X (fun x y H Q => ∃ p i v, x = .ref p ∧ y = .int i ∧ KDctI X.K p i v ∧ Q v H) := by
  intro value slice pins s σ H x y v u Q I rx ry h hs
  obtain ⟨p, i, r, rfl, rfl, ⟨es, n, u0, hl, hk, e, ru⟩, q⟩ := h
  obtain rfl : v = Value.ref p := rx
  obtain ⟨t, rfl⟩ := ry
  have hm : s.heap.MapOf (intKind X.prog X.w) p (fun k => findBy Value.isInt es k) :=
    ⟨_, es, n, I.kIn _ _ hl, ⟨rfl, rfl, rfl⟩, rfl, keysOf_all hk, fun _ => rfl⟩
  exact tail_any hm.typeIs slot_dict_getitem.lookup (wpAny_getItem_of (k := i) (show Value.isInt i (.int i t) = true by simp [Value.isInt]) hm e ⟨r, H, I.tok _, ru, q⟩) hs
end
/-! ### enumerate(tuple) -/
set_option maxHeartbeats 1000000 in
theorem meets_enumB {v : Value} {o : Obj} {Hb : Heap → Prop} (B : Begins v o Hb) :
    Meets (Builtin.«enumerate.__new__» ⟨[.type "enumerate", v], []⟩) (fun _ R s => Hb s.heap ∧
      R (.ok (.ret (.ref (s.heap.push o).objs.size))) { s with heap := (s.heap.push o).push { cls := .type "enumerate", data := .fields #[.none, .bool false, .ref s.heap.objs.size, rawInt 0, .none, .none] } }) :=
  .of_wp fun prog w A R s h => by
    obtain ⟨hp, g, d, tk, os⟩ := s; obtain ⟨h1, h⟩ := h
    have hsub := sub_enumerate
    have q1 : ∀ {A' : Around} {E : Value → Shared → Prop} {Q : Value → Shared → Prop}, Q (.ref hp.objs.size) ⟨hp.push o, g, d, tk, os⟩ → wpAny (model prog w) A' (pyIter v) Q E ⟨hp, g, d, tk, os⟩ :=
      fun q => B.iter prog w _ _ ⟨hp, g, d, tk, os⟩ _ h1 q
    wp_walk using q1
    refine wpAny_stack_any fun st => wpAny_pure ?_
    split
    · rename_i c _ _ _ _ _
      cases (c == Value.type "enumerate")
      · wp_walk using q1
        exact ⟨_, rfl, h⟩
      · wp_walk using q1
        exact ⟨_, rfl, h⟩
    · wp_walk using q1
      exact ⟨_, rfl, h⟩
section
variable {prog : Program} {w : World} {A : Around} {E : Value → Shared → Prop} {s : Shared}
theorem call_enumB {v : Value} {o : Obj} {Hb : Heap → Prop} {Q : Value → Shared → Prop} (B : Begins v o Hb) (h1 : Hb s.heap)
    (h : ∀ h', IsEnum h' (s.heap.objs.size + 1) s.heap.objs.size 0 .none → h'.get? s.heap.objs.size = some o → h'.objs.size = s.heap.objs.size + 2 →
      (∀ b o, s.heap.get? b = some o → h'.get? b = some o) → Q (.ref (s.heap.objs.size + 1)) { s with heap := h' }) :
    wpAny (model prog w) A (call (.type "enumerate") [v]) Q E s := by
  refine callType_new F.called_enumerate (by decide) (F.typeCall_enumerate_1 _) (F.newCall_enumerate_1 _) (fun obj => F.args_object_init_2 obj _) F.entry_enumerate_new
    (meets_enumB B) ⟨h1, ?_⟩
  have hz : (s.heap.push o).objs.size = s.heap.objs.size + 1 := Heap.size_push ..
  show _ ∧ _
  rw [hz]
  have he : IsEnum ((s.heap.push o).push { cls := .type "enumerate", data := .fields #[.none, .bool false, .ref s.heap.objs.size, rawInt 0, .none, .none] }) (s.heap.objs.size + 1) s.heap.objs.size 0 .none := by
    have := Heap.get?_push_size (s.heap.push o) (o := { cls := .type "enumerate", data := .fields #[.none, .bool false, .ref s.heap.objs.size, rawInt 0, .none, .none] }) rfl
    rw [hz] at this; exact this
  refine ⟨⟨_, he, rfl⟩, h _ he (Heap.get?_push_of_some _ (Heap.get?_push_size _ B.free)) (by rw [Heap.size_push, hz]) fun b o x => Heap.get?_push_of_some _ (Heap.get?_push_of_some _ x)⟩
end
/-- the tuple at a, each item in a new pair -/
def IteT (K : PySem.W.Frag) (a : Addr) : It :=
  ⟨fun i H => ∃ (xs : List V) (x : V), SqT K H a xs ∧ xs[i]? = some x, fun i H v H' => ∃ T x, v = .ref T ∧ H T = none ∧ H' = upd H T (.tup [.int (i : Nat), x]) ∧ ∀ xs, SqT K H a xs → xs[i]? = some x, fun i H => ∃ xs : List V, SqT K H a xs ∧ xs.length = i⟩
/-- an iterator of pairs, by the library's walk of pairs: its own cells fp are untracked, what it draws from may be tracked -/
theorem turn_pairs {P : Program} {w : World} {K : PySem.W.Frag} {elts : List Expr} {kk : Nat} {tpos : Pos} {J : It} {it : Addr} {fp : List Addr} {own : Nat → Heap → Prop} (mem : it ∈ fp)
    (obj : ∀ i h, own i h → ∀ b ∈ fp, ∃ o, h.get? b = some o ∧ ∀ v, o.data ≠ .cell v)
    (keep : ∀ i h h', own i h → (∀ b ∈ fp, ∀ o, h.get? b = some o → h'.get? b = some o) → own i h')
    (self : ∀ (A : Around) (i : Nat) (s : Shared) (Q : Value → Shared → Prop) (E : Value → Shared → Prop), own i s.heap → Q (.ref it) s → wpAny (model P w) A (pyIter (.ref it)) Q E s)
    (more : ∀ (X : Cx), X.prog = P → X.w = w → X.K = K → X.A.handled = none → ∀ i pins s σ H, Inv X pins σ H s → own i s.heap → J.go i H →
      ∃ fpW wr n Pt St Mid, WalksT P w X.A it fpW wr n Pt St Mid ∧ (∀ b ∈ wr, b ∈ fp) ∧ i < n ∧ St i s.heap ∧ (∀ h, St (i + 1) h → own (i + 1) h) ∧
        ∀ vals, Pt i vals → ∃ x y, Vals [x, y] vals.toList ∧ ∀ T, H T = none → J.yld i H (.ref T) (upd H T (.tup [x, y])))
    (last : ∀ (X : Cx), X.prog = P → X.w = w → X.K = K → X.A.handled = none → ∀ i pins s σ H, Inv X pins σ H s → own i s.heap → J.stop i H →
      ∃ fpW wr Pt St Mid, WalksT P w X.A it fpW wr i Pt St Mid ∧ (∀ b ∈ wr, b ∈ fp) ∧ St i s.heap) :
    Turn P w K (.Tuple elts kk tpos) J fp it own where
  mem := mem
  obj := obj
  keep := keep
  self := self
  item := by
    intro X hP hw hK hc i pins s σ H E I hf st hg
    obtain ⟨fpW, wr, n, Pt, St, Mid, W, hwr, hi, hst, hown, hval⟩ := more X hP hw hK (I.ok.hd hc) i pins s σ H I st hg
    refine wpAny_with_toks (n := s.toks) (Nat.le_refl _) (W.item i s _ _ hi hst fun T vals h1 tk hPt hnew hT hm hk htk => ⟨.ref T, rfl, W.go elts kk tpos i T { s with heap := h1, toks := tk } _ _ hm fun h2 st2 hk2 => ?_⟩)
    obtain ⟨x, y, hxy, hyld⟩ := hval vals hPt
    have hT2 : h2.IsTuple T vals := hT.at fun o e => hk2 T o (W.apart i T h1 hm) e
    have hl : vals.toList.length = 2 := hxy.length.symm
    have new : ObjOk X.prog X.w (upd H T (.tup [x, y])) h2 T (.tup [x, y]) :=
      ⟨by show 2 ≤ sizeLine; decide, vals.toList, hxy, by rw [Array.toArray_toList]; exact hT2⟩
    have I1 : Inv X pins σ (upd H T (.tup [x, y])) { s with heap := h2, toks := tk } :=
      I.turnedNew (ch := fp) (fun b ob hb q => hk2 b ob (fun z => hb (hwr b z)) (hk b ob (fun z => hb (hwr b z)) q)) hf hnew new
    have old : ∀ b ∈ fp, b ≠ T := fun b hb => by
      obtain ⟨o, e, _⟩ := obj i _ st b hb
      exact Nat.ne_of_lt (Nat.lt_of_lt_of_le (Heap.lt_size e) hnew)
    exact ⟨.ref T, _, I1, rfl, hyld T (I.hok.fresh hnew), hown _ st2, fun b hb => by rw [upd_ne (old b hb)]; exact (hf b hb).1⟩
  done := by
    intro X hP hw hK hc i pins s σ H E I hf st hg
    obtain ⟨fpW, wr, Pt, St, Mid, W, hwr, hst⟩ := last X hP hw hK (I.ok.hd hc) i pins s σ H I st hg
    exact wpAny_with_toks (n := s.toks) (Nat.le_refl _) (W.done s _ _ hst fun h1 tk hk htk => ⟨rfl, I.turnedL (ch := fp) (fun b ob hb q => hk b ob (fun z => hb (hwr b z)) q) hf⟩)
theorem turn_enumT {P : Program} {w : World} {K : PySem.W.Frag} {elts : List Expr} {kk : Nat} {tpos : Pos} (a e it : Addr) (hea : e ≠ a) (hia : it ≠ a) (hne : e ≠ it) :
    Turn P w K (.Tuple elts kk tpos) (IteT K a) [e, it] e (fun i h => (∃ old, IsEnum h e it ((i : Nat) : Int) old) ∧ h.IsTupleIter it a i) := by
  have hef : e ∉ [it, a] := by simp [hne, hea]
  refine turn_pairs (by simp) ?_ ?_ (fun A i s Q E st h => wpAny_pyIter_enum st.1.choose_spec h) ?_ ?_
  · rintro i h ⟨⟨old, he⟩, o, ho, hc, hd⟩ b hb
    simp only [List.mem_cons, List.not_mem_nil, or_false] at hb
    rcases hb with rfl | rfl
    · exact ⟨_, he, fun v q => nomatch q⟩
    · exact ⟨o, ho, fun v q => by rw [hd] at q; cases q⟩
  · rintro i h h2 ⟨⟨old, he⟩, hi⟩ k
    exact ⟨⟨old, k e (by simp) _ he⟩, hi.at fun o q => k it (by simp) o q⟩
  · rintro X rfl rfl rfl hh i pins s σ H I ⟨⟨old, he⟩, hi⟩ ⟨xs, x, hq, hx⟩
    obtain ⟨its, rv, p, hz⟩ := I.tuple hq
    obtain ⟨u, hu, ru⟩ := rv.get hx
    have hlt : i < its.toArray.size := by rw [List.size_toArray]; exact (List.getElem?_eq_some_iff.mp hu).1
    refine ⟨_, _, _, _, _, _, WalksT.enumerateD (Draws.tuple (show X.A.in1.handled = none from hh) it a (Ne.symm hia) its.toArray) e hne hef (by simp), by simp, hlt, ⟨⟨old, he⟩, hi, p⟩, fun h st => ⟨st.1, st.2.1⟩, ?_⟩
    rintro vals ⟨t, y, hy, rfl⟩
    have ey : y = u := Option.some.inj (((show its[i]? = some y by simpa using hy).symm).trans hu)
    subst ey
    exact ⟨.int i, x, .cons ⟨t, rfl⟩ (.cons ru .nil), fun T hT => ⟨T, x, rfl, hT, rfl, fun ys hy => by rw [I.tuple_inj hy hq]; exact hx⟩⟩
  · rintro X rfl rfl rfl hh i pins s σ H I ⟨⟨old, he⟩, hi⟩ ⟨xs, hq, rfl⟩
    obtain ⟨its, rv, p, hz⟩ := I.tuple hq
    have hn : its.toArray.size = xs.length := by rw [List.size_toArray]; exact rv.length.symm
    rw [← hn] at he hi ⊢
    exact ⟨_, _, _, _, _, WalksT.enumerateD (Draws.tuple (show X.A.in1.handled = none from hh) it a (Ne.symm hia) its.toArray) e hne hef (by simp), by simp, ⟨⟨old, he⟩, hi, p⟩⟩
def iEnumT (K : PySem.W.Frag) (ta : TA) : TI := fun σ H R => ta σ H fun vs H1 => ∃ a xs, vs = [.ref a] ∧ SqT K H1 a xs ∧ R (IteT K a) H1
theorem pi_enumT {X : Cx} {e : Expr} {ta : TA} {p pos tpos : Pos} {elts : List Expr} {kk : Nat} (hg : Gl X "enumerate") (hm : X.mg "enumerate" = none) (ha : PA X [e] ta) (hs : starEach [e] X.env = [(false, eval e X.env)] := by rfl) :
    PI X (.Tuple elts kk tpos) (.Call (.Name "enumerate" p) [e] [] pos) (iEnumT X.K ta) := by
  refine ⟨fun pins s σ H R I h => ?_⟩
  refine Call_ (ld_blt I hg hm boot_enumerate (PyProof.Rows.callWith_type1 (thn (ha.run pos pins s σ H _ I h) fun us s1 ⟨vs, H1, I1, r1, q1⟩ => ?_) hs rfl))
  obtain ⟨a, xs, ex, hq, q⟩ := q1
  subst ex
  cases r1 with
  | cons r rr =>
    cases rr
    cases r
    obtain ⟨its, rv, p', hz⟩ := I1.tuple hq
    have hal : a < s1.heap.objs.size := p'.lt
    refine call_enumB (begins_tuple a its.toArray) p' fun h' he hit hsz hk => wpAny_pyIter_enum he ?_
    have I2 : Inv X pins σ H1 { s1 with heap := h' } := I1.kept (t' := s1.toks) hk
    refine ⟨s1.heap.objs.size + 1, [s1.heap.objs.size + 1, s1.heap.objs.size], _, _, H1, rfl, I2, turn_enumT a (s1.heap.objs.size + 1) s1.heap.objs.size (Nat.ne_of_gt (Nat.lt_succ_of_lt hal)) (Nat.ne_of_gt hal) (Nat.succ_ne_self _), ⟨⟨.none, he⟩, ⟨_, hit, rfl, rfl⟩⟩, fun b hb => ?_, q⟩
    have e' : b = s1.heap.objs.size + 1 ∨ b = s1.heap.objs.size := by simpa using hb
    have hle : s1.heap.objs.size ≤ b := by
      rcases e' with z | z
      · rw [z]; exact Nat.le_add_right _ _
      · rw [z]; exact Nat.le_refl _
    exact I1.fpOk hle (I1.hok.fresh hle)
theorem walk_enumT {K : PySem.W.Frag} {a : Addr} {xs : List V} : Walk (IteT K a) xs.length (fun H => SqT K H a xs) (YPair (fun i => some (.int (i : Nat))) (fun i => xs[i]?)) := by
  refine ⟨fun i _ hi q => ⟨xs, xs[i], q, by simp [hi]⟩, fun _ q => ⟨xs, q, rfl⟩, fun i H v H' _ q y => ?_⟩
  obtain ⟨T, x, h1, h2, h3, h4⟩ := y
  exact ⟨T, .int (i : Nat), x, h1, h2, h3, rfl, h4 xs q⟩
/-! ### zip(list, tuple) -/
def ItzM (K : PySem.W.Frag) (a b : Addr) : It :=
  ⟨fun i H => ∃ (xs ys : List V) (x y : V), SqL K H a xs ∧ SqT K H b ys ∧ xs[i]? = some x ∧ ys[i]? = some y,
    fun i H v H' => ∃ T x y, v = .ref T ∧ H T = none ∧ H' = upd H T (.tup [x, y]) ∧ (∀ xs, SqL K H a xs → xs[i]? = some x) ∧ ∀ ys, SqT K H b ys → ys[i]? = some y,
    fun i H => ∃ xs ys : List V, SqL K H a xs ∧ SqT K H b ys ∧ i ≤ xs.length ∧ i ≤ ys.length ∧ (i = xs.length ∨ i = ys.length)⟩
theorem zsep {z TI TO i1 i2 a b : Addr} (D : ZipApart z TI TO i1 i2 a b) : ZipSep2 z TI TO i1 i2 [i1, a] [i2, b] where
  TIz := D.TIz
  TOz := D.TOz
  TITO := D.TITO
  TIi1 := D.TIi1
  mem1 := by simp
  zf1 := by
    intro hm
    have e : z = i1 ∨ z = a := by simpa using hm
    exact e.elim (fun e => D.i1z e.symm) fun e => D.l1z e.symm
  Tf1 := by
    intro hm
    have e : TO = i1 ∨ TO = a := by simpa using hm
    exact e.elim D.TOi1 fun e => D.l1TO e.symm
  TIi2 := D.TIi2
  mem2 := by simp
  zf2 := by
    intro hm
    have e : z = i2 ∨ z = b := by simpa using hm
    exact e.elim (fun e => D.i2z e.symm) fun e => D.l2z e.symm
  Tf2 := by
    intro hm
    have e : TO = i2 ∨ TO = b := by simpa using hm
    exact e.elim D.TOi2 fun e => D.l2TO e.symm
  sep1_2 := by
    intro hm
    have e : i1 = i2 ∨ i1 = b := by simpa using hm
    exact e.elim D.i12 fun e => D.l2i1 e.symm
  sep2_1 := by
    intro hm
    have e : i2 = i1 ∨ i2 = a := by simpa using hm
    exact e.elim (fun e => D.i12 e.symm) fun e => D.l1i2 e.symm
theorem turn_zipM {P : Program} {w : World} {K : PySem.W.Frag} {elts : List Expr} {kk : Nat} {tpos : Pos} {a b z TI TO i1 i2 : Addr} (D : ZipApart z TI TO i1 i2 a b) :
    Turn P w K (.Tuple elts kk tpos) (ItzM K a b) [z, TI, TO, i1, i2] z (fun i h => IsZip h z TI TO .none ∧ IsTupOf2 h TI (.ref i1) (.ref i2) ∧ (∃ x y, IsTupOf2 h TO x y) ∧ h.IsListIter i1 a i ∧ h.IsTupleIter i2 b i) := by
  refine turn_pairs (by simp) ?_ ?_ (fun A i s Q E st h => wpAny_pyIter_zip st.1 h) ?_ ?_
  · rintro i h ⟨hz, hTI, ⟨x, y, hTO⟩, ⟨o1, e1, _, d1⟩, o2, e2, _, d2⟩ c hc
    simp only [List.mem_cons, List.not_mem_nil, or_false] at hc
    rcases hc with rfl | rfl | rfl | rfl | rfl
    · exact ⟨_, hz, fun v q => nomatch q⟩
    · exact ⟨_, hTI, fun v q => nomatch q⟩
    · exact ⟨_, hTO, fun v q => nomatch q⟩
    · exact ⟨o1, e1, fun v q => by rw [d1] at q; cases q⟩
    · exact ⟨o2, e2, fun v q => by rw [d2] at q; cases q⟩
  · rintro i h h2 ⟨hz, hTI, ⟨x, y, hTO⟩, j1, j2⟩ k
    exact ⟨k z (by simp) _ hz, k TI (by simp) _ hTI, ⟨x, y, k TO (by simp) _ hTO⟩, j1.at (k i1 (by simp)), j2.at (k i2 (by simp))⟩
  · rintro X rfl rfl rfl hh i pins s σ H I ⟨hz, hTI, hTO, j1, j2⟩ ⟨xs, ys, x, y, hqx, hqy, hx, hy⟩
    obtain ⟨us, rv, p, _⟩ := I.list hqx
    obtain ⟨ws, rv2, p2, _⟩ := I.tuple hqy
    obtain ⟨u, hu, ru⟩ := rv.get hx
    obtain ⟨u2, hu2, ru2⟩ := rv2.get hy
    have l1 : i < us.toArray.size := by rw [List.size_toArray]; exact (List.getElem?_eq_some_iff.mp hu).1
    have l2 : i < ws.toArray.size := by rw [List.size_toArray]; exact (List.getElem?_eq_some_iff.mp hu2).1
    refine ⟨_, _, _, _, _, _, WalksT.zipD2 (zsep D) (Draws.list (show X.A.in1.handled = none from hh) i1 a D.l1i1 us.toArray) (Draws.tuple (show X.A.in1.handled = none from hh) i2 b D.l2i2 ws.toArray), ?_, by omega, ⟨hz, hTI, hTO, ⟨j1, p.isList⟩, j2, p2⟩, fun h st => ⟨st.1, st.2.1, st.2.2.1, st.2.2.2.1.1, st.2.2.2.2.1⟩, ?_⟩
    · intro c hc
      simp only [List.mem_cons, List.not_mem_nil, or_false] at hc ⊢
      rcases hc with h | h | h | h <;> simp [h]
    · rintro vals ⟨v1, v2, y1, y2, rfl⟩
      have e1 : v1 = u := Option.some.inj (((show us[i]? = some v1 by simpa using y1).symm).trans hu)
      have e2 : v2 = u2 := Option.some.inj (((show ws[i]? = some v2 by simpa using y2).symm).trans hu2)
      subst e1 e2
      exact ⟨x, y, .cons ru (.cons ru2 .nil), fun T hT => ⟨T, x, y, rfl, hT, rfl, fun l hl => by rw [I.list_inj hl hqx]; exact hx, fun l hl => by rw [I.tuple_inj hl hqy]; exact hy⟩⟩
  · rintro X rfl rfl rfl hh i pins s σ H I ⟨hz, hTI, hTO, j1, j2⟩ ⟨xs, ys, hqx, hqy, k1, k2, hend⟩
    obtain ⟨us, rv, p, _⟩ := I.list hqx
    obtain ⟨ws, rv2, p2, _⟩ := I.tuple hqy
    have l1 : us.toArray.size = xs.length := by rw [List.size_toArray]; exact rv.length.symm
    have l2 : ws.toArray.size = ys.length := by rw [List.size_toArray]; exact rv2.length.symm
    have W := WalksT.zipD2 (prog := X.prog) (w := X.w) (A := X.A) (zsep D) (Draws.list (show X.A.in1.handled = none from hh) i1 a D.l1i1 us.toArray) (Draws.tuple (show X.A.in1.handled = none from hh) i2 b D.l2i2 ws.toArray)
    have en : min us.toArray.size ws.toArray.size = i := by omega
    rw [en] at W
    refine ⟨_, _, _, _, _, W, ?_, ⟨hz, hTI, hTO, ⟨j1, p.isList⟩, j2, p2⟩⟩
    intro c hc
    simp only [List.mem_cons, List.not_mem_nil, or_false] at hc ⊢
    rcases hc with h | h | h | h <;> simp [h]
def iZipM (K : PySem.W.Frag) (ta : TA) : TI := fun σ H R => ta σ H fun vs H1 => ∃ a b xs ys, vs = [.ref a, .ref b] ∧ SqL K H1 a xs ∧ SqT K H1 b ys ∧ R (ItzM K a b) H1
theorem pi_zipM {X : Cx} {e e2 : Expr} {ta : TA} {p pos tpos : Pos} {elts : List Expr} {kk : Nat} (hg : Gl X "zip") (hm : X.mg "zip" = none) (ha : PA X [e, e2] ta)
    (hs : starEach [e, e2] X.env = (false, eval e X.env) :: starEach [e2] X.env := by rfl) (hpl : (backTo pos (starEach [e2] X.env)).any (·.1) = false := by rfl) :
    PI X (.Tuple elts kk tpos) (.Call (.Name "zip" p) [e, e2] [] pos) (iZipM X.K ta) := by
  refine ⟨fun pins s σ H R I h => ?_⟩
  refine Call_ (ld_blt I hg hm PyProof.Rows.boot_zip (PyProof.Rows.callWith_type1 (thn (ha.run pos pins s σ H _ I h) fun us s1 ⟨vs, H1, I1, r1, q1⟩ => ?_) hs hpl))
  obtain ⟨a, b, xs, ys, ex, hqx, hqy, q⟩ := q1
  subst ex
  cases r1 with
  | cons r rr =>
    cases rr with
    | cons r' rr =>
      cases rr
      cases r
      cases r'
      obtain ⟨its, rv, p1, _⟩ := I1.list hqx
      obtain ⟨its2, rv2, p2, _⟩ := I1.tuple hqy
      have la : a < s1.heap.objs.size := p1.lt
      have lb : b < s1.heap.objs.size := p2.lt
      refine zip_begins2 (begins_list a its.toArray) (begins_tuple b its2.toArray) p1.isList p2 fun h' hz hTI hTO h1 h2 hsz hk => wpAny_pyIter_zip hz ?_
      have I2 : Inv X pins σ H1 { s1 with heap := h' } := I1.kept (t' := s1.toks) hk
      refine ⟨s1.heap.objs.size + 4, [s1.heap.objs.size + 4, s1.heap.objs.size + 2, s1.heap.objs.size + 3, s1.heap.objs.size, s1.heap.objs.size + 1], _, _, H1, rfl, I2, turn_zipM (PySem.W.ktu_apart s1.heap.objs.size a b la lb), ⟨hz, hTI, ⟨_, _, hTO⟩, ⟨_, h1, rfl, rfl⟩, ⟨_, h2, rfl, rfl⟩⟩, fun c hcm => ?_, q⟩
      have e' : c = s1.heap.objs.size + 4 ∨ c = s1.heap.objs.size + 2 ∨ c = s1.heap.objs.size + 3 ∨ c = s1.heap.objs.size ∨ c = s1.heap.objs.size + 1 := by simpa using hcm
      have hle : s1.heap.objs.size ≤ c := by
        rcases e' with z | z | z | z | z
        · rw [z]; exact Nat.le_add_right _ _
        · rw [z]; exact Nat.le_add_right _ _
        · rw [z]; exact Nat.le_add_right _ _
        · rw [z]; exact Nat.le_refl _
        · rw [z]; exact Nat.le_add_right _ _
      exact I1.fpOk hle (I1.hok.fresh hle)
theorem walk_zipM {K : PySem.W.Frag} {a b : Addr} {xs ys : List V} {n : Nat} (hn : n = min xs.length ys.length) : Walk (ItzM K a b) n (fun H => SqL K H a xs ∧ SqT K H b ys) (YPair (fun i => xs[i]?) (fun i => ys[i]?)) := by
  subst hn
  refine ⟨fun i _ hi q => ?_, fun _ q => ⟨xs, ys, q.1, q.2, by omega, by omega, by omega⟩, fun i H v H' _ q y => ?_⟩
  · have h1 : i < xs.length := by omega
    have h2 : i < ys.length := by omega
    exact ⟨xs, ys, xs[i], ys[i], q.1, q.2, by simp [h1], by simp [h2]⟩
  · obtain ⟨T, x, z, h1, h2, h3, h4, h5⟩ := y
    exact ⟨T, x, z, h1, h2, h3, h4 xs q.1, h5 ys q.2⟩
/-! ### a tuple times 1, times a number below 1 -/
open AutoSeq1 in
theorem tuple_mulOne (l : Addr) (items : Array Value) (n : Nat) (dd : Option Addr) (sl : Array (Option Value)) (u : Tok) :
    Meets (Builtin.«tuple.__mul__» ⟨[.ref l, .int 1 u], []⟩) (fun _ R s => s.heap.get? l = some { cls := .type "tuple", dict := dd, data := .seq items n, slots := sl } ∧
      R (.ok (.ret (Value.ref l))) s) :=
  .of_wp fun prog w A R s h => by
    obtain ⟨hp, g, d, tk, os⟩ := s
    obtain ⟨hl, h⟩ := h
    have f1 := AutoSeq1.idx_int
    have c0 : (decide ((1 : Int) < -(2 ^ 63)) || decide ((1 : Int) ≥ 2 ^ 63)) = false := by decide
    have c1 : (items.isEmpty || (1 : Int) == 1) = true := by rw [show ((1 : Int) == 1) = true from rfl, Bool.or_true]
    wp_walk using wpAny_loadPart' hl
    repeat (first
      | (refine wpAny_ite_false (decide_eq_false (by rw [c0]; exact Bool.false_ne_true)) ?_; wp_walk using wpAny_loadPart' hl)
      | (refine wpAny_ite_true (decide_eq_true c1) ?_; wp_walk using wpAny_loadPart' hl))
    exact ⟨_, rfl, h⟩
open AutoSeq1 in
theorem tuple_mulNone (l : Addr) (items : Array Value) (n : Nat) (dd : Option Addr) (sl : Array (Option Value)) (x : Int) (u : Tok) (c0 : (decide (x < -(2 ^ 63)) || decide (x ≥ 2 ^ 63)) = false) (c1 : (items.isEmpty || x == 1) = false) (c2 : (decide (x ≤ 0) || items.isEmpty) = true) :
    Meets (Builtin.«tuple.__mul__» ⟨[.ref l, .int x u], []⟩) (fun _ R s => s.heap.get? l = some { cls := .type "tuple", dict := dd, data := .seq items n, slots := sl } ∧
      R (.ok (.ret (Value.ref s.heap.objs.size))) { s with heap := s.heap.push { cls := Value.type "tuple", data := Data.seq #[] }, toks := s.toks }) :=
  .of_wp fun prog w A R s h => by
    obtain ⟨hp, g, d, tk, os⟩ := s
    obtain ⟨hl, h⟩ := h
    have f1 := AutoSeq1.idx_int
    wp_walk using wpAny_loadPart' hl
    repeat (first
      | (refine wpAny_ite_false (decide_eq_false (by rw [c0]; exact Bool.false_ne_true)) ?_; wp_walk using wpAny_loadPart' hl)
      | (refine wpAny_ite_false (decide_eq_false (by rw [c1]; exact Bool.false_ne_true)) ?_; wp_walk using wpAny_loadPart' hl)
      | (refine wpAny_ite_true (decide_eq_true c2) ?_; wp_walk using wpAny_loadPart' hl))
    exact ⟨_, rfl, h⟩
theorem same_new {H : Hp} {p : Addr} {o : HO} (h : H p = none) : Same H (upd H p o) := fun b x e => by
  rw [upd_ne (ne_of_none e h)]
  exact e
theorem same_tup {K : PySem.W.Frag} {H H' : Hp} {a : Addr} {xs : List V} (e : Same H H') (h : SqT K H a xs) : SqT K H' a xs := by
  rcases h with (h | ⟨o, h⟩) | h
  · exact .inl (.inl (e _ _ h))
  · exact .inl (.inr ⟨o, e _ _ h⟩)
  · exact .inr h
theorem flat_rep {α : Type} (z : α) : ∀ k : Nat, (List.replicate k [z]).flatten = List.replicate k z
  | 0 => rfl
  | k + 1 => by
    rw [List.replicate_succ, List.flatten_cons, flat_rep z k]
    rfl
/-- (z,) * k, any k up to 1000 -/
def rRepZ (K : PySem.W.Frag) : R2 := fun x y H Q => ∃ l k z, x = .ref l ∧ y = .int k ∧ SqT K H l [z] ∧ -(2 ^ 62) ≤ k ∧ k ≤ 1000 ∧ ∀ p H', Same H H' → SqT K H' p (List.replicate k.toNat z) → Q (.ref p) H'
section
variable {X : Cx}
theorem op_repZ : OpR X (binaryOp .Mult) (rRepZ X.K) := by
  intro pins s σ H x y v u Q I rx ry h
  obtain ⟨l, k, z, rfl, rfl, hT, h1, h2, q⟩ := h
  by_cases hk : 2 ≤ k
  · refine op_repT pins s σ H (.ref l) (.int k) v u Q I rx ry ⟨l, k, [z], rfl, rfl, hT, by simp, hk, h2, by simp, fun p hp => ?_⟩
    rw [flat_rep]
    exact q p _ (same_new hp) (.inl (.inl upd_same))
  · cases rx
    obtain ⟨t, rfl⟩ := ry
    obtain ⟨its, r, ⟨⟨cls, dd, data, sl⟩, ho, hc, n, hd⟩, hs⟩ := I.tuple hT
    simp only at hc hd
    subst hc hd
    obtain ⟨u, rfl, ru⟩ := vals1 r
    by_cases h1k : k = 1
    · subst h1k
      refine wpAny_binaryOp_repeat_ref (T := "tuple") (U := "int") (by decide) ⟨_, ho, rfl⟩ (fun s' => typeIs_int s' 1 t) noFill_tuple_mul F.fills_int_mul F.slot_int_rmul repeat_tuple F.slot_int_index.lookup
        (call_meets F.slot_int_rmul (typeIs_int s 1 t) F.entry_int_rmul (F.args_int_rmul_2 _ _) (int_rmul_tuple 1 t l [u].toArray n dd sl)
          ⟨ho, rfl, ⟨_, ho, rfl⟩, call_meets F.slot_tuple_mul ⟨_, ho, rfl⟩ F.entry_tuple_mul (F.args_tuple_mul_2 _ _) (tuple_mulOne l [u].toArray n dd sl t) ⟨ho, ?_⟩⟩)
      exact ⟨.ref l, H, I, rfl, q l H (Same.refl H) hT⟩
    · have hk0 : k ≤ 0 := by omega
      have c0 : (decide (k < -(2 ^ 63)) || decide (k ≥ 2 ^ 63)) = false := by
        rw [decide_eq_false (by omega), decide_eq_false (by omega)] <;> rfl
      have c1 : ([u].toArray.isEmpty || k == 1) = false := by
        rw [show [u].toArray.isEmpty = false from rfl, Bool.false_or]
        exact beq_eq_false_iff_ne.mpr h1k
      have c2 : (decide (k ≤ 0) || [u].toArray.isEmpty) = true := by
        rw [decide_eq_true hk0, Bool.true_or]
      refine wpAny_binaryOp_repeat_ref (T := "tuple") (U := "int") (by decide) ⟨_, ho, rfl⟩ (fun s' => typeIs_int s' k t) noFill_tuple_mul F.fills_int_mul F.slot_int_rmul repeat_tuple F.slot_int_index.lookup
        (call_meets F.slot_int_rmul (typeIs_int s k t) F.entry_int_rmul (F.args_int_rmul_2 _ _) (int_rmul_tuple k t l [u].toArray n dd sl)
          ⟨ho, rfl, ⟨_, ho, rfl⟩, call_meets F.slot_tuple_mul ⟨_, ho, rfl⟩ F.entry_tuple_mul (F.args_tuple_mul_2 _ _) (tuple_mulNone l [u].toArray n dd sl k t c0 c1 c2) ⟨ho, ?_⟩⟩)
      have ez : k.toNat = 0 := by omega
      rw [ez] at q
      refine ⟨.ref s.heap.objs.size, _, I.laid (t' := s.toks) (o := .tup []) (fun b ob q => Heap.get?_push_of_some _ q) (Nat.le_refl _) ?_, rfl, q _ _ (same_new (I.hok.fresh (Nat.le_refl _))) (.inl (.inl upd_same))⟩
      exact ⟨Nat.zero_le _, [], .nil, IsTup.new _ _⟩
/-- t + u, any two tuples -/
def rCatF (K : PySem.W.Frag) : R2 := fun x y H Q => ∃ a b xs ys, x = .ref a ∧ y = .ref b ∧ SqT K H a xs ∧ SqT K H b ys ∧ xs.length + ys.length ≤ sizeLine ∧ ∀ p H', Same H H' → SqT K H' p (xs ++ ys) → Q (.ref p) H'
theorem op_catF : OpR X (binaryOp .Add) (rCatF X.K) := by
  intro pins s σ H x y v u Q I rx ry h
  obtain ⟨a, b, xs, ys, rfl, rfl, ha, hb, hz, q⟩ := h
  refine op_catA pins s σ H _ _ v u Q I rx ry ⟨a, b, xs, ys, rfl, rfl, ha, hb, hz, fun e => ?_, fun _ e => ?_, fun _ _ p hp => ?_⟩
  · subst e
    exact q b H (Same.refl H) hb
  · subst e
    rw [List.append_nil] at q
    exact q a H (Same.refl H) ha
  · exact q p _ (same_new hp) (.inl (.inl upd_same))
end
/-! ### tuples whose own object is known: their methods may be called -/
def FT (H : Hp) (a : Addr) (xs : List V) : Prop := ∃ o, H a = some (.frz o (.tup xs)) ∧ o.dict = none ∧ o.cls = .type "tuple"
theorem FT.seq {K : PySem.W.Frag} {H : Hp} {a : Addr} {xs : List V} (h : FT H a xs) : SqT K H a xs := let ⟨o, e, _⟩ := h; .inl (.inr ⟨o, e⟩)
theorem FT.same {H H' : Hp} {a : Addr} {xs : List V} (h : FT H a xs) (e : Same H H') : FT H' a xs := let ⟨o, q, r⟩ := h; ⟨o, e _ _ q, r⟩
section
variable {X : Cx} {e : Expr} {es : List Expr} {te to : TE} {t : TA} {pos apos cpos : Pos}
/-- a tuple's display -/
def tTupF (t : TA) : TE := fun σ H Q => t σ H fun xs H1 => xs.length ≤ sizeLine ∧ ∀ p H2, Same H1 H2 → FT H2 p xs → Q (.ref p) H2
theorem laidF {pins : List (Addr × Obj)} {σ : L2.St} {H : Hp} {s : Shared} {xs : List V} {its : List Value} {Q : VK} (I : Inv X pins σ H s) (r : Vals xs its) (z : xs.length ≤ sizeLine) (q : ∀ p H2, Same H H2 → FT H2 p xs → Q (.ref p) H2) :
    EP X pins σ Q (.ref s.heap.objs.size) { s with heap := s.heap.push { cls := .type "tuple", data := .seq its.toArray } } := by
  have hf : H s.heap.objs.size = none := I.hok.fresh (Nat.le_refl _)
  have ho : (s.heap.push { cls := .type "tuple", data := .seq its.toArray }).get? s.heap.objs.size = some { cls := .type "tuple", data := .seq its.toArray } := Heap.get?_push_size _ rfl
  refine ⟨.ref s.heap.objs.size, upd H s.heap.objs.size (.frz { cls := .type "tuple", data := .seq its.toArray } (.tup xs)), I.laid (t' := s.toks) (fun b u e => Heap.get?_push_of_some _ e) (Nat.le_refl _) ?_, rfl, q _ _ (same_new hf) ⟨_, upd_same, rfl, rfl⟩⟩
  exact ⟨ho, z, its, r, ⟨_, ho, rfl, _, rfl⟩⟩
theorem pe_tupF {x1} (h : PA X es t) : PE X (.Tuple es x1 pos) (tTupF t) := by
  refine ⟨fun pins s σ H Q I hq => ?_⟩
  exact wpAny_Tuple_spliced (thn (h.run pos pins s σ H _ I hq) fun us s1 ⟨xs, H1, I1, r, z, q⟩ => ⟨by rw [← r.length]; exact z, laidF I1 r z q⟩)
/-- tuple(list) -/
theorem call_tupleF : CallR X (.type "tuple") (fun xs H Q => ∃ p ys, xs = [.ref p] ∧ SqL X.K H p ys ∧ ∀ l H2, Same H H2 → FT H2 l ys → Q (.ref l) H2) := by
  intro pins s σ H xs us Q I r h
  obtain ⟨p, ys, rfl, hq, q⟩ := h
  obtain ⟨u, rfl, rx⟩ := vals1 r
  cases rx
  obtain ⟨its, r2, pl, hz⟩ := I.list hq
  have hlen := r2.length
  refine call_tuple_list pl.isList (fun h1 kp => ?_) (by rw [List.size_toArray]; omega)
  exact laidF (s := { s with heap := h1 }) (I.kept (t' := s.toks) kp) r2 hz q
/-- a method of a tuple, with arguments -/
def tBMF (r : V → List V → Hp → VK → Prop) (to : TE) (t : TA) : TE := fun σ H Q => to σ H fun x H1 => (∃ p xs, x = .ref p ∧ FT H1 p xs) ∧ t σ H1 fun vs H2 => r x vs H2 Q
variable {o : Expr} {name : Str} {id : String} {r : V → List V → Hp → VK → Prop}
theorem pe_bmF (slot : Slot "tuple" name id) (hty : typeOf (.builtin id) = pure (.type "method_descriptor")) (hm : MtR X id r) (ho : PE X o to) (ha : PA X (e :: es) t)
    (hbase : attributeBase o name X.env (eval o X.env) = eval o X.env := by rfl)
    (hfew : ((backTo cpos (starEach (e :: es) X.env)).all (fun x => !x.1) && (backToKw cpos (keywordEach [] X.env)).all (fun x => x.1.isSome)
      && decide ((e :: es).length + ([] : List Keyword).length + (if ([] : List Keyword).isEmpty then 0 else 1) < 30)) = true := by rfl)
    (hline : (apos.endLine == cpos.line) = true := by rfl) (hs : starEach (e :: es) X.env = (false, eval e X.env) :: starEach es X.env := by rfl) (hplain : (backTo cpos (starEach es X.env)).any (·.1) = false := by rfl) :
    PE X (.Call (.Attribute o name apos) (e :: es) [] cpos) (tBMF r to t) := by
  refine ⟨fun pins s σ H Q I h => ?_⟩
  refine wpAny_Call_method_late hbase hfew hline rfl (thn (ho.run pins s σ H _ I h) fun v s1 ⟨x, H1, I1, r1, ⟨p, xs, ex, ob, e1, e2, e3⟩, q1⟩ => ?_)
  subst ex
  obtain rfl : v = Value.ref p := r1
  obtain ⟨g, _⟩ := I1.hok p _ e1
  refine ⟨"tuple", id, PySem.F.plainAttrs_tuple, slot, hty, ⟨ob, g, e3⟩, fun a ea => ?_, ?_⟩
  · cases ea
    exact ⟨ob, g, e2⟩
  have hA := ha.run cpos pins s1 σ H1 _ I1 q1
  rw [hs] at hA ⊢
  have hp : ((false, eval e X.env) :: backTo cpos (starEach es X.env)).any (·.1) = false := by
    rw [List.any_cons, hplain]
    rfl
  refine Calls.callWith_builtin hp (Calls.evalArgs_plain ?_)
  exact thn hA fun us s2 ⟨vs, H2, I2, r2, q2⟩ => hm pins s2 σ H2 (.ref p) vs (.ref p) us Q I2 rfl r2 q2
end
end K13
/-! the mirror: what the program and the law reckon, over lists of naturals -/
namespace K13
abbrev FQ : List Nat := [2, 3, 4, 5, 7, 8, 9]
def PLUS : Nat → List (List Nat)
  | 2 => [[0, 1], [1, 0]]
  | 3 => [[0, 1, 2], [1, 2, 0], [2, 0, 1]]
  | 4 => [[0, 1, 2, 3], [1, 0, 3, 2], [2, 3, 0, 1], [3, 2, 1, 0]]
  | 5 => [[0, 1, 2, 3, 4], [1, 2, 3, 4, 0], [2, 3, 4, 0, 1], [3, 4, 0, 1, 2], [4, 0, 1, 2, 3]]
  | 7 => [[0, 1, 2, 3, 4, 5, 6], [1, 2, 3, 4, 5, 6, 0], [2, 3, 4, 5, 6, 0, 1], [3, 4, 5, 6, 0, 1, 2], [4, 5, 6, 0, 1, 2, 3], [5, 6, 0, 1, 2, 3, 4], [6, 0, 1, 2, 3, 4, 5]]
  | 8 => [[0, 1, 2, 3, 4, 5, 6, 7], [1, 0, 3, 2, 5, 4, 7, 6], [2, 3, 0, 1, 6, 7, 4, 5], [3, 2, 1, 0, 7, 6, 5, 4], [4, 5, 6, 7, 0, 1, 2, 3], [5, 4, 7, 6, 1, 0, 3, 2], [6, 7, 4, 5, 2, 3, 0, 1], [7, 6, 5, 4, 3, 2, 1, 0]]
  | 9 => [[0, 1, 2, 3, 4, 5, 6, 7, 8], [1, 2, 0, 4, 5, 3, 7, 8, 6], [2, 0, 1, 5, 3, 4, 8, 6, 7], [3, 4, 5, 6, 7, 8, 0, 1, 2], [4, 5, 3, 7, 8, 6, 1, 2, 0], [5, 3, 4, 8, 6, 7, 2, 0, 1], [6, 7, 8, 0, 1, 2, 3, 4, 5], [7, 8, 6, 1, 2, 0, 4, 5, 3], [8, 6, 7, 2, 0, 1, 5, 3, 4]]
  | _ => []
def MUL : Nat → List (List Nat)
  | 2 => [[0, 0], [0, 1]]
  | 3 => [[0, 0, 0], [0, 1, 2], [0, 2, 1]]
  | 4 => [[0, 0, 0, 0], [0, 1, 2, 3], [0, 2, 3, 1], [0, 3, 1, 2]]
  | 5 => [[0, 0, 0, 0, 0], [0, 1, 2, 3, 4], [0, 2, 4, 1, 3], [0, 3, 1, 4, 2], [0, 4, 3, 2, 1]]
  | 7 => [[0, 0, 0, 0, 0, 0, 0], [0, 1, 2, 3, 4, 5, 6], [0, 2, 4, 6, 1, 3, 5], [0, 3, 6, 2, 5, 1, 4], [0, 4, 1, 5, 2, 6, 3], [0, 5, 3, 1, 6, 4, 2], [0, 6, 5, 4, 3, 2, 1]]
  | 8 => [[0, 0, 0, 0, 0, 0, 0, 0], [0, 1, 2, 3, 4, 5, 6, 7], [0, 2, 4, 6, 3, 1, 7, 5], [0, 3, 6, 5, 7, 4, 1, 2], [0, 4, 3, 7, 6, 2, 5, 1], [0, 5, 1, 4, 2, 7, 3, 6], [0, 6, 7, 1, 5, 3, 2, 4], [0, 7, 5, 2, 1, 6, 4, 3]]
  | 9 => [[0, 0, 0, 0, 0, 0, 0, 0, 0], [0, 1, 2, 3, 4, 5, 6, 7, 8], [0, 2, 1, 6, 8, 7, 3, 5, 4], [0, 3, 6, 4, 7, 1, 8, 2, 5], [0, 4, 8, 7, 2, 3, 5, 6, 1], [0, 5, 7, 1, 3, 8, 2, 4, 6], [0, 6, 3, 8, 5, 2, 4, 1, 7], [0, 7, 5, 2, 6, 4, 1, 8, 3], [0, 8, 4, 5, 1, 6, 7, 3, 2]]
  | _ => []
def MINUS : Nat → List Nat
  | 2 => [0, 1]
  | 3 => [0, 2, 1]
  | 4 => [0, 1, 2, 3]
  | 5 => [0, 4, 3, 2, 1]
  | 7 => [0, 6, 5, 4, 3, 2, 1]
  | 8 => [0, 1, 2, 3, 4, 5, 6, 7]
  | 9 => [0, 2, 1, 6, 8, 7, 3, 5, 4]
  | _ => []
/-- an entry of a table -/
def pl (P : List (List Nat)) (a b : Nat) : Nat := (P.getD a []).getD b 0
def inner (P : List (List Nat)) (g : Nat → Nat) : List Nat → List Nat → List Nat
  | f :: fs, l :: ls => pl P f (g l) :: inner P g fs ls
  | fs, [] => fs
  | [], _ :: _ => []
def addAt (P : List (List Nat)) (g : Nat → Nat) (j : Nat) (fs one : List Nat) : List Nat := fs.take j ++ inner P g (fs.drop j) one
def mulGo (P M : List (List Nat)) (one : List Nat) : Nat → List Nat → List Nat → List Nat
  | _, fs, [] => fs
  | j, fs, r :: rs => mulGo P M one (j + 1) (if r = 0 then fs else addAt P (fun l => pl M l r) j fs one) rs
/-- the law's product -/
def mulP (P M : List (List Nat)) (one other : List Nat) : List Nat :=
  if one.isEmpty || other.isEmpty then [] else mulGo P M one 0 (List.replicate (one.length + other.length - 1) 0) other
/-- the program's product -/
def timGo (P M : List (List Nat)) (more : List Nat) : Nat → List Nat → List Nat → List Nat
  | _, fs, [] => fs
  | j, fs, e :: es => timGo P M more (j + 1) (if e = 0 then fs else addAt P (fun l => pl M e l) j fs more) es
def timP (P M : List (List Nat)) (a b : List Nat) : List Nat :=
  if a.isEmpty || b.isEmpty then [] else
    if a.length - a.count 0 ≤ b.length - b.count 0 then timGo P M b 0 (List.replicate (a.length + b.length - 1) 0) a
    else timGo P M a 0 (List.replicate (a.length + b.length - 1) 0) b
def trim (l : List Nat) : List Nat := (l.reverse.dropWhile (· == 0)).reverse
def scaled (M : List (List Nat)) (e : Nat) (one : List Nat) : List Nat := trim (one.map (pl M e))
def backOf (M : List (List Nat)) (e : Nat) : Nat := (M.getD e []).idxOf 1
def divGo (P M : List (List Nat)) (N : List Nat) (other : List Nat) (back : Nat) : Nat → List Nat → List Nat → List Nat × List Nat
  | 0, fd, lf => (fd, lf)
  | k + 1, fd, lf => divGo P M N other back k (fd.set k (pl M (lf.getD (k + other.length - 1) 0) back))
      (if pl M (lf.getD (k + other.length - 1) 0) back = 0 then lf else addAt P (fun b => N.getD (pl M (pl M (lf.getD (k + other.length - 1) 0) back) b) 0) k lf other)
def divP (P M : List (List Nat)) (N : List Nat) (one other : List Nat) : List Nat × List Nat :=
  divGo P M N other (backOf M (other.getLastD 0)) (one.length + 1 - other.length) (List.replicate (one.length + 1 - other.length) 0) one
def quoP (P M : List (List Nat)) (N : List Nat) (one other : List Nat) : List Nat := trim (divP P M N one other).1
def remP (P M : List (List Nat)) (N : List Nat) (one other : List Nat) : List Nat :=
  trim (if other.length ≤ one.length then (divP P M N one other).2.take (other.length - 1) else (divP P M N one other).2)
def monicOf (M : List (List Nat)) (one : List Nat) : List Nat := if one.isEmpty then [] else scaled M (backOf M (one.getLastD 0)) one
def comGo (P M : List (List Nat)) (N : List Nat) : Nat → List Nat → List Nat → List Nat
  | 0, one, _ => one
  | n + 1, one, other => if other.isEmpty then one else comGo P M N n other (remP P M N one other)
def comP (P M : List (List Nat)) (N : List Nat) (one other : List Nat) : List Nat := monicOf M (comGo P M N (other.length + 1) one other)
def digF (b : Nat) : Nat → Nat → List Nat
  | 0, _ => []
  | f + 1, n => if n = 0 then [] else n % b :: digF b f (n / b)
def digs (b n : Nat) : List Nat := digF b n n
def monicN (q d n : Nat) : List Nat := digs q n ++ List.replicate (d - (digs q n).length) 0 ++ [1]
def monics (q d : Nat) : List (List Nat) := (List.range (q ^ d)).map (monicN q d)
def strGo (step : Nat) : Nat → List Nat → List Nat → List Nat
  | _, fs, [] => fs
  | i, fs, a :: r => strGo step (i + 1) (fs.set (step * i) a) r
/-- the law's stretched one, of a polynomial that is not 0 -/
def strP (step : Nat) (one : List Nat) : List Nat := strGo step 0 (List.replicate (step * (one.length - 1) + 1) 0) one
/-- the program's -/
def rootP (step : Nat) (a : List Nat) : List Nat := (List.range (step * (a.length - 1) + 1)).map fun p => if p % step = 0 then a.getD (p / step) 0 else 0
def brkP (q j : Nat) : List Nat := 0 :: (MINUS q).getD 1 0 :: (List.replicate (q ^ j - 2) 0 ++ [1])
/-- the program's two: the loop over index = 1 .. d, i of its turns done -/
def allA (q d : Nat) : Nat → List Nat
  | 0 => [1]
  | i + 1 => timP (PLUS q) (MUL q) (allA q d i) (rootP (q ^ (d - (i + 1))) (brkP q (i + 1)))
def lcmA (q : Nat) : Nat → List Nat
  | 0 => [1]
  | i + 1 => timP (PLUS q) (MUL q) (lcmA q i) (brkP q (i + 1))
/-- the law's two, by brackets -/
def allB (q d : Nat) : Nat → List Nat
  | 0 => [1]
  | i + 1 => mulP (PLUS q) (MUL q) (allB q d i) (strP (q ^ i) (brkP q (d - i)))
def lcmB (q : Nat) : Nat → List Nat
  | 0 => [1]
  | i + 1 => mulP (PLUS q) (MUL q) (lcmB q i) (brkP q (i + 1))
/-- the law's two, one by one -/
def allC (q : Nat) : List (List Nat) → List Nat → List Nat
  | [], f => f
  | m :: ms, f => allC q ms (mulP (PLUS q) (MUL q) f m)
def lcmC (q : Nat) : List (List Nat) → List Nat → List Nat
  | [], f => f
  | m :: ms, f => lcmC q ms (mulP (PLUS q) (MUL q) f (quoP (PLUS q) (MUL q) (MINUS q) m (comP (PLUS q) (MUL q) (MINUS q) f m)))
/-- the greatest degrees that are drawn -/
def DQ : Nat → Nat
  | 2 => 4 | 3 => 3 | 4 => 2 | 5 => 2 | 7 => 1 | 8 => 1 | 9 => 1 | _ => 0
def GQ : Nat → Nat
  | 2 => 6 | 3 => 4 | 4 => 3 | 5 => 3 | 7 => 2 | 8 => 2 | 9 => 2 | _ => 0
def okOne (q d : Nat) : Bool :=
  (allA q d d == allC q (monics q d) [1]) && (lcmA q d == lcmC q (monics q d) [1]) && (allC q (monics q d) [1] == allB q d d) && (lcmC q (monics q d) [1] == lcmB q d) &&
  ((allC q (monics q d) [1]).length == d * q ^ d + 1) && ((lcmC q (monics q d) [1]).length == (q * q ^ d - q) / (q - 1) + 1) &&
  (remP (PLUS q) (MUL q) (MINUS q) (allC q (monics q d) [1]) (lcmC q (monics q d) [1])).isEmpty
def okMore (q d : Nat) : Bool := (lcmA q d == lcmB q d) && (allA q d d == allB q d d)
/-- the prime of a field, its power -/
def PR : Nat → Nat
  | 2 => 2 | 3 => 3 | 4 => 2 | 5 => 5 | 7 => 7 | 8 => 2 | 9 => 3 | _ => 0
def FR : Nat → Nat
  | 2 => 1 | 3 => 1 | 4 => 2 | 5 => 1 | 7 => 1 | 8 => 3 | 9 => 2 | _ => 0
/-- the law's sum of two elements, i turns -/
def esF (p a b : Nat) : Nat → Nat
  | 0 => 0
  | i + 1 => esF p a b i + (a / p ^ i + b / p ^ i) % p * p ^ i
/-- the law's product of two elements -/
def epIn (p l : Nat) : Nat → List Nat → List Nat → List Nat
  | _, fs, [] => fs
  | k, fs, r :: rs => epIn p l (k + 1) (fs.set k ((fs.getD k 0 + l * r) % p)) rs
def epOut (p : Nat) (others : List Nat) : Nat → List Nat → List Nat → List Nat
  | _, fs, [] => fs
  | i, fs, l :: ls => epOut p others (i + 1) (epIn p l i fs others) ls
def redOne (p f i : Nat) (fs : List Nat) : List Nat :=
  if 1 < f then (((fs.set (i - f) ((fs.getD (i - f) 0 + fs.getD i 0) % p)).set (i - f + 1) (((fs.set (i - f) ((fs.getD (i - f) 0 + fs.getD i 0) % p)).getD (i - f + 1) 0 + (fs.set (i - f) ((fs.getD (i - f) 0 + fs.getD i 0) % p)).getD i 0) % p)).set i 0) else fs
def epRed (p f : Nat) (fs : List Nat) : Nat → List Nat
  | 0 => fs
  | t + 1 => redOne p f (2 * f - 1 - t) (epRed p f fs t)
def epF (p f a b : Nat) : Nat := ((epRed p f (epOut p (digs p b) 0 (List.replicate (2 * f) 0) (digs p a)) f).take f).reverse.foldl (fun v d => v * p + d) 0
end K13
/-! plain facts of the mirror -/
namespace K13
def Pol (q : Nat) (l : List Nat) : Prop := ∀ x ∈ l, x < q
theorem Pol.nil {q : Nat} : Pol q [] := fun _ h => (nomatch h)
theorem Pol.cons {q a : Nat} {l : List Nat} (h : a < q) (t : Pol q l) : Pol q (a :: l) := fun x hx => by
  rcases List.mem_cons.mp hx with e | e
  · rw [e]; exact h
  · exact t x e
theorem Pol.head {q a : Nat} {l : List Nat} (h : Pol q (a :: l)) : a < q := h a List.mem_cons_self
theorem Pol.tail {q a : Nat} {l : List Nat} (h : Pol q (a :: l)) : Pol q l := fun x hx => h x (List.mem_cons_of_mem _ hx)
theorem Pol.append {q : Nat} {a b : List Nat} (h : Pol q a) (t : Pol q b) : Pol q (a ++ b) := fun x hx => (List.mem_append.mp hx).elim (h x) (t x)
theorem Pol.take {q : Nat} {a : List Nat} (h : Pol q a) (n : Nat) : Pol q (a.take n) := fun x hx => h x (List.mem_of_mem_take hx)
theorem Pol.drop {q : Nat} {a : List Nat} (h : Pol q a) (n : Nat) : Pol q (a.drop n) := fun x hx => h x (List.mem_of_mem_drop hx)
theorem Pol.rep {q : Nat} (h : 0 < q) (n : Nat) : Pol q (List.replicate n 0) := fun x hx => by rw [(List.mem_replicate.mp hx).2]; exact h
theorem Pol.set {q : Nat} {a : List Nat} (h : Pol q a) {i x : Nat} (hx : x < q) : Pol q (a.set i x) := fun y hy => (List.mem_or_eq_of_mem_set hy).elim (h y) (fun e => e ▸ hx)
theorem Pol.get {q : Nat} {a : List Nat} (h : Pol q a) {i x : Nat} (e : a[i]? = some x) : x < q := h x (List.mem_of_getElem? e)
theorem Pol.getD {q : Nat} {a : List Nat} (h : Pol q a) (hq : 0 < q) (i : Nat) : a.getD i 0 < q := by
  rw [List.getD_eq_getElem?_getD]
  cases e : a[i]? with
  | none => exact hq
  | some x => exact h.get e
theorem fq_pos {q : Nat} (h : q ∈ FQ) : 2 ≤ q ∧ q ≤ 9 := by
  have z : ∀ q ∈ FQ, 2 ≤ q ∧ q ≤ 9 := by decide
  exact z q h
/-! ### the tables -/
theorem plus_sh : ∀ q ∈ FQ, (PLUS q).length = q ∧ ∀ r ∈ PLUS q, r.length = q ∧ Pol q r := by unfold Pol; decide +kernel
theorem mul_sh : ∀ q ∈ FQ, (MUL q).length = q ∧ ∀ r ∈ MUL q, r.length = q ∧ Pol q r := by unfold Pol; decide +kernel
theorem minus_sh : ∀ q ∈ FQ, (MINUS q).length = q ∧ Pol q (MINUS q) := by unfold Pol; decide +kernel
/-- a table of q rows of q items below q -/
def Tab (q : Nat) (P : List (List Nat)) : Prop := P.length = q ∧ ∀ r ∈ P, r.length = q ∧ Pol q r
theorem tab_plus {q : Nat} (h : q ∈ FQ) : Tab q (PLUS q) := plus_sh q h
theorem tab_mul {q : Nat} (h : q ∈ FQ) : Tab q (MUL q) := mul_sh q h
theorem Tab.lt {q : Nat} {P : List (List Nat)} (t : Tab q P) (hq : 0 < q) (a b : Nat) : pl P a b < q := by
  unfold pl
  rw [List.getD_eq_getElem?_getD (l := P)]
  cases e : P[a]? with
  | none => exact hq
  | some r => exact (t.2 r (List.mem_of_getElem? e)).2.getD hq b
theorem Tab.at {q : Nat} {P : List (List Nat)} (t : Tab q P) {a b : Nat} (ha : a < q) (hb : b < q) : ∃ r, P[a]? = some r ∧ r[b]? = some (pl P a b) ∧ r.length = q := by
  have h1 : a < P.length := by rw [t.1]; exact ha
  have hr := (t.2 P[a] (List.getElem_mem h1)).1
  refine ⟨P[a], List.getElem?_eq_getElem h1, ?_, hr⟩
  unfold pl
  rw [List.getD_eq_getElem?_getD (l := P), List.getElem?_eq_getElem h1]
  show _ = some (P[a].getD b 0)
  rw [List.getD_eq_getElem?_getD, List.getElem?_eq_getElem (by rw [hr]; exact hb)]
  rfl
theorem minus_at : ∀ q ∈ FQ, ∀ e, e < q → ∃ r, (PLUS q)[e]? = some r ∧ r[(MINUS q).getD e 0]? = some 0 ∧ (∀ m, m < (MINUS q).getD e 0 → r[m]? ≠ some 0) := by
  have z : ∀ q ∈ FQ, ∀ e, e < q → ((PLUS q)[e]?.getD [])[(MINUS q).getD e 0]? = some 0 ∧ (∀ m, m < (MINUS q).getD e 0 → ((PLUS q)[e]?.getD [])[m]? ≠ some 0) := by decide +kernel
  intro q hq e he
  have h1 : e < (PLUS q).length := by rw [(plus_sh q hq).1]; exact he
  have z2 := z q hq e he
  rw [List.getElem?_eq_getElem h1] at z2
  exact ⟨_, List.getElem?_eq_getElem h1, z2⟩
theorem back_at : ∀ q ∈ FQ, ∀ e, e < q → e ≠ 0 → ∃ r, (MUL q)[e]? = some r ∧ r[backOf (MUL q) e]? = some 1 ∧ (∀ m, m < backOf (MUL q) e → r[m]? ≠ some 1) ∧ backOf (MUL q) e < q := by
  have z : ∀ q ∈ FQ, ∀ e, e < q → e ≠ 0 → ((MUL q)[e]?.getD [])[backOf (MUL q) e]? = some 1 ∧ (∀ m, m < backOf (MUL q) e → ((MUL q)[e]?.getD [])[m]? ≠ some 1) ∧ backOf (MUL q) e < q := by decide +kernel
  intro q hq e he hne
  have h1 : e < (MUL q).length := by rw [(mul_sh q hq).1]; exact he
  have z2 := z q hq e he hne
  rw [List.getElem?_eq_getElem h1] at z2
  exact ⟨_, List.getElem?_eq_getElem h1, z2⟩
/-! ### adding at a place -/
section
variable {P : List (List Nat)} {g : Nat → Nat} {q : Nat}
theorem inner_len : ∀ (fs ls : List Nat), (inner P g fs ls).length = fs.length
  | [], [] => rfl
  | [], _ :: _ => rfl
  | _ :: _, [] => rfl
  | f :: fs, l :: ls => by
    show (inner P g fs ls).length + 1 = fs.length + 1
    rw [inner_len fs ls]
theorem inner_pol (hP : ∀ a b, pl P a b < q) : ∀ (fs ls : List Nat), Pol q fs → Pol q (inner P g fs ls)
  | [], [], h => h
  | [], _ :: _, h => h
  | _ :: _, [], h => h
  | f :: fs, l :: ls, h => (inner_pol hP fs ls h.tail).cons (hP _ _)
theorem inner_nil (fs : List Nat) : inner P g fs [] = fs := by cases fs <;> rfl
theorem inner_snoc : ∀ (fs ls : List Nat) (l : Nat), ls.length < fs.length → inner P g fs (ls ++ [l]) = (inner P g fs ls).set ls.length (pl P ((inner P g fs ls).getD ls.length 0) (g l))
  | [], _, _, h => by simp at h
  | f :: fs, [], l, h => by
    show inner P g (f :: fs) [l] = _
    rw [inner_nil]
    show pl P f (g l) :: inner P g fs [] = _
    rw [inner_nil]
    rfl
  | f :: fs, k :: ls, l, h => by
    show pl P f (g k) :: inner P g fs (ls ++ [l]) = _
    rw [inner_snoc fs ls l (by simpa using h)]
    rfl
theorem inner_cut : ∀ (fs ls : List Nat), ls.length ≤ fs.length → inner P g fs ls = List.zipWith (fun f l => pl P f (g l)) (fs.take ls.length) ls ++ fs.drop ls.length
  | fs, [], _ => by rw [inner_nil]; simp
  | [], _ :: _, h => by simp at h
  | f :: fs, l :: ls, h => by
    show pl P f (g l) :: inner P g fs ls = _
    rw [inner_cut fs ls (by simpa using h)]
    simp
theorem addAt_len (j : Nat) (fs one : List Nat) : (addAt P g j fs one).length = fs.length := by
  unfold addAt
  rw [List.length_append, inner_len, List.length_take, List.length_drop]
  omega
theorem addAt_pol (hP : ∀ a b, pl P a b < q) (j : Nat) (fs one : List Nat) (h : Pol q fs) : Pol q (addAt P g j fs one) := (h.take j).append (inner_pol hP _ _ (h.drop j))
theorem addAt_nil (j : Nat) (fs : List Nat) : addAt P g j fs [] = fs := by
  unfold addAt
  rw [inner_nil, List.take_append_drop]
theorem addAt_snoc (j : Nat) (fs ls : List Nat) (l : Nat) (h : ls.length + j < fs.length) :
    addAt P g j fs (ls ++ [l]) = (addAt P g j fs ls).set (ls.length + j) (pl P ((addAt P g j fs ls).getD (ls.length + j) 0) (g l)) := by
  unfold addAt
  have h1 : (fs.take j).length = j := by rw [List.length_take]; omega
  rw [inner_snoc _ _ _ (by rw [List.length_drop]; omega), List.set_append_right _ _ (by omega), List.getD_eq_getElem?_getD, List.getD_eq_getElem?_getD, List.getElem?_append_right (by omega), h1, Nat.add_sub_cancel]
theorem addAt_cut (j : Nat) (fs ls : List Nat) (h : j + ls.length ≤ fs.length) :
    addAt P g j fs ls = fs.take j ++ List.zipWith (fun f l => pl P f (g l)) ((fs.drop j).take ls.length) ls ++ fs.drop (j + ls.length) := by
  unfold addAt
  rw [inner_cut _ _ (by rw [List.length_drop]; omega), List.drop_drop, List.append_assoc]
end
/-! ### the two products -/
section
variable {P M : List (List Nat)} {q : Nat}
theorem mulGo_snoc (one : List Nat) : ∀ (rs : List Nat) (j : Nat) (fs : List Nat) (r : Nat), mulGo P M one j fs (rs ++ [r]) = if r = 0 then mulGo P M one j fs rs else addAt P (fun l => pl M l r) (j + rs.length) (mulGo P M one j fs rs) one
  | [], j, fs, r => rfl
  | s :: rs, j, fs, r => by
    show mulGo P M one (j + 1) _ (rs ++ [r]) = _
    rw [mulGo_snoc one rs (j + 1) _ r, List.length_cons, show j + 1 + rs.length = j + (rs.length + 1) by omega]
    rfl
theorem timGo_snoc (more : List Nat) : ∀ (rs : List Nat) (j : Nat) (fs : List Nat) (r : Nat), timGo P M more j fs (rs ++ [r]) = if r = 0 then timGo P M more j fs rs else addAt P (fun l => pl M r l) (j + rs.length) (timGo P M more j fs rs) more
  | [], j, fs, r => rfl
  | s :: rs, j, fs, r => by
    show timGo P M more (j + 1) _ (rs ++ [r]) = _
    rw [timGo_snoc more rs (j + 1) _ r, List.length_cons, show j + 1 + rs.length = j + (rs.length + 1) by omega]
    rfl
theorem mulGo_len (one : List Nat) : ∀ (rs : List Nat) (j : Nat) (fs : List Nat), (mulGo P M one j fs rs).length = fs.length
  | [], _, _ => rfl
  | r :: rs, j, fs => by
    show (mulGo P M one (j + 1) _ rs).length = _
    rw [mulGo_len one rs]
    split
    · rfl
    · exact addAt_len _ _ _
theorem timGo_len (more : List Nat) : ∀ (rs : List Nat) (j : Nat) (fs : List Nat), (timGo P M more j fs rs).length = fs.length
  | [], _, _ => rfl
  | r :: rs, j, fs => by
    show (timGo P M more (j + 1) _ rs).length = _
    rw [timGo_len more rs]
    split
    · rfl
    · exact addAt_len _ _ _
theorem mulGo_pol (hP : ∀ a b, pl P a b < q) (one : List Nat) : ∀ (rs : List Nat) (j : Nat) (fs : List Nat), Pol q fs → Pol q (mulGo P M one j fs rs)
  | [], _, _, h => h
  | r :: rs, j, fs, h => mulGo_pol hP one rs (j + 1) _ (by
    split
    · exact h
    · exact addAt_pol hP _ _ _ h)
theorem timGo_pol (hP : ∀ a b, pl P a b < q) (more : List Nat) : ∀ (rs : List Nat) (j : Nat) (fs : List Nat), Pol q fs → Pol q (timGo P M more j fs rs)
  | [], _, _, h => h
  | r :: rs, j, fs, h => timGo_pol hP more rs (j + 1) _ (by
    split
    · exact h
    · exact addAt_pol hP _ _ _ h)
theorem mulP_pol (hq : 0 < q) (hP : ∀ a b, pl P a b < q) (a b : List Nat) : Pol q (mulP P M a b) := by
  unfold mulP
  split
  · exact .nil
  · exact mulGo_pol hP _ _ _ _ (.rep hq _)
theorem mulP_len (a b : List Nat) : (mulP P M a b).length ≤ a.length + b.length - 1 := by
  unfold mulP
  split
  · exact Nat.zero_le _
  · rw [mulGo_len, List.length_replicate]
    exact Nat.le_refl _
theorem timP_pol (hq : 0 < q) (hP : ∀ a b, pl P a b < q) (a b : List Nat) : Pol q (timP P M a b) := by
  unfold timP
  split
  · exact .nil
  · split
    · exact timGo_pol hP _ _ _ _ (.rep hq _)
    · exact timGo_pol hP _ _ _ _ (.rep hq _)
theorem timP_len {a b : List Nat} (ha : a ≠ []) (hb : b ≠ []) : (timP P M a b).length = a.length + b.length - 1 := by
  unfold timP
  rw [if_neg (by
    cases a with
    | nil => exact absurd rfl ha
    | cons x r =>
      cases b with
      | nil => exact absurd rfl hb
      | cons y s => simp)]
  split <;> rw [timGo_len, List.length_replicate]
end
/-! ### the program's two -/
theorem pow2 {q j : Nat} (hq : q ∈ FQ) (hj : 1 ≤ j) : 2 ≤ q ^ j := by
  have h := fq_pos hq
  calc 2 ≤ q := h.1
    _ = q ^ 1 := (Nat.pow_one q).symm
    _ ≤ q ^ j := Nat.pow_le_pow_right (by omega) hj
theorem brkP_len {q j : Nat} (hq : q ∈ FQ) (hj : 1 ≤ j) : (brkP q j).length = q ^ j + 1 := by
  have h := pow2 hq hj
  unfold brkP
  simp only [List.length_cons, List.length_append, List.length_replicate, List.length_nil]
  omega
theorem brkP_pol {q : Nat} (hq : q ∈ FQ) (j : Nat) : Pol q (brkP q j) := by
  have h := fq_pos hq
  have h0 : 0 < q := by omega
  exact .cons h0 (.cons ((minus_sh q hq).2.getD h0 1) (.append (.rep h0 _) (.cons (by omega) .nil)))
theorem brkP_ne (q j : Nat) : brkP q j ≠ [] := by unfold brkP; simp
theorem rootP_len (s : Nat) (a : List Nat) : (rootP s a).length = s * (a.length - 1) + 1 := by unfold rootP; simp
theorem rootP_ne (s : Nat) (a : List Nat) : rootP s a ≠ [] := fun e => by
  have h := rootP_len s a
  rw [e] at h
  simp at h
theorem rootP_pol {q : Nat} (hq : 0 < q) {a : List Nat} (h : Pol q a) (s : Nat) : Pol q (rootP s a) := fun x hx => by
  unfold rootP at hx
  obtain ⟨p, _, e⟩ := List.mem_map.mp hx
  rw [← e]
  split
  · exact h.getD hq _
  · exact hq
theorem ne_of_len {l : List Nat} (h : 0 < l.length) : l ≠ [] := fun e => by rw [e] at h; exact Nat.lt_irrefl _ h
theorem allA_len {q d : Nat} (hq : q ∈ FQ) : ∀ i, i ≤ d → (allA q d i).length = i * q ^ d + 1
  | 0, _ => by simp [allA]
  | i + 1, h => by
    have ih := allA_len (d := d) hq i (by omega)
    show (timP _ _ (allA q d i) (rootP (q ^ (d - (i + 1))) (brkP q (i + 1)))).length = _
    rw [timP_len (ne_of_len (by omega)) (rootP_ne _ _), ih, rootP_len, brkP_len hq (by omega), Nat.add_sub_cancel, ← Nat.pow_add, Nat.sub_add_cancel h, Nat.succ_mul]
    omega
theorem allA_pol {q d : Nat} (hq : q ∈ FQ) : ∀ i, Pol q (allA q d i)
  | 0 => .cons (by have := fq_pos hq; omega) .nil
  | i + 1 => timP_pol (by have := fq_pos hq; omega) ((tab_plus hq).lt (by have := fq_pos hq; omega)) _ _
theorem lcmA_len {q : Nat} (hq : q ∈ FQ) : ∀ i, 1 ≤ (lcmA q i).length ∧ (lcmA q i).length ≤ i * q ^ i + 1
  | 0 => by simp [lcmA]
  | i + 1 => by
    have ih := lcmA_len hq i
    have h2 : q ^ i ≤ q ^ (i + 1) := Nat.pow_le_pow_right (by have := fq_pos hq; omega) (by omega)
    have h3 : i * q ^ i ≤ i * q ^ (i + 1) := Nat.mul_le_mul_left _ h2
    show 1 ≤ (timP _ _ (lcmA q i) (brkP q (i + 1))).length ∧ (timP _ _ (lcmA q i) (brkP q (i + 1))).length ≤ _
    rw [timP_len (ne_of_len (by omega)) (brkP_ne _ _), brkP_len hq (by omega), Nat.succ_mul]
    omega
theorem lcmA_pol {q : Nat} (hq : q ∈ FQ) : ∀ i, Pol q (lcmA q i)
  | 0 => .cons (by have := fq_pos hq; omega) .nil
  | i + 1 => timP_pol (by have := fq_pos hq; omega) ((tab_plus hq).lt (by have := fq_pos hq; omega)) _ _
/-! ### digits, elements -/
theorem digF_eq (b : Nat) (hb : 2 ≤ b) : ∀ f g n, n ≤ f → n ≤ g → digF b f n = digF b g n
  | 0, 0, _, _, _ => rfl
  | 0, g + 1, n, h, _ => by
    have e : n = 0 := by omega
    subst e
    rfl
  | f + 1, 0, n, _, h => by
    have e : n = 0 := by omega
    subst e
    rfl
  | f + 1, g + 1, n, h1, h2 => by
    unfold digF
    split
    · rfl
    · rename_i hn
      have hl : n / b < n := Nat.div_lt_self (by omega) hb
      rw [digF_eq b hb f g (n / b) (by omega) (by omega)]
theorem digs_zero (b : Nat) : digs b 0 = [] := rfl
theorem digs_pos {b m : Nat} (hm : 0 < m) (hb : 2 ≤ b) : digs b m = m % b :: digs b (m / b) := by
  have hl : m / b < m := Nat.div_lt_self hm hb
  unfold digs
  cases m with
  | zero => omega
  | succ m =>
    show (if m + 1 = 0 then [] else (m + 1) % b :: digF b m ((m + 1) / b)) = _
    rw [if_neg (by omega), digF_eq b hb m ((m + 1) / b) ((m + 1) / b) (by omega) (Nat.le_refl _)]
theorem digF_pol (b : Nat) (hb : 0 < b) : ∀ f n, Pol b (digF b f n)
  | 0, _ => .nil
  | f + 1, n => by
    unfold digF
    split
    · exact .nil
    · exact .cons (Nat.mod_lt _ hb) (digF_pol b hb f _)
theorem pf_small : ∀ q ∈ FQ, (2 ≤ PR q ∧ PR q ≤ 9) ∧ (1 ≤ FR q ∧ FR q ≤ 3) := by decide
theorem es_plus : ∀ q ∈ FQ, ∀ a, a < q → ∀ b, b < q → esF (PR q) a b (FR q) = pl (PLUS q) a b := by decide +kernel
theorem ep_mul : ∀ q ∈ FQ, ∀ a, a < q → ∀ b, b < q → epF (PR q) (FR q) a b = pl (MUL q) a b := by decide +kernel
theorem digs_len : ∀ q ∈ FQ, ∀ a, a < q → (digs (PR q) a).length ≤ FR q := by decide +kernel
theorem epIn_snoc (p l r : Nat) : ∀ (rs : List Nat) (k : Nat) (fs : List Nat), epIn p l k fs (rs ++ [r]) = (epIn p l k fs rs).set (k + rs.length) (((epIn p l k fs rs).getD (k + rs.length) 0 + l * r) % p)
  | [], k, fs => rfl
  | s :: rs, k, fs => by
    show epIn p l (k + 1) _ (rs ++ [r]) = _
    rw [epIn_snoc p l r rs (k + 1), List.length_cons, show k + 1 + rs.length = k + (rs.length + 1) by omega]
    rfl
theorem epOut_snoc (p : Nat) (os : List Nat) (l : Nat) : ∀ (ls : List Nat) (i : Nat) (fs : List Nat), epOut p os i fs (ls ++ [l]) = epIn p l (i + ls.length) (epOut p os i fs ls) os
  | [], i, fs => rfl
  | s :: ls, i, fs => by
    show epOut p os (i + 1) _ (ls ++ [l]) = _
    rw [epOut_snoc p os l ls (i + 1), List.length_cons, show i + 1 + ls.length = i + (ls.length + 1) by omega]
    rfl
theorem epIn_len (p l : Nat) : ∀ (rs : List Nat) (k : Nat) (fs : List Nat), (epIn p l k fs rs).length = fs.length
  | [], _, _ => rfl
  | r :: rs, k, fs => by
    show (epIn p l (k + 1) _ rs).length = _
    rw [epIn_len p l rs, List.length_set]
theorem epOut_len (p : Nat) (os : List Nat) : ∀ (ls : List Nat) (i : Nat) (fs : List Nat), (epOut p os i fs ls).length = fs.length
  | [], _, _ => rfl
  | l :: ls, i, fs => by
    show (epOut p os (i + 1) _ ls).length = _
    rw [epOut_len p os ls, epIn_len]
theorem redOne_len (p f i : Nat) (fs : List Nat) : (redOne p f i fs).length = fs.length := by
  unfold redOne
  split
  · rw [List.length_set, List.length_set, List.length_set]
  · rfl
theorem epRed_len (p f : Nat) (fs : List Nat) : ∀ t, (epRed p f fs t).length = fs.length
  | 0 => rfl
  | t + 1 => by
    show (redOne p f _ (epRed p f fs t)).length = _
    rw [redOne_len, epRed_len p f fs t]
/-! ### trimmed ones -/
theorem trim_nil : trim [] = [] := rfl
theorem trim_zero (l : List Nat) : trim (l ++ [0]) = trim l := by
  unfold trim
  rw [List.reverse_append, List.reverse_singleton]
  rfl
theorem trim_last (l : List Nat) {a : Nat} (h : a ≠ 0) : trim (l ++ [a]) = l ++ [a] := by
  unfold trim
  rw [List.reverse_append, List.reverse_singleton, List.singleton_append, List.dropWhile_cons_of_neg (by simpa using h), List.reverse_cons, List.reverse_reverse]
theorem take_snoc {l : List Nat} {m : Nat} (h : 0 < m) (hl : m ≤ l.length) : l.take m = l.take (m - 1) ++ [l.getD (m - 1) 0] := by
  have e : m = (m - 1) + 1 := by omega
  have h1 : m - 1 < l.length := by omega
  have h2 : l.take (m - 1 + 1) = l.take (m - 1) ++ [l.getD (m - 1) 0] := by
    rw [List.take_add_one, List.getElem?_eq_getElem h1, List.getD_eq_getElem?_getD, List.getElem?_eq_getElem h1]
    rfl
  rw [← e] at h2
  exact h2
theorem trim_sub (l : List Nat) : ∃ m, m ≤ l.length ∧ trim l = l.take m ∧ (m = 0 ∨ l.getD (m - 1) 0 ≠ 0) := by
  have key : ∀ m, m ≤ l.length → ∃ k, k ≤ l.length ∧ trim (l.take m) = l.take k ∧ (k = 0 ∨ l.getD (k - 1) 0 ≠ 0) := by
    intro m
    induction m with
    | zero => exact fun _ => ⟨0, Nat.zero_le _, by simp [trim_nil], .inl rfl⟩
    | succ m ih =>
      intro hm
      have e := take_snoc (l := l) (m := m + 1) (by omega) hm
      rw [Nat.add_sub_cancel] at e
      by_cases hz : l.getD m 0 = 0
      · rw [e, hz, trim_zero]
        exact ih (by omega)
      · refine ⟨m + 1, hm, ?_, .inr (by rw [Nat.add_sub_cancel]; exact hz)⟩
        rw [e, trim_last _ hz]
  obtain ⟨k, h1, h2, h3⟩ := key l.length (Nat.le_refl _)
  rw [List.take_length] at h2
  exact ⟨k, h1, h2, h3⟩
theorem trim_len (l : List Nat) : (trim l).length ≤ l.length := by
  obtain ⟨m, h1, h2, _⟩ := trim_sub l
  rw [h2, List.length_take]
  omega
theorem trim_pol {q : Nat} {l : List Nat} (h : Pol q l) : Pol q (trim l) := by
  obtain ⟨m, h1, h2, _⟩ := trim_sub l
  rw [h2]
  exact h.take m
/-- no zero at the end -/
def Trm (l : List Nat) : Prop := l = [] ∨ l.getLastD 0 ≠ 0
theorem trim_trm (l : List Nat) : Trm (trim l) := by
  obtain ⟨m, h1, h2, h3⟩ := trim_sub l
  rcases h3 with h3 | h3
  · exact .inl (by rw [h2, h3, List.take_zero])
  · by_cases hm : m = 0
    · exact .inl (by rw [h2, hm, List.take_zero])
    · refine .inr ?_
      rw [h2, take_snoc (by omega) h1, List.getLastD_concat]
      exact h3
/-! ### division -/
section
variable {P M : List (List Nat)} {N : List Nat} {q : Nat}
theorem divGo_len (other : List Nat) (back : Nat) : ∀ (k : Nat) (fd lf : List Nat), (divGo P M N other back k fd lf).1.length = fd.length ∧ (divGo P M N other back k fd lf).2.length = lf.length
  | 0, _, _ => ⟨rfl, rfl⟩
  | k + 1, fd, lf => by
    have ih := divGo_len other back k (fd.set k (pl M (lf.getD (k + other.length - 1) 0) back))
      (if pl M (lf.getD (k + other.length - 1) 0) back = 0 then lf else addAt P (fun b => N.getD (pl M (pl M (lf.getD (k + other.length - 1) 0) back) b) 0) k lf other)
    refine ⟨ih.1.trans (List.length_set ..), ih.2.trans ?_⟩
    split
    · rfl
    · exact addAt_len _ _ _
theorem divGo_pol (hP : ∀ a b, pl P a b < q) (hM : ∀ a b, pl M a b < q) (other : List Nat) (back : Nat) : ∀ (k : Nat) (fd lf : List Nat), Pol q fd → Pol q lf → Pol q (divGo P M N other back k fd lf).1 ∧ Pol q (divGo P M N other back k fd lf).2
  | 0, _, _, h1, h2 => ⟨h1, h2⟩
  | k + 1, fd, lf, h1, h2 => by
    refine divGo_pol hP hM other back k _ _ (h1.set (hM _ _)) ?_
    split
    · exact h2
    · exact addAt_pol hP _ _ _ h2
theorem divP_pol (hq : 0 < q) (hP : ∀ a b, pl P a b < q) (hM : ∀ a b, pl M a b < q) {one other : List Nat} (h : Pol q one) : Pol q (divP P M N one other).1 ∧ Pol q (divP P M N one other).2 := divGo_pol hP hM _ _ _ _ _ (.rep hq _) h
theorem divP_len (one other : List Nat) : (divP P M N one other).1.length = one.length + 1 - other.length ∧ (divP P M N one other).2.length = one.length := by
  have h := divGo_len (P := P) (M := M) (N := N) other (backOf M (other.getLastD 0)) (one.length + 1 - other.length) (List.replicate (one.length + 1 - other.length) 0) one
  rw [List.length_replicate] at h
  exact h
theorem quoP_pol (hq : 0 < q) (hP : ∀ a b, pl P a b < q) (hM : ∀ a b, pl M a b < q) {one other : List Nat} (h : Pol q one) : Pol q (quoP P M N one other) := trim_pol (divP_pol hq hP hM h).1
theorem quoP_len (one other : List Nat) : (quoP P M N one other).length ≤ one.length + 1 - other.length := Nat.le_trans (trim_len _) (Nat.le_of_eq (divP_len one other).1)
theorem remP_pol (hq : 0 < q) (hP : ∀ a b, pl P a b < q) (hM : ∀ a b, pl M a b < q) {one other : List Nat} (h : Pol q one) : Pol q (remP P M N one other) := by
  refine trim_pol ?_
  split
  · exact (divP_pol hq hP hM h).2.take _
  · exact (divP_pol hq hP hM h).2
theorem remP_len {one other : List Nat} (h : other ≠ []) : (remP P M N one other).length < other.length ∧ (remP P M N one other).length ≤ one.length := by
  have h0 : 0 < other.length := List.length_pos_iff.mpr h
  have h1 := (divP_len (P := P) (M := M) (N := N) one other).2
  unfold remP
  split
  · have h2 := trim_len ((divP P M N one other).2.take (other.length - 1))
    rw [List.length_take, h1] at h2
    omega
  · have h2 := trim_len (divP P M N one other).2
    omega
theorem remP_trm (one other : List Nat) : Trm (remP P M N one other) := trim_trm _
theorem comGo_pol (hq : 0 < q) (hP : ∀ a b, pl P a b < q) (hM : ∀ a b, pl M a b < q) : ∀ (n : Nat) (one other : List Nat), Pol q one → Pol q other → Pol q (comGo P M N n one other)
  | 0, _, _, h, _ => h
  | n + 1, one, other, h1, h2 => by
    unfold comGo
    split
    · exact h1
    · exact comGo_pol hq hP hM n _ _ h2 (remP_pol hq hP hM h1)
theorem comGo_fuel : ∀ (n m : Nat) (one other : List Nat), other.length < n → other.length < m → comGo P M N n one other = comGo P M N m one other
  | 0, _, _, _, h, _ => by omega
  | _ + 1, 0, _, _, _, h => by omega
  | n + 1, m + 1, one, other, h1, h2 => by
    unfold comGo
    split
    · rfl
    · rename_i hne
      have h3 : other ≠ [] := fun e => hne (by rw [e]; rfl)
      have h4 := (remP_len (P := P) (M := M) (N := N) (one := one) h3).1
      exact comGo_fuel n m _ _ (by omega) (by omega)
theorem comGo_len : ∀ (n : Nat) (one other : List Nat), (comGo P M N n one other).length ≤ max one.length other.length
  | 0, _, _ => Nat.le_max_left _ _
  | n + 1, one, other => by
    unfold comGo
    split
    · exact Nat.le_max_left _ _
    · rename_i hne
      have h3 : other ≠ [] := fun e => hne (by rw [e]; rfl)
      have h4 := (remP_len (P := P) (M := M) (N := N) (one := one) h3).1
      have h5 := comGo_len n other (remP P M N one other)
      omega
theorem comGo_trm : ∀ (n : Nat) (one other : List Nat), Trm one → Trm other → Trm (comGo P M N n one other)
  | 0, _, _, h, _ => h
  | n + 1, one, other, h1, h2 => by
    unfold comGo
    split
    · exact h1
    · exact comGo_trm n _ _ h2 (remP_trm _ _)
theorem scaled_pol (hM : ∀ a b, pl M a b < q) (e : Nat) (one : List Nat) : Pol q (scaled M e one) := trim_pol fun x hx => by
  obtain ⟨y, _, rfl⟩ := List.mem_map.mp hx
  exact hM _ _
theorem scaled_len (e : Nat) (one : List Nat) : (scaled M e one).length ≤ one.length := Nat.le_trans (trim_len _) (by rw [List.length_map]; exact Nat.le_refl _)
end
/-! ### stretching -/
theorem strGo_snoc (s a : Nat) : ∀ (r : List Nat) (i : Nat) (fs : List Nat), strGo s i fs (r ++ [a]) = (strGo s i fs r).set (s * (i + r.length)) a
  | [], i, fs => rfl
  | b :: r, i, fs => by
    show strGo s (i + 1) _ (r ++ [a]) = _
    rw [strGo_snoc s a r (i + 1), List.length_cons, show i + 1 + r.length = i + (r.length + 1) by omega]
    rfl
theorem strGo_len (s : Nat) : ∀ (r : List Nat) (i : Nat) (fs : List Nat), (strGo s i fs r).length = fs.length
  | [], _, _ => rfl
  | b :: r, i, fs => by
    show (strGo s (i + 1) _ r).length = _
    rw [strGo_len s r, List.length_set]
theorem strP_len (s : Nat) (l : List Nat) : (strP s l).length = s * (l.length - 1) + 1 := by
  unfold strP
  rw [strGo_len, List.length_replicate]
theorem strGo_pol {q s : Nat} : ∀ (r : List Nat) (i : Nat) (fs : List Nat), Pol q r → Pol q fs → Pol q (strGo s i fs r)
  | [], _, _, _, h => h
  | b :: r, i, fs, h1, h2 => strGo_pol r (i + 1) _ h1.tail (h2.set h1.head)
theorem strP_pol {q s : Nat} (hq : 0 < q) {l : List Nat} (h : Pol q l) : Pol q (strP s l) := strGo_pol _ _ _ h (.rep hq _)
theorem digF_len (b : Nat) : ∀ f n, (digF b f n).length ≤ f
  | 0, _ => Nat.le_refl _
  | f + 1, n => by
    unfold digF
    split
    · exact Nat.zero_le _
    · have := digF_len b f (n / b)
      rw [List.length_cons]
      omega
/-! ### the law's brackets -/
theorem allB_len {q d : Nat} (hq : q ∈ FQ) : ∀ i, i ≤ d → (allB q d i).length ≤ i * q ^ d + 1
  | 0, _ => by simp [allB]
  | i + 1, h => by
    have ih := allB_len (d := d) hq i (by omega)
    have h2 := mulP_len (P := PLUS q) (M := MUL q) (allB q d i) (strP (q ^ i) (brkP q (d - i)))
    rw [strP_len, brkP_len hq (by omega), Nat.add_sub_cancel, ← Nat.pow_add, show i + (d - i) = d by omega] at h2
    show (mulP _ _ (allB q d i) (strP (q ^ i) (brkP q (d - i)))).length ≤ _
    rw [Nat.succ_mul]
    omega
theorem allB_pol {q d : Nat} (hq : q ∈ FQ) : ∀ i, Pol q (allB q d i)
  | 0 => .cons (by have := fq_pos hq; omega) .nil
  | i + 1 => mulP_pol (by have := fq_pos hq; omega) ((tab_plus hq).lt (by have := fq_pos hq; omega)) _ _
theorem lcmB_len {q : Nat} (hq : q ∈ FQ) : ∀ i, (lcmB q i).length ≤ i * q ^ i + 1
  | 0 => by simp [lcmB]
  | i + 1 => by
    have ih := lcmB_len hq i
    have h2 : q ^ i ≤ q ^ (i + 1) := Nat.pow_le_pow_right (by have := fq_pos hq; omega) (by omega)
    have h3 : i * q ^ i ≤ i * q ^ (i + 1) := Nat.mul_le_mul_left _ h2
    have h4 := mulP_len (P := PLUS q) (M := MUL q) (lcmB q i) (brkP q (i + 1))
    rw [brkP_len hq (by omega)] at h4
    show (mulP _ _ (lcmB q i) (brkP q (i + 1))).length ≤ _
    rw [Nat.succ_mul]
    omega
theorem lcmB_pol {q : Nat} (hq : q ∈ FQ) : ∀ i, Pol q (lcmB q i)
  | 0 => .cons (by have := fq_pos hq; omega) .nil
  | i + 1 => mulP_pol (by have := fq_pos hq; omega) ((tab_plus hq).lt (by have := fq_pos hq; omega)) _ _
/-! ### the common divisor is not 0 -/
theorem comGo_ne {P M : List (List Nat)} {N : List Nat} : ∀ (n : Nat) (one other : List Nat), other.length < n → (one ≠ [] ∨ other ≠ []) → comGo P M N n one other ≠ []
  | 0, _, _, h, _ => by omega
  | n + 1, one, other, h, ho => by
    unfold comGo
    split
    · rename_i he
      exact ho.resolve_right (fun z => z (List.isEmpty_iff.mp he))
    · rename_i hne
      have h3 : other ≠ [] := fun e => hne (by rw [e]; rfl)
      have h4 := (remP_len (P := P) (M := M) (N := N) (one := one) h3).1
      exact comGo_ne n _ _ (by omega) (.inl h3)
theorem back_ne : ∀ q ∈ FQ, ∀ e, e < q → e ≠ 0 → pl (MUL q) (backOf (MUL q) e) e ≠ 0 := by decide +kernel
theorem last_snoc {l : List Nat} (h : l ≠ []) : l = l.dropLast ++ [l.getLastD 0] := by
  cases l with
  | nil => exact absurd rfl h
  | cons a r => rw [List.getLastD_cons, ← List.getLast_eq_getLastD (List.cons_ne_nil a r), List.dropLast_concat_getLast]
theorem monicOf_ok {q : Nat} (hq : q ∈ FQ) {l : List Nat} (hne : l ≠ []) (ht : Trm l) (hp : Pol q l) : monicOf (MUL q) l ≠ [] ∧ (monicOf (MUL q) l).getLastD 0 ≠ 0 ∧ (monicOf (MUL q) l).length ≤ l.length ∧ Pol q (monicOf (MUL q) l) := by
  have hq2 := fq_pos hq
  have hlast : l.getLastD 0 ≠ 0 := ht.resolve_left hne
  have he : l.isEmpty = false := by
    cases l with
    | nil => exact absurd rfl hne
    | cons a r => rfl
  have hl2 : l.getLastD 0 < q := by
    have e := last_snoc hne
    exact hp _ (by rw [e]; simp)
  have hb := back_ne q hq _ hl2 hlast
  unfold monicOf
  rw [he, if_neg Bool.false_ne_true]
  have e2 : scaled (MUL q) (backOf (MUL q) (l.getLastD 0)) l = l.dropLast.map (pl (MUL q) (backOf (MUL q) (l.getLastD 0))) ++ [pl (MUL q) (backOf (MUL q) (l.getLastD 0)) (l.getLastD 0)] := by
    unfold scaled
    generalize backOf (MUL q) (l.getLastD 0) = bk at hb
    generalize hx : l.getLastD 0 = x at hb
    have e := last_snoc hne
    rw [hx] at e
    rw [e, List.map_append, List.map_singleton, trim_last _ hb, List.dropLast_concat]
  refine ⟨by rw [e2]; simp, by rw [e2, List.getLastD_concat]; exact hb, scaled_len _ _, scaled_pol ((tab_mul hq).lt (by omega)) _ _⟩
theorem comP_ok {q : Nat} (hq : q ∈ FQ) {l m : List Nat} (hm : m ≠ []) (tl : m = [] → Trm l) (tm : Trm m) (pl' : Pol q l) (pm : Pol q m) :
    comP (PLUS q) (MUL q) (MINUS q) l m ≠ [] ∧ (comP (PLUS q) (MUL q) (MINUS q) l m).getLastD 0 ≠ 0 ∧ (comP (PLUS q) (MUL q) (MINUS q) l m).length ≤ max l.length m.length ∧ Pol q (comP (PLUS q) (MUL q) (MINUS q) l m) := by
  have hq2 := fq_pos hq
  have plt : ∀ a b, pl (PLUS q) a b < q := (tab_plus hq).lt (by omega)
  have mlt : ∀ a b, pl (MUL q) a b < q := (tab_mul hq).lt (by omega)
  unfold comP
  have h1 := comGo_ne (P := PLUS q) (M := MUL q) (N := MINUS q) (m.length + 1) l m (by omega) (.inr hm)
  have h2 : Trm (comGo (PLUS q) (MUL q) (MINUS q) (m.length + 1) l m) := by
    have he : m.isEmpty = false := by
      cases m with
      | nil => exact absurd rfl hm
      | cons a r => rfl
    have e : comGo (PLUS q) (MUL q) (MINUS q) (m.length + 1) l m = comGo (PLUS q) (MUL q) (MINUS q) m.length m (remP (PLUS q) (MUL q) (MINUS q) l m) := by
      show (if m.isEmpty = true then l else _) = _
      rw [he, if_neg Bool.false_ne_true]
    rw [e]
    exact comGo_trm _ _ _ tm (remP_trm _ _)
  have h3 := comGo_pol (P := PLUS q) (M := MUL q) (N := MINUS q) (show 0 < q by omega) plt mlt (m.length + 1) l m pl' pm
  have h4 := comGo_len (P := PLUS q) (M := MUL q) (N := MINUS q) (m.length + 1) l m
  have h5 := monicOf_ok hq h1 h2 h3
  exact ⟨h5.1, h5.2.1, Nat.le_trans h5.2.2.1 h4, h5.2.2.2⟩
end K13
/-! the program's small defs -/
namespace K13
open PySem PySem.Spec PyProof.Rows L2
def topS (i : Nat) : Stmt := PySem.Challenge.pw_monicsums_k13_whole_products_and_least_m.main.body.getD i (.Pass ⟨0, 0, 0, 0⟩)
/-- a natural as a value, a list of them -/
abbrev vN (n : Nat) : V := .int (n : Int)
def nv (l : List Nat) : List V := l.map vN
/-- a def of the text: where it stands, its name, how it binds -/
structure Def (K : PySem.W.Frag) (mg : Str → Option Value) (x : Str) (i : Nat) (ps : List Str) : Prop where
  ex : ∃ f fd, Fun K x x (topS i) f fd ∧ mg x = some (.ref f) ∧ Binds K fd ps []
/-- a def that keeps a promise, ready to be called by its name -/
structure Cal (P : Program) (w : World) (K : PySem.W.Frag) (mg : Str → Option Value) (base : Heap) (x : Str) (ps : List Str) (k : Nat) (sp : Sp) : Prop where
  ex : ∃ f fd, mg x = some (.ref f) ∧ FnOk P w K mg base CX0 k f fd ps sp ∧ PySem.W.keepIn K (.ref f) = true ∧ Binds K fd ps []
section
variable {X : Cx} {x : Str} {ps : List Str} {k : Nat} {sp : Sp} {e : Expr} {es : List Expr} {t : TA} {p pos : Pos}
theorem pe_cal (C : Cal X.prog X.w X.K X.mg X.base x ps k sp) (hr : Room k X.A) (ha : PA X (e :: es) t) (hg : Gl X x := by rfl) (hd : (x == ("__debug__" : Str)) = false := by decide)
    (he : starEach (e :: es) X.env = (false, eval e X.env) :: starEach es X.env := by rfl) (hpl : (backTo pos (starEach es X.env)).any (·.1) = false := by rfl) :
    PE X (.Call (.Name x p) (e :: es) [] pos) (tCall sp [] E0 t) := by
  obtain ⟨f, fd, m, F, kp, b⟩ := C.ex
  exact pe_call F hr hg m kp b .nil pass0 ha hd he hpl
end
section
variable {P : Program} {w : World} {K : PySem.W.Frag} {mg : Str → Option Value} {base : Heap}
theorem Def.cal {x : Str} {i : Nat} {ps N : List Str} {k : Nat} {sp : Sp} (D : Def K mg x i ps) (S : FnScope N ps (defScope (topS i))) (len : ∀ vs H Q E, sp vs H Q E → vs.length = ps.length)
    (hbody : ∀ (f : Addr) (cdv : Value) (A : Around) (outer : List Env) (s : Shared) (H : Hp) (vs : List V) (Q : VK) (E : XK), Room k (A.deeper (envOfC x (defScope (topS i)) s.heap.objs.size f cdv)) → sp vs H Q E →
      ∃ t, PSs (cxOf CX0 P w K mg base N x (defScope (topS i)) f cdv A outer s H E).nox (defBody (topS i)) t ∧ t { nx := fun _ H' => Q .non H', rt := Q } (start N vs) H) : Cal P w K mg base x ps (k + 1) sp := by
  obtain ⟨f, fd, F, m, b⟩ := D.ex
  exact ⟨f, fd, m, F.ok S len (fun cdv A outer s H vs Q E hr h => hbody f cdv A outer s H vs Q E hr h), F.kp, b⟩
theorem blT {p : Prop} [Decidable p] (h : p) : V.bl (decide p) = V.bl true := by rw [decide_eq_true h]
theorem blF {p : Prop} [Decidable p] (h : ¬ p) : V.bl (decide p) = V.bl false := by rw [decide_eq_false h]
/-! ### powers -/
theorem sc11 : FnScope ["base", "count", "found", "turn"] ["base", "count"] (defScope (topS 11)) := ⟨rfl, rfl, rfl, by decide +kernel, rfl, by decide +kernel, by decide +kernel⟩
def spPow : Sp := fun vs H Q _ => ∃ b c : Nat, vs = [vN b, vN c] ∧ b < 1000 ∧ c < 1000 ∧ Q (vN (b ^ c)) H
theorem len_pow {ps : List Str} (h : ps.length = 2) : ∀ vs H Q E, spPow vs H Q E → vs.length = ps.length := fun vs H Q E ⟨b, c, e, _⟩ => by
  rw [e, h] <;> rfl
theorem ok_11 (D : Def K mg "integer_power" 11 ["base", "count"]) (mr : mg "range" = none) : Cal P w K mg base "integer_power" ["base", "count"] 1 spPow := by
  refine D.cal sc11 (len_pow rfl) fun f cdv A outer s H vs Q E hr h => ?_
  obtain ⟨b, c, rfl, hb, hc, q⟩ := h
  refine ⟨_, pss_cons (ps_set (i := 2) sc11.nd rfl (.inl rfl) pe_int) (pss_cons (ps_for PassesOwn.never rfl (pi_range1 rfl mr (pa_cons (pv 1) pa_nil)) (pg_name (i := 3) sc11.nd rfl (.inl rfl))
    (pss_one (ps_aug (i := 2) sc11.nd rfl (.inl rfl) (pv 0) iop_mul))) (pss_one (ps_ret (pv 2)))), ?_⟩
  refine ⟨vN c, rfl, (c : Int), rfl, by omega, by omega, ?_⟩
  refine for_range (lo := 0) (n := (c : Int).toNat) (fun i σ H1 => ∃ y, σ = [some (vN b), some (vN c), some (vN (b ^ i)), y] ∧ H1 = H) ⟨none, rfl, rfl⟩ ?_ ?_
  · rintro i σ H1 hi ⟨y, rfl, rfl⟩
    refine ⟨vN (b ^ i), rfl, vN b, rfl, ((b ^ i : Nat) : Int), (b : Int), rfl, rfl, .inr ⟨by omega, by omega⟩, some (.int (0 + (i : Int))), ?_, rfl⟩
    show _ = [some (vN b), some (vN c), some (vN (b ^ i * b)), _]
    simp [vN, List.set]
  · rintro σ H1 ⟨y, rfl, rfl⟩
    refine ⟨_, rfl, ?_⟩
    rw [Int.toNat_natCast]
    exact q
theorem ok_17 (D : Def K mg "to_power" 17 ["base", "count"]) (mr : mg "range" = none) : Cal P w K mg base "to_power" ["base", "count"] 1 spPow := by
  refine D.cal (N := ["base", "count", "found", "turn"]) ⟨rfl, rfl, rfl, by decide +kernel, rfl, by decide +kernel, by decide +kernel⟩ (len_pow rfl) fun f cdv A outer s H vs Q E hr h => ?_
  obtain ⟨b, c, rfl, hb, hc, q⟩ := h
  refine ⟨_, pss_cons (ps_set (i := 2) sc11.nd rfl (.inl rfl) pe_int) (pss_cons (ps_for PassesOwn.never rfl (pi_range1 rfl mr (pa_cons (pv 1) pa_nil)) (pg_name (i := 3) sc11.nd rfl (.inl rfl))
    (pss_one (ps_aug (i := 2) sc11.nd rfl (.inl rfl) (pv 0) iop_mul))) (pss_one (ps_ret (pv 2)))), ?_⟩
  refine ⟨vN c, rfl, (c : Int), rfl, by omega, by omega, ?_⟩
  refine for_range (lo := 0) (n := (c : Int).toNat) (fun i σ H1 => ∃ y, σ = [some (vN b), some (vN c), some (vN (b ^ i)), y] ∧ H1 = H) ⟨none, rfl, rfl⟩ ?_ ?_
  · rintro i σ H1 hi ⟨y, rfl, rfl⟩
    refine ⟨vN (b ^ i), rfl, vN b, rfl, ((b ^ i : Nat) : Int), (b : Int), rfl, rfl, .inr ⟨by omega, by omega⟩, some (.int (0 + (i : Int))), ?_, rfl⟩
    show _ = [some (vN b), some (vN c), some (vN (b ^ i * b)), _]
    simp [vN, List.set]
  · rintro σ H1 ⟨y, rfl, rfl⟩
    refine ⟨_, rfl, ?_⟩
    rw [Int.toNat_natCast]
    exact q
theorem sc34 : FnScope ["_law_base", "_law_count", "_law_found", "_law_turn"] ["_law_base", "_law_count"] (defScope (topS 34)) := ⟨rfl, rfl, rfl, by decide +kernel, rfl, by decide +kernel, by decide +kernel⟩
theorem ok_34 (D : Def K mg "_law_raised" 34 ["_law_base", "_law_count"]) (mr : mg "range" = none) : Cal P w K mg base "_law_raised" ["_law_base", "_law_count"] 1 spPow := by
  refine D.cal sc34 (len_pow rfl) fun f cdv A outer s H vs Q E hr h => ?_
  obtain ⟨b, c, rfl, hb, hc, q⟩ := h
  refine ⟨_, pss_cons (ps_set (i := 2) sc34.nd rfl (.inl rfl) pe_int) (pss_cons (ps_for PassesOwn.never rfl (pi_range1 rfl mr (pa_cons (pv 1) pa_nil)) (pg_name (i := 3) sc34.nd rfl (.inl rfl))
    (pss_one (ps_set (i := 2) sc34.nd rfl (.inl rfl) (pe_op op_mul (pv 2) (pv 0))))) (pss_one (ps_ret (pv 2)))), ?_⟩
  refine ⟨vN c, rfl, (c : Int), rfl, by omega, by omega, ?_⟩
  refine for_range (lo := 0) (n := (c : Int).toNat) (fun i σ H1 => ∃ y, σ = [some (vN b), some (vN c), some (vN (b ^ i)), y] ∧ H1 = H) ⟨none, rfl, rfl⟩ ?_ ?_
  · rintro i σ H1 hi ⟨y, rfl, rfl⟩
    refine ⟨vN (b ^ i), rfl, vN b, rfl, ((b ^ i : Nat) : Int), (b : Int), rfl, rfl, .inr ⟨by omega, by omega⟩, some (.int (0 + (i : Int))), ?_, rfl⟩
    show _ = [some (vN b), some (vN c), some (vN (b ^ i * b)), _]
    simp [vN, List.set]
  · rintro σ H1 ⟨y, rfl, rfl⟩
    refine ⟨_, rfl, ?_⟩
    rw [Int.toNat_natCast]
    exact q
/-! ### the checks -/
theorem sc9 : FnScope ["value"] ["value"] (defScope (topS 9)) := ⟨rfl, rfl, rfl, by decide +kernel, rfl, by decide +kernel, by decide +kernel⟩
def spWhole : Sp := fun vs H Q _ => ∃ i : Int, vs = [.int i] ∧ Q (.bl true) H
theorem ok_9 (D : Def K mg "is_whole_number" 9 ["value"]) (mi : mg "isinstance" = none) (mt : mg "int" = none) (mb : mg "bool" = none) : Cal P w K mg base "is_whole_number" ["value"] 1 spWhole := by
  refine D.cal sc9 (fun vs H Q E ⟨i, e, _⟩ => by rw [e]; rfl) fun f cdv A outer s H vs Q E hr h => ?_
  obtain ⟨i, rfl, q⟩ := h
  refine ⟨_, pss_one (ps_ret (pe_and (pe_callB call_isi (by rfl) mi boot_isinstance (pa_cons (pv 0) (pa_cons (pe_bltn (v := .ty "int") (by rfl) mt PyProof.Rows.boot_int rfl) pa_nil)))
    (pe_one (pe_not (pe_callB call_isi (by rfl) mi boot_isinstance (pa_cons (pv 0) (pa_cons (pe_bltn (v := .ty "bool") (by rfl) mb PyProof.Rows.boot_bool rfl) pa_nil))))))), ?_⟩
  refine ⟨.int i, rfl, .int i, .ty "int", _, _, true, rfl, .ty "int", .base (.int i), kit_ty (by decide +kernel), true, rfl, ?_⟩
  refine iteT ?_
  exact ⟨.int i, rfl, .int i, .ty "bool", _, _, false, rfl, .ty "bool", .base (.int i), kit_ty (by decide +kernel), false, rfl, q⟩
theorem sc10 : FnScope ["value", "least", "most"] ["value", "least", "most"] (defScope (topS 10)) := ⟨rfl, rfl, rfl, by decide +kernel, rfl, by decide +kernel, by decide +kernel⟩
def spWithin : Sp := fun vs H Q _ => ∃ i lo hi : Int, vs = [.int i, .int lo, .int hi] ∧ lo ≤ i ∧ i ≤ hi ∧ Q (.bl true) H
theorem ok_10 (D : Def K mg "is_within" 10 ["value", "least", "most"]) (C9 : Cal P w K mg base "is_whole_number" ["value"] 1 spWhole) : Cal P w K mg base "is_within" ["value", "least", "most"] 2 spWithin := by
  refine D.cal sc10 (fun vs H Q E ⟨i, lo, hi, e, _⟩ => by rw [e]; rfl) fun f cdv A outer s H vs Q E hr h => ?_
  obtain ⟨i, lo, hi, rfl, h1, h2, q⟩ := h
  refine ⟨_, pss_one (ps_ret (pe_and (pe_cal C9 hr (pa_cons (pv 0) pa_nil)) (pe_one (pe_chain op_le op_le (pv 1) (pv 0) (pv 2))))), ?_⟩
  refine ⟨.int i, rfl, i, rfl, true, rfl, ?_⟩
  refine iteT ⟨.int lo, rfl, .int i, rfl, lo, i, rfl, rfl, true, blT h1, iteT ⟨.int hi, rfl, i, hi, rfl, rfl, ?_⟩⟩
  show Q (.bl (decide (i ≤ hi))) H
  rw [blT h2]
  exact q
theorem sc12 : FnScope ["value"] ["value"] (defScope (topS 12)) := ⟨rfl, rfl, rfl, by decide +kernel, rfl, by decide +kernel, by decide +kernel⟩
def spField : Sp := fun vs H Q _ => ∃ q : Nat, vs = [vN q] ∧ q ∈ FQ ∧ Q (.bl true) H
/-- a tuple of the written part -/
structure KTup (K : PySem.W.Frag) (a : Addr) (xs : List V) : Prop where
  ex : ∃ (o : Obj) (its : Array Value) (n : Nat), K.lookup a = some o ∧ o.cls = .type "tuple" ∧ o.dict = none ∧ o.data = .seq its n ∧ its.size ≤ sizeLine ∧ Vals xs its.toList
theorem KTup.seq {a : Addr} {xs : List V} (h : KTup K a xs) (H : Hp) : SqT K H a xs := let ⟨o, its, n, h1, h2, _, h4, h5, h6⟩ := h.ex; .inr ⟨o, its, n, h1, h2, h4, h5, h6⟩
theorem KTup.ty {a : Addr} {xs : List V} (h : KTup K a xs) (H : Hp) : tyV K "tuple" (.ref a) H := let ⟨o, its, n, h1, h2, h3, _⟩ := h.ex; .inr (.inl ⟨rfl, o, h1, h2, h3⟩)
/-- a constant of the top -/
structure GlT (K : PySem.W.Frag) (mg : Str → Option Value) (x : Str) (xs : List V) : Prop where
  ex : ∃ a, mg x = some (.ref a) ∧ KTup K a xs
theorem ok_12 (D : Def K mg "is_field_in" 12 ["value"]) (C9 : Cal P w K mg base "is_whole_number" ["value"] 1 spWhole) (gF : GlT K mg "FIELDS" (nv FQ)) : Cal P w K mg base "is_field_in" ["value"] 2 spField := by
  obtain ⟨aF, mF, tF⟩ := gF.ex
  refine D.cal sc12 (fun vs H Q E ⟨i, e, _⟩ => by rw [e]; rfl) fun f cdv A outer s H vs Q E hr h => ?_
  obtain ⟨q, rfl, hq, k⟩ := h
  refine ⟨_, pss_one (ps_ret (pe_and (pe_cal C9 hr (pa_cons (pv 0) pa_nil)) (pe_one (pe_cmpR op_in_seq (pv 0) (pe_glob (v := .ref aF) (by rfl) mF rfl) (by rfl))))), ?_⟩
  refine ⟨vN q, rfl, (q : Int), rfl, true, rfl, iteT ⟨vN q, rfl, aF, nv FQ, rfl, .inr (tF.seq H), rfl, by decide +kernel, ?_⟩⟩
  have e : inV (vN q) (nv FQ) = true := by
    have z : ∀ q ∈ FQ, inV (vN q) (nv FQ) = true := by decide +kernel
    exact z q hq
  rw [if_neg Bool.false_ne_true, e]
  exact k
theorem sc14 : FnScope ["q"] ["q"] (defScope (topS 14)) := ⟨rfl, rfl, rfl, by decide +kernel, rfl, by decide +kernel, by decide +kernel⟩
def spReqF : Sp := fun vs H Q _ => ∃ q : Nat, vs = [vN q] ∧ q ∈ FQ ∧ Q .non H
theorem ok_14 (D : Def K mg "require_field" 14 ["q"]) (C : Cal P w K mg base "is_field_in" ["value"] 2 spField) : Cal P w K mg base "require_field" ["q"] 3 spReqF := by
  refine D.cal sc14 (fun vs H Q E ⟨i, e, _⟩ => by rw [e]; rfl) fun f cdv A outer s H vs Q E hr h => ?_
  obtain ⟨q, rfl, hq, k⟩ := h
  refine ⟨_, pss_one (ps_if (pt_not (pt_val (pe_cal C hr (pa_cons (pv 0) pa_nil)))) pss_never pss_nil), ?_⟩
  exact ⟨vN q, rfl, q, rfl, hq, true, rfl, iteF k⟩
/-- a written int of the top -/
def GlI (mg : Str → Option Value) (x : Str) (i : Int) : Prop := ∃ t, mg x = some (.int i t)
theorem sc22 : FnScope ["d"] ["d"] (defScope (topS 22)) := ⟨rfl, rfl, rfl, by decide +kernel, rfl, by decide +kernel, by decide +kernel⟩
def spReqD : Sp := fun vs H Q _ => ∃ d : Nat, vs = [vN d] ∧ d ≤ 300 ∧ Q .non H
theorem ok_22 (D : Def K mg "require_degree" 22 ["d"]) (C : Cal P w K mg base "is_within" ["value", "least", "most"] 2 spWithin) (g : GlI mg "MOST_SUMMED_DEGREE" 300) : Cal P w K mg base "require_degree" ["d"] 3 spReqD := by
  obtain ⟨t, m⟩ := g
  refine D.cal sc22 (fun vs H Q E ⟨i, e, _⟩ => by rw [e]; rfl) fun f cdv A outer s H vs Q E hr h => ?_
  obtain ⟨q, rfl, hq, k⟩ := h
  refine ⟨_, pss_one (ps_if (pt_not (pt_val (pe_cal C hr (pa_cons (pv 0) (pa_cons pe_int (pa_cons (pe_glob (v := .int 300) (by rfl) m ⟨_, rfl⟩) pa_nil)))))) pss_never pss_nil), ?_⟩
  exact ⟨vN q, rfl, q, 0, 300, rfl, by omega, by omega, true, rfl, iteF k⟩
theorem sc27 : FnScope ["degree"] ["degree"] (defScope (topS 27)) := ⟨rfl, rfl, rfl, by decide +kernel, rfl, by decide +kernel, by decide +kernel⟩
def spReqM : Sp := fun vs H Q _ => ∃ d : Int, vs = [.int d] ∧ d ≤ 2000 ∧ Q .non H
theorem ok_27 (D : Def K mg "require_made_degree" 27 ["degree"]) (g : GlI mg "MOST_MADE_DEGREE" 2000) : Cal P w K mg base "require_made_degree" ["degree"] 1 spReqM := by
  obtain ⟨t, m⟩ := g
  refine D.cal sc27 (fun vs H Q E ⟨i, e, _⟩ => by rw [e]; rfl) fun f cdv A outer s H vs Q E hr h => ?_
  obtain ⟨d, rfl, hd, k⟩ := h
  refine ⟨_, pss_one (ps_if (pt_cmpR op_gt (pv 0) (pe_glob (v := .int 2000) (by rfl) m ⟨_, rfl⟩) (nomark _)) pss_never pss_nil), ?_⟩
  refine ⟨.int d, rfl, d, 2000, rfl, rfl, false, blF (by omega), iteF k⟩
end
end K13
/-! the program's defs over polynomials -/
namespace K13
open PySem PySem.Spec PyProof.Rows L2
theorem nv_eq (l : List Nat) : nv l = (l.map fun n : Nat => (n : Int)).map V.int := by
  unfold nv
  rw [List.map_map]
  rfl
theorem nv_get {l : List Nat} {i x : Nat} (h : l[i]? = some x) : (nv l)[i]? = some (vN x) := by
  unfold nv
  rw [List.getElem?_map, h]
  rfl
theorem ints_get {l : List Nat} {i x : Nat} (h : l[i]? = some x) : (l.map fun n : Nat => (n : Int))[i]? = some (x : Int) := by
  rw [List.getElem?_map, h]
  rfl
theorem ints_ne {l : List Nat} {i x : Nat} (h : l[i]? ≠ some x) : (l.map fun n : Nat => (n : Int))[i]? ≠ some (x : Int) := fun e => by
  rw [List.getElem?_map] at e
  cases q : l[i]? with
  | none => rw [q] at e; cases e
  | some y =>
    rw [q] at e
    have e2 : (y : Int) = (x : Int) := Option.some.inj e
    rw [q] at h
    exact h (congrArg some (Int.ofNat.inj e2))
theorem nv_len (l : List Nat) : (nv l).length = l.length := by unfold nv; rw [List.length_map]
theorem line_le {n : Nat} (h : n ≤ 100000) : n ≤ sizeLine := by rw [sizeLine_eq]; omega
theorem same_up {H H1 : Hp} {p : Addr} {o : HO} (e : Same H H1) (h : H p = none) : Same H (upd H1 p o) := fun b x q => by
  rw [upd_ne (ne_of_none q h)]
  exact e b x q
/-- a table of tables at the top: SUM_TABLES, PRODUCT_TABLES -/
structure TabK (K : PySem.W.Frag) (mg : Str → Option Value) (x : Str) (T : Nat → List (List Nat)) : Prop where
  ex : ∃ a, mg x = some (.ref a) ∧ ∀ q ∈ FQ, ∃ (t : Addr) (rs : List Addr), KDctI K a (q : Int) (.ref t) ∧ KTup K t (rs.map V.ref) ∧ rs.length = (T q).length ∧ ∀ (i : Nat) (r : Addr) (row : List Nat), rs[i]? = some r → (T q)[i]? = some row → KTup K r (nv row)
/-- row e of a table at t -/
theorem row_at {α : Type} {rs : List Addr} {rows : List α} (hl : rs.length = rows.length) {e : Nat} {row : α} (h : rows[e]? = some row) : ∃ r, rs[e]? = some r ∧ (rs.map V.ref)[e]? = some (.ref r) := by
  have h1 : e < rs.length := by rw [hl]; exact (List.getElem?_eq_some_iff.mp h).1
  exact ⟨rs[e], List.getElem?_eq_getElem h1, by rw [List.getElem?_map, List.getElem?_eq_getElem h1]; rfl⟩
section
variable {P : Program} {w : World} {K : PySem.W.Frag} {mg : Str → Option Value} {base : Heap}
theorem sc13 : FnScope ["q", "element"] ["q", "element"] (defScope (topS 13)) := ⟨rfl, rfl, rfl, by decide +kernel, rfl, by decide +kernel, by decide +kernel⟩
def spOpp : Sp := fun vs H Q _ => ∃ q e : Nat, vs = [vN q, vN e] ∧ q ∈ FQ ∧ e < q ∧ Q (vN ((MINUS q).getD e 0)) H
theorem ok_13 (D : Def K mg "opposite_in" 13 ["q", "element"]) (TS : TabK K mg "SUM_TABLES" PLUS) : Cal P w K mg base "opposite_in" ["q", "element"] 1 spOpp := by
  obtain ⟨aS, mS, tS⟩ := TS.ex
  refine D.cal sc13 (fun vs H Q E ⟨q, e, h, _⟩ => by rw [h]; rfl) fun f cdv A outer s H vs Q E hr h => ?_
  obtain ⟨q, e, rfl, hq, he, k⟩ := h
  obtain ⟨t, rs, kd, kt, hl, hrows⟩ := tS q hq
  obtain ⟨row, g1, g2, g3⟩ := minus_at q hq e he
  obtain ⟨r, e1, e2⟩ := row_at hl g1
  have kr := hrows e r row e1 g1
  refine ⟨_, pss_one (ps_ret (pe_bm PySem.F.plainAttrs_tuple PySem.F.slot_tuple_index PySem.F.type_tuple_index mt_tindex
    (pe_ix ix_tup (pe_ix ix_kdictI (pe_glob (v := .ref aS) (by rfl) mS rfl) (pv 0) (fun _ _ => rfl)) (pv 1) (fun _ _ => rfl)) (pa_cons pe_int pa_nil))), ?_⟩
  refine ⟨vN q, rfl, aS, q, .ref t, rfl, rfl, kd, vN e, rfl, t, _, e, .ref r, rfl, rfl, kt.seq H, atI_nat e2, kr.ty H, ?_⟩
  exact ⟨r, _, 0, (MINUS q).getD e 0, rfl, rfl, by rw [← nv_eq]; exact kr.seq H, ints_get g2, fun m hm => ints_ne (g3 m hm), k⟩
theorem sc24 : FnScope ["q", "index"] ["q", "index"] (defScope (topS 24)) := ⟨rfl, rfl, rfl, by decide +kernel, rfl, by decide +kernel, by decide +kernel⟩
def spBrk : Sp := fun vs H Q _ => ∃ q j : Nat, vs = [vN q, vN j] ∧ q ∈ FQ ∧ 1 ≤ j ∧ j < 1000 ∧ q ^ j ≤ 1000 ∧ ∀ p H2, Same H H2 → FT H2 p (nv (brkP q j)) → Q (.ref p) H2
theorem ok_24 (D : Def K mg "bracket_in" 24 ["q", "index"]) (C13 : Cal P w K mg base "opposite_in" ["q", "element"] 1 spOpp) (C11 : Cal P w K mg base "integer_power" ["base", "count"] 1 spPow) : Cal P w K mg base "bracket_in" ["q", "index"] 2 spBrk := by
  refine D.cal sc24 (fun vs H Q E ⟨q, e, h, _⟩ => by rw [h]; rfl) fun f cdv A outer s H vs Q E hr h => ?_
  obtain ⟨q, j, rfl, hq, hj, hj2, hp, k⟩ := h
  have hq2 := fq_pos hq
  have hp2 := pow2 hq hj
  refine ⟨_, pss_one (ps_ret (pe_tupF (pa_cons pe_int (pa_cons (pe_cal C13 hr (pa_cons (pv 0) (pa_cons pe_int pa_nil)))
    (StX.pa_star (pe_op op_rep (pe_lst (pa_cons pe_int pa_nil)) (pe_op op_sub (pe_cal C11 hr (pa_cons (pv 0) (pa_cons (pv 1) pa_nil))) pe_int)) (pa_cons pe_int pa_nil)))))), ?_⟩
  refine ⟨vN q, rfl, q, 1, rfl, hq, by omega, ?_⟩
  refine ⟨Nat.le_of_lt (small1000 (by decide)), fun l hl => ?_⟩
  refine ⟨vN q, rfl, vN j, rfl, q, j, rfl, by omega, hj2, ((q ^ j : Nat) : Int), 2, rfl, rfl, ?_⟩
  refine ⟨l, ((q ^ j : Nat) : Int) - 2, _, rfl, rfl, upd_same, by omega, by omega, ?_, fun p hp3 => ?_⟩
  · show 1 * _ ≤ _
    rw [Nat.one_mul]
    exact line_le (by omega)
  · refine ⟨p, _, rfl, .inr (.inl (.inl upd_same)), ?_⟩
    have e : (((q ^ j : Nat) : Int) - 2).toNat = q ^ j - 2 := by omega
    have e2 : (V.int 0 :: (vN ((MINUS q).getD 1 0)) :: ((List.replicate (((q ^ j : Nat) : Int) - 2).toNat [V.int 0]).flatten ++ [V.int 1])) = nv (brkP q j) := by
      rw [e, flat_rep]
      unfold nv brkP
      simp [vN]
    refine ⟨?_, fun p2 H2 hs hf => k p2 H2 ((same_new hl).trans ((same_new hp3).trans hs)) ?_⟩
    · show (V.int 0 :: (vN ((MINUS q).getD 1 0)) :: ((List.replicate (((q ^ j : Nat) : Int) - 2).toNat [V.int 0]).flatten ++ [V.int 1])).length ≤ _
      rw [e2, nv_len, brkP_len hq hj]
      exact line_le (by omega)
    · rw [← e2]
      exact hf
theorem sc19 : FnScope ["q", "a", "steps", "step", "place"] ["q", "a", "steps"] (defScope (topS 19)) := ⟨rfl, rfl, rfl, by decide +kernel, rfl, by decide +kernel, by decide +kernel⟩
def spRoot : Sp := fun vs H Q _ => ∃ (q s : Nat) (a : Addr) (A : List Nat), vs = [vN q, .ref a, vN s] ∧ q ∈ FQ ∧ s < 1000 ∧ FT H a (nv A) ∧ 0 < A.length ∧ q ^ s * (A.length - 1) ≤ 10000 ∧ q ^ s ≤ 1000 ∧ ∀ p H2, Same H H2 → FT H2 p (nv (rootP (q ^ s) A)) → Q (.ref p) H2
theorem ok_19 (D : Def K mg "root_power_in" 19 ["q", "a", "steps"]) (C17 : Cal P w K mg base "to_power" ["base", "count"] 1 spPow) (mt : mg "tuple" = none) (mr : mg "range" = none) (ml : mg "len" = none) : Cal P w K mg base "root_power_in" ["q", "a", "steps"] 2 spRoot := by
  refine D.cal sc19 (fun vs H Q E ⟨q, s, a, A, h, _⟩ => by rw [h]; rfl) fun f cdv AA outer s0 H vs Q E hr h => ?_
  obtain ⟨q, s, a, A, rfl, hq, hs, ha, hA, hb, hb2, k⟩ := h
  have hq2 := fq_pos hq
  have hst : 0 < q ^ s := Nat.pow_pos (by omega)
  refine ⟨_, pss_cons (ps_set (i := 3) sc19.nd rfl (.inr rfl) (pe_cal C17 hr (pa_cons (pv 0) (pa_cons (pv 2) pa_nil))))
    (pss_one (ps_ret (pe_callTy call_tupleF (by rfl) mt PyProof.Rows.boot_tuple (pa_cons
      (pe_lc (own := [("place", 4)]) (g := gName 4) (tt := tYes) rfl sc19.nd
        (pi_range1 rfl mr (pa_cons (pe_op op_add (pe_op op_mul (pv 3) (pe_op op_sub (pe_callB call_len_seq (by rfl) ml PySem.boot_len (pa_cons (pv 1) pa_nil)) pe_int)) pe_int) pa_nil))
        (blkOk_by (N := ["q", "a", "steps", "step", "place"]) (own := [("place", 4)]) (sc := defScope (topS 19)) (by decide +kernel)) (fun _ _ _ _ _ => pg_name (i := 4) sc19.nd rfl (.inl rfl)) (fun _ _ _ _ _ => pts_nil)
        (fun _ _ _ _ _ => pe_ifExp (pt_cmpR op_eq (pe_op op_mod (pv 4) (pv 3)) pe_int (nomark _)) (pe_ix (r := rIxT K) ix_tup (pv 1) (pe_op op_fdiv (pv 4) (pv 3)) (fun _ _ => rfl)) pe_int)) pa_nil)))), ?_⟩
  refine ⟨vN q, rfl, vN s, rfl, q, s, rfl, by omega, hs, ?_⟩
  refine ⟨vN (q ^ s), rfl, .ref a, rfl, a, _, rfl, .inr ha.seq, ((nv A).length : Int), 1, rfl, rfl, ((q ^ s : Nat) : Int), _, rfl, rfl, .inl ⟨by omega, by omega⟩, _, 1, rfl, rfl, ?_⟩
  have en : ((q ^ s : Nat) : Int) * (((nv A).length : Int) - 1) + 1 = ((q ^ s * (A.length - 1) + 1 : Nat) : Int) := by
    rw [nv_len, show ((A.length : Nat) : Int) - 1 = ((A.length - 1 : Nat) : Int) by omega, ← Int.natCast_mul]
    rfl
  refine ⟨_, congrArg (fun z => [V.int z]) en, by omega, by omega, ?_⟩
  intro Dl hD
  rw [Int.toNat_natCast]
  refine lc_range (lo := 0) (n := q ^ s * (A.length - 1) + 1) (fun i H1 => Same H H1 ∧ H1 Dl = some (.lst (nv ((List.range i).map fun p => if p % q ^ s = 0 then A.getD (p / q ^ s) 0 else 0)))) ⟨same_new hD, upd_same⟩ ?_ ?_
  · rintro i H1 hi ⟨hs1, hd1⟩
    refine ⟨rfl, ?_⟩
    have fin : ∀ y : Nat, y = (if i % q ^ s = 0 then A.getD (i / q ^ s) 0 else 0) → ∃ acc, H1 Dl = some (.lst acc) ∧ acc.length < sizeLine ∧ Same H (upd H1 Dl (.lst (acc ++ [vN y]))) ∧ (upd H1 Dl (.lst (acc ++ [vN y]))) Dl = some (.lst (nv ((List.range (i + 1)).map fun p => if p % q ^ s = 0 then A.getD (p / q ^ s) 0 else 0))) := by
      intro y hy
      refine ⟨_, hd1, ?_, same_up hs1 hD, ?_⟩
      · rw [nv_len, List.length_map, List.length_range, sizeLine_eq]
        omega
      · rw [upd_same, List.range_succ, List.map_append, hy]
        unfold nv
        rw [List.map_append]
        rfl
    refine ⟨.int (0 + (i : Int)), rfl, vN (q ^ s), rfl, 0 + (i : Int), ((q ^ s : Nat) : Int), rfl, rfl, by omega, rfl, _, rfl, ?_⟩
    rw [Int.zero_add]
    refine ite2 (fun c => ?_) (fun c => ?_)
    · have c2 : i % q ^ s = 0 := Int.ofNat.inj (V.int.inj (of_decide_eq_true c))
      refine ⟨.ref a, rfl, vN i, rfl, vN (q ^ s), rfl, i, ((q ^ s : Nat) : Int), rfl, rfl, ⟨by omega, by omega⟩, a, _, ((i / q ^ s : Nat) : Int), vN (A.getD (i / q ^ s) 0), rfl, rfl, (ha.same hs1).seq, ?_, ?_⟩
      · have h1 : i / q ^ s < A.length := by
          have h2 : i / q ^ s ≤ A.length - 1 := by
            rw [← Nat.lt_succ_iff, Nat.div_lt_iff_lt_mul hst, Nat.succ_mul, Nat.mul_comm]
            omega
          omega
        refine atI_nat (nv_get ?_)
        rw [List.getD_eq_getElem?_getD, List.getElem?_eq_getElem h1]
        rfl
      · exact fin _ (by rw [if_pos c2])
    · have c2 : ¬ i % q ^ s = 0 := fun z => c (decide_eq_true (congrArg (fun n : Nat => V.int (n : Int)) z))
      exact fin 0 (by rw [if_neg c2])
  · rintro H1 ⟨hs1, hd1⟩
    exact ⟨Dl, _, rfl, SqL.of hd1, fun p H2 hs2 hf => k p H2 (hs1.trans hs2) hf⟩
end
theorem cut_to {fs : List Nat} {a : Nat} (h : a ≤ fs.length) : cutV (nv fs) none (some (a : Int)) = nv (fs.take a) := by
  unfold cutV
  rw [HT.sIx_none, HT.sIx_nat, nv_len, Nat.min_eq_left h, List.drop_zero, Nat.sub_zero]
  unfold nv
  rw [List.map_take]
theorem cut_from {fs : List Nat} {a : Nat} (h : a ≤ fs.length) : cutV (nv fs) (some (a : Int)) none = nv (fs.drop a) := by
  unfold cutV
  rw [HT.sIx_none, HT.sIx_nat, nv_len, Nat.min_eq_left h, List.take_of_length_le (by rw [List.length_drop, nv_len]; exact Nat.le_refl _)]
  unfold nv
  rw [List.map_drop]
theorem cut_mid {fs : List Nat} {a b : Nat} (h : a + b ≤ fs.length) : cutV (nv fs) (some (a : Int)) (some ((a + b : Nat) : Int)) = nv ((fs.drop a).take b) := by
  unfold cutV
  rw [HT.sIx_nat, HT.sIx_nat, nv_len, Nat.min_eq_left h, Nat.min_eq_left (show a ≤ fs.length by omega), Nat.add_sub_cancel_left]
  unfold nv
  rw [List.map_take, List.map_drop]
theorem nv_rep (n : Nat) : (List.replicate n [V.int 0]).flatten = nv (List.replicate n 0) := by
  rw [flat_rep]
  unfold nv
  rw [List.map_replicate]
  rfl
theorem nv_app (a b : List Nat) : nv (a ++ b) = nv a ++ nv b := by unfold nv; rw [List.map_append]
section
variable {P : Program} {w : World} {K : PySem.W.Frag} {mg : Str → Option Value} {base : Heap}
abbrev N18 : List Str := ["q", "a", "b", "few", "more", "plus", "size", "found", "at", "element", "row", "part", "one", "other"]
theorem sc18 : FnScope N18 ["q", "a", "b"] (defScope (topS 18)) := ⟨rfl, rfl, rfl, by decide +kernel, rfl, by decide +kernel, by decide +kernel⟩
theorem rest_18 {k : Nat} {f : Addr} {cdv : Value} {A : Around} {outer : List Env} {s : Shared} {H : Hp} {E : XK} (hr : Room k (A.deeper (envOfC "times_in" (defScope (topS 18)) s.heap.objs.size f cdv)))
    (TS : TabK K mg "SUM_TABLES" PLUS) (TP : TabK K mg "PRODUCT_TABLES" MUL) (ml : mg "len" = none) (me : mg "enumerate" = none) (mz : mg "zip" = none) (mt : mg "tuple" = none) :
    ∃ t, PSs (cxOf CX0 P w K mg base N18 "times_in" (defScope (topS 18)) f cdv A outer s H E).nox ((defBody (topS 18)).drop 2) t ∧
      ∀ (q : Nat) (a b x y : Addr) (AA BB XX YY : List Nat) (H1 : Hp) (Q : VK) (nx : L2.St → Hp → Prop), q ∈ FQ → FT H1 a (nv AA) → FT H1 b (nv BB) → FT H1 x (nv XX) → FT H1 y (nv YY) → XX ≠ [] → YY ≠ [] → Pol q XX → Pol q YY → XX.length ≤ 2000 → YY.length ≤ 2000 → XX.length + YY.length = AA.length + BB.length →
        (∀ p H2, Same H1 H2 → FT H2 p (nv (timGo (PLUS q) (MUL q) YY 0 (List.replicate (AA.length + BB.length - 1) 0) XX)) → Q (.ref p) H2) →
        t { nx := nx, rt := Q } [some (vN q), some (.ref a), some (.ref b), some (.ref x), some (.ref y), none, none, none, none, none, none, none, none, none] H1 := by
  obtain ⟨aS, mS, tS⟩ := TS.ex
  obtain ⟨aP, mP, tP⟩ := TP.ex
  refine ⟨_, pss_cons (ps_asg (pe_tup (pa_cons (pe_ix ix_kdictI (pe_glob (v := .ref aS) (by rfl) mS rfl) (pv 0) (fun _ _ => rfl)) (pa_cons (pe_callB call_len_seq (by rfl) ml PySem.boot_len (pa_cons (pv 4) pa_nil))
      (pa_cons (pe_op op_rep (pe_lst (pa_cons pe_int pa_nil)) (pe_op op_sub (pe_op op_add (pe_callB call_len_seq (by rfl) ml PySem.boot_len (pa_cons (pv 1) pa_nil)) (pe_callB call_len_seq (by rfl) ml PySem.boot_len (pa_cons (pv 2) pa_nil))) pe_int)) pa_nil))))
      (pg_tup rfl (pgs_cons (pg_name (i := 5) sc18.nd rfl (.inr rfl)) (pgs_cons (pg_name (i := 6) sc18.nd rfl (.inl rfl)) (pgs_cons (pg_name (i := 7) sc18.nd rfl (.inl rfl)) pgs_nil)))))
    (pss_cons (ps_for PassesOwn.never rfl (pi_enumT rfl me (pa_cons (pv 3) pa_nil)) (pg_tup rfl (pgs_cons (pg_name (i := 8) sc18.nd rfl (.inl rfl)) (pgs_cons (pg_name (i := 9) sc18.nd rfl (.inl rfl)) pgs_nil)))
      (pss_one (ps_if (pt_cmpR op_ne (pv 9) pe_int (nomark _))
        (pss_cons (ps_set (i := 10) sc18.nd rfl (.inr rfl) (pe_ix ix_tup (pe_ix ix_kdictI (pe_glob (v := .ref aP) (by rfl) mP rfl) (pv 0) (fun _ _ => rfl)) (pv 9) (fun _ _ => rfl)))
        (pss_cons (ps_setLc (i := 11) (own := [("one", 12), ("other", 13)]) (g := gTup K 2 (gCons (gName 12) (gCons (gName 13) gNil))) (tt := tYes) rfl sc18.nd rfl rfl (sw_true rfl rfl rfl (by decide +kernel))
            (pi_zipM rfl mz (pa_cons (pe_slice sl_list (pv 7) (po_some (pv 8)) (po_some (pe_op op_add (pv 8) (pv 6)))) (pa_cons (pv 4) pa_nil)))
            (blkOk_by (N := N18) (own := [("one", 12), ("other", 13)]) (sc := defScope (topS 18)) (by decide +kernel))
            (fun _ _ _ _ _ => pg_tup rfl (pgs_cons (pg_name (i := 12) sc18.nd rfl (.inl rfl)) (pgs_cons (pg_name (i := 13) sc18.nd rfl (.inl rfl)) pgs_nil))) (fun _ _ _ _ _ => pts_nil)
            (fun _ _ _ _ _ => pe_ix (r := rIxT K) ix_tup (pe_ix (r := rIxT K) ix_tup (pv 5) (pv 12) (fun _ _ => rfl)) (pe_ix (r := rIxT K) ix_tup (pv 10) (pv 13) (fun _ _ => rfl)) (fun _ _ => rfl)))
        (pss_one (ps_set (i := 7) sc18.nd rfl (.inl rfl) (pe_lst (StX.pa_star (pe_slice sl_list (pv 7) po_none (po_some (pv 8))) (StX.pa_star (pv 11) (StX.pa_star (pe_slice sl_list (pv 7) (po_some (pe_op op_add (pv 8) (pv 6))) po_none) pa_nil))))))))
        pss_nil)))
    (pss_one (ps_ret (pe_callTy call_tupleF (by rfl) mt PyProof.Rows.boot_tuple (pa_cons (pv 7) pa_nil))))), ?_⟩
  intro q a b x y AA BB XX YY H1 Q nx hq fa fb fx fy hxn hyn px py lx ly hl qq
  have hq2 := fq_pos hq
  obtain ⟨t1, rs1, kd1, kt1, hl1, hrows1⟩ := tS q hq
  obtain ⟨t2, rs2, kd2, kt2, hl2, hrows2⟩ := tP q hq
  have lx0 : 0 < XX.length := List.length_pos_iff.mpr hxn
  have ly0 : 0 < YY.length := List.length_pos_iff.mpr hyn
  have plt : ∀ a b, pl (PLUS q) a b < q := (tab_plus hq).lt (by omega)
  -- plus, size, found
  refine ⟨vN q, rfl, aS, q, .ref t1, rfl, rfl, kd1, .ref y, rfl, y, _, rfl, .inr fy.seq, ?_⟩
  refine ⟨Nat.le_of_lt (small1000 (by decide)), fun l hl0 => ?_⟩
  have s1 : Same H1 (upd H1 l (.lst [V.int 0])) := same_new hl0
  refine ⟨.ref a, rfl, a, _, rfl, .inr (fa.same s1).seq, .ref b, rfl, b, _, rfl, .inr (fb.same s1).seq, _, _, rfl, rfl, _, _, rfl, rfl, ?_⟩
  have en : (((nv AA).length : Int) + ((nv BB).length : Int) - 1).toNat = AA.length + BB.length - 1 := by
    rw [nv_len, nv_len]
    omega
  have en2 := nv_len AA
  have en3 := nv_len BB
  refine ⟨l, _, _, rfl, rfl, upd_same, by omega, by omega, ?_, fun pf hpf => ?_⟩
  · show 1 * _ ≤ _
    rw [Nat.one_mul]
    exact line_le (by omega)
  rw [en, nv_rep]
  have s2 : Same H1 (upd (upd H1 l (.lst [V.int 0])) pf (.lst (nv (List.replicate (AA.length + BB.length - 1) 0)))) := s1.trans (same_new hpf)
  refine ⟨Nat.le_of_lt (small1000 (by simp)), fun T hT => ?_⟩
  have s3 := s2.trans (same_new (o := .tup [.ref t1, .int ((nv YY).length : Nat), .ref pf]) hT)
  refine ⟨T, _, rfl, .inl (.inl upd_same), rfl, _, _, rfl, _, _, rfl, _, _, rfl, rfl, ?_⟩
  have hTpf : pf ≠ T := fun e => by
    rw [e] at hpf
    rw [← e, upd_same] at hT
    cases hT
  have hpf1 : H1 pf = none := s1.free hpf
  -- the loop
  refine ⟨.ref x, rfl, x, _, rfl, (fx.same s3).seq, ?_⟩
  refine for_it (walk_enumT (K := K) (a := x) (xs := nv XX)) (fun i σ H' => ∃ y8 y9 y10 y11 pg, σ = [some (vN q), some (.ref a), some (.ref b), some (.ref x), some (.ref y), some (.ref t1), some (.int ((nv YY).length : Nat)), some (.ref pg), y8, y9, y10, y11, none, none] ∧ Same H1 H' ∧ H1 pg = none ∧
      H' pg = some (.lst (nv (timGo (PLUS q) (MUL q) YY 0 (List.replicate (AA.length + BB.length - 1) 0) (XX.take i)))))
    ⟨none, none, none, none, pf, rfl, s3, hpf1, ?_⟩ (fun i σ H' _ h => ?_) ?_ ?_
  · rw [upd_ne hTpf, upd_same]
    rfl
  · obtain ⟨y8, y9, y10, y11, pg, _, sm, _⟩ := h
    exact (fx.same sm).seq
  · rintro i v σ H2 H3 hi ⟨y8, y9, y10, y11, pg, rfl, sm, hpg0, hpg⟩ ⟨T2, x1, x2, rfl, nT, rfl, f1, f2⟩
    rw [nv_len] at hi
    have e1 : x1 = .int (i : Nat) := (Option.some.inj f1).symm
    have e2 : x2 = vN XX[i] := Option.some.inj (f2.symm.trans (nv_get (List.getElem?_eq_getElem hi)))
    subst e1 e2
    have smT : Same H1 (upd H2 T2 (.tup [.int (i : Nat), vN XX[i]])) := sm.trans (same_new nT)
    have npT : pg ≠ T2 := ne_of_none hpg nT
    have hpgT : (upd H2 T2 (.tup [.int (i : Nat), vN XX[i]])) pg = _ := (upd_ne npT).trans hpg
    have etake : XX.take (i + 1) = XX.take i ++ [XX[i]] := by rw [List.take_add_one, List.getElem?_eq_getElem hi]; rfl
    have hxi : XX[i] < q := px _ (List.getElem_mem hi)
    refine ⟨T2, [.int (i : Nat), vN XX[i]], rfl, .inl (.inl upd_same), rfl, _, _, rfl, _, _, rfl, rfl, ?_⟩
    refine ⟨vN XX[i], rfl, rfl, _, rfl, ?_⟩
    refine ite2 (fun c => ?_) (fun c => ?_)
    · have hne : XX[i] ≠ 0 := fun z => by
        rw [z] at c
        exact absurd c (by decide)
      generalize hF : timGo (PLUS q) (MUL q) YY 0 (List.replicate (AA.length + BB.length - 1) 0) (XX.take i) = F at hpgT
      have Flen : F.length = AA.length + BB.length - 1 := by rw [← hF, timGo_len, List.length_replicate]
      have Fpol : Pol q F := by rw [← hF]; exact timGo_pol plt _ _ _ _ (.rep (by omega) _)
      have eF : timGo (PLUS q) (MUL q) YY 0 (List.replicate (AA.length + BB.length - 1) 0) (XX.take (i + 1)) = addAt (PLUS q) (fun m => pl (MUL q) XX[i] m) i F YY := by
        rw [etake, timGo_snoc, if_neg hne, hF, List.length_take, Nat.min_eq_left (by omega), Nat.zero_add]
      have hfit : i + YY.length ≤ F.length := by omega
      rw [addAt_cut _ _ _ hfit] at eF
      -- row
      obtain ⟨mrow, m1, m2, m3⟩ := (tab_mul hq).at hxi (show 0 < q by omega)
      obtain ⟨r2, r2a, r2b⟩ := row_at hl2 m1
      have kr2 := hrows2 _ r2 mrow r2a m1
      refine ⟨vN q, rfl, aP, q, .ref t2, rfl, rfl, kd2, vN XX[i], rfl, t2, _, (XX[i] : Int), .ref r2, rfl, rfl, kt2.seq _, atI_nat r2b, ?_⟩
      -- part
      refine ⟨.ref pg, rfl, .int (i : Nat), rfl, (i : Int), rfl, .int (i : Nat), rfl, .int ((nv YY).length : Nat), rfl, (i : Int), (((nv YY).length : Nat) : Int), rfl, rfl, _, rfl, pg, _, rfl, SqL.of hpgT, fun c1 hc1 => ?_⟩
      have ecut : cutV (nv F) (some (i : Int)) (some ((i : Int) + (((nv YY).length : Nat) : Int))) = nv ((F.drop i).take YY.length) := by
        rw [nv_len]
        exact cut_mid hfit
      rw [ecut]
      have sm1 : Same H1 (upd (upd H2 T2 (.tup [.int (i : Nat), vN XX[i]])) c1 (.lst (nv ((F.drop i).take YY.length)))) := smT.trans (same_new hc1)
      refine ⟨.ref y, rfl, c1, y, _, _, rfl, SqL.of upd_same, (fy.same sm1).seq, ?_⟩
      intro Dl hDl
      have nc1D : c1 ≠ Dl := fun z => by rw [← z, upd_same] at hDl; cases hDl
      have smD := sm1.trans (same_new (o := .lst []) hDl)
      have ncpg : pg ≠ c1 := ne_of_none hpgT hc1
      have npgD : pg ≠ Dl := fun z => by
        rw [← z, upd_ne ncpg, hpgT] at hDl
        cases hDl
      have hDl1 : H1 Dl = none := sm1.free hDl
      refine lc_it (walk_zipM (K := K) (a := c1) (b := y) (xs := nv ((F.drop i).take YY.length)) (ys := nv YY) (n := YY.length) (by rw [nv_len, nv_len, List.length_take, List.length_drop]; omega))
        (fun k H' => Same H1 H' ∧ H' c1 = some (.lst (nv ((F.drop i).take YY.length))) ∧ H' pg = some (.lst (nv F)) ∧ H' Dl = some (.lst (nv ((List.zipWith (fun f l => pl (PLUS q) f (pl (MUL q) XX[i] l)) ((F.drop i).take YY.length) YY).take k))))
        ⟨smD, (upd_ne nc1D).trans upd_same, ?_, upd_same⟩ (fun k H' _ h => ⟨SqL.of h.2.1, (fy.same h.1).seq⟩) ?_ ?_
      · rw [upd_ne npgD, upd_ne ncpg, hpgT]
      · rintro k v H4 H5 hk ⟨g1, g2, g3, g4⟩ ⟨T3, z1, z2, rfl, nT3, rfl, h1, h2⟩
        have hk1 : k < ((F.drop i).take YY.length).length := by rw [List.length_take, List.length_drop]; omega
        generalize hG : (F.drop i).take YY.length = G at g2 g4 h1 hk1
        have Gpol : Pol q G := by rw [← hG]; exact (Fpol.drop i).take _
        have e1 : z1 = vN G[k] := Option.some.inj (h1.symm.trans (nv_get (List.getElem?_eq_getElem hk1)))
        have e2 : z2 = vN YY[k] := Option.some.inj (h2.symm.trans (nv_get (List.getElem?_eq_getElem hk)))
        subst e1 e2
        have hGk : G[k] < q := Gpol _ (List.getElem_mem hk1)
        have hYk : YY[k] < q := py _ (List.getElem_mem hk)
        obtain ⟨row1, a1, a2, _⟩ := (tab_plus hq).at hGk (show pl (MUL q) XX[i] YY[k] < q from (tab_mul hq).lt (by omega) _ _)
        obtain ⟨r1, r1a, r1b⟩ := row_at hl1 a1
        have kr1 := hrows1 _ r1 row1 r1a a1
        obtain ⟨row2, b1, b2, _⟩ := (tab_mul hq).at hxi hYk
        rw [m1] at b1
        cases b1
        have s5 : Same H1 (upd H4 T3 (.tup [vN G[k], vN YY[k]])) := g1.trans (same_new nT3)
        refine ⟨T3, [vN G[k], vN YY[k]], rfl, .inl (.inl upd_same), rfl, _, _, rfl, _, _, rfl, rfl, rfl, ?_⟩
        refine ⟨.ref t1, rfl, vN G[k], rfl, t1, _, (G[k] : Int), .ref r1, rfl, rfl, kt1.seq _, atI_nat r1b, .ref r2, rfl, vN YY[k], rfl, r2, _, (YY[k] : Int), vN (pl (MUL q) XX[i] YY[k]), rfl, rfl, kr2.seq _, atI_nat (nv_get b2), r1, _, ((pl (MUL q) XX[i] YY[k] : Nat) : Int), vN (pl (PLUS q) G[k] (pl (MUL q) XX[i] YY[k])), rfl, rfl, kr1.seq _, atI_nat (nv_get a2), ?_⟩
        have nT3 : ∀ {p : Addr} {o : HO}, H4 p = some o → p ≠ T3 := fun e => ne_of_none e nT3
        refine ⟨_, (upd_ne (nT3 g4)).trans g4, ?_, same_up s5 hDl1, ?_, ?_, ?_⟩
        · rw [nv_len, List.length_take, List.length_zipWith]
          exact Nat.lt_of_le_of_lt (Nat.min_le_left _ _) (Nat.lt_of_lt_of_le (Nat.lt_succ_self _) (line_le (by omega)))
        · rw [upd_ne nc1D, upd_ne (nT3 g2)]
          exact g2
        · rw [upd_ne npgD, upd_ne (nT3 g3)]
          exact g3
        · rw [upd_same, List.take_add_one, List.getElem?_zipWith, List.getElem?_eq_getElem hk1, List.getElem?_eq_getElem hk, nv_app]
          rfl
      · rintro H4 ⟨g1, g2, g3, g4⟩
        -- found = [*found[:at], *part, *found[at + size:]]
        refine ⟨.ref pg, rfl, .int (i : Nat), rfl, (i : Int), rfl, pg, _, rfl, SqL.of g3, fun p1 hp1 => ?_⟩
        rw [cut_to (by omega)]
        refine ⟨p1, _, rfl, .inr (SqL.of upd_same), ?_⟩
        have s6 := same_new (o := .lst (nv (F.take i))) hp1
        refine ⟨.ref Dl, rfl, Dl, _, rfl, .inr (SqL.of (s6 _ _ g4)), ?_⟩
        refine ⟨.ref pg, rfl, .int (i : Nat), rfl, .int ((nv YY).length : Nat), rfl, (i : Int), (((nv YY).length : Nat) : Int), rfl, rfl, _, rfl, pg, _, rfl, SqL.of (s6 _ _ g3), fun p2 hp2 => ?_⟩
        have ecut2 : cutV (nv F) (some ((i : Int) + (((nv YY).length : Nat) : Int))) none = nv (F.drop (i + YY.length)) := by
          rw [nv_len]
          exact cut_from hfit
        rw [ecut2]
        refine ⟨p2, _, rfl, .inr (SqL.of upd_same), ?_⟩
        have ezl : (List.zipWith (fun f l => pl (PLUS q) f (pl (MUL q) XX[i] l)) ((F.drop i).take YY.length) YY).length = YY.length := by
          rw [List.length_zipWith, List.length_take, List.length_drop]
          omega
        have eall : nv (F.take i) ++ (nv (List.zipWith (fun f l => pl (PLUS q) f (pl (MUL q) XX[i] l)) ((F.drop i).take YY.length) YY) ++ (nv (F.drop (i + YY.length)) ++ [])) = nv (timGo (PLUS q) (MUL q) YY 0 (List.replicate (AA.length + BB.length - 1) 0) (XX.take (i + 1))) := by
          rw [eF, nv_app, nv_app, List.append_nil, List.append_assoc]
        have etk : (List.zipWith (fun f l => pl (PLUS q) f (pl (MUL q) XX[i] l)) ((F.drop i).take YY.length) YY).take YY.length = List.zipWith (fun f l => pl (PLUS q) f (pl (MUL q) XX[i] l)) ((F.drop i).take YY.length) YY := List.take_of_length_le (by rw [ezl]; exact Nat.le_refl _)
        rw [etk]
        refine ⟨?_, fun p3 hp3 => ?_⟩
        · refine Nat.le_trans (Nat.le_of_eq (congrArg List.length eall)) ?_
          rw [nv_len, timGo_len, List.length_replicate]
          exact line_le (by omega)
        · have s7 : Same H1 (upd (upd H4 p1 (.lst (nv (F.take i)))) p2 (.lst (nv (F.drop (i + YY.length))))) := (g1.trans s6).trans (same_new hp2)
          exact ⟨_, _, _, _, p3, rfl, s7.trans (same_new hp3), s7.free hp3, upd_same.trans (congrArg (fun z => some (HO.lst z)) eall)⟩
    · have hz : XX[i] = 0 := by
        cases hh : XX[i] with
        | zero => rfl
        | succ n =>
          rw [hh] at c
          exact absurd (by
            rw [decide_eq_false (fun z => by
              have z2 : ((n + 1 : Nat) : Int) = 0 := V.int.inj z
              omega)]
            rfl) c
      refine ⟨_, _, _, _, pg, rfl, smT, hpg0, ?_⟩
      rw [hpgT, etake, timGo_snoc, if_pos hz]
  · rintro σ H2 ⟨y8, y9, y10, y11, pg, rfl, sm, hpg0, hpg⟩
    rw [nv_len, List.take_length] at hpg
    exact ⟨.ref pg, rfl, pg, _, rfl, SqL.of hpg, fun p H3 hs hf => qq p H3 (sm.trans hs) hf⟩
/-- the data of a polynomial -/
def polyD (l : List Nat) : PyData := .tuple (l.map fun n : Nat => .int (n : Int))
theorem dp_ints {H : Hp} : ∀ l : List Nat, DpAll K H (nv l) (l.map fun n : Nat => PyData.int (n : Int))
  | [] => .nil
  | n :: l => .cons (.int _) (dp_ints l)
theorem dp_poly {H : Hp} {a : Addr} {l : List Nat} (h : SqT K H a (nv l)) : Dp K H (.ref a) (polyD l) := .tup h (dp_ints l)
theorem eqv_ints : ∀ a b : List Nat, PyData.eqvAll (a.map fun n : Nat => PyData.int (n : Int)) (b.map fun n : Nat => PyData.int (n : Int)) = (a == b)
  | [], [] => rfl
  | [], _ :: _ => rfl
  | _ :: _, [] => rfl
  | x :: a, y :: b => by
    have ih := eqv_ints a b
    show (PyData.eqv (.int (x : Int)) (.int (y : Int)) && PyData.eqvAll _ _) = (x == y && a == b)
    rw [ih]
    have e : PyData.eqv (.int (x : Int)) (.int (y : Int)) = (x == y) := by
      show ((x : Int) == (y : Int)) = (x == y)
      rw [Bool.eq_iff_iff, beq_iff_eq, beq_iff_eq]
      omega
    rw [e]
theorem eqv_poly (a b : List Nat) : PyData.eqv (polyD a) (polyD b) = (a == b) := eqv_ints a b
theorem lay_ints : ∀ l : List Nat, PyData.canLayAll0 (l.map fun n : Nat => PyData.int (n : Int)) = true
  | [] => by simp [PyData.canLayAll0]
  | n :: l => by simp [PyData.canLayAll0, PyData.canLay0, lay_ints l]
theorem deep_ints : ∀ l : List Nat, PyData.depthAll (l.map fun n : Nat => PyData.int (n : Int)) = 0
  | [] => by simp [PyData.depthAll]
  | n :: l => by simp [PyData.depthAll, PyData.depth, deep_ints l]
theorem shaped_poly (l : List Nat) : SeqAt.shaped (polyD l) = true := by
  have h1 := lay_ints l
  have h2 := deep_ints l
  unfold SeqAt.shaped polyD
  simp only [PyData.canLay0, PyData.depth, Bool.and_eq_true, decide_eq_true_eq]
  exact ⟨h1, decide_eq_true (by omega)⟩
theorem deq {H : Hp} {a b : Addr} {l m : List Nat} (ha : SqT K H a (nv l)) (hb : SqT K H b (nv m)) {Q : VK} (h : Q (.bl (l == m)) H) : rEqD K (.ref a) (.ref b) H Q :=
  ⟨_, _, dp_poly ha, dp_poly hb, shaped_poly l, shaped_poly m, by rw [eqv_poly]; exact h⟩
theorem dne {H : Hp} {a b : Addr} {l m : List Nat} (ha : SqT K H a (nv l)) (hb : SqT K H b (nv m)) {Q : VK} (h : Q (.bl (!(l == m))) H) : rNeD K (.ref a) (.ref b) H Q :=
  ⟨_, _, dp_poly ha, dp_poly hb, shaped_poly l, shaped_poly m, by rw [eqv_poly]; exact h⟩
theorem beq_nil {l : List Nat} (h : l ≠ []) : (l == []) = false := by
  cases l with
  | nil => exact absurd rfl h
  | cons a r => rfl
def spTimes : Sp := fun vs H Q _ => ∃ (q : Nat) (a b : Addr) (AA BB : List Nat), vs = [vN q, .ref a, .ref b] ∧ q ∈ FQ ∧ FT H a (nv AA) ∧ FT H b (nv BB) ∧ AA ≠ [] ∧ BB ≠ [] ∧ Pol q AA ∧ Pol q BB ∧ AA.length ≤ 2000 ∧ BB.length ≤ 2000 ∧
  ∀ p H2, Same H H2 → FT H2 p (nv (timP (PLUS q) (MUL q) AA BB)) → Q (.ref p) H2
theorem ok_18 (D : Def K mg "times_in" 18 ["q", "a", "b"]) (TS : TabK K mg "SUM_TABLES" PLUS) (TP : TabK K mg "PRODUCT_TABLES" MUL) (ml : mg "len" = none) (me : mg "enumerate" = none) (mz : mg "zip" = none) (mt : mg "tuple" = none) :
    Cal P w K mg base "times_in" ["q", "a", "b"] 1 spTimes := by
  refine D.cal sc18 (fun vs H Q E ⟨q, a, b, A, B, h, _⟩ => by rw [h]; rfl) fun f cdv A outer s H vs Q E hr h => ?_
  obtain ⟨q, a, b, AA, BB, rfl, hq, fa, fb, na, nb, pa, pb, la, lb, k⟩ := h
  obtain ⟨tR, hR, gR⟩ := rest_18 (P := P) (w := w) (mg := mg) (base := base) (E := E) hr TS TP ml me mz mt
  have hcnt : PE (cxOf CX0 P w K mg base N18 "times_in" (defScope (topS 18)) f cdv A outer s H E).nox (.Constant (.int 0) 0 ⟨0, 0, 0, 0⟩) (tC (.int 0)) := pe_int
  refine ⟨_, pss_cons (ps_if (PW.pt (pw_or (pt_cmpR (op_eqD hr.units) (pv 1) (pe_tupF pa_nil) (nomark _)) (pw_or1 (pt_cmpR (op_eqD hr.units) (pv 2) (pe_tupF pa_nil) (nomark _))))) pss_never pss_nil)
    (pss_cons (ps_asg (pe_ifExp (pt_cmpR op_le (pe_op op_sub (pe_callB call_len_seq (by rfl) ml PySem.boot_len (pa_cons (pv 1) pa_nil)) (pe_bmF PySem.F.slot_tuple_count PySem.F.type_tuple_count mt_tcount (pv 1) (pa_cons pe_int pa_nil)))
        (pe_op op_sub (pe_callB call_len_seq (by rfl) ml PySem.boot_len (pa_cons (pv 2) pa_nil)) (pe_bmF PySem.F.slot_tuple_count PySem.F.type_tuple_count mt_tcount (pv 2) (pa_cons pe_int pa_nil))) (nomark _))
      (pe_tup (pa_cons (pv 1) (pa_cons (pv 2) pa_nil))) (pe_tup (pa_cons (pv 2) (pa_cons (pv 1) pa_nil)))) (pg_tup rfl (pgs_cons (pg_name (i := 3) sc18.nd rfl (.inl rfl)) (pgs_cons (pg_name (i := 4) sc18.nd rfl (.inl rfl)) pgs_nil)))) hR), ?_⟩
  refine ⟨.ref a, rfl, Nat.zero_le _, fun e1 H1 s1 fe1 => deq (m := []) (fa.same s1).seq fe1.seq ?_⟩
  refine ⟨_, rfl, ?_⟩
  rw [beq_nil na]
  refine ⟨.ref b, rfl, Nat.zero_le _, fun e2 H2 s2 fe2 => deq (m := []) (fb.same (s1.trans s2)).seq fe2.seq ?_⟩
  refine ⟨_, rfl, ?_⟩
  rw [beq_nil nb]
  have s12 := s1.trans s2
  refine iteF ?_
  refine ⟨.ref a, rfl, a, _, rfl, .inr (fa.same s12).seq, .ref a, rfl, ⟨a, _, rfl, fa.same s12⟩, a, _, 0, rfl, rfl, by rw [← nv_eq]; exact (fa.same s12).seq, _, _, rfl, rfl, ?_⟩
  refine ⟨.ref b, rfl, b, _, rfl, .inr (fb.same s12).seq, .ref b, rfl, ⟨b, _, rfl, fb.same s12⟩, b, _, 0, rfl, rfl, by rw [← nv_eq]; exact (fb.same s12).seq, _, _, rfl, rfl, ?_⟩
  refine ⟨_, _, rfl, rfl, _, rfl, ?_⟩
  have ecount : ∀ l : List Nat, (l.map fun n : Nat => (n : Int)).count 0 = l.count 0 := fun l => by
    induction l with
    | nil => rfl
    | cons x l ih =>
      rw [List.map_cons, List.count_cons, List.count_cons, ih]
      have e : ((x : Int) == 0) = (x == 0) := by
        rw [Bool.eq_iff_iff, beq_iff_eq, beq_iff_eq]
        omega
      rw [e]
  have ca := List.count_le_length (a := 0) (l := AA)
  have cb := List.count_le_length (a := 0) (l := BB)
  have eT : ∀ l m : List Nat, l ≠ [] → m ≠ [] → (l.isEmpty || m.isEmpty) = false := fun l m h1 h2 => by
    cases l with
    | nil => exact absurd rfl h1
    | cons x l =>
      cases m with
      | nil => exact absurd rfl h2
      | cons y m => rfl
  rw [ecount, ecount, nv_len, nv_len]
  refine ite2 (fun c => ?_) (fun c => ?_)
  · have c2 := of_decide_eq_true c
    have c3 : AA.length - AA.count 0 ≤ BB.length - BB.count 0 := by omega
    refine ⟨.ref a, rfl, .ref b, rfl, Nat.le_of_lt (small1000 (by simp)), fun T hT => ?_⟩
    have s3 := s12.trans (same_new (o := .tup [.ref a, .ref b]) hT)
    refine ⟨T, _, rfl, .inl (.inl upd_same), rfl, _, _, rfl, _, _, rfl, rfl, ?_⟩
    refine gR q a b a b AA BB AA BB _ Q _ hq (fa.same s3) (fb.same s3) (fa.same s3) (fb.same s3) na nb pa pb la lb rfl fun p H3 hs hf => k p H3 (s3.trans hs) ?_
    unfold timP
    rw [eT _ _ na nb, if_neg Bool.false_ne_true, if_pos c3]
    exact hf
  · have c2 : ¬ _ := fun z => c (decide_eq_true z)
    have c3 : ¬ AA.length - AA.count 0 ≤ BB.length - BB.count 0 := by omega
    refine ⟨.ref b, rfl, .ref a, rfl, Nat.le_of_lt (small1000 (by simp)), fun T hT => ?_⟩
    have s3 := s12.trans (same_new (o := .tup [.ref b, .ref a]) hT)
    refine ⟨T, _, rfl, .inl (.inl upd_same), rfl, _, _, rfl, _, _, rfl, rfl, ?_⟩
    refine gR q a b b a AA BB BB AA _ Q _ hq (fa.same s3) (fb.same s3) (fb.same s3) (fa.same s3) nb na pb pa lb la (Nat.add_comm _ _) fun p H3 hs hf => k p H3 (s3.trans hs) ?_
    unfold timP
    rw [eT _ _ na nb, if_neg Bool.false_ne_true, if_neg c3]
    exact hf
theorem sc25 : FnScope ["q", "d", "found", "index"] ["q", "d"] (defScope (topS 25)) := ⟨rfl, rfl, rfl, by decide +kernel, rfl, by decide +kernel, by decide +kernel⟩
/-- what a pair of a field and a degree is to keep -/
def Okd (q d : Nat) : Prop := q ∈ FQ ∧ d ≤ 10 ∧ d * q ^ d ≤ 700
theorem Okd.pow {q d : Nat} (h : Okd q d) : q ^ d ≤ 700 := by
  obtain ⟨hq, h1, h2⟩ := h
  cases d with
  | zero => simp
  | succ d =>
    have : 1 * q ^ (d + 1) ≤ (d + 1) * q ^ (d + 1) := Nat.mul_le_mul_right _ (by omega)
    omega
theorem Okd.le {q d : Nat} (h : Okd q d) {j : Nat} (hj : j ≤ d) : q ^ j ≤ 700 := Nat.le_trans (Nat.pow_le_pow_right (by have := fq_pos h.1; omega) hj) h.pow
def spAll (F : Nat → Nat → List Nat) : Sp := fun vs H Q _ => ∃ q d : Nat, vs = [vN q, vN d] ∧ Okd q d ∧ ∀ p H2, Same H H2 → FT H2 p (nv (F q d)) → Q (.ref p) H2
theorem ok_25 (D : Def K mg "all_product_in" 25 ["q", "d"]) (C18 : Cal P w K mg base "times_in" ["q", "a", "b"] 1 spTimes) (C19 : Cal P w K mg base "root_power_in" ["q", "a", "steps"] 2 spRoot) (C24 : Cal P w K mg base "bracket_in" ["q", "index"] 2 spBrk) (mr : mg "range" = none) :
    Cal P w K mg base "all_product_in" ["q", "d"] 3 (spAll fun q d => allA q d d) := by
  refine D.cal sc25 (fun vs H Q E ⟨q, d, h, _⟩ => by rw [h]; rfl) fun f cdv A outer s H vs Q E hr h => ?_
  obtain ⟨q, d, rfl, ok, k⟩ := h
  have hq := ok.1
  have hq2 := fq_pos hq
  refine ⟨_, pss_cons (ps_set (i := 2) sc25.nd rfl (.inl rfl) (pe_tupF (pa_cons pe_int pa_nil)))
    (pss_cons (ps_for PassesOwn.never rfl (pi_range2 (by rfl) mr (pa_cons pe_int (pa_cons (pe_op op_add (pv 1) pe_int) pa_nil))) (pg_name (i := 3) sc25.nd rfl (.inl rfl))
      (pss_one (ps_set (i := 2) sc25.nd rfl (.inl rfl) (pe_cal C18 (hr.mono (by decide)) (pa_cons (pv 0) (pa_cons (pv 2) (pa_cons
        (pe_cal C19 hr (pa_cons (pv 0) (pa_cons (pe_cal C24 hr (pa_cons (pv 0) (pa_cons (pv 3) pa_nil))) (pa_cons (pe_op op_sub (pv 1) (pv 3)) pa_nil)))) pa_nil)))))))
    (pss_one (ps_ret (pv 2)))), ?_⟩
  refine ⟨Nat.le_of_lt (small1000 (by decide)), fun p0 H0 s0 f0 => ?_⟩
  have hd := ok.2.1
  refine ⟨vN d, rfl, (d : Int), 1, rfl, rfl, 1, (d : Int) + 1, rfl, by omega, ?_⟩
  have en : ((d : Int) + 1 - 1).toNat = d := by omega
  rw [en]
  refine for_range (lo := 1) (n := d) (fun i σ H1 => ∃ p y, σ = [some (vN q), some (vN d), some (.ref p), y] ∧ Same H H1 ∧ FT H1 p (nv (allA q d i))) ⟨p0, none, rfl, s0, f0⟩ ?_ ?_
  · rintro i σ H1 hi ⟨p, y, rfl, sm, fp⟩
    have ei : V.int (1 + (i : Int)) = vN (i + 1) := by
      show V.int _ = V.int _
      congr 1
      omega
    rw [ei]
    refine ⟨vN q, rfl, .ref p, rfl, vN q, rfl, vN q, rfl, vN (i + 1), rfl, q, i + 1, rfl, hq, by omega, by omega, Nat.le_trans (ok.le (by omega)) (by omega), fun p1 H2 s1 f1 => ?_⟩
    have es : ((d : Int) - ((i + 1 : Nat) : Int)) = ((d - (i + 1) : Nat) : Int) := by omega
    refine ⟨vN d, rfl, vN (i + 1), rfl, (d : Int), ((i + 1 : Nat) : Int), rfl, rfl, q, d - (i + 1), p1, brkP q (i + 1), ?_, hq, by omega, f1, by rw [brkP_len hq (by omega)]; omega, ?_, Nat.le_trans (ok.le (by omega)) (by omega), fun p2 H3 s2 f2 => ?_⟩
    · exact congrArg (fun z => [vN q, V.ref p1, V.int z]) es
    · rw [brkP_len hq (by omega), Nat.add_sub_cancel, ← Nat.pow_add, Nat.sub_add_cancel (by omega)]
      have := ok.pow
      omega
    refine ⟨q, p, p2, allA q d i, _, rfl, hq, (fp.same s1).same s2, f2, ?_, rootP_ne _ _, allA_pol hq i, rootP_pol (by omega) (brkP_pol hq _) _, ?_, ?_, fun p3 H4 s3 f3 => ?_⟩
    · exact ne_of_len (by rw [allA_len hq i (by omega)]; omega)
    · rw [allA_len hq i (by omega)]
      have h1 : i * q ^ d ≤ d * q ^ d := Nat.mul_le_mul_right _ (by omega)
      have := ok.2.2
      omega
    · rw [rootP_len, brkP_len hq (by omega), Nat.add_sub_cancel, ← Nat.pow_add, Nat.sub_add_cancel (by omega)]
      have := ok.pow
      omega
    · exact ⟨p3, _, rfl, ((sm.trans s1).trans s2).trans s3, f3⟩
  · rintro σ H1 ⟨p, y, rfl, sm, fp⟩
    exact ⟨.ref p, rfl, k p H1 sm fp⟩
theorem sc26 : FnScope ["q", "d", "found", "index"] ["q", "d"] (defScope (topS 26)) := ⟨rfl, rfl, rfl, by decide +kernel, rfl, by decide +kernel, by decide +kernel⟩
theorem ok_26 (D : Def K mg "least_multiple_in" 26 ["q", "d"]) (C18 : Cal P w K mg base "times_in" ["q", "a", "b"] 1 spTimes) (C24 : Cal P w K mg base "bracket_in" ["q", "index"] 2 spBrk) (mr : mg "range" = none) :
    Cal P w K mg base "least_multiple_in" ["q", "d"] 3 (spAll fun q d => lcmA q d) := by
  refine D.cal sc26 (fun vs H Q E ⟨q, d, h, _⟩ => by rw [h]; rfl) fun f cdv A outer s H vs Q E hr h => ?_
  obtain ⟨q, d, rfl, ok, k⟩ := h
  have hq := ok.1
  have hq2 := fq_pos hq
  refine ⟨_, pss_cons (ps_set (i := 2) sc26.nd rfl (.inl rfl) (pe_tupF (pa_cons pe_int pa_nil)))
    (pss_cons (ps_for PassesOwn.never rfl (pi_range2 (by rfl) mr (pa_cons pe_int (pa_cons (pe_op op_add (pv 1) pe_int) pa_nil))) (pg_name (i := 3) sc26.nd rfl (.inl rfl))
      (pss_one (ps_set (i := 2) sc26.nd rfl (.inl rfl) (pe_cal C18 (hr.mono (by decide)) (pa_cons (pv 0) (pa_cons (pv 2) (pa_cons
        (pe_cal C24 hr (pa_cons (pv 0) (pa_cons (pv 3) pa_nil))) pa_nil)))))))
    (pss_one (ps_ret (pv 2)))), ?_⟩
  refine ⟨Nat.le_of_lt (small1000 (by decide)), fun p0 H0 s0 f0 => ?_⟩
  have hd := ok.2.1
  refine ⟨vN d, rfl, (d : Int), 1, rfl, rfl, 1, (d : Int) + 1, rfl, by omega, ?_⟩
  have en : ((d : Int) + 1 - 1).toNat = d := by omega
  rw [en]
  refine for_range (lo := 1) (n := d) (fun i σ H1 => ∃ p y, σ = [some (vN q), some (vN d), some (.ref p), y] ∧ Same H H1 ∧ FT H1 p (nv (lcmA q i))) ⟨p0, none, rfl, s0, f0⟩ ?_ ?_
  · rintro i σ H1 hi ⟨p, y, rfl, sm, fp⟩
    have ei : V.int (1 + (i : Int)) = vN (i + 1) := by
      show V.int _ = V.int _
      congr 1
      omega
    rw [ei]
    have hl := lcmA_len hq i
    refine ⟨vN q, rfl, .ref p, rfl, vN q, rfl, vN (i + 1), rfl, q, i + 1, rfl, hq, by omega, by omega, Nat.le_trans (ok.le (by omega)) (by omega), fun p1 H2 s1 f1 => ?_⟩
    refine ⟨q, p, p1, lcmA q i, _, rfl, hq, fp.same s1, f1, ne_of_len (by omega), brkP_ne _ _, lcmA_pol hq i, brkP_pol hq _, ?_, ?_, fun p3 H4 s3 f3 => ?_⟩
    · have h1 : i * q ^ i ≤ d * q ^ d := Nat.mul_le_mul (by omega) (Nat.pow_le_pow_right (by omega) (by omega))
      have := ok.2.2
      omega
    · rw [brkP_len hq (by omega)]
      have := ok.le (j := i + 1) (by omega)
      omega
    · exact ⟨p3, _, rfl, (sm.trans s1).trans s3, f3⟩
  · rintro σ H1 ⟨p, y, rfl, sm, fp⟩
    exact ⟨.ref p, rfl, k p H1 sm fp⟩
theorem sc28 : FnScope ["q", "d"] ["q", "d"] (defScope (topS 28)) := ⟨rfl, rfl, rfl, by decide +kernel, rfl, by decide +kernel, by decide +kernel⟩
theorem ok_28 (D : Def K mg "all_product" 28 ["q", "d"]) (C14 : Cal P w K mg base "require_field" ["q"] 3 spReqF) (C22 : Cal P w K mg base "require_degree" ["d"] 3 spReqD) (C27 : Cal P w K mg base "require_made_degree" ["degree"] 1 spReqM) (C11 : Cal P w K mg base "integer_power" ["base", "count"] 1 spPow)
    (C25 : Cal P w K mg base "all_product_in" ["q", "d"] 3 (spAll fun q d => allA q d d)) : Cal P w K mg base "all_product" ["q", "d"] 4 (spAll fun q d => allA q d d) := by
  refine D.cal sc28 (fun vs H Q E ⟨q, d, h, _⟩ => by rw [h]; rfl) fun f cdv A outer s H vs Q E hr h => ?_
  obtain ⟨q, d, rfl, ok, k⟩ := h
  have hq := ok.1
  have hq2 := fq_pos hq
  have hd := ok.2.1
  refine ⟨_, pss_cons (ps_expr (pe_cal C14 hr (pa_cons (pv 0) pa_nil))) (pss_cons (ps_expr (pe_cal C22 hr (pa_cons (pv 1) pa_nil)))
    (pss_cons (ps_expr (pe_cal C27 (hr.mono (by decide)) (pa_cons (pe_op op_mul (pv 1) (pe_cal C11 (hr.mono (by decide)) (pa_cons (pv 0) (pa_cons (pv 1) pa_nil)))) pa_nil)))
    (pss_one (ps_ret (pe_cal C25 hr (pa_cons (pv 0) (pa_cons (pv 1) pa_nil))))))), ?_⟩
  refine ⟨vN q, rfl, q, rfl, hq, vN d, rfl, d, rfl, by omega, vN d, rfl, vN q, rfl, vN d, rfl, q, d, rfl, by omega, by omega, (d : Int), ((q ^ d : Nat) : Int), rfl, rfl, .inl ⟨by omega, by omega⟩, _, rfl, ?_, ?_⟩
  · rw [← Int.natCast_mul]
    have := ok.2.2
    omega
  · exact ⟨vN q, rfl, vN d, rfl, q, d, rfl, ok, k⟩
theorem sum_pows {q d : Nat} (hq : 0 < q) : ∀ i, i ≤ d → (((List.range i).map fun j => ((q ^ (j + 1) : Nat) : Int)).sum) ≤ ((i * q ^ d : Nat) : Int)
  | 0, _ => by simp
  | i + 1, h => by
    have ih := sum_pows (q := q) (d := d) hq i (by omega)
    have h2 : q ^ (i + 1) ≤ q ^ d := Nat.pow_le_pow_right hq h
    rw [List.range_succ, List.map_append, List.sum_append, Nat.succ_mul]
    simp only [List.map_cons, List.map_nil, List.sum_cons, List.sum_nil]
    omega
theorem sc29 : FnScope ["q", "d", "index"] ["q", "d"] (defScope (topS 29)) := ⟨rfl, rfl, rfl, by decide +kernel, rfl, by decide +kernel, by decide +kernel⟩
theorem ok_29 (D : Def K mg "least_multiple" 29 ["q", "d"]) (C14 : Cal P w K mg base "require_field" ["q"] 3 spReqF) (C22 : Cal P w K mg base "require_degree" ["d"] 3 spReqD) (C27 : Cal P w K mg base "require_made_degree" ["degree"] 1 spReqM) (C11 : Cal P w K mg base "integer_power" ["base", "count"] 1 spPow)
    (C26 : Cal P w K mg base "least_multiple_in" ["q", "d"] 3 (spAll fun q d => lcmA q d)) (mr : mg "range" = none) (ms : mg "sum" = none) : Cal P w K mg base "least_multiple" ["q", "d"] 4 (spAll fun q d => lcmA q d) := by
  refine D.cal sc29 (fun vs H Q E ⟨q, d, h, _⟩ => by rw [h]; rfl) fun f cdv A outer s H vs Q E hr h => ?_
  obtain ⟨q, d, rfl, ok, k⟩ := h
  have hq := ok.1
  have hq2 := fq_pos hq
  have hd := ok.2.1
  refine ⟨_, pss_cons (ps_expr (pe_cal C14 hr (pa_cons (pv 0) pa_nil))) (pss_cons (ps_expr (pe_cal C22 hr (pa_cons (pv 1) pa_nil)))
    (pss_cons (ps_expr (pe_cal C27 (hr.mono (by decide)) (pa_cons (pe_callB (cr_sum rfl) (by rfl) ms PyProof.Rows.boot_sum (pa_cons
      (pe_lc (own := [("index", 2)]) (g := gName 2) (tt := tYes) rfl sc29.nd
        (pi_range2 (by rfl) mr (pa_cons pe_int (pa_cons (pe_op op_add (pv 1) pe_int) pa_nil)))
        (blkOk_by (N := ["q", "d", "index"]) (own := [("index", 2)]) (sc := defScope (topS 29)) (by decide +kernel)) (fun _ _ _ _ _ => pg_name (i := 2) sc29.nd rfl (.inl rfl)) (fun _ _ _ _ _ => pts_nil)
        (fun _ _ _ _ _ => pe_cal C11 (hr.mono (by decide)) (pa_cons (pv 0) (pa_cons (pv 2) pa_nil)))) pa_nil)) pa_nil)))
    (pss_one (ps_ret (pe_cal C26 hr (pa_cons (pv 0) (pa_cons (pv 1) pa_nil))))))), ?_⟩
  refine ⟨vN q, rfl, q, rfl, hq, vN d, rfl, d, rfl, by omega, ?_⟩
  refine ⟨vN d, rfl, (d : Int), 1, rfl, rfl, 1, (d : Int) + 1, rfl, by omega, ?_⟩
  have en : ((d : Int) + 1 - 1).toNat = d := by omega
  rw [en]
  intro Dl hD
  refine lc_range (lo := 1) (n := d) (fun i H1 => Same H H1 ∧ H1 Dl = some (.lst (((List.range i).map fun j => ((q ^ (j + 1) : Nat) : Int)).map V.int))) ⟨same_new hD, upd_same⟩ ?_ ?_
  · rintro i H1 hi ⟨s1, d1⟩
    have ei : V.int (1 + (i : Int)) = vN (i + 1) := by
      show V.int _ = V.int _
      congr 1
      omega
    rw [ei]
    refine ⟨rfl, vN q, rfl, vN (i + 1), rfl, q, i + 1, rfl, by omega, by omega, _, d1, ?_, same_up s1 hD, ?_⟩
    · rw [List.length_map, List.length_map, List.length_range]
      exact small1000 (by omega)
    · rw [upd_same, List.range_succ, List.map_append, List.map_append]
      rfl
  · rintro H1 ⟨s1, d1⟩
    refine ⟨Dl, _, rfl, SqL.of d1, _, rfl, ?_, ?_⟩
    · have h1 := sum_pows (q := q) (d := d) (by omega) d (Nat.le_refl _)
      have := ok.2.2
      omega
    · exact ⟨vN q, rfl, vN d, rfl, q, d, rfl, ok, fun p H2 s2 f2 => k p H2 (s1.trans s2) f2⟩
end
end K13
/-! the law's dice -/
namespace K13
open PySem PySem.Spec PyProof.Rows L2
/-- a dice: three ints -/
def DiceAt (H : Hp) (a : Addr) : Prop := ∃ l m c : Int, H a = some (.lst [.int l, .int m, .int c])
/-- all but a is as it was -/
def But (a : Addr) (H H2 : Hp) : Prop := ∀ b o, b ≠ a → H b = some o → H2 b = some o
theorem But.refl (a : Addr) (H : Hp) : But a H H := fun _ _ _ h => h
theorem But.trans {a : Addr} {H H1 H2 : Hp} (x : But a H H1) (y : But a H1 H2) : But a H H2 := fun b o hb h => y b o hb (x b o hb h)
theorem but_same {a : Addr} {H H1 : Hp} (x : Same H H1) : But a H H1 := fun b o _ h => x b o h
theorem but_upd {a : Addr} {H : Hp} {o : HO} : But a H (upd H a o) := fun b u hb h => by rw [upd_ne hb]; exact h
section
variable {P : Program} {w : World} {K : PySem.W.Frag} {mg : Str → Option Value} {base : Heap}
theorem sc31 : FnScope ["_law_script", "_law_at", "_law_cell", "_law_great", "_law_left", "_law_mixed"] ["_law_script", "_law_at"] (defScope (topS 31)) := ⟨rfl, rfl, rfl, by decide +kernel, rfl, by decide +kernel, by decide +kernel⟩
def spDice (K : PySem.W.Frag) : Sp := fun vs H Q _ => ∃ (a : Addr) (ns : List Int) (i : Nat), vs = [.ref a, vN i] ∧ SqL K H a (ns.map V.int) ∧ i ≤ 1000 ∧ ∀ p H2, Same H H2 → H p = none → DiceAt H2 p → Q (.ref p) H2
theorem ok_31 (D : Def K mg "_law_dice" 31 ["_law_script", "_law_at"]) (ml : mg "len" = none) (mi : mg "int" = none) (ma : mg "abs" = none) : Cal P w K mg base "_law_dice" ["_law_script", "_law_at"] 1 (spDice K) := by
  refine D.cal sc31 (fun vs H Q E ⟨a, ns, i, h, _⟩ => by rw [h]; rfl) fun f cdv A outer s H vs Q E hr h => ?_
  obtain ⟨a, ns, i, rfl, hS, hi, k⟩ := h
  have hR : ∃ t, PSs (cxOf CX0 P w K mg base ["_law_script", "_law_at", "_law_cell", "_law_great", "_law_left", "_law_mixed"] "_law_dice" (defScope (topS 31)) f cdv A outer s H E).nox ((defBody (topS 31)).drop 2) t ∧
      ∀ c : Int, t { nx := fun _ H2 => Q .non H2, rt := Q } [some (.ref a), some (vN i), some (.int c), none, none, none] H := by
    refine ⟨_, pss_cons (ps_set (i := 3) sc31.nd rfl (.inl rfl) (pe_op op_modN (pe_callTy call_int1 (by rfl) mi PyProof.Rows.boot_int (pa_cons (pe_callB call_abs (by rfl) ma PyProof.Rows.boot_abs (pa_cons (pv 2) pa_nil)) pa_nil))
        (pe_op op_powW (pe_op op_powW pe_int pe_int) pe_int)))
      (pss_cons (ps_set (i := 4) sc31.nd rfl (.inl rfl) (pe_op op_fdivW (pv 3) (pe_op op_powW pe_int pe_int)))
      (pss_cons (ps_set (i := 5) sc31.nd rfl (.inl rfl) (pe_op op_add (pe_op op_add (pe_op op_add (pe_op op_mul (pe_op op_mod (pv 3) pe_int) pe_int) (pe_op op_mul pe_int (pv 1)))
          (pe_op op_mul pe_int (pe_callTy call_int1 (by rfl) mi PyProof.Rows.boot_int (pa_cons (pe_cmpR op_lt (pv 2) pe_int (nomark _)) pa_nil)))) pe_int))
      (pss_one (ps_ret (pe_lst (pa_cons (pv 4) (pa_cons (pe_op op_mod (pv 5) pe_int) (pa_cons pe_int pa_nil)))))))), ?_⟩
    intro c
    refine ⟨.int c, rfl, c, rfl, .inl ⟨_, rfl, 10, 60, rfl, rfl, ⟨by decide, by decide +kernel⟩, _, _, rfl, rfl, ⟨by decide, by decide +kernel⟩, _, _, rfl, rfl, (show (((10 : Int) ^ Int.toNat 60) ^ Int.toNat 10) ≠ 0 by decide +kernel), ?_⟩⟩
    refine ⟨_, rfl, 10, 18, rfl, rfl, ⟨by decide, by decide +kernel⟩, _, _, rfl, rfl, ⟨by decide +kernel, by decide +kernel⟩, ?_⟩
    refine ⟨_, rfl, _, _, rfl, rfl, (show (0 : Int) < 2147482661 by decide), _, _, rfl, rfl, .inr (by decide), vN i, rfl, _, _, rfl, rfl, .inl (by decide), _, _, rfl, rfl, ?_⟩
    refine ⟨.int c, rfl, c, 0, rfl, rfl, .inr ⟨_, rfl, _, _, rfl, rfl, .inl (by decide), _, _, rfl, rfl, _, _, rfl, rfl, ?_⟩⟩
    refine ⟨_, rfl, _, rfl, _, _, rfl, rfl, (show (0 : Int) < 2147482591 by decide), Nat.le_of_lt (small1000 (show 3 ≤ 1000 by decide)), fun p hp => ?_⟩
    exact k p _ (same_new hp) hp ⟨_, _, _, upd_same⟩
  obtain ⟨tR, hR, gR⟩ := hR
  refine ⟨_, pss_cons (ps_set (i := 2) sc31.nd rfl (.inl rfl) (pe_op op_add (pe_op op_mul pe_int (pv 1)) pe_int))
    (pss_cons (ps_if (pt_cmpR op_lt (pv 1) (pe_callB call_len_seq (by rfl) ml PySem.boot_len (pa_cons (pv 0) pa_nil)) (nomark _))
      (pss_one (ps_set (i := 2) sc31.nd rfl (.inl rfl) (pe_ix ix_list (pv 0) (pv 1) (fun _ _ => rfl)))) pss_nil) hR), ?_⟩
  refine ⟨vN i, rfl, 103, (i : Int), rfl, rfl, .inl (by decide), _, _, rfl, rfl, ?_⟩
  refine ⟨vN i, rfl, .ref a, rfl, a, _, rfl, .inl hS, _, _, rfl, rfl, _, rfl, ite2 (fun e => ?_) (fun e => gR _)⟩
  have e2 := of_decide_eq_true e
  rw [List.length_map] at e2
  have e3 : i < ns.length := by omega
  exact ⟨.ref a, rfl, vN i, rfl, a, _, (i : Int), .int ns[i], rfl, rfl, hS, atI_nat (by rw [List.getElem?_map, List.getElem?_eq_getElem e3]; rfl), gR _⟩
theorem sc32 : FnScope ["_law_dice_here", "_law_total", "_law_size_here", "_law_drawn", "_law_one", "_law_two"] ["_law_dice_here", "_law_total"] (defScope (topS 32)) := ⟨rfl, rfl, rfl, by decide +kernel, rfl, by decide +kernel, by decide +kernel⟩
def spRoll : Sp := fun vs H Q _ => ∃ (a : Addr) (n : Nat), vs = [.ref a, vN n] ∧ DiceAt H a ∧ 0 < n ∧ n < 1000 ∧ ∀ r H2, r < n → But a H H2 → DiceAt H2 a → Q (vN r) H2
theorem rest_lt {x : Int} {n : Nat} (h : 0 < n) : ∃ r : Nat, r < n ∧ x % (n : Int) = (r : Int) := by
  have h1 := Int.emod_nonneg x (show (n : Int) ≠ 0 by omega)
  have h2 := Int.emod_lt_of_pos x (show (0 : Int) < n by omega)
  exact ⟨(x % (n : Int)).toNat, by omega, by omega⟩
theorem ok_32 (D : Def K mg "_law_roll" 32 ["_law_dice_here", "_law_total"]) (mi : mg "int" = none) : Cal P w K mg base "_law_roll" ["_law_dice_here", "_law_total"] 1 spRoll := by
  refine D.cal sc32 (fun vs H Q E ⟨a, n, h, _⟩ => by rw [h]; rfl) fun f cdv A outer s H vs Q E hr h => ?_
  obtain ⟨a, n, rfl, ⟨l, m, c, hd⟩, hn, hn2, k⟩ := h
  refine ⟨_, pss_cons (ps_set (i := 2) sc32.nd rfl (.inl rfl) (pe_callTy call_int1 (by rfl) mi PyProof.Rows.boot_int (pa_cons (pv 1) pa_nil)))
    (pss_cons (ps_if (pt_cmpR op_gt (pe_ix ix_list (pv 0) pe_int (fun _ _ => rfl)) pe_int (nomark _))
      (pss_cons (ps_set (i := 3) sc32.nd rfl (.inl rfl) (pe_op op_mod (pe_ix ix_list (pv 0) pe_int (fun _ _ => rfl)) (pv 2)))
      (pss_cons (ps_asg (pe_op op_fdivW (pe_ix ix_list (pv 0) pe_int (fun _ _ => rfl)) (pv 2)) (pg_sub (pv 0) pe_int set_list))
      (pss_one (ps_ret (pe_callTy call_int1 (by rfl) mi PyProof.Rows.boot_int (pa_cons (pv 3) pa_nil)))))) pss_nil)
    (pss_cons (ps_asg (pe_op op_add (pe_ix ix_list (pv 0) pe_int (fun _ _ => rfl)) pe_int) (pg_sub (pv 0) pe_int set_list))
    (pss_cons (ps_set (i := 4) sc32.nd rfl (.inl rfl) (pe_op op_mod (pe_op op_add (pe_ix ix_list (pv 0) pe_int (fun _ _ => rfl)) (pe_op op_mul pe_int (pe_ix ix_list (pv 0) pe_int (fun _ _ => rfl)))) pe_int))
    (pss_cons (ps_set (i := 5) sc32.nd rfl (.inl rfl) (pe_op op_add (pe_op op_mul (pe_op op_mod (pe_op op_mul (pv 4) (pv 4)) pe_int) (pv 4)) (pe_op op_mul pe_int (pe_ix ix_list (pv 0) pe_int (fun _ _ => rfl)))))
    (pss_cons (ps_set (i := 5) sc32.nd rfl (.inl rfl) (pe_op op_mod (pv 5) pe_int))
    (pss_one (ps_ret (pe_callTy call_int1 (by rfl) mi PyProof.Rows.boot_int (pa_cons (pe_op op_mod (pe_op op_fdivW (pv 5) pe_int) (pv 2)) pa_nil))))))))), ?_⟩
  have i0 : ∀ x y z : V, atI [x, y, z] 0 = some x := fun _ _ _ => rfl
  have i1 : ∀ x y z : V, atI [x, y, z] 1 = some y := fun _ _ _ => rfl
  have i2 : ∀ x y z : V, atI [x, y, z] 2 = some z := fun _ _ _ => rfl
  have hdiv : CDivW 0 (n : Int) := ⟨by omega, by
    have h1 : ((n : Int)).natAbs = n := Int.natAbs_natCast n
    rw [h1]
    have h2 : n.log2 ≤ n := Nat.log2_le_self n
    omega⟩
  refine ⟨vN n, rfl, .inl ⟨_, rfl, .ref a, rfl, a, _, 0, _, rfl, rfl, SqL.of hd, i0 _ _ _, l, 0, rfl, rfl, _, rfl, ite2 (fun e => ?_) (fun e => ?_)⟩⟩
  · obtain ⟨r, hrn, er⟩ := rest_lt (x := l) hn
    refine ⟨.ref a, rfl, a, _, 0, _, rfl, rfl, SqL.of hd, i0 _ _ _, vN n, rfl, l, (n : Int), rfl, rfl, by omega, ?_⟩
    refine ⟨.ref a, rfl, a, _, 0, _, rfl, rfl, SqL.of hd, i0 _ _ _, vN n, rfl, l, (n : Int), rfl, rfl, hdiv, .ref a, rfl, a, _, 0, 0, rfl, rfl, hd, rfl, ?_⟩
    refine ⟨_, rfl, .inl ⟨_, rfl, ?_⟩⟩
    show Q (.int (l % (n : Int))) _
    rw [er]
    exact k r _ hrn but_upd ⟨_, _, _, upd_same⟩
  · refine ⟨.ref a, rfl, a, _, 2, _, rfl, rfl, SqL.of hd, i2 _ _ _, c, 1, rfl, rfl, .ref a, rfl, a, _, 2, 2, rfl, rfl, hd, rfl, ?_⟩
    have hd2 : upd H a (.lst [.int l, .int m, .int (c + 1)]) a = some (.lst [.int l, .int m, .int (c + 1)]) := upd_same
    refine ⟨.ref a, rfl, a, _, 1, _, rfl, rfl, SqL.of hd2, i1 _ _ _, .ref a, rfl, a, _, 2, _, rfl, rfl, SqL.of hd2, i2 _ _ _, _, _, rfl, rfl, .inl (by decide), _, _, rfl, rfl, _, _, rfl, rfl, (show (0 : Int) < 2305843009213693951 by decide), ?_⟩
    generalize hone : ((m + 1000427 * (c + 1)) % 2305843009213693951) = one
    have ho1 : 0 ≤ one := by rw [← hone]; exact Int.emod_nonneg _ (by decide)
    have ho2 : one < 2305843009213693951 := by rw [← hone]; exact Int.emod_lt_of_pos _ (by decide)
    refine ⟨_, rfl, _, rfl, _, _, rfl, rfl, .inl ?_, _, _, rfl, rfl, (show (0 : Int) < 2305843009213693921 by decide), _, rfl, _, _, rfl, rfl, .inr ?_, .ref a, rfl, a, _, 2, _, rfl, rfl, SqL.of hd2, i2 _ _ _, _, _, rfl, rfl, .inl (by decide), _, _, rfl, rfl, ?_⟩
    · show -(2 ^ 64) < ((m + 1000427 * (c + 1)) % 2305843009213693951) ∧ _ < _
      rw [hone]
      omega
    · show -(2 ^ 64) < ((m + 1000427 * (c + 1)) % 2305843009213693951) ∧ _ < _
      rw [hone]
      omega
    refine ⟨_, rfl, _, _, rfl, rfl, (show (0 : Int) < 2305843009213693907 by decide), ?_⟩
    refine ⟨_, rfl, _, _, rfl, rfl, ⟨by decide, by decide +kernel⟩, vN n, rfl, _, (n : Int), rfl, rfl, by omega, .inl ⟨_, rfl, ?_⟩⟩
    show Q (.int (_ % (n : Int))) _
    obtain ⟨r, hrn, er⟩ := rest_lt (x := _) hn
    rw [er]
    exact k r _ hrn but_upd ⟨_, _, _, hd2⟩
theorem but_tup {a x : Addr} {H H2 : Hp} {xs : List V} (b : But a H H2) (d : DiceAt H a) (h : SqT K H x xs) : SqT K H2 x xs := by
  obtain ⟨l, m, c, d⟩ := d
  rcases h with (h | ⟨o, h⟩) | h
  · exact .inl (.inl (b _ _ (ne_of h d (fun z => by cases z)) h))
  · exact .inl (.inr ⟨o, b _ _ (ne_of h d (fun z => by cases z)) h⟩)
  · exact .inr h
theorem sc33 : FnScope ["_law_dice_here", "_law_items"] ["_law_dice_here", "_law_items"] (defScope (topS 33)) := ⟨rfl, rfl, rfl, by decide +kernel, rfl, by decide +kernel, by decide +kernel⟩
def spOneOf : Sp := fun vs H Q _ => ∃ (a b : Addr) (xs : List V), vs = [.ref a, .ref b] ∧ DiceAt H a ∧ H b = some (.lst xs) ∧ b ≠ a ∧ 0 < xs.length ∧ xs.length < 1000 ∧ ∀ x H2, x ∈ xs → But a H H2 → DiceAt H2 a → Q x H2
theorem ok_33 (D : Def K mg "_law_one_of" 33 ["_law_dice_here", "_law_items"]) (C32 : Cal P w K mg base "_law_roll" ["_law_dice_here", "_law_total"] 1 spRoll) (ml : mg "len" = none) : Cal P w K mg base "_law_one_of" ["_law_dice_here", "_law_items"] 2 spOneOf := by
  refine D.cal sc33 (fun vs H Q E ⟨a, b, n, h, _⟩ => by rw [h]; rfl) fun f cdv A outer s H vs Q E hr h => ?_
  obtain ⟨a, b, xs, rfl, hd, hb, hne, h0, h1, k⟩ := h
  refine ⟨_, pss_one (ps_ret (pe_ix ix_list (pv 1) (pe_cal C32 hr (pa_cons (pv 0) (pa_cons (pe_callB call_len_seq (by rfl) ml PySem.boot_len (pa_cons (pv 1) pa_nil)) pa_nil))) (fun _ _ => rfl))), ?_⟩
  refine ⟨.ref b, rfl, .ref a, rfl, .ref b, rfl, b, xs, rfl, .inl (SqL.of hb), a, xs.length, rfl, hd, h0, h1, fun r H2 hr2 hbut hd2 => ?_⟩
  exact ⟨b, xs, (r : Int), xs[r], rfl, rfl, SqL.of (hbut _ _ hne hb), atI_nat (List.getElem?_eq_getElem hr2), k _ _ (List.getElem_mem hr2) hbut hd2⟩
theorem sc49 : FnScope ["_law_dice_here"] ["_law_dice_here"] (defScope (topS 49)) := ⟨rfl, rfl, rfl, by decide +kernel, rfl, by decide +kernel, by decide +kernel⟩
def spQ : Sp := fun vs H Q _ => ∃ a : Addr, vs = [.ref a] ∧ DiceAt H a ∧ ∀ (q : Nat) H2, q ∈ FQ → But a H H2 → DiceAt H2 a → Q (vN q) H2
theorem ok_49 (D : Def K mg "_law_q" 49 ["_law_dice_here"]) (C33 : Cal P w K mg base "_law_one_of" ["_law_dice_here", "_law_items"] 2 spOneOf) : Cal P w K mg base "_law_q" ["_law_dice_here"] 3 spQ := by
  refine D.cal sc49 (fun vs H Q E ⟨a, h, _⟩ => by rw [h]; rfl) fun f cdv A outer s H vs Q E hr h => ?_
  obtain ⟨a, rfl, hd, k⟩ := h
  refine ⟨_, pss_one (ps_ret (pe_cal C33 hr (pa_cons (pv 0) (pa_cons (pe_lst (pa_cons pe_int (pa_cons pe_int (pa_cons pe_int (pa_cons pe_int (pa_cons pe_int (pa_cons pe_int (pa_cons pe_int (pa_cons pe_int (pa_cons pe_int pa_nil)))))))))) pa_nil)))), ?_⟩
  refine ⟨.ref a, rfl, Nat.le_of_lt (small1000 (by decide)), fun l hl => ?_⟩
  have s1 := same_new (o := .lst (nv [2, 2, 3, 3, 4, 5, 7, 8, 9])) hl
  obtain ⟨x, y, z, hd'⟩ := hd
  refine ⟨a, l, nv [2, 2, 3, 3, 4, 5, 7, 8, 9], rfl, ⟨x, y, z, s1 _ _ hd'⟩, upd_same, (ne_of_none hd' hl).symm, by decide, by decide, fun v H2 hv hb hd2 => ?_⟩
  obtain ⟨q, hq, rfl⟩ := List.mem_map.mp hv
  refine k q H2 ?_ ((but_same s1).trans hb) hd2
  have zz : ∀ q ∈ [2, 2, 3, 3, 4, 5, 7, 8, 9], q ∈ FQ := by decide
  exact zz q hq
/-! ### digits -/
theorem sc35 : FnScope ["_law_base", "_law_number", "_law_found", "_law_left"] ["_law_base", "_law_number"] (defScope (topS 35)) := ⟨rfl, rfl, rfl, by decide +kernel, rfl, by decide +kernel, by decide +kernel⟩
/-- a new list of naturals comes back -/
def NewL (H : Hp) (Q : VK) (l : List Nat) : Prop := ∀ p H2, Same H H2 → H p = none → H2 p = some (.lst (nv l)) → Q (.ref p) H2
def spDigs : Sp := fun vs H Q _ => ∃ b n : Nat, vs = [vN b, vN n] ∧ 2 ≤ b ∧ b < 1000 ∧ n ≤ 10000 ∧ NewL H Q (digs b n)
theorem ok_35 (D : Def K mg "_law_digits" 35 ["_law_base", "_law_number"]) : Cal P w K mg base "_law_digits" ["_law_base", "_law_number"] 1 spDigs := by
  refine D.cal sc35 (fun vs H Q E ⟨a, n, h, _⟩ => by rw [h]; rfl) fun f cdv A outer s H vs Q E hr h => ?_
  obtain ⟨b, n, rfl, hb, hb2, hn, k⟩ := h
  refine ⟨_, pss_cons (ps_par (i := 2) (j := 3) (by rfl) sc35.nd rfl rfl (by decide) rfl rfl (pa_cons (pe_lst pa_nil) (pa_cons (pv 1) pa_nil)) (by rfl))
    (pss_cons (ps_while PassesOwn.never (pt_cmpR op_gt (pv 3) pe_int (nomark _))
      (pss_cons (ps_expr (pe_bm PySem.F.plainAttrs_list PySem.F.slot_list_append PySem.F.type_list_append mt_append (pv 2) (pa_cons (pe_op op_mod (pv 3) (pv 0)) pa_nil)))
      (pss_one (ps_set (i := 3) sc35.nd rfl (.inl rfl) (pe_op op_fdiv (pv 3) (pv 0))))))
    (pss_one (ps_ret (pv 2)))), ?_⟩
  refine ⟨Nat.zero_le _, fun p hp => ?_⟩
  have s1 := same_new (o := .lst []) hp
  refine ⟨vN n, rfl, _, _, rfl, ?_⟩
  refine ⟨fun m σ H1 => ∃ acc : List Nat, σ = [some (vN b), some (vN n), some (.ref p), some (vN m)] ∧ Same H H1 ∧ H1 p = some (.lst (nv acc)) ∧ acc ++ digs b m = digs b n ∧ acc.length + m ≤ 10000, ⟨n, [], rfl, s1, upd_same, rfl, by simpa using hn⟩, ?_⟩
  rintro m σ H1 ⟨acc, rfl, sm, hl, hacc, hz⟩
  refine ⟨vN m, rfl, (m : Int), 0, rfl, rfl, _, rfl, ite2 (fun e => ?_) (fun e => ?_)⟩
  · have hm : 0 < m := by have := of_decide_eq_true e; omega
    have hlt : m / b < m := Nat.div_lt_self hm hb
    refine ⟨fun σ' H' => ∃ acc : List Nat, σ' = [some (vN b), some (vN n), some (.ref p), some (vN (m / b))] ∧ Same H H' ∧ H' p = some (.lst (nv acc)) ∧ acc ++ digs b (m / b) = digs b n ∧ acc.length + m / b ≤ 10000, fun σ' H' hN => ⟨m / b, hlt, hN⟩, ?_⟩
    refine ⟨.ref p, rfl, .inl ⟨rfl, _, SqL.of hl⟩, vN m, rfl, vN b, rfl, (m : Int), (b : Int), rfl, rfl, by omega, p, _, _, rfl, rfl, hl, ?_, ?_⟩
    · rw [nv_len]
      exact Nat.lt_of_lt_of_le (Nat.lt_succ_self _) (line_le (by omega))
    · refine ⟨vN m, rfl, vN b, rfl, (m : Int), (b : Int), rfl, rfl, ⟨by omega, by omega⟩, acc ++ [m % b], rfl, same_up sm hp, ?_, ?_, ?_⟩
      · rw [upd_same, nv_app]
        rfl
      · rw [← hacc, digs_pos hm hb, List.append_assoc]
        rfl
      · rw [List.length_append, List.length_singleton]
        omega
  · have hm : m = 0 := by
      have h1 : ¬ (0 < m) := fun z => e (decide_eq_true (show (0 : Int) < (m : Int) by omega))
      omega
    subst hm
    rw [digs_zero, List.append_nil] at hacc
    subst hacc
    exact ⟨.ref p, rfl, k p H1 sm hp hl⟩
/-! ### elements -/
theorem sc37 : FnScope ["_law_p", "_law_f", "_law_one", "_law_other", "_law_found", "_law_place", "_law_turn"] ["_law_p", "_law_f", "_law_one", "_law_other"] (defScope (topS 37)) := ⟨rfl, rfl, rfl, by decide +kernel, rfl, by decide +kernel, by decide +kernel⟩
def spElt (F : Nat → Nat → Nat → List (List Nat)) : Sp := fun vs H Q _ => ∃ q a b : Nat, vs = [vN (PR q), vN (FR q), vN a, vN b] ∧ q ∈ FQ ∧ a < q ∧ b < q ∧ ∀ H2, Same H H2 → Q (vN (pl (F q 0 0) a b)) H2
theorem ok_37 (D : Def K mg "_law_element_sum" 37 ["_law_p", "_law_f", "_law_one", "_law_other"]) (mr : mg "range" = none) : Cal P w K mg base "_law_element_sum" ["_law_p", "_law_f", "_law_one", "_law_other"] 1 (spElt fun q _ _ => PLUS q) := by
  refine D.cal sc37 (fun vs H Q E ⟨a, n, _, h, _⟩ => by rw [h]; rfl) fun f cdv A outer s H vs Q E hr h => ?_
  obtain ⟨q, a, b, rfl, hq, ha, hb, k⟩ := h
  obtain ⟨hp, hf⟩ := pf_small q hq
  refine ⟨_, pss_cons (ps_asg (pe_tup (pa_cons pe_int (pa_cons pe_int pa_nil))) (pg_tup rfl (pgs_cons (pg_name (i := 4) sc37.nd rfl (.inl rfl)) (pgs_cons (pg_name (i := 5) sc37.nd rfl (.inl rfl)) pgs_nil))))
    (pss_cons (ps_for PassesOwn.never rfl (pi_range1 rfl mr (pa_cons (pv 1) pa_nil)) (pg_name (i := 6) sc37.nd rfl (.inl rfl))
      (pss_cons (ps_set (i := 4) sc37.nd rfl (.inl rfl) (pe_op op_add (pv 4) (pe_op op_mul (pe_op op_mod (pe_op op_add (pe_op op_fdiv (pv 2) (pv 5)) (pe_op op_fdiv (pv 3) (pv 5))) (pv 0)) (pv 5))))
      (pss_one (ps_set (i := 5) sc37.nd rfl (.inl rfl) (pe_op op_mul (pv 5) (pv 0))))))
    (pss_one (ps_ret (pv 4)))), ?_⟩
  refine ⟨Nat.le_of_lt (small1000 (by decide)), fun T hT => ?_⟩
  have s1 := same_new (o := .tup [.int 0, .int 1]) hT
  refine ⟨T, _, rfl, .inl (.inl upd_same), rfl, _, _, rfl, _, _, rfl, rfl, ?_⟩
  refine ⟨vN (FR q), rfl, _, rfl, by omega, by omega, ?_⟩
  refine for_range (lo := 0) (n := ((FR q : Nat) : Int).toNat) (fun i σ H1 => ∃ y, σ = [some (vN (PR q)), some (vN (FR q)), some (vN a), some (vN b), some (vN (esF (PR q) a b i)), some (vN (PR q ^ i)), y] ∧ H1 = upd H T (.tup [.int 0, .int 1])) ⟨none, rfl, rfl⟩ ?_ ?_
  · rintro i σ H1 hi ⟨y, rfl, rfl⟩
    rw [Int.toNat_natCast] at hi
    have hpl : 0 < PR q ^ i := Nat.pow_pos (by omega)
    have hpu : PR q ^ i ≤ 1000 := by
      have h1 : PR q ^ i ≤ 9 ^ i := Nat.pow_le_pow_left (by omega) i
      have h2 : 9 ^ i ≤ 9 ^ 3 := Nat.pow_le_pow_right (by decide) (by omega)
      have h3 : (9 : Nat) ^ 3 = 729 := by decide
      omega
    refine ⟨vN (esF (PR q) a b i), rfl, vN a, rfl, vN (PR q ^ i), rfl, _, _, rfl, rfl, ⟨by omega, by omega⟩, vN b, rfl, vN (PR q ^ i), rfl, _, _, rfl, rfl, ⟨by omega, by omega⟩, _, _, rfl, rfl, vN (PR q), rfl, _, _, rfl, rfl, by omega, vN (PR q ^ i), rfl, _, _, rfl, rfl, .inr ⟨by omega, by omega⟩, _, _, rfl, rfl, ?_⟩
    refine ⟨vN (PR q ^ i), rfl, vN (PR q), rfl, _, _, rfl, rfl, .inr ⟨by omega, by omega⟩, some (.int (0 + (i : Int))), rfl, rfl⟩
  · rintro σ H1 ⟨y, rfl, rfl⟩
    rw [Int.toNat_natCast]
    refine ⟨_, rfl, ?_⟩
    rw [es_plus q hq a ha b hb]
    exact k _ s1
theorem ixN_of {n k : Nat} {z : Int} (e : z = (k : Int)) (h : k < n) : ixN n z = some k := by
  unfold ixN
  rw [e, if_pos (by omega), if_pos (by omega), Int.toNat_natCast]
theorem nv_set (l : List Nat) (i x : Nat) : (nv l).set i (vN x) = nv (l.set i x) := by unfold nv; rw [List.map_set]
theorem nv_getD {l : List Nat} {i : Nat} (h : i < l.length) : (nv l)[i]? = some (vN (l.getD i 0)) := nv_get (by
  rw [List.getD_eq_getElem?_getD, List.getElem?_eq_getElem h]
  rfl)
abbrev N36 : List Str := ["_law_p", "_law_f", "_law_one", "_law_other", "_law_found", "_law_i", "_law_left", "_law_j", "_law_right_here", "_law_value", "_law_digit"]
theorem sc36 : FnScope N36 ["_law_p", "_law_f", "_law_one", "_law_other"] (defScope (topS 36)) := ⟨rfl, rfl, rfl, by decide +kernel, rfl, by decide +kernel, by decide +kernel⟩
theorem ok_36 (D : Def K mg "_law_element_product" 36 ["_law_p", "_law_f", "_law_one", "_law_other"]) (C35 : Cal P w K mg base "_law_digits" ["_law_base", "_law_number"] 1 spDigs) (mr : mg "range" = none) (me : mg "enumerate" = none) :
    Cal P w K mg base "_law_element_product" ["_law_p", "_law_f", "_law_one", "_law_other"] 2 (spElt fun q _ _ => MUL q) := by
  refine D.cal sc36 (fun vs H Q E ⟨a, n, _, h, _⟩ => by rw [h]; rfl) fun f cdv A outer s H vs Q E hr h => ?_
  obtain ⟨q, a, b, rfl, hq, ha, hb, k⟩ := h
  obtain ⟨hp, hf⟩ := pf_small q hq
  have hq2 := fq_pos hq
  have la := digs_len q hq a ha
  have lb := digs_len q hq b hb
  have pa' : Pol (PR q) (digs (PR q) a) := digF_pol _ (by omega) _ _
  have em := ep_mul q hq a ha b hb
  generalize ep : PR q = p at hp la lb pa' em
  generalize ef : FR q = ff at hf la lb em
  refine ⟨_, pss_cons (ps_set (i := 4) sc36.nd rfl (.inl rfl) (pe_op op_rep (pe_lst (pa_cons pe_int pa_nil)) (pe_op op_mul pe_int (pv 1))))
    (pss_cons (ps_for PassesOwn.never rfl (pi_enum rfl me (pa_cons (pe_cal C35 hr (pa_cons (pv 0) (pa_cons (pv 2) pa_nil))) pa_nil)) (pg_tup rfl (pgs_cons (pg_name (i := 5) sc36.nd rfl (.inl rfl)) (pgs_cons (pg_name (i := 6) sc36.nd rfl (.inl rfl)) pgs_nil)))
      (pss_one (ps_for PassesOwn.never rfl (pi_enum rfl me (pa_cons (pe_cal C35 hr (pa_cons (pv 0) (pa_cons (pv 3) pa_nil))) pa_nil)) (pg_tup rfl (pgs_cons (pg_name (i := 7) sc36.nd rfl (.inl rfl)) (pgs_cons (pg_name (i := 8) sc36.nd rfl (.inl rfl)) pgs_nil)))
        (pss_one (ps_asg (pe_op op_mod (pe_op op_add (pe_ix ix_list (pv 4) (pe_op op_add (pv 5) (pv 7)) (fun _ _ => rfl)) (pe_op op_mul (pv 6) (pv 8))) (pv 0)) (pg_sub (pv 4) (pe_op op_add (pv 5) (pv 7)) set_list))))))
    (pss_cons (ps_for PassesOwn.never rfl (pi_range3 rfl mr (pa_cons (pe_op op_sub (pe_op op_mul pe_int (pv 1)) pe_int) (pa_cons (pe_op op_sub (pv 1) pe_int) (pa_cons (pe_un un_neg pe_int) pa_nil)))) (pg_name (i := 5) sc36.nd rfl (.inl rfl))
      (pss_one (ps_if (pt_cmpR op_gt (pv 1) pe_int (nomark _))
        (pss_cons (ps_asg (pe_op op_mod (pe_op op_add (pe_ix ix_list (pv 4) (pe_op op_sub (pv 5) (pv 1)) (fun _ _ => rfl)) (pe_ix ix_list (pv 4) (pv 5) (fun _ _ => rfl))) (pv 0)) (pg_sub (pv 4) (pe_op op_sub (pv 5) (pv 1)) set_list))
        (pss_cons (ps_asg (pe_op op_mod (pe_op op_add (pe_ix ix_list (pv 4) (pe_op op_add (pe_op op_sub (pv 5) (pv 1)) pe_int) (fun _ _ => rfl)) (pe_ix ix_list (pv 4) (pv 5) (fun _ _ => rfl))) (pv 0)) (pg_sub (pv 4) (pe_op op_add (pe_op op_sub (pv 5) (pv 1)) pe_int) set_list))
        (pss_one (ps_asg pe_int (pg_sub (pv 4) (pv 5) set_list))))) pss_nil)))
    (pss_cons (ps_set (i := 9) sc36.nd rfl (.inl rfl) pe_int)
    (pss_cons (ps_for PassesOwn.never rfl (pi_list (pe_revL (pe_slice sl_list (pv 4) po_none (po_some (pv 1))))) (pg_name (i := 10) sc36.nd rfl (.inl rfl))
      (pss_one (ps_set (i := 9) sc36.nd rfl (.inl rfl) (pe_op op_add (pe_op op_mul (pv 9) (pv 0)) (pv 10)))))
    (pss_one (ps_ret (pv 9))))))), ?_⟩
  -- found = [0] * (2 * f)
  refine ⟨Nat.le_of_lt (small1000 (by decide)), fun l hl => ?_⟩
  have s1 := same_new (o := .lst [V.int 0]) hl
  refine ⟨vN ff, rfl, 2, (ff : Int), rfl, rfl, .inl (by decide), l, _, _, rfl, rfl, upd_same, by omega, by omega, ?_, fun pf hpf => ?_⟩
  · show 1 * _ ≤ _
    rw [Nat.one_mul]
    exact line_le (by omega)
  have e2f : (2 * (ff : Int)).toNat = 2 * ff := by omega
  rw [e2f, nv_rep]
  have hpf0 : H pf = none := s1.free hpf
  have s2 := s1.trans (same_new (o := .lst (nv (List.replicate (2 * ff) 0))) hpf)
  -- the outer loop
  refine ⟨vN p, rfl, vN a, rfl, p, a, rfl, by omega, by omega, by omega, fun d1 H2 s3 n3 e3 => ?_⟩
  have e4 := s3 _ _ (upd_same (H := upd H l (.lst [V.int 0])) (a := pf) (o := .lst (nv (List.replicate (2 * ff) 0))))
  have hne1 : pf ≠ d1 := fun z => by rw [← z, upd_same] at n3; cases n3
  refine ⟨d1, _, rfl, SqL.of e3, ?_⟩
  refine for_it (walk_enum (K := K) (a := d1) (xs := nv (digs p a))) (fun i σ H' => ∃ y5 y6 y7 y8, σ = [some (vN p), some (vN ff), some (vN a), some (vN b), some (.ref pf), y5, y6, y7, y8, none, none] ∧ Same H H' ∧ H' d1 = some (.lst (nv (digs p a))) ∧
      H' pf = some (.lst (nv (epOut p (digs p b) 0 (List.replicate (2 * ff) 0) ((digs p a).take i)))))
    ⟨none, none, none, none, rfl, s2.trans s3, e3, e4⟩ (fun i σ H' _ ⟨_, _, _, _, _, _, g, _⟩ => SqL.of g) ?_ ?_
  · rintro i v σ H3 H4 hi ⟨y5, y6, y7, y8, rfl, sm, g1, g2⟩ ⟨T2, x1, x2, rfl, nT, rfl, f1, f2⟩
    rw [nv_len] at hi
    have e1 : x1 = .int (i : Nat) := (Option.some.inj f1).symm
    have e2 : x2 = vN (digs p a)[i] := Option.some.inj (f2.symm.trans (nv_get (List.getElem?_eq_getElem hi)))
    subst e1 e2
    have hdi : (digs p a)[i] < p := pa' _ (List.getElem_mem hi)
    generalize hF : epOut p (digs p b) 0 (List.replicate (2 * ff) 0) ((digs p a).take i) = F at g2
    have Fl : F.length = 2 * ff := by rw [← hF, epOut_len, List.length_replicate]
    have etk : epOut p (digs p b) 0 (List.replicate (2 * ff) 0) ((digs p a).take (i + 1)) = epIn p (digs p a)[i] i F (digs p b) := by
      rw [List.take_add_one, List.getElem?_eq_getElem hi]
      show epOut p (digs p b) 0 _ ((digs p a).take i ++ [(digs p a)[i]]) = _
      rw [epOut_snoc, hF, List.length_take, Nat.min_eq_left (by omega), Nat.zero_add]
    have smT := sm.trans (same_new (o := .tup [.int (i : Nat), vN (digs p a)[i]]) nT)
    have g1T := (same_new (o := .tup [.int (i : Nat), vN (digs p a)[i]]) nT) _ _ g1
    have g2T := (same_new (o := .tup [.int (i : Nat), vN (digs p a)[i]]) nT) _ _ g2
    refine ⟨T2, [.int (i : Nat), vN (digs p a)[i]], rfl, .inl (.inl upd_same), rfl, _, _, rfl, _, _, rfl, rfl, ?_⟩
    -- the inner loop
    refine ⟨vN p, rfl, vN b, rfl, p, b, rfl, by omega, by omega, by omega, fun d2 H5 s5 n5 e5 => ?_⟩
    have hne2 : pf ≠ d2 := ne_of_none g2T n5
    have hne3 : d1 ≠ d2 := ne_of_none g1T n5
    refine ⟨d2, _, rfl, SqL.of e5, ?_⟩
    refine for_it (walk_enum (K := K) (a := d2) (xs := nv (digs p b))) (fun j σ H' => ∃ y7 y8, σ = [some (vN p), some (vN ff), some (vN a), some (vN b), some (.ref pf), some (vN i), some (vN (digs p a)[i]), y7, y8, none, none] ∧ Same H H' ∧ H' d1 = some (.lst (nv (digs p a))) ∧ H' d2 = some (.lst (nv (digs p b))) ∧
        H' pf = some (.lst (nv (epIn p (digs p a)[i] i F ((digs p b).take j)))))
      ⟨y7, y8, rfl, smT.trans s5, s5 _ _ g1T, e5, s5 _ _ g2T⟩ (fun i σ H' _ ⟨_, _, _, _, _, g, _⟩ => SqL.of g) ?_ ?_
    · rintro j v σ H6 H7 hj ⟨y7, y8, rfl, sm6, h1, h2, h3⟩ ⟨T3, z1, z2, rfl, nT3, rfl, k1, k2⟩
      rw [nv_len] at hj
      have e1 : z1 = .int (j : Nat) := (Option.some.inj k1).symm
      have e2 : z2 = vN (digs p b)[j] := Option.some.inj (k2.symm.trans (nv_get (List.getElem?_eq_getElem hj)))
      subst e1 e2
      generalize hG : epIn p (digs p a)[i] i F ((digs p b).take j) = G at h3
      have Gl : G.length = 2 * ff := by rw [← hG, epIn_len, Fl]
      have etj : epIn p (digs p a)[i] i F ((digs p b).take (j + 1)) = G.set (i + j) ((G.getD (i + j) 0 + (digs p a)[i] * (digs p b)[j]) % p) := by
        rw [List.take_add_one, List.getElem?_eq_getElem hj]
        show epIn p (digs p a)[i] i F ((digs p b).take j ++ [(digs p b)[j]]) = _
        rw [epIn_snoc, hG, List.length_take, Nat.min_eq_left (by omega)]
      have s7 := same_new (o := .tup [.int (j : Nat), vN (digs p b)[j]]) nT3
      have hij : i + j < G.length := by omega
      refine ⟨T3, [.int (j : Nat), vN (digs p b)[j]], rfl, .inl (.inl upd_same), rfl, _, _, rfl, _, _, rfl, rfl, ?_⟩
      refine ⟨.ref pf, rfl, vN i, rfl, vN j, rfl, (i : Int), (j : Int), rfl, rfl, pf, _, _, vN (G.getD (i + j) 0), rfl, rfl, SqL.of (s7 _ _ h3), at_of (j := i + j) rfl (nv_getD hij), vN (digs p a)[i], rfl, vN (digs p b)[j], rfl, _, _, rfl, rfl, .inl ⟨by omega, by omega⟩, _, _, rfl, rfl, vN p, rfl, _, _, rfl, rfl, by omega, ?_⟩
      refine ⟨.ref pf, rfl, vN i, rfl, vN j, rfl, (i : Int), (j : Int), rfl, rfl, pf, _, _, i + j, rfl, rfl, s7 _ _ h3, ixN_of rfl (by rw [nv_len]; exact hij), ?_⟩
      refine ⟨_, _, rfl, same_up (sm6.trans s7) hpf0, ?_, ?_, ?_⟩
      · rw [upd_ne hne1.symm]
        exact s7 _ _ h1
      · rw [upd_ne hne2.symm]
        exact s7 _ _ h2
      · rw [upd_same, etj]
        exact congrArg (fun z => some (HO.lst z)) (nv_set G (i + j) ((G.getD (i + j) 0 + (digs p a)[i] * (digs p b)[j]) % p))
    · rintro σ H6 ⟨y7, y8, rfl, sm6, h1, h2, h3⟩
      rw [nv_len, List.take_length] at h3
      exact ⟨_, _, _, _, rfl, sm6, h1, by rw [etk]; exact h3⟩
  · rintro σ H3 ⟨y5, y6, y7, y8, rfl, sm, g1, g2⟩
    rw [nv_len, List.take_length] at g2
    generalize hF : epOut p (digs p b) 0 (List.replicate (2 * ff) 0) (digs p a) = F at g2
    have Fl : F.length = 2 * ff := by rw [← hF, epOut_len, List.length_replicate]
    -- the reduction
    refine ⟨vN ff, rfl, 2, (ff : Int), rfl, rfl, .inl (by decide), _, 1, rfl, rfl, vN ff, rfl, (ff : Int), 1, rfl, rfl, 1, rfl, 2 * (ff : Int) - 1, (ff : Int) - 1, -1, ff, rfl, ?_, ?_⟩
    · have z := RgC.neg (i := 2 * (ff : Int) - 1) (j := (ff : Int) - 1) (by omega) (by omega) (by omega) (by omega)
      rw [show ((2 * (ff : Int) - 1) - ((ff : Int) - 1)).toNat = ff by omega] at z
      exact z
    refine for_rangeC (fun t σ H' => ∃ y5 y6 y7 y8, σ = [some (vN p), some (vN ff), some (vN a), some (vN b), some (.ref pf), y5, y6, y7, y8, none, none] ∧ Same H H' ∧ H' pf = some (.lst (nv (epRed p ff F t))))
      ⟨y5, y6, y7, y8, rfl, sm, g2⟩ ?_ ?_
    · rintro t σ H4 ht ⟨y5, y6, y7, y8, rfl, sm4, h4⟩
      have ei : V.int (2 * (ff : Int) - 1 + (t : Int) * -1) = vN (2 * ff - 1 - t) := by
        show V.int _ = V.int _
        congr 1
        omega
      rw [ei]
      generalize hi' : 2 * ff - 1 - t = i at *
      generalize hG : epRed p ff F t = G at h4
      have Gl : G.length = 2 * ff := by rw [← hG, epRed_len, Fl]
      have er : epRed p ff F (t + 1) = redOne p ff i G := by
        show redOne p ff (2 * ff - 1 - t) (epRed p ff F t) = _
        rw [hi', hG]
      refine ⟨vN ff, rfl, (ff : Int), 1, rfl, rfl, _, rfl, ite2 (fun c => ?_) (fun c => ?_)⟩
      · have hf1 : 1 < ff := by have := of_decide_eq_true c; omega
        have k0 : (i : Int) - (ff : Int) = ((i - ff : Nat) : Int) := by omega
        have k1 : (i : Int) - (ff : Int) + 1 = ((i - ff + 1 : Nat) : Int) := by omega
        unfold redOne at er
        rw [if_pos hf1] at er
        refine ⟨.ref pf, rfl, vN i, rfl, vN ff, rfl, _, _, rfl, rfl, pf, _, _, vN (G.getD (i - ff) 0), rfl, rfl, SqL.of h4, at_of k0 (nv_getD (by omega)), .ref pf, rfl, vN i, rfl, pf, _, (i : Int), vN (G.getD i 0), rfl, rfl, SqL.of h4, at_of rfl (nv_getD (by omega)), _, _, rfl, rfl, vN p, rfl, _, _, rfl, rfl, by omega, ?_⟩
        refine ⟨.ref pf, rfl, vN i, rfl, vN ff, rfl, _, _, rfl, rfl, pf, _, _, i - ff, rfl, rfl, h4, ixN_of k0 (by rw [nv_len]; omega), ?_⟩
        have eset1 : (nv G).set (i - ff) (V.int (((G.getD (i - ff) 0 : Nat) : Int) + ((G.getD i 0 : Nat) : Int)) ) = nv (G.set (i - ff) (G.getD (i - ff) 0 + G.getD i 0)) := nv_set _ _ _
        have h5 : (upd H4 pf (.lst ((nv G).set (i - ff) (vN ((G.getD (i - ff) 0 + G.getD i 0) % p))))) pf = some (.lst (nv (G.set (i - ff) ((G.getD (i - ff) 0 + G.getD i 0) % p)))) := upd_same.trans (congrArg (fun z => some (HO.lst z)) (nv_set _ _ _))
        generalize hG2 : G.set (i - ff) ((G.getD (i - ff) 0 + G.getD i 0) % p) = G2 at h5 er
        have G2l : G2.length = 2 * ff := by rw [← hG2, List.length_set, Gl]
        refine ⟨.ref pf, rfl, vN i, rfl, vN ff, rfl, _, _, rfl, rfl, _, _, rfl, rfl, pf, _, _, vN (G2.getD (i - ff + 1) 0), rfl, rfl, SqL.of h5, at_of k1 (nv_getD (by omega)), .ref pf, rfl, vN i, rfl, pf, _, (i : Int), vN (G2.getD i 0), rfl, rfl, SqL.of h5, at_of rfl (nv_getD (by omega)), _, _, rfl, rfl, vN p, rfl, _, _, rfl, rfl, by omega, ?_⟩
        refine ⟨.ref pf, rfl, vN i, rfl, vN ff, rfl, _, _, rfl, rfl, _, _, rfl, rfl, pf, _, _, i - ff + 1, rfl, rfl, h5, ixN_of k1 (by rw [nv_len]; omega), ?_⟩
        refine ⟨.ref pf, rfl, vN i, rfl, pf, _, (i : Int), i, rfl, rfl, upd_same, ixN_of rfl (by rw [List.length_set, nv_len]; omega), ?_⟩
        refine ⟨_, _, _, _, rfl, same_up (same_up (same_up sm4 hpf0) hpf0) hpf0, ?_⟩
        rw [upd_same, er]
        refine congrArg (fun z => some (HO.lst z)) ?_
        refine (congrArg (fun z => List.set z i (V.int 0)) (nv_set G2 (i - ff + 1) ((G2.getD (i - ff + 1) 0 + G2.getD i 0) % p))).trans ?_
        exact nv_set _ i 0
      · have hf1 : ¬ 1 < ff := fun z => c (decide_eq_true (show (1 : Int) < (ff : Int) by omega))
        unfold redOne at er
        rw [if_neg hf1] at er
        exact ⟨_, _, _, _, rfl, sm4, by rw [er]; exact h4⟩
    · rintro σ H4 ⟨y5, y6, y7, y8, rfl, sm4, h4⟩
      generalize hG : epRed p ff F ff = G at h4
      have Gl : G.length = 2 * ff := by rw [← hG, epRed_len, Fl]
      -- the value
      refine ⟨.ref pf, rfl, vN ff, rfl, (ff : Int), rfl, pf, _, rfl, SqL.of h4, fun c1 hc1 => ?_⟩
      rw [cut_to (by omega)]
      refine ⟨c1, _, rfl, SqL.of upd_same, fun c2 hc2 => ?_⟩
      have s5 := (same_new (o := .lst (nv (G.take ff))) hc1).trans (same_new (o := .lst (nv (G.take ff)).reverse) hc2)
      have erev : (nv (G.take ff)).reverse = nv (G.take ff).reverse := by unfold nv; rw [List.map_reverse]
      rw [erev] at s5 ⊢
      refine ⟨c2, rfl, ⟨_, SqL.of upd_same⟩, ?_⟩
      refine for_list (xs := nv (G.take ff).reverse) (fun i σ H' => ∃ y5 y6 y7 y8 y10, σ = [some (vN p), some (vN ff), some (vN a), some (vN b), some (.ref pf), y5, y6, y7, y8, some (vN (((G.take ff).reverse.take i).foldl (fun v d => v * p + d) 0)), y10] ∧ H' = upd (upd H4 c1 (.lst (nv (G.take ff)))) c2 (.lst (nv (G.take ff).reverse)))
        ⟨_, _, _, _, _, rfl, rfl⟩ (fun i σ H' _ ⟨_, _, _, _, _, _, e⟩ => by rw [e]; exact SqL.of upd_same) ?_ ?_
      · rintro i x σ H5 hx ⟨y5, y6, y7, y8, y10, rfl, rfl⟩
        have hi : i < (G.take ff).reverse.length := by
          have := (List.getElem?_eq_some_iff.mp hx).1
          rwa [nv_len] at this
        have ex : x = vN (G.take ff).reverse[i] := Option.some.inj (hx.symm.trans (nv_get (List.getElem?_eq_getElem hi)))
        subst ex
        refine ⟨_, rfl, vN p, rfl, _, _, rfl, rfl, .inr ⟨by omega, by omega⟩, vN (G.take ff).reverse[i], rfl, _, _, rfl, rfl, ?_⟩
        refine ⟨y5, y6, y7, y8, some (vN (G.take ff).reverse[i]), ?_, rfl⟩
        rw [List.take_add_one, List.getElem?_eq_getElem hi, List.foldl_append]
        rfl
      · rintro σ H5 ⟨y5, y6, y7, y8, y10, rfl, rfl⟩
        rw [nv_len, List.take_length]
        refine ⟨_, rfl, ?_⟩
        have ee : (G.take ff).reverse.foldl (fun v d => v * p + d) 0 = pl (MUL q) a b := by
          rw [← em]
          unfold epF
          rw [hF, hG]
        rw [ee]
        exact k _ (sm4.trans s5)
end
end K13
/-! the law's field -/
namespace K13
open PySem PySem.Spec PyProof.Rows L2
/-- a list of lists of naturals -/
structure RowsAt (Z : Addr → Prop) (H : Hp) (a : Addr) (rows : List (List Nat)) : Prop where
  ex : ∃ rs : List Addr, H a = some (.lst (rs.map V.ref)) ∧ rs.length = rows.length ∧ Z a ∧ ∀ (i : Nat) (r : Addr) (row : List Nat), rs[i]? = some r → rows[i]? = some row → H r = some (.lst (nv row)) ∧ Z r
def fkv (q : Nat) (a3 a4 a5 : Addr) : List (Key × V) :=
  [(.inr "q", vN q), (.inr "p", vN (PR q)), (.inr "f", vN (FR q)), (.inr "plus", .ref a3), (.inr "mul", .ref a4), (.inr "minus", .ref a5)]
/-- the law's field with q elements -/
structure FieldAt (Z : Addr → Prop) (H : Hp) (p : Addr) (q : Nat) : Prop where
  ex : ∃ a3 a4 a5, H p = some (.dK (fkv q a3 a4 a5)) ∧ Z p ∧ RowsAt Z H a3 (PLUS q) ∧ RowsAt Z H a4 (MUL q) ∧ H a5 = some (.lst (nv (MINUS q))) ∧ Z a5
theorem fkv_q {q : Nat} {a b c : Addr} : valV (fkv q a b c) (.inr "q") = some (vN q) := by with_unfolding_all rfl
theorem fkv_plus {q : Nat} {a b c : Addr} : valV (fkv q a b c) (.inr "plus") = some (.ref a) := by with_unfolding_all rfl
theorem fkv_mul {q : Nat} {a b c : Addr} : valV (fkv q a b c) (.inr "mul") = some (.ref b) := by with_unfolding_all rfl
theorem fkv_minus {q : Nat} {a b c : Addr} : valV (fkv q a b c) (.inr "minus") = some (.ref c) := by with_unfolding_all rfl
theorem RowsAt.mono {Z Z' : Addr → Prop} {H H2 : Hp} {a : Addr} {rows : List (List Nat)} (h : RowsAt Z H a rows) (f : ∀ b o, Z b → H b = some o → H2 b = some o) (g : ∀ b, Z b → Z' b) : RowsAt Z' H2 a rows := by
  obtain ⟨rs, h1, h2, h3, h4⟩ := h.ex
  exact ⟨rs, f _ _ h3 h1, h2, g _ h3, fun i r row e1 e2 => ⟨f _ _ (h4 i r row e1 e2).2 (h4 i r row e1 e2).1, g _ (h4 i r row e1 e2).2⟩⟩
theorem FieldAt.mono {Z Z' : Addr → Prop} {H H2 : Hp} {p : Addr} {q : Nat} (h : FieldAt Z H p q) (f : ∀ b o, Z b → H b = some o → H2 b = some o) (g : ∀ b, Z b → Z' b) : FieldAt Z' H2 p q := by
  obtain ⟨a3, a4, a5, h1, h2, h3, h4, h5, h6⟩ := h.ex
  exact ⟨a3, a4, a5, f _ _ h2 h1, g _ h2, h3.mono f g, h4.mono f g, f _ _ h6 h5, g _ h6⟩
theorem FieldAt.same {Z : Addr → Prop} {H H2 : Hp} {p : Addr} {q : Nat} (h : FieldAt Z H p q) (s : Same H H2) : FieldAt Z H2 p q := h.mono (fun b o _ e => s b o e) fun _ z => z
theorem tab_row {q : Nat} {T : List (List Nat)} (t : Tab q T) {i : Nat} (h : i < q) : T[i]? = some ((List.range q).map (pl T i)) := by
  have h1 : i < T.length := by rw [t.1]; exact h
  rw [List.getElem?_eq_getElem h1]
  congr 1
  apply List.ext_getElem?
  intro j
  by_cases hj : j < q
  · obtain ⟨r, e1, e2, _⟩ := t.at h hj
    rw [List.getElem?_eq_getElem h1] at e1
    cases e1
    rw [e2, List.getElem?_map, List.getElem?_range hj]
    rfl
  · have hr := (t.2 T[i] (List.getElem_mem h1)).1
    rw [List.getElem?_eq_none (by omega), List.getElem?_eq_none (by rw [List.length_map, List.length_range]; omega)]
section
variable {P : Program} {w : World} {K : PySem.W.Frag} {mg : Str → Option Value} {base : Heap}
/-- [[f(p, f, one, other) for other in range(q)] for one in range(q)] -/
theorem nest_tab {T : Nat → List (List Nat)} {q : Nat} {y3 y4 : Option V} {H : Hp} {Q : VK} (hq : q ∈ FQ) (t : Tab q (T q))
    (k : ∀ p H2, Same H H2 → RowsAt (fun b => H b = none) H2 p (T q) → Q (.ref p) H2) :
    tLc (iRng1 (tCons (tVar 0) tNil)) (gName 5) tYes (tLc (iRng1 (tCons (tVar 0) tNil)) (gName 6) tYes (tCall (spElt fun q _ _ => T q) [] E0 (tCons (tVar 1) (tCons (tVar 2) (tCons (tVar 5) (tCons (tVar 6) tNil))))) [6]) [5]
      [some (vN q), some (vN (PR q)), some (vN (FR q)), y3, y4, none, none, none] H Q := by
  have hq2 := fq_pos hq
  refine ⟨vN q, rfl, (q : Int), rfl, by omega, by omega, fun Dl hD => ?_⟩
  rw [Int.toNat_natCast]
  refine lc_range (lo := 0) (n := q) (fun i H1 => Same H H1 ∧ ∃ rs : List Addr, rs.length = i ∧ H1 Dl = some (.lst (rs.map V.ref)) ∧ ∀ (j : Nat) (r : Addr), rs[j]? = some r → H r = none ∧ r ≠ Dl ∧ H1 r = some (.lst (nv ((List.range q).map (pl (T q) j)))))
    ⟨same_new hD, [], rfl, upd_same, fun j r e => by simp at e⟩ ?_ ?_
  · rintro i H1 hi ⟨s1, rs, hl, hd1, hrs⟩
    refine ⟨rfl, vN q, rfl, (q : Int), rfl, by omega, by omega, fun D2 hD2 => ?_⟩
    rw [Int.toNat_natCast]
    have nD : Dl ≠ D2 := ne_of_none hd1 hD2
    refine lc_range (lo := 0) (n := q) (fun j H2 => Same H1 H2 ∧ H2 D2 = some (.lst (nv ((List.range j).map (pl (T q) i))))) ⟨same_new hD2, upd_same⟩ ?_ ?_
    · rintro j H2 hj ⟨s2, hd2⟩
      have ei : ∀ n : Nat, V.int (0 + (n : Int)) = vN n := fun n => by rw [Int.zero_add]
      rw [ei i, ei j]
      refine ⟨rfl, vN (PR q), rfl, vN (FR q), rfl, vN i, rfl, vN j, rfl, q, i, j, rfl, hq, hi, hj, fun H3 s3 => ?_⟩
      refine ⟨_, s3 _ _ hd2, ?_, same_up (s2.trans s3) hD2, ?_⟩
      · rw [nv_len, List.length_map, List.length_range]
        exact small1000 (by omega)
      · rw [upd_same, List.range_succ, List.map_append, nv_app]
        rfl
    · rintro H2 ⟨s2, hd2⟩
      have hD20 : H D2 = none := s1.free hD2
      refine ⟨_, s2 _ _ hd1, ?_, same_up (s1.trans s2) hD, rs ++ [D2], ?_, ?_, ?_⟩
      · rw [List.length_map, hl]
        exact small1000 (by omega)
      · rw [List.length_append, hl]
        rfl
      · rw [upd_same, List.map_append]
        rfl
      · intro j r e
        by_cases hj : j < i
        · rw [List.getElem?_append_left (by omega)] at e
          obtain ⟨g1, g2, g3⟩ := hrs j r e
          exact ⟨g1, g2, by rw [upd_ne g2]; exact s2 _ _ g3⟩
        · rw [List.getElem?_append_right (by omega)] at e
          have ej : j = i := by
            have := (List.getElem?_eq_some_iff.mp e).1
            rw [List.length_singleton] at this
            omega
          subst ej
          rw [hl, Nat.sub_self] at e
          have er : r = D2 := (Option.some.inj e).symm
          subst er
          exact ⟨hD20, nD.symm, by rw [upd_ne nD.symm]; exact hd2⟩
  · rintro H1 ⟨s1, rs, hl, hd1, hrs⟩
    refine k Dl H1 s1 ⟨rs, hd1, by rw [hl, t.1], hD, fun i r row e1 e2 => ?_⟩
    obtain ⟨g1, g2, g3⟩ := hrs i r e1
    have hi : i < q := by rw [← hl]; exact (List.getElem?_eq_some_iff.mp e1).1
    rw [tab_row t hi] at e2
    cases e2
    exact ⟨g3, g1⟩
abbrev N38 : List Str := ["_law_q_here", "_law_p", "_law_f", "_law_plus", "_law_mul", "_law_one", "_law_other", "_law_row"]
theorem sc38 : FnScope N38 ["_law_q_here"] (defScope (topS 38)) := ⟨rfl, rfl, rfl, by decide +kernel, rfl, by decide +kernel, by decide +kernel⟩
def lcScope : Expr → Scope
  | .ListComp _ _ sc _ => sc
  | _ => { kind := .function, names := [], isGenerator := false, isCoroutine := false }
def asgVal : Stmt → Expr
  | .Assign _ e _ => e
  | _ => .Constant .none 0 ⟨0, 0, 0, 0⟩
def out38 (i : Nat) : Scope := lcScope (asgVal ((defBody (topS 38)).getD i (.Pass ⟨0, 0, 0, 0⟩)))
def spField2 : Sp := fun vs H Q _ => ∃ q : Nat, vs = [vN q] ∧ q ∈ FQ ∧ ∀ p H2, Same H H2 → FieldAt (fun b => H b = none) H2 p q → Q (.ref p) H2
theorem rest_38 {f : Addr} {cdv : Value} {A : Around} {outer : List Env} {s : Shared} {H : Hp} {E : XK} (hr : Room 3 (A.deeper (envOfC "_law_field" (defScope (topS 38)) s.heap.objs.size f cdv)))
    (C37 : Cal P w K mg base "_law_element_sum" ["_law_p", "_law_f", "_law_one", "_law_other"] 1 (spElt fun q _ _ => PLUS q)) (C36 : Cal P w K mg base "_law_element_product" ["_law_p", "_law_f", "_law_one", "_law_other"] 2 (spElt fun q _ _ => MUL q)) (mr : mg "range" = none) :
    ∃ t, PSs (cxOf CX0 P w K mg base N38 "_law_field" (defScope (topS 38)) f cdv A outer s H E).nox ((defBody (topS 38)).drop 1) t ∧
      ∀ (q : Nat) (H1 : Hp) (Q : VK) (nx : L2.St → Hp → Prop), q ∈ FQ → (∀ p H2, Same H1 H2 → FieldAt (fun b => H1 b = none) H2 p q → Q (.ref p) H2) →
        t { nx := nx, rt := Q } [some (vN q), some (vN (PR q)), some (vN (FR q)), none, none, none, none, none] H1 := by
  refine ⟨_, pss_cons (ps_setLc (i := 3) (own := [("_law_one", 5)]) (g := gName 5) (tt := tYes) rfl sc38.nd rfl rfl (sw_true rfl rfl rfl (by decide +kernel)) (pi_range1 rfl mr (pa_cons (pv 0) pa_nil))
      (blkOk_by (N := N38) (own := [("_law_one", 5)]) (sc := defScope (topS 38)) (by decide +kernel)) (fun _ _ _ _ _ => pg_name (i := 5) sc38.nd rfl (.inr rfl)) (fun _ _ _ _ _ => pts_nil)
      (fun _ _ _ _ _ => pe_lc (own := [("_law_other", 6)]) (g := gName 6) (tt := tYes) rfl sc38.nd (pi_range1 rfl mr (pa_cons (pv 0) pa_nil))
        (blkOk_by (N := N38) (own := [("_law_other", 6)]) (sc := relS (out38 1) (defScope (topS 38))) (by decide +kernel)) (fun _ _ _ _ _ => pg_name (i := 6) sc38.nd rfl (.inl rfl)) (fun _ _ _ _ _ => pts_nil)
        (fun _ _ _ _ _ => pe_cal C37 (hr.mono (by decide)) (pa_cons (pv 1) (pa_cons (pv 2) (pa_cons (pv 5) (pa_cons (pv 6) pa_nil)))))))
    (pss_cons (ps_setLc (i := 4) (own := [("_law_one", 5)]) (g := gName 5) (tt := tYes) rfl sc38.nd rfl rfl (sw_true rfl rfl rfl (by decide +kernel)) (pi_range1 rfl mr (pa_cons (pv 0) pa_nil))
      (blkOk_by (N := N38) (own := [("_law_one", 5)]) (sc := defScope (topS 38)) (by decide +kernel)) (fun _ _ _ _ _ => pg_name (i := 5) sc38.nd rfl (.inr rfl)) (fun _ _ _ _ _ => pts_nil)
      (fun _ _ _ _ _ => pe_lc (own := [("_law_other", 6)]) (g := gName 6) (tt := tYes) rfl sc38.nd (pi_range1 rfl mr (pa_cons (pv 0) pa_nil))
        (blkOk_by (N := N38) (own := [("_law_other", 6)]) (sc := relS (out38 2) (defScope (topS 38))) (by decide +kernel)) (fun _ _ _ _ _ => pg_name (i := 6) sc38.nd rfl (.inl rfl)) (fun _ _ _ _ _ => pts_nil)
        (fun _ _ _ _ _ => pe_cal C36 (hr.mono (by decide)) (pa_cons (pv 1) (pa_cons (pv 2) (pa_cons (pv 5) (pa_cons (pv 6) pa_nil)))))))
    (pss_one (ps_ret (pe_disp (pps_cons pe_str (pv 0) (pps_cons pe_str (pv 1) (pps_cons pe_str (pv 2) (pps_cons pe_str (pv 3) (pps_cons pe_str (pv 4) (pps_cons pe_str
      (pe_lc (own := [("_law_row", 7)]) (g := gName 7) (tt := tYes) rfl sc38.nd (pi_list (pv 3)) (blkOk_by (N := N38) (own := [("_law_row", 7)]) (sc := defScope (topS 38)) (by decide +kernel)) (fun _ _ _ _ _ => pg_name (i := 7) sc38.nd rfl (.inl rfl)) (fun _ _ _ _ _ => pts_nil)
        (fun _ _ _ _ _ => (pe_bm PySem.F.plainAttrs_list PySem.F.slot_list_index PySem.F.type_list_index mt_index (pv 7) (pa_cons pe_int pa_nil) : PE _ _ (tBM K "list" (rIndex K) (tVar 7) (tCons (tC (.int 0)) tNil))))) pps_nil)))))) (by rfl) (by rfl) (fun z => by cases z) (by decide))))), ?_⟩
  intro q H1 Q nx hq k
  have hq2 := fq_pos hq
  unfold tSeq
  unfold tAsg
  refine nest_tab (T := PLUS) hq (tab_plus hq) fun p3 H2 s2 r3 => ?_
  unfold gName
  dsimp only
  refine nest_tab (T := MUL) hq (tab_mul hq) fun p4 H3 s3 r4 => ?_
  have r3' : RowsAt (fun b => H1 b = none) H3 p3 (PLUS q) := r3.mono (fun b o _ e => s3 b o e) fun _ z => z
  have r4' : RowsAt (fun b => H1 b = none) H3 p4 (MUL q) := r4.mono (fun b o _ e => e) fun _ z => s2.free z
  have s13 : Same H1 H3 := s2.trans s3
  -- the dict
  refine fun pd hpd => ?_
  have s4 := same_new (o := .dK []) hpd
  refine ⟨_, rfl, _, rfl, _, rfl, _, rfl, _, rfl, ?_⟩
  obtain ⟨rs, g1, g2, g3, g4⟩ := r3'.ex
  refine ⟨.ref p3, rfl, p3, rfl, ⟨_, SqL.of (s4 _ _ g1)⟩, fun Dl hD => ?_⟩
  have hpD : pd ≠ Dl := fun z => by rw [← z, upd_same] at hD; cases hD
  have s5 := s4.trans (same_new (o := .lst []) hD)
  have hD3 : H3 Dl = none := s4.free hD
  refine lc_list (K := K) (a := p3) (xs := rs.map V.ref) (g := gName 7) (tt := tYes) (te := tBM K "list" (rIndex K) (tVar 7) (tCons (tC (.int 0)) tNil)) (vs := [7]) (σ := [some (vN q), some (vN (PR q)), some (vN (FR q)), some (.ref p3), some (.ref p4), none, none, none]) (fun i H' => Same H3 H' ∧ H' pd = some (.dK []) ∧ H' Dl = some (.lst (nv ((MINUS q).take i)))) ⟨s5, (upd_ne hpD).trans upd_same, upd_same⟩ (fun i H' _ g => SqL.of (g.1 _ _ g1)) ?_ ?_
  · rintro i x H4 hx ⟨s6, g5, g6⟩
    have hi : i < q := by
      have h1 := (List.getElem?_eq_some_iff.mp hx).1
      rw [List.length_map, g2, (tab_plus hq).1] at h1
      exact h1
    rw [List.getElem?_map] at hx
    obtain ⟨r, hr1, hr2⟩ := Option.map_eq_some_iff.mp hx
    subst hr2
    obtain ⟨row, m1, m2, m3⟩ := minus_at q hq i hi
    obtain ⟨g7, g8⟩ := g4 i r row hr1 m1
    have hM : (MINUS q).length = q := (minus_sh q hq).1
    refine ⟨rfl, .ref r, rfl, .inl ⟨rfl, _, SqL.of (s6 _ _ g7)⟩, r, nv row, .int 0, (MINUS q).getD i 0, .int 0, rfl, rfl, SqL.of (s6 _ _ g7), rfl, by rw [nv_eq]; exact flat_ints _, nv_get m2, rfl, fun m z hm hz => ?_, ?_⟩
    · unfold nv at hz
      rw [List.getElem?_map] at hz
      obtain ⟨y, hy1, hy2⟩ := Option.map_eq_some_iff.mp hz
      subst hy2
      have hy : y ≠ 0 := fun e => m3 m hm (by rw [hy1, e])
      show ((y : Int) == 0) = false
      rw [beq_eq_false_iff_ne]
      omega
    · refine ⟨_, g6, ?_, same_up s6 hD3, (upd_ne hpD).trans g5, ?_⟩
      · rw [nv_len, List.length_take]
        exact small1000 (by omega)
      · rw [upd_same, List.take_add_one, List.getElem?_eq_getElem (by omega), nv_app]
        congr 2
        show _ = nv (MINUS q |>.take i) ++ [vN _]
        congr 2
        rw [List.getD_eq_getElem?_getD, List.getElem?_eq_getElem (by omega)]
        rfl
  · rintro H4 ⟨s6, g5, g6⟩
    rw [List.length_map, g2, (tab_plus hq).1, List.take_of_length_le (by rw [(minus_sh q hq).1]; exact Nat.le_refl _)] at g6
    refine ⟨g5, fkv q p3 p4 Dl, rfl, (show 6 ≤ 15 by decide), ?_⟩
    have em : mergeK [] (fkv q p3 p4 Dl) = fkv q p3 p4 Dl := by with_unfolding_all rfl
    rw [em]
    have hpd1 : H3 pd = none := hpd
    have s7 : Same H3 (upd H4 pd (.dK (fkv q p3 p4 Dl))) := same_up s6 hpd
    refine k pd _ (s13.trans s7) ⟨p3, p4, Dl, upd_same, s13.free hpd, r3'.mono (fun b o _ e => s7 b o e) fun _ z => z, r4'.mono (fun b o _ e => s7 b o e) fun _ z => z, ?_, s13.free hD3⟩
    rw [upd_ne hpD.symm]
    exact g6
def pfk (T2 T3 T4 T5 T7 T8 T9 : Addr) : List (Key × V) := [(.inl 2, .ref T2), (.inl 3, .ref T3), (.inl 4, .ref T4), (.inl 5, .ref T5), (.inl 7, .ref T7), (.inl 8, .ref T8), (.inl 9, .ref T9)]
theorem pfk_merge (T2 T3 T4 T5 T7 T8 T9 : Addr) : mergeK [] (pfk T2 T3 T4 T5 T7 T8 T9) = pfk T2 T3 T4 T5 T7 T8 T9 := by with_unfolding_all rfl
theorem ok_38 (D : Def K mg "_law_field" 38 ["_law_q_here"]) (C37 : Cal P w K mg base "_law_element_sum" ["_law_p", "_law_f", "_law_one", "_law_other"] 1 (spElt fun q _ _ => PLUS q)) (C36 : Cal P w K mg base "_law_element_product" ["_law_p", "_law_f", "_law_one", "_law_other"] 2 (spElt fun q _ _ => MUL q)) (mr : mg "range" = none) :
    Cal P w K mg base "_law_field" ["_law_q_here"] 4 spField2 := by
  refine D.cal sc38 (fun vs H Q E ⟨a, h, _⟩ => by rw [h]; rfl) fun f cdv A outer s H vs Q E hr h => ?_
  obtain ⟨q, rfl, hq, k⟩ := h
  obtain ⟨tR, hR, gR⟩ := rest_38 (P := P) (w := w) (mg := mg) (base := base) (H := H) (E := E) hr C37 C36 mr
  refine ⟨_, pss_cons (ps_asg (pe_dget (hu_of hr) (pe_disp (pps_cons pe_int (pe_tup (pa_cons pe_int (pa_cons pe_int pa_nil))) (pps_cons pe_int (pe_tup (pa_cons pe_int (pa_cons pe_int pa_nil))) (pps_cons pe_int (pe_tup (pa_cons pe_int (pa_cons pe_int pa_nil)))
      (pps_cons pe_int (pe_tup (pa_cons pe_int (pa_cons pe_int pa_nil))) (pps_cons pe_int (pe_tup (pa_cons pe_int (pa_cons pe_int pa_nil))) (pps_cons pe_int (pe_tup (pa_cons pe_int (pa_cons pe_int pa_nil))) (pps_cons pe_int (pe_tup (pa_cons pe_int (pa_cons pe_int pa_nil))) pps_nil)))))))
      (by rfl) (by rfl) (fun z => by cases z) (by decide)) (pv 0) (fun _ _ => rfl)) (pg_tup rfl (pgs_cons (pg_name (i := 1) sc38.nd rfl (.inr rfl)) (pgs_cons (pg_name (i := 2) sc38.nd rfl (.inr rfl)) pgs_nil)))) hR, ?_⟩
  have l2 : [V.int 2, V.int 1].length ≤ sizeLine := Nat.le_of_lt (small1000 (by decide))
  refine fun pd hpd => ⟨Nat.le_of_lt (small1000 (by decide)), fun T2 n2 => ⟨Nat.le_of_lt (small1000 (by decide)), fun T3 n3 => ⟨Nat.le_of_lt (small1000 (by decide)), fun T4 n4 => ⟨Nat.le_of_lt (small1000 (by decide)), fun T5 n5 => ⟨Nat.le_of_lt (small1000 (by decide)), fun T7 n7 => ⟨Nat.le_of_lt (small1000 (by decide)), fun T8 n8 => ⟨Nat.le_of_lt (small1000 (by decide)), fun T9 n9 => ?_⟩⟩⟩⟩⟩⟩⟩
  have s0 := same_new (o := .dK []) hpd
  have s2 := same_new (o := .tup [.int 2, .int 1]) n2
  have s3 := same_new (o := .tup [.int 3, .int 1]) n3
  have s4 := same_new (o := .tup [.int 2, .int 2]) n4
  have s5 := same_new (o := .tup [.int 5, .int 1]) n5
  have s7 := same_new (o := .tup [.int 7, .int 1]) n7
  have s8 := same_new (o := .tup [.int 2, .int 3]) n8
  have s9 := same_new (o := .tup [.int 3, .int 2]) n9
  have sAll := ((((((s2.trans s3).trans s4).trans s5).trans s7).trans s8).trans s9)
  have hpd9 := sAll _ _ (upd_same (H := H) (a := pd) (o := .dK []))
  have e9 := upd_same (a := T9) (o := .tup [.int 3, .int 2]) (H := upd (upd (upd (upd (upd (upd (upd H pd (.dK [])) T2 (.tup [.int 2, .int 1])) T3 (.tup [.int 3, .int 1])) T4 (.tup [.int 2, .int 2])) T5 (.tup [.int 5, .int 1])) T7 (.tup [.int 7, .int 1])) T8 (.tup [.int 2, .int 3]))
  have e8 := s9 _ _ (upd_same (a := T8) (o := .tup [.int 2, .int 3]))
  have e7 := (s8.trans s9) _ _ (upd_same (a := T7) (o := .tup [.int 7, .int 1]))
  have e5 := ((s7.trans s8).trans s9) _ _ (upd_same (a := T5) (o := .tup [.int 5, .int 1]))
  have e4 := (((s5.trans s7).trans s8).trans s9) _ _ (upd_same (a := T4) (o := .tup [.int 2, .int 2]))
  have e3 := ((((s4.trans s5).trans s7).trans s8).trans s9) _ _ (upd_same (a := T3) (o := .tup [.int 3, .int 1]))
  have e2 := (((((s3.trans s4).trans s5).trans s7).trans s8).trans s9) _ _ (upd_same (a := T2) (o := .tup [.int 2, .int 1]))
  refine ⟨hpd9, pfk T2 T3 T4 T5 T7 T8 T9, rfl, (show 7 ≤ 15 by decide), ?_⟩
  rw [pfk_merge]
  generalize upd (upd (upd (upd (upd (upd (upd (upd H pd (.dK [])) T2 (.tup [.int 2, .int 1])) T3 (.tup [.int 3, .int 1])) T4 (.tup [.int 2, .int 2])) T5 (.tup [.int 5, .int 1])) T7 (.tup [.int 7, .int 1])) T8 (.tup [.int 2, .int 3])) T9 (.tup [.int 3, .int 2]) = HF at *
  have key : ∃ T, valV (pfk T2 T3 T4 T5 T7 T8 T9) (.inl (q : Int)) = some (.ref T) ∧ HF T = some (.tup [vN (PR q), vN (FR q)]) := by
    have hq' := hq
    simp only [FQ, List.mem_cons, List.not_mem_nil, or_false] at hq'
    rcases hq' with rfl | rfl | rfl | rfl | rfl | rfl | rfl
    · exact ⟨T2, by with_unfolding_all rfl, e2⟩
    · exact ⟨T3, by with_unfolding_all rfl, e3⟩
    · exact ⟨T4, by with_unfolding_all rfl, e4⟩
    · exact ⟨T5, by with_unfolding_all rfl, e5⟩
    · exact ⟨T7, by with_unfolding_all rfl, e7⟩
    · exact ⟨T8, by with_unfolding_all rfl, e8⟩
    · exact ⟨T9, by with_unfolding_all rfl, e9⟩
  obtain ⟨T, hv, hT⟩ := key
  have sF : Same H (upd HF pd (.dK (pfk T2 T3 T4 T5 T7 T8 T9))) := same_up (s0.trans sAll) hpd
  refine ⟨vN q, rfl, pd, .ref T, rfl, ?_, T, _, rfl, .inl (.inl ((upd_ne (ne_of hT hpd9 (fun z => by cases z))).trans hT)), rfl, _, _, rfl, _, _, rfl, rfl, ?_⟩
  · rw [← hv]
    exact DGet.k (k := .inl (q : Int)) upd_same
  · exact gR q _ Q _ hq fun p H2 s hf => k p H2 (sF.trans s) (hf.mono (fun b o _ e => e) fun b z => sF.free z)
end
end K13
/-! the law's polynomials -/
namespace K13
open PySem PySem.Spec PyProof.Rows L2
abbrev FldAt (H : Hp) (f : Addr) (q : Nat) : Prop := FieldAt (fun _ => True) H f q
theorem FieldAt.fld {Z : Addr → Prop} {H : Hp} {f : Addr} {q : Nat} (h : FieldAt Z H f q) : FldAt H f q := h.mono (fun _ _ _ e => e) fun _ _ => trivial
theorem fld_q {Z : Addr → Prop} {H : Hp} {f : Addr} {q : Nat} (h : FieldAt Z H f q) : DGet H f (.str "q") (some (vN q)) := by
  obtain ⟨a3, a4, a5, h1, h2, h3, h4, h5, h6⟩ := h.ex
  have z := DGet.k (k := .inr "q") h1
  rw [fkv_q] at z
  exact z
theorem fld_plus {Z : Addr → Prop} {H : Hp} {f : Addr} {q : Nat} (h : FieldAt Z H f q) : ∃ a, DGet H f (.str "plus") (some (.ref a)) ∧ RowsAt Z H a (PLUS q) := by
  obtain ⟨a3, a4, a5, h1, h2, h3, h4, h5, h6⟩ := h.ex
  have z := DGet.k (k := .inr "plus") h1
  rw [fkv_plus] at z
  exact ⟨a3, z, h3⟩
theorem fld_mul {Z : Addr → Prop} {H : Hp} {f : Addr} {q : Nat} (h : FieldAt Z H f q) : ∃ a, DGet H f (.str "mul") (some (.ref a)) ∧ RowsAt Z H a (MUL q) := by
  obtain ⟨a3, a4, a5, h1, h2, h3, h4, h5, h6⟩ := h.ex
  have z := DGet.k (k := .inr "mul") h1
  rw [fkv_mul] at z
  exact ⟨a4, z, h4⟩
theorem fld_minus {Z : Addr → Prop} {H : Hp} {f : Addr} {q : Nat} (h : FieldAt Z H f q) : ∃ a, DGet H f (.str "minus") (some (.ref a)) ∧ H a = some (.lst (nv (MINUS q))) := by
  obtain ⟨a3, a4, a5, h1, h2, h3, h4, h5, h6⟩ := h.ex
  have z := DGet.k (k := .inr "minus") h1
  rw [fkv_minus] at z
  exact ⟨a5, z, h5⟩
/-- a row of a table -/
theorem rows_get {Z : Addr → Prop} {H : Hp} {a : Addr} {rows : List (List Nat)} (h : RowsAt Z H a rows) {i : Nat} {row : List Nat} (e : rows[i]? = some row) : ∃ xs r, H a = some (.lst xs) ∧ atI xs (i : Int) = some (.ref r) ∧ H r = some (.lst (nv row)) := by
  obtain ⟨rs, h1, h2, _, h4⟩ := h.ex
  obtain ⟨r, e1, e2⟩ := row_at h2 e
  exact ⟨_, r, h1, atI_nat e2, (h4 i r row e1 e).1⟩
/-- an entry of a table -/
theorem tab_get {Z : Addr → Prop} {H : Hp} {a : Addr} {q : Nat} {T : List (List Nat)} (t : Tab q T) (h : RowsAt Z H a T) {e x : Nat} (he : e < q) (hx : x < q) : ∃ xs r row, H a = some (.lst xs) ∧ atI xs (e : Int) = some (.ref r) ∧ H r = some (.lst (nv row)) ∧ atI (nv row) (x : Int) = some (vN (pl T e x)) := by
  obtain ⟨row, e1, e2, _⟩ := t.at he hx
  obtain ⟨xs, r, h1, h2, h3⟩ := rows_get h e1
  exact ⟨xs, r, row, h1, h2, h3, atI_nat (nv_get e2)⟩
theorem dget_inj {H : Hp} {f : Addr} {z : Str} {r s : Option V} (g : DGet H f (.str z) r) (h : DGet H f (.str z) s) : r = s := by
  have one : ∀ {r : Option V}, DGet H f (.str z) r → ∃ kvs, Rd H f (.dK kvs) ∧ r = valV kvs (.inr z) := by
    rintro r (⟨kvs, k, h1, h2, h3⟩ | ⟨kvs, k, b, h1, h2, h3⟩)
    · cases k with
      | inl i => cases h2
      | inr x => cases h2; exact ⟨kvs, h1, h3⟩
    · cases h2
  obtain ⟨k1, a1, b1⟩ := one g
  obtain ⟨k2, a2, b2⟩ := one h
  have e : k1 = k2 := by
    rcases a1 with a1 | ⟨o1, a1⟩ <;> rcases a2 with a2 | ⟨o2, a2⟩ <;> (rw [a1] at a2; cases a2 <;> rfl)
  rw [b1, b2, e]
section
variable {P : Program} {w : World} {K : PySem.W.Frag} {mg : Str → Option Value} {base : Heap}
/-- a polynomial comes back -/
def RetT (K : PySem.W.Frag) (H : Hp) (Q : VK) (l : List Nat) : Prop := ∀ p H2, Same H H2 → SqT K H2 p (nv l) → Q (.ref p) H2
theorem sc39 : FnScope ["_law_row", "_law_size_here"] ["_law_row"] (defScope (topS 39)) := ⟨rfl, rfl, rfl, by decide +kernel, rfl, by decide +kernel, by decide +kernel⟩
def spTrim (K : PySem.W.Frag) : Sp := fun vs H Q _ => ∃ (a : Addr) (l : List Nat), vs = [.ref a] ∧ SqL K H a (nv l) ∧ RetT K H Q (trim l)
theorem ok_39 (D : Def K mg "_law_trim" 39 ["_law_row"]) (ml : mg "len" = none) (mt : mg "tuple" = none) : Cal P w K mg base "_law_trim" ["_law_row"] 1 (spTrim K) := by
  refine D.cal sc39 (fun vs H Q E ⟨a, n, h, _⟩ => by rw [h]; rfl) fun f cdv A outer s H vs Q E hr h => ?_
  obtain ⟨a, l, rfl, hS, k⟩ := h
  refine ⟨_, pss_cons (ps_set (i := 1) sc39.nd rfl (.inl rfl) (pe_callB call_len_seq (by rfl) ml PySem.boot_len (pa_cons (pv 0) pa_nil)))
    (pss_cons (ps_while PassesOwn.never (PW.pt (pw_and (pt_cmpR op_gt (pv 1) pe_int (nomark _)) (pw_and1 (pt_cmpR op_eq (pe_ix ix_list (pv 0) (pe_op op_sub (pv 1) pe_int) (fun _ _ => rfl)) pe_int (nomark _)))))
      (pss_one (ps_set (i := 1) sc39.nd rfl (.inl rfl) (pe_op op_sub (pv 1) pe_int))))
    (pss_one (ps_ret (pe_callTy call_tuple_of (by rfl) mt PyProof.Rows.boot_tuple (pa_cons (pe_slice sl_list (pv 0) po_none (po_some (pv 1))) pa_nil))))), ?_⟩
  refine ⟨.ref a, rfl, a, _, rfl, .inl hS, ?_⟩
  have fin : ∀ m, m ≤ l.length → trim (l.take m) = l.take m → trim (l.take m) = trim l → ∀ p, H p = none → ∃ p2 ys, [V.ref p] = [V.ref p2] ∧ ((SqL K (upd H p (.lst (cutV (nv l) none (some (m : Int))))) p2 ys ∧ ∀ t, (upd H p (.lst (cutV (nv l) none (some (m : Int))))) t = none → Q (.ref t) (upd (upd H p (.lst (cutV (nv l) none (some (m : Int))))) t (.tup ys))) ∨ (SqT K (upd H p (.lst (cutV (nv l) none (some (m : Int))))) p2 ys ∧ Q (.ref p2) (upd H p (.lst (cutV (nv l) none (some (m : Int))))))) := by
    intro m hm e1 e2 p hp
    rw [cut_to hm]
    refine ⟨p, _, rfl, .inl ⟨SqL.of upd_same, fun t ht => k t _ ((same_new hp).trans (same_new ht)) ?_⟩⟩
    rw [← e2, e1]
    exact .inl (.inl upd_same)
  refine ⟨fun n σ H1 => ∃ m, n = m ∧ σ = [some (.ref a), some (vN m)] ∧ H1 = H ∧ m ≤ l.length ∧ trim (l.take m) = trim l, ⟨l.length, l.length, rfl, by rw [← nv_len l] <;> rfl, rfl, Nat.le_refl _, by rw [List.take_length]⟩, ?_⟩
  rintro n σ H1 ⟨m, rfl, rfl, rfl, hm, ht⟩
  refine ⟨vN n, rfl, (n : Int), 0, rfl, rfl, _, rfl, ite2 (fun c => ?_) (fun c => ?_)⟩
  · have h0 : 0 < n := by have := of_decide_eq_true c; omega
    have k0 : (n : Int) - 1 = ((n - 1 : Nat) : Int) := by omega
    have e := take_snoc h0 hm
    refine ⟨.ref a, rfl, vN n, rfl, (n : Int), 1, rfl, rfl, a, _, _, vN (l.getD (n - 1) 0), rfl, rfl, hS, at_of k0 (nv_getD (by omega)), rfl, _, rfl, ite2 (fun c2 => ?_) (fun c2 => ?_)⟩
    · have hz : l.getD (n - 1) 0 = 0 := Int.ofNat.inj (V.int.inj (of_decide_eq_true c2))
      refine ⟨fun σ' H' => ∃ m, n - 1 = m ∧ σ' = [some (.ref a), some (vN m)] ∧ H' = H1 ∧ m ≤ l.length ∧ trim (l.take m) = trim l, fun σ' H' hN => ⟨n - 1, by omega, hN⟩, ?_⟩
      refine ⟨vN n, rfl, (n : Int), 1, rfl, rfl, n - 1, rfl, ?_, rfl, by omega, ?_⟩
      · show [some (V.ref a), some (V.int ((n : Int) - 1))] = _
        rw [k0]
      · rw [← ht, e, hz, trim_zero]
    · have hz : l.getD (n - 1) 0 ≠ 0 := fun z => c2 (by rw [z]; exact decide_eq_true rfl)
      have e1 : trim (l.take n) = l.take n := by rw [e, trim_last _ hz]
      exact ⟨.ref a, rfl, vN n, rfl, (n : Int), rfl, a, _, rfl, hS, fin n hm e1 ht⟩
  · have h0 : n = 0 := by
      have : ¬ 0 < n := fun z => c (decide_eq_true (show (0 : Int) < (n : Int) by omega))
      omega
    subst h0
    exact ⟨.ref a, rfl, vN 0, rfl, (0 : Int), rfl, a, _, rfl, hS, fin 0 hm (by simp [trim_nil]) ht⟩
theorem sc40 : FnScope ["_law_field_here", "_law_element", "_law_one", "_law_a"] ["_law_field_here", "_law_element", "_law_one"] (defScope (topS 40)) := ⟨rfl, rfl, rfl, by decide +kernel, rfl, by decide +kernel, by decide +kernel⟩
def spScaled (K : PySem.W.Frag) : Sp := fun vs H Q _ => ∃ (f a : Addr) (q e : Nat) (l : List Nat), vs = [.ref f, vN e, .ref a] ∧ FldAt H f q ∧ q ∈ FQ ∧ e < q ∧ SqT K H a (nv l) ∧ Pol q l ∧ l.length ≤ 10000 ∧ RetT K H Q (scaled (MUL q) e l)
theorem ok_40 (D : Def K mg "_law_scaled" 40 ["_law_field_here", "_law_element", "_law_one"]) (C39 : Cal P w K mg base "_law_trim" ["_law_row"] 1 (spTrim K)) : Cal P w K mg base "_law_scaled" ["_law_field_here", "_law_element", "_law_one"] 2 (spScaled K) := by
  refine D.cal sc40 (fun vs H Q E ⟨a, n, _, _, _, h, _⟩ => by rw [h]; rfl) fun f0 cdv A outer s H vs Q E hr h => ?_
  obtain ⟨f, a, q, e, l, rfl, hf, hq, he, hS, hp, hl, k⟩ := h
  refine ⟨_, pss_one (ps_ret (pe_cal C39 hr (pa_cons (pe_lc (own := [("_law_a", 3)]) (g := gName 3) (tt := tYes) rfl sc40.nd (pi_tup (pv 2))
    (blkOk_by (N := ["_law_field_here", "_law_element", "_law_one", "_law_a"]) (own := [("_law_a", 3)]) (sc := defScope (topS 40)) (by decide +kernel)) (fun _ _ _ _ _ => pg_name (i := 3) sc40.nd rfl (.inl rfl)) (fun _ _ _ _ _ => pts_nil)
    (fun _ _ _ _ _ => pe_ix (r := rIxL K) ix_list (pe_ix (r := rIxL K) ix_list (pe_dget (hu_of hr) (pv 0) pe_str (fun _ _ => rfl)) (pv 1) (fun _ _ => rfl)) (pv 3) (fun _ _ => rfl))) pa_nil))), ?_⟩
  refine ⟨.ref a, rfl, a, rfl, ⟨_, hS⟩, fun Dl hD => ?_⟩
  refine lc_tup (K := K) (a := a) (xs := nv l) (fun i H1 => Same H H1 ∧ H1 Dl = some (.lst (nv ((l.map (pl (MUL q) e)).take i)))) ⟨same_new hD, upd_same⟩ (fun i H1 _ g => same_tup g.1 hS) ?_ ?_
  · rintro i x H1 hx ⟨s1, d1⟩
    have hi : i < l.length := by
      have := (List.getElem?_eq_some_iff.mp hx).1
      rwa [nv_len] at this
    have ex : x = vN l[i] := Option.some.inj (hx.symm.trans (nv_get (List.getElem?_eq_getElem hi)))
    subst ex
    obtain ⟨am, hg, hrow⟩ := fld_mul (hf.same s1)
    obtain ⟨xs, r, row, g1, g2, g3, g4⟩ := tab_get (tab_mul hq) hrow he (hp _ (List.getElem_mem hi))
    refine ⟨rfl, .ref f, rfl, f, .ref am, rfl, hg, vN e, rfl, am, xs, (e : Int), .ref r, rfl, rfl, SqL.of g1, g2, vN l[i], rfl, r, _, (l[i] : Int), _, rfl, rfl, SqL.of g3, g4, _, d1, ?_, same_up s1 hD, ?_⟩
    · rw [nv_len, List.length_take]
      exact Nat.lt_of_le_of_lt (Nat.min_le_left _ _) (Nat.lt_of_lt_of_le (Nat.lt_succ_self _) (line_le (by omega)))
    · rw [upd_same, List.take_add_one, List.getElem?_map, List.getElem?_eq_getElem hi, nv_app]
      rfl
  · rintro H1 ⟨s1, d1⟩
    rw [nv_len, List.take_of_length_le (by rw [List.length_map]; exact Nat.le_refl _)] at d1
    exact ⟨Dl, _, rfl, SqL.of d1, fun p H2 s2 h2 => k p H2 (s1.trans s2) h2⟩
abbrev N41 : List Str := ["_law_field_here", "_law_one", "_law_other", "_law_found", "_law_plus", "_law_mul", "_law_j", "_law_right_here", "_law_i", "_law_left"]
theorem sc41 : FnScope N41 ["_law_field_here", "_law_one", "_law_other"] (defScope (topS 41)) := ⟨rfl, rfl, rfl, by decide +kernel, rfl, by decide +kernel, by decide +kernel⟩
def spProd (K : PySem.W.Frag) : Sp := fun vs H Q _ => ∃ (f a b : Addr) (q : Nat) (l m : List Nat), vs = [.ref f, .ref a, .ref b] ∧ FldAt H f q ∧ q ∈ FQ ∧ SqT K H a (nv l) ∧ SqT K H b (nv m) ∧ Pol q l ∧ Pol q m ∧ l.length ≤ 10000 ∧ m.length ≤ 10000 ∧ RetT K H Q (mulP (PLUS q) (MUL q) l m)
theorem beq_emp (l : List Nat) : (l == []) = l.isEmpty := by cases l <;> rfl
theorem ok_41 (D : Def K mg "_law_product" 41 ["_law_field_here", "_law_one", "_law_other"]) (ml : mg "len" = none) (me : mg "enumerate" = none) (mt : mg "tuple" = none) : Cal P w K mg base "_law_product" ["_law_field_here", "_law_one", "_law_other"] 1 (spProd K) := by
  refine D.cal sc41 (fun vs H Q E ⟨_, _, _, _, _, _, h, _⟩ => by rw [h]; rfl) fun f0 cdv A outer s H vs Q E hr h => ?_
  obtain ⟨f, a, b, q, l, m, rfl, hf, hq, hA, hB, pA, pB, lA, lB, k⟩ := h
  have hq2 := fq_pos hq
  have plt : ∀ a b, pl (PLUS q) a b < q := (tab_plus hq).lt (by omega)
  have hR : ∃ t, PSs (cxOf CX0 P w K mg base N41 "_law_product" (defScope (topS 41)) f0 cdv A outer s H E).nox ((defBody (topS 41)).drop 1) t ∧
      ∀ H1, Same H H1 → l ≠ [] → m ≠ [] → t { nx := fun _ H2 => Q .non H2, rt := Q } [some (.ref f), some (.ref a), some (.ref b), none, none, none, none, none, none, none] H1 := by
    refine ⟨_, pss_cons (ps_par3 (i := 3) (j := 4) (l := 5) (by rfl) sc41.nd rfl rfl rfl (by decide) (by decide) (by decide) rfl rfl rfl
        (pa_cons (pe_op op_rep (pe_lst (pa_cons pe_int pa_nil)) (pe_op op_sub (pe_op op_add (pe_callB call_len_seq (by rfl) ml PySem.boot_len (pa_cons (pv 1) pa_nil)) (pe_callB call_len_seq (by rfl) ml PySem.boot_len (pa_cons (pv 2) pa_nil))) pe_int))
          (pa_cons (pe_dget (hu_of hr) (pv 0) pe_str (fun _ _ => rfl)) (pa_cons (pe_dget (hu_of hr) (pv 0) pe_str (fun _ _ => rfl)) pa_nil))) (by rfl))
      (pss_cons (ps_for PassesOwn.never rfl (pi_enumT rfl me (pa_cons (pv 2) pa_nil)) (pg_tup rfl (pgs_cons (pg_name (i := 6) sc41.nd rfl (.inl rfl)) (pgs_cons (pg_name (i := 7) sc41.nd rfl (.inl rfl)) pgs_nil)))
        (pss_one (ps_if (pt_cmpR op_ne (pv 7) pe_int (nomark _))
          (pss_one (ps_for PassesOwn.never rfl (pi_enumT rfl me (pa_cons (pv 1) pa_nil)) (pg_tup rfl (pgs_cons (pg_name (i := 8) sc41.nd rfl (.inl rfl)) (pgs_cons (pg_name (i := 9) sc41.nd rfl (.inl rfl)) pgs_nil)))
            (pss_one (ps_asg (pe_ix ix_list (pe_ix ix_list (pv 4) (pe_ix ix_list (pv 3) (pe_op op_add (pv 8) (pv 6)) (fun _ _ => rfl)) (fun _ _ => rfl)) (pe_ix ix_list (pe_ix ix_list (pv 5) (pv 9) (fun _ _ => rfl)) (pv 7) (fun _ _ => rfl)) (fun _ _ => rfl))
              (pg_sub (pv 3) (pe_op op_add (pv 8) (pv 6)) set_list))))) pss_nil)))
      (pss_one (ps_ret (pe_callTy call_tuple_of (by rfl) mt PyProof.Rows.boot_tuple (pa_cons (pv 3) pa_nil))))), ?_⟩
    intro H1 s1 nl nm
    have l0 : 0 < l.length := List.length_pos_iff.mpr nl
    have m0 : 0 < m.length := List.length_pos_iff.mpr nm
    have hz : (l.isEmpty || m.isEmpty) = false := by
      rw [← beq_emp, ← beq_emp, beq_nil nl, beq_nil nm]
      rfl
    unfold mulP at k
    rw [hz, if_neg Bool.false_ne_true] at k
    refine ⟨Nat.le_of_lt (small1000 (by decide)), fun p0 h0 => ?_⟩
    have s2 := s1.trans (same_new (o := .lst [V.int 0]) h0)
    refine ⟨.ref a, rfl, a, _, rfl, .inr (same_tup s2 hA), .ref b, rfl, b, _, rfl, .inr (same_tup s2 hB), _, _, rfl, rfl, _, _, rfl, rfl, ?_⟩
    have en : (((nv l).length : Int) + ((nv m).length : Int) - 1).toNat = l.length + m.length - 1 := by
      rw [nv_len, nv_len]
      omega
    have en2 := nv_len l
    have en3 := nv_len m
    refine ⟨p0, _, _, rfl, rfl, upd_same, by omega, by omega, ?_, fun pf hpf => ?_⟩
    · show 1 * _ ≤ _
      rw [Nat.one_mul]
      exact line_le (by omega)
    rw [en, nv_rep]
    have hpf0 : H pf = none := s2.free hpf
    have s3 := s2.trans (same_new (o := .lst (nv (List.replicate (l.length + m.length - 1) 0))) hpf)
    obtain ⟨ap, gp, rp⟩ := fld_plus (hf.same s3)
    obtain ⟨am, gm, rm⟩ := fld_mul (hf.same s3)
    refine ⟨.ref f, rfl, f, .ref ap, rfl, gp, .ref f, rfl, f, .ref am, rfl, gm, _, _, _, rfl, ?_⟩
    obtain ⟨ap0, gp0, rp0⟩ := fld_plus hf
    obtain ⟨am0, gm0, rm0⟩ := fld_mul hf
    have eap : ap = ap0 := by
      obtain ⟨a3, a4, a5, h1, _⟩ := hf.ex
      have z1 := DGet.k (k := .inr "plus") (s3 _ _ h1)
      rw [fkv_plus] at z1
      have e1 := V.ref.inj (Option.some.inj (dget_inj gp z1))
      have z2 := DGet.k (k := .inr "plus") h1
      rw [fkv_plus] at z2
      have e2 := V.ref.inj (Option.some.inj (dget_inj gp0 z2))
      exact e1.trans e2.symm
    have eam : am = am0 := by
      obtain ⟨a3, a4, a5, h1, _⟩ := hf.ex
      have z1 := DGet.k (k := .inr "mul") (s3 _ _ h1)
      rw [fkv_mul] at z1
      have e1 := V.ref.inj (Option.some.inj (dget_inj gm z1))
      have z2 := DGet.k (k := .inr "mul") h1
      rw [fkv_mul] at z2
      have e2 := V.ref.inj (Option.some.inj (dget_inj gm0 z2))
      exact e1.trans e2.symm
    subst eap eam
    -- the loop over the second
    refine ⟨.ref b, rfl, b, _, rfl, same_tup s3 hB, ?_⟩
    refine for_it (walk_enumT (K := K) (a := b) (xs := nv m)) (fun j σ H' => ∃ y6 y7 y8 y9, σ = [some (.ref f), some (.ref a), some (.ref b), some (.ref pf), some (.ref ap), some (.ref am), y6, y7, y8, y9] ∧ Same H H' ∧ H' pf = some (.lst (nv (mulGo (PLUS q) (MUL q) l 0 (List.replicate (l.length + m.length - 1) 0) (m.take j)))))
      ⟨_, _, _, _, rfl, s3, upd_same⟩ (fun j σ H' _ ⟨_, _, _, _, _, sm, _⟩ => same_tup sm hB) ?_ ?_
    · rintro j v σ H3 H4 hj ⟨y6, y7, y8, y9, rfl, sm, g⟩ ⟨T2, x1, x2, rfl, nT, rfl, f1, f2⟩
      rw [nv_len] at hj
      have e1 : x1 = .int (j : Nat) := (Option.some.inj f1).symm
      have e2 : x2 = vN m[j] := Option.some.inj (f2.symm.trans (nv_get (List.getElem?_eq_getElem hj)))
      subst e1 e2
      have hmj : m[j] < q := pB _ (List.getElem_mem hj)
      have sT := same_new (o := .tup [.int (j : Nat), vN m[j]]) nT
      have smT := sm.trans sT
      have gT := sT _ _ g
      generalize hF : mulGo (PLUS q) (MUL q) l 0 (List.replicate (l.length + m.length - 1) 0) (m.take j) = F at gT
      have Fl : F.length = l.length + m.length - 1 := by rw [← hF, mulGo_len, List.length_replicate]
      have Fp : Pol q F := by rw [← hF]; exact mulGo_pol plt _ _ _ _ (.rep (by omega) _)
      have etk : mulGo (PLUS q) (MUL q) l 0 (List.replicate (l.length + m.length - 1) 0) (m.take (j + 1)) = if m[j] = 0 then F else addAt (PLUS q) (fun x => pl (MUL q) x m[j]) j F l := by
        rw [List.take_add_one, List.getElem?_eq_getElem hj]
        show mulGo (PLUS q) (MUL q) l 0 _ (m.take j ++ [m[j]]) = _
        rw [mulGo_snoc, hF, List.length_take, Nat.min_eq_left (by omega), Nat.zero_add]
      refine ⟨T2, [.int (j : Nat), vN m[j]], rfl, .inl (.inl upd_same), rfl, _, _, rfl, _, _, rfl, rfl, ?_⟩
      refine ⟨vN m[j], rfl, rfl, _, rfl, ite2 (fun c => ?_) (fun c => ?_)⟩
      · have hne : m[j] ≠ 0 := fun z => by
          rw [z] at c
          exact absurd c (by decide)
        rw [if_neg hne] at etk
        refine ⟨.ref a, rfl, a, _, rfl, same_tup smT hA, ?_⟩
        refine for_it (walk_enumT (K := K) (a := a) (xs := nv l)) (fun i σ H' => ∃ y8 y9, σ = [some (.ref f), some (.ref a), some (.ref b), some (.ref pf), some (.ref ap), some (.ref am), some (vN j), some (vN m[j]), y8, y9] ∧ Same H H' ∧ H' pf = some (.lst (nv (addAt (PLUS q) (fun x => pl (MUL q) x m[j]) j F (l.take i)))))
          ⟨_, _, rfl, smT, by rw [List.take_zero, addAt_nil]; exact gT⟩ (fun i σ H' _ ⟨_, _, _, sm, _⟩ => same_tup sm hA) ?_ ?_
        · rintro i v σ H5 H6 hi ⟨y8, y9, rfl, sm5, g5⟩ ⟨T3, z1, z2, rfl, nT3, rfl, k1, k2⟩
          rw [nv_len] at hi
          have e1 : z1 = .int (i : Nat) := (Option.some.inj k1).symm
          have e2 : z2 = vN l[i] := Option.some.inj (k2.symm.trans (nv_get (List.getElem?_eq_getElem hi)))
          subst e1 e2
          have hli : l[i] < q := pA _ (List.getElem_mem hi)
          have sT3 := same_new (o := .tup [.int (i : Nat), vN l[i]]) nT3
          have sm6 := sm5.trans sT3
          have g6 := sT3 _ _ g5
          generalize hG : addAt (PLUS q) (fun x => pl (MUL q) x m[j]) j F (l.take i) = G at g6
          have Gl : G.length = l.length + m.length - 1 := by rw [← hG, addAt_len, Fl]
          have Gp : Pol q G := by rw [← hG]; exact addAt_pol plt _ _ _ Fp
          have etj : addAt (PLUS q) (fun x => pl (MUL q) x m[j]) j F (l.take (i + 1)) = G.set (i + j) (pl (PLUS q) (G.getD (i + j) 0) (pl (MUL q) l[i] m[j])) := by
            rw [List.take_add_one, List.getElem?_eq_getElem hi]
            show addAt (PLUS q) _ j F (l.take i ++ [l[i]]) = _
            have el : (l.take i).length = i := by rw [List.length_take]; omega
            rw [addAt_snoc _ _ _ _ (by rw [el]; omega), hG, el]
          have hij : i + j < G.length := by omega
          have hGij : G.getD (i + j) 0 < q := Gp.getD (by omega) _
          obtain ⟨xs1, r1, row1, a1, a2, a3, a4⟩ := tab_get (tab_plus hq) (rp0.mono (fun b o _ e => sm6 b o e) (fun _ z => z)) hGij ((tab_mul hq).lt (show 0 < q by omega) l[i] m[j])
          obtain ⟨xs2, r2, row2, b1, b2, b3, b4⟩ := tab_get (tab_mul hq) (rm0.mono (fun b o _ e => sm6 b o e) (fun _ z => z)) hli hmj
          refine ⟨T3, [.int (i : Nat), vN l[i]], rfl, .inl (.inl upd_same), rfl, _, _, rfl, _, _, rfl, rfl, ?_⟩
          refine ⟨.ref ap, rfl, .ref pf, rfl, vN i, rfl, vN j, rfl, (i : Int), (j : Int), rfl, rfl, pf, _, _, vN (G.getD (i + j) 0), rfl, rfl, SqL.of g6, at_of (j := i + j) rfl (nv_getD hij), ap, xs1, ((G.getD (i + j) 0 : Nat) : Int), .ref r1, rfl, rfl, SqL.of a1, a2, .ref am, rfl, vN l[i], rfl, am, xs2, (l[i] : Int), .ref r2, rfl, rfl, SqL.of b1, b2, vN m[j], rfl, r2, _, (m[j] : Int), _, rfl, rfl, SqL.of b3, b4, r1, _, ((pl (MUL q) l[i] m[j] : Nat) : Int), _, rfl, rfl, SqL.of a3, a4, ?_⟩
          refine ⟨.ref pf, rfl, vN i, rfl, vN j, rfl, (i : Int), (j : Int), rfl, rfl, pf, _, _, i + j, rfl, rfl, g6, ixN_of rfl (by rw [nv_len]; exact hij), ?_⟩
          refine ⟨_, _, rfl, same_up sm6 hpf0, ?_⟩
          rw [upd_same, etj]
          exact congrArg (fun z => some (HO.lst z)) (nv_set _ _ _)
        · rintro σ H5 ⟨y8, y9, rfl, sm5, g5⟩
          rw [nv_len, List.take_length] at g5
          exact ⟨_, _, _, _, rfl, sm5, by rw [etk]; exact g5⟩
      · have hz : m[j] = 0 := by
          cases hh : m[j] with
          | zero => rfl
          | succ n =>
            rw [hh] at c
            exact absurd (by
              rw [decide_eq_false (fun z => by
                have z2 : ((n + 1 : Nat) : Int) = 0 := V.int.inj z
                omega)]
              rfl) c
        rw [if_pos hz] at etk
        exact ⟨_, _, _, _, rfl, smT, by rw [etk]; exact gT⟩
    · rintro σ H3 ⟨y6, y7, y8, y9, rfl, sm, g⟩
      rw [nv_len, List.take_length] at g
      exact ⟨.ref pf, rfl, pf, _, rfl, .inl ⟨SqL.of g, fun t ht => k t _ (sm.trans (same_new ht)) (.inl (.inl upd_same))⟩⟩
  obtain ⟨tR, hR, gR⟩ := hR
  refine ⟨_, pss_cons (ps_if (PW.pt (pw_or (pt_cmpR (op_eqD hr.units) (pv 1) (pe_tupF pa_nil) (nomark _)) (pw_or1 (pt_cmpR (op_eqD hr.units) (pv 2) (pe_tupF pa_nil) (nomark _))))) (pss_one (ps_ret (pe_tupF pa_nil))) pss_nil) hR, ?_⟩
  have emp : ∀ H1, Same H H1 → (l = [] ∨ m = []) → ∀ p H2, Same H1 H2 → FT H2 p [] → Q (.ref p) H2 := by
    intro H1 s1 hor p H2 s2 h2
    refine k p H2 (s1.trans s2) ?_
    have e : mulP (PLUS q) (MUL q) l m = [] := by
      unfold mulP
      rcases hor with e | e
      · rw [e]
        rfl
      · rw [e, show ([] : List Nat).isEmpty = true from rfl, Bool.or_true]
        rfl
    rw [e]
    exact h2.seq
  refine ⟨.ref a, rfl, Nat.zero_le _, fun e1 H1 s1 fe1 => deq (m := []) (same_tup s1 hA) fe1.seq ⟨_, rfl, ite2 (fun c => ?_) (fun c => ?_)⟩⟩
  · exact iteT ⟨Nat.zero_le _, emp _ s1 (.inl (eq_of_beq c))⟩
  · refine ⟨.ref b, rfl, Nat.zero_le _, fun e2 H2 s2 fe2 => deq (m := []) (same_tup (s1.trans s2) hB) fe2.seq ⟨_, rfl, ite2 (fun c2 => ?_) (fun c2 => ?_)⟩⟩
    · exact ⟨Nat.zero_le _, emp _ (s1.trans s2) (.inr (eq_of_beq c2))⟩
    · exact gR _ (s1.trans s2) (fun z => c (by rw [z]; rfl)) (fun z => c2 (by rw [z]; rfl))
theorem last_at {l : List Nat} (h : l ≠ []) : atI (nv l) (-1) = some (vN (l.getLastD 0)) := by
  have e : l = l.dropLast ++ [l.getLastD 0] := by
    cases l with
    | nil => exact absurd rfl h
    | cons a r => rw [List.getLastD_cons, ← List.getLast_eq_getLastD (List.cons_ne_nil a r), List.dropLast_concat_getLast]
  have e2 : nv l = nv l.dropLast ++ [vN (l.getLastD 0)] := by
    rw [e, nv_app]
    simp [nv]
  rw [e2]
  exact atI_last _ _
theorem last_lt {q : Nat} {l : List Nat} (hq : 0 < q) (h : Pol q l) : l.getLastD 0 < q := by
  cases l with
  | nil => exact hq
  | cons a r =>
    rw [List.getLastD_cons, ← List.getLast_eq_getLastD (List.cons_ne_nil a r)]
    exact h _ (List.getLast_mem _)
/-- what .index(1) gives in a row of the products -/
theorem back_get {Z : Addr → Prop} {H : Hp} {a : Addr} {q e : Nat} (hq : q ∈ FQ) (h : RowsAt Z H a (MUL q)) (he : e < q) (hne : e ≠ 0) : ∃ xs r row, H a = some (.lst xs) ∧ atI xs (e : Int) = some (.ref r) ∧ H r = some (.lst (nv row)) ∧
    (nv row).all flatV = true ∧ (nv row)[backOf (MUL q) e]? = some (.int 1) ∧ ∀ (m : Nat) (z : V), m < backOf (MUL q) e → (nv row)[m]? = some z → eqV z (.int 1) = false := by
  obtain ⟨row, m1, m2, m3, m4⟩ := back_at q hq e he hne
  obtain ⟨xs, r, h1, h2, h3⟩ := rows_get h m1
  refine ⟨xs, r, row, h1, h2, h3, by rw [nv_eq]; exact flat_ints _, nv_get m2, fun m z hm hz => ?_⟩
  unfold nv at hz
  rw [List.getElem?_map] at hz
  obtain ⟨y, hy1, hy2⟩ := Option.map_eq_some_iff.mp hz
  subst hy2
  have hy : y ≠ 1 := fun e => m3 m hm (by rw [hy1, e])
  show ((y : Int) == 1) = false
  rw [beq_eq_false_iff_ne]
  omega
abbrev N42 : List Str := ["_law_field_here", "_law_one", "_law_other", "_law_left", "_law_size_here", "_law_back", "_law_found", "_law_at", "_law_factor", "_law_i"]
theorem sc42 : FnScope N42 ["_law_field_here", "_law_one", "_law_other"] (defScope (topS 42)) := ⟨rfl, rfl, rfl, by decide +kernel, rfl, by decide +kernel, by decide +kernel⟩
def spParted (K : PySem.W.Frag) : Sp := fun vs H Q _ => ∃ (f a b : Addr) (q : Nat) (l m : List Nat), vs = [.ref f, .ref a, .ref b] ∧ FldAt H f q ∧ q ∈ FQ ∧ SqT K H a (nv l) ∧ SqT K H b (nv m) ∧ Pol q l ∧ Pol q m ∧ m ≠ [] ∧ m.getLastD 0 ≠ 0 ∧ l.length ≤ 10000 ∧ m.length ≤ 10000 ∧
  ∀ p H2 x y, Same H H2 → SqT K H2 p [.ref x, .ref y] → SqT K H2 x (nv (quoP (PLUS q) (MUL q) (MINUS q) l m)) → SqT K H2 y (nv (remP (PLUS q) (MUL q) (MINUS q) l m)) → Q (.ref p) H2
theorem ok_42 (D : Def K mg "_law_parted" 42 ["_law_field_here", "_law_one", "_law_other"]) (C39 : Cal P w K mg base "_law_trim" ["_law_row"] 1 (spTrim K)) (ml : mg "len" = none) (mli : mg "list" = none) (mx : mg "max" = none) (mr : mg "range" = none) :
    Cal P w K mg base "_law_parted" ["_law_field_here", "_law_one", "_law_other"] 2 (spParted K) := by
  refine D.cal sc42 (fun vs H Q E ⟨_, _, _, _, _, _, h, _⟩ => by rw [h]; rfl) fun f0 cdv A outer s H vs Q E hr h => ?_
  obtain ⟨f, a, b, q, l, m, rfl, hf, hq, hA, hB, pA, pB, nm, hlast, lA, lB, k⟩ := h
  have hq2 := fq_pos hq
  have q0 : 0 < q := by omega
  have plt : ∀ a b, pl (PLUS q) a b < q := (tab_plus hq).lt q0
  have mlt : ∀ a b, pl (MUL q) a b < q := (tab_mul hq).lt q0
  have m0 : 0 < m.length := List.length_pos_iff.mpr nm
  have en2 := nv_len l
  have en3 := nv_len m
  refine ⟨_, pss_cons (ps_par (i := 3) (j := 4) (by rfl) sc42.nd rfl rfl (by decide) rfl rfl (pa_cons (pe_callTy call_list_of (by rfl) mli PyProof.Rows.boot_list (pa_cons (pv 1) pa_nil)) (pa_cons (pe_callB call_len_seq (by rfl) ml PySem.boot_len (pa_cons (pv 2) pa_nil)) pa_nil)) (by rfl))
    (pss_cons (ps_set (i := 5) sc42.nd rfl (.inl rfl) (pe_bm PySem.F.plainAttrs_list PySem.F.slot_list_index PySem.F.type_list_index mt_index (pe_ix ix_list (pe_dget (hu_of hr) (pv 0) pe_str (fun _ _ => rfl)) (pe_ix ix_tup (pv 2) (pe_un un_neg pe_int) (fun _ _ => rfl)) (fun _ _ => rfl)) (pa_cons pe_int pa_nil)))
    (pss_cons (ps_set (i := 6) sc42.nd rfl (.inl rfl) (pe_op op_rep (pe_lst (pa_cons pe_int pa_nil)) (pe_callB (call_max2 rfl) (by rfl) mx PyProof.Rows.boot_max (pa_cons pe_int (pa_cons (pe_op op_add (pe_op op_sub (pe_callB call_len_seq (by rfl) ml PySem.boot_len (pa_cons (pv 1) pa_nil)) (pv 4)) pe_int) pa_nil)))))
    (pss_cons (ps_for PassesOwn.never rfl (pi_range3 rfl mr (pa_cons (pe_op op_sub (pe_callB call_len_seq (by rfl) ml PySem.boot_len (pa_cons (pv 6) pa_nil)) pe_int) (pa_cons (pe_un un_neg pe_int) (pa_cons (pe_un un_neg pe_int) pa_nil)))) (pg_name (i := 7) sc42.nd rfl (.inl rfl))
      (pss_cons (ps_set (i := 8) sc42.nd rfl (.inl rfl) (pe_ix ix_list (pe_ix ix_list (pe_dget (hu_of hr) (pv 0) pe_str (fun _ _ => rfl)) (pe_ix ix_list (pv 3) (pe_op op_sub (pe_op op_add (pv 7) (pv 4)) pe_int) (fun _ _ => rfl)) (fun _ _ => rfl)) (pv 5) (fun _ _ => rfl)))
      (pss_cons (ps_asg (pv 8) (pg_sub (pv 6) (pv 7) set_list))
      (pss_one (ps_if (pt_cmpR op_ne (pv 8) pe_int (nomark _))
        (pss_one (ps_for PassesOwn.never rfl (pi_range1 rfl mr (pa_cons (pv 4) pa_nil)) (pg_name (i := 9) sc42.nd rfl (.inl rfl))
          (pss_one (ps_asg (pe_ix ix_list (pe_ix ix_list (pe_dget (hu_of hr) (pv 0) pe_str (fun _ _ => rfl)) (pe_ix ix_list (pv 3) (pe_op op_add (pv 7) (pv 9)) (fun _ _ => rfl)) (fun _ _ => rfl))
              (pe_ix ix_list (pe_dget (hu_of hr) (pv 0) pe_str (fun _ _ => rfl)) (pe_ix ix_list (pe_ix ix_list (pe_dget (hu_of hr) (pv 0) pe_str (fun _ _ => rfl)) (pv 8) (fun _ _ => rfl)) (pe_ix ix_tup (pv 2) (pv 9) (fun _ _ => rfl)) (fun _ _ => rfl)) (fun _ _ => rfl)) (fun _ _ => rfl))
            (pg_sub (pv 3) (pe_op op_add (pv 7) (pv 9)) set_list))))) pss_nil)))))
    (pss_one (ps_ret (pe_tup (pa_cons (pe_cal C39 hr (pa_cons (pv 6) pa_nil)) (pa_cons (pe_cal C39 hr (pa_cons (pe_ifExp (pt_cmpR op_ge (pe_callB call_len_seq (by rfl) ml PySem.boot_len (pa_cons (pv 1) pa_nil)) (pv 4) (nomark _))
      (pe_slice sl_list (pv 3) po_none (po_some (pe_op op_sub (pv 4) pe_int))) (pv 3)) pa_nil)) pa_nil)))))))), ?_⟩
  -- left, size
  refine ⟨.ref a, rfl, a, _, rfl, .inr hA, fun pL hL => ?_⟩
  have s1 := same_new (o := .lst (nv l)) hL
  refine ⟨.ref b, rfl, b, _, rfl, .inr (same_tup s1 hB), _, _, rfl, ?_⟩
  -- back
  obtain ⟨am, gm, rm⟩ := fld_mul hf
  obtain ⟨xs, r, row, g1, g2, g3, g4, g5, g6⟩ := back_get hq (rm.mono (fun b o _ e => s1 b o e) (fun _ z => z)) (last_lt q0 pB) hlast
  obtain ⟨am1, gm1, rm1⟩ := fld_mul (hf.same s1)
  have eam : am1 = am := by
    obtain ⟨a3, a4, a5, h1, _⟩ := hf.ex
    have z1 := DGet.k (k := .inr "mul") (s1 _ _ h1)
    have z2 := DGet.k (k := .inr "mul") h1
    exact (V.ref.inj (Option.some.inj ((dget_inj gm1 z1).trans (dget_inj gm z2).symm)))
  subst eam
  refine ⟨.ref f, rfl, f, .ref am1, rfl, gm1, .ref b, rfl, 1, rfl, b, _, -1, _, rfl, rfl, same_tup s1 hB, last_at nm, am1, xs, ((m.getLastD 0 : Nat) : Int), .ref r, rfl, rfl, SqL.of g1, g2, .inl ⟨rfl, _, SqL.of g3⟩, r, nv row, .int 1, backOf (MUL q) (m.getLastD 0), .int 1, rfl, rfl, SqL.of g3, rfl, g4, g5, rfl, g6, ?_⟩
  -- found
  refine ⟨Nat.le_of_lt (small1000 (by decide)), fun p0 h0 => ?_⟩
  have s2 := s1.trans (same_new (o := .lst [V.int 0]) h0)
  refine ⟨.ref a, rfl, a, _, rfl, .inr (same_tup s2 hA), _, rfl, _, _, rfl, rfl, _, 1, rfl, rfl, 0, _, rfl, ?_⟩
  have en : (if ((nv l).length : Int) - ((nv m).length : Int) + 1 > 0 then ((nv l).length : Int) - ((nv m).length : Int) + 1 else 0) = ((l.length + 1 - m.length : Nat) : Int) := by
    rw [en2, en3]
    split <;> omega
  refine ⟨p0, _, _, rfl, congrArg V.int en, upd_same, by omega, by omega, ?_, fun pf hpf => ?_⟩
  · show 1 * _ ≤ _
    rw [Nat.one_mul]
    exact line_le (by omega)
  rw [Int.toNat_natCast, nv_rep]
  generalize hn : l.length + 1 - m.length = n
  have hpf0 : H pf = none := s2.free hpf
  have hL0 : H pL = none := hL
  have s3 := s2.trans (same_new (o := .lst (nv (List.replicate n 0))) hpf)
  have gL : (upd (upd (upd H pL (.lst (nv l))) p0 (.lst [V.int 0])) pf (.lst (nv (List.replicate n 0)))) pL = some (.lst (nv l)) := (same_new hpf) _ _ ((same_new h0) _ _ upd_same)
  have hne : pL ≠ pf := ne_of_none ((same_new h0) _ _ upd_same) hpf
  -- the loop
  refine ⟨_, rfl, pf, _, rfl, .inl (SqL.of upd_same), _, 1, rfl, rfl, 1, rfl, 1, rfl, (n : Int) - 1, -1, -1, n, ?_, ?_, ?_⟩
  · rw [nv_len, List.length_replicate]
  · have z := RgC.neg (i := (n : Int) - 1) (j := -1) (by omega) (by omega) (by omega) (by omega)
    rw [show ((n : Int) - 1 - -1).toNat = n by omega] at z
    exact z
  generalize hbk : backOf (MUL q) (m.getLastD 0) = bk
  have hbklt : bk < q := by
    rw [← hbk]
    exact (back_at q hq _ (last_lt q0 pB) hlast).choose_spec.2.2.2
  generalize htg : divGo (PLUS q) (MUL q) (MINUS q) m bk n (List.replicate n 0) l = tg
  refine for_rangeC (fun t σ H' => ∃ y7 y8 y9 fd lf, σ = [some (.ref f), some (.ref a), some (.ref b), some (.ref pL), some (.int ((nv m).length : Nat)), some (vN bk), some (.ref pf), y7, y8, y9] ∧ Same H H' ∧ H' pf = some (.lst (nv fd)) ∧ H' pL = some (.lst (nv lf)) ∧
      fd.length = n ∧ lf.length = l.length ∧ Pol q fd ∧ Pol q lf ∧ divGo (PLUS q) (MUL q) (MINUS q) m bk (n - t) fd lf = tg)
    ⟨none, none, none, _, l, rfl, s3, upd_same, gL, by rw [List.length_replicate], rfl, .rep q0 _, pA, htg⟩ ?_ ?_
  · rintro t σ H3 ht ⟨y7, y8, y9, fd, lf, rfl, sm, gf, gl, lfd, llf, pfd, plf, htg'⟩
    have ei : V.int ((n : Int) - 1 + (t : Int) * -1) = vN (n - 1 - t) := by
      show V.int _ = V.int _
      congr 1
      omega
    rw [ei]
    have hk : n - t = (n - 1 - t) + 1 := by omega
    rw [hk] at htg'
    generalize hat : n - 1 - t = at' at htg' hk
    have hfit : at' + m.length ≤ lf.length := by omega
    have hidx : at' + m.length - 1 < lf.length := by omega
    have hlv : lf.getD (at' + m.length - 1) 0 < q := plf.getD q0 _
    obtain ⟨am2, gm2, rm2⟩ := fld_mul (hf.same sm)
    obtain ⟨xs1, r1, row1, a1, a2, a3, a4⟩ := tab_get (tab_mul hq) rm2 hlv hbklt
    generalize hfac : pl (MUL q) (lf.getD (at' + m.length - 1) 0) bk = fac at a4
    have hfaclt : fac < q := by rw [← hfac]; exact mlt _ _
    have estep : divGo (PLUS q) (MUL q) (MINUS q) m bk at' (fd.set at' fac) (if fac = 0 then lf else addAt (PLUS q) (fun b => (MINUS q).getD (pl (MUL q) fac b) 0) at' lf m) = tg := by
      rw [← hfac]
      exact htg'
    have kidx : (at' : Int) + (((nv m).length : Nat) : Int) - 1 = ((at' + m.length - 1 : Nat) : Int) := by rw [en3]; omega
    refine ⟨.ref f, rfl, f, .ref am2, rfl, gm2, .ref pL, rfl, vN at', rfl, _, rfl, _, _, rfl, rfl, _, 1, rfl, rfl, pL, _, _, vN (lf.getD (at' + m.length - 1) 0), rfl, rfl, SqL.of gl, at_of kidx (nv_getD hidx), am2, xs1, ((lf.getD (at' + m.length - 1) 0 : Nat) : Int), .ref r1, rfl, rfl, SqL.of a1, a2, vN bk, rfl, r1, _, (bk : Int), _, rfl, rfl, SqL.of a3, a4, ?_⟩
    have hatn : at' < fd.length := by omega
    refine ⟨vN fac, rfl, .ref pf, rfl, vN at', rfl, pf, _, (at' : Int), at', rfl, rfl, gf, ixN_of rfl (by rw [nv_len]; exact hatn), ?_⟩
    have smU : Same H (upd H3 pf (.lst ((nv fd).set at' (vN fac)))) := same_up sm hpf0
    have gfU : (upd H3 pf (.lst ((nv fd).set at' (vN fac)))) pf = some (.lst (nv (fd.set at' fac))) := upd_same.trans (congrArg (fun z => some (HO.lst z)) (nv_set _ _ _))
    have glU : (upd H3 pf (.lst ((nv fd).set at' (vN fac)))) pL = some (.lst (nv lf)) := (upd_ne hne).trans gl
    have hk2 : n - (t + 1) = at' := by omega
    refine ⟨vN fac, rfl, rfl, _, rfl, ite2 (fun c => ?_) (fun c => ?_)⟩
    · have hne0 : fac ≠ 0 := fun z => by
        rw [z] at c
        exact absurd c (by decide)
      rw [if_neg hne0] at estep
      refine ⟨_, rfl, (((nv m).length : Nat) : Int), rfl, by omega, by omega, ?_⟩
      rw [Int.toNat_natCast]
      refine for_range (lo := 0) (n := (nv m).length) (fun i σ H' => ∃ y9, σ = [some (.ref f), some (.ref a), some (.ref b), some (.ref pL), some (.int ((nv m).length : Nat)), some (vN bk), some (.ref pf), some (vN at'), some (vN fac), y9] ∧ Same H H' ∧ H' pf = some (.lst (nv (fd.set at' fac))) ∧
          H' pL = some (.lst (nv (addAt (PLUS q) (fun b => (MINUS q).getD (pl (MUL q) fac b) 0) at' lf (m.take i)))))
        ⟨y9, rfl, smU, gfU, by rw [List.take_zero, addAt_nil]; exact glU⟩ ?_ ?_
      · rintro i σ H4 hi ⟨y9, rfl, sm4, gf4, gl4⟩
        rw [en3] at hi
        have e0 : V.int (0 + (i : Int)) = vN i := by rw [Int.zero_add]
        rw [e0]
        generalize hG : addAt (PLUS q) (fun b => (MINUS q).getD (pl (MUL q) fac b) 0) at' lf (m.take i) = G at gl4
        have Gl : G.length = lf.length := by rw [← hG, addAt_len]
        have Gp : Pol q G := by rw [← hG]; exact addAt_pol plt _ _ _ plf
        have etj : addAt (PLUS q) (fun b => (MINUS q).getD (pl (MUL q) fac b) 0) at' lf (m.take (i + 1)) = G.set (at' + i) (pl (PLUS q) (G.getD (at' + i) 0) ((MINUS q).getD (pl (MUL q) fac m[i]) 0)) := by
          rw [List.take_add_one, List.getElem?_eq_getElem hi]
          show addAt (PLUS q) _ at' lf (m.take i ++ [m[i]]) = _
          have el : (m.take i).length = i := by rw [List.length_take]; omega
          rw [addAt_snoc _ _ _ _ (by rw [el]; omega), hG, el, Nat.add_comm i at']
        have hij : at' + i < G.length := by omega
        have hmi : m[i] < q := pB _ (List.getElem_mem hi)
        have hGv : G.getD (at' + i) 0 < q := Gp.getD q0 _
        obtain ⟨ap, gp, rp⟩ := fld_plus (hf.same sm4)
        obtain ⟨am3, gm3, rm3⟩ := fld_mul (hf.same sm4)
        obtain ⟨an, gn, rn⟩ := fld_minus (hf.same sm4)
        have hMl : (MINUS q).length = q := (minus_sh q hq).1
        have hnlt : (MINUS q).getD (pl (MUL q) fac m[i]) 0 < q := (minus_sh q hq).2.getD q0 _
        obtain ⟨xs2, r2, row2, b1, b2, b3, b4⟩ := tab_get (tab_plus hq) rp hGv hnlt
        obtain ⟨xs3, r3, row3, c1, c2, c3, c4⟩ := tab_get (tab_mul hq) rm3 hfaclt hmi
        refine ⟨.ref f, rfl, f, .ref ap, rfl, gp, .ref pL, rfl, vN at', rfl, vN i, rfl, (at' : Int), (i : Int), rfl, rfl, pL, _, _, vN (G.getD (at' + i) 0), rfl, rfl, SqL.of gl4, at_of (j := at' + i) rfl (nv_getD hij), ap, xs2, ((G.getD (at' + i) 0 : Nat) : Int), .ref r2, rfl, rfl, SqL.of b1, b2, ?_⟩
        refine ⟨.ref f, rfl, f, .ref an, rfl, gn, .ref f, rfl, f, .ref am3, rfl, gm3, vN fac, rfl, am3, xs3, (fac : Int), .ref r3, rfl, rfl, SqL.of c1, c2, .ref b, rfl, vN i, rfl, b, _, (i : Int), vN m[i], rfl, rfl, same_tup sm4 hB, atI_nat (nv_get (List.getElem?_eq_getElem hi)), r3, _, (m[i] : Int), _, rfl, rfl, SqL.of c3, c4, an, _, ((pl (MUL q) fac m[i] : Nat) : Int), vN ((MINUS q).getD (pl (MUL q) fac m[i]) 0), rfl, rfl, SqL.of rn, atI_nat (nv_getD (by rw [hMl]; exact mlt _ _)), r2, _, (((MINUS q).getD (pl (MUL q) fac m[i]) 0 : Nat) : Int), _, rfl, rfl, SqL.of b3, b4, ?_⟩
        refine ⟨.ref pL, rfl, vN at', rfl, vN i, rfl, (at' : Int), (i : Int), rfl, rfl, pL, _, _, at' + i, rfl, rfl, gl4, ixN_of rfl (by rw [nv_len]; exact hij), ?_⟩
        refine ⟨_, rfl, same_up sm4 hL0, (upd_ne hne.symm).trans gf4, ?_⟩
        rw [upd_same, etj]
        exact congrArg (fun z => some (HO.lst z)) (nv_set _ _ _)
      · rintro σ H4 ⟨y9, rfl, sm4, gf4, gl4⟩
        rw [en3, List.take_length] at gl4
        exact ⟨_, _, _, _, _, rfl, sm4, gf4, gl4, by rw [List.length_set, lfd], by rw [addAt_len, llf], pfd.set hfaclt, addAt_pol plt _ _ _ plf, by rw [hk2]; exact estep⟩
    · have hz : fac = 0 := by
        cases hh : fac with
        | zero => rfl
        | succ x =>
          rw [hh] at c
          exact absurd (by
            rw [decide_eq_false (fun z => by
              have z2 : ((x + 1 : Nat) : Int) = 0 := V.int.inj z
              omega)]
            rfl) c
      rw [if_pos hz] at estep
      exact ⟨_, _, _, _, _, rfl, smU, gfU, glU, by rw [List.length_set, lfd], llf, pfd.set hfaclt, plf, by rw [hk2]; exact estep⟩
  · rintro σ H3 ⟨y7, y8, y9, fd, lf, rfl, sm, gf, gl, lfd, llf, pfd, plf, htg'⟩
    rw [Nat.sub_self] at htg'
    have e1 : (fd, lf) = divP (PLUS q) (MUL q) (MINUS q) l m := by
      unfold divP
      rw [hbk, hn, htg]
      exact htg'
    have e2 : fd = (divP (PLUS q) (MUL q) (MINUS q) l m).1 := by rw [← e1]
    have e3 : lf = (divP (PLUS q) (MUL q) (MINUS q) l m).2 := by rw [← e1]
    refine ⟨.ref pf, rfl, pf, fd, rfl, SqL.of gf, fun x H4 s4 h4 => ?_⟩
    have sm4 := sm.trans s4
    refine ⟨.ref a, rfl, a, _, rfl, .inr (same_tup sm4 hA), _, rfl, _, _, rfl, rfl, _, rfl, ite2 (fun c => ?_) (fun c => ?_)⟩
    · have hle : m.length ≤ l.length := by have := of_decide_eq_true c; omega
      have kk : (((nv m).length : Nat) : Int) - 1 = ((m.length - 1 : Nat) : Int) := by rw [en3]; omega
      refine ⟨.ref pL, rfl, _, rfl, _, 1, rfl, rfl, ((m.length - 1 : Nat) : Int), congrArg V.int kk, pL, _, rfl, SqL.of (s4 _ _ gl), fun p5 h5 => ?_⟩
      rw [cut_to (by omega)]
      refine ⟨p5, lf.take (m.length - 1), rfl, SqL.of upd_same, fun y H6 s6 h6 => ?_⟩
      refine ⟨Nat.le_of_lt (small1000 (by simp)), fun p7 h7 => ?_⟩
      have s47 := ((same_new h5).trans s6).trans (same_new (o := .tup [.ref x, .ref y]) h7)
      refine k p7 _ x y (sm4.trans s47) (.inl (.inl upd_same)) ?_ ?_
      · unfold quoP
        rw [← e2]
        exact same_tup s47 h4
      · unfold remP
        rw [if_pos hle, ← e3]
        exact same_tup (same_new h7) h6
    · have hle : ¬ m.length ≤ l.length := fun z => c (decide_eq_true (show (((nv m).length : Nat) : Int) ≤ (((nv l).length : Nat) : Int) by rw [en2, en3]; omega))
      refine ⟨.ref pL, rfl, pL, lf, rfl, SqL.of (s4 _ _ gl), fun y H6 s6 h6 => ?_⟩
      refine ⟨Nat.le_of_lt (small1000 (by simp)), fun p7 h7 => ?_⟩
      have s47 := s6.trans (same_new (o := .tup [.ref x, .ref y]) h7)
      refine k p7 _ x y (sm4.trans s47) (.inl (.inl upd_same)) ?_ ?_
      · unfold quoP
        rw [← e2]
        exact same_tup s47 h4
      · unfold remP
        rw [if_neg hle, ← e3]
        exact same_tup (same_new h7) h6
theorem sc43 : FnScope ["_law_field_here", "_law_one", "_law_other"] ["_law_field_here", "_law_one", "_law_other"] (defScope (topS 43)) := ⟨rfl, rfl, rfl, by decide +kernel, rfl, by decide +kernel, by decide +kernel⟩
def spRest (K : PySem.W.Frag) : Sp := fun vs H Q _ => ∃ (f a b : Addr) (q : Nat) (l m : List Nat), vs = [.ref f, .ref a, .ref b] ∧ FldAt H f q ∧ q ∈ FQ ∧ SqT K H a (nv l) ∧ SqT K H b (nv m) ∧ Pol q l ∧ Pol q m ∧ m ≠ [] ∧ m.getLastD 0 ≠ 0 ∧ l.length ≤ 10000 ∧ m.length ≤ 10000 ∧
  RetT K H Q (remP (PLUS q) (MUL q) (MINUS q) l m)
theorem ok_43 (D : Def K mg "_law_rest" 43 ["_law_field_here", "_law_one", "_law_other"]) (C42 : Cal P w K mg base "_law_parted" ["_law_field_here", "_law_one", "_law_other"] 2 (spParted K)) : Cal P w K mg base "_law_rest" ["_law_field_here", "_law_one", "_law_other"] 3 (spRest K) := by
  refine D.cal sc43 (fun vs H Q E ⟨_, _, _, _, _, _, h, _⟩ => by rw [h]; rfl) fun f0 cdv A outer s H vs Q E hr h => ?_
  obtain ⟨f, a, b, q, l, m, rfl, hf, hq, hA, hB, pA, pB, nm, hlast, lA, lB, k⟩ := h
  refine ⟨_, pss_one (ps_ret (pe_ix ix_tup (pe_cal C42 hr (pa_cons (pv 0) (pa_cons (pv 1) (pa_cons (pv 2) pa_nil)))) pe_int (fun _ _ => rfl))), ?_⟩
  refine ⟨.ref f, rfl, .ref a, rfl, .ref b, rfl, f, a, b, q, l, m, rfl, hf, hq, hA, hB, pA, pB, nm, hlast, lA, lB, fun p H2 x y s2 hp hx hy => ?_⟩
  exact ⟨p, _, 1, .ref y, rfl, rfl, hp, rfl, k y H2 s2 hy⟩
theorem sc46 : FnScope ["_law_field_here", "_law_one"] ["_law_field_here", "_law_one"] (defScope (topS 46)) := ⟨rfl, rfl, rfl, by decide +kernel, rfl, by decide +kernel, by decide +kernel⟩
def spMonic (K : PySem.W.Frag) : Sp := fun vs H Q _ => ∃ (f a : Addr) (q : Nat) (l : List Nat), vs = [.ref f, .ref a] ∧ FldAt H f q ∧ q ∈ FQ ∧ SqT K H a (nv l) ∧ Pol q l ∧ Trm l ∧ l.length ≤ 10000 ∧ RetT K H Q (monicOf (MUL q) l)
theorem ok_46 (D : Def K mg "_law_monic_of" 46 ["_law_field_here", "_law_one"]) (C40 : Cal P w K mg base "_law_scaled" ["_law_field_here", "_law_element", "_law_one"] 2 (spScaled K)) : Cal P w K mg base "_law_monic_of" ["_law_field_here", "_law_one"] 3 (spMonic K) := by
  refine D.cal sc46 (fun vs H Q E ⟨_, _, _, _, h, _⟩ => by rw [h]; rfl) fun f0 cdv A outer s H vs Q E hr h => ?_
  obtain ⟨f, a, q, l, rfl, hf, hq, hA, pA, hT, lA, k⟩ := h
  have hq2 := fq_pos hq
  refine ⟨_, pss_one (ps_ret (pe_ifExp (pt_cmpR (op_neD hr.units) (pv 1) (pe_tupF pa_nil) (nomark _))
    (pe_cal C40 hr (pa_cons (pv 0) (pa_cons (pe_bm PySem.F.plainAttrs_list PySem.F.slot_list_index PySem.F.type_list_index mt_index (pe_ix ix_list (pe_dget (hu_of hr) (pv 0) pe_str (fun _ _ => rfl)) (pe_ix ix_tup (pv 1) (pe_un un_neg pe_int) (fun _ _ => rfl)) (fun _ _ => rfl)) (pa_cons pe_int pa_nil)) (pa_cons (pv 1) pa_nil))))
    (pe_tupF pa_nil))), ?_⟩
  refine ⟨.ref a, rfl, Nat.zero_le _, fun e1 H1 s1 fe1 => dne (m := []) (same_tup s1 hA) fe1.seq ⟨_, rfl, ?_⟩⟩
  by_cases hl : l = []
  · subst hl
    refine iteF ⟨Nat.zero_le _, fun p H2 s2 h2 => k p H2 (s1.trans s2) h2.seq⟩
  · rw [beq_nil hl]
    have hlast : l.getLastD 0 ≠ 0 := hT.resolve_left hl
    have hlt := last_lt (show 0 < q by omega) pA
    obtain ⟨am, gm, rm⟩ := fld_mul (hf.same s1)
    obtain ⟨xs, r, row, g1, g2, g3, g4, g5, g6⟩ := back_get hq rm hlt hlast
    have hbk : backOf (MUL q) (l.getLastD 0) < q := (back_at q hq _ hlt hlast).choose_spec.2.2.2
    refine iteT ⟨.ref f, rfl, .ref f, rfl, f, .ref am, rfl, gm, .ref a, rfl, 1, rfl, a, _, -1, _, rfl, rfl, same_tup s1 hA, last_at hl, am, xs, ((l.getLastD 0 : Nat) : Int), .ref r, rfl, rfl, SqL.of g1, g2, .inl ⟨rfl, _, SqL.of g3⟩, r, nv row, .int 1, backOf (MUL q) (l.getLastD 0), .int 1, rfl, rfl, SqL.of g3, rfl, g4, g5, rfl, g6, ?_⟩
    refine ⟨.ref a, rfl, f, a, q, backOf (MUL q) (l.getLastD 0), l, rfl, hf.same s1, hq, hbk, same_tup s1 hA, pA, lA, fun p H2 s2 h2 => k p H2 (s1.trans s2) ?_⟩
    unfold monicOf
    have he : l.isEmpty = false := by rw [← beq_emp, beq_nil hl]
    rw [he, if_neg Bool.false_ne_true]
    exact h2
theorem sc45 : FnScope ["_law_field_here", "_law_one", "_law_other"] ["_law_field_here", "_law_one", "_law_other"] (defScope (topS 45)) := ⟨rfl, rfl, rfl, by decide +kernel, rfl, by decide +kernel, by decide +kernel⟩
def spCom (K : PySem.W.Frag) : Sp := fun vs H Q _ => ∃ (f a b : Addr) (q : Nat) (l m : List Nat), vs = [.ref f, .ref a, .ref b] ∧ FldAt H f q ∧ q ∈ FQ ∧ SqT K H a (nv l) ∧ SqT K H b (nv m) ∧ Pol q l ∧ Pol q m ∧ (m = [] → Trm l) ∧ Trm m ∧ l.length ≤ 10000 ∧ m.length ≤ 10000 ∧
  RetT K H Q (comP (PLUS q) (MUL q) (MINUS q) l m)
theorem ok_45 (D : Def K mg "_law_common" 45 ["_law_field_here", "_law_one", "_law_other"]) (C43 : Cal P w K mg base "_law_rest" ["_law_field_here", "_law_one", "_law_other"] 3 (spRest K)) (C46 : Cal P w K mg base "_law_monic_of" ["_law_field_here", "_law_one"] 3 (spMonic K)) :
    Cal P w K mg base "_law_common" ["_law_field_here", "_law_one", "_law_other"] 4 (spCom K) := by
  refine D.cal sc45 (fun vs H Q E ⟨_, _, _, _, _, _, h, _⟩ => by rw [h]; rfl) fun f0 cdv A outer s H vs Q E hr h => ?_
  obtain ⟨f, a, b, q, l, m, rfl, hf, hq, hA, hB, pA, pB, tA, tB, lA, lB, k⟩ := h
  have hq2 := fq_pos hq
  have q0 : 0 < q := by omega
  have plt : ∀ a b, pl (PLUS q) a b < q := (tab_plus hq).lt q0
  have mlt : ∀ a b, pl (MUL q) a b < q := (tab_mul hq).lt q0
  refine ⟨_, pss_cons (ps_while PassesOwn.never (pt_cmpR (op_neD hr.units) (pv 2) (pe_tupF pa_nil) (nomark _))
      (pss_one (ps_par (i := 1) (j := 2) (by rfl) sc45.nd rfl rfl (by decide) rfl rfl (pa_cons (pv 2) (pa_cons (pe_cal C43 hr (pa_cons (pv 0) (pa_cons (pv 1) (pa_cons (pv 2) pa_nil)))) pa_nil)) (by rfl))))
    (pss_one (ps_ret (pe_cal C46 hr (pa_cons (pv 0) (pa_cons (pv 1) pa_nil))))), ?_⟩
  generalize htg : comGo (PLUS q) (MUL q) (MINUS q) (m.length + 1) l m = tg at k
  refine ⟨fun n σ H1 => ∃ a b l m, n = m.length ∧ σ = [some (.ref f), some (.ref a), some (.ref b)] ∧ Same H H1 ∧ SqT K H1 a (nv l) ∧ SqT K H1 b (nv m) ∧ Pol q l ∧ Pol q m ∧ (m = [] → Trm l) ∧ Trm m ∧ l.length ≤ 10000 ∧ m.length ≤ 10000 ∧ comGo (PLUS q) (MUL q) (MINUS q) (m.length + 1) l m = tg,
    ⟨m.length, a, b, l, m, rfl, rfl, Same.refl H, hA, hB, pA, pB, tA, tB, lA, lB, htg⟩, ?_⟩
  rintro n σ H1 ⟨a, b, l', m', rfl, rfl, sm, hA, hB, pA, pB, tA, tB, lA, lB, htg'⟩
  refine ⟨.ref b, rfl, Nat.zero_le _, fun e1 H2 s2 fe1 => dne (m := []) (same_tup s2 hB) fe1.seq ⟨_, rfl, ?_⟩⟩
  by_cases hm : m' = []
  · subst hm
    have el : l' = tg := by rw [← htg']; rfl
    refine iteF ⟨.ref f, rfl, .ref a, rfl, f, a, q, l', rfl, hf.same (sm.trans s2), hq, same_tup s2 hA, pA, tA rfl, lA, fun p H3 s3 h3 => k p H3 ((sm.trans s2).trans s3) ?_⟩
    have e : comP (PLUS q) (MUL q) (MINUS q) l m = monicOf (MUL q) l' := by
      unfold comP
      rw [htg, el]
    rw [e]
    exact h3
  · rw [beq_nil hm]
    have hlast : m'.getLastD 0 ≠ 0 := tB.resolve_left hm
    have hrl := remP_len (P := PLUS q) (M := MUL q) (N := MINUS q) (one := l') hm
    refine iteT ⟨fun σ' H' => ∃ a b l m, (remP (PLUS q) (MUL q) (MINUS q) l' m').length = m.length ∧ σ' = [some (.ref f), some (.ref a), some (.ref b)] ∧ Same H H' ∧ SqT K H' a (nv l) ∧ SqT K H' b (nv m) ∧ Pol q l ∧ Pol q m ∧ (m = [] → Trm l) ∧ Trm m ∧ l.length ≤ 10000 ∧ m.length ≤ 10000 ∧ comGo (PLUS q) (MUL q) (MINUS q) (m.length + 1) l m = tg,
      fun σ' H' hN => ⟨_, hrl.1, hN⟩, ?_⟩
    refine ⟨.ref b, rfl, .ref f, rfl, .ref a, rfl, .ref b, rfl, f, a, b, q, l', m', rfl, hf.same (sm.trans s2), hq, same_tup s2 hA, same_tup s2 hB, pA, pB, hm, hlast, lA, lB, fun p H3 s3 h3 => ?_⟩
    refine ⟨_, _, rfl, b, p, m', remP (PLUS q) (MUL q) (MINUS q) l' m', rfl, rfl, (sm.trans s2).trans s3, same_tup (s2.trans s3) hB, h3, pB, remP_pol q0 plt mlt pA, fun _ => tB, remP_trm _ _, lB, by omega, ?_⟩
    rw [← htg']
    have e1 : comGo (PLUS q) (MUL q) (MINUS q) (m'.length + 1) l' m' = comGo (PLUS q) (MUL q) (MINUS q) m'.length m' (remP (PLUS q) (MUL q) (MINUS q) l' m') := by
      have he : m'.isEmpty = false := by rw [← beq_emp, beq_nil hm]
      show (if m'.isEmpty = true then l' else _) = _
      rw [he, if_neg Bool.false_ne_true]
    rw [e1]
    exact comGo_fuel _ _ _ _ (by omega) (by omega)
end
end K13
/-! the law's monics and brackets -/
namespace K13
open PySem PySem.Spec PyProof.Rows L2
section
variable {P : Program} {w : World} {K : PySem.W.Frag} {mg : Str → Option Value} {base : Heap}
abbrev N44 : List Str := ["_law_q_here", "_law_one", "_law_i", "_law_step", "_law_found", "_law_at", "_law_a"]
theorem sc44 : FnScope N44 ["_law_q_here", "_law_one", "_law_i"] (defScope (topS 44)) := ⟨rfl, rfl, rfl, by decide +kernel, rfl, by decide +kernel, by decide +kernel⟩
def spStr (K : PySem.W.Frag) : Sp := fun vs H Q _ => ∃ (q i : Nat) (a : Addr) (l : List Nat), vs = [vN q, .ref a, vN i] ∧ q ∈ FQ ∧ i < 1000 ∧ SqT K H a (nv l) ∧ l ≠ [] ∧ q ^ i ≤ 1000 ∧ q ^ i * (l.length - 1) ≤ 10000 ∧ RetT K H Q (strP (q ^ i) l)
theorem ok_44 (D : Def K mg "_law_stretched" 44 ["_law_q_here", "_law_one", "_law_i"]) (C34 : Cal P w K mg base "_law_raised" ["_law_base", "_law_count"] 1 spPow) (ml : mg "len" = none) (me : mg "enumerate" = none) (mt : mg "tuple" = none) : Cal P w K mg base "_law_stretched" ["_law_q_here", "_law_one", "_law_i"] 2 (spStr K) := by
  refine D.cal sc44 (fun vs H Q E ⟨_, _, _, _, h, _⟩ => by rw [h]; rfl) fun f0 cdv A outer s H vs Q E hr h => ?_
  obtain ⟨q, i, a, l, rfl, hq, hi, hA, nl, hp, hb, k⟩ := h
  have hq2 := fq_pos hq
  have hst : 0 < q ^ i := Nat.pow_pos (by omega)
  have l0 : 0 < l.length := List.length_pos_iff.mpr nl
  refine ⟨_, pss_cons (ps_set (i := 3) sc44.nd rfl (.inl rfl) (pe_cal C34 hr (pa_cons (pv 0) (pa_cons (pv 2) pa_nil))))
    (pss_cons (ps_set (i := 4) sc44.nd rfl (.inl rfl) (pe_ifExp (pt_cmpR (op_neD hr.units) (pv 1) (pe_tupF pa_nil) (nomark _))
      (pe_op op_rep (pe_lst (pa_cons pe_int pa_nil)) (pe_op op_add (pe_op op_mul (pv 3) (pe_op op_sub (pe_callB call_len_seq (by rfl) ml PySem.boot_len (pa_cons (pv 1) pa_nil)) pe_int)) pe_int)) (pe_lst pa_nil)))
    (pss_cons (ps_for PassesOwn.never rfl (pi_enumT rfl me (pa_cons (pv 1) pa_nil)) (pg_tup rfl (pgs_cons (pg_name (i := 5) sc44.nd rfl (.inl rfl)) (pgs_cons (pg_name (i := 6) sc44.nd rfl (.inl rfl)) pgs_nil)))
      (pss_one (ps_asg (pv 6) (pg_sub (pv 4) (pe_op op_mul (pv 3) (pv 5)) set_list))))
    (pss_one (ps_ret (pe_callTy call_tuple_of (by rfl) mt PyProof.Rows.boot_tuple (pa_cons (pv 4) pa_nil)))))), ?_⟩
  refine ⟨vN q, rfl, vN i, rfl, q, i, rfl, by omega, hi, ?_⟩
  refine ⟨.ref a, rfl, Nat.zero_le _, fun e1 H1 s1 fe1 => dne (m := []) (same_tup s1 hA) fe1.seq ⟨_, rfl, ?_⟩⟩
  rw [beq_nil nl]
  refine iteT ⟨Nat.le_of_lt (small1000 (by decide)), fun p0 h0 => ?_⟩
  have s2 := s1.trans (same_new (o := .lst [V.int 0]) h0)
  have en : ((q ^ i : Nat) : Int) * (((nv l).length : Int) - 1) + 1 = ((q ^ i * (l.length - 1) + 1 : Nat) : Int) := by
    rw [nv_len, show ((l.length : Nat) : Int) - 1 = ((l.length - 1 : Nat) : Int) by omega, ← Int.natCast_mul]
    rfl
  refine ⟨vN (q ^ i), rfl, .ref a, rfl, a, _, rfl, .inr (same_tup s2 hA), _, 1, rfl, rfl, ((q ^ i : Nat) : Int), _, rfl, rfl, .inl ⟨by omega, by omega⟩, _, 1, rfl, rfl, ?_⟩
  refine ⟨p0, _, _, rfl, congrArg V.int en, upd_same, by omega, by omega, ?_, fun pf hpf => ?_⟩
  · show 1 * _ ≤ _
    rw [Nat.one_mul]
    exact line_le (by omega)
  rw [Int.toNat_natCast, nv_rep]
  have hpf0 : H pf = none := s2.free hpf
  have s3 := s2.trans (same_new (o := .lst (nv (List.replicate (q ^ i * (l.length - 1) + 1) 0))) hpf)
  refine ⟨.ref a, rfl, a, _, rfl, same_tup s3 hA, ?_⟩
  refine for_it (walk_enumT (K := K) (a := a) (xs := nv l)) (fun j σ H' => ∃ y5 y6, σ = [some (vN q), some (.ref a), some (vN i), some (vN (q ^ i)), some (.ref pf), y5, y6] ∧ Same H H' ∧ H' pf = some (.lst (nv (strGo (q ^ i) 0 (List.replicate (q ^ i * (l.length - 1) + 1) 0) (l.take j)))))
    ⟨none, none, rfl, s3, upd_same⟩ (fun j σ H' _ ⟨_, _, _, sm, _⟩ => same_tup sm hA) ?_ ?_
  · rintro j v σ H3 H4 hj ⟨y5, y6, rfl, sm, g⟩ ⟨T2, x1, x2, rfl, nT, rfl, f1, f2⟩
    rw [nv_len] at hj
    have e1 : x1 = .int (j : Nat) := (Option.some.inj f1).symm
    have e2 : x2 = vN l[j] := Option.some.inj (f2.symm.trans (nv_get (List.getElem?_eq_getElem hj)))
    subst e1 e2
    have sT := same_new (o := .tup [.int (j : Nat), vN l[j]]) nT
    have gT := sT _ _ g
    generalize hF : strGo (q ^ i) 0 (List.replicate (q ^ i * (l.length - 1) + 1) 0) (l.take j) = F at gT
    have Fl : F.length = q ^ i * (l.length - 1) + 1 := by rw [← hF, strGo_len, List.length_replicate]
    have etk : strGo (q ^ i) 0 (List.replicate (q ^ i * (l.length - 1) + 1) 0) (l.take (j + 1)) = F.set (q ^ i * j) l[j] := by
      rw [List.take_add_one, List.getElem?_eq_getElem hj]
      show strGo (q ^ i) 0 _ (l.take j ++ [l[j]]) = _
      rw [strGo_snoc, hF, List.length_take, Nat.min_eq_left (by omega), Nat.zero_add]
    have hij : q ^ i * j < F.length := by
      have : q ^ i * j ≤ q ^ i * (l.length - 1) := Nat.mul_le_mul_left _ (by omega)
      omega
    refine ⟨T2, [.int (j : Nat), vN l[j]], rfl, .inl (.inl upd_same), rfl, _, _, rfl, _, _, rfl, rfl, ?_⟩
    refine ⟨vN l[j], rfl, .ref pf, rfl, vN (q ^ i), rfl, vN j, rfl, ((q ^ i : Nat) : Int), (j : Int), rfl, rfl, .inl ⟨by omega, by omega⟩, pf, _, _, q ^ i * j, rfl, rfl, gT, ixN_of (by rw [Int.natCast_mul]) (by rw [nv_len]; exact hij), ?_⟩
    refine ⟨_, _, rfl, same_up (sm.trans sT) hpf0, ?_⟩
    rw [upd_same, etk]
    exact congrArg (fun z => some (HO.lst z)) (nv_set _ _ _)
  · rintro σ H3 ⟨y5, y6, rfl, sm, g⟩
    rw [nv_len, List.take_length] at g
    exact ⟨.ref pf, rfl, pf, _, rfl, .inl ⟨SqL.of g, fun t ht => k t _ (sm.trans (same_new ht)) (.inl (.inl upd_same))⟩⟩
/-- a list of polynomials -/
structure Tups (K : PySem.W.Frag) (H : Hp) (a : Addr) (ls : List (List Nat)) : Prop where
  ex : ∃ xs : List V, H a = some (.lst xs) ∧ xs.length = ls.length ∧ ∀ (i : Nat) (x : V) (l : List Nat), xs[i]? = some x → ls[i]? = some l → ∃ r, x = .ref r ∧ SqT K H r (nv l)
theorem Tups.same {H H2 : Hp} {a : Addr} {ls : List (List Nat)} (h : Tups K H a ls) (s : Same H H2) : Tups K H2 a ls := by
  obtain ⟨xs, h1, h2, h3⟩ := h.ex
  refine ⟨xs, s _ _ h1, h2, fun i x l e1 e2 => ?_⟩
  obtain ⟨r, e3, e4⟩ := h3 i x l e1 e2
  exact ⟨r, e3, same_tup s e4⟩
/-- one more at the end -/
theorem Tups.snoc {H : Hp} {a r : Addr} {xs : List V} {ls : List (List Nat)} {l : List Nat} (h1 : H a = some (.lst xs)) (h2 : xs.length = ls.length) (h3 : ∀ (i : Nat) (x : V) (l : List Nat), xs[i]? = some x → ls[i]? = some l → ∃ r, x = .ref r ∧ SqT K H r (nv l)) (hr : SqT K H r (nv l)) :
    Tups K (upd H a (.lst (xs ++ [.ref r]))) a (ls ++ [l]) := by
  have tp : ∀ {b : Addr} {ys : List V}, SqT K H b ys → SqT K (upd H a (.lst (xs ++ [.ref r]))) b ys := by
    rintro b ys ((h | ⟨o, h⟩) | h)
    · exact .inl (.inl ((upd_ne (ne_of h h1 (fun z => by cases z))).trans h))
    · exact .inl (.inr ⟨o, (upd_ne (ne_of h h1 (fun z => by cases z))).trans h⟩)
    · exact .inr h
  refine ⟨_, upd_same, by rw [List.length_append, List.length_append, h2] <;> rfl, fun i x m e1 e2 => ?_⟩
  by_cases hi : i < ls.length
  · rw [List.getElem?_append_left (by omega)] at e1
    rw [List.getElem?_append_left hi] at e2
    obtain ⟨b, e3, e4⟩ := h3 i x m e1 e2
    exact ⟨b, e3, tp e4⟩
  · have h4 := (List.getElem?_eq_some_iff.mp e2).1
    rw [List.length_append, List.length_singleton] at h4
    have hi2 : i = ls.length := by omega
    subst hi2
    rw [List.getElem?_append_right (Nat.le_refl _), Nat.sub_self] at e2
    rw [← h2, List.getElem?_append_right (Nat.le_refl _), Nat.sub_self] at e1
    have e3 : x = .ref r := (Option.some.inj e1).symm
    have e4 : m = l := (Option.some.inj e2).symm
    subst e3 e4
    exact ⟨r, rfl, tp hr⟩
theorem sc47 : FnScope ["_law_q_here", "_law_d", "_law_found", "_law_number"] ["_law_q_here", "_law_d"] (defScope (topS 47)) := ⟨rfl, rfl, rfl, by decide +kernel, rfl, by decide +kernel, by decide +kernel⟩
def spLow (K : PySem.W.Frag) (F : Nat → Nat → List (List Nat)) : Sp := fun vs H Q _ => ∃ q d : Nat, vs = [vN q, vN d] ∧ q ∈ FQ ∧ d < 1000 ∧ q ^ d ≤ 1000 ∧ ∀ p H2, Same H H2 → Tups K H2 p (F q d) → Q (.ref p) H2
theorem ok_47 (D : Def K mg "_law_lower" 47 ["_law_q_here", "_law_d"]) (C34 : Cal P w K mg base "_law_raised" ["_law_base", "_law_count"] 1 spPow) (C35 : Cal P w K mg base "_law_digits" ["_law_base", "_law_number"] 1 spDigs) (mr : mg "range" = none) (mt : mg "tuple" = none) :
    Cal P w K mg base "_law_lower" ["_law_q_here", "_law_d"] 2 (spLow K fun q d => (List.range (q ^ d)).map (digs q)) := by
  refine D.cal sc47 (fun vs H Q E ⟨_, _, h, _⟩ => by rw [h]; rfl) fun f0 cdv A outer s H vs Q E hr h => ?_
  obtain ⟨q, d, rfl, hq, hd, hp, k⟩ := h
  have hq2 := fq_pos hq
  refine ⟨_, pss_cons (ps_set (i := 2) sc47.nd rfl (.inl rfl) (pe_lst pa_nil))
    (pss_cons (ps_for PassesOwn.never rfl (pi_range1 rfl mr (pa_cons (pe_cal C34 hr (pa_cons (pv 0) (pa_cons (pv 1) pa_nil))) pa_nil)) (pg_name (i := 3) sc47.nd rfl (.inl rfl))
      (pss_one (ps_expr (pe_bm PySem.F.plainAttrs_list PySem.F.slot_list_append PySem.F.type_list_append mt_append (pv 2) (pa_cons (pe_callTy call_tuple_of (by rfl) mt PyProof.Rows.boot_tuple (pa_cons (pe_cal C35 hr (pa_cons (pv 0) (pa_cons (pv 3) pa_nil))) pa_nil)) pa_nil)))))
    (pss_one (ps_ret (pv 2)))), ?_⟩
  refine ⟨Nat.zero_le _, fun p hp0 => ?_⟩
  refine ⟨vN q, rfl, vN d, rfl, q, d, rfl, by omega, hd, ((q ^ d : Nat) : Int), rfl, by omega, by omega, ?_⟩
  rw [Int.toNat_natCast]
  refine for_range (lo := 0) (n := q ^ d) (fun i σ H' => ∃ y, σ = [some (vN q), some (vN d), some (.ref p), y] ∧ Same H H' ∧ Tups K H' p ((List.range i).map (digs q))) ⟨none, rfl, same_new hp0, ⟨[], upd_same, rfl, fun i x l e => by simp at e⟩⟩ ?_ ?_
  · rintro i σ H3 hi ⟨y, rfl, sm, ht⟩
    have e0 : V.int (0 + (i : Int)) = vN i := by rw [Int.zero_add]
    rw [e0]
    obtain ⟨xs, h1, h2, h3⟩ := ht.ex
    refine ⟨.ref p, rfl, .inl ⟨rfl, _, SqL.of h1⟩, vN q, rfl, vN i, rfl, q, i, rfl, by omega, by omega, by omega, fun d1 H4 s4 n4 e4 => ?_⟩
    refine ⟨d1, _, rfl, .inl ⟨SqL.of e4, fun t ht => ?_⟩⟩
    have s5 := s4.trans (same_new (o := .tup (nv (digs q i))) ht)
    refine ⟨p, xs, .ref t, rfl, rfl, s5 _ _ h1, ?_, _, rfl, same_up (sm.trans s5) hp0, ?_⟩
    · rw [h2, List.length_map, List.length_range]
      exact small1000 (by omega)
    · rw [List.range_succ, List.map_append]
      exact Tups.snoc (s5 _ _ h1) h2 (fun j x l e1 e2 => by
        obtain ⟨r, e3, e4⟩ := h3 j x l e1 e2
        exact ⟨r, e3, same_tup s5 e4⟩) (.inl (.inl upd_same))
  · rintro σ H3 ⟨y, rfl, sm, ht⟩
    exact ⟨.ref p, rfl, k p H3 sm ht⟩
theorem sc48 : FnScope ["_law_q_here", "_law_d", "_law_a"] ["_law_q_here", "_law_d"] (defScope (topS 48)) := ⟨rfl, rfl, rfl, by decide +kernel, rfl, by decide +kernel, by decide +kernel⟩
theorem ok_48 (D : Def K mg "_law_monics" 48 ["_law_q_here", "_law_d"]) (C47 : Cal P w K mg base "_law_lower" ["_law_q_here", "_law_d"] 2 (spLow K fun q d => (List.range (q ^ d)).map (digs q))) (ml : mg "len" = none) :
    Cal P w K mg base "_law_monics" ["_law_q_here", "_law_d"] 3 (spLow K monics) := by
  refine D.cal sc48 (fun vs H Q E ⟨_, _, h, _⟩ => by rw [h]; rfl) fun f0 cdv A outer s H vs Q E hr h => ?_
  obtain ⟨q, d, rfl, hq, hd, hp, k⟩ := h
  have hq2 := fq_pos hq
  refine ⟨_, pss_one (ps_ret (pe_lc (own := [("_law_a", 2)]) (g := gName 2) (tt := tYes) rfl sc48.nd (pi_list (pe_cal C47 hr (pa_cons (pv 0) (pa_cons (pv 1) pa_nil))))
    (blkOk_by (N := ["_law_q_here", "_law_d", "_law_a"]) (own := [("_law_a", 2)]) (sc := defScope (topS 48)) (by decide +kernel)) (fun _ _ _ _ _ => pg_name (i := 2) sc48.nd rfl (.inl rfl)) (fun _ _ _ _ _ => pts_nil)
    (fun _ _ _ _ _ => pe_op (r := rCatF K) op_catF (pe_op (r := rCatF K) op_catF (pv 2) (pe_op (r := rRepZ K) op_repZ (pe_tup (pa_cons pe_int pa_nil)) (pe_op op_sub (pv 1)
      (pe_callB (r := fun xs H Q => ∃ p ys, xs = [.ref p] ∧ (SqL K H p ys ∨ SqT K H p ys) ∧ Q (.int ys.length) H) call_len_seq (by rfl) ml PySem.boot_len (pa_cons (pv 2) pa_nil))))) (pe_tup (pa_cons pe_int pa_nil))))), ?_⟩
  refine ⟨vN q, rfl, vN d, rfl, q, d, rfl, hq, hd, hp, fun pl H1 s1 ht => ?_⟩
  obtain ⟨xs, h1, h2, h3⟩ := ht.ex
  rw [List.length_map, List.length_range] at h2
  refine ⟨pl, rfl, ⟨_, SqL.of h1⟩, fun Dl hD => ?_⟩
  refine lc_list (K := K) (a := pl) (xs := xs) (fun i H' => Same H1 H' ∧ Tups K H' Dl ((List.range i).map (monicN q d))) ⟨same_new hD, ⟨[], upd_same, rfl, fun i x l e => by simp at e⟩⟩ (fun i H' _ g => SqL.of (g.1 _ _ h1)) ?_ ?_
  · rintro i x H2 hx ⟨s2, t2⟩
    have hi : i < q ^ d := by rw [← h2]; exact (List.getElem?_eq_some_iff.mp hx).1
    obtain ⟨r, rfl, hr2⟩ := h3 i x (digs q i) hx (by rw [List.getElem?_map, List.getElem?_range hi]; rfl)
    have dl : (digs q i).length ≤ i := digF_len q i i
    have hr3 := same_tup s2 hr2
    refine ⟨rfl, .ref r, rfl, Nat.le_of_lt (small1000 (by decide)), fun z1 n1 => ?_⟩
    have s3 := same_new (o := .tup [V.int 0]) n1
    refine ⟨vN d, rfl, .ref r, rfl, r, _, rfl, .inr (same_tup s3 hr3), _, _, rfl, rfl, z1, _, .int 0, rfl, rfl, .inl (.inl upd_same), ?_, ?_, fun z2 H4 s4 h4 => ?_⟩
    · rw [nv_len]; omega
    · rw [nv_len]; omega
    refine ⟨r, z2, _, _, rfl, rfl, same_tup (s3.trans s4) hr3, h4, ?_, fun z3 H5 s5 h5 => ?_⟩
    · rw [nv_len, List.length_replicate]
      exact line_le (by omega)
    refine ⟨Nat.le_of_lt (small1000 (by decide)), fun z6 n6 => ?_⟩
    have s6 := same_new (o := .tup [V.int 1]) n6
    refine ⟨z3, z6, _, _, rfl, rfl, same_tup s6 h5, .inl (.inl upd_same), ?_, fun z7 H7 s7 h7 => ?_⟩
    · rw [List.length_append, nv_len, List.length_replicate]
      exact line_le (by simp; omega)
    have em : (nv (digs q i) ++ List.replicate ((d : Int) - ((nv (digs q i)).length : Int)).toNat (V.int 0)) ++ [V.int 1] = nv (monicN q d i) := by
      have e1 : ((d : Int) - ((nv (digs q i)).length : Int)).toNat = d - (digs q i).length := by rw [nv_len]; omega
      rw [e1]
      unfold monicN
      rw [nv_app, nv_app]
      congr 2
      unfold nv
      rw [List.map_replicate]
      rfl
    rw [em] at h7
    have s27 := (((s3.trans s4).trans s5).trans s6).trans s7
    obtain ⟨ys, g1, g2, g3⟩ := t2.ex
    refine ⟨ys, s27 _ _ g1, ?_, same_up (s2.trans s27) hD, ?_⟩
    · rw [g2, List.length_map, List.length_range]
      exact small1000 (by omega)
    · rw [List.range_succ, List.map_append]
      exact Tups.snoc (s27 _ _ g1) g2 (fun j x l e1 e2 => by
        obtain ⟨r, e3, e4⟩ := g3 j x l e1 e2
        exact ⟨r, e3, same_tup s27 e4⟩) h7
  · rintro H2 ⟨s2, t2⟩
    rw [h2] at t2
    exact k Dl H2 (s1.trans s2) t2
theorem sc50 : FnScope ["_law_q_here", "_law_most", "_law_d"] ["_law_q_here", "_law_most"] (defScope (topS 50)) := ⟨rfl, rfl, rfl, by decide +kernel, rfl, by decide +kernel, by decide +kernel⟩
def spSize : Sp := fun vs H Q _ => ∃ q : Nat, vs = [vN q, vN 27] ∧ q ∈ FQ ∧ Q (vN (DQ q)) H
theorem ok_50 (D : Def K mg "_law_size" 50 ["_law_q_here", "_law_most"]) (C34 : Cal P w K mg base "_law_raised" ["_law_base", "_law_count"] 1 spPow) : Cal P w K mg base "_law_size" ["_law_q_here", "_law_most"] 2 spSize := by
  refine D.cal sc50 (fun vs H Q E ⟨_, h, _⟩ => by rw [h]; rfl) fun f0 cdv A outer s H vs Q E hr h => ?_
  obtain ⟨q, rfl, hq, k⟩ := h
  have hq2 := fq_pos hq
  have hD : DQ q ≤ 4 := by
    have z : ∀ q ∈ FQ, DQ q ≤ 4 := by decide
    exact z q hq
  have hlt : ∀ d, d < DQ q → q ^ (d + 1) ≤ 27 := by
    have z : ∀ q ∈ FQ, ∀ d, d < DQ q → q ^ (d + 1) ≤ 27 := by decide
    exact z q hq
  have hge : ¬ q ^ (DQ q + 1) ≤ 27 := by
    have z : ∀ q ∈ FQ, ¬ q ^ (DQ q + 1) ≤ 27 := by decide
    exact z q hq
  refine ⟨_, pss_cons (ps_set (i := 2) sc50.nd rfl (.inl rfl) pe_int)
    (pss_cons (ps_while PassesOwn.never (pt_cmpR op_le (pe_cal C34 hr (pa_cons (pv 0) (pa_cons (pe_op op_add (pv 2) pe_int) pa_nil))) (pv 1) (nomark _))
      (pss_one (ps_set (i := 2) sc50.nd rfl (.inl rfl) (pe_op op_add (pv 2) pe_int))))
    (pss_one (ps_ret (pv 2)))), ?_⟩
  refine ⟨fun n σ H1 => ∃ d, n = DQ q - d ∧ d ≤ DQ q ∧ σ = [some (vN q), some (vN 27), some (vN d)] ∧ H1 = H, ⟨DQ q, 0, rfl, Nat.zero_le _, rfl, rfl⟩, ?_⟩
  rintro n σ H1 ⟨d, rfl, hd, rfl, rfl⟩
  refine ⟨vN q, rfl, vN d, rfl, _, _, rfl, rfl, q, d + 1, rfl, by omega, by omega, vN 27, rfl, _, _, rfl, rfl, _, rfl, ite2 (fun c => ?_) (fun c => ?_)⟩
  · have c2 : q ^ (d + 1) ≤ 27 := by have := of_decide_eq_true c; omega
    have hd2 : d < DQ q := by
      rcases Nat.lt_or_ge d (DQ q) with z | z
      · exact z
      · have e : d = DQ q := by omega
        rw [e] at c2
        exact absurd c2 hge
    refine ⟨fun σ' H' => ∃ d', DQ q - (d + 1) = DQ q - d' ∧ d' ≤ DQ q ∧ σ' = [some (vN q), some (vN 27), some (vN d')] ∧ H' = H1, fun σ' H' hN => ⟨DQ q - (d + 1), by omega, hN⟩, ?_⟩
    exact ⟨vN d, rfl, _, _, rfl, rfl, d + 1, rfl, hd2, rfl, rfl⟩
  · have c2 : ¬ q ^ (d + 1) ≤ 27 := fun z => c (decide_eq_true (show ((q ^ (d + 1) : Nat) : Int) ≤ ((27 : Nat) : Int) by omega))
    have hd2 : d = DQ q := by
      rcases Nat.lt_or_ge d (DQ q) with z | z
      · exact absurd (hlt d z) c2
      · omega
    subst hd2
    exact ⟨_, rfl, k⟩
theorem sc51 : FnScope ["_law_field_here", "_law_j"] ["_law_field_here", "_law_j"] (defScope (topS 51)) := ⟨rfl, rfl, rfl, by decide +kernel, rfl, by decide +kernel, by decide +kernel⟩
def spBrB (K : PySem.W.Frag) : Sp := fun vs H Q _ => ∃ (f : Addr) (q j : Nat), vs = [.ref f, vN j] ∧ FldAt H f q ∧ q ∈ FQ ∧ 1 ≤ j ∧ j < 1000 ∧ q ^ j ≤ 1000 ∧ RetT K H Q (brkP q j)
theorem ok_51 (D : Def K mg "_law_bracket" 51 ["_law_field_here", "_law_j"]) (C34 : Cal P w K mg base "_law_raised" ["_law_base", "_law_count"] 1 spPow) : Cal P w K mg base "_law_bracket" ["_law_field_here", "_law_j"] 2 (spBrB K) := by
  refine D.cal sc51 (fun vs H Q E ⟨_, _, _, h, _⟩ => by rw [h]; rfl) fun f0 cdv A outer s H vs Q E hr h => ?_
  obtain ⟨f, q, j, rfl, hf, hq, hj, hj2, hp, k⟩ := h
  have hq2 := fq_pos hq
  have hp2 := pow2 hq hj
  refine ⟨_, pss_one (ps_ret (pe_op op_catF (pe_op op_catF (pe_tup (pa_cons pe_int (pa_cons (pe_ix ix_list (pe_dget (hu_of hr) (pv 0) pe_str (fun _ _ => rfl)) pe_int (fun _ _ => rfl)) pa_nil)))
    (pe_op op_repZ (pe_tup (pa_cons pe_int pa_nil)) (pe_op op_sub (pe_cal C34 hr (pa_cons (pe_dget (hu_of hr) (pv 0) pe_str (fun _ _ => rfl)) (pa_cons (pv 1) pa_nil))) pe_int))) (pe_tup (pa_cons pe_int pa_nil)))), ?_⟩
  obtain ⟨an, gn, rn⟩ := fld_minus hf
  have hMl : (MINUS q).length = q := (minus_sh q hq).1
  refine ⟨.ref f, rfl, f, .ref an, rfl, gn, an, _, 1, vN ((MINUS q).getD 1 0), rfl, rfl, SqL.of rn, at_of (j := 1) rfl (nv_getD (by omega)), Nat.le_of_lt (small1000 (show 2 ≤ 1000 by decide)), fun t1 n1 => ?_⟩
  have s1 := same_new (o := .tup [V.int 0, vN ((MINUS q).getD 1 0)]) n1
  refine ⟨Nat.le_of_lt (small1000 (by decide)), fun t2 n2 => ?_⟩
  have s2 := same_new (o := .tup [V.int 0]) n2
  refine ⟨.ref f, rfl, f, vN q, rfl, fld_q (hf.same (s1.trans s2)), vN j, rfl, q, j, rfl, by omega, hj2, ((q ^ j : Nat) : Int), 2, rfl, rfl, t2, ((q ^ j : Nat) : Int) - 2, .int 0, rfl, rfl, .inl (.inl upd_same), by omega, by omega, fun z2 H4 s4 h4 => ?_⟩
  refine ⟨t1, z2, _, _, rfl, rfl, .inl (.inl ((s2.trans s4) _ _ upd_same)), h4, ?_, fun z3 H5 s5 h5 => ?_⟩
  · rw [List.length_replicate]
    exact line_le (show 2 + _ ≤ _ by omega)
  refine ⟨Nat.le_of_lt (small1000 (by decide)), fun z6 n6 => ?_⟩
  have s6 := same_new (o := .tup [V.int 1]) n6
  refine ⟨z3, z6, _, _, rfl, rfl, same_tup s6 h5, .inl (.inl upd_same), ?_, fun z7 H7 s7 h7 => ?_⟩
  · rw [List.length_append, List.length_replicate]
    exact line_le (show (2 + _) + 1 ≤ _ by omega)
  have em : ([V.int 0, vN ((MINUS q).getD 1 0)] ++ List.replicate (((q ^ j : Nat) : Int) - 2).toNat (V.int 0)) ++ [V.int 1] = nv (brkP q j) := by
    rw [show (((q ^ j : Nat) : Int) - 2).toNat = q ^ j - 2 by omega]
    unfold nv brkP
    simp [vN]
  rw [em] at h7
  exact k z7 H7 (((((s1.trans s2).trans s4).trans s5).trans s6).trans s7) h7
theorem sc52 : FnScope ["_law_field_here", "_law_d", "_law_found", "_law_j"] ["_law_field_here", "_law_d"] (defScope (topS 52)) := ⟨rfl, rfl, rfl, by decide +kernel, rfl, by decide +kernel, by decide +kernel⟩
def spAllB (K : PySem.W.Frag) (F : Nat → Nat → List Nat) : Sp := fun vs H Q _ => ∃ (f : Addr) (q d : Nat), vs = [.ref f, vN d] ∧ FldAt H f q ∧ Okd q d ∧ RetT K H Q (F q d)
theorem ok_52 (D : Def K mg "_law_all_product" 52 ["_law_field_here", "_law_d"]) (C41 : Cal P w K mg base "_law_product" ["_law_field_here", "_law_one", "_law_other"] 1 (spProd K)) (C44 : Cal P w K mg base "_law_stretched" ["_law_q_here", "_law_one", "_law_i"] 2 (spStr K))
    (C51 : Cal P w K mg base "_law_bracket" ["_law_field_here", "_law_j"] 2 (spBrB K)) (mr : mg "range" = none) : Cal P w K mg base "_law_all_product" ["_law_field_here", "_law_d"] 3 (spAllB K fun q d => allB q d d) := by
  refine D.cal sc52 (fun vs H Q E ⟨_, _, _, h, _⟩ => by rw [h]; rfl) fun f0 cdv A outer s H vs Q E hr h => ?_
  obtain ⟨f, q, d, rfl, hf, ok, k⟩ := h
  have hq := ok.1
  have hq2 := fq_pos hq
  have hd := ok.2.1
  refine ⟨_, pss_cons (ps_set (i := 2) sc52.nd rfl (.inl rfl) (pe_tup (pa_cons pe_int pa_nil)))
    (pss_cons (ps_for PassesOwn.never rfl (pi_range1 rfl mr (pa_cons (pv 1) pa_nil)) (pg_name (i := 3) sc52.nd rfl (.inl rfl))
      (pss_one (ps_set (i := 2) sc52.nd rfl (.inl rfl) (pe_cal C41 (hr.mono (by decide)) (pa_cons (pv 0) (pa_cons (pv 2) (pa_cons
        (pe_cal C44 hr (pa_cons (pe_dget (hu_of hr) (pv 0) pe_str (fun _ _ => rfl)) (pa_cons (pe_cal C51 hr (pa_cons (pv 0) (pa_cons (pe_op op_sub (pv 1) (pv 3)) pa_nil))) (pa_cons (pv 3) pa_nil)))) pa_nil)))))))
    (pss_one (ps_ret (pv 2)))), ?_⟩
  refine ⟨Nat.le_of_lt (small1000 (by decide)), fun p0 n0 => ?_⟩
  have s0 := same_new (o := .tup [V.int 1]) n0
  refine ⟨vN d, rfl, (d : Int), rfl, by omega, by omega, ?_⟩
  rw [Int.toNat_natCast]
  refine for_range (lo := 0) (n := d) (fun i σ H1 => ∃ p y, σ = [some (.ref f), some (vN d), some (.ref p), y] ∧ Same H H1 ∧ SqT K H1 p (nv (allB q d i))) ⟨p0, none, rfl, s0, .inl (.inl upd_same)⟩ ?_ ?_
  · rintro i σ H1 hi ⟨p, y, rfl, sm, fp⟩
    have ei : V.int (0 + (i : Int)) = vN i := by rw [Int.zero_add]
    rw [ei]
    have es : ((d : Int) - (i : Int)) = ((d - i : Nat) : Int) := by omega
    have hfm := hf.same sm
    refine ⟨.ref f, rfl, .ref p, rfl, .ref f, rfl, f, vN q, rfl, fld_q hfm, .ref f, rfl, vN d, rfl, vN i, rfl, (d : Int), (i : Int), rfl, rfl, f, q, d - i, ?_, hfm, hq, by omega, by omega, Nat.le_trans (ok.le (by omega)) (by omega), fun p1 H2 s1 f1 => ?_⟩
    · exact congrArg (fun z => [V.ref f, V.int z]) es
    have hpow : q ^ i * q ^ (d - i) = q ^ d := by rw [← Nat.pow_add, show i + (d - i) = d by omega]
    have h700 := ok.pow
    refine ⟨vN i, rfl, q, i, p1, brkP q (d - i), rfl, hq, by omega, f1, brkP_ne _ _, Nat.le_trans (ok.le (by omega)) (by omega), ?_, fun p2 H3 s2 f2 => ?_⟩
    · rw [brkP_len hq (by omega), Nat.add_sub_cancel, hpow]
      omega
    have hl := allB_len (d := d) hq i (by omega)
    have h1 : i * q ^ d ≤ d * q ^ d := Nat.mul_le_mul_right _ (by omega)
    have h2 := ok.2.2
    refine ⟨f, p, p2, q, allB q d i, _, rfl, hfm.same (s1.trans s2), hq, same_tup (s1.trans s2) fp, f2, allB_pol hq i, strP_pol (by omega) (brkP_pol hq _), by omega, ?_, fun p3 H4 s3 f3 => ?_⟩
    · rw [strP_len, brkP_len hq (by omega), Nat.add_sub_cancel, hpow]
      omega
    · exact ⟨p3, _, rfl, ((sm.trans s1).trans s2).trans s3, f3⟩
  · rintro σ H1 ⟨p, y, rfl, sm, fp⟩
    exact ⟨.ref p, rfl, k p H1 sm fp⟩
theorem sc53 : FnScope ["_law_field_here", "_law_d", "_law_found", "_law_j"] ["_law_field_here", "_law_d"] (defScope (topS 53)) := ⟨rfl, rfl, rfl, by decide +kernel, rfl, by decide +kernel, by decide +kernel⟩
theorem ok_53 (D : Def K mg "_law_least_multiple" 53 ["_law_field_here", "_law_d"]) (C41 : Cal P w K mg base "_law_product" ["_law_field_here", "_law_one", "_law_other"] 1 (spProd K))
    (C51 : Cal P w K mg base "_law_bracket" ["_law_field_here", "_law_j"] 2 (spBrB K)) (mr : mg "range" = none) : Cal P w K mg base "_law_least_multiple" ["_law_field_here", "_law_d"] 3 (spAllB K fun q d => lcmB q d) := by
  refine D.cal sc53 (fun vs H Q E ⟨_, _, _, h, _⟩ => by rw [h]; rfl) fun f0 cdv A outer s H vs Q E hr h => ?_
  obtain ⟨f, q, d, rfl, hf, ok, k⟩ := h
  have hq := ok.1
  have hq2 := fq_pos hq
  have hd := ok.2.1
  refine ⟨_, pss_cons (ps_set (i := 2) sc53.nd rfl (.inl rfl) (pe_tup (pa_cons pe_int pa_nil)))
    (pss_cons (ps_for PassesOwn.never rfl (pi_range2 (by rfl) mr (pa_cons pe_int (pa_cons (pe_op op_add (pv 1) pe_int) pa_nil))) (pg_name (i := 3) sc53.nd rfl (.inl rfl))
      (pss_one (ps_set (i := 2) sc53.nd rfl (.inl rfl) (pe_cal C41 (hr.mono (by decide)) (pa_cons (pv 0) (pa_cons (pv 2) (pa_cons
        (pe_cal C51 hr (pa_cons (pv 0) (pa_cons (pv 3) pa_nil))) pa_nil)))))))
    (pss_one (ps_ret (pv 2)))), ?_⟩
  refine ⟨Nat.le_of_lt (small1000 (by decide)), fun p0 n0 => ?_⟩
  have s0 := same_new (o := .tup [V.int 1]) n0
  refine ⟨vN d, rfl, (d : Int), 1, rfl, rfl, 1, (d : Int) + 1, rfl, by omega, ?_⟩
  have en : ((d : Int) + 1 - 1).toNat = d := by omega
  rw [en]
  refine for_range (lo := 1) (n := d) (fun i σ H1 => ∃ p y, σ = [some (.ref f), some (vN d), some (.ref p), y] ∧ Same H H1 ∧ SqT K H1 p (nv (lcmB q i))) ⟨p0, none, rfl, s0, .inl (.inl upd_same)⟩ ?_ ?_
  · rintro i σ H1 hi ⟨p, y, rfl, sm, fp⟩
    have ei : V.int (1 + (i : Int)) = vN (i + 1) := by
      show V.int _ = V.int _
      congr 1
      omega
    rw [ei]
    have hfm := hf.same sm
    refine ⟨.ref f, rfl, .ref p, rfl, .ref f, rfl, vN (i + 1), rfl, f, q, i + 1, rfl, hfm, hq, by omega, by omega, Nat.le_trans (ok.le (by omega)) (by omega), fun p1 H2 s1 f1 => ?_⟩
    have hl := lcmB_len hq i
    have h1 : i * q ^ i ≤ d * q ^ d := Nat.mul_le_mul (by omega) (Nat.pow_le_pow_right (by omega) (by omega))
    have h2 := ok.2.2
    have h3 := ok.le (j := i + 1) (by omega)
    refine ⟨f, p, p1, q, lcmB q i, _, rfl, hfm.same s1, hq, same_tup s1 fp, f1, lcmB_pol hq i, brkP_pol hq _, by omega, ?_, fun p3 H4 s3 f3 => ?_⟩
    · rw [brkP_len hq (by omega)]
      omega
    · exact ⟨p3, _, rfl, (sm.trans s1).trans s3, f3⟩
  · rintro σ H1 ⟨p, y, rfl, sm, fp⟩
    exact ⟨.ref p, rfl, k p H1 sm fp⟩
end
end K13
/-! the law's two turns -/
namespace K13
open PySem PySem.Spec PyProof.Rows L2
/-! ### the finite facts -/
theorem all_one : (FQ.all fun q => (List.range (DQ q + 1)).all fun d => okOne q d) = true := by decide +kernel
theorem all_more : (FQ.all fun q => (List.range (GQ q + 1)).all fun d => okMore q d) = true := by decide +kernel
theorem all_last : (FQ.all fun q => (List.range (DQ q + 1)).all fun d => (lcmB q d).getLastD 0 != 0) = true := by decide +kernel
theorem all_of {G : Nat → Nat} {p : Nat → Nat → Bool} (h : (FQ.all fun q => (List.range (G q + 1)).all fun d => p q d) = true) {q d : Nat} (hq : q ∈ FQ) (hd : d ≤ G q) : p q d = true :=
  List.all_eq_true.mp (List.all_eq_true.mp h q hq) d (List.mem_range.mpr (by omega))
theorem okd_all : ∀ q ∈ FQ, ∀ d, d < GQ q + 1 → d ≤ 10 ∧ d * q ^ d ≤ 700 := by decide
theorem okd_of {q d : Nat} (hq : q ∈ FQ) (hd : d ≤ GQ q) : Okd q d := ⟨hq, okd_all q hq d (by omega)⟩
theorem dq_gq : ∀ q ∈ FQ, DQ q ≤ GQ q ∧ DQ q ≤ 4 ∧ GQ q ≤ 6 := by decide
theorem dq_pow : ∀ q ∈ FQ, ∀ d, d < DQ q + 1 → q ^ d ≤ 27 := by decide
theorem gq_in : ∀ q ∈ FQ, ∀ d, d < GQ q → (d + 1) * q ^ (d + 1) ≤ 700 := by decide
theorem gq_out : ∀ q ∈ FQ, ¬ (GQ q + 1) * q ^ (GQ q + 1) ≤ 700 := by decide
/-- the two products one by one -/
abbrev PC (q d : Nat) : List Nat := allC q (monics q d) [1]
abbrev LC (q d : Nat) : List Nat := lcmC q (monics q d) [1]
structure One (q d : Nat) : Prop where
  a1 : allA q d d = PC q d
  a2 : lcmA q d = LC q d
  b1 : PC q d = allB q d d
  b2 : LC q d = lcmB q d
  l1 : (PC q d).length = d * q ^ d + 1
  l2 : (LC q d).length = (q * q ^ d - q) / (q - 1) + 1
  rm : remP (PLUS q) (MUL q) (MINUS q) (PC q d) (LC q d) = []
  ls : (LC q d).getLastD 0 ≠ 0
theorem one_of {q d : Nat} (hq : q ∈ FQ) (hd : d ≤ DQ q) : One q d := by
  have h := all_of (G := DQ) (p := okOne) all_one hq hd
  have h9 := all_of (G := DQ) (p := fun q d => (lcmB q d).getLastD 0 != 0) all_last hq hd
  unfold okOne at h
  simp only [Bool.and_eq_true] at h
  obtain ⟨⟨⟨⟨⟨⟨h1, h2⟩, h3⟩, h4⟩, h5⟩, h6⟩, h7⟩ := h
  have e4 := eq_of_beq h4
  refine ⟨eq_of_beq h1, eq_of_beq h2, eq_of_beq h3, e4, eq_of_beq h5, eq_of_beq h6, List.isEmpty_iff.mp h7, ?_⟩
  show (lcmC q (monics q d) [1]).getLastD 0 ≠ 0
  rw [e4]
  exact bne_iff_ne.mp h9
theorem more_of {q d : Nat} (hq : q ∈ FQ) (hd : d ≤ GQ q) : lcmA q d = lcmB q d ∧ allA q d d = allB q d d := by
  have h := all_of (G := GQ) (p := okMore) all_more hq hd
  unfold okMore at h
  simp only [Bool.and_eq_true] at h
  exact ⟨eq_of_beq h.1, eq_of_beq h.2⟩
/-! ### one monic more -/
theorem allC_snoc (q : Nat) (m : List Nat) : ∀ (ms : List (List Nat)) (f : List Nat), allC q (ms ++ [m]) f = mulP (PLUS q) (MUL q) (allC q ms f) m
  | [], _ => rfl
  | a :: ms, f => allC_snoc q m ms (mulP (PLUS q) (MUL q) f a)
theorem lcmC_snoc (q : Nat) (m : List Nat) : ∀ (ms : List (List Nat)) (f : List Nat), lcmC q (ms ++ [m]) f = mulP (PLUS q) (MUL q) (lcmC q ms f) (quoP (PLUS q) (MUL q) (MINUS q) m (comP (PLUS q) (MUL q) (MINUS q) (lcmC q ms f) m))
  | [], _ => rfl
  | a :: ms, f => lcmC_snoc q m ms _
theorem allC_in {q c : Nat} (hq : q ∈ FQ) : ∀ (ms : List (List Nat)) (f : List Nat), (∀ m ∈ ms, m.length ≤ c) → Pol q f → Pol q (allC q ms f) ∧ (allC q ms f).length ≤ f.length + c * ms.length
  | [], f, _, h => ⟨h, Nat.le_refl _⟩
  | m :: ms, f, hc, h => by
    have h1 := allC_in (c := c) hq ms (mulP (PLUS q) (MUL q) f m) (fun x hx => hc x (List.mem_cons_of_mem _ hx)) (mulP_pol (by have := fq_pos hq; omega) ((tab_plus hq).lt (by have := fq_pos hq; omega)) _ _)
    have h2 := mulP_len (P := PLUS q) (M := MUL q) f m
    have h3 := hc m List.mem_cons_self
    refine ⟨h1.1, Nat.le_trans h1.2 ?_⟩
    rw [List.length_cons, Nat.mul_succ]
    omega
theorem lcmC_in {q c : Nat} (hq : q ∈ FQ) : ∀ (ms : List (List Nat)) (f : List Nat), (∀ m ∈ ms, m.length ≤ c) → Pol q f → Pol q (lcmC q ms f) ∧ (lcmC q ms f).length ≤ f.length + (c + 1) * ms.length
  | [], f, _, h => ⟨h, Nat.le_refl _⟩
  | m :: ms, f, hc, h => by
    have h1 := lcmC_in (c := c) hq ms (mulP (PLUS q) (MUL q) f (quoP (PLUS q) (MUL q) (MINUS q) m (comP (PLUS q) (MUL q) (MINUS q) f m))) (fun x hx => hc x (List.mem_cons_of_mem _ hx)) (mulP_pol (by have := fq_pos hq; omega) ((tab_plus hq).lt (by have := fq_pos hq; omega)) _ _)
    have h2 := mulP_len (P := PLUS q) (M := MUL q) f (quoP (PLUS q) (MUL q) (MINUS q) m (comP (PLUS q) (MUL q) (MINUS q) f m))
    have h3 := hc m List.mem_cons_self
    have h4 := quoP_len (P := PLUS q) (M := MUL q) (N := MINUS q) m (comP (PLUS q) (MUL q) (MINUS q) f m)
    refine ⟨h1.1, Nat.le_trans h1.2 ?_⟩
    rw [List.length_cons, Nat.mul_succ]
    omega
theorem monic_ok {q d n : Nat} (hq : q ∈ FQ) (hd : d ≤ 4) (hn : n ≤ 27) : Pol q (monicN q d n) ∧ monicN q d n ≠ [] ∧ Trm (monicN q d n) ∧ (monicN q d n).length ≤ 28 := by
  have hq2 := fq_pos hq
  have h1 : (digs q n).length ≤ n := digF_len q n n
  unfold monicN
  refine ⟨((digF_pol q (by omega) _ _).append (.rep (by omega) _)).append (.cons (by omega) .nil), by simp, .inr ?_, ?_⟩
  · rw [List.getLastD_concat]
    decide
  · rw [List.length_append, List.length_append, List.length_replicate, List.length_singleton]
    omega
/-- i of the monics -/
abbrev mon (q d i : Nat) : List (List Nat) := (List.range i).map (monicN q d)
theorem mon_succ (q d i : Nat) : mon q d (i + 1) = mon q d i ++ [monicN q d i] := by
  unfold mon
  rw [List.range_succ, List.map_append]
  rfl
theorem mon_len {q d i : Nat} (hq : q ∈ FQ) (hd : d ≤ 4) (hi : i ≤ 27) : ∀ m ∈ mon q d i, m.length ≤ 28 := fun m hm => by
  obtain ⟨j, hj, rfl⟩ := List.mem_map.mp hm
  have := List.mem_range.mp hj
  exact (monic_ok hq hd (by omega)).2.2.2
structure Mid (q d i : Nat) : Prop where
  p1 : Pol q (allC q (mon q d i) [1])
  p2 : Pol q (lcmC q (mon q d i) [1])
  l1 : (allC q (mon q d i) [1]).length ≤ 1000
  l2 : (lcmC q (mon q d i) [1]).length ≤ 1000
theorem mid_of {q d i : Nat} (hq : q ∈ FQ) (hd : d ≤ 4) (hi : i ≤ 27) : Mid q d i := by
  have one : Pol q [1] := .cons (by have := fq_pos hq; omega) .nil
  have h1 := allC_in hq (mon q d i) [1] (mon_len hq hd hi) one
  have h2 := lcmC_in hq (mon q d i) [1] (mon_len hq hd hi) one
  have e : (mon q d i).length = i := by unfold mon; rw [List.length_map, List.length_range]
  rw [e] at h1 h2
  refine ⟨h1.1, h2.1, Nat.le_trans h1.2 ?_, Nat.le_trans h2.2 ?_⟩ <;> rw [List.length_singleton] <;> omega
theorem neF {l m : List Nat} (h : l = m) : (!(l == m)) = false := by rw [h, beq_self_eq_true]; rfl
theorem eqT {l m : List Nat} (h : l = m) : (l == m) = true := by rw [h, beq_self_eq_true]
theorem ndF {p : Prop} [Decidable p] (h : p) : (!decide p) = false := by rw [decide_eq_true h]; rfl
section
variable {P : Program} {w : World} {K : PySem.W.Frag} {mg : Str → Option Value} {base : Heap}
abbrev N54 : List Str := ["_law_dice_here", "_law_q_here", "_law_field_here", "_law_d", "_law_product_here", "_law_least", "_law_one", "_law_size_here", "_law_great", "_law_more"]
theorem sc54 : FnScope N54 ["_law_dice_here"] (defScope (topS 54)) := ⟨rfl, rfl, rfl, by decide +kernel, rfl, by decide +kernel, by decide +kernel⟩
theorem dice_but {a : Addr} {H H2 : Hp} (d : DiceAt H a) (s : Same H H2) : DiceAt H2 a := let ⟨x, y, z, e⟩ := d; ⟨x, y, z, s _ _ e⟩
theorem fld_but {a f : Addr} {q : Nat} {H H2 : Hp} (h : FieldAt (fun b => b ≠ a) H f q) (b : But a H H2) : FieldAt (fun b => b ≠ a) H2 f q := h.mono (fun c o z e => b c o z e) fun _ z => z
/-- from great on -/
theorem rest_54c {f0 : Addr} {cdv : Value} {A : Around} {outer : List Env} {s : Shared} {H : Hp} {E : XK} (hr : Room 4 (A.deeper (envOfC "_law_right" (defScope (topS 54)) s.heap.objs.size f0 cdv)))
    (C34 : Cal P w K mg base "_law_raised" ["_law_base", "_law_count"] 1 spPow) (C32 : Cal P w K mg base "_law_roll" ["_law_dice_here", "_law_total"] 1 spRoll)
    (C28 : Cal P w K mg base "all_product" ["q", "d"] 4 (spAll fun q d => allA q d d)) (C29 : Cal P w K mg base "least_multiple" ["q", "d"] 4 (spAll fun q d => lcmA q d))
    (C52 : Cal P w K mg base "_law_all_product" ["_law_field_here", "_law_d"] 3 (spAllB K fun q d => allB q d d)) (C53 : Cal P w K mg base "_law_least_multiple" ["_law_field_here", "_law_d"] 3 (spAllB K fun q d => lcmB q d)) :
    ∃ t, PSs (cxOf CX0 P w K mg base N54 "_law_right" (defScope (topS 54)) f0 cdv A outer s H E).nox ((defBody (topS 54)).drop 10) t ∧
      ∀ (q : Nat) (f a : Addr) (y3 y4 y5 y6 y7 : Option V) (H1 : Hp) (Q : VK) (nx : L2.St → Hp → Prop), q ∈ FQ → FieldAt (fun b => b ≠ a) H1 f q → DiceAt H1 a → (∀ H2, But a H1 H2 → DiceAt H2 a → Q (.bl true) H2) →
        t { nx := nx, rt := Q } [some (.ref a), some (vN q), some (.ref f), y3, y4, y5, y6, y7, none, none] H1 := by
  refine ⟨_, pss_cons (ps_set (i := 8) sc54.nd rfl (.inl rfl) pe_int)
    (pss_cons (ps_while PassesOwn.never (pt_cmpR op_le (pe_op op_mul (pe_op op_add (pv 8) pe_int) (pe_cal C34 (hr.mono (by decide)) (pa_cons (pv 1) (pa_cons (pe_op op_add (pv 8) pe_int) pa_nil)))) pe_int (nomark _))
      (pss_one (ps_set (i := 8) sc54.nd rfl (.inl rfl) (pe_op op_add (pv 8) pe_int))))
    (pss_cons (ps_set (i := 9) sc54.nd rfl (.inl rfl) (pe_cal C32 (hr.mono (by decide)) (pa_cons (pv 0) (pa_cons (pe_op op_add (pv 8) pe_int) pa_nil))))
    (pss_cons (ps_if (pt_cmpR (op_neD hr.units) (pe_cal C29 hr (pa_cons (pv 1) (pa_cons (pv 9) pa_nil))) (pe_cal C53 (hr.mono (by decide)) (pa_cons (pv 2) (pa_cons (pv 9) pa_nil))) (nomark _)) pss_never pss_nil)
    (pss_one (ps_ret (pe_cmpR (op_eqD hr.units) (pe_cal C28 hr (pa_cons (pv 1) (pa_cons (pv 9) pa_nil))) (pe_cal C52 (hr.mono (by decide)) (pa_cons (pv 2) (pa_cons (pv 9) pa_nil))) (nomark _))))))), ?_⟩
  intro q f a y3 y4 y5 y6 y7 H1 Q nx hq hf hd k
  have hq2 := fq_pos hq
  obtain ⟨g1, g2, g3⟩ := dq_gq q hq
  have gin := gq_in q hq
  have gout := gq_out q hq
  refine ⟨fun n σ H2 => ∃ g, n = GQ q - g ∧ g ≤ GQ q ∧ σ = [some (.ref a), some (vN q), some (.ref f), y3, y4, y5, y6, y7, some (vN g), none] ∧ H2 = H1, ⟨GQ q, 0, rfl, Nat.zero_le _, rfl, rfl⟩, ?_⟩
  rintro n σ H2 ⟨g, rfl, hg, rfl, rfl⟩
  refine ⟨vN g, rfl, _, _, rfl, rfl, vN q, rfl, vN g, rfl, _, _, rfl, rfl, q, g + 1, rfl, by omega, by omega, _, _, rfl, rfl, .inl ⟨by omega, by omega⟩, _, _, rfl, rfl, _, rfl, ite2 (fun c => ?_) (fun c => ?_)⟩
  · have c1 := of_decide_eq_true c
    have c2 : (g + 1) * q ^ (g + 1) ≤ 700 := by
      have e : ((g : Int) + 1) * ((q ^ (g + 1) : Nat) : Int) = (((g + 1) * q ^ (g + 1) : Nat) : Int) := by rw [Int.natCast_mul]; rfl
      rw [e] at c1
      omega
    have hg2 : g < GQ q := by
      rcases Nat.lt_or_ge g (GQ q) with z | z
      · exact z
      · have e : g = GQ q := by omega
        rw [e] at c2
        exact absurd c2 gout
    refine ⟨fun σ' H' => ∃ g', GQ q - (g + 1) = GQ q - g' ∧ g' ≤ GQ q ∧ σ' = [some (.ref a), some (vN q), some (.ref f), y3, y4, y5, y6, y7, some (vN g'), none] ∧ H' = H2, fun σ' H' hN => ⟨GQ q - (g + 1), by omega, hN⟩, ?_⟩
    exact ⟨vN g, rfl, _, _, rfl, rfl, g + 1, rfl, hg2, rfl, rfl⟩
  · have c2 : ¬ (g + 1) * q ^ (g + 1) ≤ 700 := fun z => c (decide_eq_true (by
      have e : ((g : Int) + 1) * ((q ^ (g + 1) : Nat) : Int) = (((g + 1) * q ^ (g + 1) : Nat) : Int) := by rw [Int.natCast_mul]; rfl
      show ((g : Int) + 1) * ((q ^ (g + 1) : Nat) : Int) ≤ 700
      rw [e]
      omega))
    have hg2 : g = GQ q := by
      rcases Nat.lt_or_ge g (GQ q) with z | z
      · exact absurd (gin g z) c2
      · omega
    subst hg2
    refine ⟨.ref a, rfl, vN (GQ q), rfl, _, _, rfl, rfl, a, GQ q + 1, rfl, hd, by omega, by omega, fun r H3 hr3 b3 d3 => ?_⟩
    have hf3 := fld_but hf b3
    have ok := okd_of hq (show r ≤ GQ q by omega)
    obtain ⟨m1, m2⟩ := more_of hq (show r ≤ GQ q by omega)
    refine ⟨vN q, rfl, vN r, rfl, q, r, rfl, ok, fun p1 H4 s4 f4 => ?_⟩
    have hf4 := hf3.same s4
    refine ⟨.ref f, rfl, vN r, rfl, f, q, r, rfl, hf4.fld, ok, fun p2 H5 s5 f5 => ?_⟩
    refine dne (l := lcmA q r) (m := lcmB q r) (f4.same s5).seq f5 ⟨_, rfl, ?_⟩
    rw [neF m1]
    refine iteF ?_
    have hf5 := hf4.same s5
    refine ⟨vN q, rfl, vN r, rfl, q, r, rfl, ok, fun p3 H6 s6 f6 => ?_⟩
    refine ⟨.ref f, rfl, vN r, rfl, f, q, r, rfl, (hf5.same s6).fld, ok, fun p4 H7 s7 f7 => ?_⟩
    refine deq (l := allA q r r) (m := allB q r r) (f6.same s7).seq f7 ?_
    rw [eqT m2]
    have sm := ((s4.trans s5).trans s6).trans s7
    exact k H7 (b3.trans (but_same sm)) (dice_but d3 sm)
/-- the checks of the drawn degree -/
theorem rest_54b {f0 : Addr} {cdv : Value} {A : Around} {outer : List Env} {s : Shared} {H : Hp} {E : XK} (hr : Room 4 (A.deeper (envOfC "_law_right" (defScope (topS 54)) s.heap.objs.size f0 cdv)))
    (C34 : Cal P w K mg base "_law_raised" ["_law_base", "_law_count"] 1 spPow) (C32 : Cal P w K mg base "_law_roll" ["_law_dice_here", "_law_total"] 1 spRoll)
    (C28 : Cal P w K mg base "all_product" ["q", "d"] 4 (spAll fun q d => allA q d d)) (C29 : Cal P w K mg base "least_multiple" ["q", "d"] 4 (spAll fun q d => lcmA q d))
    (C52 : Cal P w K mg base "_law_all_product" ["_law_field_here", "_law_d"] 3 (spAllB K fun q d => allB q d d)) (C53 : Cal P w K mg base "_law_least_multiple" ["_law_field_here", "_law_d"] 3 (spAllB K fun q d => lcmB q d))
    (C43 : Cal P w K mg base "_law_rest" ["_law_field_here", "_law_one", "_law_other"] 3 (spRest K)) (ml : mg "len" = none) :
    ∃ t, PSs (cxOf CX0 P w K mg base N54 "_law_right" (defScope (topS 54)) f0 cdv A outer s H E).nox ((defBody (topS 54)).drop 5) t ∧
      ∀ (q d : Nat) (f a pa la : Addr) (y6 : Option V) (H1 : Hp) (Q : VK) (nx : L2.St → Hp → Prop), q ∈ FQ → d ≤ DQ q → FieldAt (fun b => b ≠ a) H1 f q → DiceAt H1 a → SqT K H1 pa (nv (PC q d)) → SqT K H1 la (nv (LC q d)) → Pol q (PC q d) → Pol q (LC q d) → (∀ H2, But a H1 H2 → DiceAt H2 a → Q (.bl true) H2) →
        t { nx := nx, rt := Q } [some (.ref a), some (vN q), some (.ref f), some (vN d), some (.ref pa), some (.ref la), y6, none, none, none] H1 := by
  obtain ⟨tR, hR, gR⟩ := rest_54c (P := P) (w := w) (mg := mg) (base := base) (H := H) (E := E) hr C34 C32 C28 C29 C52 C53
  refine ⟨_, pss_cons (ps_if (PW.pt (pw_or (pt_cmpR (op_neD hr.units) (pe_cal C28 hr (pa_cons (pv 1) (pa_cons (pv 3) pa_nil))) (pv 4) (nomark _)) (pw_or1 (pt_cmpR (op_neD hr.units) (pe_cal C29 hr (pa_cons (pv 1) (pa_cons (pv 3) pa_nil))) (pv 5) (nomark _))))) pss_never pss_nil)
    (pss_cons (ps_if (PW.pt (pw_or (pt_cmpR (op_neD hr.units) (pv 4) (pe_cal C52 (hr.mono (by decide)) (pa_cons (pv 2) (pa_cons (pv 3) pa_nil))) (nomark _)) (pw_or1 (pt_cmpR (op_neD hr.units) (pv 5) (pe_cal C53 (hr.mono (by decide)) (pa_cons (pv 2) (pa_cons (pv 3) pa_nil))) (nomark _))))) pss_never pss_nil)
    (pss_cons (ps_set (i := 7) sc54.nd rfl (.inl rfl) (pe_cal C34 (hr.mono (by decide)) (pa_cons (pv 1) (pa_cons (pv 3) pa_nil))))
    (pss_cons (ps_if (PW.pt (pw_or (pt_cmpR op_ne (pe_callB call_len_seq (by rfl) ml PySem.boot_len (pa_cons (pv 4) pa_nil)) (pe_op op_add (pe_op op_mul (pv 3) (pv 7)) pe_int) (nomark _))
        (pw_or1 (pt_cmpR op_ne (pe_callB call_len_seq (by rfl) ml PySem.boot_len (pa_cons (pv 5) pa_nil)) (pe_op op_add (pe_op op_fdiv (pe_op op_sub (pe_op op_mul (pv 1) (pv 7)) (pv 1)) (pe_op op_sub (pv 1) pe_int)) pe_int) (nomark _))))) pss_never pss_nil)
    (pss_cons (ps_if (pt_cmpR (op_neD hr.units) (pe_cal C43 (hr.mono (by decide)) (pa_cons (pv 2) (pa_cons (pv 4) (pa_cons (pv 5) pa_nil)))) (pe_tupF pa_nil) (nomark _)) pss_never pss_nil) hR)))), ?_⟩
  intro q d f a pa la y6 H1 Q nx hq hd hf hdi hP hL pP pL k
  have hq2 := fq_pos hq
  have O := one_of hq hd
  obtain ⟨g1, g2, g3⟩ := dq_gq q hq
  have ok := okd_of hq (show d ≤ GQ q by omega)
  have h700 := ok.pow
  have hdq := ok.2.2
  -- the program's two
  refine ⟨vN q, rfl, vN d, rfl, q, d, rfl, ok, fun p1 H2 s2 f2 => ?_⟩
  refine ⟨.ref pa, rfl, dne (l := allA q d d) (m := PC q d) f2.seq (same_tup s2 hP) ⟨_, rfl, ?_⟩⟩
  rw [neF O.a1]
  refine iteF ⟨vN q, rfl, vN d, rfl, q, d, rfl, ok, fun p2 H3 s3 f3 => ?_⟩
  have sm3 := s2.trans s3
  refine ⟨.ref la, rfl, dne (l := lcmA q d) (m := LC q d) f3.seq (same_tup sm3 hL) ⟨_, rfl, ?_⟩⟩
  rw [neF O.a2]
  refine iteF ?_
  -- the law's two, by brackets
  refine ⟨.ref pa, rfl, .ref f, rfl, vN d, rfl, f, q, d, rfl, (hf.same sm3).fld, ok, fun p4 H4 s4 f4 => ?_⟩
  have sm4 := sm3.trans s4
  refine dne (l := PC q d) (m := allB q d d) (same_tup sm4 hP) f4 ⟨_, rfl, ?_⟩
  rw [neF O.b1]
  refine iteF ⟨.ref la, rfl, .ref f, rfl, vN d, rfl, f, q, d, rfl, (hf.same sm4).fld, ok, fun p5 H5 s5 f5 => ?_⟩
  have sm5 := sm4.trans s5
  refine dne (l := LC q d) (m := lcmB q d) (same_tup sm5 hL) f5 ⟨_, rfl, ?_⟩
  rw [neF O.b2]
  refine iteF ?_
  -- the sizes
  have hP5 := same_tup sm5 hP
  have hL5 := same_tup sm5 hL
  refine ⟨vN q, rfl, vN d, rfl, q, d, rfl, by omega, by omega, ?_⟩
  refine ⟨.ref pa, rfl, pa, _, rfl, .inr hP5, vN d, rfl, vN (q ^ d), rfl, (d : Int), ((q ^ d : Nat) : Int), rfl, rfl, .inl ⟨by omega, by omega⟩, _, 1, rfl, rfl, rfl, _, rfl, ?_⟩
  have e1 : (((nv (PC q d)).length : Nat) : Int) = (d : Int) * ((q ^ d : Nat) : Int) + 1 := by
    rw [nv_len, O.l1, ← Int.natCast_mul]
    rfl
  rw [ndF (congrArg V.int e1)]
  refine iteF ⟨.ref la, rfl, la, _, rfl, .inr hL5, vN q, rfl, vN (q ^ d), rfl, (q : Int), ((q ^ d : Nat) : Int), rfl, rfl, .inl ⟨by omega, by omega⟩, vN q, rfl, _, _, rfl, rfl, vN q, rfl, _, 1, rfl, rfl, _, _, rfl, rfl, ⟨by omega, by omega⟩, _, 1, rfl, rfl, rfl, _, rfl, ?_⟩
  have e2 : (((nv (LC q d)).length : Nat) : Int) = ((q : Int) * ((q ^ d : Nat) : Int) - (q : Int)) / ((q : Int) - 1) + 1 := by
    have h1 : 1 ≤ q ^ d := Nat.pow_pos (by omega)
    have h2 : q * 1 ≤ q * q ^ d := Nat.mul_le_mul_left _ h1
    rw [nv_len, O.l2, ← Int.natCast_mul, show ((q * q ^ d : Nat) : Int) - (q : Int) = ((q * q ^ d - q : Nat) : Int) by omega, show (q : Int) - 1 = ((q - 1 : Nat) : Int) by omega]
    rfl
  rw [ndF (congrArg V.int e2)]
  refine iteF ?_
  -- the rest is nothing
  have l1 := O.l1
  have l2 : (LC q d).length ≤ 10000 := by
    have z := lcmB_len hq d
    rw [O.b2]
    omega
  refine ⟨.ref f, rfl, .ref pa, rfl, .ref la, rfl, f, pa, la, q, PC q d, LC q d, rfl, (hf.same sm5).fld, hq, hP5, hL5, pP, pL, fun e => O.ls (by rw [e]; rfl), O.ls, by omega, l2, fun p6 H6 s6 f6 => ?_⟩
  have sm6 := sm5.trans s6
  refine ⟨Nat.zero_le _, fun p7 H7 s7 f7 => ?_⟩
  have sm7 := sm6.trans s7
  refine dne (l := remP (PLUS q) (MUL q) (MINUS q) (PC q d) (LC q d)) (m := []) (same_tup s7 f6) f7.seq ⟨_, rfl, ?_⟩
  rw [neF O.rm]
  refine iteF ?_
  exact gR q f a _ _ _ _ _ H7 Q nx hq (hf.same sm7) (dice_but hdi sm7) fun H8 b8 d8 => k H8 ((but_same sm7).trans b8) d8
def spRight : Sp := fun vs H Q _ => ∃ a : Addr, vs = [.ref a] ∧ DiceAt H a ∧ ∀ H2, But a H H2 → DiceAt H2 a → Q (.bl true) H2
theorem ok_54 (D : Def K mg "_law_right" 54 ["_law_dice_here"])
    (C49 : Cal P w K mg base "_law_q" ["_law_dice_here"] 3 spQ) (C38 : Cal P w K mg base "_law_field" ["_law_q_here"] 4 spField2) (C50 : Cal P w K mg base "_law_size" ["_law_q_here", "_law_most"] 2 spSize)
    (C48 : Cal P w K mg base "_law_monics" ["_law_q_here", "_law_d"] 3 (spLow K monics)) (C41 : Cal P w K mg base "_law_product" ["_law_field_here", "_law_one", "_law_other"] 1 (spProd K))
    (C42 : Cal P w K mg base "_law_parted" ["_law_field_here", "_law_one", "_law_other"] 2 (spParted K)) (C45 : Cal P w K mg base "_law_common" ["_law_field_here", "_law_one", "_law_other"] 4 (spCom K))
    (C34 : Cal P w K mg base "_law_raised" ["_law_base", "_law_count"] 1 spPow) (C32 : Cal P w K mg base "_law_roll" ["_law_dice_here", "_law_total"] 1 spRoll)
    (C28 : Cal P w K mg base "all_product" ["q", "d"] 4 (spAll fun q d => allA q d d)) (C29 : Cal P w K mg base "least_multiple" ["q", "d"] 4 (spAll fun q d => lcmA q d))
    (C52 : Cal P w K mg base "_law_all_product" ["_law_field_here", "_law_d"] 3 (spAllB K fun q d => allB q d d)) (C53 : Cal P w K mg base "_law_least_multiple" ["_law_field_here", "_law_d"] 3 (spAllB K fun q d => lcmB q d))
    (C43 : Cal P w K mg base "_law_rest" ["_law_field_here", "_law_one", "_law_other"] 3 (spRest K)) (ml : mg "len" = none) : Cal P w K mg base "_law_right" ["_law_dice_here"] 5 spRight := by
  refine D.cal sc54 (fun vs H Q E ⟨_, h, _⟩ => by rw [h]; rfl) fun f0 cdv A outer s H vs Q E hr h => ?_
  obtain ⟨a, rfl, hd0, k⟩ := h
  obtain ⟨tR, hR, gR⟩ := rest_54b (P := P) (w := w) (mg := mg) (base := base) (H := H) (E := E) hr C34 C32 C28 C29 C52 C53 C43 ml
  refine ⟨_, pss_cons (ps_set (i := 1) sc54.nd rfl (.inl rfl) (pe_cal C49 (hr.mono (by decide)) (pa_cons (pv 0) pa_nil)))
    (pss_cons (ps_set (i := 2) sc54.nd rfl (.inl rfl) (pe_cal C38 hr (pa_cons (pv 1) pa_nil)))
    (pss_cons (ps_set (i := 3) sc54.nd rfl (.inl rfl) (pe_cal C32 (hr.mono (by decide)) (pa_cons (pv 0) (pa_cons (pe_op op_add (pe_cal C50 (hr.mono (by decide)) (pa_cons (pv 1) (pa_cons pe_int pa_nil))) pe_int) pa_nil))))
    (pss_cons (ps_asg (pe_tup (pa_cons (pe_tup (pa_cons pe_int pa_nil)) (pa_cons (pe_tup (pa_cons pe_int pa_nil)) pa_nil))) (pg_tup rfl (pgs_cons (pg_name (i := 4) sc54.nd rfl (.inl rfl)) (pgs_cons (pg_name (i := 5) sc54.nd rfl (.inl rfl)) pgs_nil))))
    (pss_cons (ps_for PassesOwn.never rfl (pi_list (pe_cal C48 (hr.mono (by decide)) (pa_cons (pv 1) (pa_cons (pv 3) pa_nil)))) (pg_name (i := 6) sc54.nd rfl (.inl rfl))
      (pss_cons (ps_set (i := 4) sc54.nd rfl (.inl rfl) (pe_cal C41 (hr.mono (by decide)) (pa_cons (pv 2) (pa_cons (pv 4) (pa_cons (pv 6) pa_nil)))))
      (pss_one (ps_set (i := 5) sc54.nd rfl (.inl rfl) (pe_cal C41 (hr.mono (by decide)) (pa_cons (pv 2) (pa_cons (pv 5) (pa_cons
        (pe_ix ix_tup (pe_cal C42 (hr.mono (by decide)) (pa_cons (pv 2) (pa_cons (pv 6) (pa_cons (pe_cal C45 hr (pa_cons (pv 2) (pa_cons (pv 5) (pa_cons (pv 6) pa_nil)))) pa_nil)))) pe_int (fun _ _ => rfl)) pa_nil))))))))
    hR)))), ?_⟩
  refine ⟨.ref a, rfl, a, rfl, hd0, fun q H1 hq b1 d1 => ?_⟩
  have hq2 := fq_pos hq
  obtain ⟨g1, g2, g3⟩ := dq_gq q hq
  refine ⟨vN q, rfl, q, rfl, hq, fun f H2 s2 hf2 => ?_⟩
  have d2 := dice_but d1 s2
  have hf2' : FieldAt (fun b => b ≠ a) H2 f q := hf2.mono (fun _ _ _ e => e) fun b z e => by
    obtain ⟨x, y, z2, e2⟩ := d1
    rw [e, e2] at z
    cases z
  refine ⟨.ref a, rfl, vN q, rfl, q, rfl, hq, _, _, rfl, rfl, a, DQ q + 1, rfl, d2, by omega, by omega, fun d H3 hd3 b3 d3 => ?_⟩
  have hd : d ≤ DQ q := by omega
  have hf3 := fld_but hf2' b3
  have hpow := dq_pow q hq d hd3
  refine ⟨Nat.le_of_lt (small1000 (by decide)), fun t1 n1 => ⟨Nat.le_of_lt (small1000 (by decide)), fun t2 n2 => ⟨Nat.le_of_lt (small1000 (show 2 ≤ 1000 by decide)), fun t3 n3 => ?_⟩⟩⟩
  have s4 := same_new (o := .tup [V.int 1]) n1
  have s5 := same_new (o := .tup [V.int 1]) n2
  have s5' := same_new (o := .tup [V.ref t1, V.ref t2]) n3
  have h1 := (s5.trans s5') _ _ (upd_same (H := H3) (a := t1) (o := .tup [V.int 1]))
  have h2 := s5' _ _ (upd_same (H := upd H3 t1 (.tup [V.int 1])) (a := t2) (o := .tup [V.int 1]))
  refine ⟨t3, _, rfl, .inl (.inl upd_same), rfl, _, _, rfl, _, _, rfl, rfl, ?_⟩
  have sm5 := s4.trans (s5.trans s5')
  generalize upd (upd (upd H3 t1 (.tup [V.int 1])) t2 (.tup [V.int 1])) t3 (.tup [V.ref t1, V.ref t2]) = H5 at sm5 h1 h2 ⊢
  refine ⟨vN q, rfl, vN d, rfl, q, d, rfl, hq, by omega, by omega, fun pl H6 s6 ht => ?_⟩
  have sm6 := sm5.trans s6
  have hf6 := hf3.same sm6
  have d6 := dice_but d3 sm6
  obtain ⟨xs, hx1, hx2, hx3⟩ := ht.ex
  have hxl : xs.length = q ^ d := by
    rw [hx2]
    unfold monics
    rw [List.length_map, List.length_range]
  refine ⟨pl, rfl, ⟨_, SqL.of hx1⟩, ?_⟩
  refine for_list (K := K) (a := pl) (xs := xs) (fun i σ H' => ∃ pa la y6, σ = [some (.ref a), some (vN q), some (.ref f), some (vN d), some (.ref pa), some (.ref la), y6, none, none, none] ∧ Same H6 H' ∧ SqT K H' pa (nv (allC q (mon q d i) [1])) ∧ SqT K H' la (nv (lcmC q (mon q d i) [1])))
    ⟨t1, t2, none, rfl, Same.refl _, .inl (.inl (s6 _ _ h1)), .inl (.inl (s6 _ _ h2))⟩ (fun i σ H' _ ⟨_, _, _, _, sm, _⟩ => SqL.of (sm _ _ hx1)) ?_ ?_
  · rintro i x σ H7 hx ⟨pa, la, y6, rfl, sm7, hP, hL⟩
    have hi : i < q ^ d := by
      rw [← hxl]
      exact (List.getElem?_eq_some_iff.mp hx).1
    obtain ⟨r, rfl, hr6⟩ := hx3 i x (monicN q d i) hx (by
      unfold monics
      rw [List.getElem?_map, List.getElem?_range hi]
      rfl)
    have hr7 := same_tup sm7 hr6
    have hf7 := (hf6.same sm7).fld
    obtain ⟨mp, mn, mt, mln⟩ := monic_ok (d := d) (n := i) hq (by omega) (by omega)
    obtain ⟨c1, c2, c3, c4⟩ := mid_of (d := d) (i := i) hq (by omega) (by omega)
    generalize hPi : allC q (mon q d i) [1] = Pi at hP c1 c3
    generalize hLi : lcmC q (mon q d i) [1] = Li at hL c2 c4
    refine ⟨.ref f, rfl, .ref pa, rfl, .ref r, rfl, f, pa, r, q, Pi, monicN q d i, rfl, hf7, hq, hP, hr7, c1, mp, by omega, by omega, fun pa2 H8 s8 hP8 => ?_⟩
    obtain ⟨e1, e2, e3, e4⟩ := comP_ok hq (l := Li) mn (fun z => absurd z mn) mt c2 mp
    refine ⟨.ref f, rfl, .ref la, rfl, .ref f, rfl, .ref r, rfl, .ref f, rfl, .ref la, rfl, .ref r, rfl, f, la, r, q, Li, monicN q d i, rfl, hf7.same s8, hq, same_tup s8 hL, same_tup s8 hr7, c2, mp, fun z => absurd z mn, mt, by omega, by omega, fun pc H9 s9 hC9 => ?_⟩
    have s89 := s8.trans s9
    refine ⟨f, r, pc, q, monicN q d i, _, rfl, hf7.same s89, hq, same_tup s89 hr7, hC9, mp, e4, e1, e2, by omega, by omega, fun pp H10 px py s10 hp10 hx10 hy10 => ?_⟩
    have s810 := s89.trans s10
    refine ⟨pp, _, 0, .ref px, rfl, rfl, hp10, rfl, ?_⟩
    have hql := quoP_len (P := PLUS q) (M := MUL q) (N := MINUS q) (monicN q d i) (comP (PLUS q) (MUL q) (MINUS q) Li (monicN q d i))
    refine ⟨f, la, px, q, Li, _, rfl, hf7.same s810, hq, same_tup s810 hL, hx10, c2, quoP_pol (by omega) ((tab_plus hq).lt (by omega)) ((tab_mul hq).lt (by omega)) mp, by omega, by omega, fun la2 H11 s11 hL11 => ?_⟩
    refine ⟨pa2, la2, _, rfl, sm7.trans (s810.trans s11), ?_, ?_⟩
    · rw [mon_succ, allC_snoc, hPi]
      exact same_tup ((s9.trans s10).trans s11) hP8
    · rw [mon_succ, lcmC_snoc, hLi]
      exact hL11
  · rintro σ H7 ⟨pa, la, y6, rfl, sm7, hP, hL⟩
    rw [hxl] at hP hL
    obtain ⟨c1, c2, c3, c4⟩ := mid_of (d := d) (i := q ^ d) hq (by omega) (by omega)
    exact gR q d f a pa la y6 H7 Q _ hq hd (hf6.same sm7) (dice_but d6 sm7) hP hL c1 c2 fun H8 b8 d8 =>
      k H8 ((((b1.trans (but_same s2)).trans b3).trans (but_same (sm6.trans sm7))).trans b8) d8
theorem sc55 : FnScope ["_law_script", "_law_at", "_law_dice_here", "_law_turn"] ["_law_script"] (defScope (topS 55)) := ⟨rfl, rfl, rfl, by decide +kernel, rfl, by decide +kernel, by decide +kernel⟩
def spLaw (K : PySem.W.Frag) : Sp := fun vs H Q _ => ∃ (a : Addr) (ns : List Int), vs = [.ref a] ∧ SqL K H a (ns.map V.int) ∧ ∀ H2, Q (.bl true) H2
theorem sql_keep {a p : Addr} {H H2 H3 : Hp} {xs : List V} (h : SqL K H a xs) (hp : H p = none) (s : Same H H2) (b : But p H2 H3) : SqL K H3 a xs := by
  rcases h with (h | ⟨o, h⟩) | h
  · exact .inl (.inl (b _ _ (ne_of_none h hp) (s _ _ h)))
  · exact .inl (.inr ⟨o, b _ _ (ne_of_none h hp) (s _ _ h)⟩)
  · exact .inr h
theorem two_in (n : Nat) : ∃ c : Nat, c ≤ 2 ∧ (if (if (n : Int) < 2 then (n : Int) else 2) > 1 then (if (n : Int) < 2 then (n : Int) else 2) else 1) = (c : Int) := by
  by_cases h : (n : Int) < 2
  · rw [if_pos h]
    by_cases h2 : (n : Int) > 1
    · exact ⟨n, by omega, by rw [if_pos h2]⟩
    · exact ⟨1, by omega, by rw [if_neg h2]; rfl⟩
  · rw [if_neg h]
    exact ⟨2, by omega, rfl⟩
theorem ok_55 {f0 : Addr} {fd0 : FuncData} (F : Fun K "law" "law" (topS 55) f0 fd0) (C31 : Cal P w K mg base "_law_dice" ["_law_script", "_law_at"] 1 (spDice K)) (C54 : Cal P w K mg base "_law_right" ["_law_dice_here"] 5 spRight)
    (ml : mg "len" = none) (mx : mg "max" = none) (mn : mg "min" = none) (mr : mg "range" = none) : FnOk P w K mg base CX0 6 f0 fd0 ["_law_script"] (spLaw K) := by
  refine F.ok sc55 (fun vs H Q E ⟨_, _, h, _⟩ => by rw [h]; rfl) fun cdv A outer s H vs Q E hr h => ?_
  obtain ⟨a, ns, rfl, hS, k⟩ := h
  refine ⟨_, pss_cons (ps_for PassesOwn.never rfl (pi_range1 rfl mr (pa_cons (pe_callB (call_max2 rfl) (by rfl) mx PyProof.Rows.boot_max (pa_cons pe_int (pa_cons
        (pe_callB (call_min2 rfl) (by rfl) mn PyProof.Rows.boot_min (pa_cons pe_int (pa_cons (pe_callB call_len_seq (by rfl) ml PySem.boot_len (pa_cons (pv 0) pa_nil)) pa_nil))) pa_nil))) pa_nil)) (pg_name (i := 1) sc55.nd rfl (.inl rfl))
      (pss_cons (ps_set (i := 2) sc55.nd rfl (.inl rfl) (pe_cal C31 (hr.mono (by decide)) (pa_cons (pv 0) (pa_cons (pv 1) pa_nil))))
      (pss_one (ps_for PassesOwn.never rfl (pi_range1 rfl mr (pa_cons pe_int pa_nil)) (pg_name (i := 3) sc55.nd rfl (.inl rfl))
        (pss_one (ps_if (pt_not (pt_val (pe_cal C54 hr (pa_cons (pv 2) pa_nil)))) pss_never pss_nil))))))
    (pss_one (ps_ret pe_bl)), ?_⟩
  obtain ⟨c, hc, ec⟩ := two_in (ns.map V.int).length
  refine ⟨.ref a, rfl, a, _, rfl, .inl hS, 2, _, rfl, 1, _, rfl, _, rfl, ?_⟩
  rw [ec, Int.toNat_natCast]
  refine ⟨by omega, by omega, ?_⟩
  refine for_range (lo := 0) (n := c) (fun i σ H1 => ∃ y1 y2 y3, σ = [some (.ref a), y1, y2, y3] ∧ SqL K H1 a (ns.map V.int)) ⟨none, none, none, rfl, hS⟩ ?_ ?_
  · rintro i σ H1 hi ⟨y1, y2, y3, rfl, h1⟩
    have ei : V.int (0 + (i : Int)) = vN i := by rw [Int.zero_add]
    rw [ei]
    refine ⟨.ref a, rfl, vN i, rfl, a, ns, i, rfl, h1, by omega, fun p H2 s2 n2 d2 => ?_⟩
    refine ⟨2, rfl, by decide, by decide, ?_⟩
    refine for_range (lo := 0) (n := 2) (fun j σ H3 => ∃ y3, σ = [some (.ref a), some (vN i), some (.ref p), y3] ∧ But p H2 H3 ∧ DiceAt H3 p) ⟨y3, rfl, But.refl p H2, d2⟩ ?_ ?_
    · rintro j σ H3 hj ⟨y3, rfl, b3, d3⟩
      refine ⟨.ref p, rfl, p, rfl, d3, fun H4 b4 d4 => ⟨true, rfl, iteF ⟨_, rfl, b3.trans b4, d4⟩⟩⟩
    · rintro σ H3 ⟨y3, rfl, b3, d3⟩
      exact ⟨_, _, _, rfl, sql_keep h1 n2 s2 b3⟩
  · rintro σ H1 ⟨y1, y2, y3, rfl, h1⟩
    exact k H1
end
end K13
/-! what the program's top has left: the constants, the tables, the defs -/
namespace K13
open PySem PySem.Spec PyProof.Rows L2
/-! ### looks at the written part -/
def intsC : List Value → List Nat → Bool
  | [], [] => true
  | .int i _ :: vs, n :: ns => decide (i = (n : Int)) && intsC vs ns
  | _, _ => false
def tupC (K : PySem.W.Frag) (a : Addr) (p : List Value → Bool) : Bool := match K.lookup a with
  | some ⟨.type c, none, .seq its _, _⟩ => decide (c = "tuple") && (decide (its.size ≤ 1000) && p its.toList)
  | _ => false
def rowsC (K : PySem.W.Frag) : List Value → List (List Nat) → Bool
  | [], [] => true
  | .ref r :: vs, row :: rows => tupC K r (fun vs => intsC vs row) && rowsC K vs rows
  | _, _ => false
def keyC (e : DictEntry) : Bool := match e.key with
  | .int k _ => e.hash == hashInt k
  | _ => false
def tabC (K : PySem.W.Frag) (a : Addr) (T : Nat → List (List Nat)) : Bool := match K.lookup a with
  | some ⟨.type c, none, .dict es _, sl⟩ => decide (c = "dict") && (decide (sl.size = 0) && (es.toList.all keyC && FQ.all fun q => match es.toList.find? fun e => Value.isInt (q : Int) e.key with
      | some ⟨_, _, .ref t⟩ => tupC K t (fun vs => rowsC K vs (T q))
      | _ => false))
  | _ => false
theorem intsC_ok : ∀ {vs : List Value} {ns : List Nat}, intsC vs ns = true → Vals (nv ns) vs
  | [], [], _ => .nil
  | [], _ :: _, h => by cases h
  | .int i t :: vs, [], h => by cases h
  | .int i t :: vs, n :: ns, h => by
    have h2 := Bool.and_eq_true_iff.mp h
    exact .cons ⟨t, by rw [of_decide_eq_true h2.1]⟩ (intsC_ok h2.2)
  | .none :: _, _, h => by cases h
  | .bool _ :: _, _, h => by cases h
  | .ref _ :: _, _, h => by cases h
  | .str _ _ :: _, _, h => by cases h
  | .type _ :: _, _, h => by cases h
theorem tupC_ok {K : PySem.W.Frag} {a : Addr} {p : List Value → Bool} (h : tupC K a p = true) : ∃ (o : Obj) (its : Array Value) (n : Nat), K.lookup a = some o ∧ o.cls = .type "tuple" ∧ o.dict = none ∧ o.data = .seq its n ∧ its.size ≤ sizeLine ∧ p its.toList = true := by
  unfold tupC at h
  split at h
  · rename_i c its n sl e
    obtain ⟨h1, h2⟩ := Bool.and_eq_true_iff.mp h
    obtain ⟨h2, h3⟩ := Bool.and_eq_true_iff.mp h2
    exact ⟨_, its, n, e, by rw [of_decide_eq_true h1], rfl, rfl, Nat.le_of_lt (small1000 (of_decide_eq_true h2)), h3⟩
  · cases h
theorem rowC_ok {K : PySem.W.Frag} {a : Addr} {row : List Nat} (h : tupC K a (fun vs => intsC vs row) = true) : KTup K a (nv row) := by
  obtain ⟨o, its, n, h1, h2, h3, h4, h5, h6⟩ := tupC_ok h
  exact ⟨o, its, n, h1, h2, h3, h4, h5, intsC_ok h6⟩
theorem rowsC_ok {K : PySem.W.Frag} : ∀ {vs : List Value} {rows : List (List Nat)}, rowsC K vs rows = true →
    ∃ rs : List Addr, Vals (rs.map V.ref) vs ∧ rs.length = rows.length ∧ ∀ (i : Nat) (r : Addr) (row : List Nat), rs[i]? = some r → rows[i]? = some row → KTup K r (nv row)
  | [], [], _ => ⟨[], .nil, rfl, fun i r row e _ => by simp at e⟩
  | [], _ :: _, h => by cases h
  | .ref r :: vs, [], h => by cases h
  | .ref r :: vs, row :: rows, h => by
    have h2 := Bool.and_eq_true_iff.mp h
    obtain ⟨rs, g1, g2, g3⟩ := rowsC_ok h2.2
    refine ⟨r :: rs, .cons rfl g1, by rw [List.length_cons, List.length_cons, g2], fun i b m e1 e2 => ?_⟩
    cases i with
    | zero =>
      have e3 : r = b := Option.some.inj e1
      have e4 : row = m := Option.some.inj e2
      rw [← e3, ← e4]
      exact rowC_ok h2.1
    | succ i => exact g3 i b m e1 e2
  | .none :: _, _, h => by cases h
  | .bool _ :: _, _, h => by cases h
  | .int _ _ :: _, _, h => by cases h
  | .str _ _ :: _, _, h => by cases h
  | .type _ :: _, _, h => by cases h
theorem find_by {es : Array DictEntry} {i : Int} : findBy Value.isInt es i = (es.toList.find? fun e => Value.isInt i e.key).map (·.val) := by
  obtain ⟨l⟩ := es
  unfold findBy
  rw [List.find?_toArray]
section
variable {K : PySem.W.Frag} {h : Heap} {mg : Str → Option Value}
theorem tabk_mk {x : Str} {a : Addr} {T : Nat → List (List Nat)} (X : K.In h) (G : h.Ns mainGlobals mg) (n : PySem.W.nsIn K mainGlobals x = some (some (.ref a))) (c : tabC K a T = true) : TabK K mg x T := by
  refine ⟨a, PySem.W.mg_of X G n, fun q hq => ?_⟩
  unfold tabC at c
  split at c
  · rename_i cl es ep sl e
    obtain ⟨h1, c⟩ := Bool.and_eq_true_iff.mp c
    obtain ⟨h2, c⟩ := Bool.and_eq_true_iff.mp c
    obtain ⟨h3, c⟩ := Bool.and_eq_true_iff.mp c
    have c2 := List.all_eq_true.mp c q hq
    have e1 : cl = "dict" := of_decide_eq_true h1
    have e2 : sl = #[] := Array.eq_empty_of_size_eq_zero (of_decide_eq_true h2)
    subst e1 e2
    split at c2
    · rename_i hh kk t ef
      obtain ⟨o, its, n2, g1, g2, g3, g4, g5, g6⟩ := tupC_ok c2
      obtain ⟨rs, r1, r2, r3⟩ := rowsC_ok g6
      refine ⟨t, rs, ⟨es, ep, .ref t, e, h3, ?_, rfl⟩, ⟨o, its, n2, g1, g2, g3, g4, g5, r1⟩, r2, r3⟩
      rw [find_by, ef]
      rfl
    · cases c2
  · cases c
theorem glt_mk {x : Str} {a : Addr} {row : List Nat} (X : K.In h) (G : h.Ns mainGlobals mg) (n : PySem.W.nsIn K mainGlobals x = some (some (.ref a))) (c : tupC K a (fun vs => intsC vs row) = true) : GlT K mg x (nv row) := ⟨a, PySem.W.mg_of X G n, rowC_ok c⟩
theorem gli_mk {x : Str} {i : Int} {t : Tok} (X : K.In h) (G : h.Ns mainGlobals mg) (n : PySem.W.nsIn K mainGlobals x = some (some (.int i t))) : GlI mg x i := ⟨t, PySem.W.mg_of X G n⟩
theorem def_mk {x : Str} {i : Nat} {ps : List Str} {f : Addr} {od an : Option Addr} {sl : Array (Option Value)} {oc kV dc pm cd ct : Value}
    (hb : ∀ (kV doc pm : Value) (an : Option Addr) (cdv ct : Value) (us : List Value), us.length = ps.length → bindArgs (PySem.W.fnOf x x (defArgs (topS i)) (defBody (topS i)) (defScope (topS i)) .none kV doc pm an cdv ct) ⟨us, []⟩ = pure (ps.zip us))
    (X : K.In h) (G : h.Ns mainGlobals mg) (a : PySem.W.nsIn K mainGlobals x = some (some (.ref f))) (l : K.lookup f = some ⟨oc, od, .func (PySem.W.fnOf x x (defArgs (topS i)) (defBody (topS i)) (defScope (topS i)) .none kV dc pm an cd ct), sl⟩)
    (c : PySem.W.codeIn K cd x = true) (k : PySem.W.keepIn K (.ref f) = true) : Def K mg x i ps :=
  ⟨f, _, fun_mk l c k, PySem.W.mg_of X G a, (fun_mk l c k).binds hb⟩
end
theorem bd_31 : ∀ (kV doc pm : Value) (an : Option Addr) (cdv ct : Value) (us : List Value), us.length = (["_law_script", "_law_at"] : List Str).length → bindArgs (PySem.W.fnOf "_law_dice" "_law_dice" (defArgs (topS 31)) (defBody (topS 31)) (defScope (topS 31)) .none kV doc pm an cdv ct) ⟨us, []⟩ = pure ((["_law_script", "_law_at"] : List Str).zip us) := fun _ _ _ _ _ _ us hl => match us, hl with | [_, _], _ => rfl
theorem bd_32 : ∀ (kV doc pm : Value) (an : Option Addr) (cdv ct : Value) (us : List Value), us.length = (["_law_dice_here", "_law_total"] : List Str).length → bindArgs (PySem.W.fnOf "_law_roll" "_law_roll" (defArgs (topS 32)) (defBody (topS 32)) (defScope (topS 32)) .none kV doc pm an cdv ct) ⟨us, []⟩ = pure ((["_law_dice_here", "_law_total"] : List Str).zip us) := fun _ _ _ _ _ _ us hl => match us, hl with | [_, _], _ => rfl
theorem bd_33 : ∀ (kV doc pm : Value) (an : Option Addr) (cdv ct : Value) (us : List Value), us.length = (["_law_dice_here", "_law_items"] : List Str).length → bindArgs (PySem.W.fnOf "_law_one_of" "_law_one_of" (defArgs (topS 33)) (defBody (topS 33)) (defScope (topS 33)) .none kV doc pm an cdv ct) ⟨us, []⟩ = pure ((["_law_dice_here", "_law_items"] : List Str).zip us) := fun _ _ _ _ _ _ us hl => match us, hl with | [_, _], _ => rfl
theorem bd_49 : ∀ (kV doc pm : Value) (an : Option Addr) (cdv ct : Value) (us : List Value), us.length = (["_law_dice_here"] : List Str).length → bindArgs (PySem.W.fnOf "_law_q" "_law_q" (defArgs (topS 49)) (defBody (topS 49)) (defScope (topS 49)) .none kV doc pm an cdv ct) ⟨us, []⟩ = pure ((["_law_dice_here"] : List Str).zip us) := fun _ _ _ _ _ _ us hl => match us, hl with | [_], _ => rfl
theorem bd_37 : ∀ (kV doc pm : Value) (an : Option Addr) (cdv ct : Value) (us : List Value), us.length = (["_law_p", "_law_f", "_law_one", "_law_other"] : List Str).length → bindArgs (PySem.W.fnOf "_law_element_sum" "_law_element_sum" (defArgs (topS 37)) (defBody (topS 37)) (defScope (topS 37)) .none kV doc pm an cdv ct) ⟨us, []⟩ = pure ((["_law_p", "_law_f", "_law_one", "_law_other"] : List Str).zip us) := fun _ _ _ _ _ _ us hl => match us, hl with | [_, _, _, _], _ => rfl
theorem bd_35 : ∀ (kV doc pm : Value) (an : Option Addr) (cdv ct : Value) (us : List Value), us.length = (["_law_base", "_law_number"] : List Str).length → bindArgs (PySem.W.fnOf "_law_digits" "_law_digits" (defArgs (topS 35)) (defBody (topS 35)) (defScope (topS 35)) .none kV doc pm an cdv ct) ⟨us, []⟩ = pure ((["_law_base", "_law_number"] : List Str).zip us) := fun _ _ _ _ _ _ us hl => match us, hl with | [_, _], _ => rfl
theorem bd_36 : ∀ (kV doc pm : Value) (an : Option Addr) (cdv ct : Value) (us : List Value), us.length = (["_law_p", "_law_f", "_law_one", "_law_other"] : List Str).length → bindArgs (PySem.W.fnOf "_law_element_product" "_law_element_product" (defArgs (topS 36)) (defBody (topS 36)) (defScope (topS 36)) .none kV doc pm an cdv ct) ⟨us, []⟩ = pure ((["_law_p", "_law_f", "_law_one", "_law_other"] : List Str).zip us) := fun _ _ _ _ _ _ us hl => match us, hl with | [_, _, _, _], _ => rfl
theorem bd_38 : ∀ (kV doc pm : Value) (an : Option Addr) (cdv ct : Value) (us : List Value), us.length = (["_law_q_here"] : List Str).length → bindArgs (PySem.W.fnOf "_law_field" "_law_field" (defArgs (topS 38)) (defBody (topS 38)) (defScope (topS 38)) .none kV doc pm an cdv ct) ⟨us, []⟩ = pure ((["_law_q_here"] : List Str).zip us) := fun _ _ _ _ _ _ us hl => match us, hl with | [_], _ => rfl
theorem bd_34 : ∀ (kV doc pm : Value) (an : Option Addr) (cdv ct : Value) (us : List Value), us.length = (["_law_base", "_law_count"] : List Str).length → bindArgs (PySem.W.fnOf "_law_raised" "_law_raised" (defArgs (topS 34)) (defBody (topS 34)) (defScope (topS 34)) .none kV doc pm an cdv ct) ⟨us, []⟩ = pure ((["_law_base", "_law_count"] : List Str).zip us) := fun _ _ _ _ _ _ us hl => match us, hl with | [_, _], _ => rfl
theorem bd_50 : ∀ (kV doc pm : Value) (an : Option Addr) (cdv ct : Value) (us : List Value), us.length = (["_law_q_here", "_law_most"] : List Str).length → bindArgs (PySem.W.fnOf "_law_size" "_law_size" (defArgs (topS 50)) (defBody (topS 50)) (defScope (topS 50)) .none kV doc pm an cdv ct) ⟨us, []⟩ = pure ((["_law_q_here", "_law_most"] : List Str).zip us) := fun _ _ _ _ _ _ us hl => match us, hl with | [_, _], _ => rfl
theorem bd_47 : ∀ (kV doc pm : Value) (an : Option Addr) (cdv ct : Value) (us : List Value), us.length = (["_law_q_here", "_law_d"] : List Str).length → bindArgs (PySem.W.fnOf "_law_lower" "_law_lower" (defArgs (topS 47)) (defBody (topS 47)) (defScope (topS 47)) .none kV doc pm an cdv ct) ⟨us, []⟩ = pure ((["_law_q_here", "_law_d"] : List Str).zip us) := fun _ _ _ _ _ _ us hl => match us, hl with | [_, _], _ => rfl
theorem bd_48 : ∀ (kV doc pm : Value) (an : Option Addr) (cdv ct : Value) (us : List Value), us.length = (["_law_q_here", "_law_d"] : List Str).length → bindArgs (PySem.W.fnOf "_law_monics" "_law_monics" (defArgs (topS 48)) (defBody (topS 48)) (defScope (topS 48)) .none kV doc pm an cdv ct) ⟨us, []⟩ = pure ((["_law_q_here", "_law_d"] : List Str).zip us) := fun _ _ _ _ _ _ us hl => match us, hl with | [_, _], _ => rfl
theorem bd_41 : ∀ (kV doc pm : Value) (an : Option Addr) (cdv ct : Value) (us : List Value), us.length = (["_law_field_here", "_law_one", "_law_other"] : List Str).length → bindArgs (PySem.W.fnOf "_law_product" "_law_product" (defArgs (topS 41)) (defBody (topS 41)) (defScope (topS 41)) .none kV doc pm an cdv ct) ⟨us, []⟩ = pure ((["_law_field_here", "_law_one", "_law_other"] : List Str).zip us) := fun _ _ _ _ _ _ us hl => match us, hl with | [_, _, _], _ => rfl
theorem bd_39 : ∀ (kV doc pm : Value) (an : Option Addr) (cdv ct : Value) (us : List Value), us.length = (["_law_row"] : List Str).length → bindArgs (PySem.W.fnOf "_law_trim" "_law_trim" (defArgs (topS 39)) (defBody (topS 39)) (defScope (topS 39)) .none kV doc pm an cdv ct) ⟨us, []⟩ = pure ((["_law_row"] : List Str).zip us) := fun _ _ _ _ _ _ us hl => match us, hl with | [_], _ => rfl
theorem bd_42 : ∀ (kV doc pm : Value) (an : Option Addr) (cdv ct : Value) (us : List Value), us.length = (["_law_field_here", "_law_one", "_law_other"] : List Str).length → bindArgs (PySem.W.fnOf "_law_parted" "_law_parted" (defArgs (topS 42)) (defBody (topS 42)) (defScope (topS 42)) .none kV doc pm an cdv ct) ⟨us, []⟩ = pure ((["_law_field_here", "_law_one", "_law_other"] : List Str).zip us) := fun _ _ _ _ _ _ us hl => match us, hl with | [_, _, _], _ => rfl
theorem bd_43 : ∀ (kV doc pm : Value) (an : Option Addr) (cdv ct : Value) (us : List Value), us.length = (["_law_field_here", "_law_one", "_law_other"] : List Str).length → bindArgs (PySem.W.fnOf "_law_rest" "_law_rest" (defArgs (topS 43)) (defBody (topS 43)) (defScope (topS 43)) .none kV doc pm an cdv ct) ⟨us, []⟩ = pure ((["_law_field_here", "_law_one", "_law_other"] : List Str).zip us) := fun _ _ _ _ _ _ us hl => match us, hl with | [_, _, _], _ => rfl
theorem bd_40 : ∀ (kV doc pm : Value) (an : Option Addr) (cdv ct : Value) (us : List Value), us.length = (["_law_field_here", "_law_element", "_law_one"] : List Str).length → bindArgs (PySem.W.fnOf "_law_scaled" "_law_scaled" (defArgs (topS 40)) (defBody (topS 40)) (defScope (topS 40)) .none kV doc pm an cdv ct) ⟨us, []⟩ = pure ((["_law_field_here", "_law_element", "_law_one"] : List Str).zip us) := fun _ _ _ _ _ _ us hl => match us, hl with | [_, _, _], _ => rfl
theorem bd_46 : ∀ (kV doc pm : Value) (an : Option Addr) (cdv ct : Value) (us : List Value), us.length = (["_law_field_here", "_law_one"] : List Str).length → bindArgs (PySem.W.fnOf "_law_monic_of" "_law_monic_of" (defArgs (topS 46)) (defBody (topS 46)) (defScope (topS 46)) .none kV doc pm an cdv ct) ⟨us, []⟩ = pure ((["_law_field_here", "_law_one"] : List Str).zip us) := fun _ _ _ _ _ _ us hl => match us, hl with | [_, _], _ => rfl
theorem bd_45 : ∀ (kV doc pm : Value) (an : Option Addr) (cdv ct : Value) (us : List Value), us.length = (["_law_field_here", "_law_one", "_law_other"] : List Str).length → bindArgs (PySem.W.fnOf "_law_common" "_law_common" (defArgs (topS 45)) (defBody (topS 45)) (defScope (topS 45)) .none kV doc pm an cdv ct) ⟨us, []⟩ = pure ((["_law_field_here", "_law_one", "_law_other"] : List Str).zip us) := fun _ _ _ _ _ _ us hl => match us, hl with | [_, _, _], _ => rfl
theorem bd_9 : ∀ (kV doc pm : Value) (an : Option Addr) (cdv ct : Value) (us : List Value), us.length = (["value"] : List Str).length → bindArgs (PySem.W.fnOf "is_whole_number" "is_whole_number" (defArgs (topS 9)) (defBody (topS 9)) (defScope (topS 9)) .none kV doc pm an cdv ct) ⟨us, []⟩ = pure ((["value"] : List Str).zip us) := fun _ _ _ _ _ _ us hl => match us, hl with | [_], _ => rfl
theorem bd_12 : ∀ (kV doc pm : Value) (an : Option Addr) (cdv ct : Value) (us : List Value), us.length = (["value"] : List Str).length → bindArgs (PySem.W.fnOf "is_field_in" "is_field_in" (defArgs (topS 12)) (defBody (topS 12)) (defScope (topS 12)) .none kV doc pm an cdv ct) ⟨us, []⟩ = pure ((["value"] : List Str).zip us) := fun _ _ _ _ _ _ us hl => match us, hl with | [_], _ => rfl
theorem bd_14 : ∀ (kV doc pm : Value) (an : Option Addr) (cdv ct : Value) (us : List Value), us.length = (["q"] : List Str).length → bindArgs (PySem.W.fnOf "require_field" "require_field" (defArgs (topS 14)) (defBody (topS 14)) (defScope (topS 14)) .none kV doc pm an cdv ct) ⟨us, []⟩ = pure ((["q"] : List Str).zip us) := fun _ _ _ _ _ _ us hl => match us, hl with | [_], _ => rfl
theorem bd_10 : ∀ (kV doc pm : Value) (an : Option Addr) (cdv ct : Value) (us : List Value), us.length = (["value", "least", "most"] : List Str).length → bindArgs (PySem.W.fnOf "is_within" "is_within" (defArgs (topS 10)) (defBody (topS 10)) (defScope (topS 10)) .none kV doc pm an cdv ct) ⟨us, []⟩ = pure ((["value", "least", "most"] : List Str).zip us) := fun _ _ _ _ _ _ us hl => match us, hl with | [_, _, _], _ => rfl
theorem bd_22 : ∀ (kV doc pm : Value) (an : Option Addr) (cdv ct : Value) (us : List Value), us.length = (["d"] : List Str).length → bindArgs (PySem.W.fnOf "require_degree" "require_degree" (defArgs (topS 22)) (defBody (topS 22)) (defScope (topS 22)) .none kV doc pm an cdv ct) ⟨us, []⟩ = pure ((["d"] : List Str).zip us) := fun _ _ _ _ _ _ us hl => match us, hl with | [_], _ => rfl
theorem bd_27 : ∀ (kV doc pm : Value) (an : Option Addr) (cdv ct : Value) (us : List Value), us.length = (["degree"] : List Str).length → bindArgs (PySem.W.fnOf "require_made_degree" "require_made_degree" (defArgs (topS 27)) (defBody (topS 27)) (defScope (topS 27)) .none kV doc pm an cdv ct) ⟨us, []⟩ = pure ((["degree"] : List Str).zip us) := fun _ _ _ _ _ _ us hl => match us, hl with | [_], _ => rfl
theorem bd_11 : ∀ (kV doc pm : Value) (an : Option Addr) (cdv ct : Value) (us : List Value), us.length = (["base", "count"] : List Str).length → bindArgs (PySem.W.fnOf "integer_power" "integer_power" (defArgs (topS 11)) (defBody (topS 11)) (defScope (topS 11)) .none kV doc pm an cdv ct) ⟨us, []⟩ = pure ((["base", "count"] : List Str).zip us) := fun _ _ _ _ _ _ us hl => match us, hl with | [_, _], _ => rfl
theorem bd_18 : ∀ (kV doc pm : Value) (an : Option Addr) (cdv ct : Value) (us : List Value), us.length = (["q", "a", "b"] : List Str).length → bindArgs (PySem.W.fnOf "times_in" "times_in" (defArgs (topS 18)) (defBody (topS 18)) (defScope (topS 18)) .none kV doc pm an cdv ct) ⟨us, []⟩ = pure ((["q", "a", "b"] : List Str).zip us) := fun _ _ _ _ _ _ us hl => match us, hl with | [_, _, _], _ => rfl
theorem bd_17 : ∀ (kV doc pm : Value) (an : Option Addr) (cdv ct : Value) (us : List Value), us.length = (["base", "count"] : List Str).length → bindArgs (PySem.W.fnOf "to_power" "to_power" (defArgs (topS 17)) (defBody (topS 17)) (defScope (topS 17)) .none kV doc pm an cdv ct) ⟨us, []⟩ = pure ((["base", "count"] : List Str).zip us) := fun _ _ _ _ _ _ us hl => match us, hl with | [_, _], _ => rfl
theorem bd_19 : ∀ (kV doc pm : Value) (an : Option Addr) (cdv ct : Value) (us : List Value), us.length = (["q", "a", "steps"] : List Str).length → bindArgs (PySem.W.fnOf "root_power_in" "root_power_in" (defArgs (topS 19)) (defBody (topS 19)) (defScope (topS 19)) .none kV doc pm an cdv ct) ⟨us, []⟩ = pure ((["q", "a", "steps"] : List Str).zip us) := fun _ _ _ _ _ _ us hl => match us, hl with | [_, _, _], _ => rfl
theorem bd_13 : ∀ (kV doc pm : Value) (an : Option Addr) (cdv ct : Value) (us : List Value), us.length = (["q", "element"] : List Str).length → bindArgs (PySem.W.fnOf "opposite_in" "opposite_in" (defArgs (topS 13)) (defBody (topS 13)) (defScope (topS 13)) .none kV doc pm an cdv ct) ⟨us, []⟩ = pure ((["q", "element"] : List Str).zip us) := fun _ _ _ _ _ _ us hl => match us, hl with | [_, _], _ => rfl
theorem bd_24 : ∀ (kV doc pm : Value) (an : Option Addr) (cdv ct : Value) (us : List Value), us.length = (["q", "index"] : List Str).length → bindArgs (PySem.W.fnOf "bracket_in" "bracket_in" (defArgs (topS 24)) (defBody (topS 24)) (defScope (topS 24)) .none kV doc pm an cdv ct) ⟨us, []⟩ = pure ((["q", "index"] : List Str).zip us) := fun _ _ _ _ _ _ us hl => match us, hl with | [_, _], _ => rfl
theorem bd_25 : ∀ (kV doc pm : Value) (an : Option Addr) (cdv ct : Value) (us : List Value), us.length = (["q", "d"] : List Str).length → bindArgs (PySem.W.fnOf "all_product_in" "all_product_in" (defArgs (topS 25)) (defBody (topS 25)) (defScope (topS 25)) .none kV doc pm an cdv ct) ⟨us, []⟩ = pure ((["q", "d"] : List Str).zip us) := fun _ _ _ _ _ _ us hl => match us, hl with | [_, _], _ => rfl
theorem bd_28 : ∀ (kV doc pm : Value) (an : Option Addr) (cdv ct : Value) (us : List Value), us.length = (["q", "d"] : List Str).length → bindArgs (PySem.W.fnOf "all_product" "all_product" (defArgs (topS 28)) (defBody (topS 28)) (defScope (topS 28)) .none kV doc pm an cdv ct) ⟨us, []⟩ = pure ((["q", "d"] : List Str).zip us) := fun _ _ _ _ _ _ us hl => match us, hl with | [_, _], _ => rfl
theorem bd_26 : ∀ (kV doc pm : Value) (an : Option Addr) (cdv ct : Value) (us : List Value), us.length = (["q", "d"] : List Str).length → bindArgs (PySem.W.fnOf "least_multiple_in" "least_multiple_in" (defArgs (topS 26)) (defBody (topS 26)) (defScope (topS 26)) .none kV doc pm an cdv ct) ⟨us, []⟩ = pure ((["q", "d"] : List Str).zip us) := fun _ _ _ _ _ _ us hl => match us, hl with | [_, _], _ => rfl
theorem bd_29 : ∀ (kV doc pm : Value) (an : Option Addr) (cdv ct : Value) (us : List Value), us.length = (["q", "d"] : List Str).length → bindArgs (PySem.W.fnOf "least_multiple" "least_multiple" (defArgs (topS 29)) (defBody (topS 29)) (defScope (topS 29)) .none kV doc pm an cdv ct) ⟨us, []⟩ = pure ((["q", "d"] : List Str).zip us) := fun _ _ _ _ _ _ us hl => match us, hl with | [_, _], _ => rfl
theorem bd_44 : ∀ (kV doc pm : Value) (an : Option Addr) (cdv ct : Value) (us : List Value), us.length = (["_law_q_here", "_law_one", "_law_i"] : List Str).length → bindArgs (PySem.W.fnOf "_law_stretched" "_law_stretched" (defArgs (topS 44)) (defBody (topS 44)) (defScope (topS 44)) .none kV doc pm an cdv ct) ⟨us, []⟩ = pure ((["_law_q_here", "_law_one", "_law_i"] : List Str).zip us) := fun _ _ _ _ _ _ us hl => match us, hl with | [_, _, _], _ => rfl
theorem bd_51 : ∀ (kV doc pm : Value) (an : Option Addr) (cdv ct : Value) (us : List Value), us.length = (["_law_field_here", "_law_j"] : List Str).length → bindArgs (PySem.W.fnOf "_law_bracket" "_law_bracket" (defArgs (topS 51)) (defBody (topS 51)) (defScope (topS 51)) .none kV doc pm an cdv ct) ⟨us, []⟩ = pure ((["_law_field_here", "_law_j"] : List Str).zip us) := fun _ _ _ _ _ _ us hl => match us, hl with | [_, _], _ => rfl
theorem bd_52 : ∀ (kV doc pm : Value) (an : Option Addr) (cdv ct : Value) (us : List Value), us.length = (["_law_field_here", "_law_d"] : List Str).length → bindArgs (PySem.W.fnOf "_law_all_product" "_law_all_product" (defArgs (topS 52)) (defBody (topS 52)) (defScope (topS 52)) .none kV doc pm an cdv ct) ⟨us, []⟩ = pure ((["_law_field_here", "_law_d"] : List Str).zip us) := fun _ _ _ _ _ _ us hl => match us, hl with | [_, _], _ => rfl
theorem bd_53 : ∀ (kV doc pm : Value) (an : Option Addr) (cdv ct : Value) (us : List Value), us.length = (["_law_field_here", "_law_d"] : List Str).length → bindArgs (PySem.W.fnOf "_law_least_multiple" "_law_least_multiple" (defArgs (topS 53)) (defBody (topS 53)) (defScope (topS 53)) .none kV doc pm an cdv ct) ⟨us, []⟩ = pure ((["_law_field_here", "_law_d"] : List Str).zip us) := fun _ _ _ _ _ _ us hl => match us, hl with | [_, _], _ => rfl
theorem bd_54 : ∀ (kV doc pm : Value) (an : Option Addr) (cdv ct : Value) (us : List Value), us.length = (["_law_dice_here"] : List Str).length → bindArgs (PySem.W.fnOf "_law_right" "_law_right" (defArgs (topS 54)) (defBody (topS 54)) (defScope (topS 54)) .none kV doc pm an cdv ct) ⟨us, []⟩ = pure ((["_law_dice_here"] : List Str).zip us) := fun _ _ _ _ _ _ us hl => match us, hl with | [_], _ => rfl
theorem bd_55 : ∀ (kV doc pm : Value) (an : Option Addr) (cdv ct : Value) (us : List Value), us.length = (["_law_script"] : List Str).length → bindArgs (PySem.W.fnOf "law" "law" (defArgs (topS 55)) (defBody (topS 55)) (defScope (topS 55)) .none kV doc pm an cdv ct) ⟨us, []⟩ = pure ((["_law_script"] : List Str).zip us) := fun _ _ _ _ _ _ us hl => match us, hl with | [_], _ => rfl
theorem all_mk {l : PySem.W.OpenLaw} {w : World} {K : PySem.W.Frag} {h : Heap} {mg : Str → Option Value} {fa f55 : Addr} (X : K.In h) (G : h.Ns mainGlobals mg) (hfa : mg "law" = some (.ref fa)) {od55 an55 : Option Addr} {sl55 : Array (Option Value)} {oc55 kV55 dc55 pm55 cd55 ct55 : Value}
    (a55 : PySem.W.nsIn K mainGlobals "law" = some (some (.ref f55))) (l55 : K.lookup f55 = some ⟨oc55, od55, .func (PySem.W.fnOf "law" "law" (defArgs (topS 55)) (defBody (topS 55)) (defScope (topS 55)) .none kV55 dc55 pm55 an55 cd55 ct55), sl55⟩) (c55 : PySem.W.codeIn K cd55 "law" = true) (k55 : PySem.W.keepIn K (.ref f55) = true)
    (D31 : Def K mg "_law_dice" 31 ["_law_script", "_law_at"])
    (D32 : Def K mg "_law_roll" 32 ["_law_dice_here", "_law_total"])
    (D33 : Def K mg "_law_one_of" 33 ["_law_dice_here", "_law_items"])
    (D49 : Def K mg "_law_q" 49 ["_law_dice_here"])
    (D37 : Def K mg "_law_element_sum" 37 ["_law_p", "_law_f", "_law_one", "_law_other"])
    (D35 : Def K mg "_law_digits" 35 ["_law_base", "_law_number"])
    (D36 : Def K mg "_law_element_product" 36 ["_law_p", "_law_f", "_law_one", "_law_other"])
    (D38 : Def K mg "_law_field" 38 ["_law_q_here"])
    (D34 : Def K mg "_law_raised" 34 ["_law_base", "_law_count"])
    (D50 : Def K mg "_law_size" 50 ["_law_q_here", "_law_most"])
    (D47 : Def K mg "_law_lower" 47 ["_law_q_here", "_law_d"])
    (D48 : Def K mg "_law_monics" 48 ["_law_q_here", "_law_d"])
    (D41 : Def K mg "_law_product" 41 ["_law_field_here", "_law_one", "_law_other"])
    (D39 : Def K mg "_law_trim" 39 ["_law_row"])
    (D42 : Def K mg "_law_parted" 42 ["_law_field_here", "_law_one", "_law_other"])
    (D43 : Def K mg "_law_rest" 43 ["_law_field_here", "_law_one", "_law_other"])
    (D40 : Def K mg "_law_scaled" 40 ["_law_field_here", "_law_element", "_law_one"])
    (D46 : Def K mg "_law_monic_of" 46 ["_law_field_here", "_law_one"])
    (D45 : Def K mg "_law_common" 45 ["_law_field_here", "_law_one", "_law_other"])
    (D9 : Def K mg "is_whole_number" 9 ["value"])
    (D12 : Def K mg "is_field_in" 12 ["value"])
    (D14 : Def K mg "require_field" 14 ["q"])
    (D10 : Def K mg "is_within" 10 ["value", "least", "most"])
    (D22 : Def K mg "require_degree" 22 ["d"])
    (D27 : Def K mg "require_made_degree" 27 ["degree"])
    (D11 : Def K mg "integer_power" 11 ["base", "count"])
    (D18 : Def K mg "times_in" 18 ["q", "a", "b"])
    (D17 : Def K mg "to_power" 17 ["base", "count"])
    (D19 : Def K mg "root_power_in" 19 ["q", "a", "steps"])
    (D13 : Def K mg "opposite_in" 13 ["q", "element"])
    (D24 : Def K mg "bracket_in" 24 ["q", "index"])
    (D25 : Def K mg "all_product_in" 25 ["q", "d"])
    (D28 : Def K mg "all_product" 28 ["q", "d"])
    (D26 : Def K mg "least_multiple_in" 26 ["q", "d"])
    (D29 : Def K mg "least_multiple" 29 ["q", "d"])
    (D44 : Def K mg "_law_stretched" 44 ["_law_q_here", "_law_one", "_law_i"])
    (D51 : Def K mg "_law_bracket" 51 ["_law_field_here", "_law_j"])
    (D52 : Def K mg "_law_all_product" 52 ["_law_field_here", "_law_d"])
    (D53 : Def K mg "_law_least_multiple" 53 ["_law_field_here", "_law_d"])
    (D54 : Def K mg "_law_right" 54 ["_law_dice_here"])
    (z_abs : mg "abs" = none)
    (z_bool : mg "bool" = none)
    (z_enumerate : mg "enumerate" = none)
    (z_int : mg "int" = none)
    (z_isinstance : mg "isinstance" = none)
    (z_len : mg "len" = none)
    (z_list : mg "list" = none)
    (z_max : mg "max" = none)
    (z_min : mg "min" = none)
    (z_range : mg "range" = none)
    (z_sum : mg "sum" = none)
    (z_tuple : mg "tuple" = none)
    (z_zip : mg "zip" = none)
    (g_FIELDS : GlT K mg "FIELDS" (nv FQ))
    (g_MOST_MADE_DEGREE : GlI mg "MOST_MADE_DEGREE" 2000)
    (g_MOST_SUMMED_DEGREE : GlI mg "MOST_SUMMED_DEGREE" 300)
    (g_PRODUCT_TABLES : TabK K mg "PRODUCT_TABLES" MUL)
    (g_SUM_TABLES : TabK K mg "SUM_TABLES" PLUS) :
    ∃ fd : FuncData, (∀ (s : Shared) (v : Value), BindsTo s fd ⟨[v], []⟩ [("_law_script", v)]) ∧ ∀ base : Heap, K.In base → base.Ns mainGlobals mg → FnOk l.prog w K mg base CX0 6 fa fd ["_law_script"] (spLaw K) := by
  have e := hfa.symm.trans (PySem.W.mg_of X G a55)
  cases e
  have F55 := fun_mk (st := topS 55) l55 c55 k55
  refine ⟨PySem.W.fnOf "law" "law" (defArgs (topS 55)) (defBody (topS 55)) (defScope (topS 55)) .none kV55 dc55 pm55 an55 cd55 ct55, fun s v => .of_eq rfl, fun base _ _ => ?_⟩
  have C31 : Cal l.prog w K mg base "_law_dice" ["_law_script", "_law_at"] 1 (spDice K) := ok_31 D31 z_len z_int z_abs
  have C32 : Cal l.prog w K mg base "_law_roll" ["_law_dice_here", "_law_total"] 1 spRoll := ok_32 D32 z_int
  have C33 : Cal l.prog w K mg base "_law_one_of" ["_law_dice_here", "_law_items"] 2 spOneOf := ok_33 D33 C32 z_len
  have C49 : Cal l.prog w K mg base "_law_q" ["_law_dice_here"] 3 spQ := ok_49 D49 C33
  have C37 : Cal l.prog w K mg base "_law_element_sum" ["_law_p", "_law_f", "_law_one", "_law_other"] 1 (spElt fun q _ _ => PLUS q) := ok_37 D37 z_range
  have C35 : Cal l.prog w K mg base "_law_digits" ["_law_base", "_law_number"] 1 spDigs := ok_35 D35
  have C36 : 
    Cal l.prog w K mg base "_law_element_product" ["_law_p", "_law_f", "_law_one", "_law_other"] 2 (spElt fun q _ _ => MUL q) := ok_36 D36 C35 z_range z_enumerate
  have C38 : 
    Cal l.prog w K mg base "_law_field" ["_law_q_here"] 4 spField2 := ok_38 D38 C37 C36 z_range
  have C34 : Cal l.prog w K mg base "_law_raised" ["_law_base", "_law_count"] 1 spPow := ok_34 D34 z_range
  have C50 : Cal l.prog w K mg base "_law_size" ["_law_q_here", "_law_most"] 2 spSize := ok_50 D50 C34
  have C47 : 
    Cal l.prog w K mg base "_law_lower" ["_law_q_here", "_law_d"] 2 (spLow K fun q d => (List.range (q ^ d)).map (digs q)) := ok_47 D47 C34 C35 z_range z_tuple
  have C48 : 
    Cal l.prog w K mg base "_law_monics" ["_law_q_here", "_law_d"] 3 (spLow K monics) := ok_48 D48 C47 z_len
  have C41 : Cal l.prog w K mg base "_law_product" ["_law_field_here", "_law_one", "_law_other"] 1 (spProd K) := ok_41 D41 z_len z_enumerate z_tuple
  have C39 : Cal l.prog w K mg base "_law_trim" ["_law_row"] 1 (spTrim K) := ok_39 D39 z_len z_tuple
  have C42 : 
    Cal l.prog w K mg base "_law_parted" ["_law_field_here", "_law_one", "_law_other"] 2 (spParted K) := ok_42 D42 C39 z_len z_list z_max z_range
  have C43 : Cal l.prog w K mg base "_law_rest" ["_law_field_here", "_law_one", "_law_other"] 3 (spRest K) := ok_43 D43 C42
  have C40 : Cal l.prog w K mg base "_law_scaled" ["_law_field_here", "_law_element", "_law_one"] 2 (spScaled K) := ok_40 D40 C39
  have C46 : Cal l.prog w K mg base "_law_monic_of" ["_law_field_here", "_law_one"] 3 (spMonic K) := ok_46 D46 C40
  have C45 : 
    Cal l.prog w K mg base "_law_common" ["_law_field_here", "_law_one", "_law_other"] 4 (spCom K) := ok_45 D45 C43 C46
  have C9 : Cal l.prog w K mg base "is_whole_number" ["value"] 1 spWhole := ok_9 D9 z_isinstance z_int z_bool
  have C12 : Cal l.prog w K mg base "is_field_in" ["value"] 2 spField := ok_12 D12 C9 g_FIELDS
  have C14 : Cal l.prog w K mg base "require_field" ["q"] 3 spReqF := ok_14 D14 C12
  have C10 : Cal l.prog w K mg base "is_within" ["value", "least", "most"] 2 spWithin := ok_10 D10 C9
  have C22 : Cal l.prog w K mg base "require_degree" ["d"] 3 spReqD := ok_22 D22 C10 g_MOST_SUMMED_DEGREE
  have C27 : Cal l.prog w K mg base "require_made_degree" ["degree"] 1 spReqM := ok_27 D27 g_MOST_MADE_DEGREE
  have C11 : Cal l.prog w K mg base "integer_power" ["base", "count"] 1 spPow := ok_11 D11 z_range
  have C18 : 
    Cal l.prog w K mg base "times_in" ["q", "a", "b"] 1 spTimes := ok_18 D18 g_SUM_TABLES g_PRODUCT_TABLES z_len z_enumerate z_zip z_tuple
  have C17 : Cal l.prog w K mg base "to_power" ["base", "count"] 1 spPow := ok_17 D17 z_range
  have C19 : Cal l.prog w K mg base "root_power_in" ["q", "a", "steps"] 2 spRoot := ok_19 D19 C17 z_tuple z_range z_len
  have C13 : Cal l.prog w K mg base "opposite_in" ["q", "element"] 1 spOpp := ok_13 D13 g_SUM_TABLES
  have C24 : Cal l.prog w K mg base "bracket_in" ["q", "index"] 2 spBrk := ok_24 D24 C13 C11
  have C25 : 
    Cal l.prog w K mg base "all_product_in" ["q", "d"] 3 (spAll fun q d => allA q d d) := ok_25 D25 C18 C19 C24 z_range
  have C28 : Cal l.prog w K mg base "all_product" ["q", "d"] 4 (spAll fun q d => allA q d d) := ok_28 D28 C14 C22 C27 C11 C25
  have C26 : 
    Cal l.prog w K mg base "least_multiple_in" ["q", "d"] 3 (spAll fun q d => lcmA q d) := ok_26 D26 C18 C24 z_range
  have C29 : Cal l.prog w K mg base "least_multiple" ["q", "d"] 4 (spAll fun q d => lcmA q d) := ok_29 D29 C14 C22 C27 C11 C26 z_range z_sum
  have C44 : Cal l.prog w K mg base "_law_stretched" ["_law_q_here", "_law_one", "_law_i"] 2 (spStr K) := ok_44 D44 C34 z_len z_enumerate z_tuple
  have C51 : Cal l.prog w K mg base "_law_bracket" ["_law_field_here", "_law_j"] 2 (spBrB K) := ok_51 D51 C34
  have C52 : Cal l.prog w K mg base "_law_all_product" ["_law_field_here", "_law_d"] 3 (spAllB K fun q d => allB q d d) := ok_52 D52 C41 C44 C51 z_range
  have C53 : Cal l.prog w K mg base "_law_least_multiple" ["_law_field_here", "_law_d"] 3 (spAllB K fun q d => lcmB q d) := ok_53 D53 C41 C51 z_range
  have C54 : Cal l.prog w K mg base "_law_right" ["_law_dice_here"] 5 spRight := ok_54 D54 C49 C38 C50 C48 C41 C42 C45 C34 C32 C28 C29 C52 C53 C43 z_len
  exact ok_55 F55 C31 C54 z_len z_max z_min z_range
end K13
open PySem PySem.W PyProof.Rows
set_option maxHeartbeats 0
open_top hd for PySem.Challenge.rw_monicsums_k13_whole_products_and_least_m
theorem PySem.Challenge.cw_monicsums_k13_whole_products_and_least_m_holds : PySem.Challenge.rw_monicsums_k13_whole_products_and_least_m.Holds := by
  refine hd ?_
  refine L2.walk_of (l := PySem.Challenge.rw_monicsums_k13_whole_products_and_least_m) (n := 63) (k := 6) (x := "_law_script") (CX := fun _ => L2.CX0) (sp := fun w => K13.spLaw _) rfl (by decide) rfl ⟨rfl, by decide, by decide⟩ (fun w h Y => PySem.W.kIn_of Y) ?F (fun _ _ a ns hl _ hS => ⟨a, ns, rfl, hS, fun _ => rfl⟩) (fun _ _ _ _ _ h => h)
  case F =>
    intro w mg fa h KX G hmg
    refine' K13.all_mk KX G hmg ?a55 ?l55 ?c55 ?k55 ?D31 ?D32 ?D33 ?D49 ?D37 ?D35 ?D36 ?D38 ?D34 ?D50 ?D47 ?D48 ?D41 ?D39 ?D42 ?D43 ?D40 ?D46 ?D45 ?D9 ?D12 ?D14 ?D10 ?D22 ?D27 ?D11 ?D18 ?D17 ?D19 ?D13 ?D24 ?D25 ?D28 ?D26 ?D29 ?D44 ?D51 ?D52 ?D53 ?D54 ?z_abs ?z_bool ?z_enumerate ?z_int ?z_isinstance ?z_len ?z_list ?z_max ?z_min ?z_range ?z_sum ?z_tuple ?z_zip ?g_FIELDS ?g_MOST_MADE_DEGREE ?g_MOST_SUMMED_DEGREE ?g_PRODUCT_TABLES ?g_SUM_TABLES
    (case a55 => k_is)
    (case l55 => k_is)
    (case c55 => k_is)
    (case k55 => k_is)
    (case D31 => (refine' K13.def_mk K13.bd_31 KX G ?a ?l ?c ?k; (case a => k_is); (case l => k_is); (case c => k_is); (case k => k_is)))
    (case D32 => (refine' K13.def_mk K13.bd_32 KX G ?a ?l ?c ?k; (case a => k_is); (case l => k_is); (case c => k_is); (case k => k_is)))
    (case D33 => (refine' K13.def_mk K13.bd_33 KX G ?a ?l ?c ?k; (case a => k_is); (case l => k_is); (case c => k_is); (case k => k_is)))
    (case D49 => (refine' K13.def_mk K13.bd_49 KX G ?a ?l ?c ?k; (case a => k_is); (case l => k_is); (case c => k_is); (case k => k_is)))
    (case D37 => (refine' K13.def_mk K13.bd_37 KX G ?a ?l ?c ?k; (case a => k_is); (case l => k_is); (case c => k_is); (case k => k_is)))
    (case D35 => (refine' K13.def_mk K13.bd_35 KX G ?a ?l ?c ?k; (case a => k_is); (case l => k_is); (case c => k_is); (case k => k_is)))
    (case D36 => (refine' K13.def_mk K13.bd_36 KX G ?a ?l ?c ?k; (case a => k_is); (case l => k_is); (case c => k_is); (case k => k_is)))
    (case D38 => (refine' K13.def_mk K13.bd_38 KX G ?a ?l ?c ?k; (case a => k_is); (case l => k_is); (case c => k_is); (case k => k_is)))
    (case D34 => (refine' K13.def_mk K13.bd_34 KX G ?a ?l ?c ?k; (case a => k_is); (case l => k_is); (case c => k_is); (case k => k_is)))
    (case D50 => (refine' K13.def_mk K13.bd_50 KX G ?a ?l ?c ?k; (case a => k_is); (case l => k_is); (case c => k_is); (case k => k_is)))
    (case D47 => (refine' K13.def_mk K13.bd_47 KX G ?a ?l ?c ?k; (case a => k_is); (case l => k_is); (case c => k_is); (case k => k_is)))
    (case D48 => (refine' K13.def_mk K13.bd_48 KX G ?a ?l ?c ?k; (case a => k_is); (case l => k_is); (case c => k_is); (case k => k_is)))
    (case D41 => (refine' K13.def_mk K13.bd_41 KX G ?a ?l ?c ?k; (case a => k_is); (case l => k_is); (case c => k_is); (case k => k_is)))
    (case D39 => (refine' K13.def_mk K13.bd_39 KX G ?a ?l ?c ?k; (case a => k_is); (case l => k_is); (case c => k_is); (case k => k_is)))
    (case D42 => (refine' K13.def_mk K13.bd_42 KX G ?a ?l ?c ?k; (case a => k_is); (case l => k_is); (case c => k_is); (case k => k_is)))
    (case D43 => (refine' K13.def_mk K13.bd_43 KX G ?a ?l ?c ?k; (case a => k_is); (case l => k_is); (case c => k_is); (case k => k_is)))
    (case D40 => (refine' K13.def_mk K13.bd_40 KX G ?a ?l ?c ?k; (case a => k_is); (case l => k_is); (case c => k_is); (case k => k_is)))
    (case D46 => (refine' K13.def_mk K13.bd_46 KX G ?a ?l ?c ?k; (case a => k_is); (case l => k_is); (case c => k_is); (case k => k_is)))
    (case D45 => (refine' K13.def_mk K13.bd_45 KX G ?a ?l ?c ?k; (case a => k_is); (case l => k_is); (case c => k_is); (case k => k_is)))
    (case D9 => (refine' K13.def_mk K13.bd_9 KX G ?a ?l ?c ?k; (case a => k_is); (case l => k_is); (case c => k_is); (case k => k_is)))
    (case D12 => (refine' K13.def_mk K13.bd_12 KX G ?a ?l ?c ?k; (case a => k_is); (case l => k_is); (case c => k_is); (case k => k_is)))
    (case D14 => (refine' K13.def_mk K13.bd_14 KX G ?a ?l ?c ?k; (case a => k_is); (case l => k_is); (case c => k_is); (case k => k_is)))
    (case D10 => (refine' K13.def_mk K13.bd_10 KX G ?a ?l ?c ?k; (case a => k_is); (case l => k_is); (case c => k_is); (case k => k_is)))
    (case D22 => (refine' K13.def_mk K13.bd_22 KX G ?a ?l ?c ?k; (case a => k_is); (case l => k_is); (case c => k_is); (case k => k_is)))
    (case D27 => (refine' K13.def_mk K13.bd_27 KX G ?a ?l ?c ?k; (case a => k_is); (case l => k_is); (case c => k_is); (case k => k_is)))
    (case D11 => (refine' K13.def_mk K13.bd_11 KX G ?a ?l ?c ?k; (case a => k_is); (case l => k_is); (case c => k_is); (case k => k_is)))
    (case D18 => (refine' K13.def_mk K13.bd_18 KX G ?a ?l ?c ?k; (case a => k_is); (case l => k_is); (case c => k_is); (case k => k_is)))
    (case D17 => (refine' K13.def_mk K13.bd_17 KX G ?a ?l ?c ?k; (case a => k_is); (case l => k_is); (case c => k_is); (case k => k_is)))
    (case D19 => (refine' K13.def_mk K13.bd_19 KX G ?a ?l ?c ?k; (case a => k_is); (case l => k_is); (case c => k_is); (case k => k_is)))
    (case D13 => (refine' K13.def_mk K13.bd_13 KX G ?a ?l ?c ?k; (case a => k_is); (case l => k_is); (case c => k_is); (case k => k_is)))
    (case D24 => (refine' K13.def_mk K13.bd_24 KX G ?a ?l ?c ?k; (case a => k_is); (case l => k_is); (case c => k_is); (case k => k_is)))
    (case D25 => (refine' K13.def_mk K13.bd_25 KX G ?a ?l ?c ?k; (case a => k_is); (case l => k_is); (case c => k_is); (case k => k_is)))
    (case D28 => (refine' K13.def_mk K13.bd_28 KX G ?a ?l ?c ?k; (case a => k_is); (case l => k_is); (case c => k_is); (case k => k_is)))
    (case D26 => (refine' K13.def_mk K13.bd_26 KX G ?a ?l ?c ?k; (case a => k_is); (case l => k_is); (case c => k_is); (case k => k_is)))
    (case D29 => (refine' K13.def_mk K13.bd_29 KX G ?a ?l ?c ?k; (case a => k_is); (case l => k_is); (case c => k_is); (case k => k_is)))
    (case D44 => (refine' K13.def_mk K13.bd_44 KX G ?a ?l ?c ?k; (case a => k_is); (case l => k_is); (case c => k_is); (case k => k_is)))
    (case D51 => (refine' K13.def_mk K13.bd_51 KX G ?a ?l ?c ?k; (case a => k_is); (case l => k_is); (case c => k_is); (case k => k_is)))
    (case D52 => (refine' K13.def_mk K13.bd_52 KX G ?a ?l ?c ?k; (case a => k_is); (case l => k_is); (case c => k_is); (case k => k_is)))
    (case D53 => (refine' K13.def_mk K13.bd_53 KX G ?a ?l ?c ?k; (case a => k_is); (case l => k_is); (case c => k_is); (case k => k_is)))
    (case D54 => (refine' K13.def_mk K13.bd_54 KX G ?a ?l ?c ?k; (case a => k_is); (case l => k_is); (case c => k_is); (case k => k_is)))
    (case z_abs => (refine' PySem.W.mg_none_of KX G ?a; (case a => k_is)))
    (case z_bool => (refine' PySem.W.mg_none_of KX G ?a; (case a => k_is)))
    (case z_enumerate => (refine' PySem.W.mg_none_of KX G ?a; (case a => k_is)))
    (case z_int => (refine' PySem.W.mg_none_of KX G ?a; (case a => k_is)))
    (case z_isinstance => (refine' PySem.W.mg_none_of KX G ?a; (case a => k_is)))
    (case z_len => (refine' PySem.W.mg_none_of KX G ?a; (case a => k_is)))
    (case z_list => (refine' PySem.W.mg_none_of KX G ?a; (case a => k_is)))
    (case z_max => (refine' PySem.W.mg_none_of KX G ?a; (case a => k_is)))
    (case z_min => (refine' PySem.W.mg_none_of KX G ?a; (case a => k_is)))
    (case z_range => (refine' PySem.W.mg_none_of KX G ?a; (case a => k_is)))
    (case z_sum => (refine' PySem.W.mg_none_of KX G ?a; (case a => k_is)))
    (case z_tuple => (refine' PySem.W.mg_none_of KX G ?a; (case a => k_is)))
    (case z_zip => (refine' PySem.W.mg_none_of KX G ?a; (case a => k_is)))
    (case g_FIELDS => (refine' K13.glt_mk KX G ?a ?b; (case a => k_is); (case b => kernel_rfl)))
    (case g_MOST_MADE_DEGREE => (refine' K13.gli_mk KX G ?a; (case a => k_is)))
    (case g_MOST_SUMMED_DEGREE => (refine' K13.gli_mk KX G ?a; (case a => k_is)))
    (case g_PRODUCT_TABLES => (refine' K13.tabk_mk KX G ?a ?b; (case a => k_is); (case b => kernel_rfl)))
    (case g_SUM_TABLES => (refine' K13.tabk_mk KX G ?a ?b; (case a => k_is); (case b => kernel_rfl)))
