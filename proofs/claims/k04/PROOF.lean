import PyProof.Rows.All
import Wide.All
import OpenK.AllK
import Wide.FinOn
import PySem.Challenge.RW_tollhall_k04_whole_rules_of_rows_a_trill
import HandS.ForMost
import HandS.Walk
import HandS.Evl
import HandS.Wide
import HandS.Conv
import HandS.TupAny
import HandS.IsInst
import HandS.Style
import HandS.Flow
import KE.GoesNew
import PyProof.ReprRoads
import HandS.TupMul
import HandS.RaiseMore
import HandS.Lambda
import HandS.HeadEnd
import KE.KStateDown
import HandS.Head0
import HandS.Head1
import HandS.Head2
import HandS.HeadHook1
set_option Elab.async false
set_option linter.all false
set_option maxRecDepth 100000
set_option maxHeartbeats 4000000
section
namespace Tb
open PySem PySem.Spec PyProof.Rows L2

/-! ## lists and tuples alike -/
/-- c = true: a list, else a tuple -/
def SqC (K : PySem.W.Frag) (c : Bool) (H : Hp) (a : Addr) (xs : List V) : Prop := if c = true then SqL K H a xs else SqT K H a xs
def IterC (c : Bool) (h : Heap) (it a : Addr) (i : Nat) : Prop := if c = true then h.IsListIter it a i else h.IsTupleIter it a i
def SeqC (c : Bool) (h : Heap) (a : Addr) (vs : Array Value) : Prop := if c = true then h.IsList a vs else h.IsTuple a vs

section
variable {X : Cx} {pins : List (Addr × Obj)} {σ : L2.St} {H : Hp} {s : Shared} {c : Bool} {a it : Addr} {xs ys : List V}
theorem seqC_of (I : Inv X pins σ H s) (h : SqC X.K c H a xs) : ∃ its : List Value, Vals xs its ∧ SeqC c s.heap a its.toArray := by
  cases c with
  | true =>
    obtain ⟨its, r, p, _⟩ := I.list (show SqL X.K H a xs from h)
    exact ⟨its, r, p.isList⟩
  | false =>
    obtain ⟨its, r, p, _⟩ := I.tuple (show SqT X.K H a xs from h)
    exact ⟨its, r, p⟩
theorem seqC_inj (I : Inv X pins σ H s) (h : SqC X.K c H a xs) (h' : SqC X.K c H a ys) : xs = ys := by
  cases c with
  | true => exact I.list_inj h h'
  | false => exact I.tuple_inj h h'
theorem seqC_lt {h : Heap} {vs : Array Value} (q : SeqC c h a vs) : a < h.objs.size := by
  cases c with
  | true => obtain ⟨_, e, _⟩ := (show h.IsList a vs from q); exact Heap.lt_size e
  | false => obtain ⟨_, e, _⟩ := (show h.IsTuple a vs from q); exact Heap.lt_size e
theorem iterC_obj {h : Heap} {i : Nat} (q : IterC c h it a i) : ∃ o, h.get? it = some o ∧ ∀ v, o.data ≠ .cell v := by
  cases c with
  | true =>
    obtain ⟨o, e, _, d⟩ := (show h.IsListIter it a i from q)
    exact ⟨o, e, fun v z => by rw [d] at z; cases z⟩
  | false =>
    obtain ⟨o, e, _, d⟩ := (show h.IsTupleIter it a i from q)
    exact ⟨o, e, fun v z => by rw [d] at z; cases z⟩
theorem iterC_at {h h' : Heap} {i : Nat} (q : IterC c h it a i) (k : ∀ o, h.get? it = some o → h'.get? it = some o) : IterC c h' it a i := by
  cases c with
  | true => exact (show h.IsListIter it a i from q).at k
  | false => exact (show h.IsTupleIter it a i from q).at k
/-- the drawing of items from a list or tuple -/
theorem drawsC {prog : Program} {w : World} {A : Around} {h : Heap} {i : Nat} {vs : Array Value} (hh : A.handled = none) (hne : a ≠ it) (hit : IterC c h it a i) (hs : SeqC c h a vs) :
    ∃ St : Nat → Heap → Prop, Draws prog w A it [it, a] vs.size (fun i v => vs[i]? = some v) St ∧ St i h ∧ ∀ j h', St j h' → IterC c h' it a j := by
  cases c with
  | true => exact ⟨_, Draws.list hh it a hne vs, ⟨hit, hs⟩, fun j h' st => st.1⟩
  | false => exact ⟨_, Draws.tuple hh it a hne vs, ⟨hit, hs⟩, fun j h' st => st.1⟩
end

/-! ## enumerate of a list or tuple -/
def ItE (K : PySem.W.Frag) (c : Bool) (a : Addr) : It :=
  ⟨fun i H => ∃ (xs : List V) (x : V), SqC K c H a xs ∧ xs[i]? = some x, fun i H v H' => ∃ T x, v = .ref T ∧ H T = none ∧ H' = upd H T (.tup [.int (i : Nat), x]) ∧ ∀ xs, SqC K c H a xs → xs[i]? = some x,
    fun i H => ∃ xs : List V, SqC K c H a xs ∧ xs.length = i⟩
theorem pair_new {P : Program} {w : World} {H : Hp} {h : Heap} {T : Addr} {x y : V} {u u' : Value} (rx : RelV x u) (ry : RelV y u') (hT : h.IsTuple T #[u, u']) : ObjOk P w H h T (.tup [x, y]) :=
  ⟨by show 2 ≤ sizeLine; decide, [u, u'], .cons rx (.cons ry .nil), hT⟩
theorem turn_E {P : Program} {w : World} {K : PySem.W.Frag} {c : Bool} {elts : List Expr} {kk : Nat} {tpos : Pos} {a e it : Addr} (hei : e ≠ it) (hea : e ≠ a) (hia : a ≠ it) :
    Turn P w K (.Tuple elts kk tpos) (ItE K c a) [e, it] e (fun i h => (∃ old, IsEnum h e it (0 + (i : Int)) old) ∧ IterC c h it a i) where
  mem := by simp
  obj := fun i h st b hb => by
    obtain ⟨⟨old, he⟩, hit⟩ := st
    rcases List.mem_cons.mp hb with z | z
    · rw [z]; exact ⟨_, he, fun v q => nomatch q⟩
    · rw [List.mem_singleton.mp z]; exact iterC_obj hit
  keep := fun i h h' st k => by
    obtain ⟨⟨old, he⟩, hit⟩ := st
    exact ⟨⟨old, k e (by simp) _ he⟩, iterC_at hit fun o q => k it (by simp) o q⟩
  item := by
    intro X hP hw hK hc i pins s σ H E I hf st hg
    subst hP hw hK
    obtain ⟨he, hit⟩ := st
    obtain ⟨xs, x, hq, hx⟩ := hg
    obtain ⟨its, rv, hs⟩ := seqC_of I hq
    obtain ⟨u, hu, ru⟩ := rv.get hx
    have hil : i < its.length := (List.getElem?_eq_some_iff.mp hu).1
    obtain ⟨St, D, st0, hSt⟩ := drawsC (prog := X.prog) (w := X.w) (A := X.A.in1) (show X.A.in1.handled = none from I.ok.hd hc) hia hit hs
    have W := GoesN.enumFrom (elts := elts) (x1 := kk) (pos := tpos) 0 D e hei (by simp [hei, hea]) (by simp)
    refine wpAny_mono (W.goes i s _ E (by simpa using hil) ⟨he, st0⟩ fun v h' tk hY st' hk htk => ?_) (fun _ _ q => q) (fun _ _ q => q)
    obtain ⟨T, t, y, ev, hTn, hy, hT⟩ := hY
    subst ev
    have ey : y = u := by
      rw [List.getElem?_toArray, hu] at hy
      exact (Option.some.inj hy).symm
    subst ey
    have hl : ∀ b ∈ ([e, it] : List Addr), b < s.heap.objs.size := fun b hb => by
      rcases List.mem_cons.mp hb with z | z
      · rw [z]; obtain ⟨old, q⟩ := he; exact Heap.lt_size q
      · rw [List.mem_singleton.mp z]; obtain ⟨o, q, _⟩ := iterC_obj hit; exact Heap.lt_size q
    have I1 := I.turnedNew (t' := tk) (ch := [e, it]) hk hf hTn (pair_new (P := X.prog) (w := X.w) (H := upd H T (.tup [.int (i : Nat), x])) (x := .int (i : Nat)) ⟨_, by rw [Int.zero_add]⟩ ru hT)
    refine ⟨.ref T, _, I1, rfl, ⟨T, x, rfl, I.hok.fresh hTn, rfl, fun ys hy => by rw [seqC_inj I hy hq]; exact hx⟩, ⟨?_, hSt _ _ st'.2⟩, fun b hb => ?_⟩
    · obtain ⟨old, q⟩ := st'.1
      exact ⟨old, q⟩
    · rw [upd_ne (Nat.ne_of_lt (Nat.lt_of_lt_of_le (hl b hb) hTn))]
      exact (hf b hb).1
  done := by
    intro X hP hw hK hc i pins s σ H E I hf st hg
    subst hP hw hK
    obtain ⟨he, hit⟩ := st
    obtain ⟨xs, hq, hx⟩ := hg
    obtain ⟨its, rv, hs⟩ := seqC_of I hq
    obtain ⟨St, D, st0, hSt⟩ := drawsC (prog := X.prog) (w := X.w) (A := X.A.in1) (show X.A.in1.handled = none from I.ok.hd hc) hia hit hs
    have W := GoesN.enumFrom (elts := elts) (x1 := kk) (pos := tpos) 0 D e hei (by simp [hei, hea]) (by simp)
    have ei : i = its.toArray.size := by rw [← hx, rv.length]; simp
    subst ei
    exact W.stops s _ E ⟨he, st0⟩ fun h' tk hk htk => I.turnedL (t' := tk) (ch := [e, it]) hk hf
  self := fun A i s Q E st h => let ⟨⟨_, he⟩, _⟩ := st; wpAny_pyIter_enum he h
def iE (K : PySem.W.Frag) (ta : TA) : TI := fun σ H R => ta σ H fun vs H1 => ∃ c a xs, vs = [.ref a] ∧ SqC K c H1 a xs ∧ R (ItE K c a) H1
theorem begins_C {c : Bool} {a : Addr} {vs : Array Value} : ∃ o : Obj, Begins (.ref a) o (fun h => SeqC c h a vs) ∧ ∀ h it, h.get? it = some o → IterC c h it a 0 := by
  cases c with
  | true => exact ⟨_, begins_list a vs, fun h it q => ⟨_, q, rfl, rfl⟩⟩
  | false => exact ⟨_, begins_tuple a vs, fun h it q => ⟨_, q, rfl, rfl⟩⟩
theorem meets_enum1 {v : Value} {ob : Obj} {G : Heap → Prop} (B : Begins v ob G) :
    Meets (Builtin.«enumerate.__new__» ⟨[.type "enumerate", v], []⟩) (fun _ R st => G st.heap ∧
      R (.ok (.ret (.ref (st.heap.push ob).objs.size))) { st with heap := (st.heap.push ob).push { cls := .type "enumerate", data := .fields #[.none, .bool false, .ref st.heap.objs.size, rawInt 0, .none, .none] } }) :=
  .of_wp fun prog w A R st h => by
    obtain ⟨hp, gs, dr, tk, os⟩ := st
    obtain ⟨h1, h⟩ := h
    have hsub := sub_enumerate
    have q1 : ∀ {A' : Around} {E' : Value → Shared → Prop} {Q' : Value → Shared → Prop}, Q' (.ref hp.objs.size) ⟨hp.push ob, gs, dr, tk, os⟩ → wpAny (model prog w) A' (pyIter v) Q' E' ⟨hp, gs, dr, tk, os⟩ :=
      fun z => B.iter prog w _ _ ⟨hp, gs, dr, tk, os⟩ _ h1 z
    wp_walk using q1
    refine wpAny_stack_any fun st => wpAny_pure ?_
    split
    · rename_i cc _ _ _ _ _
      cases (cc == Value.type "enumerate") <;> (wp_walk using q1; exact ⟨_, rfl, h⟩)
    · wp_walk using q1
      exact ⟨_, rfl, h⟩
theorem enum_starts {prog : Program} {w : World} {A : Around} {E : Value → Shared → Prop} {s : Shared} {v : Value} {ob : Obj} {G : Heap → Prop} {Q : Value → Shared → Prop} (B : Begins v ob G) (h1 : G s.heap)
    (h : ∀ h', IsEnum h' (s.heap.objs.size + 1) s.heap.objs.size 0 .none → h'.get? s.heap.objs.size = some ob → (∀ b o, s.heap.get? b = some o → h'.get? b = some o) → Q (.ref (s.heap.objs.size + 1)) { s with heap := h' }) :
    wpAny (model prog w) A (call (.type "enumerate") [v]) Q E s := by
  refine callType_new F.called_enumerate (by decide) (F.typeCall_enumerate_1 _) (F.newCall_enumerate_1 _) (fun x => F.args_object_init_2 x _) F.entry_enumerate_new (meets_enum1 B) ⟨h1, ?_⟩
  have hz : (s.heap.push ob).objs.size = s.heap.objs.size + 1 := Heap.size_push ..
  have he := Heap.get?_push_size (s.heap.push ob) (o := { cls := .type "enumerate", data := .fields #[.none, .bool false, .ref s.heap.objs.size, rawInt 0, .none, .none] }) rfl
  rw [hz] at he
  show _ ∧ _
  rw [hz]
  exact ⟨⟨_, he, rfl⟩, h _ he (Heap.get?_push_of_some _ (Heap.get?_push_size _ B.free)) fun b o x => Heap.get?_push_of_some _ (Heap.get?_push_of_some _ x)⟩
theorem pi_E {X : Cx} {e : Expr} {ta : TA} {p pos tpos : Pos} {elts : List Expr} {kk : Nat} (hg : Gl X "enumerate") (hm : X.mg "enumerate" = none) (ha : PA X [e] ta) (hs : starEach [e] X.env = [(false, eval e X.env)] := by rfl) :
    PI X (.Tuple elts kk tpos) (.Call (.Name "enumerate" p) [e] [] pos) (iE X.K ta) := by
  refine ⟨fun pins s σ H R I h => Call_ (ld_blt I hg hm boot_enumerate (PyProof.Rows.callWith_type1 (thn (ha.run pos pins s σ H _ I h) fun us s1 ⟨vs, H1, I1, r1, q1⟩ => ?_) hs rfl))⟩
  obtain ⟨c, a, xs, ex, hq, q⟩ := q1
  subst ex
  cases r1 with
  | cons r rr =>
    cases rr
    cases r
    obtain ⟨its, rv, hsq⟩ := seqC_of I1 hq
    obtain ⟨ob, B, hob⟩ := begins_C (c := c) (a := a) (vs := its.toArray)
    have hal := seqC_lt hsq
    refine enum_starts B hsq fun h' he hit hk => wpAny_pyIter_enum he ?_
    have I2 : Inv X pins σ H1 { s1 with heap := h' } := I1.kept (t' := s1.toks) hk
    refine ⟨s1.heap.objs.size + 1, [s1.heap.objs.size + 1, s1.heap.objs.size], _, _, H1, rfl, I2, turn_E (a := a) (c := c) (Nat.succ_ne_self _) (Nat.ne_of_gt (Nat.lt_succ_of_lt hal)) (Nat.ne_of_lt hal), ⟨⟨.none, he⟩, hob _ _ hit⟩, fun b hb => ?_, q⟩
    have hle : s1.heap.objs.size ≤ b := by
      rcases List.mem_cons.mp hb with z | z
      · rw [z]
        exact Nat.le_succ _
      · rw [List.mem_singleton.mp z]
        exact Nat.le_refl _
    exact I1.fpOk hle (I1.hok.fresh hle)
theorem walk_E {K : PySem.W.Frag} {c : Bool} {a : Addr} {xs : List V} : Walk (ItE K c a) xs.length (fun H => SqC K c H a xs) (YPair (fun i => some (.int (i : Nat))) (fun i => xs[i]?)) := by
  refine ⟨fun i H hi q => ⟨xs, xs[i], q, by simp [hi]⟩, fun H q => ⟨xs, q, rfl⟩, fun i H v H' hi q y => ?_⟩
  obtain ⟨T, x, h1, h2, h3, h4⟩ := y
  exact ⟨T, .int (i : Nat), x, h1, h2, h3, rfl, h4 xs q⟩

/-! ## zip of two lists or tuples -/
def ItZ (K : PySem.W.Frag) (c1 c2 : Bool) (a b : Addr) : It :=
  ⟨fun i H => ∃ (xs ys : List V) (x y : V), SqC K c1 H a xs ∧ SqC K c2 H b ys ∧ xs[i]? = some x ∧ ys[i]? = some y,
    fun i H v H' => ∃ T x y, v = .ref T ∧ H T = none ∧ H' = upd H T (.tup [x, y]) ∧ (∀ xs, SqC K c1 H a xs → xs[i]? = some x) ∧ ∀ ys, SqC K c2 H b ys → ys[i]? = some y,
    fun i H => ∃ xs ys : List V, SqC K c1 H a xs ∧ SqC K c2 H b ys ∧ min xs.length ys.length = i⟩
theorem turn_Z {P : Program} {w : World} {K : PySem.W.Frag} {c1 c2 : Bool} {elts : List Expr} {kk : Nat} {tpos : Pos} {a b z TI TO i1 i2 : Addr} (S : ZipSep2 z TI TO i1 i2 [i1, a] [i2, b]) (ha : a ≠ i1) (hb : b ≠ i2) :
    Turn P w K (.Tuple elts kk tpos) (ItZ K c1 c2 a b) [z, TI, TO, i1, i2] z
      (fun i h => IsZip h z TI TO .none ∧ IsTupOf2 h TI (.ref i1) (.ref i2) ∧ (∃ x y, IsTupOf2 h TO x y) ∧ IterC c1 h i1 a i ∧ IterC c2 h i2 b i) where
  mem := by simp
  obj := fun i h st d hd => by
    obtain ⟨hz, hI, ⟨x, y, hO⟩, h1, h2⟩ := st
    simp only [List.mem_cons, List.not_mem_nil, or_false] at hd
    rcases hd with q | q | q | q | q <;> subst q
    · exact ⟨_, hz, fun v q => nomatch q⟩
    · exact ⟨_, hI, fun v q => nomatch q⟩
    · exact ⟨_, hO, fun v q => nomatch q⟩
    · exact iterC_obj h1
    · exact iterC_obj h2
  keep := fun i h h' st k => by
    obtain ⟨hz, hI, ⟨x, y, hO⟩, h1, h2⟩ := st
    exact ⟨k z (by simp) _ hz, k TI (by simp) _ hI, ⟨x, y, k TO (by simp) _ hO⟩, iterC_at h1 fun o q => k i1 (by simp) o q, iterC_at h2 fun o q => k i2 (by simp) o q⟩
  item := by
    intro X hP hw hK hc i pins s σ H E I hf st hg
    subst hP hw hK
    obtain ⟨hz, hI, hO, h1, h2⟩ := st
    obtain ⟨xs, ys, x, y, hqx, hqy, hx, hy⟩ := hg
    obtain ⟨its, rv, hs1⟩ := seqC_of I hqx
    obtain ⟨its2, rv2, hs2⟩ := seqC_of I hqy
    obtain ⟨u, hu, ru⟩ := rv.get hx
    obtain ⟨u2, hu2, ru2⟩ := rv2.get hy
    have l1 : i < its.length := (List.getElem?_eq_some_iff.mp hu).1
    have l2 : i < its2.length := (List.getElem?_eq_some_iff.mp hu2).1
    obtain ⟨St1, D1, s01, hSt1⟩ := drawsC (prog := X.prog) (w := X.w) (A := X.A.in1) (show X.A.in1.handled = none from I.ok.hd hc) ha h1 hs1
    obtain ⟨St2, D2, s02, hSt2⟩ := drawsC (prog := X.prog) (w := X.w) (A := X.A.in1) (show X.A.in1.handled = none from I.ok.hd hc) hb h2 hs2
    have W := GoesN.zip2 (elts := elts) (x1 := kk) (pos := tpos) S D1 D2
    have hmem : ∀ d, d ∈ ([z, TO, i1, i2] : List Addr) → d ∈ ([z, TI, TO, i1, i2] : List Addr) := fun d hd => by
      simp only [List.mem_cons, List.not_mem_nil, or_false] at hd ⊢
      rcases hd with q | q | q | q <;> simp [q]
    refine wpAny_mono (W.goes i s _ E (by simp only [List.size_toArray]; omega) ⟨hz, hI, hO, s01, s02⟩ fun v h' tk hY st' hk htk => ?_) (fun _ _ q => q) (fun _ _ q => q)
    obtain ⟨T, v1, v2, ev, hTn, hy1, hy2, hT⟩ := hY
    subst ev
    obtain rfl : v1 = u := by
      rw [List.getElem?_toArray, hu] at hy1
      exact (Option.some.inj hy1).symm
    obtain rfl : v2 = u2 := by
      rw [List.getElem?_toArray, hu2] at hy2
      exact (Option.some.inj hy2).symm
    have hl : ∀ d ∈ ([z, TI, TO, i1, i2] : List Addr), d < s.heap.objs.size := fun d hd => by
      simp only [List.mem_cons, List.not_mem_nil, or_false] at hd
      rcases hd with q | q | q | q | q <;> subst q
      · exact Heap.lt_size hz
      · exact Heap.lt_size hI
      · obtain ⟨_, _, q⟩ := hO; exact Heap.lt_size q
      · obtain ⟨o, q, _⟩ := iterC_obj h1; exact Heap.lt_size q
      · obtain ⟨o, q, _⟩ := iterC_obj h2; exact Heap.lt_size q
    have I1 := I.turnedNew (t' := tk) (ch := [z, TO, i1, i2]) hk (fun d hd => hf d (hmem d hd)) hTn (pair_new (P := X.prog) (w := X.w) (H := upd H T (.tup [x, y])) ru ru2 hT)
    obtain ⟨z1, z2, z3, z4, z5⟩ := st'
    refine ⟨.ref T, _, I1, rfl, ⟨T, x, y, rfl, I.hok.fresh hTn, rfl, fun l hl => by rw [seqC_inj I hl hqx]; exact hx, fun l hl => by rw [seqC_inj I hl hqy]; exact hy⟩, ⟨z1, z2, z3, hSt1 _ _ z4, hSt2 _ _ z5⟩, fun d hd => ?_⟩
    rw [upd_ne (Nat.ne_of_lt (Nat.lt_of_lt_of_le (hl d hd) hTn))]
    exact (hf d hd).1
  done := by
    intro X hP hw hK hc i pins s σ H E I hf st hg
    subst hP hw hK
    obtain ⟨hz, hI, hO, h1, h2⟩ := st
    obtain ⟨xs, ys, hqx, hqy, hend⟩ := hg
    obtain ⟨its, rv, hs1⟩ := seqC_of I hqx
    obtain ⟨its2, rv2, hs2⟩ := seqC_of I hqy
    obtain ⟨St1, D1, s01, hSt1⟩ := drawsC (prog := X.prog) (w := X.w) (A := X.A.in1) (show X.A.in1.handled = none from I.ok.hd hc) ha h1 hs1
    obtain ⟨St2, D2, s02, hSt2⟩ := drawsC (prog := X.prog) (w := X.w) (A := X.A.in1) (show X.A.in1.handled = none from I.ok.hd hc) hb h2 hs2
    have W := GoesN.zip2 (elts := elts) (x1 := kk) (pos := tpos) S D1 D2
    have ei : i = min its.toArray.size its2.toArray.size := by
      rw [← hend, rv.length, rv2.length]
      simp
    subst ei
    have hmem : ∀ d, d ∈ ([z, TO, i1, i2] : List Addr) → d ∈ ([z, TI, TO, i1, i2] : List Addr) := fun d hd => by
      simp only [List.mem_cons, List.not_mem_nil, or_false] at hd ⊢
      rcases hd with q | q | q | q <;> simp [q]
    exact W.stops s _ E ⟨hz, hI, hO, s01, s02⟩ fun h' tk hk htk => I.turnedL (t' := tk) (ch := [z, TO, i1, i2]) hk fun d hd => hf d (hmem d hd)
  self := fun A i s Q E st h => wpAny_pyIter_zip st.1 h
def iZ (K : PySem.W.Frag) (ta : TA) : TI := fun σ H R => ta σ H fun vs H1 => ∃ c1 c2 a b xs ys, vs = [.ref a, .ref b] ∧ SqC K c1 H1 a xs ∧ SqC K c2 H1 b ys ∧ R (ItZ K c1 c2 a b) H1
theorem nm2 {x y z : Nat} (h : x ≠ y) (h' : x ≠ z) : x ∉ [y, z] := by simp [h, h']
theorem sep_new (n a b : Nat) (ha : a < n) (hb : b < n) : ZipSep2 (n + 4) (n + 2) (n + 3) n (n + 1) [n, a] [n + 1, b] :=
  have k : (n + 2 ≠ n + 4 ∧ n + 3 ≠ n + 4 ∧ n + 2 ≠ n + 3 ∧ n + 2 ≠ n) ∧ (n + 4 ≠ n ∧ n + 4 ≠ a ∧ n + 3 ≠ n ∧ n + 3 ≠ a ∧ n + 2 ≠ n + 1) ∧ (n + 4 ≠ n + 1 ∧ n + 4 ≠ b ∧ n + 3 ≠ n + 1 ∧ n + 3 ≠ b) ∧ (n ≠ n + 1 ∧ n ≠ b ∧ n + 1 ≠ n ∧ n + 1 ≠ a) := by omega
  ⟨k.1.1, k.1.2.1, k.1.2.2.1, k.1.2.2.2, by simp, nm2 k.2.1.1 k.2.1.2.1, nm2 k.2.1.2.2.1 k.2.1.2.2.2.1, k.2.1.2.2.2.2, by simp, nm2 k.2.2.1.1 k.2.2.1.2.1, nm2 k.2.2.1.2.2.1 k.2.2.1.2.2.2, nm2 k.2.2.2.1 k.2.2.2.2.1, nm2 k.2.2.2.2.2.1 k.2.2.2.2.2.2⟩
theorem five_new (n d : Nat) (h : d = n + 4 ∨ d = n + 2 ∨ d = n + 3 ∨ d = n ∨ d = n + 1) : n ≤ d := by omega
theorem pi_Z {X : Cx} {e e2 : Expr} {ta : TA} {p pos tpos : Pos} {elts : List Expr} {kk : Nat} (hg : Gl X "zip") (hm : X.mg "zip" = none) (ha : PA X [e, e2] ta)
    (hs : starEach [e, e2] X.env = (false, eval e X.env) :: starEach [e2] X.env := by rfl) (hpl : (backTo pos (starEach [e2] X.env)).any (·.1) = false := by rfl) : PI X (.Tuple elts kk tpos) (.Call (.Name "zip" p) [e, e2] [] pos) (iZ X.K ta) := by
  refine ⟨fun pins s σ H R I h => Call_ (ld_blt I hg hm PyProof.Rows.boot_zip (PyProof.Rows.callWith_type1 (thn (ha.run pos pins s σ H _ I h) fun us s1 ⟨vs, H1, I1, r1, q1⟩ => ?_) hs hpl))⟩
  obtain ⟨c1, c2, a, b, xs, ys, ex, hqx, hqy, q⟩ := q1
  subst ex
  cases r1 with
  | cons r rr =>
    cases rr with
    | cons r' rr =>
      cases rr
      cases r
      cases r'
      obtain ⟨its, rv, hs1⟩ := seqC_of I1 hqx
      obtain ⟨its2, rv2, hs2⟩ := seqC_of I1 hqy
      obtain ⟨o1, B1, k1⟩ := begins_C (c := c1) (a := a) (vs := its.toArray)
      obtain ⟨o2, B2, k2⟩ := begins_C (c := c2) (a := b) (vs := its2.toArray)
      have la := seqC_lt hs1
      have lb := seqC_lt hs2
      refine zip_begins2 B1 B2 hs1 hs2 fun h' hz hI hO g1 g2 hsz hk => wpAny_pyIter_zip hz ?_
      have I2 : Inv X pins σ H1 { s1 with heap := h' } := I1.kept (t' := s1.toks) hk
      have hsep : ZipSep2 (s1.heap.objs.size + 4) (s1.heap.objs.size + 2) (s1.heap.objs.size + 3) s1.heap.objs.size (s1.heap.objs.size + 1) [s1.heap.objs.size, a] [s1.heap.objs.size + 1, b] := by
        exact sep_new s1.heap.objs.size a b la lb
      refine ⟨s1.heap.objs.size + 4, [s1.heap.objs.size + 4, s1.heap.objs.size + 2, s1.heap.objs.size + 3, s1.heap.objs.size, s1.heap.objs.size + 1], _, _, H1, rfl, I2,
        turn_Z (c1 := c1) (c2 := c2) hsep (Nat.ne_of_lt la) (Nat.ne_of_lt (Nat.lt_succ_of_lt lb)), ⟨hz, hI, ⟨_, _, hO⟩, k1 _ _ g1, k2 _ _ g2⟩, fun d hd => ?_, q⟩
      have hle : s1.heap.objs.size ≤ d := by
        simp only [List.mem_cons, List.not_mem_nil, or_false] at hd
        exact five_new s1.heap.objs.size d hd
      exact I1.fpOk hle (I1.hok.fresh hle)
theorem walk_Z {K : PySem.W.Frag} {c1 c2 : Bool} {a b : Addr} {xs ys : List V} {n : Nat} (hn : n = min xs.length ys.length) :
    Walk (ItZ K c1 c2 a b) n (fun H => SqC K c1 H a xs ∧ SqC K c2 H b ys) (YPair (fun i => xs[i]?) (fun i => ys[i]?)) := by
  subst hn
  refine ⟨fun i H hi q => ?_, fun H q => ⟨xs, ys, q.1, q.2, rfl⟩, fun i H v H' hi q y => ?_⟩
  · have h1 : i < xs.length := by omega
    have h2 : i < ys.length := by omega
    exact ⟨xs, ys, xs[i], ys[i], q.1, q.2, by simp [h1], by simp [h2]⟩
  · obtain ⟨T, x, z, h1, h2, h3, h4, h5⟩ := y
    exact ⟨T, x, z, h1, h2, h3, h4 xs q.1, h5 ys q.2⟩
end Tb
end
section
namespace Tb
open PySem PySem.Spec PyProof.Rows L2

/-! ## t[::-1] of a tuple -/
theorem adjust_back (n : Nat) : Builtin.Slice.sliceAdjust none none (-1) (n : Int) = ((n : Int) - 1, -1) := rfl
theorem places_back (n : Nat) : Builtin.Slice.slicePlaces ((n : Int) - 1) (-1) (-1) = n := by
  unfold Builtin.Slice.slicePlaces
  rw [if_neg (by omega)]
  split
  · rw [show (-(-1 : Int)) = 1 by omega, Int.ediv_one]
    omega
  · omega
theorem back_pick (xs : List Value) : ((List.range xs.length).filterMap fun (k : Nat) => xs.toArray[(((xs.length : Int) - 1) + (k : Int) * (-1)).toNat]?) = xs.reverse := by
  have key : ∀ (m : Nat), m ≤ xs.length → ((List.range m).filterMap fun (k : Nat) => xs.toArray[(((xs.length : Int) - 1) + (k : Int) * (-1)).toNat]?) = xs.reverse.take m := by
    intro m
    induction m with
    | zero => intro _; simp
    | succ m ih =>
      intro hm
      rw [List.range_succ, List.filterMap_append, ih (by omega)]
      have e : (((xs.length : Int) - 1) + (m : Int) * (-1)).toNat = xs.length - 1 - m := by omega
      have hl : xs.length - 1 - m < xs.length := by omega
      have g : xs.toArray[(((xs.length : Int) - 1) + (m : Int) * (-1)).toNat]? = some (xs[xs.length - 1 - m]'hl) := by
        rw [e, List.getElem?_toArray, List.getElem?_eq_getElem hl]
      rw [List.filterMap_cons, g]
      have hr : xs.reverse[m]? = some (xs[xs.length - 1 - m]'hl) := by
        rw [List.getElem?_reverse (by omega), List.getElem?_eq_getElem hl]
      rw [List.take_add_one, hr]
      rfl
  have h := key xs.length (Nat.le_refl _)
  rw [h, List.take_of_length_le (by simp)]
section
variable {prog : Program} {w : World} {A : Around} {E : Value → Shared → Prop} {s : Shared}
theorem sliceApplied_back {sl : Addr} {st : Tok} {n : Nat} {Q : Int × Int × Nat → Shared → Prop} (hs : s.heap.IsSliceOf sl .none .none (.int (-1) st))
    (h : Q ((n : Int) - 1, -1, n) s) : wpAny (model prog w) A (Builtin.Slice.sliceApplied (.ref sl) (pure (n : Int))) Q E s := by
  obtain ⟨o1, ho, _, hd⟩ := id hs
  unfold Builtin.Slice.sliceApplied Builtin.Slice.sliceFields
  refine wpAny_bind (wpAny_bind (wpAny_field ho hd (x := .none) rfl (wpAny_bind (wpAny_field ho hd (x := .none) rfl (wpAny_bind (wpAny_field ho hd (x := .int (-1) st) rfl (wpAny_pure ?_)))))))
  refine wpAny_bind (HT.slicePart_ (.int (-1) st) ?_)
  show wpAny _ _ (if ((-1 : Int) == 0) = true then _ else _) _ _ s
  rw [if_neg (by decide)]
  refine wpAny_bind (HT.slicePart_ .none (wpAny_bind (HT.slicePart_ .none (wpAny_bind (wpAny_pure ?_)))))
  show wpAny _ _ (match Builtin.Slice.sliceAdjust none none (-1) (n : Int) with | (lo, hi) => pure (lo, (-1 : Int), Builtin.Slice.slicePlaces lo hi (-1))) _ _ s
  rw [adjust_back n]
  show wpAny _ _ (pure ((n : Int) - 1, (-1 : Int), Builtin.Slice.slicePlaces ((n : Int) - 1) (-1) (-1))) _ _ s
  rw [places_back]
  exact wpAny_pure h
theorem getItem_tuple_back {t sl : Addr} {st : Tok} {items : List Value} {Q : Value → Shared → Prop} (ht : IsTup s.heap t items.toArray) (hs : s.heap.IsSliceOf sl .none .none (.int (-1) st)) (hz : items.length ≤ sizeLine)
    (h : Q (.ref s.heap.objs.size) { s with heap := s.heap.push { cls := .type "tuple", data := .seq items.reverse.toArray } }) : wpAny (model prog w) A (getItem (.ref t) (.ref sl)) Q E s := by
  obtain ⟨o1, ho, hc, hd⟩ := id hs
  unfold getItem
  try with_reducible refine wpAny_holding ?_
  first | refine wpAny_bind (wpAny_pure ?_) | skip
  refine wpAny_bind (wpAny_sequenceKey ht.typeIs (by decide) ?_)
  refine wpAny_bind (wpAny_callSpecial?_slot (name := Str.ofString "__getitem__") ht.typeIs PyProof.Rows.slot_tuple_getitem (wpAny_call_entry PyProof.Rows.slot_tuple_getitem ht.typeIs entry_tuple_getitem ?_ (args_tuple_getitem _ _)))
  show wpAny _ _ (Builtin.Tuple.tupleItemsOf (.ref t) >>= _) _ _ s
  refine wpAny_bind (tupleItemsOf_ ht (wpAny_bind (wpAny_typeOf (⟨o1, ho, hc⟩ : s.TypeIs (.ref sl) "slice") ?_)))
  rw [if_pos (by decide)]
  refine wpAny_bind (sliceApplied_back (n := items.toArray.size) hs ?_)
  have hno : ¬ ((((items.toArray.size : Int) - 1) == 0 && (-1 : Int) == 1 && items.toArray.size == items.toArray.size) = true) := by
    rw [show ((-1 : Int) == 1) = false by decide, Bool.and_false, Bool.false_and]
    exact Bool.false_ne_true
  show wpAny _ _ (if (((items.toArray.size : Int) - 1) == 0 && (-1 : Int) == 1 && items.toArray.size == items.toArray.size) = true then _ else _) _ _ s
  rw [if_neg hno]
  show wpAny _ _ (Builtin.Tuple.tupleExact ((List.range items.toArray.size).filterMap fun (k : Nat) => items.toArray[(((items.toArray.size : Int) - 1) + (k : Int) * (-1)).toNat]?).toArray >>= _) _ _ s
  rw [List.size_toArray, back_pick]
  have hz2 : (items.reverse.toArray).size ≤ sizeLine := by rw [List.size_toArray, List.length_reverse]; exact hz
  refine wpAny_bind ?_
  show wpAny _ _ (newObj (.type "tuple") (.seq items.reverse.toArray)) _ _ s
  exact wpAny_newObj_type (wpAny_pure ⟨_, rfl, wpAny_pure h⟩) hz2
end

section
variable {X : Cx}
/-- e[::-1], e a tuple -/
def tRevT (K : PySem.W.Frag) (te : TE) : TE := fun σ H Q => te σ H fun x H1 => ∃ a xs, x = .ref a ∧ SqT K H1 a xs ∧ ∀ p, H1 p = none → Q (.ref p) (upd H1 p (.tup xs.reverse))
theorem pe_revT {e : Expr} {te : TE} {k : Nat} {p1 p2 p3 pos : Pos} (he : PE X e te) : PE X (.Subscript e (.Slice none none (some (.UnaryOp .USub (.Constant (.int 1) k p1) p2)) p3) pos) (tRevT X.K te) := by
  refine ⟨fun pins s σ H Q I h => Subscript_ (thn (he.run pins s σ H _ I h) fun v s1 ⟨x, H1, I1, r1, q1⟩ => ?_)⟩
  obtain ⟨a, xs, ex, hx, q⟩ := q1
  subst ex
  cases r1
  have hst : PO X (some (.UnaryOp .USub (.Constant (.int 1) k p1) p2)) (tPart (tUn (rU fun i => .int (-i)) (tC (.int 1)))) := po_some (pe_un un_neg pe_int)
  refine wpAny_Slice (thn (po_none.run pins s1 σ H1 (fun o H2 => o = none ∧ H2 = H1) I1 ⟨rfl, rfl⟩) fun vl s2 ⟨l, H2, I2, pl, el, e2⟩ => ?_)
  subst el e2
  refine thn (po_none.run pins s2 σ H2 (fun o H3 => o = none ∧ H3 = H2) I2 ⟨rfl, rfl⟩) fun vu s3 ⟨u, H3, I3, pu, eu, e3⟩ => ?_
  subst eu e3
  refine thn (hst.run pins s3 σ H3 (fun o H4 => o = some (-1) ∧ H4 = H3) I3 ⟨1, rfl, -1, rfl, rfl, rfl⟩) fun vs s4 ⟨o, H4, I4, ps, eo, e4⟩ => ?_
  subst eo e4
  cases pl
  cases pu
  cases ps with
  | int _ tk =>
    have I5 : Inv X pins σ H4 { s4 with heap := s4.heap.push { cls := .type "slice", data := .fields #[.none, .none, .int (-1) tk] } } := I4.kept (t' := s4.toks) fun b ob z => Heap.get?_push_of_some _ z
    obtain ⟨its, r, ht, hz⟩ := I5.tuple hx
    have hlen := r.length
    show wpAny (model X.prog X.w) X.A (subscriptTail e (.Slice none none (some (.UnaryOp .USub (.Constant (.int 1) k p1) p2)) p3) (.ref a) (.ref s4.heap.objs.size)) (EP X pins σ Q) X.xe { s4 with heap := s4.heap.push { cls := .type "slice", data := .fields #[.none, .none, .int (-1) tk] } }
    refine tail_any (ops := [.ref a, .ref s4.heap.objs.size]) ht.typeIs PyProof.Rows.slot_tuple_getitem.lookup ?_ (by with_unfolding_all rfl)
    refine getItem_tuple_back ht (Heap.IsSliceOf.new _ .none .none (.int (-1) tk)) (by omega) ?_
    refine ⟨.ref _, _, I5.laid (t' := s4.toks) (o := .tup xs.reverse) (fun b ob z => Heap.get?_push_of_some _ z) (Nat.le_refl _) ?_, rfl, q _ (I5.hok.fresh (Nat.le_refl _))⟩
    exact ⟨by rw [List.length_reverse]; exact hz, _, r.reverse, ⟨_, Heap.get?_push_size _ rfl, rfl, _, rfl⟩⟩
end
end Tb
end
section
namespace Tb
open PySem PySem.Spec PyProof.Rows L2

/-! ## tuple * int, any int up to 1000 -/
theorem tup_mul_same (l : Addr) (its : Array Value) (n : Nat) (dd : Option Addr) (sl : Array (Option Value)) (x : Int) (u : Tok) (c0 : (decide (x < -(2 ^ 63)) || decide (x ≥ 2 ^ 63)) = false) (c1 : (its.isEmpty || x == 1) = true) :
    Meets (Builtin.«tuple.__mul__» ⟨[.ref l, .int x u], []⟩) (fun _ R st => st.heap.get? l = some { cls := .type "tuple", dict := dd, data := .seq its n, slots := sl } ∧ R (.ok (.ret (Value.ref l))) st) :=
  .of_wp fun prog w A R st h => by
    obtain ⟨hp, g, d, tk, os⟩ := st
    obtain ⟨hl, h⟩ := h
    have f1 := AutoSeq1.idx_int
    wp_walk using AutoSeq1.wpAny_loadPart' hl
    repeat (first
      | (refine wpAny_ite_false (decide_eq_false (by rw [c0]; exact Bool.false_ne_true)) ?_; wp_walk using AutoSeq1.wpAny_loadPart' hl)
      | (refine wpAny_ite_true (decide_eq_true (by rw [c1])) ?_; wp_walk using AutoSeq1.wpAny_loadPart' hl))
    exact ⟨_, rfl, h⟩
theorem tup_mul_none (l : Addr) (its : Array Value) (n : Nat) (dd : Option Addr) (sl : Array (Option Value)) (x : Int) (u : Tok) (c0 : (decide (x < -(2 ^ 63)) || decide (x ≥ 2 ^ 63)) = false) (c1 : (its.isEmpty || x == 1) = false)
    (c2 : (decide (x ≤ 0) || its.isEmpty) = true) :
    Meets (Builtin.«tuple.__mul__» ⟨[.ref l, .int x u], []⟩) (fun _ R st => st.heap.get? l = some { cls := .type "tuple", dict := dd, data := .seq its n, slots := sl } ∧
      R (.ok (.ret (Value.ref st.heap.objs.size))) { st with heap := st.heap.push { cls := Value.type "tuple", data := Data.seq #[] }, toks := st.toks }) :=
  .of_wp fun prog w A R st h => by
    obtain ⟨hp, g, d, tk, os⟩ := st
    obtain ⟨hl, h⟩ := h
    have f1 := AutoSeq1.idx_int
    wp_walk using AutoSeq1.wpAny_loadPart' hl
    repeat (first
      | (refine wpAny_ite_false (decide_eq_false (by rw [c0]; exact Bool.false_ne_true)) ?_; wp_walk using AutoSeq1.wpAny_loadPart' hl)
      | (refine wpAny_ite_false (decide_eq_false (by rw [c1]; exact Bool.false_ne_true)) ?_; wp_walk using AutoSeq1.wpAny_loadPart' hl)
      | (refine wpAny_ite_true (decide_eq_true (by rw [c2])) ?_; wp_walk using AutoSeq1.wpAny_loadPart' hl))
    exact ⟨_, rfl, h⟩
/-- t * k, k an int from -1000 to 1000 -/
def rRepA (K : PySem.W.Frag) : R2 := fun x y H Q => ∃ l k xs, x = .ref l ∧ y = .int k ∧ SqT K H l xs ∧ -1000 ≤ k ∧ k ≤ 1000 ∧ xs.length ≤ 1000 ∧
  ∀ p H', (∀ b o, H b = some o → H' b = some o) → SqT K H' p (List.replicate k.toNat xs).flatten → Q (.ref p) H'
theorem op_repA {X : Cx} : OpR X (binaryOp .Mult) (rRepA X.K) := by
  intro pins s σ H x y v u Q I rx ry h
  obtain ⟨l, k, xs, rfl, rfl, hT, h1, h2, hz, q⟩ := h
  by_cases hbig : xs ≠ [] ∧ 2 ≤ k
  · refine op_repT pins s σ H _ _ v u Q I rx ry ⟨l, k, xs, rfl, rfl, hT, hbig.1, hbig.2, h2, hz, fun p hp => q p _ (fun b o e => ?_) (.of upd_same)⟩
    rw [upd_ne (ne_of_none e hp)]
    exact e
  · cases rx
    obtain ⟨t, rfl⟩ := ry
    obtain ⟨its, r, ⟨⟨cls, dd, data, sl⟩, ho, hc, n, hd⟩, hs⟩ := I.tuple hT
    simp only at hc hd
    subst hc hd
    have c0 : (decide (k < -(2 ^ 63)) || decide (k ≥ 2 ^ 63)) = false := by
      rw [decide_eq_false (by omega), decide_eq_false (by omega)] <;> rfl
    by_cases c1 : (its.toArray.isEmpty || k == 1) = true
    · have exs : (List.replicate k.toNat xs).flatten = xs := by
        rcases Bool.or_eq_true_iff.mp c1 with e | e
        · have e1 : its = [] := by
            cases its with
            | nil => rfl
            | cons a b => cases e
          subst e1
          cases r
          simp
        · have e1 : k = 1 := by simpa using e
          subst e1
          simp
      refine wpAny_binaryOp_repeat_ref (T := "tuple") (U := "int") (by decide) ⟨_, ho, rfl⟩ (fun s' => typeIs_int s' k t) noFill_tuple_mul F.fills_int_mul F.slot_int_rmul repeat_tuple F.slot_int_index.lookup
        (call_meets F.slot_int_rmul (typeIs_int s k t) F.entry_int_rmul (F.args_int_rmul_2 _ _) (int_rmul_tuple k t l its.toArray n dd sl)
          ⟨ho, rfl, ⟨_, ho, rfl⟩, call_meets F.slot_tuple_mul ⟨_, ho, rfl⟩ F.entry_tuple_mul (F.args_tuple_mul_2 _ _) (tup_mul_same l its.toArray n dd sl k t c0 c1) ⟨ho, ?_⟩⟩)
      exact ⟨.ref l, H, I, rfl, q l H (fun _ _ e => e) (by rw [exs]; exact hT)⟩
    · have c1' : (its.toArray.isEmpty || k == 1) = false := Bool.not_eq_true _ ▸ c1
      have hne : xs ≠ [] := fun e => by
        subst e
        cases r
        exact c1 rfl
      have hk : k ≤ 0 := by
        have h3 : ¬ 2 ≤ k := fun z => hbig ⟨hne, z⟩
        have h4 : k ≠ 1 := fun z => c1 (by subst z; simp)
        omega
      have c2 : (decide (k ≤ 0) || its.toArray.isEmpty) = true := by rw [decide_eq_true hk]; rfl
      refine wpAny_binaryOp_repeat_ref (T := "tuple") (U := "int") (by decide) ⟨_, ho, rfl⟩ (fun s' => typeIs_int s' k t) noFill_tuple_mul F.fills_int_mul F.slot_int_rmul repeat_tuple F.slot_int_index.lookup
        (call_meets F.slot_int_rmul (typeIs_int s k t) F.entry_int_rmul (F.args_int_rmul_2 _ _) (int_rmul_tuple k t l its.toArray n dd sl)
          ⟨ho, rfl, ⟨_, ho, rfl⟩, call_meets F.slot_tuple_mul ⟨_, ho, rfl⟩ F.entry_tuple_mul (F.args_tuple_mul_2 _ _) (tup_mul_none l its.toArray n dd sl k t c0 c1' c2) ⟨ho, ?_⟩⟩)
      have e0 : (List.replicate k.toNat xs).flatten = [] := by
        rw [show k.toNat = 0 by omega]
        rfl
      have hn : H s.heap.objs.size = none := I.hok.fresh (Nat.le_refl _)
      refine ⟨.ref s.heap.objs.size, _, I.laid (t' := s.toks) (o := .tup []) (fun b ob z => Heap.get?_push_of_some _ z) (Nat.le_refl _) ?_, rfl, q _ _ (fun b o e => ?_) (by rw [e0]; exact .of upd_same)⟩
      · exact ⟨Nat.zero_le _, [], .nil, IsTup.new _ _⟩
      · rw [upd_ne (ne_of_none e hn)]
        exact e

/-! ## repr of data -/
/-- repr(x), x data at any depth; asked where no repr is under way -/
def rRepr (K : PySem.W.Frag) : List V → Hp → VK → Prop := fun xs H Q => ∃ x d, xs = [x] ∧ Dp K H x d ∧ ((∃ a, x = .ref a) ∨ ∃ b, x = .bl b) ∧ d.showable = true ∧ d.hasDict = false ∧ d.depth ≤ 40 ∧ d.shown.length ≤ sizeLine ∧ Q (.str d.shown) H
theorem call_repr {X : Cx} (hg : X.A.guards = some []) (hu : X.A.units + 64 < cLine) : CallR X (.builtin "repr") (rRepr X.K) := by
  intro pins s σ H xs us Q I r h
  obtain ⟨x, d, rfl, hd, hx, hs, hn, hp, hz, q⟩ := h
  cases r with
  | cons r rr =>
    cases rr
    rcases hx with ⟨a, rfl⟩ | ⟨b, rfl⟩
    · cases r
      obtain ⟨as, hr⟩ := Dp.reads I d _ _ hd rfl
      exact repr_of_reads' hr hs (PyData.noDict_hsm hn) hg (by omega) (fun _ _ e => e) (fun h' tk t' hk => ⟨.str d.shown, H, I.kept (t' := t') hk, ⟨_, rfl⟩, q⟩) hz
    · cases hd
      cases r
      simp only [PyData.shown] at q
      exact PySem.P.repr_of_bool ⟨.str _, H, I.tok _, ⟨_, rfl⟩, q⟩

/-! ## the attribute of an instance as a target among several -/
end Tb
end
section
namespace Tb
open PySem PySem.Spec PyProof.Rows L2

/-! ## o.f as a target among several -/
def gFld (K : PySem.W.Frag) (ta : TE) (f : Str) : TG := fun v σ H Q => ta σ H fun x H2 => ∃ a C dx fs, x = .ref a ∧ H2 a = some (.ins C dx fs) ∧ Cls K C ∧ NoAttr K C f ∧ fs.length < 1000 ∧ Q σ (upd H2 a (.ins C dx (putF f v fs)))
theorem pg_fld {X : Cx} {o : Expr} {ta : TE} {f : Str} {pos : Pos} (ha : PE X o ta) : PG X (.Attribute o f pos) (gFld X.K ta f) := by
  refine ⟨fun pins s σ H v u Q I r h => ?_⟩
  rw [assign_Attribute]
  refine wpAny_bind (wpAny_holding (thn (ha.run pins s σ H _ I h) fun ov s2 ⟨x, H2, I2, rx, a, C, dx, fs, ex, ea, c, n, l, q2⟩ => ?_))
  subst ex
  obtain rfl : ov = Value.ref a := rx
  exact wpAny_bind (wpAny_standAt (wpAny_bind (wpAny_holding (setattr_ok I2 ea c n l r fun s3 I3 => wpAny_release ⟨σ, _, I3, q2⟩))))

/-! ## a def of the text, all that its callers want -/
structure Own (P : Program) (w : World) (K : PySem.W.Frag) (mg : Str → Option Value) (base : Heap) (x : Str) (k : Nat) (ps : List Str) (sp : Sp) : Prop where
  ex : ∃ f fd, mg x = some (.ref f) ∧ PySem.W.keepIn K (.ref f) = true ∧ L2.Binds K fd ps [] ∧ FnOk P w K mg base CX0 k f fd ps sp
section
variable {X : Cx} {x : Str} {k : Nat} {ps : List Str} {sp : Sp} {e : Expr} {es : List Expr} {t : TA} {p pos : Pos}
theorem pe_own (O : Own X.prog X.w X.K X.mg X.base x k ps sp) (hr : Room k X.A) (hg : Gl X x) (ha : PA X (e :: es) t) (hdb : (x == ("__debug__" : Str)) = false := by decide)
    (he : starEach (e :: es) X.env = (false, eval e X.env) :: starEach es X.env := by rfl) (hpl : (backTo pos (starEach es X.env)).any (·.1) = false := by rfl) : PE X (.Call (.Name x p) (e :: es) [] pos) (tCall sp [] E0 t) := by
  obtain ⟨f, fd, hm, hk, hb, F⟩ := O.ex
  exact pe_call F hr hg hm hk hb .nil pass0 ha hdb he hpl
end

/-! ## defs that are called where no repr is under way -/
structure FnG (P : Program) (w : World) (K : PySem.W.Frag) (mg : Str → Option Value) (base : Heap) (k : Nat) (f : Addr) (fd : FuncData) (ps : List Str) (sp : Sp) : Prop where
  len : ∀ vs H Q E, sp vs H Q E → vs.length = ps.length
  run : ∀ (A : Around) (outer : List Env) (s : Shared) (H : Hp) (args : Args) (us : List Value) (vs : List V) (Q : VK) (E : XK), Room k A → A.guards = some [] → Env0 P w K mg base A outer s H → BindsTo s fd args (ps.zip us) → Vals vs us →
    sp vs H Q E → codeAny (model P w) A (.call (.ref f) args) (CR CX0 outer P w H s Q E) s
structure OwnG (P : Program) (w : World) (K : PySem.W.Frag) (mg : Str → Option Value) (base : Heap) (x : Str) (k : Nat) (ps : List Str) (sp : Sp) : Prop where
  ex : ∃ f fd, mg x = some (.ref f) ∧ PySem.W.keepIn K (.ref f) = true ∧ L2.Binds K fd ps [] ∧ FnG P w K mg base k f fd ps sp
theorem fun_okG {P : Program} {w : World} {K : PySem.W.Frag} {mg : Str → Option Value} {base : Heap} {x qual : Str} {st : Stmt} {f : Addr} {fd : FuncData} {N ps : List Str} {k : Nat} {sp : Sp} (F : Fun K x qual st f fd) (S : FnScope N ps (defScope st))
    (len : ∀ vs H Q E, sp vs H Q E → vs.length = ps.length)
    (hbody : ∀ (cdv : Value) (A : Around) (outer : List Env) (s : Shared) (H : Hp) (vs : List V) (Q : VK) (E : XK), A.guards = some [] → Room k (A.deeper (envOfC qual (defScope st) s.heap.objs.size f cdv)) → sp vs H Q E →
      ∃ t, PSs (cxOf CX0 P w K mg base N qual (defScope st) f cdv A outer s H E).nox (defBody st) t ∧ t { nx := fun _ H' => Q .non H', rt := Q } (L2.start N vs) H) : FnG P w K mg base (k + 1) f fd ps sp := by
  obtain ⟨oc, od, kV, doc, pm, an, cdv, ct, osl, rfl, lk, hcd⟩ := F.ex
  refine ⟨len, fun A outer s H args us vs Q E hr hgd e0 hb r hsp => ?_⟩
  refine LamX.run_ofS (CX := CX0) lk hcd S hr e0 hb r (len _ _ _ _ hsp) fun hr' => ?_
  obtain ⟨t, h1, h2⟩ := hbody cdv A outer s H vs Q E hgd hr' hsp
  exact ⟨t, h1.nox, h2⟩
section
variable {X : Cx} {x : Str} {k : Nat} {ps : List Str} {sp : Sp} {e : Expr} {es : List Expr} {t : TA} {p pos : Pos}
theorem pe_ownG (O : OwnG X.prog X.w X.K X.mg X.base x k ps sp) (hr : Room k X.A) (hgd : X.A.guards = some []) (hg : Gl X x) (ha : PA X (e :: es) t) (hdb : (x == ("__debug__" : Str)) = false := by decide)
    (he : starEach (e :: es) X.env = (false, eval e X.env) :: starEach es X.env := by rfl) (hpl : (backTo pos (starEach es X.env)).any (·.1) = false := by rfl) : PE X (.Call (.Name x p) (e :: es) [] pos) (tCall sp [] E0 t) := by
  obtain ⟨f, fd, hm, hk, hb, F⟩ := O.ex
  refine ⟨fun pins s σ H Q I h => wpAny_Call_Name_kw (ld_glob I hg hm (PySem.W.callWith_K (h₀ := X.base) I.ok.mod.kin hk (thn (ha.run pos pins s σ H _ I h) fun us s1 ⟨vs, H1, I1, r, q⟩ => ⟨I1.kIn, ?_⟩) he hpl) hdb)⟩
  replace q : sp (vs ++ []) H1 Q E0 := q
  rw [List.append_nil] at q
  have hl : (us ++ ([] : List Value)).length = ps.length := by
    rw [List.append_nil, ← r.length]
    exact F.len _ _ _ _ q
  have hB := hb s1 us I1.kIn hl
  rw [List.append_nil] at hB
  refine wpAny_call (codeAny_mono (F.run X.A X.stack s1 H1 ⟨us, []⟩ us vs Q E0 hr hgd I1.env0 hB r q) fun res s' hq => ?_)
  cases res with
  | error e => exact (show False from hq).elim
  | ok fl =>
    cases fl with
    | ret u => exact I1.after hq
    | next => exact False.elim hq
    | brk => exact False.elim hq
    | cont => exact False.elim hq
end
theorem OwnG.of {P : Program} {w : World} {K : PySem.W.Frag} {mg : Str → Option Value} {base : Heap} {x : Str} {k : Nat} {ps : List Str} {sp : Sp} (O : Own P w K mg base x k ps sp) : OwnG P w K mg base x k ps sp := by
  obtain ⟨f, fd, hm, hk, hb, F⟩ := O.ex
  exact ⟨f, fd, hm, hk, hb, F.len, fun A outer s H args us vs Q E hr _ e0 hB r h => F.run A outer s H args us vs Q E hr e0 hB r h⟩

/-! ## the law's end, the law a def of this kind; its constants that are no constants of the written part are handed in -/
theorem law_endG {P : Program} {w : World} {K : PySem.W.Frag} {mg mb : Str → Option Value} {k : Nat} {fa a : Addr} {fd : FuncData} {x : Str} {sp : Sp} {s₁ : Shared} {vs : List Value} {ns : List Int}
    (KX : K.In s₁.heap) (hns : s₁.heap.Ns mainGlobals mg) (hb : s₁.heap.Ns builtinsNs mb) (hbb : ∀ z : Str, z ≠ "__name__" → mb z = bootBuiltins z) (hlim : s₁.heap.NoLimit) (hgn : s₁.gens = #[])
    (ha : s₁.heap.get? a = some { cls := .type "list", data := .seq vs.toArray }) (hi : IntsAre vs ns) (hl : ns.length ≤ sizeLine) (hr : Room k callerA)
    (F : ∀ b0 : Heap, K.In b0 → b0.Ns mainGlobals mg → FnG P w K mg b0 k fa fd [x] sp) (hbind : ∀ (s : Shared) (u : Value), BindsTo s fd ⟨[u], []⟩ [(x, u)])
    (hsp : ∀ H : Hp, SqL K H a (ns.map V.int) → sp [.ref a] H (fun v _ => v = .bl true) fun _ _ _ => False) :
    codeAny (model P w) callerA (.call (.ref fa) ⟨[.ref a], []⟩) (fun r s' => r = .ok (.ret (.bool true)) ∧ OldK s₁.heap s'.heap ∧ s'.os = s₁.os ∧ AllBare s'.gens) s₁ := by
  have rv := vals_ints hi
  have main : ∀ H : Hp, (∀ b u, H b = some u → b = a ∧ ∃ o xs, u = .frz o (.lst xs)) → HOk P w H s₁.heap → SqL K H a (ns.map V.int) → (H a ≠ none → K.lookup a = none) →
      codeAny (model P w) callerA (.call (.ref fa) ⟨[.ref a], []⟩) (fun r s' => r = .ok (.ret (.bool true)) ∧ OldK s₁.heap s'.heap ∧ s'.os = s₁.os ∧ AllBare s'.gens) s₁ := by
    intro H hH hok hS hKa
    have free : ∀ {b : Addr} {o : Obj} {es : Array DictEntry} {ep : Nat}, s₁.heap.get? b = some o → o.data = .dict es ep → H b = none := fun {b o es ep} e d => by
      cases q : H b with
      | none => rfl
      | some u =>
        obtain ⟨e1, _⟩ := hH b u q
        rw [e1, ha] at e
        cases e
        cases (show Data.seq vs.toArray _ = Data.dict es ep from d)
    have nsB : ∀ {b : Addr} {m : Str → Option Value}, s₁.heap.Ns b m → (hidT s₁.heap H).Ns b m := fun {b m} ⟨o, es, ep, e, d, r⟩ => ⟨o, es, ep, hidT_get e (free e d), d, r⟩
    have KB : K.In (hidT s₁.heap H) := fun b o e => hidT_get (KX b o e) (by
      cases q : H b with
      | none => rfl
      | some u =>
        obtain ⟨e1, _⟩ := hH b u q
        subst e1
        rw [hKa (by rw [q]; exact Option.some_ne_none u)] at e
        cases e)
    have e0 : Env0 P w K mg (hidT s₁.heap H) callerA [] s₁ H :=
      { frames := rfl
        mod := ⟨KB, nsB hns, ⟨mb, nsB hb, hbb⟩, let ⟨mc, z1, z2⟩ := hlim; ⟨mc, nsB z1, z2⟩⟩
        bs := fun b o e => of_hidT e
        bsz := Nat.le_of_eq (hidT_size _ _)
        funs := trivial
        frf := fun b z => absurd (show b ∈ ([] : List Addr) from z) List.not_mem_nil
        hok := hok
        bare := .of_eq hgn }
    refine codeAny_mono ((F _ KB (nsB hns)).run callerA [] s₁ H ⟨[.ref a], []⟩ [.ref a] [.ref a] _ _ hr rfl e0 (hbind s₁ (.ref a)) (.cons rfl .nil) (hsp H hS)) fun res s' h => ?_
    cases res with
    | error e => exact (show False from h).elim
    | ok fl =>
      cases fl with
      | next => exact False.elim h
      | brk => exact False.elim h
      | cont => exact False.elim h
      | ret u =>
        obtain ⟨v, H', hos, hbare, un, hok', r', q⟩ := h
        obtain rfl : v = V.bl true := q
        obtain rfl : u = Value.bool true := r'
        refine ⟨rfl, OldK.of_keep fun b o e => ?_, hos, hbare⟩
        cases q : H b with
        | none => exact un.keep b o e q (fun z => absurd (show b ∈ ([] : List Addr) from z) List.not_mem_nil) List.not_mem_nil
        | some u =>
          obtain ⟨_, ob, xs, z⟩ := hH b u q
          rw [z] at q
          obtain ⟨e1, _⟩ := hok b _ q
          obtain ⟨e2, _⟩ := hok' b _ (un.frzs b ob _ q)
          rw [e] at e1
          cases e1
          exact e2
  by_cases hk : ∃ o, K.lookup a = some o
  · obtain ⟨o, hk⟩ := hk
    have e := KX a o hk
    rw [ha] at e
    cases e
    refine main (fun _ => none) (fun b u z => by cases (show (none : Option HO) = some u from z)) (fun b u z => by cases (show (none : Option HO) = some u from z)) (.inr ⟨_, vs.toArray, _, hk, rfl, rfl, rfl, ?_, by simpa using rv⟩) (fun z => absurd rfl z)
    rw [List.size_toArray, hi.length]
    exact hl
  · have hk' : K.lookup a = none := by
      cases q : K.lookup a with
      | none => rfl
      | some o => exact absurd ⟨o, q⟩ hk
    refine main (fun b => if b = a then some (.frz { cls := .type "list", data := .seq vs.toArray } (.lst (ns.map V.int))) else none) (fun b u z => ?_) (fun b u z => ?_) (.inl (.inr ⟨{ cls := .type "list", data := .seq vs.toArray }, if_pos rfl⟩)) fun _ => hk'
    · by_cases hb : b = a
      · refine ⟨hb, _, _, ((Option.some.inj ((if_pos hb).symm.trans z)).symm)⟩
      · cases ((if_neg hb).symm.trans z)
    · by_cases hb : b = a
      · have z' := Option.some.inj ((if_pos hb).symm.trans z)
        subst hb z'
        exact ⟨ha, by rw [List.length_map]; exact hl, vs, _, rv, ha⟩
      · cases ((if_neg hb).symm.trans z)
/-- the values of names that the written part leaves open -/
abbrev Loose (lv : List (Str × PySem.W.WData)) (mg : Str → Option Value) : Prop := ∀ q ∈ lv, ∃ z : Int, q.2 = .int z → ∃ t, mg q.1 = some (.int z t)
theorem walk_endG {l : PySem.W.OpenLaw} {n k : Nat} {q : Program} {loose : List Str} {lv : List (Str × PySem.W.WData)} {YP : World → Heap → Prop} {d : DefRec} {K : Params → PySem.W.Frag} {x : Str} {sp : PySem.W.Frag → Sp}
    (hn : l.most = some n) (hn2 : n ≤ sizeLine) (hdf : d.params.defaults = []) (hr : Room k callerA) (hY : ∀ (w : World) (h : Heap), YP w h → (K w.params).In h)
    (F : ∀ (w : World) (mg : Str → Option Value) (fa : Addr) (h : Heap), (K w.params).In h → h.Ns mainGlobals mg → PySem.W.LooseAre lv mg h → mg d.name = some (.ref fa) →
      ∃ fd : FuncData, (∀ (s : Shared) (u : Value), BindsTo s fd ⟨[u], []⟩ [(x, u)]) ∧ ∀ b0 : Heap, (K w.params).In b0 → b0.Ns mainGlobals mg → FnG l.prog w (K w.params) mg b0 k fa fd [x] (sp (K w.params)))
    (hsp : ∀ (K : PySem.W.Frag) (H : Hp) (a : Addr) (ns : List Int), ns.length ≤ n → SqL K H a (ns.map V.int) → sp K [.ref a] H (fun v _ => v = .bl true) fun _ _ _ => False) :
    PySem.W.WalkO q loose (PySem.W.XL q lv) YP l.row.toRowW d [] (fun f vs => PySem.call f vs) := by
  refine Att.attach_call hn hdf fun w s₀ s₁ mg mb fa o pm cd doc a vs ns G Y ho hd hcd hmg hobj hints hlen hgn => ?_
  have KX := hY w _ Y
  obtain ⟨fd, hb, hF⟩ := F w mg fa _ KX G.T.g G.X.2 hmg
  exact law_endG KX G.T.g G.T.b G.T.builtins G.T.nolimit hgn hobj hints (Nat.le_trans hlen hn2) hr hF hb fun H hS => hsp _ H a ns hlen hS
end Tb
end
section
namespace Tb
open PySem PySem.Spec PyProof.Rows L2 Evl

/-! ## named readings, and rules with them -/
section
variable {X : Cx}
def rAddI : R2 := rI0 fun i j => .int (i + j)
def rSubI : R2 := rI0 fun i j => .int (i - j)
def rMulI : R2 := rI CMul fun i j => .int (i * j)
def rMulB : R2 := rI CMulW fun i j => .int (i * j)
def rModI : R2 := rI (fun _ j => 0 < j) fun i j => .int (i % j)
def rDivI : R2 := rI CDivW fun i j => .int (i / j)
def rPowI : R2 := rI CPow fun i j => .int (i ^ j.toNat)
def rLtI : R2 := rI0 fun i j => .bl (decide (i < j))
def rLeI : R2 := rI0 fun i j => .bl (decide (i ≤ j))
def rGtI : R2 := rI0 fun i j => .bl (decide (j < i))
def rGeI : R2 := rI0 fun i j => .bl (decide (j ≤ i))
def rEqI : R2 := rI0 fun i j => .bl (decide (i = j))
def rNeI : R2 := rI0 fun i j => .bl (!decide (i = j))
def rNegI : V → Hp → VK → Prop := rU fun i => .int (-i)
theorem or_add : OpR X (binaryOp .Add) rAddI := op_add
theorem or_sub : OpR X (binaryOp .Sub) rSubI := op_sub
theorem or_mul : OpR X (binaryOp .Mult) rMulI := op_mul
theorem or_mulB : OpR X (binaryOp .Mult) rMulB := op_mulW
theorem or_mod : OpR X (binaryOp .Mod) rModI := op_mod
theorem or_div : OpR X (binaryOp .FloorDiv) rDivI := op_fdivW
theorem or_pow : OpR X (binaryOp .Pow) rPowI := op_pow
theorem or_lt : OpR X (compareOp .Lt) rLtI := op_lt
theorem or_le : OpR X (compareOp .LtE) rLeI := op_le
theorem or_gt : OpR X (compareOp .Gt) rGtI := op_gt
theorem or_ge : OpR X (compareOp .GtE) rGeI := op_ge
theorem or_eq : OpR X (compareOp .Eq) rEqI := by
  intro pins s σ H x y v u Q I rx ry h
  obtain ⟨i, j, rfl, rfl, q⟩ := h
  refine op_eq pins s σ H _ _ v u Q I rx ry ⟨rfl, ?_⟩
  rw [show decide (V.int i = V.int j) = decide (i = j) from decide_eq_decide.mpr ⟨V.int.inj, fun e => by rw [e]⟩]
  exact q
theorem or_ne : OpR X (compareOp .NotEq) rNeI := by
  intro pins s σ H x y v u Q I rx ry h
  obtain ⟨i, j, rfl, rfl, q⟩ := h
  refine op_ne pins s σ H _ _ v u Q I rx ry ⟨rfl, ?_⟩
  rw [show decide (V.int i = V.int j) = decide (i = j) from decide_eq_decide.mpr ⟨V.int.inj, fun e => by rw [e]⟩]
  exact q
theorem ur_neg : UnR X (unaryOp .USub) rNegI := un_neg
theorem or_isB : OpR X (compareOp .Is) rIsB := op_isBl
theorem or_notB : OpR X (compareOp .IsNot) rNotB := op_notBl

/-! ### lists and tuples read -/
def rLenC (K : PySem.W.Frag) : List V → Hp → VK → Prop := fun xs H Q => ∃ c a ys, xs = [.ref a] ∧ SqC K c H a ys ∧ Q (.int ys.length) H
theorem sqC_or {K : PySem.W.Frag} {c : Bool} {H : Hp} {a : Addr} {xs : List V} (h : SqC K c H a xs) : SqL K H a xs ∨ SqT K H a xs := by
  cases c with
  | true => exact .inl h
  | false => exact .inr h
theorem cr_lenC : CallR X (.builtin "len") (rLenC X.K) := by
  intro pins s σ H xs us Q I r h
  obtain ⟨c, a, ys, rfl, hs, q⟩ := h
  exact call_len_seq pins s σ H _ us Q I r ⟨a, ys, rfl, sqC_or hs, q⟩
def rIxC (K : PySem.W.Frag) : R2 := fun x y H Q => ∃ c a xs i v, x = .ref a ∧ y = .int i ∧ SqC K c H a xs ∧ atI xs i = some v ∧ Q v H
theorem ix_C : IxR X (rIxC X.K) := by
  intro vx sx pins s σ H x y v u Q I rx ry h hop
  obtain ⟨c, a, xs, i, z, e1, e2, hs, ha, q⟩ := h
  rcases sqC_or hs with hs | hs
  · exact ix_seq vx sx pins s σ H x y v u Q I rx ry (.inl ⟨a, xs, i, z, e1, e2, hs, ha, q⟩) hop
  · exact ix_seq vx sx pins s σ H x y v u Q I rx ry (.inr (.inl ⟨a, xs, i, z, e1, e2, hs, ha, q⟩)) hop
/-- tuple(x) -/
def rTupC (K : PySem.W.Frag) : List V → Hp → VK → Prop := fun xs H Q => ∃ c a ys, xs = [.ref a] ∧ SqC K c H a ys ∧ ∀ p H', Ex H H' → SqT K H' p ys → Q (.ref p) H'
theorem cr_tupC : CallR X (.type "tuple") (rTupC X.K) := by
  intro pins s σ H xs us Q I r h
  obtain ⟨c, a, ys, rfl, hs, q⟩ := h
  refine call_tuple_of pins s σ H _ us Q I r ⟨a, ys, rfl, ?_⟩
  rcases sqC_or hs with hs | hs
  · exact .inl ⟨hs, fun l hl => q l _ (Ex.new hl) (.of upd_same)⟩
  · exact .inr ⟨hs, q a H (Ex.refl H) hs⟩
/-- list(x) -/
def rLstC (K : PySem.W.Frag) : List V → Hp → VK → Prop := fun xs H Q => ∃ c a ys, xs = [.ref a] ∧ SqC K c H a ys ∧ ∀ l, H l = none → Q (.ref l) (upd H l (.lst ys))
theorem cr_lstC : CallR X (.type "list") (rLstC X.K) := by
  intro pins s σ H xs us Q I r h
  obtain ⟨c, a, ys, rfl, hs, q⟩ := h
  exact call_list_of pins s σ H _ us Q I r ⟨a, ys, rfl, sqC_or hs, q⟩
def rAbsI : List V → Hp → VK → Prop := fun xs H Q => ∃ i, xs = [.int i] ∧ Q (.int (i.natAbs : Int)) H
def rMax2I : List V → Hp → VK → Prop := fun xs H Q => ∃ i j, xs = [.int i, .int j] ∧ Q (.int (max i j)) H
def rMin2I : List V → Hp → VK → Prop := fun xs H Q => ∃ i j, xs = [.int i, .int j] ∧ Q (.int (min i j)) H
def rIntI : List V → Hp → VK → Prop := fun xs H Q => ∃ i, xs = [.int i] ∧ Q (.int i) H
def rIntB : List V → Hp → VK → Prop := fun xs H Q => ∃ b, xs = [.bl b] ∧ Q (.int (if b = true then 1 else 0)) H
theorem cr_abs : CallR X (.builtin "abs") rAbsI := by
  intro pins s σ H xs us Q I r h
  obtain ⟨i, rfl, q⟩ := h
  refine call_abs pins s σ H _ us Q I r ⟨i, rfl, ?_⟩
  have e : (if i < 0 then -i else i) = (i.natAbs : Int) := by split <;> omega
  rw [e]
  exact q
theorem cr_max2 (hc : X.calm = true) : CallR X (.builtin "max") rMax2I := by
  intro pins s σ H xs us Q I r h
  obtain ⟨i, j, rfl, q⟩ := h
  refine call_max2 hc pins s σ H _ us Q I r ⟨i, j, rfl, ?_⟩
  have e : (if j > i then j else i) = max i j := by split <;> omega
  rw [e]
  exact q
theorem cr_min2 (hc : X.calm = true) : CallR X (.builtin "min") rMin2I := by
  intro pins s σ H xs us Q I r h
  obtain ⟨i, j, rfl, q⟩ := h
  refine call_min2 hc pins s σ H _ us Q I r ⟨i, j, rfl, ?_⟩
  have e : (if j < i then j else i) = min i j := by split <;> omega
  rw [e]
  exact q
theorem cr_int : CallR X (.type "int") rIntI := by
  intro pins s σ H xs us Q I r h
  obtain ⟨i, rfl, q⟩ := h
  exact call_int1 pins s σ H _ us Q I r (.inl ⟨i, rfl, q⟩)
theorem cr_intB : CallR X (.type "int") rIntB := by
  intro pins s σ H xs us Q I r h
  obtain ⟨b, rfl, q⟩ := h
  refine call_int1 pins s σ H _ us Q I r (.inr ⟨b, rfl, ?_⟩)
  cases b <;> exact q
/-! ### slices, sums of lists and tuples -/
theorem cutV_whole {xs : List V} {lo hi : Option Int} (h : HT.sIx xs.length 0 lo = 0 ∧ HT.sIx xs.length xs.length hi = xs.length) : cutV xs lo hi = xs := by
  unfold cutV
  rw [h.1, h.2, List.drop_zero, Nat.sub_zero, List.take_length]
def rSlU (K : PySem.W.Frag) : V → Option Int → Option Int → Hp → VK → Prop := fun x lo hi H Q => ∃ a xs, x = .ref a ∧ SqT K H a xs ∧ ∀ p H', Ex H H' → SqT K H' p (cutV xs lo hi) → Q (.ref p) H'
theorem sl_U : SlR X (rSlU X.K) := by
  intro pins s σ H x v vl vu lo hi sl Q I rx hs pl pu h
  obtain ⟨a, xs, rfl, hx, q⟩ := h
  exact sl_tupA pins s σ H _ v vl vu lo hi sl Q I rx hs pl pu ⟨a, xs, rfl, hx, fun hw => q a H (Ex.refl H) (by rw [cutV_whole hw]; exact hx), fun _ p hp => q p _ (Ex.new hp) (.of upd_same)⟩
def rCatU (K : PySem.W.Frag) : R2 := fun x y H Q => ∃ a b xs ys, x = .ref a ∧ y = .ref b ∧ SqT K H a xs ∧ SqT K H b ys ∧ xs.length + ys.length ≤ sizeLine ∧ ∀ p H', Ex H H' → SqT K H' p (xs ++ ys) → Q (.ref p) H'
theorem or_catU : OpR X (binaryOp .Add) (rCatU X.K) := by
  intro pins s σ H x y v u Q I rx ry h
  obtain ⟨a, b, xs, ys, rfl, rfl, h1, h2, hz, q⟩ := h
  refine op_catA pins s σ H _ _ v u Q I rx ry ⟨a, b, xs, ys, rfl, rfl, h1, h2, hz, fun e => q b H (Ex.refl H) (by subst e; exact h2), fun _ e => q a H (Ex.refl H) (by subst e; rw [List.append_nil]; exact h1), fun _ _ p hp => q p _ (Ex.new hp) (.of upd_same)⟩
/-- a list's slice that is a new list -/
theorem sl_L : SlR X (rSlL X.K) := sl_list
end

/-! ## what readings ask, one lemma a construct -/
section
variable {σ : L2.St} {H : Hp} {Q : VK} {v : V} {i j : Int} {K : PySem.W.Frag} {b : Bool}
theorem d_var {n : Nat} (h : σ[n]? = some (some v)) (q : Q v H) : tVar n σ H Q := ⟨v, h, q⟩
theorem d_c (q : Q v H) : tC v σ H Q := q
theorem d_op {r : R2} {ta tb : TE} (q : ta σ H fun x H1 => tb σ H1 fun y H2 => r x y H2 Q) : tOp r ta tb σ H Q := q
theorem d_un {r : V → Hp → VK → Prop} {ta : TE} (q : ta σ H fun x H1 => r x H1 Q) : tUn r ta σ H Q := q
theorem d_add (q : Q (.int (i + j)) H) : rAddI (.int i) (.int j) H Q := ⟨i, j, rfl, rfl, q⟩
theorem d_sub (q : Q (.int (i - j)) H) : rSubI (.int i) (.int j) H Q := ⟨i, j, rfl, rfl, q⟩
theorem d_mul (h : CMul i j) (q : Q (.int (i * j)) H) : rMulI (.int i) (.int j) H Q := ⟨i, j, rfl, rfl, h, q⟩
theorem d_mulB (h : CMulW i j) (q : Q (.int (i * j)) H) : rMulB (.int i) (.int j) H Q := ⟨i, j, rfl, rfl, h, q⟩
theorem d_mod (h : 0 < j) (q : Q (.int (i % j)) H) : rModI (.int i) (.int j) H Q := ⟨i, j, rfl, rfl, h, q⟩
theorem d_div (h : CDivW i j) (q : Q (.int (i / j)) H) : rDivI (.int i) (.int j) H Q := ⟨i, j, rfl, rfl, h, q⟩
theorem d_pow (h : CPow i j) (q : Q (.int (i ^ j.toNat)) H) : rPowI (.int i) (.int j) H Q := ⟨i, j, rfl, rfl, h, q⟩
theorem d_neg (q : Q (.int (-i)) H) : rNegI (.int i) H Q := ⟨i, rfl, q⟩
theorem d_lt (q : Q (.bl (decide (i < j))) H) : rLtI (.int i) (.int j) H Q := ⟨i, j, rfl, rfl, q⟩
theorem d_le (q : Q (.bl (decide (i ≤ j))) H) : rLeI (.int i) (.int j) H Q := ⟨i, j, rfl, rfl, q⟩
theorem d_gt (q : Q (.bl (decide (j < i))) H) : rGtI (.int i) (.int j) H Q := ⟨i, j, rfl, rfl, q⟩
theorem d_ge (q : Q (.bl (decide (j ≤ i))) H) : rGeI (.int i) (.int j) H Q := ⟨i, j, rfl, rfl, q⟩
theorem d_eq (q : Q (.bl (decide (i = j))) H) : rEqI (.int i) (.int j) H Q := ⟨i, j, rfl, rfl, q⟩
theorem d_ne (q : Q (.bl (!decide (i = j))) H) : rNeI (.int i) (.int j) H Q := ⟨i, j, rfl, rfl, q⟩
theorem d_isB {a c : Bool} (q : Q (.bl (decide (a = c))) H) : rIsB (.bl a) (.bl c) H Q := ⟨a, c, rfl, rfl, q⟩
theorem d_notB {a c : Bool} (q : Q (.bl (!decide (a = c))) H) : rNotB (.bl a) (.bl c) H Q := ⟨a, c, rfl, rfl, q⟩
theorem d_cb {r : List V → Hp → VK → Prop} {t : TA} (q : t σ H fun vs H1 => r vs H1 Q) : tCB r t σ H Q := q
theorem d_nil {Q : List V → Hp → Prop} (q : Q [] H) : tNil σ H Q := q
theorem d_cons {ta : TE} {tr : TA} {Q : List V → Hp → Prop} (q : ta σ H fun x H1 => tr σ H1 fun xs H2 => Q (x :: xs) H2) : tCons ta tr σ H Q := q
theorem d_call {sp : Sp} {E : XK} {t : TA} (q : t σ H fun vs H1 => sp vs H1 Q E) : tCall sp [] E t σ H Q := by
  have e : (fun (vs : List V) (H1 : Hp) => sp (vs ++ []) H1 Q E) = fun vs H1 => sp vs H1 Q E := by
    funext vs H1
    rw [List.append_nil]
  show t σ H fun vs H1 => sp (vs ++ []) H1 Q E
  rw [e]
  exact q
theorem d_int (q : Q (.int i) H) : rIntI [.int i] H Q := ⟨i, rfl, q⟩
theorem d_intB (q : Q (.int (if b = true then 1 else 0)) H) : rIntB [.bl b] H Q := ⟨b, rfl, q⟩
theorem d_abs (q : Q (.int (i.natAbs : Int)) H) : rAbsI [.int i] H Q := ⟨i, rfl, q⟩
theorem d_max (q : Q (.int (max i j)) H) : rMax2I [.int i, .int j] H Q := ⟨i, j, rfl, q⟩
theorem d_min (q : Q (.int (min i j)) H) : rMin2I [.int i, .int j] H Q := ⟨i, j, rfl, q⟩
theorem d_lenL {a : Addr} {xs : List V} (h : SqL K H a xs) (q : Q (.int xs.length) H) : rLenC K [.ref a] H Q := ⟨true, a, xs, rfl, h, q⟩
theorem d_lenT {a : Addr} {xs : List V} (h : SqT K H a xs) (q : Q (.int xs.length) H) : rLenC K [.ref a] H Q := ⟨false, a, xs, rfl, h, q⟩
theorem d_lenC {a : Addr} {c : Bool} {xs : List V} (h : SqC K c H a xs) (q : Q (.int xs.length) H) : rLenC K [.ref a] H Q := ⟨c, a, xs, rfl, h, q⟩
theorem d_ixL {a : Addr} {xs : List V} (h : SqL K H a xs) (hi : atI xs i = some v) (q : Q v H) : rIxC K (.ref a) (.int i) H Q := ⟨true, a, xs, i, v, rfl, rfl, h, hi, q⟩
theorem d_ixT {a : Addr} {xs : List V} (h : SqT K H a xs) (hi : atI xs i = some v) (q : Q v H) : rIxC K (.ref a) (.int i) H Q := ⟨false, a, xs, i, v, rfl, rfl, h, hi, q⟩
theorem d_ixC {a : Addr} {c : Bool} {xs : List V} (h : SqC K c H a xs) (hi : atI xs i = some v) (q : Q v H) : rIxC K (.ref a) (.int i) H Q := ⟨c, a, xs, i, v, rfl, rfl, h, hi, q⟩
/-- tests -/
def kTest (Q : Bool → Hp → Prop) : VK := fun x H => ∃ k, x = .bl k ∧ Q k H
theorem d_B {te : TE} {Q : Bool → Hp → Prop} (q : te σ H (kTest Q)) : tB te σ H Q := q
theorem d_test {te : TE} {Q : Bool → Hp → Prop} (q : te σ H (kTest Q)) : tTest te σ H Q := q
theorem d_k {Q : Bool → Hp → Prop} (q : Q b H) : kTest Q (.bl b) H := ⟨b, rfl, q⟩
theorem d_not {t : TT} {Q : Bool → Hp → Prop} (q : t σ H fun c H1 => Q (!c) H1) : tNot t σ H Q := q
def kAnd (u : Hp → (Bool → Hp → Prop) → Prop) (Q : Bool → Hp → Prop) (c : Bool) (H1 : Hp) : Prop := if c = true then u H1 Q else Q false H1
def kOr (u : Hp → (Bool → Hp → Prop) → Prop) (Q : Bool → Hp → Prop) (c : Bool) (H1 : Hp) : Prop := if c = true then Q true H1 else u H1 Q
theorem d_and {t u : TT} {Q : Bool → Hp → Prop} (q : t σ H (kAnd (u σ) Q)) : tAnd t u σ H Q := q
theorem d_or {t u : TT} {Q : Bool → Hp → Prop} (q : t σ H (kOr (u σ) Q)) : tOr t u σ H Q := q
theorem k_and {u : Hp → (Bool → Hp → Prop) → Prop} {Q : Bool → Hp → Prop} (h1 : b = true → u H Q) (h2 : b = false → Q false H) : kAnd u Q b H := by
  cases b with
  | true => exact h1 rfl
  | false => exact h2 rfl
theorem k_or {u : Hp → (Bool → Hp → Prop) → Prop} {Q : Bool → Hp → Prop} (h1 : b = true → Q true H) (h2 : b = false → u H Q) : kOr u Q b H := by
  cases b with
  | true => exact h1 rfl
  | false => exact h2 rfl
def kAndV (u : Hp → VK → Prop) (Q : VK) : VK := fun x H => ∃ c, x = .bl c ∧ if c = true then u H Q else Q (.bl false) H
def kOrV (u : Hp → VK → Prop) (Q : VK) : VK := fun x H => ∃ c, x = .bl c ∧ if c = true then Q (.bl true) H else u H Q
theorem d_andV {ta tb : TE} (q : ta σ H (kAndV (tb σ) Q)) : tAndV ta tb σ H Q := q
theorem d_orV {ta tb : TE} (q : ta σ H (kOrV (tb σ) Q)) : tOrV ta tb σ H Q := q
theorem k_andV {u : Hp → VK → Prop} (h1 : b = true → u H Q) (h2 : b = false → Q (.bl false) H) : kAndV u Q (.bl b) H := ⟨b, rfl, by
  cases b with
  | true => exact h1 rfl
  | false => exact h2 rfl⟩
theorem k_orV {u : Hp → VK → Prop} (h1 : b = true → Q (.bl true) H) (h2 : b = false → u H Q) : kOrV u Q (.bl b) H := ⟨b, rfl, by
  cases b with
  | true => exact h1 rfl
  | false => exact h2 rfl⟩
def kNotV (Q : VK) : VK := fun x H => ∃ c, x = .bl c ∧ Q (.bl (!c)) H
theorem d_notV {ta : TE} (q : ta σ H (kNotV Q)) : tNotV ta σ H Q := q
theorem k_notV (q : Q (.bl (!b)) H) : kNotV Q (.bl b) H := ⟨b, rfl, q⟩
def kIf (T U : Hp → Prop) (c : Bool) (H1 : Hp) : Prop := if c = true then T H1 else U H1
theorem d_ifE {t : TT} {ta tb : TE} (q : t σ H (kIf (fun H1 => ta σ H1 Q) (fun H1 => tb σ H1 Q))) : tIf t ta tb σ H Q := q
theorem k_if {T U : Hp → Prop} (h1 : b = true → T H) (h2 : b = false → U H) : kIf T U b H := by
  cases b with
  | true => exact h1 rfl
  | false => exact h2 rfl
theorem k_ifT {T U : Hp → Prop} (h : T H) : kIf T U true H := h
theorem k_ifF {T U : Hp → Prop} (h : U H) : kIf T U false H := h
theorem k_ifY {T U : Hp → Prop} (hb : b = true) (h : T H) : kIf T U b H := by
  subst hb
  exact h
theorem k_ifN {T U : Hp → Prop} (hb : b = false) (h : U H) : kIf T U b H := by
  subst hb
  exact h
/-- a < b < c -/
def kChain (u : V → Hp → Prop) (y : V) (Q : VK) : VK := fun z H => ∃ k, z = .bl k ∧ if k = true then u y H else Q (.bl false) H
theorem d_chain {r r' : R2} {ta tb tc : TE} (q : ta σ H fun x H1 => tb σ H1 fun y H2 => r x y H2 (kChain (fun y H3 => tc σ H3 fun w' H4 => r' y w' H4 Q) y Q)) : tChain r r' ta tb tc σ H Q := q
theorem k_chain {u : V → Hp → Prop} {y : V} (h1 : b = true → u y H) (h2 : b = false → Q (.bl false) H) : kChain u y Q (.bl b) H := ⟨b, rfl, by
  cases b with
  | true => exact h1 rfl
  | false => exact h2 rfl⟩
/-! ### displays, slices -/
def kSeq (f : List V → HO) (Q : VK) : List V → Hp → Prop := fun xs H1 => xs.length ≤ sizeLine ∧ ∀ p, H1 p = none → Q (.ref p) (upd H1 p (f xs))
theorem d_tup {t : TA} (q : t σ H (kSeq .tup Q)) : tTup t σ H Q := q
theorem d_lst {t : TA} (q : t σ H (kSeq .lst Q)) : tLst t σ H Q := q
theorem k_seq {f : List V → HO} {xs : List V} (h : xs.length ≤ 1000) (q : ∀ p, H p = none → Ex H (upd H p (f xs)) → Q (.ref p) (upd H p (f xs))) : kSeq f Q xs H := ⟨Nat.le_trans h (by decide), fun p hp => q p hp (Ex.new hp)⟩
theorem d_sl {r : V → Option Int → Option Int → Hp → VK → Prop} {te : TE} {tl th : TO} (q : te σ H fun x H1 => tl σ H1 fun l H2 => th σ H2 fun u H3 => r x l u H3 Q) : tSl r te tl th σ H Q := q
theorem d_noP {Q : Option Int → Hp → Prop} (q : Q none H) : tNoPart σ H Q := q
def kPart (Q : Option Int → Hp → Prop) : VK := fun x H => ∃ i, x = .int i ∧ Q (some i) H
theorem d_part {te : TE} {Q : Option Int → Hp → Prop} (q : te σ H (kPart Q)) : tPart te σ H Q := q
theorem k_part {Q : Option Int → Hp → Prop} (q : Q (some i) H) : kPart Q (.int i) H := ⟨i, rfl, q⟩
/-! ### statements -/
variable {D : Ends}
theorem d_seq {t u : TS} (q : t { D with nx := u D } σ H) : tSeq t u D σ H := q
theorem d_next (q : D.nx σ H) : tNext D σ H := q
theorem d_asg {te : TE} {g : TG} (q : te σ H fun x H1 => g x σ H1 D.nx) : tAsg te g D σ H := q
theorem d_gName {n : Nat} {R : L2.St → Hp → Prop} (q : R (σ.set n (some v)) H) : gName n v σ H R := q
theorem d_if {c : TT} {t u : TS} (q : c σ H (kIf (fun H1 => t D σ H1) (fun H1 => u D σ H1))) : tIfS c t u D σ H := q
theorem d_ret {te : TE} (q : te σ H D.rt) : tRet te D σ H := q
theorem d_retN (q : D.rt .non H) : tRetN D σ H := q
theorem d_drop {te : TE} (q : te σ H fun _ H1 => D.nx σ H1) : tDrop te D σ H := q
def kPar (n m : Nat) (σ : L2.St) (R : L2.St → Hp → Prop) : List V → Hp → Prop := fun vs H1 => ∃ v w, vs = [v, w] ∧ R ((σ.set n (some v)).set m (some w)) H1
theorem d_par {n m : Nat} {t : TA} (q : t σ H (kPar n m σ D.nx)) : tPar n m t D σ H := q
theorem k_par {n m : Nat} {R : L2.St → Hp → Prop} {v w : V} (q : R ((σ.set n (some v)).set m (some w)) H) : kPar n m σ R [v, w] H := ⟨v, w, rfl, q⟩
def kPar3 (n m l : Nat) (σ : L2.St) (R : L2.St → Hp → Prop) : List V → Hp → Prop := fun vs H1 => ∃ u v w, vs = [u, v, w] ∧ R (((σ.set n (some u)).set m (some v)).set l (some w)) H1
theorem d_par3 {n m l : Nat} {t : TA} (q : t σ H (kPar3 n m l σ D.nx)) : tPar3 n m l t D σ H := q
theorem k_par3 {n m l : Nat} {R : L2.St → Hp → Prop} {u v w : V} (q : R (((σ.set n (some u)).set m (some v)).set l (some w)) H) : kPar3 n m l σ R [u, v, w] H := ⟨u, v, w, rfl, q⟩
def kAug (f : Int → Int → Int) (a : Int) (n : Nat) (σ : L2.St) (R : L2.St → Hp → Prop) : VK := fun y H1 => ∃ k, y = .int k ∧ R (σ.set n (some (.int (f a k)))) H1
theorem d_aug {n : Nat} {te : TE} {f : Int → Int → Int} {a : Int} (hx : σ[n]? = some (some (.int a))) (q : te σ H (kAug f a n σ D.nx)) : tAug n te (ipI f) D σ H := by
  refine ⟨.int a, hx, ?_⟩
  have e : (kAug f a n σ D.nx) = (fun (y : V) (H1 : Hp) => ipI f (.int a) y H1 fun z H2 => D.nx (σ.set n (some z)) H2) := by
    funext y H1
    refine propext ⟨fun ⟨k, e, r⟩ => ⟨a, k, rfl, e, r⟩, fun ⟨i, k, e1, e2, r⟩ => ?_⟩
    cases e1
    exact ⟨k, e2, r⟩
  rw [← e]
  exact q
theorem k_aug {f : Int → Int → Int} {a k : Int} {n : Nat} {R : L2.St → Hp → Prop} (q : R (σ.set n (some (.int (f a k)))) H) : kAug f a n σ R (.int k) H := ⟨k, rfl, q⟩
end
/-- one step of a reading -/
local macro_rules | `(tactic| walk_at "d") => `(tactic| with_reducible first
  | refine d_var (by with_unfolding_all rfl) ?_ | refine d_c ?_ | refine d_op ?_ | refine d_un ?_ | refine d_add ?_ | refine d_sub ?_ | refine d_neg ?_
  | refine d_lt ?_ | refine d_le ?_ | refine d_gt ?_ | refine d_ge ?_ | refine d_eq ?_ | refine d_ne ?_ | refine d_cb ?_ | refine d_nil ?_ | refine d_cons ?_ | refine d_call ?_)
end Tb
end
section
namespace Tb
open PySem PySem.Spec PyProof.Rows L2 Evl

/-! ## loops -/
section
variable {σ : L2.St} {H : Hp} {K : PySem.W.Frag} {D : Ends}
def kBody (W : Nat → L2.St → Hp → Prop) (m : Nat) (tb : TS) (D : Ends) (σ : L2.St) (H1 : Hp) : Prop :=
  ∃ N : L2.St → Hp → Prop, (∀ σ' H', N σ' H' → ∃ m', m' < m ∧ W m' σ' H') ∧ tb { D with nx := N, ct := N, bk := D.nx } σ H1
theorem d_while {c : TT} {tb : TS} (W : Nat → L2.St → Hp → Prop) (m : Nat) (h0 : W m σ H) (hs : ∀ m σ' H', W m σ' H' → c σ' H' (kIf (fun H1 => kBody W m tb D σ' H1) (fun H1 => D.nx σ' H1))) : tWhile c tb D σ H := ⟨W, ⟨m, h0⟩, hs⟩
theorem k_body {W : Nat → L2.St → Hp → Prop} {m : Nat} {tb : TS} (h : tb { D with nx := fun σ' H' => ∃ m', m' < m ∧ W m' σ' H', ct := fun σ' H' => ∃ m', m' < m ∧ W m' σ' H', bk := D.nx } σ H) : kBody W m tb D σ H := ⟨_, fun _ _ z => z, h⟩
def kFor (g : TG) (tb : TS) (D : Ends) (σ : L2.St) (J : It) (H1 : Hp) : Prop :=
  ∃ W : Nat → Nat → L2.St → Hp → Prop, (∃ m, W 0 m σ H1) ∧ ∀ i m σ H, W i m σ H →
    (J.stop i H ∧ D.nx σ H) ∨ (J.go i H ∧ ∃ N : L2.St → Hp → Prop, (∀ σ' H', N σ' H' → ∃ m', m' < m ∧ W (i + 1) m' σ' H') ∧ ∀ x H', J.yld i H x H' → g x σ H' fun σ2 H2 => tb { D with nx := N, ct := N, bk := D.nx } σ2 H2)
theorem d_for {wi : TI} {g : TG} {tb : TS} (q : wi σ H (kFor g tb D σ)) : tFor wi g tb D σ H := q
/-- a for, by what holds ahead of each turn -/
theorem k_for {J : It} {n : Nat} {G : Hp → Prop} {Y : Nat → Hp → V → Hp → Prop} {g : TG} {tb : TS} (w : Walk J n G Y) (Pv : Nat → L2.St → Hp → Prop) (h0 : Pv 0 σ H) (hG : ∀ i σ H, i ≤ n → Pv i σ H → G H)
    (hs : ∀ i x σ' H' H2, i < n → Pv i σ' H' → Y i H' x H2 → g x σ' H2 fun σ2 H3 => tb { D with nx := Pv (i + 1), ct := Pv (i + 1), bk := D.nx } σ2 H3) (hd : ∀ σ' H', Pv n σ' H' → D.nx σ' H') : kFor g tb D σ J H :=
  for_it w Pv h0 hG hs hd
/-! ### what is walked -/
variable {R : It → Hp → Prop} {a b : Addr} {c c1 c2 : Bool} {xs ys : List V}
def kE (K : PySem.W.Frag) (R : It → Hp → Prop) : List V → Hp → Prop := fun vs H1 => ∃ c a xs, vs = [.ref a] ∧ SqC K c H1 a xs ∧ R (ItE K c a) H1
theorem d_iE {ta : TA} (q : ta σ H (kE K R)) : iE K ta σ H R := q
theorem k_E (h : SqC K c H a xs) (q : R (ItE K c a) H) : kE K R [.ref a] H := ⟨c, a, xs, rfl, h, q⟩
def kZ (K : PySem.W.Frag) (R : It → Hp → Prop) : List V → Hp → Prop := fun vs H1 => ∃ c1 c2 a b xs ys, vs = [.ref a, .ref b] ∧ SqC K c1 H1 a xs ∧ SqC K c2 H1 b ys ∧ R (ItZ K c1 c2 a b) H1
theorem d_iZ {ta : TA} (q : ta σ H (kZ K R)) : iZ K ta σ H R := q
theorem k_Z (h : SqC K c1 H a xs) (h' : SqC K c2 H b ys) (q : R (ItZ K c1 c2 a b) H) : kZ K R [.ref a, .ref b] H := ⟨c1, c2, a, b, xs, ys, rfl, h, h', q⟩
def kR1 (R : It → Hp → Prop) : List V → Hp → Prop := fun vs H1 => ∃ j : Int, vs = [.int j] ∧ -(2 ^ 62) ≤ j ∧ j < 2 ^ 62 ∧ R (Itr 0 j.toNat) H1
theorem d_iR1 {ta : TA} (q : ta σ H (kR1 R)) : iRng1 ta σ H R := q
theorem k_R1 {j : Int} (h1 : -(2 ^ 62) ≤ j) (h2 : j < 2 ^ 62) (q : R (Itr 0 j.toNat) H) : kR1 R [.int j] H := ⟨j, rfl, h1, h2, q⟩
def kR2 (R : It → Hp → Prop) : List V → Hp → Prop := fun vs H1 => ∃ i j : Int, vs = [.int i, .int j] ∧ (-(2 ^ 62) ≤ i ∧ i < 2 ^ 62 ∧ -(2 ^ 62) ≤ j ∧ j < 2 ^ 62) ∧ R (Itr i (j - i).toNat) H1
theorem d_iR2 {ta : TA} (q : ta σ H (kR2 R)) : iRng2 ta σ H R := q
theorem k_R2 {i j : Int} (h : -(2 ^ 62) ≤ i ∧ i < 2 ^ 62 ∧ -(2 ^ 62) ≤ j ∧ j < 2 ^ 62) (q : R (Itr i (j - i).toNat) H) : kR2 R [.int i, .int j] H := ⟨i, j, rfl, h, q⟩
def kR3 (R : It → Hp → Prop) : List V → Hp → Prop := fun vs H1 => ∃ (i j c : Int) (n : Nat), vs = [.int i, .int j, .int c] ∧ RgC i j c n ∧ R (Itc i c n) H1
theorem d_iR3 {ta : TA} (q : ta σ H (kR3 R)) : iRng3 ta σ H R := q
theorem k_R3 {i j d : Int} {n : Nat} (h : RgC i j d n) (q : R (Itc i d n) H) : kR3 R [.int i, .int j, .int d] H := ⟨i, j, d, n, rfl, h, q⟩
def kL (K : PySem.W.Frag) (R : It → Hp → Prop) : VK := fun x H1 => ∃ a, x = .ref a ∧ (∃ xs, SqL K H1 a xs) ∧ R (Itl K a) H1
theorem d_iL {tl : TE} (q : tl σ H (kL K R)) : iList K tl σ H R := q
theorem k_L (h : SqL K H a xs) (q : R (Itl K a) H) : kL K R (.ref a) H := ⟨a, rfl, ⟨xs, h⟩, q⟩
def kT (K : PySem.W.Frag) (R : It → Hp → Prop) : VK := fun x H1 => ∃ a, x = .ref a ∧ (∃ xs, SqT K H1 a xs) ∧ R (Itt K a) H1
theorem d_iT {tl : TE} (q : tl σ H (kT K R)) : iTup K tl σ H R := q
theorem k_T (h : SqT K H a xs) (q : R (Itt K a) H) : kT K R (.ref a) H := ⟨a, rfl, ⟨xs, h⟩, q⟩
/-- a pair as a target -/
theorem g_pair {m n : Nat} {T : Addr} {x y : V} {Rr : L2.St → Hp → Prop} (h : SqT K H T [x, y]) (q : Rr ((σ.set m (some x)).set n (some y)) H) : gTup K 2 (gCons (gName m) (gCons (gName n) gNil)) (.ref T) σ H Rr :=
  ⟨T, [x, y], rfl, h, rfl, x, [y], rfl, y, [], rfl, rfl, q⟩
theorem g_triple {m n l : Nat} {T : Addr} {x y z : V} {Rr : L2.St → Hp → Prop} (h : SqT K H T [x, y, z]) (q : Rr (((σ.set m (some x)).set n (some y)).set l (some z)) H) : gTup K 3 (gCons (gName m) (gCons (gName n) (gCons (gName l) gNil))) (.ref T) σ H Rr :=
  ⟨T, [x, y, z], rfl, h, rfl, x, [y, z], rfl, y, [z], rfl, z, [], rfl, rfl, q⟩
/-! ## comprehensions -/
def kLc (g : TG) (tt : TT) (te : TE) (vs : List Nat) (σ : L2.St) (Q : VK) (J : It) (H1 : Hp) : Prop :=
  ∀ D, H1 D = none → ∃ W : Nat → Nat → Hp → Prop, (∃ m, W 0 m (upd H1 D (.lst []))) ∧ ∀ i m H, W i m H →
    (J.stop i H ∧ Q (.ref D) H) ∨ (J.go i H ∧ ∃ Nx : Hp → Prop, (∀ H', Nx H' → ∃ m', m' < m ∧ W (i + 1) m' H') ∧ ∀ x H', J.yld i H x H' → g x (wipe σ vs) H' fun σ2 H2 => wipe σ2 vs = wipe σ vs ∧ tt σ2 H2 fun b H3 =>
      if b = true then te σ2 H3 fun y H4 => ∃ acc, H4 D = some (.lst acc) ∧ acc.length < sizeLine ∧ Nx (upd H4 D (.lst (acc ++ [y]))) else Nx H3)
theorem d_lc {wi : TI} {g : TG} {tt : TT} {te : TE} {vs : List Nat} {Q : VK} (q : wi σ H (kLc g tt te vs σ Q)) : tLc wi g tt te vs σ H Q := q
/-- te gives y whatever is wanted, and keeps the heap -/
def Gives (te : TE) (σ : L2.St) (H0 H : Hp) (y : V) : Prop := ∀ Q : VK, (∀ H', Ex H0 H' → Q y H') → te σ H Q
theorem lc_turn {te : TE} {σ2 : L2.St} {H0 H' H2 : Hp} {Dl : Addr} {f : Nat → V} {i : Nat} (hD : H0 Dl = none) (e : Ex H0 H') (ha : H' Dl = some (.lst ((List.range i).map f))) (hi : i < 100000) (e2 : Ex H' H2) (h : Gives te σ2 H' H2 (f i)) :
    te σ2 H2 fun y H4 => ∃ acc, H4 Dl = some (.lst acc) ∧ acc.length < sizeLine ∧ (Ex H0 (upd H4 Dl (.lst (acc ++ [y]))) ∧ (upd H4 Dl (.lst (acc ++ [y]))) Dl = some (.lst ((List.range (i + 1)).map f))) := by
  refine h _ fun H4 e4 => ⟨(List.range i).map f, e4 _ _ ha, ?_, Ex.mut (e.trans e4) hD, ?_⟩
  · rw [List.length_map, List.length_range]
    exact Nat.lt_of_lt_of_le hi (by decide)
  · rw [upd_same, List.range_succ, List.map_append]
    rfl
/-- [e for x in ..]: what each turn gives is told -/
theorem k_lcN {J : It} {n : Nat} {G : Hp → Prop} {Y : Nat → Hp → V → Hp → Prop} {te : TE} {vs : List Nat} {j : Nat} {Q : VK} (w : Walk J n G Y) (f : Nat → V) (hn : n ≤ 100000) (hG : ∀ H', Ex H H' → G H')
    (hw : ∀ x, wipe ((wipe σ vs).set j (some x)) vs = wipe σ vs) (hs : ∀ i x H' H2, i < n → Ex H H' → Y i H' x H2 → Ex H' H2 ∧ Gives te ((wipe σ vs).set j (some x)) H' H2 (f i))
    (q : ∀ p H', H p = none → Ex H H' → H' p = some (.lst ((List.range n).map f)) → Q (.ref p) H') : kLc (gName j) tYes te vs σ Q J H := fun Dl hD =>
  lc_it w (fun i H' => Ex H H' ∧ H' Dl = some (.lst ((List.range i).map f))) ⟨Ex.new hD, upd_same⟩ (fun i H' _ p => hG H' p.1)
    (fun i x H' H2 hi p y => ⟨hw x, lc_turn hD p.1 p.2 (by omega) (hs i x H' H2 hi p.1 y).1 (hs i x H' H2 hi p.1 y).2⟩) (fun H' p => q Dl H' hD p.1 p.2)
/-- [e for x, y in ..]: the pairs are new -/
theorem k_lcP {J : It} {n : Nat} {G : Hp → Prop} {X1 X2 : Nat → Option V} {te : TE} {vs : List Nat} {j l : Nat} {Q : VK} (w : Walk J n G (YPair X1 X2)) (f : Nat → V) (hn : n ≤ 100000) (hG : ∀ H', Ex H H' → G H')
    (hw : ∀ x y, wipe (((wipe σ vs).set j (some x)).set l (some y)) vs = wipe σ vs) (hs : ∀ i x y H' H2, i < n → Ex H H' → X1 i = some x → X2 i = some y → Ex H' H2 → Gives te (((wipe σ vs).set j (some x)).set l (some y)) H' H2 (f i))
    (q : ∀ p H', H p = none → Ex H H' → H' p = some (.lst ((List.range n).map f)) → Q (.ref p) H') : kLc (gTup K 2 (gCons (gName j) (gCons (gName l) gNil))) tYes te vs σ Q J H := fun Dl hD =>
  lc_it w (fun i H' => Ex H H' ∧ H' Dl = some (.lst ((List.range i).map f))) ⟨Ex.new hD, upd_same⟩ (fun i H' _ p => hG H' p.1)
    (fun i v H' H2 hi p y => by
      obtain ⟨T, x1, x2, rfl, hT, rfl, e1, e2⟩ := y
      exact g_pair (.of upd_same) ⟨hw x1 x2, lc_turn hD p.1 p.2 (by omega) (Ex.new hT) (hs i x1 x2 H' _ hi p.1 e1 e2 (Ex.new hT))⟩) (fun H' p => q Dl H' hD p.1 p.2)
/-- isinstance with two classes -/
theorem kit_any1 {K : PySem.W.Frag} {t c1 c2 : Value} (h : PySem.W.kitOne K t c1 = some true) : PySem.W.kitAny K t [c1, c2] = some true := kitAny_cons h (fun z => nomatch z) fun _ => rfl
theorem kit_any2 {K : PySem.W.Frag} {t c1 c2 : Value} (h : PySem.W.kitOne K t c1 = some false) (h2 : PySem.W.kitOne K t c2 = some true) : PySem.W.kitAny K t [c1, c2] = some true :=
  kitAny_cons h (fun _ => kitAny_cons h2 (fun z => nomatch z) fun _ => rfl) fun z => nomatch z
end
end Tb
end
section
namespace Tb
open PySem PySem.Spec PyProof.Rows L2 Evl
theorem SqC.ty {K : PySem.W.Frag} {c : Bool} {H : Hp} {a : Addr} {xs : List V} (h : SqC K c H a xs) : TyX K H (.ref a) (.type (if c = true then "list" else "tuple")) := by
  cases c with
  | true =>
    rcases (show SqL K H a xs from h) with (z | ⟨o, z⟩) | ⟨o, its, n, e, ec, _⟩
    · exact .base (.lst z)
    · exact .base (.frz z)
    · exact .kList e ec
  | false =>
    rcases (show SqT K H a xs from h) with (z | ⟨o, z⟩) | ⟨o, its, n, e, ec, _⟩
    · exact .base (.tup z)
    · exact .fTuple z
    · exact .kTuple e ec
theorem SqC.ex {K : PySem.W.Frag} {c : Bool} {H H' : Hp} {a : Addr} {xs : List V} (e : Ex H H') (h : SqC K c H a xs) : SqC K c H' a xs := by
  cases c with
  | true => exact ex_l e (show SqL K H a xs from h)
  | false => exact ex_t e (show SqT K H a xs from h)
theorem SqC.dp {K : PySem.W.Frag} {c : Bool} {H : Hp} {a : Addr} {xs : List V} {ds : List PyData} (h : SqC K c H a xs) (hd : DpAll K H xs ds) : Dp K H (.ref a) (if c = true then .list ds else .tuple ds) := by
  cases c with
  | true => exact .lst h hd
  | false => exact .tup h hd
theorem sq_L {K : PySem.W.Frag} {H : Hp} {a : Addr} {xs : List V} (h : H a = some (.lst xs)) : SqC K true H a xs := .inl (.inl h)
theorem sq_T {K : PySem.W.Frag} {H : Hp} {a : Addr} {xs : List V} (h : H a = some (.tup xs)) : SqC K false H a xs := .inl (.inl h)
theorem dp_ints {K : PySem.W.Frag} {H : Hp} : ∀ ns : List Int, DpAll K H (ns.map V.int) (ns.map PyData.int)
  | [] => .nil
  | n :: r => .cons (.int n) (dp_ints r)
section
variable {X : Cx} {tg : Expr}
/-- s[a:b] of a list or tuple -/
def rSlC (K : PySem.W.Frag) : V → Option Int → Option Int → Hp → VK → Prop := fun x lo hi H Q => ∃ c a xs, x = .ref a ∧ SqC K c H a xs ∧ ∀ p H', Ex H H' → SqC K c H' p (cutV xs lo hi) → Q (.ref p) H'
theorem sl_C : SlR X (rSlC X.K) := by
  intro pins s σ H x v vl vu lo hi sl Q I rx hs pl pu h
  obtain ⟨c, a, xs, rfl, hx, q⟩ := h
  cases c with
  | true => exact sl_L pins s σ H _ v vl vu lo hi sl Q I rx hs pl pu ⟨a, xs, rfl, hx, fun p hp => q p _ (Ex.new hp) (sq_L upd_same)⟩
  | false => exact sl_U pins s σ H _ v vl vu lo hi sl Q I rx hs pl pu ⟨a, xs, rfl, hx, fun p H' e h => q p H' e h⟩
/-- a list or tuple, walked -/
def ItC (K : PySem.W.Frag) (c : Bool) (a : Addr) : It := if c = true then Itl K a else Itt K a
def iC (K : PySem.W.Frag) (tl : TE) : TI := fun σ H R => tl σ H fun x H1 => ∃ c a xs, x = .ref a ∧ SqC K c H1 a xs ∧ R (ItC K c a) H1
theorem pi_C {l : Expr} {tl : TE} (hl : PE X l tl) : PI X tg l (iC X.K tl) := by
  refine ⟨fun pins s σ H R I h => thn (hl.run pins s σ H _ I h) fun v s1 ⟨x, H1, I1, r1, q1⟩ => ?_⟩
  obtain ⟨c, a, xs, e, hq, q⟩ := q1
  subst e
  cases r1
  have fr : ∀ b ∈ [s1.heap.objs.size], FpOk X pins H1 b := fun b hb => by
    rw [List.mem_singleton.mp hb]
    exact I1.fpOk (Nat.le_refl _) (I1.hok.fresh (Nat.le_refl _))
  cases c with
  | true =>
    obtain ⟨its, rv, p, hz⟩ := I1.list (show SqL X.K H1 a xs from hq)
    exact wpAny_pyIter_list p.isList ⟨s1.heap.objs.size, [s1.heap.objs.size], _, _, H1, rfl, I1.kept (t' := s1.toks) fun b o z => Heap.get?_push_of_some _ z, turn_list a _, ⟨_, Heap.get?_push_size _ rfl, rfl, rfl⟩, fr, q⟩
  | false =>
    obtain ⟨its, rv, p, hz⟩ := I1.tuple (show SqT X.K H1 a xs from hq)
    exact wpAny_pyIter_tuple (show s1.heap.IsTuple a its.toArray from p) ⟨s1.heap.objs.size, [s1.heap.objs.size], _, _, H1, rfl, I1.kept (t' := s1.toks) fun b o z => Heap.get?_push_of_some _ z, turn_tuple a _, ⟨_, Heap.get?_push_size _ rfl, rfl, rfl⟩, fr, q⟩
theorem walk_C {K : PySem.W.Frag} {c : Bool} {a : Addr} {xs : List V} : Walk (ItC K c a) xs.length (fun H => SqC K c H a xs) (YAt xs) := by
  cases c with
  | true => exact walk_list
  | false => exact walk_tup
end
section
variable {σ : L2.St} {H : Hp} {K : PySem.W.Frag} {R : It → Hp → Prop} {a : Addr} {c : Bool} {xs : List V} {Q : VK}
def kC (K : PySem.W.Frag) (R : It → Hp → Prop) : VK := fun x H1 => ∃ c a xs, x = .ref a ∧ SqC K c H1 a xs ∧ R (ItC K c a) H1
theorem d_iC {tl : TE} (q : tl σ H (kC K R)) : iC K tl σ H R := q
theorem k_C (h : SqC K c H a xs) (q : R (ItC K c a) H) : kC K R (.ref a) H := ⟨c, a, xs, rfl, h, q⟩
theorem d_slC {lo hi : Option Int} (h : SqC K c H a xs) (q : ∀ p H', Ex H H' → SqC K c H' p (cutV xs lo hi) → Q (.ref p) H') : rSlC K (.ref a) lo hi H Q := ⟨c, a, xs, rfl, h, q⟩
theorem d_slU {lo hi : Option Int} (h : SqT K H a xs) (q : ∀ p H', Ex H H' → SqT K H' p (cutV xs lo hi) → Q (.ref p) H') : rSlU K (.ref a) lo hi H Q := ⟨a, xs, rfl, h, q⟩
theorem d_slL {lo hi : Option Int} (h : SqL K H a xs) (q : ∀ p, H p = none → Ex H (upd H p (.lst (cutV xs lo hi))) → Q (.ref p) (upd H p (.lst (cutV xs lo hi)))) : rSlL K (.ref a) lo hi H Q := ⟨a, xs, rfl, h, fun p hp => q p hp (Ex.new hp)⟩
theorem d_tupC (h : SqC K c H a xs) (q : ∀ p H', Ex H H' → SqT K H' p xs → Q (.ref p) H') : rTupC K [.ref a] H Q := ⟨c, a, xs, rfl, h, q⟩
theorem d_lstC (h : SqC K c H a xs) (q : ∀ p, H p = none → Ex H (upd H p (.lst xs)) → Q (.ref p) (upd H p (.lst xs))) : rLstC K [.ref a] H Q := ⟨c, a, xs, rfl, h, fun p hp => q p hp (Ex.new hp)⟩
theorem d_sum {ns : List Int} (h : SqL K H a (ns.map V.int)) (q : Q (.int ns.sum) H) : rSum K [.ref a] H Q := ⟨a, ns, rfl, h, q⟩
theorem d_all {bs : List Bool} (h : SqL K H a (bs.map V.bl)) (q : Q (.bl (bs.all id)) H) : rAll K [.ref a] H Q := ⟨a, bs, rfl, h, q⟩
theorem d_rep {k : Int} (h : H a = some (.lst xs)) (h0 : 0 ≤ k) (h1 : xs.length * k.toNat ≤ 100000) (h2 : k ≤ 100000) (q : ∀ p, H p = none → Ex H (upd H p (.lst (List.replicate k.toNat xs).flatten)) → Q (.ref p) (upd H p (.lst (List.replicate k.toNat xs).flatten))) :
    rRep (.ref a) (.int k) H Q := ⟨a, k, xs, rfl, rfl, h, by omega, by omega, Nat.le_trans h1 (by decide), fun p hp => q p hp (Ex.new hp)⟩
theorem d_repT {k : Int} (h : SqT K H a xs) (h0 : -1000 ≤ k) (h1 : k ≤ 1000) (h2 : xs.length ≤ 1000) (q : ∀ p H', Ex H H' → SqT K H' p (List.replicate k.toNat xs).flatten → Q (.ref p) H') : rRepA K (.ref a) (.int k) H Q :=
  ⟨a, k, xs, rfl, rfl, h, h0, h1, h2, fun p H' e h => q p H' e h⟩
theorem d_cat {b : Addr} {ys : List V} (h : H a = some (.lst xs)) (h' : H b = some (.lst ys)) (hz : xs.length + ys.length ≤ 100000) (q : ∀ p, H p = none → Ex H (upd H p (.lst (xs ++ ys))) → Q (.ref p) (upd H p (.lst (xs ++ ys)))) : rCat (.ref a) (.ref b) H Q :=
  ⟨a, b, xs, ys, rfl, rfl, h, h', Nat.le_trans hz (by decide), fun p hp => q p hp (Ex.new hp)⟩
theorem d_catU {b : Addr} {ys : List V} (h : SqT K H a xs) (h' : SqT K H b ys) (hz : xs.length + ys.length ≤ 100000) (q : ∀ p H', Ex H H' → SqT K H' p (xs ++ ys) → Q (.ref p) H') : rCatU K (.ref a) (.ref b) H Q :=
  ⟨a, b, xs, ys, rfl, rfl, h, h', Nat.le_trans hz (by decide), q⟩
theorem d_revL {te : TE} (q : te σ H fun x H1 => ∃ a xs, x = .ref a ∧ SqL K H1 a xs ∧ ∀ p, H1 p = none → Q (.ref p) (upd H1 p (.lst xs.reverse))) : tRevL K te σ H Q := q
def kRevT (K : PySem.W.Frag) (Q : VK) : VK := fun x H1 => ∃ a xs, x = .ref a ∧ SqT K H1 a xs ∧ ∀ p, H1 p = none → Q (.ref p) (upd H1 p (.tup xs.reverse))
def kRevL (K : PySem.W.Frag) (Q : VK) : VK := fun x H1 => ∃ a xs, x = .ref a ∧ SqL K H1 a xs ∧ ∀ p, H1 p = none → Q (.ref p) (upd H1 p (.lst xs.reverse))
theorem d_rT {te : TE} (q : te σ H (kRevT K Q)) : tRevT K te σ H Q := q
theorem d_rL {te : TE} (q : te σ H (kRevL K Q)) : tRevL K te σ H Q := q
theorem k_revT (h : SqT K H a xs) (q : ∀ p, H p = none → Ex H (upd H p (.tup xs.reverse)) → Q (.ref p) (upd H p (.tup xs.reverse))) : kRevT K Q (.ref a) H := ⟨a, xs, rfl, h, fun p hp => q p hp (Ex.new hp)⟩
theorem k_revL (h : SqL K H a xs) (q : ∀ p, H p = none → Ex H (upd H p (.lst xs.reverse)) → Q (.ref p) (upd H p (.lst xs.reverse))) : kRevL K Q (.ref a) H := ⟨a, xs, rfl, h, fun p hp => q p hp (Ex.new hp)⟩
theorem d_listRg {te : L2.St → Hp → (Int → Int → Hp → Prop) → Prop} (q : te σ H fun a b H1 => RgOk a b ∧ ∀ q, H1 q = none → Q (.ref q) (upd H1 q (.lst (rgV a b)))) : tLstRg te σ H Q := q
def kRg1 (Q : VK) : VK := fun x H1 => ∃ n, x = .int n ∧ RgOk 0 n ∧ ∀ q, H1 q = none → Q (.ref q) (upd H1 q (.lst (rgV 0 n)))
theorem d_rg1 {ta : TE} (q : ta σ H (kRg1 Q)) : tLstRg (tRg1 ta) σ H Q := q
theorem k_rg1 {n : Int} (h0 : 0 ≤ n) (h1 : n ≤ 100000) (q : ∀ p, H p = none → Ex H (upd H p (.lst ((List.range n.toNat).map fun (i : Nat) => V.int (i : Int)))) → Q (.ref p) (upd H p (.lst ((List.range n.toNat).map fun (i : Nat) => V.int (i : Int))))) : kRg1 Q (.int n) H :=
  ⟨n, rfl, ⟨by omega, by omega, by omega, by omega, by omega⟩, fun p hp => by
    have e : rgV 0 n = (List.range n.toNat).map fun (i : Nat) => V.int (i : Int) := by
      unfold rgV
      rw [Int.sub_zero]
      simp only [Int.zero_add]
    rw [e]
    exact q p hp (Ex.new hp)⟩
/-- xs[i] = e of a list -/
theorem d_set {g : TE} {gi : TE} {v : V} {Rr : L2.St → Hp → Prop} (q : g σ H fun o H1 => gi σ H1 fun i H2 => rSetL o i v H2 fun H3 => Rr σ H3) : gSub g gi rSetL v σ H Rr := q
theorem k_set {i : Int} {j : Nat} {v : V} {Rr : Hp → Prop} (h : H a = some (.lst xs)) (hi : i = (j : Int)) (hj : j < xs.length) (q : Rr (upd H a (.lst (xs.set j v)))) : rSetL (.ref a) (.int i) v H Rr := by
  subst hi
  exact ⟨a, xs, (j : Int), j, rfl, rfl, h, ixN_nat hj, q⟩
/-- xs.append(e) -/
def kBM (K : PySem.W.Frag) (T : String) (r : V → List V → Hp → VK → Prop) (t : Hp → (List V → Hp → Prop) → Prop) (Q : VK) : VK := fun x H1 => tyV K T x H1 ∧ t H1 fun xs H2 => r x xs H2 Q
theorem d_bm {T : String} {r : V → List V → Hp → VK → Prop} {to : TE} {t : TA} (q : to σ H (kBM K T r (t σ) Q)) : tBM K T r to t σ H Q := q
theorem k_bmL {r : V → List V → Hp → VK → Prop} {t : Hp → (List V → Hp → Prop) → Prop} (h : SqL K H a xs) (q : t H fun ys H2 => r (.ref a) ys H2 Q) : kBM K "list" r t Q (.ref a) H := ⟨.inl ⟨rfl, _, h⟩, q⟩
theorem k_append {v : V} (h : H a = some (.lst xs)) (hz : xs.length < 100000) (q : Q .non (upd H a (.lst (xs ++ [v])))) : rAppend (.ref a) [v] H Q := ⟨a, xs, v, rfl, rfl, h, Nat.lt_of_lt_of_le hz (by decide), q⟩
/-- what stands besides a changed list -/
theorem upd_keep {o : HO} {b : Addr} {u : HO} (h : H b = some u) (ne : b ≠ a) : upd H a o b = some u := by rw [upd_ne ne]; exact h
theorem atI_of {α : Type} {zs : List α} {i : Int} {j : Nat} {v : α} (e : i = (j : Int)) (h : zs[j]? = some v) : atI zs i = some v := by
  subst e
  exact atI_nat h
end
end Tb
end
section
/-! plain mathematics: primes by their divisors, inverses modulo a prime -/
namespace Md
/-- a prime up to a million, by its divisors up to the root -/
def IsPr (n : Int) : Prop := 2 ≤ n ∧ n ≤ 1000000 ∧ ∀ d : Int, 2 ≤ d → d * d ≤ n → n % d ≠ 0
theorem IsPr.pos {p : Int} (h : IsPr p) : 0 < p := by have := h.1; omega
theorem IsPr.ndvd {p v : Int} (h : IsPr p) (h2 : 2 ≤ v) (hv : v < p) : p % v ≠ 0 := by
  intro e
  have hd : v * (p / v) = p := by
    have := Int.mul_ediv_add_emod p v
    omega
  have h1 : 1 < p / v := by
    refine Int.not_le.mp fun z => ?_
    have := Int.mul_le_mul_of_nonneg_left z (show (0 : Int) ≤ v by omega)
    omega
  by_cases c : v * v ≤ p
  · exact h.2.2 v h2 c e
  · have c2 : p / v * (p / v) ≤ p := by
      have l1 : p / v < v := by
        refine Int.not_le.mp fun z => ?_
        have := Int.mul_le_mul_of_nonneg_left z (show (0 : Int) ≤ v by omega)
        omega
      have := Int.mul_le_mul_of_nonneg_right (show p / v ≤ v by omega) (show (0 : Int) ≤ p / v by omega)
      omega
    refine h.2.2 (p / v) (by omega) c2 ?_
    have e2 : p = p / v * v := by rw [Int.mul_comm]; exact hd.symm
    exact Int.emod_eq_zero_of_dvd ⟨v, e2⟩
/-- each value that is not 0 has an inverse -/
theorem IsPr.inv {p : Int} (h : IsPr p) : ∀ (n : Nat) (v : Int), v.toNat = n → 0 < v → v < p → ∃ x : Int, p ∣ v * x - 1 := by
  intro n
  induction n using Nat.strongRecOn with
  | _ n ih =>
    intro v hn h0 hv
    by_cases h1 : v = 1
    · exact ⟨1, by subst h1; simp⟩
    · have hr : p % v ≠ 0 := h.ndvd (by omega) hv
      have hr0 := Int.emod_nonneg p (show v ≠ 0 by omega)
      have hr1 := Int.emod_lt_of_pos p h0
      obtain ⟨x, k, hk⟩ := ih (p % v).toNat (by omega) (p % v) rfl (by omega) (by omega)
      have hd := Int.mul_ediv_add_emod p v
      refine ⟨-(p / v) * x, k - x, ?_⟩
      have e : p % v = p - v * (p / v) := by omega
      rw [e] at hk
      have l : (p - v * (p / v)) * x = p * x - v * (p / v) * x := Int.sub_mul _ _ _
      have r : p * (k - x) = p * k - p * x := Int.mul_sub _ _ _
      have g : v * (-(p / v) * x) = -(v * (p / v) * x) := by
        rw [Int.neg_mul, Int.mul_neg, Int.mul_assoc]
      rw [r, g]
      omega
theorem IsPr.inv' {p v : Int} (h : IsPr p) (h0 : 0 < v) (hv : v < p) : ∃ x : Int, p ∣ v * x - 1 := h.inv _ v rfl h0 hv
theorem IsPr.inv_of {p v : Int} (h : IsPr p) (h0 : ¬ p ∣ v) : ∃ x : Int, p ∣ v * x - 1 := by
  have hp := h.pos
  have h1 := Int.emod_nonneg v (show p ≠ 0 by omega)
  have h2 := Int.emod_lt_of_pos v hp
  have h3 : v % p ≠ 0 := fun z => h0 (Int.dvd_of_emod_eq_zero z)
  obtain ⟨x, hx⟩ := h.inv' (v := v % p) (by omega) h2
  refine ⟨x, ?_⟩
  have e : v * x - 1 = (v % p * x - 1) + p * (v / p * x) := by
    have := Int.mul_ediv_add_emod v p
    have e2 : v * x = (p * (v / p) + v % p) * x := by rw [this]
    rw [e2, Int.add_mul, Int.mul_assoc]
    omega
  rw [e]
  exact Int.dvd_add hx ⟨_, rfl⟩
/-- no divisors of nought -/
theorem IsPr.or_dvd {p a b : Int} (h : IsPr p) (hd : p ∣ a * b) : p ∣ a ∨ p ∣ b := by
  by_cases ha : p ∣ a
  · exact .inl ha
  · obtain ⟨x, hx⟩ := h.inv_of ha
    refine .inr ?_
    have e : b = x * (a * b) - (a * x - 1) * b := by
      rw [Int.sub_mul, Int.one_mul, ← Int.mul_assoc, Int.mul_comm x a]
      omega
    rw [e]
    exact Int.dvd_sub (Int.dvd_mul_of_dvd_right hd) (Int.dvd_mul_of_dvd_left hx)
/-- no common divisor but units -/
def Cop (a b : Int) : Prop := ∀ d : Int, d ∣ a → d ∣ b → d ∣ 1
theorem IsPr.cop {p v : Int} (h : IsPr p) (h0 : ¬ p ∣ v) : Cop p v := by
  obtain ⟨x, hx⟩ := h.inv_of h0
  intro d h1 h2
  have e : (1 : Int) = v * x - (v * x - 1) := by omega
  rw [e]
  exact Int.dvd_sub (Int.dvd_mul_of_dvd_left h2) (Int.dvd_trans h1 hx)
theorem cop_step {a b k : Int} (h : Cop a b) : Cop b (a - k * b) := fun d h1 h2 => h d (by
  have e : a = (a - k * b) + k * b := by omega
  rw [e]
  exact Int.dvd_add h2 (Int.dvd_mul_of_dvd_right h1)) h1
theorem cop_end {a : Int} (h : Cop a 0) (h0 : 0 < a) : a = 1 := by
  have := h a (Int.dvd_refl a) ⟨0, by simp⟩
  exact Int.eq_one_of_dvd_one (by omega) this
theorem euclid_step {p v a b s t k : Int} (h1 : p ∣ s * v - a) (h2 : p ∣ t * v - b) : p ∣ (s - k * t) * v - (a - k * b) := by
  have e : (s - k * t) * v - (a - k * b) = (s * v - a) - k * (t * v - b) := by
    rw [Int.sub_mul, Int.mul_sub, Int.mul_assoc]
    omega
  rw [e]
  exact Int.dvd_sub h1 (Int.dvd_mul_of_dvd_right h2)
/-- x is the inverse of v -/
def Inv (p v x : Int) : Prop := 0 ≤ x ∧ x < p ∧ p ∣ v * x - 1
theorem inv_emod {p v x : Int} (hp : 0 < p) (h : p ∣ x * v - 1) : Inv p v (x % p) := by
  refine ⟨Int.emod_nonneg _ (by omega), Int.emod_lt_of_pos _ hp, ?_⟩
  have e : v * (x % p) - 1 = (x * v - 1) - p * (x / p * v) := by
    have := Int.mul_ediv_add_emod x p
    have e2 : x * v = (p * (x / p) + x % p) * v := by rw [this]
    rw [e2, Int.add_mul, Int.mul_assoc, Int.mul_comm v]
    omega
  rw [e]
  exact Int.dvd_sub h ⟨_, rfl⟩
theorem prime_by {n : Int} (r : Nat) (h2 : 2 ≤ n) (hm : n ≤ 1000000) (hr : n < ((r : Int) + 1) * ((r : Int) + 1)) (h : (List.range (r + 1)).all (fun d => d < 2 || n % (d : Int) != 0) = true) : IsPr n := by
  refine ⟨h2, hm, fun d h1 h3 => ?_⟩
  have hd : d ≤ r := Int.not_lt.mp fun z => by
    have := Int.mul_le_mul (show (r : Int) + 1 ≤ d by omega) (show (r : Int) + 1 ≤ d by omega) (by omega) (by omega)
    omega
  have q := List.all_eq_true.mp h d.toNat (List.mem_range.mpr (by omega))
  simp only [Bool.or_eq_true, decide_eq_true_eq, bne_iff_ne] at q
  rcases q with q | q
  · omega
  · rw [show ((d.toNat : Nat) : Int) = d by omega] at q
    exact q
theorem pr_7 : IsPr 7 := prime_by 2 (by decide) (by decide) (by decide) (by decide +kernel)
theorem pr_31 : IsPr 31 := prime_by 5 (by decide) (by decide) (by decide) (by decide +kernel)
theorem pr_101 : IsPr 101 := prime_by 10 (by decide) (by decide) (by decide) (by decide +kernel)
theorem pr_10007 : IsPr 10007 := prime_by 100 (by decide) (by decide) (by decide) (by decide +kernel)
theorem pr_999983 : IsPr 999983 := prime_by 999 (by decide) (by decide) (by decide) (by decide +kernel)
end Md
end
section
/-! plain mathematics: sums, rows of values, products, what polynomials do to sequences -/
namespace Md
/-! ## sums -/
def sm : Nat → (Nat → Int) → Int
  | 0, _ => 0
  | n + 1, f => sm n f + f n
theorem sm_congr {n : Nat} {f g : Nat → Int} (h : ∀ i, i < n → f i = g i) : sm n f = sm n g := by
  induction n with
  | zero => rfl
  | succ n ih => rw [sm, sm, ih fun i hi => h i (by omega), h n (by omega)]
theorem sm_zero {n : Nat} {f : Nat → Int} (h : ∀ i, i < n → f i = 0) : sm n f = 0 := by
  induction n with
  | zero => rfl
  | succ n ih =>
    rw [sm, ih fun i hi => h i (by omega), h n (by omega)]
    rfl
theorem sm_add (n : Nat) (f g : Nat → Int) : sm n (fun i => f i + g i) = sm n f + sm n g := by
  induction n with
  | zero => rfl
  | succ n ih =>
    rw [sm, sm, sm, ih]
    omega
theorem sm_sub (n : Nat) (f g : Nat → Int) : sm n (fun i => f i - g i) = sm n f - sm n g := by
  induction n with
  | zero => rfl
  | succ n ih =>
    rw [sm, sm, sm, ih]
    omega
theorem sm_mul (n : Nat) (c : Int) (f : Nat → Int) : sm n (fun i => c * f i) = c * sm n f := by
  induction n with
  | zero => rw [sm, sm, Int.mul_zero]
  | succ n ih => rw [sm, sm, ih, Int.mul_add]
theorem sm_mulr (n : Nat) (c : Int) (f : Nat → Int) : sm n (fun i => f i * c) = sm n f * c := by
  induction n with
  | zero => rw [sm, sm, Int.zero_mul]
  | succ n ih => rw [sm, sm, ih, Int.add_mul]
theorem sm_dvd {p : Int} {n : Nat} {f : Nat → Int} (h : ∀ i, i < n → p ∣ f i) : p ∣ sm n f := by
  induction n with
  | zero => exact ⟨0, by rw [sm, Int.mul_zero]⟩
  | succ n ih => exact Int.dvd_add (ih fun i hi => h i (by omega)) (h n (by omega))
theorem sm_ext {n m : Nat} {f : Nat → Int} (hnm : n ≤ m) (h : ∀ i, n ≤ i → i < m → f i = 0) : sm m f = sm n f := by
  induction m with
  | zero =>
    obtain rfl : n = 0 := by omega
    rfl
  | succ m ih =>
    by_cases e : n = m + 1
    · subst e
      rfl
    · rw [sm, ih (by omega) fun i h1 h2 => h i h1 (by omega), h m (by omega) (by omega), Int.add_zero]
theorem sm_comm (n m : Nat) (f : Nat → Nat → Int) : sm n (fun i => sm m (f i)) = sm m (fun j => sm n fun i => f i j) := by
  induction n with
  | zero =>
    rw [sm]
    exact (sm_zero fun i _ => rfl).symm
  | succ n ih =>
    rw [sm, ih, ← sm_add]
    rfl
theorem sm_from {N i : Nat} (h : Nat → Int) (hi : i ≤ N) : sm N (fun k => if i ≤ k then h (k - i) else 0) = sm (N - i) h := by
  induction N with
  | zero =>
    obtain rfl : i = 0 := by omega
    rfl
  | succ N ih =>
    by_cases e : i = N + 1
    · subst e
      rw [Nat.sub_self, sm]
      exact sm_zero fun k hk => if_neg (by omega)
    · rw [sm, ih (by omega), if_pos (by omega), show N + 1 - i = (N - i) + 1 by omega, sm]
theorem sm_head (n : Nat) (f : Nat → Int) : sm (n + 1) f = f 0 + sm n fun i => f (i + 1) := by
  induction n with
  | zero =>
    rw [sm, sm, sm]
    omega
  | succ n ih =>
    rw [sm, ih, sm]
    omega
theorem sm_one (f : Nat → Int) : sm 1 f = f 0 := by rw [sm, sm, Int.zero_add]
theorem sm_single {n j : Nat} {f : Nat → Int} (hj : j < n) (h : ∀ i, i < n → i ≠ j → f i = 0) : sm n f = f j := by
  rw [sm_ext (n := j + 1) (by omega) fun i h1 h2 => h i h2 (by omega), sm, sm_zero fun i hi => h i (by omega) (by omega), Int.zero_add]
/-- the same modulo p -/
def Eqm (p a b : Int) : Prop := p ∣ a - b
theorem Eqm.refl {p : Int} (a : Int) : Eqm p a a := ⟨0, by rw [Int.sub_self, Int.mul_zero]⟩
theorem Eqm.of {p a b : Int} (h : a = b) : Eqm p a b := h ▸ Eqm.refl a
theorem Eqm.symm {p a b : Int} (h : Eqm p a b) : Eqm p b a := by
  obtain ⟨k, hk⟩ := h
  exact ⟨-k, by rw [Int.mul_neg]; omega⟩
theorem Eqm.trans {p a b c : Int} (h : Eqm p a b) (h' : Eqm p b c) : Eqm p a c := by
  have := Int.dvd_add h h'
  rwa [show a - b + (b - c) = a - c by omega] at this
theorem Eqm.add {p a b c d : Int} (h : Eqm p a b) (h' : Eqm p c d) : Eqm p (a + c) (b + d) := by
  have := Int.dvd_add h h'
  rwa [show a - b + (c - d) = a + c - (b + d) by omega] at this
theorem Eqm.sub {p a b c d : Int} (h : Eqm p a b) (h' : Eqm p c d) : Eqm p (a - c) (b - d) := by
  have := Int.dvd_sub h h'
  rwa [show a - b - (c - d) = a - c - (b - d) by omega] at this
theorem Eqm.mul {p a b c d : Int} (h : Eqm p a b) (h' : Eqm p c d) : Eqm p (a * c) (b * d) := by
  have e : a * c - b * d = (a - b) * c + b * (c - d) := by
    rw [Int.sub_mul, Int.mul_sub]
    omega
  show p ∣ a * c - b * d
  rw [e]
  exact Int.dvd_add (Int.dvd_mul_of_dvd_left h) (Int.dvd_mul_of_dvd_right h')
theorem Eqm.neg {p a b : Int} (h : Eqm p a b) : Eqm p (-a) (-b) := by
  have := (Eqm.refl (p := p) 0).sub h
  rwa [Int.zero_sub, Int.zero_sub] at this
theorem Eqm.mod {p : Int} (a : Int) : Eqm p (a % p) a := by
  have := Int.mul_ediv_add_emod a p
  exact ⟨-(a / p), by rw [Int.mul_neg]; omega⟩
theorem Eqm.mod' {p : Int} (a : Int) : Eqm p a (a % p) := (Eqm.mod a).symm
theorem Eqm.eq {p a b : Int} (h : Eqm p a b) (ha : 0 ≤ a ∧ a < p) (hb : 0 ≤ b ∧ b < p) : a = b := by
  have h1 := Int.emod_emod_of_dvd (a - b) (Int.dvd_refl p)
  have h2 : (a - b) % p = 0 := Int.emod_eq_zero_of_dvd h
  have h3 := Int.emod_eq_emod_iff_emod_sub_eq_zero.mpr h2
  rw [Int.emod_eq_of_lt ha.1 ha.2, Int.emod_eq_of_lt hb.1 hb.2] at h3
  exact h3
theorem Eqm.emod {p a b : Int} (h : Eqm p a b) : a % p = b % p := Int.emod_eq_emod_iff_emod_sub_eq_zero.mpr (Int.emod_eq_zero_of_dvd h)
theorem Eqm.of_emod {p a b : Int} (h : a % p = b % p) : Eqm p a b := Int.dvd_of_emod_eq_zero (Int.emod_eq_emod_iff_emod_sub_eq_zero.mp h)
theorem Eqm.zero {p a : Int} (h : Eqm p a 0) : p ∣ a := by rwa [Eqm, Int.sub_zero] at h
theorem Eqm.to0 {p a : Int} (h : p ∣ a) : Eqm p a 0 := by rwa [Eqm, Int.sub_zero]
theorem Eqm.sm {p : Int} {n : Nat} {f g : Nat → Int} (h : ∀ i, i < n → Eqm p (f i) (g i)) : Eqm p (sm n f) (sm n g) := by
  show p ∣ Md.sm n f - Md.sm n g
  rw [← sm_sub]
  exact sm_dvd h
theorem emod_lt {p : Int} (hp : 0 < p) (a : Int) : 0 ≤ a % p ∧ a % p < p := ⟨Int.emod_nonneg _ (by omega), Int.emod_lt_of_pos _ hp⟩
/-! ## rows of values -/
def cf (xs : List Int) (k : Nat) : Int := xs.getD k 0
def Vl (p : Int) (xs : List Int) : Prop := ∀ x ∈ xs, 0 ≤ x ∧ x < p
def Tr (xs : List Int) : Prop := xs.getLast? ≠ some 0
theorem cf_lt {xs : List Int} {k : Nat} (h : k < xs.length) : xs[k]? = some (cf xs k) := by
  rw [cf, List.getD_eq_getElem?_getD, List.getElem?_eq_getElem h]
  rfl
theorem cf_ge {xs : List Int} {k : Nat} (h : xs.length ≤ k) : cf xs k = 0 := by
  rw [cf, List.getD_eq_getElem?_getD, List.getElem?_eq_none h]
  rfl
theorem cf_of {xs : List Int} {k : Nat} {v : Int} (h : xs[k]? = some v) : cf xs k = v := by
  rw [cf, List.getD_eq_getElem?_getD, h]
  rfl
theorem Vl.cf {p : Int} {xs : List Int} (h : Vl p xs) (hp : 0 < p) (k : Nat) : 0 ≤ cf xs k ∧ cf xs k < p := by
  by_cases hk : k < xs.length
  · exact h _ (List.mem_of_getElem? (cf_lt hk))
  · rw [cf_ge (by omega)]
    omega
theorem cf_map {n k : Nat} (f : Nat → Int) (h : k < n) : cf ((List.range n).map f) k = f k := by
  apply cf_of
  rw [List.getElem?_map, List.getElem?_range h]
  rfl
theorem cf_map_ge {n k : Nat} (f : Nat → Int) (h : n ≤ k) : cf ((List.range n).map f) k = 0 := cf_ge (by simp [h])
theorem list_cf (xs : List Int) : xs = (List.range xs.length).map (cf xs) := by
  apply List.ext_getElem?
  intro k
  by_cases h : k < xs.length
  · rw [cf_lt h, List.getElem?_map, List.getElem?_range h]
    rfl
  · rw [List.getElem?_eq_none (by omega), List.getElem?_eq_none (by simp; omega)]
theorem map_set {n j : Nat} (f : Nat → Int) (v : Int) : ((List.range n).map f).set j v = (List.range n).map fun k => if k = j then v else f k := by
  apply List.ext_getElem?
  intro k
  rw [List.getElem?_set]
  by_cases h : k < n
  · by_cases e : j = k
    · subst e
      rw [if_pos rfl, if_pos (by simpa using h), List.getElem?_map, List.getElem?_range h]
      simp
    · rw [if_neg e, List.getElem?_map, List.getElem?_map, List.getElem?_range h]
      simp [Ne.symm e]
  · by_cases e : j = k
    · subst e
      rw [if_pos rfl, if_neg (by simpa using h), List.getElem?_eq_none (by simp; omega)]
    · rw [if_neg e, List.getElem?_eq_none (by simp; omega), List.getElem?_eq_none (by simp; omega)]
theorem Vl.map {p : Int} {n : Nat} {f : Nat → Int} (h : ∀ k, k < n → 0 ≤ f k ∧ f k < p) : Vl p ((List.range n).map f) := fun x hx => by
  obtain ⟨k, hk, rfl⟩ := List.mem_map.mp hx
  exact h k (List.mem_range.mp hk)
/-- without the noughts at the end -/
def cut : List Int → List Int
  | [] => []
  | x :: r => if cut r = [] ∧ x = 0 then [] else x :: cut r
theorem cut_cf : ∀ (xs : List Int) (k : Nat), cf (cut xs) k = cf xs k
  | [], k => rfl
  | x :: r, k => by
    rw [cut]
    split
    · rename_i h
      cases k with
      | zero => exact h.2.symm
      | succ k =>
        have := cut_cf r k
        rw [h.1] at this
        exact this
    · cases k with
      | zero => rfl
      | succ k => exact cut_cf r k
theorem cut_tr : ∀ xs : List Int, Tr (cut xs)
  | [] => by simp [cut, Tr]
  | x :: r => by
    rw [cut]
    split
    · simp [Tr]
    · rename_i h
      have ih := cut_tr r
      cases e : cut r with
      | nil =>
        have : x ≠ 0 := fun z => h ⟨e, z⟩
        simpa [Tr] using this
      | cons y s =>
        rw [e] at ih
        rw [Tr, List.getLast?_cons_cons]
        exact ih
theorem cut_len : ∀ xs : List Int, (cut xs).length ≤ xs.length
  | [] => Nat.le_refl _
  | x :: r => by
    have := cut_len r
    rw [cut]
    split
    · exact Nat.zero_le _
    · rw [List.length_cons, List.length_cons]
      omega
theorem cut_id : ∀ {xs : List Int}, Tr xs → cut xs = xs
  | [], _ => rfl
  | [x], h => by
    have : x ≠ 0 := by simpa [Tr] using h
    simp [cut, this]
  | x :: y :: r, h => by
    have ih := cut_id (xs := y :: r) (by rw [Tr, List.getLast?_cons_cons] at h; exact h)
    rw [cut, ih]
    simp
theorem cut_app0 : ∀ xs : List Int, cut (xs ++ [0]) = cut xs
  | [] => by simp [cut]
  | x :: r => by rw [List.cons_append, cut, cut_app0 r, cut]
theorem cut_take {xs : List Int} : ∀ (m : Nat), m ≤ xs.length → (∀ k, m ≤ k → cf xs k = 0) → cut (xs.take m) = cut xs := by
  have key : ∀ d m, m + d = xs.length → (∀ k, m ≤ k → cf xs k = 0) → cut (xs.take m) = cut xs := by
    intro d
    induction d with
    | zero => intro m hm _; rw [List.take_of_length_le (by omega)]
    | succ d ih =>
      intro m hm h
      rw [← ih (m + 1) (by omega) fun k hk => h k (by omega), List.take_add_one, cf_lt (by omega), h m (Nat.le_refl m)]
      exact (cut_app0 _).symm
  exact fun m hm h => key (xs.length - m) m (by omega) h
theorem tr_last {xs : List Int} (h : Tr xs) (hne : xs ≠ []) : cf xs (xs.length - 1) ≠ 0 := by
  intro e
  apply h
  rw [List.getLast?_eq_getElem?, cf_lt (by have := List.length_pos_iff.mpr hne; omega), e]
theorem tr_of_last {xs : List Int} (h : xs ≠ [] → cf xs (xs.length - 1) ≠ 0) : Tr xs := by
  intro e
  have hne : xs ≠ [] := by
    rintro rfl
    simp at e
  apply h hne
  rw [List.getLast?_eq_getElem?] at e
  exact cf_of e
/-- trimmed rows are told by their values -/
theorem tr_eq {xs ys : List Int} (h1 : Tr xs) (h2 : Tr ys) (h : ∀ k, cf xs k = cf ys k) : xs = ys := by
  have len : ∀ {xs ys : List Int}, Tr xs → (∀ k, cf xs k = cf ys k) → xs.length ≤ ys.length := fun {xs ys} h1 h => by
    refine Nat.not_lt.mp fun z => ?_
    have hne : xs ≠ [] := by
      rintro rfl
      simp at z
    exact tr_last h1 hne (by rw [h, cf_ge (by omega)])
  have l : xs.length = ys.length := Nat.le_antisymm (len h1 h) (len h2 fun k => (h k).symm)
  rw [list_cf xs, list_cf ys, l]
  exact List.map_congr_left fun k _ => h k
theorem cut_vl {p : Int} {xs : List Int} (h : Vl p xs) : Vl p (cut xs) := by
  have sub : ∀ xs : List Int, ∀ x ∈ cut xs, x ∈ xs := by
    intro xs
    induction xs with
    | nil => intro x hx; exact hx
    | cons y r ih =>
      intro x hx
      rw [cut] at hx
      split at hx
      · cases hx
      · rcases List.mem_cons.mp hx with e | e
        · exact e ▸ List.mem_cons_self
        · exact List.mem_cons_of_mem _ (ih x e)
  exact fun x hx => h x (sub xs x hx)
theorem cut_len_le {xs : List Int} {n : Nat} (h : ∀ k, n ≤ k → cf xs k = 0) : (cut xs).length ≤ n := by
  refine Nat.not_lt.mp fun z => ?_
  have hne : cut xs ≠ [] := by
    intro e
    rw [e] at z
    simp at z
  exact tr_last (cut_tr xs) hne (by rw [cut_cf]; exact h _ (by omega))
/-! ## products -/
/-- the k-th value of the product of f, n values long, and g -/
def pc (n : Nat) (f g : Nat → Int) (k : Nat) : Int := sm n fun a => if a ≤ k then f a * g (k - a) else 0
theorem pc_succ (n : Nat) (f g : Nat → Int) (k : Nat) : pc (n + 1) f g k = pc n f g k + (if n ≤ k then f n * g (k - n) else 0) := rfl
/-- what a polynomial does to a sequence -/
def act (n : Nat) (f : Nat → Int) (u : Nat → Int) (m : Nat) : Int := sm n fun k => f k * u (m + k)
theorem act_pc {n l N : Nat} {f g : Nat → Int} (u : Nat → Int) (m : Nat) (hg : ∀ k, l ≤ k → g k = 0) (hN : n + l ≤ N) : act N (pc n f g) u m = act n f (act l g u) m := by
  unfold act
  have h1 : ∀ k, k < N → pc n f g k * u (m + k) = sm n fun a => f a * (if a ≤ k then g (k - a) * u (m + a + (k - a)) else 0) := fun k _ => by
    rw [pc, ← sm_mulr]
    refine sm_congr fun a _ => ?_
    by_cases h : a ≤ k
    · rw [if_pos h, if_pos h, show m + a + (k - a) = m + k by omega, Int.mul_assoc]
    · rw [if_neg h, if_neg h, Int.zero_mul, Int.mul_zero]
  rw [sm_congr h1, sm_comm]
  refine sm_congr fun a ha => ?_
  rw [sm_mul, sm_from (fun j => g j * u (m + a + j)) (by omega)]
  congr 1
  exact sm_ext (by omega) fun j h1 _ => by rw [hg j h1, Int.zero_mul]
theorem act_ext {n N : Nat} {f : Nat → Int} (u : Nat → Int) (m : Nat) (h : ∀ k, n ≤ k → f k = 0) (hN : n ≤ N) : act N f u m = act n f u m := sm_ext hN fun k h1 _ => by rw [h k h1, Int.zero_mul]
theorem act_congr {n : Nat} {f g : Nat → Int} {u v : Nat → Int} {m : Nat} {p : Int} (hf : ∀ k, k < n → Eqm p (f k) (g k)) (hu : ∀ k, Eqm p (u k) (v k)) : Eqm p (act n f u m) (act n g v m) := Eqm.sm fun k hk => (hf k hk).mul (hu _)
theorem act_add (n : Nat) (f g u : Nat → Int) (m : Nat) : act n (fun k => f k + g k) u m = act n f u m + act n g u m := by
  unfold act
  rw [← sm_add]
  exact sm_congr fun k _ => Int.add_mul _ _ _
/-- a row's own doing -/
def doing (xs : List Int) (u : Nat → Int) (m : Nat) : Int := act xs.length (cf xs) u m
theorem doing_ge {xs : List Int} {n : Nat} (u : Nat → Int) (m : Nat) (h : xs.length ≤ n) : act n (cf xs) u m = doing xs u m := act_ext u m (fun k hk => cf_ge hk) h
theorem doing_cut (xs : List Int) (u : Nat → Int) (m : Nat) : doing (cut xs) u m = doing xs u m := by
  rw [← doing_ge (n := xs.length) u m (cut_len xs)]
  exact sm_congr fun k _ => by rw [cut_cf]
theorem doing_congr {xs : List Int} {u v : Nat → Int} {m : Nat} {p : Int} (hu : ∀ k, Eqm p (u k) (v k)) : Eqm p (doing xs u m) (doing xs v m) := act_congr (fun k _ => Eqm.refl _) hu
/-- the product of polynomials, as it is reckoned -/
def prodP (p : Int) (xs ys : List Int) : List Int := cut ((List.range (xs.length + ys.length)).map fun k => pc xs.length (cf xs) (cf ys) k % p)
theorem doing_prod (p : Int) (xs ys : List Int) (u : Nat → Int) (m : Nat) : Eqm p (doing (prodP p xs ys) u m) (doing xs (doing ys u) m) := by
  unfold prodP
  rw [doing_cut]
  have h1 : doing ((List.range (xs.length + ys.length)).map fun k => pc xs.length (cf xs) (cf ys) k % p) u m = act (xs.length + ys.length) (fun k => pc xs.length (cf xs) (cf ys) k % p) u m := by
    unfold doing act
    rw [List.length_map, List.length_range]
    exact sm_congr fun k hk => by rw [cf_map _ hk]
  rw [h1]
  refine (act_congr (g := pc xs.length (cf xs) (cf ys)) (fun k _ => Eqm.mod _) fun k => Eqm.refl _).trans (.of ?_)
  rw [act_pc (l := ys.length) u m (fun k hk => cf_ge hk) (Nat.le_refl _)]
  rfl
theorem prodP_vl {p : Int} (hp : 0 < p) (xs ys : List Int) : Vl p (prodP p xs ys) := cut_vl (Vl.map fun k _ => emod_lt hp _)
theorem prodP_tr {p : Int} (xs ys : List Int) : Tr (prodP p xs ys) := cut_tr _
theorem prodP_len {p : Int} (xs ys : List Int) : (prodP p xs ys).length ≤ xs.length + ys.length := by
  have := cut_len ((List.range (xs.length + ys.length)).map fun k => pc xs.length (cf xs) (cf ys) k % p)
  rwa [List.length_map, List.length_range] at this
/-! ## quotient and rest -/
structure OverOk (p : Int) (one other q r : List Int) : Prop where
  qv : Vl p q
  qt : Tr q
  rv : Vl p r
  rt : Tr r
  rl : r.length < other.length
  eq : ∀ k, Eqm p (cf one k) (pc q.length (cf q) (cf other) k + cf r k)
theorem OverOk.doing {p : Int} {one other q r : List Int} (h : OverOk p one other q r) (u : Nat → Int) (m : Nat) : Eqm p (doing one u m) (doing q (doing other u) m + doing r u m) := by
  have hN : ∃ N, one.length ≤ N ∧ q.length + other.length ≤ N ∧ r.length ≤ N := ⟨one.length + (q.length + other.length) + r.length, by omega, by omega, by omega⟩
  obtain ⟨N, h1, h2, h3⟩ := hN
  rw [← doing_ge u m h1, ← doing_ge u m h3]
  refine (act_congr (g := fun k => pc q.length (cf q) (cf other) k + cf r k) (fun k _ => h.eq k) fun k => Eqm.refl _).trans (.of ?_)
  rw [act_add, act_pc (l := other.length) u m (fun k hk => cf_ge hk) h2]
  rfl
/-- where other makes noughts, the rest does what one does -/
theorem OverOk.rest {p : Int} {one other q r : List Int} (h : OverOk p one other q r) {u : Nat → Int} (hu : ∀ m, Eqm p (Md.doing other u m) 0) (m : Nat) : Eqm p (Md.doing r u m) (Md.doing one u m) := by
  have h1 := h.doing u m
  have h2 : Eqm p (Md.doing q (Md.doing other u) m) 0 := by
    refine (doing_congr (v := fun _ => 0) hu).trans (.of ?_)
    exact sm_zero fun k _ => Int.mul_zero _
  have h3 := (h1.symm.sub h2)
  rwa [Int.sub_zero, show Md.doing q (Md.doing other u) m + Md.doing r u m - Md.doing q (Md.doing other u) m = Md.doing r u m by omega] at h3
def dotI (xs ys : List Int) : Int := (List.zipWith (· * ·) xs ys).sum
theorem sum_map_range (n : Nat) (f : Nat → Int) : ((List.range n).map f).sum = sm n f := by
  induction n with
  | zero => rfl
  | succ n ih =>
    rw [List.range_succ, List.map_append, List.sum_append, ih, sm]
    simp
theorem dotI_eq (xs ys : List Int) : dotI xs ys = sm (min xs.length ys.length) fun k => cf xs k * cf ys k := by
  rw [← sum_map_range, dotI]
  congr 1
  apply List.ext_getElem?
  intro k
  rw [List.getElem?_zipWith]
  by_cases h : k < min xs.length ys.length
  · rw [cf_lt (by omega), cf_lt (xs := ys) (by omega), List.getElem?_map, List.getElem?_range h]
    rfl
  · rw [List.getElem?_eq_none (l := List.map _ _) (by simp; omega)]
    by_cases h1 : k < xs.length
    · rw [cf_lt h1, List.getElem?_eq_none (l := ys) (by omega)]
    · rw [List.getElem?_eq_none (l := xs) (by omega)]
end Md
end
section
namespace Tb
open PySem PySem.Spec PyProof.Rows L2 Evl Md
theorem int_at {xs : List Int} {i : Nat} {x : V} (h : (xs.map V.int)[i]? = some x) : x = .int (cf xs i) ∧ i < xs.length := by
  rw [List.getElem?_map] at h
  cases e : xs[i]? with
  | none =>
    rw [e] at h
    cases h
  | some v =>
    rw [e] at h
    have hl := (List.getElem?_eq_some_iff.mp e).1
    refine ⟨?_, hl⟩
    rw [cf_of e]
    exact (Option.some.inj h).symm
theorem at_int {xs : List Int} {i : Nat} (h : i < xs.length) : (xs.map V.int)[i]? = some (.int (cf xs i)) := by
  rw [List.getElem?_map, cf_lt h]
  rfl
/-- xs[i] -/
theorem ati {xs : List Int} {i : Int} {j : Nat} (e : i = (j : Int)) (h : j < xs.length) : atI (xs.map V.int) i = some (.int (cf xs j)) := atI_of e (at_int h)
/-- xs[-1] -/
theorem ati_last {xs : List Int} (h : xs ≠ []) : atI (xs.map V.int) (-1) = some (.int (cf xs (xs.length - 1))) := by
  have hl := List.length_pos_iff.mpr h
  unfold atI ixN
  rw [if_neg (by omega), if_pos (by rw [List.length_map]; omega)]
  show (xs.map V.int)[((-1 : Int) + ((xs.map V.int).length : Int)).toNat]? = _
  rw [List.length_map, show ((-1 : Int) + (xs.length : Int)).toNat = xs.length - 1 by omega]
  exact at_int (by omega)
theorem map_ints (n : Nat) (f : Nat → Int) : (List.range n).map (fun i => V.int (f i)) = ((List.range n).map f).map V.int := by rw [List.map_map]; rfl
theorem map_bls (n : Nat) (f : Nat → Bool) : (List.range n).map (fun i => V.bl (f i)) = ((List.range n).map f).map V.bl := by rw [List.map_map]; rfl
theorem rep_ints (n : Nat) (z : Int) : (List.replicate n [V.int z]).flatten = ((List.range n).map fun _ => z).map V.int := by
  induction n with
  | zero => rfl
  | succ n ih =>
    rw [List.replicate_succ', List.flatten_append, ih, List.range_succ, List.map_append, List.map_append]
    rfl
theorem set_ints {n j : Nat} (f : Nat → Int) (v : Int) : (((List.range n).map f).map V.int).set j (.int v) = ((List.range n).map fun k => if k = j then v else f k).map V.int := by
  rw [← map_set, List.map_set]
theorem all_true {n : Nat} {f : Nat → Bool} (h : ∀ i, i < n → f i = true) : ((List.range n).map f).all id = true := by
  rw [List.all_eq_true]
  intro b hb
  obtain ⟨k, hk, rfl⟩ := List.mem_map.mp hb
  exact h k (List.mem_range.mp hk)
theorem cutV_to {xs : List V} {n : Nat} (h : n ≤ xs.length) : cutV xs none (some (n : Int)) = xs.take n := by
  unfold cutV
  rw [HT.sIx_none, HT.sIx_nat, List.drop_zero, Nat.sub_zero, Nat.min_eq_left h]
theorem cutV_to' {xs : List V} {i : Int} {n : Nat} (e : i = (n : Int)) : cutV xs none (some i) = xs.take n := by
  subst e
  unfold cutV
  rw [HT.sIx_none, HT.sIx_nat, List.drop_zero, Nat.sub_zero]
  by_cases h : n ≤ xs.length
  · rw [Nat.min_eq_left h]
  · rw [Nat.min_eq_right (by omega), List.take_length, List.take_of_length_le (by omega)]
theorem cutV_from {xs : List V} {i : Int} {n : Nat} (e : i = (n : Int)) : cutV xs (some i) none = xs.drop n := by
  subst e
  unfold cutV
  rw [HT.sIx_none, HT.sIx_nat]
  by_cases h : n ≤ xs.length
  · rw [Nat.min_eq_left h, List.take_of_length_le (by simp)]
  · rw [Nat.min_eq_right (by omega), List.drop_length, List.drop_of_length_le (by omega), List.take_nil]
theorem cutV_mid {xs : List V} {i k : Int} {n m : Nat} (e : i = (n : Int)) (e' : k = (m : Int)) : cutV xs (some i) (some k) = (xs.drop n).take (m - n) := by
  subst e e'
  unfold cutV
  rw [HT.sIx_nat, HT.sIx_nat]
  by_cases h : n ≤ xs.length
  · rw [Nat.min_eq_left h]
    by_cases h2 : m ≤ xs.length
    · rw [Nat.min_eq_left h2]
    · rw [Nat.min_eq_right (by omega), List.take_of_length_le (by simp), List.take_of_length_le (by simp; omega)]
  · rw [Nat.min_eq_right (a := n) (by omega), List.drop_length, List.take_nil, List.drop_of_length_le (by omega), List.take_nil]
theorem cutV_last {xs : List V} : cutV xs none (some (-1)) = xs.take (xs.length - 1) := by
  unfold cutV
  rw [HT.sIx_none, List.drop_zero, Nat.sub_zero]
  congr 1
  unfold HT.sIx
  simp
  omega
end Tb
end
section
/-! plain mathematics: how products and quotients are reckoned, turn by turn -/
namespace Md
theorem pc_ext {n m : Nat} {f g : Nat → Int} {k : Nat} (h : ∀ i, n ≤ i → f i = 0) (hnm : n ≤ m) : pc m f g k = pc n f g k := sm_ext hnm fun i h1 _ => by
  rw [h i h1, Int.zero_mul]
  split <;> rfl
theorem pc_congr {n : Nat} {f f' g : Nat → Int} {k : Nat} (h : ∀ i, i < n → f i = f' i) : pc n f g k = pc n f' g k := sm_congr fun i hi => by rw [h i hi]
/-! ## products -/
def pF (p : Int) (xs ys : List Int) (n i : Nat) : List Int := (List.range n).map fun k => pc i (cf xs) (cf ys) k % p
def pG (p : Int) (xs ys : List Int) (n i j : Nat) : List Int := (List.range n).map fun k => (pc i (cf xs) (cf ys) k + (if i ≤ k ∧ k - i < j then cf xs i * cf ys (k - i) else 0)) % p
theorem pF_len (p : Int) (xs ys : List Int) (n i : Nat) : (pF p xs ys n i).length = n := by simp [pF]
theorem pG_len (p : Int) (xs ys : List Int) (n i j : Nat) : (pG p xs ys n i j).length = n := by simp [pG]
theorem pF_zero (p : Int) (xs ys : List Int) (n : Nat) : pF p xs ys n 0 = (List.range n).map fun _ => 0 := List.map_congr_left fun k _ => by
  show sm 0 _ % p = 0
  rw [sm, Int.zero_emod]
theorem pG_zero (p : Int) (xs ys : List Int) (n i : Nat) : pG p xs ys n i 0 = pF p xs ys n i := List.map_congr_left fun k _ => by
  rw [if_neg (by omega), Int.add_zero]
theorem pG_end (p : Int) (xs ys : List Int) (n i : Nat) : pG p xs ys n i ys.length = pF p xs ys n (i + 1) := List.map_congr_left fun k _ => by
  rw [pc_succ]
  by_cases h : i ≤ k
  · by_cases h2 : k - i < ys.length
    · rw [if_pos ⟨h, h2⟩, if_pos h]
    · rw [if_neg (fun z => h2 z.2), if_pos h, cf_ge (xs := ys) (by omega), Int.mul_zero]
  · rw [if_neg (fun z => h z.1), if_neg h]
theorem pG_at {p : Int} {xs ys : List Int} {n i j : Nat} (h : i + j < n) : cf (pG p xs ys n i j) (i + j) = pc i (cf xs) (cf ys) (i + j) % p := by
  rw [pG, cf_map _ h, if_neg (by omega), Int.add_zero]
theorem pG_step {p : Int} {xs ys : List Int} {n i j : Nat} (h : i + j < n) : (pG p xs ys n i j).set (i + j) ((cf (pG p xs ys n i j) (i + j) + cf xs i * cf ys j) % p) = pG p xs ys n i (j + 1) := by
  rw [pG_at h]
  unfold pG
  rw [map_set]
  refine List.map_congr_left fun k _ => ?_
  by_cases e : k = i + j
  · subst e
    rw [if_pos rfl, if_pos (by omega), show i + j - i = j by omega, Int.emod_add_emod]
  · rw [if_neg e]
    by_cases c : i ≤ k ∧ k - i < j
    · rw [if_pos c, if_pos ⟨c.1, by omega⟩]
    · rw [if_neg c, if_neg fun z => c ⟨z.1, by omega⟩]
theorem prodP_eq (p : Int) (xs ys : List Int) : prodP p xs ys = cut (pF p xs ys (xs.length + ys.length) xs.length) := rfl
/-! ## quotients -/
/-- behind the turns down to t: q found, l left -/
structure Ov (p : Int) (one other : List Int) (m n t : Nat) (q l : Nat → Int) : Prop where
  lv : ∀ k, 0 ≤ l k ∧ l k < p
  l0 : ∀ k, n ≤ k → l k = 0
  ld : ∀ k, t + other.length ≤ k + 1 → l k = 0
  qv : ∀ k, 0 ≤ q k ∧ q k < p
  q0 : ∀ k, m ≤ k → q k = 0
  qt : ∀ k, k < t → q k = 0
  eq : ∀ k, Eqm p (cf one k) (pc m q (cf other) k + l k)
theorem Ov.start {p : Int} {one other : List Int} (hp : 0 < p) (hv : Vl p one) (ho : 0 < other.length) : Ov p one other (one.length + 1 - other.length) one.length (one.length + 1 - other.length) (fun _ => 0) (cf one) where
  lv := fun k => hv.cf hp k
  l0 := fun k hk => cf_ge hk
  ld := fun k hk => cf_ge (by omega)
  qv := fun k => ⟨Int.le_refl 0, hp⟩
  q0 := fun k _ => rfl
  qt := fun k _ => rfl
  eq := fun k => .of (by
    rw [pc, sm_zero fun i _ => by
      rw [Int.zero_mul]
      split <;> rfl, Int.zero_add])
/-- the rest behind j of the inner turns at a -/
def lJ (p : Int) (other : List Int) (l : Nat → Int) (fac : Int) (a j k : Nat) : Int := if a ≤ k ∧ k - a < j then (l k - fac * cf other (k - a)) % p else l k
theorem lJ_zero {p : Int} {other : List Int} {l : Nat → Int} {fac : Int} {a : Nat} : lJ p other l fac a 0 = l := by
  funext k
  rw [lJ, if_neg (by omega)]
theorem lJ_step {p : Int} {other : List Int} {l : Nat → Int} {fac : Int} {n a j : Nat} (h : a + j < n) :
    ((List.range n).map (lJ p other l fac a j)).set (a + j) ((cf ((List.range n).map (lJ p other l fac a j)) (a + j) - fac * cf other j) % p) = (List.range n).map (lJ p other l fac a (j + 1)) := by
  rw [cf_map _ h, map_set]
  refine List.map_congr_left fun k _ => ?_
  by_cases e : k = a + j
  · subst e
    rw [if_pos rfl, lJ, lJ, if_neg (by omega), if_pos (by omega), show a + j - a = j by omega]
  · rw [if_neg e, lJ, lJ]
    by_cases c : a ≤ k ∧ k - a < j
    · rw [if_pos c, if_pos ⟨c.1, by omega⟩]
    · rw [if_neg c, if_neg fun z => c ⟨z.1, by omega⟩]
theorem Ov.step {p : Int} {one other : List Int} {m n a : Nat} {q l : Nat → Int} {turn : Int} (hp : 0 < p) (ho : 0 < other.length) (hm : a < m) (hmn : m + other.length ≤ n + 1) (ht : Eqm p (cf other (other.length - 1) * turn) 1) (h : Ov p one other m n (a + 1) q l) :
    Ov p one other m n a (fun k => if k = a then l (a + other.length - 1) * turn % p else q k) (lJ p other l (l (a + other.length - 1) * turn % p) a other.length) where
  lv := fun k => by
    rw [lJ]
    split
    · exact emod_lt hp _
    · exact h.lv k
  l0 := fun k hk => by
    rw [lJ, if_neg (by omega)]
    exact h.l0 k hk
  ld := fun k hk => by
    rw [lJ]
    by_cases c : a ≤ k ∧ k - a < other.length
    · rw [if_pos c]
      obtain rfl : k = a + other.length - 1 := by omega
      rw [show a + other.length - 1 - a = other.length - 1 by omega]
      have e1 : Eqm p (l (a + other.length - 1) - l (a + other.length - 1) * turn % p * cf other (other.length - 1)) 0 := by
        have h1 : Eqm p (l (a + other.length - 1) * turn % p * cf other (other.length - 1)) (l (a + other.length - 1) * (cf other (other.length - 1) * turn)) := by
          refine ((Eqm.mod _).mul (Eqm.refl _)).trans (.of ?_)
          rw [Int.mul_assoc, Int.mul_comm turn]
        have h2 := h1.trans ((Eqm.refl (l (a + other.length - 1))).mul ht)
        rw [Int.mul_one] at h2
        have h3 := (Eqm.refl (p := p) (l (a + other.length - 1))).sub h2
        rwa [Int.sub_self] at h3
      exact Int.emod_eq_zero_of_dvd e1.zero
    · rw [if_neg c]
      exact h.ld k (by omega)
  qv := fun k => by
    split
    · exact emod_lt hp _
    · exact h.qv k
  q0 := fun k hk => by
    rw [if_neg (by omega)]
    exact h.q0 k hk
  qt := fun k hk => by
    rw [if_neg (by omega)]
    exact h.qt k (by omega)
  eq := fun k => by
    refine (h.eq k).trans ?_
    have e1 : pc m (fun i => if i = a then l (a + other.length - 1) * turn % p else q i) (cf other) k = pc m q (cf other) k + (if a ≤ k then l (a + other.length - 1) * turn % p * cf other (k - a) else 0) := by
      unfold pc
      have s1 : sm m (fun i => if i ≤ k then (if i = a then l (a + other.length - 1) * turn % p else q i) * cf other (k - i) else 0)
          = sm m fun i => (if i ≤ k then q i * cf other (k - i) else 0) + (if i = a then (if a ≤ k then l (a + other.length - 1) * turn % p * cf other (k - a) else 0) else 0) := by
        refine sm_congr fun i _ => ?_
        by_cases c : i = a
        · subst c
          rw [if_pos rfl, if_pos rfl, h.qt i (by omega), Int.zero_mul]
          split <;> simp
        · rw [if_neg c, if_neg c, Int.add_zero]
      rw [s1, sm_add]
      congr 1
      rw [sm_single hm fun i _ hne => if_neg hne, if_pos rfl]
    rw [e1, Int.add_assoc]
    refine (Eqm.refl _).add ?_
    rw [lJ]
    by_cases c : a ≤ k
    · rw [if_pos c]
      by_cases c2 : k - a < other.length
      · rw [if_pos ⟨c, c2⟩]
        refine Eqm.symm (((Eqm.refl _).add (Eqm.mod _)).trans (.of ?_))
        omega
      · rw [if_neg fun z => c2 z.2, cf_ge (xs := other) (by omega), Int.mul_zero, Int.zero_add]
        exact Eqm.refl _
    · rw [if_neg c, if_neg fun z => c z.1, Int.zero_add]
      exact Eqm.refl _
theorem Ov.done {p : Int} {one other : List Int} {m n : Nat} {q l : Nat → Int} (hp : 0 < p) (ho : 0 < other.length) (h : Ov p one other m n 0 q l) : OverOk p one other (cut ((List.range m).map q)) (cut ((List.range n).map l)) where
  qv := cut_vl (Vl.map fun k _ => h.qv k)
  qt := cut_tr _
  rv := cut_vl (Vl.map fun k _ => h.lv k)
  rt := cut_tr _
  rl := by
    have := cut_len_le (xs := (List.range n).map l) (n := other.length - 1) fun k hk => by
      by_cases c : k < n
      · rw [cf_map _ c]
        exact h.ld k (by omega)
      · exact cf_map_ge _ (by omega)
    omega
  eq := fun k => by
    refine (h.eq k).trans (.of ?_)
    have e0 : ∀ i, cf (cut ((List.range m).map q)) i = q i := fun i => by
      rw [cut_cf]
      by_cases c : i < m
      · exact cf_map _ c
      · rw [cf_map_ge _ (by omega), h.q0 i (by omega)]
    congr 1
    · rw [pc_congr (f' := q) fun i _ => e0 i]
      have hl : (cut ((List.range m).map q)).length ≤ m := by
        have := cut_len ((List.range m).map q)
        rwa [List.length_map, List.length_range] at this
      exact pc_ext (fun i hi => by rw [← e0 i, cf_ge hi]) hl
    · rw [cut_cf]
      by_cases c : k < n
      · exact (cf_map _ c).symm
      · rw [cf_map_ge _ (by omega), h.l0 k (by omega)]
/-! ## values -/
/-- the value of a polynomial, as it is reckoned -/
def hor (p : Int) (xs : List Int) (v : Int) : Int := xs.reverse.foldl (fun f s => (f * v + s) % p) 0
theorem hor_cons {p : Int} (x : Int) (r : List Int) (v : Int) : hor p (x :: r) v = (hor p r v * v + x) % p := by
  unfold hor
  rw [List.reverse_cons, List.foldl_append]
  rfl
def pw (v : Int) (k : Nat) : Int := v ^ k
theorem doing_cons (x : Int) (r : List Int) (u : Nat → Int) (m : Nat) : doing (x :: r) u m = x * u m + doing r u (m + 1) := by
  show sm (r.length + 1) _ = _
  rw [sm_head]
  show cf (x :: r) 0 * u (m + 0) + _ = _
  rw [Nat.add_zero]
  congr 1
  exact sm_congr fun k _ => by
    show cf (x :: r) (k + 1) * u (m + (k + 1)) = cf r k * u (m + 1 + k)
    rw [show m + (k + 1) = m + 1 + k by omega]
    rfl
theorem doing_pw (xs : List Int) (v : Int) (m : Nat) : doing xs (pw v) m = v ^ m * doing xs (pw v) 0 := by
  unfold doing act
  rw [← sm_mul]
  refine sm_congr fun k _ => ?_
  unfold pw
  rw [Int.pow_add, Nat.zero_add, ← Int.mul_assoc, ← Int.mul_assoc, Int.mul_comm (cf xs k)]
theorem hor_eq {p : Int} (v : Int) : ∀ xs : List Int, Eqm p (hor p xs v) (doing xs (pw v) 0)
  | [] => Eqm.refl _
  | x :: r => by
    rw [hor_cons, doing_cons, doing_pw r v 1]
    refine (Eqm.mod _).trans ?_
    have h := ((hor_eq (p := p) v r).mul (Eqm.refl v)).add (Eqm.refl x)
    refine h.trans (.of ?_)
    show _ = x * v ^ 0 + v ^ 1 * _
    rw [Int.pow_zero, Int.mul_one, Int.pow_succ, Int.pow_zero, Int.one_mul, Int.add_comm, Int.mul_comm v]
theorem hor_lt {p : Int} (hp : 0 < p) (v : Int) (xs : List Int) : 0 ≤ hor p xs v ∧ hor p xs v < p := by
  cases xs with
  | nil => exact ⟨Int.le_refl 0, hp⟩
  | cons x r =>
    rw [hor_cons]
    exact emod_lt hp _
end Md
end
section
namespace Tb
open PySem PySem.Spec PyProof.Rows L2 Evl Md
theorem walk_rng {n : Nat} : Walk (Itr 0 n) n (fun _ => True) (YFn fun i => .int (i : Nat)) := by
  have h := walk_range (lo := 0) (n := n)
  rwa [show (fun i : Nat => V.int (0 + (i : Int))) = fun i : Nat => V.int (i : Nat) from funext fun i => by rw [Int.zero_add]] at h
theorem none_of {H H' : Hp} {a : Addr} (e : Ex H H') (h : H' a = none) : H a = none := by
  cases z : H a with
  | none => rfl
  | some u => rw [e _ _ z] at h; cases h
/-! ## objects: what callers want of a method, of a class -/
structure OwnM (P : Program) (w : World) (K : PySem.W.Frag) (mg : Str → Option Value) (base : Heap) (C : Addr) (m : Str) (k : Nat) (ps : List Str) (sp : Sp) : Prop where
  ex : ∃ f fd, Meth K C m f ∧ L2.Binds K fd ps [] ∧ FnOk P w K mg base CX0 k f fd ps sp
structure OwnC (P : Program) (w : World) (K : PySem.W.Frag) (mg : Str → Option Value) (base : Heap) (C : Addr) (x : Str) (k : Nat) (ps : List Str) (sp : Sp) : Prop where
  ex : ∃ f fd, Mk K C f ∧ mg x = some (.ref C) ∧ L2.Binds K fd ps [] ∧ FnOk P w K mg base CX0 k f fd ps sp
section
variable {X : Cx} {k : Nat} {C : Addr} {ps : List Str} {sp : Sp} {x m : Str} {p pos apos : Pos} {e o : Expr} {es : List Expr} {ta : TE} {t : TA}
theorem pe_ownM {pl : Sem Bool} (he : PE X o ta) (c : Cls X.K C) (O : OwnM X.prog X.w X.K X.mg X.base C m k ps sp) (hr : Room k X.A) (ha : PA X (e :: es) t)
    (hst : starEach (e :: es) X.env = (false, eval e X.env) :: starEach es X.env := by rfl) (hpl : (backTo pos (starEach es X.env)).any (·.1) = false := by rfl)
    (ht : eval (.Call (.Attribute o m apos) (e :: es) [] pos) X.env = (do
      let ov ← eval o X.env
      standAt apos.atName
      let (f, first) ← holding [ov] (getMethod ov m pl)
      callWith pos f first (backTo pos (starEach (e :: es) X.env)) (backToKw pos (keywordEach [] X.env))) := by rfl) :
    PE X (.Call (.Attribute o m apos) (e :: es) [] pos) (tMeth C m sp [] E0 ta t) := by
  obtain ⟨f, fd, hm, hb, F⟩ := O.ex
  exact pe_meth he c hm F hr hb .nil pass0 ha hst hpl ht
theorem pe_ownM0 {pl : Sem Bool} (he : PE X o ta) (c : Cls X.K C) (O : OwnM X.prog X.w X.K X.mg X.base C m k ps sp) (hr : Room k X.A)
    (ht : eval (.Call (.Attribute o m apos) [] [] pos) X.env = (do
      let ov ← eval o X.env
      standAt apos.atName
      let (f, first) ← holding [ov] (getMethod ov m pl)
      callWith pos f first (backTo pos (starEach [] X.env)) (backToKw pos (keywordEach [] X.env))) := by rfl) :
    PE X (.Call (.Attribute o m apos) [] [] pos) (tMeth C m sp [] E0 ta tNil) := by
  obtain ⟨f, fd, hm, hb, F⟩ := O.ex
  exact pe_meth0 he c hm F hr hb .nil pass0 ht
theorem pe_ownC (O : OwnC X.prog X.w X.K X.mg X.base C x k ps sp) (hr : Room (k + 1) X.A) (hg : Gl X x)
    (ha : PA X (e :: es) t) (hdb : (x == ("__debug__" : Str)) = false := by decide) (he : starEach (e :: es) X.env = (false, eval e X.env) :: starEach es X.env := by rfl) (hpl : (backTo pos (starEach es X.env)).any (·.1) = false := by rfl) :
    PE X (.Call (.Name x p) (e :: es) [] pos) (tMake C sp [] E0 t) := by
  obtain ⟨f, fd, M, hm, hb, F⟩ := O.ex
  exact pe_make M F hr hg hm hb .nil pass0 ha hdb he hpl
end
section
variable {σ : L2.St} {H : Hp} {Q : VK} {v : V} {K : PySem.W.Frag} {a C dx : Addr} {fs : List (Str × V)} {f m : Str} {D : Ends}
def kFld (K : PySem.W.Frag) (f : Str) (Q : VK) : VK := fun x H1 => ∃ a C dx fs v, x = .ref a ∧ H1 a = some (.ins C dx fs) ∧ Cls K C ∧ NoAttr K C f ∧ fs.lookup f = some v ∧ Q v H1
theorem d_fld {ta : TE} (q : ta σ H (kFld K f Q)) : tFld K ta f σ H Q := q
theorem k_fld (h : H a = some (.ins C dx fs)) (c : Cls K C) (n : NoAttr K C f) (l : fs.lookup f = some v) (q : Q v H) : kFld K f Q (.ref a) H := ⟨a, C, dx, fs, v, rfl, h, c, n, l, q⟩
def kSFld (K : PySem.W.Frag) (f : Str) (y : V) (R : Hp → Prop) : VK := fun x H2 => ∃ a C dx fs, x = .ref a ∧ H2 a = some (.ins C dx fs) ∧ Cls K C ∧ NoAttr K C f ∧ fs.length < 1000 ∧ R (upd H2 a (.ins C dx (putF f y fs)))
theorem d_sfld {ta tv : TE} (q : tv σ H fun y H1 => ta σ H1 (kSFld K f y (D.nx σ))) : sFld K ta tv f D σ H := q
theorem k_sfld {y : V} {R : Hp → Prop} (h : H a = some (.ins C dx fs)) (c : Cls K C) (n : NoAttr K C f) (hl : fs.length < 1000) (q : R (upd H a (.ins C dx (putF f y fs)))) : kSFld K f y R (.ref a) H := ⟨a, C, dx, fs, rfl, h, c, n, hl, q⟩
def kGFld (K : PySem.W.Frag) (f : Str) (y : V) (σ : L2.St) (R : L2.St → Hp → Prop) : VK := fun x H2 => ∃ a C dx fs, x = .ref a ∧ H2 a = some (.ins C dx fs) ∧ Cls K C ∧ NoAttr K C f ∧ fs.length < 1000 ∧ R σ (upd H2 a (.ins C dx (putF f y fs)))
theorem d_gfld {ta : TE} {y : V} {R : L2.St → Hp → Prop} (q : ta σ H (kGFld K f y σ R)) : gFld K ta f y σ H R := q
theorem k_gfld {y : V} {R : L2.St → Hp → Prop} (h : H a = some (.ins C dx fs)) (c : Cls K C) (n : NoAttr K C f) (hl : fs.length < 1000) (q : R σ (upd H a (.ins C dx (putF f y fs)))) : kGFld K f y σ R (.ref a) H := ⟨a, C, dx, fs, rfl, h, c, n, hl, q⟩
/-- o.f += e, an integer -/
def kFAug (K : PySem.W.Frag) (f : Str) (tv : TE) (rd : V → V → Hp → VK → Prop) (σ : L2.St) (R : Hp → Prop) : VK := fun x H1 => ∃ a C dx fs v, x = .ref a ∧ H1 a = some (.ins C dx fs) ∧ Cls K C ∧ NoAttr K C f ∧ fs.lookup f = some v ∧
  tv σ H1 fun y H2 => rd v y H2 fun z H3 => ∃ dx' fs', H3 a = some (.ins C dx' fs') ∧ fs'.length < 1000 ∧ R (upd H3 a (.ins C dx' (putF f z fs')))
theorem d_faug {ta tv : TE} {rd : V → V → Hp → VK → Prop} (q : ta σ H (kFAug K f tv rd σ (D.nx σ))) : sFldAug K ta tv rd f D σ H := q
theorem k_faug {i j : Int} {R : Hp → Prop} (h : H a = some (.ins C dx fs)) (c : Cls K C) (n : NoAttr K C f) (l : fs.lookup f = some (.int i)) (hl : fs.length < 1000) (q : R (upd H a (.ins C dx (putF f (.int (i + j)) fs)))) : kFAug K f (tC (.int j)) rAdd σ R (.ref a) H :=
  ⟨a, C, dx, fs, _, rfl, h, c, n, l, i, j, rfl, rfl, dx, fs, h, hl, q⟩
def kMeth (C : Addr) (m : Str) (sp : Sp) (E : XK) (t : Hp → (List V → Hp → Prop) → Prop) (Q : VK) : VK := fun x H1 => ∃ a dx fs, x = .ref a ∧ H1 a = some (.ins C dx fs) ∧ fs.lookup m = none ∧ t H1 fun vs H2 => sp (x :: vs) H2 Q E
theorem d_meth {sp : Sp} {E : XK} {ta : TE} {t : TA} (q : ta σ H (kMeth C m sp E (t σ) Q)) : tMeth C m sp [] E ta t σ H Q := by
  show ta σ H fun x H1 => ∃ a dx fs, x = .ref a ∧ H1 a = some (.ins C dx fs) ∧ fs.lookup m = none ∧ t σ H1 fun vs H2 => sp (x :: (vs ++ [])) H2 Q E
  have e : (fun (x : V) (H1 : Hp) => ∃ a dx fs, x = .ref a ∧ H1 a = some (.ins C dx fs) ∧ fs.lookup m = none ∧ t σ H1 fun vs H2 => sp (x :: (vs ++ [])) H2 Q E) = kMeth C m sp E (t σ) Q := by
    funext x H1
    have e2 : (fun (vs : List V) (H2 : Hp) => sp (x :: (vs ++ [])) H2 Q E) = fun vs H2 => sp (x :: vs) H2 Q E := by
      funext vs H2
      rw [List.append_nil]
    rw [e2]
    rfl
  rw [e]
  exact q
theorem k_meth {sp : Sp} {E : XK} {t : Hp → (List V → Hp → Prop) → Prop} (h : H a = some (.ins C dx fs)) (l : fs.lookup m = none) (q : t H fun vs H2 => sp (.ref a :: vs) H2 Q E) : kMeth C m sp E t Q (.ref a) H := ⟨a, dx, fs, rfl, h, l, q⟩
def kMake (C : Addr) (sp : Sp) (E : XK) (Q : VK) : List V → Hp → Prop := fun vs H1 => ∀ x dx, H1 x = none → H1 dx = none → dx ≠ x → sp (.ref x :: vs) (upd (upd H1 dx (.own x)) x (.ins C dx [])) (fun v H2 => v = .non ∧ Q (.ref x) H2) E
theorem d_make {sp : Sp} {E : XK} {t : TA} (q : t σ H (kMake C sp E Q)) : tMake C sp [] E t σ H Q := by
  have e : (fun (vs : List V) (H1 : Hp) => ∀ x dx, H1 x = none → H1 dx = none → dx ≠ x → sp (.ref x :: (vs ++ [])) (upd (upd H1 dx (.own x)) x (.ins C dx [])) (fun v H2 => v = .non ∧ Q (.ref x) H2) E) = kMake C sp E Q := by
    funext vs H1
    rw [List.append_nil]
    rfl
  show t σ H _
  rw [e]
  exact q
end
end Tb
end
section
namespace Tb
open PySem PySem.Spec PyProof.Rows L2 Evl Md
/-! ## data that repr shows -/
structure Rp (d : PyData) : Prop where
  sh : d.showable = true
  nd : d.hasDict = false
  dp : d.depth ≤ 40
  ln : d.shown.length ≤ sizeLine
/-- what is in a list or tuple -/
structure Ra (n k : Nat) (ds : List PyData) : Prop where
  sh : PyData.showableAll ds = true
  nd : PyData.hasDictAll ds = false
  dp : PyData.depthAll ds ≤ n
  lv : PyData.leavesShortAll 13 ds = true
  wt : PyData.weightAll ds ≤ k
theorem Ra.nil : Ra 0 0 [] := ⟨rfl, rfl, by decide, rfl, by decide⟩
theorem ra_ints {B : Nat} : ∀ {ns : List Int}, (∀ x ∈ ns, 0 ≤ x ∧ x < 10000000000) → ns.length ≤ B → Ra 0 (40 * B) (ns.map PyData.int)
  | [], _, _ => ⟨rfl, rfl, by decide, rfl, by show 0 ≤ _; omega⟩
  | x :: r, h, hB => by
    obtain ⟨h1, h2, h3, h4, h5⟩ := ra_ints (B := r.length) (ns := r) (fun y hy => h y (List.mem_cons_of_mem _ hy)) (Nat.le_refl _)
    have hx := h x List.mem_cons_self
    have l2 : x.natAbs.log2 < 34 := by
      by_cases e : x.natAbs = 0
      · rw [e]
        decide
      · exact (Nat.log2_lt e).mpr (by omega)
    refine ⟨?_, ?_, ?_, ?_, ?_⟩
    · show PyData.showableAll (PyData.int x :: r.map PyData.int) = true
      simp only [PyData.showableAll, PyData.showable, h1, Bool.and_true]
      exact decide_eq_true (by omega)
    · show PyData.hasDictAll (PyData.int x :: r.map PyData.int) = false
      simp only [PyData.hasDictAll, PyData.hasDict, h2, Bool.or_self]
    · show PyData.depthAll (PyData.int x :: r.map PyData.int) ≤ 0
      simp only [PyData.depthAll, PyData.depth]
      omega
    · show PyData.leavesShortAll 13 (PyData.int x :: r.map PyData.int) = true
      simp only [PyData.leavesShortAll, PyData.leavesShort, h4, Bool.and_true]
      refine decide_eq_true ?_
      simp only [PyData.shown]
      have := toString_length_le (v := x) hx.1 (k := 10) (by decide) (by omega)
      exact Nat.le_trans this (by decide)
    · show PyData.weightAll (PyData.int x :: r.map PyData.int) ≤ 40 * B
      simp only [PyData.weightAll, PyData.weight]
      rw [List.length_cons] at hB
      have : (if x == 0 then 0 else x.natAbs.log2 + 1) ≤ 35 := by split <;> omega
      omega
theorem Ra.cons_seq {n m k l : Nat} {ds es : List PyData} {c : Bool} (h : Ra n k ds) (h' : Ra m l es) : Ra (max (n + 1) m) (k + 1 + l) ((if c = true then PyData.list ds else PyData.tuple ds) :: es) := by
  obtain ⟨a1, a2, a3, a4, a5⟩ := h
  obtain ⟨b1, b2, b3, b4, b5⟩ := h'
  cases c
  all_goals
    refine ⟨?_, ?_, ?_, ?_, ?_⟩
    · simp [PyData.showableAll, PyData.showable, a1, b1]
    · simp [PyData.hasDictAll, PyData.hasDict, a2, b2]
    · simp only [PyData.depthAll, if_true, Bool.false_eq_true, if_false, PyData.depth]
      omega
    · simp [PyData.leavesShortAll, PyData.leavesShort, a4, b4]
    · simp only [PyData.weightAll, if_true, Bool.false_eq_true, if_false, PyData.weight]
      omega
theorem Ra.rp {n k : Nat} {ds : List PyData} (c : Bool) (h : Ra n k ds) (hn : n ≤ 30) (hk : k ≤ 1000000) : Rp (if c = true then PyData.list ds else PyData.tuple ds) := by
  obtain ⟨a1, a2, a3, a4, a5⟩ := h
  cases c
  all_goals
    refine ⟨?_, ?_, ?_, ?_⟩
    · simpa [PyData.showable] using a1
    · simpa [PyData.hasDict] using a2
    · simp only [if_true, Bool.false_eq_true, if_false, PyData.depth]
      omega
    · refine PyData.shown_fits (B := 13) (by decide) (by decide) ?_ ?_
      · simpa [PyData.leavesShort] using a4
      · simp only [if_true, Bool.false_eq_true, if_false, PyData.weight]
        omega
theorem rp_bool (b : Bool) : Rp (.bool b) := by
  cases b <;> exact ⟨rfl, rfl, by decide, by decide⟩
section
variable {σ : L2.St} {H : Hp} {Q : VK} {K : PySem.W.Frag}
theorem d_repr {x : V} {d : PyData} (hd : Dp K H x d) (hx : (∃ a, x = .ref a) ∨ ∃ b, x = .bl b) (hr : Rp d) (q : Q (.str d.shown) H) : rRepr K [x] H Q := ⟨x, d, rfl, hd, hx, hr.sh, hr.nd, hr.dp, hr.ln, q⟩
/-- a statement, and what is behind it by a claim -/
theorem d_seqR {t u : TS} {D : Ends} (R : L2.St → Hp → Prop) (h2 : ∀ σ' H', R σ' H' → u D σ' H') (h1 : (∀ σ' H', R σ' H' → u D σ' H') → t { D with nx := u D } σ H) : tSeq t u D σ H := h1 h2
end
end Tb
end
section
namespace Tb
open PySem PySem.Spec PyProof.Rows L2 Evl Md
theorem lay_ints : ∀ ns : List Int, PyData.canLayAll0 (ns.map PyData.int) = true
  | [] => rfl
  | n :: r => by
    show PyData.canLayAll0 (PyData.int n :: r.map PyData.int) = true
    simp only [PyData.canLayAll0, PyData.canLay0, lay_ints r, Bool.and_self]
theorem dep_ints : ∀ ns : List Int, PyData.depthAll (ns.map PyData.int) = 0
  | [] => rfl
  | n :: r => by
    show PyData.depthAll (PyData.int n :: r.map PyData.int) = 0
    simp only [PyData.depthAll, PyData.depth, dep_ints r, Nat.max_self]
theorem shaped_ints (ns : List Int) : SeqAt.shaped (.tuple (ns.map PyData.int)) = true := by
  unfold SeqAt.shaped
  simp only [PyData.canLay0, lay_ints, PyData.depth, dep_ints]
  rfl
theorem eqv_ints (ns : List Int) : PyData.eqv (.tuple (ns.map PyData.int)) (.tuple (ns.map PyData.int)) = true := SeqAt.eqv_refl _ (by simp only [PyData.canLay0, lay_ints])
/-- tuples that are the same -/
theorem d_neT {K : PySem.W.Frag} {H : Hp} {Q : VK} {a b : Addr} {ns : List Int} (ha : SqT K H a (ns.map .int)) (hb : SqT K H b (ns.map .int)) (q : Q (.bl false) H) : rNeD K (.ref a) (.ref b) H Q :=
  ⟨_, _, .tup ha (dp_ints ns), .tup hb (dp_ints ns), shaped_ints ns, shaped_ints ns, by rw [eqv_ints]; exact q⟩
theorem rep_one (m : Nat) (z : Int) : (List.replicate m [V.int z]).flatten = (List.replicate m z).map V.int := by
  induction m with
  | zero => rfl
  | succ m ih => rw [List.replicate_succ, List.flatten_cons, ih, List.replicate_succ]; rfl
theorem rep_map (m : Nat) (xs : List Int) : (List.replicate m (xs.map V.int)).flatten = (List.replicate m xs).flatten.map V.int := by
  rw [List.map_flatten, List.map_replicate]
end Tb
end
section
namespace Tb
open PySem PySem.Spec PyProof.Rows L2
/-- a law's end over a head by facts, the law a def that is called where no repr is under way -/
theorem walk_endE {l : PySem.W.OpenLaw} {n k : Nat} {q : Program} {loose : List Str} {XP : (Str → Option Value) → Heap → Prop} {YP : World → Heap → Prop} {d : DefRec} {x : Str}
    (hn : l.most = some n) (hn2 : n ≤ sizeLine) (hdf : d.params.defaults = []) (hr : Room k callerA)
    (F : ∀ (w : World) (mg : Str → Option Value) (fa : Addr) (h : Heap), YP w h → h.Ns mainGlobals mg → mg d.name = some (.ref fa) →
      ∃ (K : PySem.W.Frag) (fd : FuncData) (sp : Sp), K.In h ∧ (∀ (s : Shared) (u : Value), BindsTo s fd ⟨[u], []⟩ [(x, u)]) ∧
        (∀ (H : Hp) (a : Addr) (ns : List Int), ns.length ≤ n → SqL K H a (ns.map V.int) → sp [.ref a] H (fun v _ => v = .bl true) fun _ _ _ => False) ∧
        ∀ base : Heap, K.In base → base.Ns mainGlobals mg → FnG l.prog w K mg base k fa fd [x] sp) :
    PySem.W.WalkO q loose XP YP l.row.toRowW d [] (fun f vs => PySem.call f vs) := by
  refine Att.attach_call hn hdf fun w s₀ s₁ mg mb fa o pm cd doc a vs ns G Y ho hd hcd hmg hobj hints hlen hg => ?_
  obtain ⟨K, fd, sp, KX, hb, hsp, hF⟩ := F w mg fa _ Y G.T.g hmg
  exact law_endG KX G.T.g G.T.b G.T.builtins G.T.nolimit hg hobj hints (Nat.le_trans hlen hn2) hr hF hb fun H hS => hsp H a ns hlen hS
end Tb
end
section
/-! the shortest rule, as it is reckoned -/
namespace Md
theorem inv_eq {p v x y : Int} (hx : Inv p v x) (hy : Inv p v y) : x = y := by
  obtain ⟨a1, a2, a3⟩ := hx
  obtain ⟨b1, b2, b3⟩ := hy
  refine Eqm.eq (p := p) ?_ ⟨a1, a2⟩ ⟨b1, b2⟩
  have e : x - y = y * (v * x - 1) - x * (v * y - 1) := by
    rw [Int.mul_sub, Int.mul_sub, Int.mul_one, Int.mul_one, ← Int.mul_assoc, ← Int.mul_assoc, Int.mul_comm y v, Int.mul_comm x v, Int.mul_assoc, Int.mul_assoc, Int.mul_comm y x]
    omega
  show p ∣ x - y
  rw [e]
  exact Int.dvd_sub (Int.dvd_mul_of_dvd_right a3) (Int.dvd_mul_of_dvd_right b3)
open Classical in
noncomputable def invF (p v : Int) : Int := if h : ∃ x, Inv p v x then h.choose else 0
theorem invF_eq {p v x : Int} (h : Inv p v x) : x = invF p v := by
  have hx : ∃ x, Inv p v x := ⟨x, h⟩
  unfold invF
  rw [dif_pos hx]
  exact inv_eq h hx.choose_spec
theorem invF_ok {p v : Int} (hp : IsPr p) (h0 : 0 < v) (h1 : v < p) : Inv p v (invF p v) := by
  obtain ⟨x, hx⟩ := hp.inv' h0 h1
  have h : Inv p v (x % p) := inv_emod hp.pos (by rwa [Int.mul_comm])
  rw [← invF_eq h]
  exact h
structure Bm where
  rule : List Int
  long : Nat
  elder : List Int
  ahead : Nat
  size : Int
def Bm.start : Bm := ⟨[1], 0, [1], 1, 1⟩
def offB (p : Int) (b : Bm) (vs : List Int) (n : Nat) : Int := sm b.rule.length (fun k => cf b.rule k * cf vs (n - k)) % p
def lessB (p : Int) (b : Bm) (share : Int) : List Int := (List.range (max b.rule.length (b.elder.length + b.ahead))).map (lJ p b.elder (cf b.rule) share b.ahead b.elder.length)
noncomputable def stepB (p : Int) (vs : List Int) (n : Nat) (b : Bm) : Bm :=
  if offB p b vs n = 0 then { b with ahead := b.ahead + 1 }
  else if 2 * b.long ≤ n then ⟨lessB p b (offB p b vs n * invF p b.size % p), n + 1 - b.long, b.rule, 1, offB p b vs n⟩
  else ⟨lessB p b (offB p b vs n * invF p b.size % p), b.long, b.elder, b.ahead + 1, b.size⟩
noncomputable def bm (p : Int) (vs : List Int) : Nat → Bm
  | 0 => .start
  | n + 1 => stepB p vs n (bm p vs n)
def toldB (b : Bm) : List Int := ((List.range (b.long + 1)).map (cf b.rule)).reverse
noncomputable def ruleB (p : Int) (vs : List Int) : List Int := toldB (bm p vs vs.length)
structure BmOk (p : Int) (n : Nat) (b : Bm) : Prop where
  r1 : 1 ≤ b.rule.length
  rl : b.rule.length ≤ b.long + 1
  ln : b.long ≤ n
  el : b.elder.length + b.ahead + b.long ≤ n + 2
  a1 : 1 ≤ b.ahead
  rv : Vl p b.rule
  ev : Vl p b.elder
  s0 : 0 < b.size
  s1 : b.size < p
theorem lJ_lt {p : Int} {other : List Int} {l : Nat → Int} {fac : Int} {a j : Nat} (hp : 0 < p) (h : ∀ k, 0 ≤ l k ∧ l k < p) (k : Nat) : 0 ≤ lJ p other l fac a j k ∧ lJ p other l fac a j k < p := by
  unfold lJ
  split
  · exact emod_lt hp _
  · exact h k
theorem lessB_len (p : Int) (b : Bm) (share : Int) : (lessB p b share).length = max b.rule.length (b.elder.length + b.ahead) := by simp [lessB]
theorem lessB_vl {p : Int} {b : Bm} {share : Int} (hp : 0 < p) (h : Vl p b.rule) : Vl p (lessB p b share) := Vl.map fun k _ => lJ_lt hp (h.cf hp) k
theorem offB_lt {p : Int} (hp : 0 < p) (b : Bm) (vs : List Int) (n : Nat) : 0 ≤ offB p b vs n ∧ offB p b vs n < p := emod_lt hp _
theorem BmOk.start {p : Int} (hp : 1 < p) : BmOk p 0 .start where
  r1 := by decide
  rl := by decide
  ln := by decide
  el := by decide
  a1 := by decide
  rv := fun x hx => by
    rw [show (Bm.start.rule) = [1] from rfl, List.mem_singleton] at hx
    omega
  ev := fun x hx => by
    rw [show (Bm.start.elder) = [1] from rfl, List.mem_singleton] at hx
    omega
  s0 := by decide
  s1 := hp
theorem BmOk.step {p : Int} {n : Nat} {b : Bm} (hp : 1 < p) (vs : List Int) (h : BmOk p n b) : BmOk p (n + 1) (stepB p vs n b) := by
  obtain ⟨r1, rl, ln, el, a1, rv, ev, s0, s1⟩ := h
  have ob := offB_lt (show 0 < p by omega) b vs n
  unfold stepB
  split
  · exact ⟨r1, rl, (by show b.long ≤ n + 1; omega), (by show b.elder.length + (b.ahead + 1) + b.long ≤ n + 1 + 2; omega), (by show 1 ≤ b.ahead + 1; omega), rv, ev, s0, s1⟩
  · rename_i hz
    split
    · rename_i h2
      refine ⟨?_, ?_, ?_, ?_, Nat.le_refl 1, lessB_vl (by omega) rv, rv, ?_, ob.2⟩
      · show 1 ≤ (lessB p b _).length
        rw [lessB_len]
        omega
      · show (lessB p b _).length ≤ n + 1 - b.long + 1
        rw [lessB_len]
        omega
      · show n + 1 - b.long ≤ n + 1
        omega
      · show b.rule.length + 1 + (n + 1 - b.long) ≤ n + 1 + 2
        omega
      · show 0 < offB p b vs n
        omega
    · refine ⟨?_, ?_, ?_, ?_, ?_, lessB_vl (by omega) rv, ev, s0, s1⟩
      · show 1 ≤ (lessB p b _).length
        rw [lessB_len]
        omega
      · show (lessB p b _).length ≤ b.long + 1
        rw [lessB_len]
        omega
      · show b.long ≤ n + 1
        omega
      · show b.elder.length + (b.ahead + 1) + b.long ≤ n + 1 + 2
        omega
      · show 1 ≤ b.ahead + 1
        omega
theorem bm_ok {p : Int} (hp : 1 < p) (vs : List Int) : ∀ n, BmOk p n (bm p vs n)
  | 0 => .start hp
  | n + 1 => (bm_ok hp vs n).step hp vs
theorem pad_take {xs : List Int} {n m : Nat} (h : n ≤ xs.length + m) : (xs ++ (List.range m).map fun _ => (0 : Int)).take n = (List.range n).map (cf xs) := by
  apply List.ext_getElem?
  intro k
  by_cases hk : k < n
  · rw [List.getElem?_take_of_lt hk, List.getElem?_map, List.getElem?_range hk]
    by_cases c : k < xs.length
    · rw [List.getElem?_append_left c, cf_lt c]
      rfl
    · rw [List.getElem?_append_right (by omega), List.getElem?_map, List.getElem?_range (by omega), Option.map_some, Option.map_some, cf_ge (by omega)]
  · rw [List.getElem?_eq_none (by simp; omega), List.getElem?_eq_none (by simp; omega)]
theorem pad_all {xs : List Int} {n : Nat} (h : xs.length ≤ n) : xs ++ (List.range (n - xs.length)).map (fun _ => (0 : Int)) = (List.range n).map (cf xs) := by
  rw [← pad_take (m := n - xs.length) (by omega), List.take_of_length_le (by simp; omega)]
theorem toldB_len (b : Bm) : (toldB b).length = b.long + 1 := by simp [toldB]
end Md
end
section
/-! powers of the next over a rule; rows that a rule goes on with -/
namespace Md
/-- u obeys xs -/
def Ob (p : Int) (xs : List Int) (u : Nat → Int) : Prop := ∀ m, Eqm p (doing xs u m) 0
theorem doing_shift (xs : List Int) (u : Nat → Int) (b m : Nat) : doing xs (fun k => u (k + b)) m = doing xs u (m + b) := sm_congr fun k _ => by
  show cf xs k * u (m + k + b) = _
  rw [show m + k + b = m + b + k by omega]
theorem Ob.shift {p : Int} {xs : List Int} {u : Nat → Int} (h : Ob p xs u) (b : Nat) : Ob p xs fun k => u (k + b) := fun m => by
  rw [doing_shift]
  exact h _
/-- over xs, fs is the k-th next -/
structure Pw (p : Int) (xs : List Int) (k : Nat) (fs : List Int) : Prop where
  vl : Vl p fs
  ln : fs.length < xs.length
  eq : ∀ u, Ob p xs u → ∀ m, Eqm p (doing fs u m) (u (m + k))
theorem Pw.one {p : Int} {xs q r : List Int} (h : OverOk p [1] xs q r) : Pw p xs 0 r := ⟨h.rv, h.rl, fun u hu m => (h.rest hu m).trans (.of (by
  show sm 1 _ = _
  rw [sm_one]
  show 1 * u (m + 0) = _
  rw [Int.one_mul]))⟩
theorem Pw.next {p : Int} {xs q r : List Int} (h : OverOk p [0, 1] xs q r) : Pw p xs 1 r := ⟨h.rv, h.rl, fun u hu m => (h.rest hu m).trans (.of (by
  show sm 2 _ = _
  rw [sm, sm_one]
  show 0 * u (m + 0) + 1 * u (m + 1) = _
  rw [Int.zero_mul, Int.one_mul, Int.zero_add]))⟩
theorem Pw.mul {p : Int} {xs f g q r : List Int} {a b : Nat} (hf : Pw p xs a f) (hg : Pw p xs b g) (h : OverOk p (prodP p f g) xs q r) : Pw p xs (a + b) r := ⟨h.rv, h.rl, fun u hu m => by
  refine (h.rest hu m).trans ((doing_prod p f g u m).trans ?_)
  refine (doing_congr (v := fun k => u (k + b)) fun k => hg.eq u hu k).trans ((hf.eq _ (hu.shift b) m).trans (.of ?_))
  rw [show m + a + b = m + (a + b) by omega]⟩
theorem val_eq {p : Int} {xs fs ys : List Int} {k : Nat} {u : Nat → Int} (h : Pw p xs k fs) (hu : Ob p xs u) (hl : ys.length + 1 = xs.length) (hy : ys = (List.range ys.length).map fun k => u k % p) : dotI fs ys % p = u k % p := by
  have hln := h.ln
  refine Eqm.emod (Eqm.trans ?_ ((h.eq u hu 0).trans (.of (by rw [Nat.zero_add]))))
  rw [dotI_eq, show min fs.length ys.length = fs.length by omega]
  refine Eqm.sm fun i hi => (Eqm.refl _).mul ?_
  rw [hy, cf_map _ (by omega), Nat.zero_add]
  exact Eqm.mod _
theorem cf_take {xs : List Int} {n k : Nat} (h : k < n) : cf (xs.take n) k = cf xs k := by
  rw [cf, cf, List.getD_eq_getElem?_getD, List.getD_eq_getElem?_getD, List.getElem?_take_of_lt h]
theorem cf_drop (xs : List Int) (n k : Nat) : cf (xs.drop n) k = cf xs (n + k) := by
  rw [cf, cf, List.getD_eq_getElem?_getD, List.getD_eq_getElem?_getD, List.getElem?_drop]
theorem Vl.take {p : Int} {xs : List Int} (h : Vl p xs) (n : Nat) : Vl p (xs.take n) := fun x hx => h x (List.mem_of_mem_take hx)
theorem cont_eq {p : Int} {xs : List Int} {u : Nat → Int} {L n : Nat} (hu : Ob p xs u) (hL : L + 1 = xs.length) (h1 : cf xs L = 1) (hn : L ≤ n) :
    -(dotI (xs.take L) (((List.range n).map fun k => u k % p).drop (n - L)) % p) % p = u n % p := by
  have h0 := hu (n - L)
  unfold doing act at h0
  rw [← hL, sm, h1, Int.one_mul, show n - L + L = n by omega] at h0
  have hd : Eqm p (dotI (xs.take L) (((List.range n).map fun k => u k % p).drop (n - L))) (sm L fun k => cf xs k * u (n - L + k)) := by
    rw [dotI_eq, List.length_take, List.length_drop, List.length_map, List.length_range, show min (min L xs.length) (n - (n - L)) = L by omega]
    refine Eqm.sm fun i hi => ?_
    rw [cf_take hi, cf_drop, cf_map _ (by omega)]
    exact (Eqm.refl _).mul (Eqm.mod _)
  have h2 := ((Eqm.mod (p := p) _).trans hd).neg
  refine Eqm.emod (h2.trans ?_)
  have h3 := h0.sub (Eqm.refl (p := p) (sm L fun k => cf xs k * u (n - L + k)))
  rw [show (sm L fun k => cf xs k * u (n - L + k)) + u n - (sm L fun k => cf xs k * u (n - L + k)) = u n by omega, Int.zero_sub] at h3
  exact h3.symm
theorem map_take {n m : Nat} (f : Nat → Int) (h : m ≤ n) : ((List.range n).map f).take m = (List.range m).map f := by
  rw [← List.map_take, List.take_range, Nat.min_eq_left h]
theorem Eqm.pow {p a b : Int} (h : Eqm p a b) : ∀ k : Nat, Eqm p (a ^ k) (b ^ k)
  | 0 => .of (by rw [Int.pow_zero, Int.pow_zero])
  | k + 1 => by
    rw [Int.pow_succ, Int.pow_succ]
    exact (Eqm.pow h k).mul h
end Md
end
section
/-! rules of sums of powers; the shortest rule is one, and no other is shorter -/
namespace Md
/-! ## the law's product -/
def timesP (p : Int) (xs ys : List Int) : List Int := pF p xs ys (xs.length + ys.length - 1) xs.length
theorem timesP_vl {p : Int} (hp : 0 < p) (xs ys : List Int) : Vl p (timesP p xs ys) := Vl.map fun _ _ => emod_lt hp _
theorem timesP_len (p : Int) (xs ys : List Int) : (timesP p xs ys).length = xs.length + ys.length - 1 := pF_len ..
theorem pc_top {xs ys : List Int} {k : Nat} (h : xs.length + ys.length ≤ k + 1) : pc xs.length (cf xs) (cf ys) k = 0 := sm_zero fun i hi => by
  split
  · rw [cf_ge (xs := ys) (by omega), Int.mul_zero]
  · rfl
theorem doing_times {p : Int} {xs ys : List Int} (u : Nat → Int) (m : Nat) (h : xs ≠ []) : Eqm p (doing (timesP p xs ys) u m) (doing xs (doing ys u) m) := by
  have hx := List.length_pos_iff.mpr h
  have h1 : doing (timesP p xs ys) u m = act (xs.length + ys.length - 1) (fun k => pc xs.length (cf xs) (cf ys) k % p) u m := by
    unfold doing act
    rw [timesP_len]
    exact sm_congr fun k hk => by rw [timesP, pF, cf_map _ hk]
  rw [h1]
  refine (act_congr (g := pc xs.length (cf xs) (cf ys)) (fun k _ => Eqm.mod _) fun k => Eqm.refl _).trans (.of ?_)
  have h2 : act (xs.length + ys.length) (pc xs.length (cf xs) (cf ys)) u m = act (xs.length + ys.length - 1) (pc xs.length (cf xs) (cf ys)) u m := act_ext u m (fun k hk => pc_top (by omega)) (by omega)
  rw [← h2, act_pc (l := ys.length) u m (fun k hk => cf_ge hk) (Nat.le_refl _)]
  rfl
theorem times_last {p : Int} {xs ys : List Int} (hx : xs ≠ []) (hy : ys ≠ []) : cf (timesP p xs ys) (xs.length + ys.length - 2) = cf xs (xs.length - 1) * cf ys (ys.length - 1) % p := by
  have h1 := List.length_pos_iff.mpr hx
  have h2 := List.length_pos_iff.mpr hy
  rw [timesP, pF, cf_map _ (by omega), pc, sm_single (j := xs.length - 1) (by omega) fun i hi hne => ?_, if_pos (by omega), show xs.length + ys.length - 2 - (xs.length - 1) = ys.length - 1 by omega]
  rw [cf_ge (xs := ys) (by omega), Int.mul_zero]
  split <;> rfl
theorem times_first {p : Int} {xs ys : List Int} (hx : xs ≠ []) (hy : ys ≠ []) : cf (timesP p xs ys) 0 = cf xs 0 * cf ys 0 % p := by
  have h1 := List.length_pos_iff.mpr hx
  have h2 := List.length_pos_iff.mpr hy
  rw [timesP, pF, cf_map _ (by omega), pc, sm_single (j := 0) (by omega) fun i hi hne => if_neg (by omega), if_pos (Nat.le_refl 0)]
/-! ## products of the next less a value -/
structure RulOk (p : Int) (n : Nat) (R : List Int) : Prop where
  vl : Vl p R
  ln : R.length = n + 1
  one : cf R n = 1
  fst : ¬ p ∣ cf R 0
theorem RulOk.ne {p : Int} {n : Nat} {R : List Int} (h : RulOk p n R) : R ≠ [] := by
  rintro rfl
  have := h.ln
  simp at this
theorem ndvd_of {p b : Int} (h0 : 0 < b) (h1 : b < p) : ¬ p ∣ b := fun z => by
  have := Int.le_of_dvd h0 z
  omega
theorem rul_start {p : Int} (hp : 1 < p) : RulOk p 0 [1] where
  vl := fun x hx => by
    rw [List.mem_singleton] at hx
    omega
  ln := rfl
  one := rfl
  fst := ndvd_of (b := 1) (by decide) hp
theorem RulOk.step {p c : Int} {n : Nat} {R : List Int} (hp : IsPr p) (hc : ¬ p ∣ c) (h : RulOk p n R) : RulOk p (n + 1) (timesP p R [c, 1]) where
  vl := timesP_vl hp.pos _ _
  ln := by
    rw [timesP_len, h.ln]
    rfl
  one := by
    have e := times_last (p := p) (ys := [c, 1]) h.ne (by simp)
    rw [h.ln] at e
    rw [show n + 1 = n + 1 + [c, 1].length - 2 from rfl, e, show n + 1 - 1 = n from rfl, h.one]
    show 1 * 1 % p = 1
    have := hp.1
    exact Int.emod_eq_of_lt (by decide) (by omega)
  fst := by
    rw [times_first h.ne (by simp)]
    intro z
    have z2 := (Eqm.mod (p := p) (cf R 0 * cf [c, 1] 0)).symm.trans (.to0 z)
    rcases hp.or_dvd z2.zero with e | e
    · exact h.fst e
    · exact hc e
theorem ndvd_neg {p b : Int} (h0 : 0 < b) (h1 : b < p) : ¬ p ∣ (0 - b) % p := fun z => by
  have e := ((Eqm.mod (p := p) (0 - b)).symm.trans (.to0 z)).neg
  rw [show -(0 - b) = b by omega, Int.neg_zero] at e
  exact ndvd_of h0 h1 e.zero
/-- R makes nought of the powers of x -/
def Root (p : Int) (R : List Int) (x : Int) : Prop := ∀ m, Eqm p (doing R (pw x) m) 0
theorem doing_lin (R : List Int) (c : Int) (u : Nat → Int) (m : Nat) : doing R (fun k => c * u k) m = c * doing R u m := by
  unfold doing act
  rw [← sm_mul]
  exact sm_congr fun k _ => by rw [← Int.mul_assoc, ← Int.mul_assoc, Int.mul_comm (cf R k)]
theorem doing_two (c : Int) (u : Nat → Int) (m : Nat) : doing [c, 1] u m = c * u m + u (m + 1) := by
  show sm 2 _ = _
  rw [sm, sm_one]
  show c * u (m + 0) + 1 * u (m + 1) = _
  rw [Int.one_mul, Nat.add_zero]
theorem times_pw {p b : Int} {R : List Int} (hR : R ≠ []) (x : Int) (m : Nat) : Eqm p (doing (timesP p R [(0 - b) % p, 1]) (pw x) m) ((x - b) * doing R (pw x) m) := by
  refine (doing_times _ _ hR).trans ?_
  rw [← doing_lin]
  refine doing_congr fun k => ?_
  rw [doing_two]
  refine (((Eqm.mod _).mul (Eqm.refl _)).add (Eqm.refl _)).trans (.of ?_)
  show (0 - b) * x ^ k + x ^ (k + 1) = (x - b) * x ^ k
  rw [Int.pow_succ, Int.sub_mul, Int.sub_mul, Int.zero_mul, Int.mul_comm x]
  omega
theorem root_new {p b : Int} {R : List Int} (hR : R ≠ []) : Root p (timesP p R [(0 - b) % p, 1]) b := fun m => by
  have := times_pw (p := p) (b := b) hR b m
  rwa [Int.sub_self, Int.zero_mul] at this
theorem root_old {p b x : Int} {R : List Int} (hR : R ≠ []) (h : Root p R x) : Root p (timesP p R [(0 - b) % p, 1]) x := fun m => by
  have := (times_pw (p := p) (b := b) hR x m).trans ((Eqm.refl _).mul (h m))
  rwa [Int.mul_zero] at this
/-- a sum of powers -/
def atF (bs ws : List Int) (k : Nat) : Int := sm bs.length fun i => cf ws i * cf bs i ^ k
theorem doing_at (R bs ws : List Int) (m : Nat) : doing R (atF bs ws) m = sm bs.length fun i => cf ws i * doing R (pw (cf bs i)) m := by
  unfold doing act atF
  have h1 : ∀ k, k < R.length → cf R k * (sm bs.length fun i => cf ws i * cf bs i ^ (m + k)) = sm bs.length fun i => cf ws i * (cf R k * pw (cf bs i) (m + k)) := fun k _ => by
    rw [← sm_mul]
    exact sm_congr fun i _ => by
      show _ = cf ws i * (cf R k * cf bs i ^ (m + k))
      rw [← Int.mul_assoc, ← Int.mul_assoc, Int.mul_comm (cf R k)]
  rw [sm_congr h1, sm_comm]
  exact sm_congr fun i _ => sm_mul _ _ _
theorem ob_at {p : Int} {R bs ws : List Int} (h : ∀ x ∈ bs, Root p R x) : Ob p R (atF bs ws) := fun m => by
  rw [doing_at]
  refine (Eqm.sm (g := fun _ => 0) fun i hi => ?_).trans (.of (sm_zero fun _ _ => rfl))
  have := (Eqm.refl (p := p) (cf ws i)).mul (h _ (List.mem_of_getElem? (cf_lt hi)) m)
  rwa [Int.mul_zero] at this
/-! ## unlike roots -/
/-- sums of unlike values' powers that are nought -/
theorem vand {p : Int} (hp : IsPr p) : ∀ (n : Nat) (y b : Nat → Int), (∀ i, i < n → p ∣ sm n fun j => y j * b j ^ i) → (∀ i j, i < n → j < n → i ≠ j → ¬ p ∣ b i - b j) → ∀ j, j < n → p ∣ y j
  | 0, _, _, _, _, _, h => absurd h (Nat.not_lt_zero _)
  | n + 1, y, b, hs, hd, j, hj => by
    have hz := vand hp n (fun j => y j * (b j - b n)) b (fun i hi => by
      have e : (sm n fun j => y j * (b j - b n) * b j ^ i) = (sm (n + 1) fun j => y j * b j ^ (i + 1)) - b n * sm (n + 1) fun j => y j * b j ^ i := by
        rw [← sm_mul, ← sm_sub, sm, show y n * b n ^ (i + 1) - b n * (y n * b n ^ i) = 0 by rw [Int.pow_succ, ← Int.mul_assoc, Int.mul_comm (b n)]; omega, Int.add_zero]
        refine sm_congr fun k _ => ?_
        rw [Int.mul_sub, Int.sub_mul, Int.pow_succ, Int.mul_assoc, Int.mul_assoc, Int.mul_comm (b k), Int.mul_comm (y k) (b n * b k ^ i), Int.mul_assoc, Int.mul_comm (b k ^ i) (y k)]
      rw [e]
      exact Int.dvd_sub (hs (i + 1) (by omega)) (Int.dvd_mul_of_dvd_right (hs i (by omega)))) fun i k hi hk => hd i k (by omega) (by omega)
    have hy : ∀ k, k < n → p ∣ y k := fun k hk => by
      rcases hp.or_dvd (hz k hk) with e | e
      · exact e
      · exact absurd e (hd k n (by omega) (by omega) (by omega))
    by_cases e : j = n
    · subst e
      have h0 := hs 0 (by omega)
      rw [sm, Int.pow_zero, Int.mul_one] at h0
      have h1 : p ∣ sm j fun k => y k * b k ^ 0 := sm_dvd fun k hk => Int.dvd_mul_of_dvd_left (hy k hk)
      have := Int.dvd_sub h0 h1
      rwa [show (sm j fun k => y k * b k ^ 0) + y j - (sm j fun k => y k * b k ^ 0) = y j by omega] at this
    · exact hy j (by omega)
/-- the value at y -/
def vl (t : List Int) (y : Int) : Int := doing t (pw y) 0
theorem vl_cons (x : Int) (t : List Int) (y : Int) : vl (x :: t) y = x + y * vl t y := by
  rw [vl, doing_cons, doing_pw t y (0 + 1)]
  show x * y ^ 0 + y ^ 1 * _ = _
  rw [Int.pow_zero, Int.mul_one, Int.pow_succ, Int.pow_zero, Int.one_mul]
  rfl
def syn (b : Int) : List Int → List Int
  | [] => []
  | x :: r => vl (x :: r) b :: syn b r
theorem syn_len (b : Int) : ∀ t, (syn b t).length = t.length
  | [] => rfl
  | x :: r => by rw [syn, List.length_cons, List.length_cons, syn_len b r]
theorem syn_eq (b y : Int) : ∀ t, (y - b) * vl (syn b t) y = y * vl t y - b * vl t b
  | [] => by
    show (y - b) * 0 = y * 0 - b * 0
    omega
  | x :: r => by
    have ih := syn_eq b y r
    rw [syn, vl_cons (vl (x :: r) b), Int.mul_add, ← Int.mul_assoc, Int.mul_comm (y - b) y, Int.mul_assoc, ih, vl_cons, vl_cons]
    generalize vl r b = rb
    generalize vl r y = ry
    simp only [Int.sub_mul, Int.mul_add, Int.mul_sub]
    have e1 := Int.mul_assoc y b rb
    have e2 := Int.mul_left_comm y b rb
    omega
theorem syn_zero {p b : Int} : ∀ t, (∀ x ∈ syn b t, p ∣ x) → (∀ x ∈ t, p ∣ x)
  | [], _ => fun x hx => absurd hx List.not_mem_nil
  | y :: r, h => by
    have ih := syn_zero r fun x hx => h x (List.mem_cons_of_mem _ hx)
    have h0 := h _ List.mem_cons_self
    have hv : ∀ t : List Int, (∀ x ∈ t, p ∣ x) → p ∣ vl t b := fun t ht => sm_dvd fun k hk => Int.dvd_mul_of_dvd_left (ht _ (List.mem_of_getElem? (cf_lt hk)))
    rw [vl_cons] at h0
    intro x hx
    rcases List.mem_cons.mp hx with e | e
    · subst e
      have := Int.dvd_sub h0 (show p ∣ b * vl r b from Int.dvd_mul_of_dvd_right (hv r ih))
      rwa [show x + b * vl r b - b * vl r b = x by omega] at this
    · exact ih x e
/-- as many unlike roots as values: all nought -/
theorem roots_zero {p : Int} (hp : IsPr p) : ∀ (bs f : List Int), bs.Pairwise (fun a b => ¬ p ∣ b - a) → f.length ≤ bs.length → (∀ b ∈ bs, p ∣ vl f b) → ∀ x ∈ f, p ∣ x
  | [], f, _, hl, _ => by
    have : f = [] := List.length_eq_zero_iff.mp (by simpa using hl)
    subst this
    exact fun x hx => absurd hx List.not_mem_nil
  | b :: bs, [], _, _, _ => fun x hx => absurd hx List.not_mem_nil
  | b :: bs, c :: t, hpw, hl, hr => by
    obtain ⟨h1, h2⟩ := List.pairwise_cons.mp hpw
    have hb := hr b List.mem_cons_self
    have ht := syn_zero (b := b) t (roots_zero hp bs (syn b t) h2 (by rw [syn_len]; simpa using hl) fun y hy => by
      have hy' := Int.dvd_sub (hr y (List.mem_cons_of_mem _ hy)) hb
      rw [vl_cons, vl_cons, show c + y * vl t y - (c + b * vl t b) = y * vl t y - b * vl t b by omega, ← syn_eq] at hy'
      rcases hp.or_dvd hy' with e | e
      · exact absurd e (h1 y hy)
      · exact e)
    intro x hx
    rcases List.mem_cons.mp hx with e | e
    · subst e
      rw [vl_cons] at hb
      have hv : p ∣ vl t b := sm_dvd fun k hk => Int.dvd_mul_of_dvd_left (ht _ (List.mem_of_getElem? (cf_lt hk)))
      have := Int.dvd_sub hb (show p ∣ b * vl t b from Int.dvd_mul_of_dvd_right hv)
      rwa [show x + b * vl t b - b * vl t b = x by omega] at this
    · exact ht x e
end Md
end
section
/-! powers by a prime; the shortest rule -/
namespace Md
/-! ## choices -/
def ch : Nat → Nat → Nat
  | _, 0 => 1
  | 0, _ + 1 => 0
  | n + 1, k + 1 => ch n k + ch n (k + 1)
theorem ch_zero (n : Nat) : ch n 0 = 1 := by cases n <;> rfl
theorem ch_big : ∀ (n k : Nat), n < k → ch n k = 0
  | 0, _ + 1, _ => rfl
  | n + 1, k + 1, h => by rw [ch, ch_big n k (by omega), ch_big n (k + 1) (by omega)]
theorem ch_self : ∀ n : Nat, ch n n = 1
  | 0 => rfl
  | n + 1 => by rw [ch, ch_self n, ch_big n (n + 1) (by omega)]
theorem ch_mul : ∀ (n k : Nat), (k + 1) * ch (n + 1) (k + 1) = (n + 1) * ch n k
  | 0, 0 => rfl
  | 0, k + 1 => by simp [ch]
  | n + 1, 0 => by
    have := ch_mul n 0
    have e : ch (n + 1 + 1) (0 + 1) = ch (n + 1) 0 + ch (n + 1) (0 + 1) := rfl
    rw [e, ch_zero]
    rw [ch_zero] at this
    omega
  | n + 1, k + 1 => by
    have h1 := ch_mul n k
    have h2 := ch_mul n (k + 1)
    have e1 : ch (n + 1 + 1) (k + 1 + 1) = ch (n + 1) (k + 1) + ch (n + 1) (k + 1 + 1) := rfl
    have e2 : ch (n + 1) (k + 1) = ch n k + ch n (k + 1) := rfl
    rw [e1, Nat.mul_add, h2]
    rw [show (k + 1 + 1) * ch (n + 1) (k + 1) = (k + 1) * ch (n + 1) (k + 1) + ch (n + 1) (k + 1) by rw [Nat.add_mul (k + 1) 1, Nat.one_mul], h1]
    rw [show (n + 1 + 1) * ch (n + 1) (k + 1) = (n + 1) * ch (n + 1) (k + 1) + ch (n + 1) (k + 1) by rw [Nat.add_mul (n + 1) 1, Nat.one_mul], e2]
    rw [Nat.mul_add]
    omega
theorem binom (a : Int) : ∀ n : Nat, (a + 1) ^ n = sm (n + 1) fun k => (ch n k : Int) * a ^ k
  | 0 => by
    rw [sm_one, Int.pow_zero, Int.pow_zero]
    rfl
  | n + 1 => by
    rw [Int.pow_succ, binom a n, Int.mul_add, Int.mul_one, ← sm_mulr, sm_head (n + 1)]
    have e1 : ∀ i, i < n + 1 → (ch (n + 1) (i + 1) : Int) * a ^ (i + 1) = (ch n i : Int) * a ^ i * a + (ch n (i + 1) : Int) * a ^ (i + 1) := fun i _ => by
      rw [ch, Int.natCast_add, Int.add_mul, Int.pow_succ, Int.mul_assoc (ch n i : Int)]
    rw [sm_congr e1, sm_add]
    have e2 := sm_head n fun k => (ch n k : Int) * a ^ k
    have e3 : (sm (n + 1) fun i => (ch n (i + 1) : Int) * a ^ (i + 1)) = sm n fun i => (ch n (i + 1) : Int) * a ^ (i + 1) := by
      rw [sm, ch_big n (n + 1) (by omega)]
      simp
    rw [e2, e3, ch_zero, ch_zero]
    omega
theorem ch_dvd {p : Int} (hp : IsPr p) {k : Nat} (h0 : 0 < k) (h1 : (k : Int) < p) : p ∣ (ch p.toNat k : Int) := by
  have hpp := hp.pos
  obtain ⟨q, hq⟩ : ∃ q, p.toNat = q + 1 := ⟨p.toNat - 1, by omega⟩
  obtain ⟨j, rfl⟩ : ∃ j, k = j + 1 := ⟨k - 1, by omega⟩
  have h := ch_mul q j
  have h2 : ((j + 1 : Nat) : Int) * (ch (q + 1) (j + 1) : Int) = ((q + 1 : Nat) : Int) * (ch q j : Int) := by
    rw [← Int.natCast_mul, h, Int.natCast_mul]
  rw [← hq, Int.toNat_of_nonneg (by omega)] at h2
  rcases hp.or_dvd (show p ∣ ((j + 1 : Nat) : Int) * (ch p.toNat (j + 1) : Int) from h2 ▸ Int.dvd_mul_of_dvd_left (Int.dvd_refl p)) with e | e
  · exact absurd e (ndvd_of (by omega) h1)
  · exact e
theorem frob1 {p : Int} (hp : IsPr p) (a : Int) : Eqm p ((a + 1) ^ p.toNat) (a ^ p.toNat + 1) := by
  have hpp := hp.1
  obtain ⟨q, hq⟩ : ∃ q, p.toNat = q + 1 := ⟨p.toNat - 1, by omega⟩
  rw [binom, hq, sm, sm_head, ch_self, ch_zero, Int.pow_zero]
  have h : Eqm p (sm q fun i => (ch (q + 1) (i + 1) : Int) * a ^ (i + 1)) 0 := .to0 (sm_dvd fun i hi => Int.dvd_mul_of_dvd_left (by
    rw [← hq]
    exact ch_dvd hp (by omega) (by omega)))
  have h2 := ((Eqm.refl (p := p) (((1 : Nat) : Int) * 1)).add h).add (Eqm.refl (((1 : Nat) : Int) * a ^ (q + 1)))
  refine h2.trans (.of ?_)
  simp
  omega
theorem fermat0 {p : Int} (hp : IsPr p) : ∀ a : Nat, Eqm p ((a : Int) ^ p.toNat) a
  | 0 => .of (by
    have := hp.1
    obtain ⟨q, hq⟩ : ∃ q, p.toNat = q + 1 := ⟨p.toNat - 1, by omega⟩
    rw [hq, Int.pow_succ]
    exact Int.mul_zero _)
  | a + 1 => by
    have h := (frob1 hp (a : Int)).trans ((fermat0 hp a).add (Eqm.refl 1))
    rwa [show (a : Int) + 1 = ((a + 1 : Nat) : Int) by omega] at h
theorem fermat {p a : Int} (hp : IsPr p) (h0 : 0 < a) (h1 : a < p) : Eqm p (a * a ^ (p - 2).toNat) 1 := by
  have hpp := hp.1
  have h := fermat0 hp a.toNat
  rw [Int.toNat_of_nonneg (by omega), show p.toNat = (p - 2).toNat + 1 + 1 by omega, Int.pow_succ] at h
  have h2 : p ∣ (a ^ ((p - 2).toNat + 1) - 1) * a := by
    have : a ^ ((p - 2).toNat + 1) * a - a = (a ^ ((p - 2).toNat + 1) - 1) * a := by rw [Int.sub_mul, Int.one_mul]
    rw [← this]
    exact h
  rcases hp.or_dvd h2 with e | e
  · rw [Int.pow_succ, Int.mul_comm] at e
    exact e
  · exact absurd e (ndvd_of h0 h1)
/-! ## the shortest rule -/
theorem sm_rev : ∀ (n : Nat) (f : Nat → Int), sm (n + 1) f = sm (n + 1) fun k => f (n - k)
  | 0, f => rfl
  | n + 1, f => by
    rw [sm_head (n + 1) fun k => f (n + 1 - k), sm, sm_rev n f, Nat.sub_zero, Int.add_comm]
    congr 1
    exact sm_congr fun i hi => by rw [show n + 1 - (i + 1) = n - i by omega]
/-- what a rule from behind makes of the values up to j -/
def Dd (xs : List Int) (s : Nat → Int) (j : Nat) : Int := sm xs.length fun k => cf xs k * s (j - k)
theorem Dd_ge {xs : List Int} {s : Nat → Int} {j n : Nat} (h : xs.length ≤ n) : (sm n fun k => cf xs k * s (j - k)) = Dd xs s j := sm_ext h fun k h1 _ => by rw [cf_ge h1, Int.zero_mul]
/-- a rule: the last is one -/
def Mon (xs : List Int) : Prop := xs ≠ [] ∧ cf xs (xs.length - 1) = 1
/-- kept by the first n -/
def Obn (p : Int) (xs : List Int) (s : Nat → Int) (n : Nat) : Prop := ∀ i, i + xs.length ≤ n → Eqm p (doing xs s i) 0
theorem Obn.mono {p : Int} {xs : List Int} {s : Nat → Int} {n m : Nat} (h : Obn p xs s n) (hm : m ≤ n) : Obn p xs s m := fun i hi => h i (by omega)
/-- who keeps one more is as long as what goes wrong there and is left -/
theorem massey {p : Int} {xs R : List Int} {s : Nat → Int} {n L : Nat} (hm : Mon xs) (ho : Obn p xs s (n + 1)) (h0 : cf R 0 = 1) (hl : R.length ≤ L + 1) (hz : ∀ j, L ≤ j → j < n → Eqm p (Dd R s j) 0) (hn : ¬ Eqm p (Dd R s n) 0) : n + 1 ≤ L + (xs.length - 1) := by
  have hp := List.length_pos_iff.mpr hm.1
  refine Nat.not_lt.mp fun z => hn ?_
  obtain ⟨l, hl2⟩ : ∃ l, xs.length = l + 1 := ⟨xs.length - 1, by omega⟩
  have e1 : Eqm p (sm (l + 1) fun a => sm R.length fun k => cf xs a * cf R k * s (n - l + a - k)) (Dd R s n) := by
    rw [sm]
    have h1 : Eqm p (sm l fun a => sm R.length fun k => cf xs a * cf R k * s (n - l + a - k)) 0 := (Eqm.sm (g := fun _ => 0) fun a ha => by
      have h2 : (sm R.length fun k => cf xs a * cf R k * s (n - l + a - k)) = cf xs a * Dd R s (n - l + a) := by
        unfold Dd
        rw [← sm_mul]
        exact sm_congr fun k _ => Int.mul_assoc _ _ _
      rw [h2]
      have h3 := (Eqm.refl (p := p) (cf xs a)).mul (hz (n - l + a) (by omega) (by omega))
      rwa [Int.mul_zero] at h3).trans (.of (sm_zero fun _ _ => rfl))
    have h2 : (sm R.length fun k => cf xs l * cf R k * s (n - l + l - k)) = Dd R s n := by
      have h3 := hm.2
      rw [hl2] at h3
      exact sm_congr fun k _ => by rw [show n - l + l = n by omega, show cf xs l = 1 from h3, Int.one_mul]
    rw [h2]
    have := h1.add (Eqm.refl (Dd R s n))
    rwa [Int.zero_add] at this
  refine e1.symm.trans ?_
  rw [sm_comm]
  refine (Eqm.sm (g := fun _ => 0) fun k hk => ?_).trans (.of (sm_zero fun _ _ => rfl))
  have h2 : (sm (l + 1) fun a => cf xs a * cf R k * s (n - l + a - k)) = cf R k * doing xs s (n - l - k) := by
    unfold doing act
    rw [← sm_mul, hl2]
    exact sm_congr fun a _ => by rw [show n - l + a - k = n - l - k + a by omega, Int.mul_assoc, Int.mul_left_comm]
  rw [h2]
  have h3 := (Eqm.refl (p := p) (cf R k)).mul (ho (n - l - k) (by omega))
  rwa [Int.mul_zero] at h3
def De (b : Bm) (s : Nat → Int) (j : Nat) : Int := Dd b.elder s (j - b.ahead)
structure BmG (p : Int) (s : Nat → Int) (n : Nat) (b : Bm) : Prop where
  g0 : cf b.rule 0 = 1
  gz : ∀ j, b.long ≤ j → j < n → Eqm p (Dd b.rule s j) 0
  ge : b.long = 0 ∨ ((∀ j, n + 1 - b.long ≤ j → j < n → Eqm p (De b s j) 0) ∧ Eqm p (De b s n) b.size)
  gm : ∀ xs, Mon xs → Obn p xs s n → b.long + 1 ≤ xs.length
theorem BmG.start {p : Int} {s : Nat → Int} : BmG p s 0 .start where
  g0 := rfl
  gz := fun j _ h => absurd h (Nat.not_lt_zero _)
  ge := .inl rfl
  gm := fun xs h _ => List.length_pos_iff.mpr h.1
theorem lessB_at {p : Int} {b : Bm} {share : Int} {s : Nat → Int} {n j : Nat} (ok : BmOk p n b) (h1 : b.elder.length + b.ahead ≤ j + 1) : Eqm p (Dd (lessB p b share) s j) (Dd b.rule s j - share * De b s j) := by
  have a1 := ok.a1
  have N := max b.rule.length (b.elder.length + b.ahead)
  unfold De Dd
  rw [lessB_len]
  have h2 : Eqm p (sm (max b.rule.length (b.elder.length + b.ahead)) fun k => cf (lessB p b share) k * s (j - k))
      (sm (max b.rule.length (b.elder.length + b.ahead)) fun k => cf b.rule k * s (j - k) - (if b.ahead ≤ k then share * (cf b.elder (k - b.ahead) * s (j - b.ahead - (k - b.ahead))) else 0)) := Eqm.sm fun k hk => by
    have e : Eqm p (cf (lessB p b share) k) (cf b.rule k - (if b.ahead ≤ k then share * cf b.elder (k - b.ahead) else 0)) := by
      rw [lessB, cf_map _ hk, lJ]
      by_cases c1 : b.ahead ≤ k
      · rw [if_pos c1]
        by_cases c2 : k - b.ahead < b.elder.length
        · rw [if_pos ⟨c1, c2⟩]
          exact Eqm.mod _
        · rw [if_neg fun z => c2 z.2, cf_ge (xs := b.elder) (by omega), Int.mul_zero, Int.sub_zero]
          exact Eqm.refl _
      · rw [if_neg c1, if_neg fun z => c1 z.1, Int.sub_zero]
        exact Eqm.refl _
    refine (e.mul (Eqm.refl _)).trans (.of ?_)
    rw [Int.sub_mul]
    congr 1
    by_cases c1 : b.ahead ≤ k
    · rw [if_pos c1, if_pos c1, show j - b.ahead - (k - b.ahead) = j - k by omega, Int.mul_assoc]
    · rw [if_neg c1, if_neg c1, Int.zero_mul]
  refine h2.trans (.of ?_)
  rw [sm_sub]
  congr 1
  · exact sm_ext (by omega) fun k h1 _ => by rw [cf_ge h1, Int.zero_mul]
  · rw [sm_from (fun i => share * (cf b.elder i * s (j - b.ahead - i))) (by omega), sm_mul]
    congr 1
    exact sm_ext (by omega) fun k h1 _ => by rw [cf_ge h1, Int.zero_mul]
theorem offB_eq {p : Int} (b : Bm) (vs : List Int) (n : Nat) : Eqm p (offB p b vs n) (Dd b.rule (cf vs) n) := Eqm.mod _
theorem lessB_0 {p : Int} {b : Bm} {share : Int} {n : Nat} (hp : 1 < p) (ok : BmOk p n b) (h : cf b.rule 0 = 1) : cf (lessB p b share) 0 = 1 := by
  have a1 := ok.a1
  have r1 := ok.r1
  rw [lessB, cf_map _ (by omega), lJ, if_neg (by omega)]
  exact h
theorem BmG.step {p : Int} {vs : List Int} {n : Nat} {b : Bm} (hp : IsPr p) (ok : BmOk p n b) (h : BmG p (cf vs) n b) : BmG p (cf vs) (n + 1) (stepB p vs n b) := by
  have p2 := hp.1
  have p0 := hp.pos
  obtain ⟨g0, gz, ge, gm⟩ := h
  have rl := ok.rl
  have ln := ok.ln
  have el := ok.el
  have a1 := ok.a1
  have ahead : ∀ (b' : Bm), b'.elder = b.elder → b'.ahead = b.ahead + 1 → ∀ j, De b' (cf vs) (j + 1) = De b (cf vs) j := fun b' h1 h2 j => by
    unfold De
    rw [h1, h2, show j + 1 - (b.ahead + 1) = j - b.ahead by omega]
  have later : b.long = 0 ∨ ((∀ j, n + 1 + 1 - b.long ≤ j → j < n + 1 → Eqm p (De { b with ahead := b.ahead + 1 } (cf vs) j) 0) ∧ Eqm p (De { b with ahead := b.ahead + 1 } (cf vs) (n + 1)) b.size) := by
    rcases ge with e | ⟨e1, e2⟩
    · exact .inl e
    · refine .inr ⟨fun j h1 h2 => ?_, ?_⟩
      · obtain ⟨i, rfl⟩ : ∃ i, j = i + 1 := ⟨j - 1, by omega⟩
        rw [ahead { b with ahead := b.ahead + 1 } rfl rfl]
        exact e1 i (by omega) (by omega)
      · rw [ahead { b with ahead := b.ahead + 1 } rfl rfl]
        exact e2
  unfold stepB
  split
  · rename_i hz
    refine ⟨g0, fun j h1 h2 => ?_, later, fun xs hm ho => gm xs hm (ho.mono (by omega))⟩
    by_cases e : j = n
    · subst e
      refine (offB_eq b vs j).symm.trans (.of hz)
    · exact gz j h1 (by omega)
  · rename_i hz
    have hnz : ¬ Eqm p (Dd b.rule (cf vs) n) 0 := fun z => hz (Eqm.eq ((offB_eq b vs n).trans z) (offB_lt p0 b vs n) ⟨Int.le_refl 0, p0⟩)
    have hinv := invF_ok hp ok.s0 ok.s1
    have key : ∀ j, b.long ≤ j → n + 1 - b.long ≤ j → j < n + 1 → Eqm p (Dd (lessB p b (offB p b vs n * invF p b.size % p)) (cf vs) j) 0 := fun j h1 h2 h3 => by
      have hL : b.long ≠ 0 := by omega
      rcases ge with e | ⟨e1, e2⟩
      · exact absurd e hL
      · refine (lessB_at ok (by omega)).trans ?_
        by_cases e : j = n
        · subst e
          have h4 : Eqm p (offB p b vs j * invF p b.size % p * De b (cf vs) j) (offB p b vs j) := by
            refine ((Eqm.mod _).mul e2).trans ?_
            rw [Int.mul_assoc]
            have h5 : Eqm p (invF p b.size * b.size) 1 := by
              rw [Int.mul_comm]
              exact hinv.2.2
            have h6 := (Eqm.refl (p := p) (offB p b vs j)).mul h5
            rwa [Int.mul_one] at h6
          have h7 := (Eqm.refl (p := p) (Dd b.rule (cf vs) j)).sub (h4.trans (offB_eq b vs j))
          rwa [Int.sub_self] at h7
        · have h7 := (gz j h1 (by omega)).sub ((Eqm.refl (offB p b vs n * invF p b.size % p)).mul (e1 j h2 (by omega)))
          rwa [Int.mul_zero, Int.sub_zero] at h7
    split
    · rename_i h2
      refine ⟨lessB_0 (by omega) ok g0, fun j h3 h4 => key j (by have : n + 1 - b.long ≤ j := h3; omega) h3 h4, .inr ⟨fun j h3 h4 => ?_, ?_⟩, fun xs hm ho => ?_⟩
      · have h3' : n + 1 + 1 - (n + 1 - b.long) ≤ j := h3
        show Eqm p (Dd b.rule (cf vs) (j - 1)) 0
        exact gz (j - 1) (by omega) (by omega)
      · show Eqm p (Dd b.rule (cf vs) (n + 1 - 1)) (offB p b vs n)
        exact (offB_eq b vs n).symm
      · have := massey hm ho g0 rl gz hnz
        have := List.length_pos_iff.mpr hm.1
        show n + 1 - b.long + 1 ≤ xs.length
        omega
    · rename_i h2
      exact ⟨lessB_0 (by omega) ok g0, fun j h3 h4 => key j h3 (by have : b.long ≤ j := h3; omega) h4, later, fun xs hm ho => gm xs hm (ho.mono (by omega))⟩
theorem bm_g {p : Int} (hp : IsPr p) (vs : List Int) : ∀ n, BmG p (cf vs) n (bm p vs n)
  | 0 => .start
  | n + 1 => (bm_g hp vs n).step hp (bm_ok (by have := hp.1; omega) vs n)
theorem toldB_at {b : Bm} {k : Nat} (h : k ≤ b.long) : cf (toldB b) k = cf b.rule (b.long - k) := by
  apply cf_of
  unfold toldB
  rw [List.getElem?_reverse (by simp; omega), List.length_map, List.length_range, List.getElem?_map, List.getElem?_range (by omega), show b.long + 1 - 1 - k = b.long - k by omega]
  rfl
theorem toldB_do {b : Bm} {s : Nat → Int} {i : Nat} (hl : b.rule.length ≤ b.long + 1) : doing (toldB b) s i = Dd b.rule s (i + b.long) := by
  unfold doing act
  rw [toldB_len, sm_rev, ← Dd_ge hl]
  exact sm_congr fun k hk => by rw [toldB_at (by omega), show b.long - (b.long - k) = k by omega, show i + (b.long - k) = i + b.long - k by omega]
theorem ruleB_obn {p : Int} (hp : IsPr p) (vs : List Int) : Obn p (ruleB p vs) (cf vs) vs.length := fun i hi => by
  have ok := bm_ok (p := p) (by have := hp.1; omega) vs vs.length
  rw [ruleB, toldB_len] at hi
  rw [ruleB, toldB_do ok.rl]
  exact (bm_g hp vs vs.length).gz _ (by omega) (by omega)
theorem ruleB_vl {p : Int} (hp : IsPr p) (vs : List Int) : Vl p (ruleB p vs) := fun x hx => by
  unfold ruleB toldB at hx
  rw [List.mem_reverse] at hx
  exact Vl.map (fun k _ => (bm_ok (by have := hp.1; omega) vs vs.length).rv.cf hp.pos k) x hx
theorem ruleB_mon {p : Int} (hp : IsPr p) (vs : List Int) : Mon (ruleB p vs) := by
  refine ⟨fun z => ?_, ?_⟩
  · have := toldB_len (bm p vs vs.length)
    rw [show toldB (bm p vs vs.length) = ruleB p vs from rfl, z] at this
    simp at this
  · unfold ruleB
    rw [toldB_len, Nat.add_sub_cancel, toldB_at (Nat.le_refl _), Nat.sub_self]
    exact (bm_g hp vs vs.length).g0
theorem ruleB_min {p : Int} (hp : IsPr p) {vs xs : List Int} (hm : Mon xs) (ho : Obn p xs (cf vs) vs.length) : (ruleB p vs).length ≤ xs.length := by
  unfold ruleB
  rw [toldB_len]
  exact (bm_g hp vs vs.length).gm xs hm ho
end Md
end
section
/-! the law's questions, in plain words -/
namespace Md
/-- obeyed, as it is reckoned -/
def obB (p : Int) (xs vs : List Int) : Bool := ((List.range (vs.length + 1 - xs.length)).map fun i => decide (dotI xs ((vs.drop i).take xs.length) % p = 0)).all id
theorem dot_at {xs vs : List Int} {i : Nat} (h : i + xs.length ≤ vs.length) : dotI xs ((vs.drop i).take xs.length) = doing xs (cf vs) i := by
  rw [dotI_eq, List.length_take, List.length_drop, show min xs.length (min xs.length (vs.length - i)) = xs.length by omega]
  exact sm_congr fun k hk => by rw [cf_take hk, cf_drop]
theorem obB_true {p : Int} {xs vs : List Int} (h : Obn p xs (cf vs) vs.length) : obB p xs vs = true := by
  unfold obB
  rw [List.all_eq_true]
  intro b hb
  obtain ⟨i, hi, rfl⟩ := List.mem_map.mp hb
  have hi' := List.mem_range.mp hi
  by_cases c : xs.length ≤ vs.length
  · refine decide_eq_true ?_
    rw [dot_at (by omega)]
    exact Int.emod_eq_zero_of_dvd (h i (by omega)).zero
  · obtain rfl : i = 0 := by omega
    omega
theorem obB_false {p : Int} {xs vs : List Int} {i : Nat} (hi : i + xs.length ≤ vs.length) (h : ¬ Eqm p (doing xs (cf vs) i) 0) : obB p xs vs = false := by
  cases e : obB p xs vs with
  | false => rfl
  | true =>
    unfold obB at e
    rw [List.all_eq_true] at e
    have := of_decide_eq_true (e _ (List.mem_map.mpr ⟨i, List.mem_range.mpr (by omega), rfl⟩))
    rw [dot_at hi] at this
    exact absurd (.to0 (Int.dvd_of_emod_eq_zero this)) h
theorem obn_of {p : Int} {xs : List Int} {s u : Nat → Int} {n : Nat} (hs : ∀ k, k < n → Eqm p (s k) (u k)) (hu : Ob p xs u) : Obn p xs s n := fun i hi => (Eqm.sm fun k hk => (Eqm.refl _).mul (hs _ (by omega))).trans (hu i)
/-- the first N values of u -/
def row (p : Int) (u : Nat → Int) (N : Nat) : List Int := (List.range N).map fun k => u k % p
theorem row_len (p : Int) (u : Nat → Int) (N : Nat) : (row p u N).length = N := by simp [row]
theorem row_at {p : Int} {u : Nat → Int} {N k : Nat} (h : k < N) : cf (row p u N) k = u k % p := cf_map _ h
theorem row_vl {p : Int} (hp : 0 < p) (u : Nat → Int) (N : Nat) : Vl p (row p u N) := Vl.map fun _ _ => emod_lt hp _
theorem row_obn {p : Int} {xs : List Int} {u : Nat → Int} (N : Nat) (hu : Ob p xs u) : Obn p xs (cf (row p u N)) (row p u N).length := by
  rw [row_len]
  refine obn_of (fun k hk => ?_) hu
  rw [row_at hk]
  exact Eqm.mod _
/-! ## sums of powers -/
structure Pws (p : Int) (n : Nat) (bs ws R : List Int) : Prop where
  pr : IsPr p
  n0 : 0 < n
  bl : bs.length = n
  wl : ws.length = n
  nd : bs.Nodup
  bv : ∀ b ∈ bs, 0 < b ∧ b < p
  wv : ∀ b ∈ ws, 0 < b ∧ b < p
  ok : RulOk p n R
  rt : ∀ b ∈ bs, Root p R b
section
variable {p : Int} {n : Nat} {bs ws R : List Int}
theorem Pws.ob (h : Pws p n bs ws R) : Ob p R (atF bs ws) := ob_at h.rt
theorem ndvd_sub {p a b : Int} (ha : 0 < a ∧ a < p) (hb : 0 < b ∧ b < p) (hne : a ≠ b) : ¬ p ∣ b - a := fun z => hne (Eqm.eq (p := p) (a := b) (b := a) z ⟨by omega, hb.2⟩ ⟨by omega, ha.2⟩).symm
theorem Pws.pw_ (h : Pws p n bs ws R) : bs.Pairwise fun a b => ¬ p ∣ b - a := by
  have : ∀ (l : List Int), (∀ b ∈ l, 0 < b ∧ b < p) → l.Nodup → l.Pairwise fun a b => ¬ p ∣ b - a := by
    intro l
    induction l with
    | nil => intro _ _; exact .nil
    | cons x r ih =>
      intro hv hn
      obtain ⟨h1, h2⟩ := List.nodup_cons.mp hn
      refine List.pairwise_cons.mpr ⟨fun y hy => ndvd_sub (hv x List.mem_cons_self) (hv y (List.mem_cons_of_mem _ hy)) ?_, ih (fun b hb => hv b (List.mem_cons_of_mem _ hb)) h2⟩
      rintro rfl
      exact h1 hy
  exact this bs h.bv h.nd
theorem Pws.mon (h : Pws p n bs ws R) : Mon R := ⟨h.ok.ne, by rw [h.ok.ln]; exact h.ok.one⟩
theorem cf_get {xs : List Int} {k : Nat} (h : k < xs.length) : cf xs k = xs[k] := by
  rw [cf, List.getD_eq_getElem?_getD, List.getElem?_eq_getElem h]
  rfl
theorem Pws.unlike (h : Pws p n bs ws R) {i j : Nat} (hi : i < n) (hj : j < n) (hne : i ≠ j) : ¬ p ∣ cf bs i - cf bs j := by
  have hp := List.pairwise_iff_getElem.mp h.pw_
  have bl := h.bl
  rw [cf_get (by omega), cf_get (by omega)]
  by_cases c : i < j
  · intro z
    have := hp i j (by omega) (by omega) c
    exact this (by
      have := Int.dvd_neg.mpr z
      rwa [show -(bs[i] - bs[j]) = bs[j] - bs[i] by omega] at this)
  · exact hp j i (by omega) (by omega) (by omega)
/-- the shortest rule is the product -/
theorem Pws.rule_eq (h : Pws p n bs ws R) {N : Nat} (hN : 2 * n ≤ N) : ruleB p (row p (atF bs ws) N) = R := by
  have n0 := h.n0
  have hp := h.pr
  have hmin := ruleB_min hp h.mon (row_obn N h.ob)
  have hobn := ruleB_obn hp (row p (atF bs ws) N)
  have hmon := ruleB_mon hp (row p (atF bs ws) N)
  have hvl := ruleB_vl hp (row p (atF bs ws) N)
  generalize hP : ruleB p (row p (atF bs ws) N) = P at hmin hobn hmon hvl
  rw [h.ok.ln] at hmin
  rw [row_len] at hobn
  have hPl := List.length_pos_iff.mpr hmon.1
  have hs : ∀ i, i < n → p ∣ sm n fun j => (cf ws j * vl P (cf bs j)) * cf bs j ^ i := fun i hi => by
    have h1 := hobn i (by omega)
    have h2 : Eqm p (doing P (cf (row p (atF bs ws) N)) i) (doing P (atF bs ws) i) := Eqm.sm fun k hk => (Eqm.refl _).mul (by
      rw [row_at (by omega)]
      exact Eqm.mod _)
    have h3 := (h2.symm.trans h1).zero
    rw [doing_at, h.bl] at h3
    have h4 : (sm n fun j => cf ws j * doing P (pw (cf bs j)) i) = sm n fun j => (cf ws j * vl P (cf bs j)) * cf bs j ^ i := sm_congr fun j _ => by
      rw [doing_pw, Int.mul_assoc]
      congr 1
      exact Int.mul_comm _ _
    rwa [h4] at h3
  have hy := vand hp n _ _ hs fun i j hi hj hne => h.unlike hi hj hne
  have hroot : ∀ b ∈ bs, p ∣ vl P b := fun b hb => by
    obtain ⟨j, hj, rfl⟩ := List.mem_iff_getElem.mp hb
    have := hy j (by rw [← h.bl]; exact hj)
    rw [← cf_get hj]
    rcases hp.or_dvd this with e | e
    · have hw := h.wv _ (List.mem_of_getElem? (cf_lt (xs := ws) (k := j) (by rw [h.wl, ← h.bl]; exact hj)))
      exact absurd e (ndvd_of hw.1 hw.2)
    · exact e
  have hlen : P.length = n + 1 := by
    refine Nat.le_antisymm hmin (Nat.not_lt.mp fun z => ?_)
    have hz := roots_zero hp bs P h.pw_ (by rw [h.bl]; omega) hroot _ (List.mem_of_getElem? (cf_lt (xs := P) (k := P.length - 1) (by omega)))
    rw [hmon.2] at hz
    exact ndvd_of (b := 1) (by decide) hp.1 hz
  have one : cf P n = 1 := by
    have := hmon.2
    rwa [hlen] at this
  have hT := roots_zero hp bs ((List.range n).map fun k => cf P k - cf R k) h.pw_ (by simp [h.bl]) fun b hb => by
    have e : vl ((List.range n).map fun k => cf P k - cf R k) b = vl P b - vl R b := by
      unfold vl doing act
      rw [hlen, h.ok.ln, sm, sm, one, h.ok.one, List.length_map, List.length_range]
      have e1 : (sm n fun k => cf ((List.range n).map fun k => cf P k - cf R k) k * pw b (0 + k)) = (sm n fun k => cf P k * pw b (0 + k)) - sm n fun k => cf R k * pw b (0 + k) := by
        rw [← sm_sub]
        exact sm_congr fun k hk => by rw [cf_map _ hk, Int.sub_mul]
      rw [e1]
      omega
    rw [e]
    exact Int.dvd_sub (hroot b hb) (h.rt b hb 0).zero
  have heq : ∀ k, cf P k = cf R k := fun k => by
    by_cases c : k < n
    · have := hT (cf P k - cf R k) (List.mem_map.mpr ⟨k, List.mem_range.mpr c, rfl⟩)
      exact Eqm.eq this (hvl.cf hp.pos k) (h.ok.vl.cf hp.pos k)
    · by_cases c2 : k = n
      · rw [c2, one, h.ok.one]
      · rw [cf_ge (by omega), cf_ge (by have := h.ok.ln; omega)]
  rw [list_cf P, list_cf R, hlen, h.ok.ln]
  exact List.map_congr_left fun k _ => heq k
/-- the last one more: not obeyed -/
theorem Pws.bent (h : Pws p n bs ws R) {N : Nat} (hN : n + 1 ≤ N) : obB p R ((row p (atF bs ws) N).take (N - 1) ++ [(cf (row p (atF bs ws) N) (N - 1) + 1) % p]) = false := by
  have hl : ((row p (atF bs ws) N).take (N - 1) ++ [(cf (row p (atF bs ws) N) (N - 1) + 1) % p]).length = N := by
    rw [List.length_append, List.length_take, row_len]
    show min (N - 1) N + 1 = N
    omega
  refine obB_false (i := N - (n + 1)) (by rw [hl, h.ok.ln]; omega) fun z => ?_
  have h1 := row_obn N h.ob (N - (n + 1)) (by rw [row_len, h.ok.ln]; omega)
  have h2 : Eqm p (doing R (cf ((row p (atF bs ws) N).take (N - 1) ++ [(cf (row p (atF bs ws) N) (N - 1) + 1) % p])) (N - (n + 1))) (doing R (cf (row p (atF bs ws) N)) (N - (n + 1)) + 1) := by
    unfold doing act
    rw [h.ok.ln, sm, sm, h.ok.one, Int.one_mul, Int.one_mul, show N - (n + 1) + n = N - 1 by omega, Int.add_assoc]
    refine Eqm.add (Eqm.sm fun k hk => (Eqm.refl _).mul (.of ?_)) ?_
    · rw [cf, cf, List.getD_eq_getElem?_getD, List.getD_eq_getElem?_getD, List.getElem?_append_left (by rw [List.length_take, row_len]; omega), List.getElem?_take_of_lt (by omega), cf, List.getD_eq_getElem?_getD]
    · have e : cf ((row p (atF bs ws) N).take (N - 1) ++ [(cf (row p (atF bs ws) N) (N - 1) + 1) % p]) (N - 1) = (cf (row p (atF bs ws) N) (N - 1) + 1) % p := by
        apply cf_of
        rw [List.getElem?_append_right (by rw [List.length_take, row_len]; omega), List.length_take, row_len, show N - 1 - min (N - 1) N = 0 by omega]
        rfl
      rw [e]
      exact Eqm.mod _
  have h3 := (h2.symm.trans z).sub h1
  rw [show doing R (cf (row p (atF bs ws) N)) (N - (n + 1)) + 1 - doing R (cf (row p (atF bs ws) N)) (N - (n + 1)) = 1 by omega, Int.sub_zero] at h3
  exact ndvd_of (b := 1) (by decide) h.pr.1 h3.zero
theorem Pws.more (h : Pws p n bs ws R) (c : Int) : Ob p (timesP p R [c, 1]) (atF bs ws) := fun m => by
  refine (doing_times _ _ h.ok.ne).trans ?_
  have e : doing R (doing [c, 1] (atF bs ws)) m = c * doing R (atF bs ws) m + doing R (atF bs ws) (m + 1) := by
    rw [← doing_lin, ← doing_shift]
    unfold doing act
    rw [← sm_add]
    refine sm_congr fun k _ => ?_
    show cf R k * doing [c, 1] (atF bs ws) (m + k) = cf R k * (c * atF bs ws (m + k)) + cf R k * atF bs ws (m + k + 1)
    rw [doing_two, Int.mul_add]
  rw [e]
  have := ((Eqm.refl (p := p) c).mul (h.ob m)).add (h.ob (m + 1))
  rwa [Int.mul_zero, Int.zero_add] at this
theorem Pws.at0 (h : Pws p n bs ws R) {b : Int} (hb : b ∈ bs) : hor p R b = 0 := Eqm.eq ((hor_eq b R).trans (h.rt b hb 0)) (hor_lt h.pr.pos b R) ⟨Int.le_refl 0, h.pr.pos⟩
theorem cf_rev {xs : List Int} {k : Nat} (h : k < xs.length) : cf xs.reverse k = cf xs (xs.length - 1 - k) := by
  rw [cf, cf, List.getD_eq_getElem?_getD, List.getD_eq_getElem?_getD, List.getElem?_reverse h]
theorem Pws.fst (h : Pws p n bs ws R) : 0 < cf R 0 ∧ cf R 0 < p := by
  have h1 := h.ok.vl.cf h.pr.pos 0
  have h2 := h.ok.fst
  refine ⟨?_, h1.2⟩
  have : cf R 0 ≠ 0 := fun z => h2 (by rw [z]; exact ⟨0, by simp⟩)
  omega
theorem Pws.rev_tr (h : Pws p n bs ws R) : cut R.reverse = R.reverse := cut_id (tr_of_last fun _ => by
  have := h.fst
  have ln := h.ok.ln
  rw [List.length_reverse, cf_rev (by omega), show R.length - 1 - (R.length - 1) = 0 by omega]
  omega)
/-- the rule from behind, its last made one -/
def turnd (p : Int) (R : List Int) : List Int := R.reverse.map fun x => x * (cf R 0 ^ (p - 2).toNat % p) % p
theorem turnd_len (p : Int) (R : List Int) : (turnd p R).length = R.length := by simp [turnd]
theorem turnd_at {p : Int} {R : List Int} {k : Nat} (h : k < R.length) : cf (turnd p R) k = cf R (R.length - 1 - k) * (cf R 0 ^ (p - 2).toNat % p) % p := by
  apply cf_of
  unfold turnd
  rw [List.getElem?_map, List.getElem?_reverse h, cf_lt (by omega)]
  rfl
theorem Pws.turn_mon (h : Pws p n bs ws R) : cf (turnd p R) n = 1 := by
  have ln := h.ok.ln
  rw [turnd_at (by omega), show R.length - 1 - n = 0 by omega]
  refine Eqm.eq ?_ (emod_lt h.pr.pos _) ⟨by decide, h.pr.1⟩
  exact (Eqm.mod _).trans (((Eqm.refl _).mul (Eqm.mod _)).trans (fermat h.pr h.fst.1 h.fst.2))
theorem Pws.turn_ob (h : Pws p n bs ws R) (N : Nat) : obB p (turnd p R) (row p (atF bs ws) N).reverse = true := by
  have ln := h.ok.ln
  refine obB_true fun i hi => ?_
  rw [List.length_reverse, row_len, turnd_len, ln] at hi
  have h1 := row_obn N h.ob (N - 1 - i - n) (by rw [row_len, ln]; omega)
  have h2 : Eqm p (doing (turnd p R) (cf (row p (atF bs ws) N).reverse) i) (cf R 0 ^ (p - 2).toNat % p * doing R (cf (row p (atF bs ws) N)) (N - 1 - i - n)) := by
    unfold doing act
    rw [turnd_len, ln, sm_rev, ← sm_mul]
    refine Eqm.sm fun k hk => ?_
    rw [turnd_at (by omega), cf_rev (by rw [row_len]; omega), row_len, ln, show n + 1 - 1 - (n - k) = k by omega, show N - 1 - (i + (n - k)) = N - 1 - i - n + k by omega]
    refine ((Eqm.mod _).mul (Eqm.refl _)).trans (.of ?_)
    rw [Int.mul_comm (cf R k), Int.mul_assoc]
  have h3 := h2.trans ((Eqm.refl _).mul h1)
  rwa [Int.mul_zero] at h3
end
/-! ## places -/
theorem dif {p : Int} (u : Nat → Int) (m : Nat) : Eqm p (doing [(0 - 1) % p, 1] u m) (u (m + 1) - u m) := by
  rw [doing_two]
  refine (((Eqm.mod _).mul (Eqm.refl _)).add (Eqm.refl _)).trans (.of ?_)
  omega
def oneP (p : Int) : List Int := [(0 - 1) % p, 1]
def twoP (p : Int) : List Int := timesP p (oneP p) (oneP p)
def threeP (p : Int) : List Int := timesP p (twoP p) (oneP p)
theorem ob_two {p : Int} {u : Nat → Int} {b : Int} (h : ∀ m, u (m + 1) - u m = b) : Ob p (twoP p) u := fun m => by
  refine (doing_times (xs := oneP p) (ys := oneP p) u m (by simp [oneP])).trans ?_
  refine (doing_congr (v := fun _ => b) fun k => (dif u k).trans (.of (h k))).trans ((dif (fun _ => b) m).trans (.of ?_))
  omega
theorem rulOne {p : Int} (hp : IsPr p) : RulOk p 1 (oneP p) where
  vl := fun x hx => by
    have := hp.1
    rcases List.mem_cons.mp hx with e | e
    · rw [e]
      exact emod_lt hp.pos _
    · rw [List.mem_singleton] at e
      omega
  ln := rfl
  one := rfl
  fst := ndvd_neg (b := 1) (by decide) hp.1
theorem RulOk.two {p : Int} (hp : IsPr p) : RulOk p 2 (twoP p) := (rulOne hp).step hp (ndvd_neg (b := 1) (by decide) hp.1)
theorem RulOk.three {p : Int} (hp : IsPr p) : RulOk p 3 (threeP p) := (RulOk.two hp).step hp (ndvd_neg (b := 1) (by decide) hp.1)
theorem ob_three {p : Int} (hp : IsPr p) {u : Nat → Int} {b : Int} (h : ∀ m, (u (m + 1 + 1) - u (m + 1)) - (u (m + 1) - u m) = b) : Ob p (threeP p) u := fun m => by
  refine (doing_times (xs := twoP p) (ys := oneP p) u m (RulOk.two hp).ne).trans ?_
  exact (doing_congr (v := fun k => u (k + 1) - u k) fun k => dif u k).trans (ob_two (b := b) h m)
/-! ## rounds -/
def roundP (p : Int) (n : Nat) : List Int := ((0 - 1) % p) :: (List.replicate (n - 1) 0 ++ [1])
theorem roundP_len {p : Int} {n : Nat} (h : 0 < n) : (roundP p n).length = n + 1 := by
  simp [roundP]
  omega
theorem roundP_last {p : Int} {n : Nat} (h : 0 < n) : cf (roundP p n) n = 1 := by
  apply cf_of
  obtain ⟨m, rfl⟩ : ∃ m, n = m + 1 := ⟨n - 1, by omega⟩
  unfold roundP
  rw [List.getElem?_cons_succ, List.getElem?_append_right (by simp)]
  simp
theorem roundP_mid {p : Int} {n k : Nat} (h0 : 0 < k) (h : k < n) : cf (roundP p n) k = 0 := by
  apply cf_of
  obtain ⟨m, rfl⟩ : ∃ m, k = m + 1 := ⟨k - 1, by omega⟩
  unfold roundP
  rw [List.getElem?_cons_succ, List.getElem?_append_left (by simp; omega), List.getElem?_replicate, if_pos (by omega)]
theorem roundP_vl {p : Int} {n : Nat} (hp : 1 < p) : Vl p (roundP p n) := fun x hx => by
  rcases List.mem_cons.mp hx with e | e
  · rw [e]
    exact emod_lt (by omega) _
  · rcases List.mem_append.mp e with e | e
    · have := (List.mem_replicate.mp e).2
      omega
    · rw [List.mem_singleton] at e
      omega
theorem ob_round {p : Int} {n : Nat} {u : Nat → Int} (h0 : 0 < n) (h : ∀ m, u (m + n) = u m) : Ob p (roundP p n) u := fun m => by
  unfold doing act
  rw [roundP_len h0, sm, roundP_last h0]
  obtain ⟨k, rfl⟩ : ∃ k, n = k + 1 := ⟨n - 1, by omega⟩
  rw [sm_head, sm_zero fun i hi => by rw [roundP_mid (by omega) (by omega), Int.zero_mul], h, Nat.add_zero]
  show Eqm p ((0 - 1) % p * u m + 0 + 1 * u m) 0
  refine ((((Eqm.mod _).mul (Eqm.refl _)).add (Eqm.refl 0)).add (Eqm.refl _)).trans (.of ?_)
  omega
/-! ## noughts -/
theorem bm_zero {p : Int} {vs : List Int} : ∀ n, (∀ k, k < n → cf vs k = 0) → bm p vs n = ⟨[1], 0, [1], n + 1, 1⟩
  | 0, _ => rfl
  | n + 1, h => by
    rw [bm, bm_zero n fun k hk => h k (by omega), stepB, if_pos]
    unfold offB
    rw [sm_zero fun k hk => ?_, Int.zero_emod]
    show cf [1] k * cf vs (n - k) = 0
    have hk' : k < 1 := hk
    rw [h (n - k) (by omega), Int.mul_zero]
theorem rule_zero {p : Int} {vs : List Int} (h : ∀ k, cf vs k = 0) : ruleB p vs = [1] := by
  unfold ruleB
  rw [bm_zero _ fun k _ => h k]
  rfl
theorem rule_late {p : Int} (hp : IsPr p) {vs : List Int} {n : Nat} (hl : vs.length = n + 1) (h : ∀ k, k < n → cf vs k = 0) (h1 : cf vs n = 1) : (ruleB p vs).length = n + 2 := by
  unfold ruleB
  rw [toldB_len, hl, bm, bm_zero n h]
  have ho : offB p ⟨[1], 0, [1], n + 1, 1⟩ vs n = 1 := by
    unfold offB
    show sm 1 _ % p = 1
    rw [sm_one]
    show 1 * cf vs (n - 0) % p = 1
    rw [Nat.sub_zero, h1]
    exact Int.emod_eq_of_lt (by decide) hp.1
  unfold stepB
  rw [ho, if_neg (by decide), if_pos (by show 2 * 0 ≤ n; omega)]
  show n + 1 - 0 + 1 = n + 2
  omega
end Md
namespace Md
/-! ## rounds, read -/
theorem flat_rep (xs : List Int) (h : 0 < xs.length) : ∀ (m k : Nat), k < m * xs.length → (List.replicate m xs).flatten[k]? = some (cf xs (k % xs.length))
  | 0, k, hk => by omega
  | m + 1, k, hk => by
    rw [List.replicate_succ, List.flatten_cons]
    by_cases c : k < xs.length
    · rw [List.getElem?_append_left c, Nat.mod_eq_of_lt c]
      exact cf_lt c
    · rw [List.getElem?_append_right (by omega), flat_rep xs h m (k - xs.length) (by rw [Nat.add_mul, Nat.one_mul] at hk; omega), ← Nat.mod_eq_sub_mod (by omega)]
theorem round_take {p : Int} {xs : List Int} {m N : Nat} (hp : 0 < p) (h : 0 < xs.length) (hv : Vl p xs) (hN : N ≤ m * xs.length) : (List.replicate m xs).flatten.take N = row p (fun k => cf xs (k % xs.length)) N := by
  apply List.ext_getElem?
  intro k
  by_cases c : k < N
  · rw [List.getElem?_take_of_lt c, flat_rep xs h m k (by omega), row, List.getElem?_map, List.getElem?_range c]
    have := hv.cf hp (k % xs.length)
    rw [Option.map_some, Int.emod_eq_of_lt this.1 this.2]
  · rw [List.getElem?_eq_none (by simp; omega), List.getElem?_eq_none (by rw [row_len]; omega)]
theorem round_row {p : Int} {xs : List Int} (hp : 0 < p) (hv : Vl p xs) : xs = row p (fun k => cf xs (k % xs.length)) xs.length := by
  rw [row]
  conv => lhs; rw [list_cf xs]
  refine List.map_congr_left fun k hk => ?_
  have := hv.cf hp k
  rw [Nat.mod_eq_of_lt (List.mem_range.mp hk), Int.emod_eq_of_lt this.1 this.2]
/-! ## places -/
theorem lin_dif (a b : Int) (m : Nat) : (a + b * ((m + 1 : Nat) : Int)) - (a + b * (m : Int)) = b := by
  rw [Int.natCast_add, Int.mul_add]
  show a + (b * (m : Int) + b * 1) - (a + b * (m : Int)) = b
  omega
theorem sq_dif (a b c : Int) (m : Nat) : ((a + b * ((m + 1 + 1 : Nat) : Int) + c * ((m + 1 + 1 : Nat) : Int) * ((m + 1 + 1 : Nat) : Int)) - (a + b * ((m + 1 : Nat) : Int) + c * ((m + 1 : Nat) : Int) * ((m + 1 : Nat) : Int)))
    - ((a + b * ((m + 1 : Nat) : Int) + c * ((m + 1 : Nat) : Int) * ((m + 1 : Nat) : Int)) - (a + b * (m : Int) + c * (m : Int) * (m : Int))) = 2 * c := by
  rw [show ((m + 1 + 1 : Nat) : Int) = (m : Int) + 2 by omega, show ((m + 1 : Nat) : Int) = (m : Int) + 1 by omega]
  simp only [Int.mul_add, Int.add_mul, Int.mul_one]
  have e1 : c * (m : Int) * 2 = 2 * (c * (m : Int)) := Int.mul_comm _ _
  have e2 : c * 2 * (m : Int) = 2 * (c * (m : Int)) := by rw [Int.mul_comm c 2, Int.mul_assoc]
  have e3 : c * 2 * 2 = 4 * c := by rw [Int.mul_assoc, Int.mul_comm]; rfl
  have e4 : b * 2 = 2 * b := Int.mul_comm _ _
  omega
end Md
end
namespace K04
open PySem PySem.Spec PyProof.Rows L2 Evl Tb Md
/-- one step of a reading; all that go by themselves -/
local macro_rules | `(tactic| walk_at "d") => `(tactic| with_reducible first
  | refine d_var (by with_unfolding_all rfl) ?_ | refine d_c ?_ | refine d_op ?_ | refine d_un ?_ | refine d_add ?_ | refine d_sub ?_ | refine d_neg ?_
  | refine d_lt ?_ | refine d_le ?_ | refine d_gt ?_ | refine d_ge ?_ | refine d_eq ?_ | refine d_ne ?_ | refine d_isB ?_ | refine d_notB ?_ | refine d_cb ?_ | refine d_nil ?_ | refine d_cons ?_ | refine d_call ?_
  | refine d_int ?_ | refine d_abs ?_ | refine d_max ?_ | refine d_min ?_ | refine d_B ?_ | refine d_test ?_ | refine d_k ?_ | refine d_not ?_ | refine d_and ?_ | refine d_or ?_
  | refine d_andV ?_ | refine d_orV ?_ | refine d_notV ?_ | refine k_notV ?_ | refine d_ifE ?_ | refine k_ifT ?_ | refine k_ifF ?_ | refine d_chain ?_ | refine d_tup ?_ | refine d_lst ?_ | refine d_sl ?_ | refine d_noP ?_ | refine d_part ?_ | refine k_part ?_
  | refine d_seq ?_ | refine d_next ?_ | refine d_asg ?_ | refine d_gName ?_ | refine d_if ?_ | refine d_ret ?_ | refine d_retN ?_ | refine d_drop ?_ | refine d_par ?_ | refine k_par ?_ | refine d_par3 ?_ | refine k_par3 ?_
  | refine d_aug (by with_unfolding_all rfl) ?_ | refine k_aug ?_
  | refine d_for ?_ | refine d_iE ?_ | refine d_iZ ?_ | refine d_iR1 ?_ | refine d_iR2 ?_ | refine d_iR3 ?_ | refine d_iL ?_ | refine d_iT ?_ | refine d_lc ?_ | refine d_iC ?_ | refine d_rT ?_ | refine d_rL ?_ | refine d_rg1 ?_ | refine d_set ?_ | refine d_bm ?_ | refine d_fld ?_ | refine d_sfld ?_ | refine d_gfld ?_ | refine d_faug ?_ | refine d_meth ?_ | refine d_make ?_)
local macro_rules | `(tactic| walk_at "dd") => `(tactic| repeat (walk_at "d"))
/-! ## the text -/
def topS (i : Nat) : Stmt := PySem.Challenge.pw_tollhall_k04_whole_rules_of_rows_a_trill.main.body.getD i (.Pass ⟨0, 0, 0, 0⟩)
abbrev s_is_integer : Stmt := topS 8
abbrev N_is_integer : List Str := ["thing"]
abbrev P_is_integer : List Str := ["thing"]
theorem sc_is_integer : FnScope N_is_integer P_is_integer (defScope s_is_integer) := ⟨rfl, rfl, rfl, by decide +kernel, rfl, by decide +kernel, by decide +kernel⟩
abbrev s_is_within : Stmt := topS 9
abbrev N_is_within : List Str := ["thing", "least", "most"]
abbrev P_is_within : List Str := ["thing", "least", "most"]
theorem sc_is_within : FnScope N_is_within P_is_within (defScope s_is_within) := ⟨rfl, rfl, rfl, by decide +kernel, rfl, by decide +kernel, by decide +kernel⟩
abbrev s_is_listed : Stmt := topS 10
abbrev N_is_listed : List Str := ["thing"]
abbrev P_is_listed : List Str := ["thing"]
theorem sc_is_listed : FnScope N_is_listed P_is_listed (defScope s_is_listed) := ⟨rfl, rfl, rfl, by decide +kernel, rfl, by decide +kernel, by decide +kernel⟩
abbrev s_check_number : Stmt := topS 11
abbrev N_check_number : List Str := ["thing", "least", "most"]
abbrev P_check_number : List Str := ["thing", "least", "most"]
theorem sc_check_number : FnScope N_check_number P_check_number (defScope s_check_number) := ⟨rfl, rfl, rfl, by decide +kernel, rfl, by decide +kernel, by decide +kernel⟩
abbrev s_prime : Stmt := topS 14
abbrev N_prime : List Str := ["number", "at"]
abbrev P_prime : List Str := ["number"]
theorem sc_prime : FnScope N_prime P_prime (defScope s_prime) := ⟨rfl, rfl, rfl, by decide +kernel, rfl, by decide +kernel, by decide +kernel⟩
abbrev s_is_clock : Stmt := topS 15
abbrev N_is_clock : List Str := ["thing"]
abbrev P_is_clock : List Str := ["thing"]
theorem sc_is_clock : FnScope N_is_clock P_is_clock (defScope s_is_clock) := ⟨rfl, rfl, rfl, by decide +kernel, rfl, by decide +kernel, by decide +kernel⟩
abbrev s_inverse_of : Stmt := topS 16
abbrev N_inverse_of : List Str := ["p", "value", "one", "other", "first", "second", "many"]
abbrev P_inverse_of : List Str := ["p", "value"]
theorem sc_inverse_of : FnScope N_inverse_of P_inverse_of (defScope s_inverse_of) := ⟨rfl, rfl, rfl, by decide +kernel, rfl, by decide +kernel, by decide +kernel⟩
abbrev s_dot : Stmt := topS 17
abbrev N_dot : List Str := ["p", "one", "other", "first", "second"]
abbrev P_dot : List Str := ["p", "one", "other"]
theorem sc_dot : FnScope N_dot P_dot (defScope s_dot) := ⟨rfl, rfl, rfl, by decide +kernel, rfl, by decide +kernel, by decide +kernel⟩
abbrev s_check_clock : Stmt := topS 18
abbrev N_check_clock : List Str := ["thing"]
abbrev P_check_clock : List Str := ["thing"]
theorem sc_check_clock : FnScope N_check_clock P_check_clock (defScope s_check_clock) := ⟨rfl, rfl, rfl, by decide +kernel, rfl, by decide +kernel, by decide +kernel⟩
abbrev s_is_polynomial : Stmt := topS 20
abbrev N_is_polynomial : List Str := ["p", "thing", "value"]
abbrev P_is_polynomial : List Str := ["p", "thing"]
theorem sc_is_polynomial : FnScope N_is_polynomial P_is_polynomial (defScope s_is_polynomial) := ⟨rfl, rfl, rfl, by decide +kernel, rfl, by decide +kernel, by decide +kernel⟩
abbrev s_check_polynomial : Stmt := topS 21
abbrev N_check_polynomial : List Str := ["p", "thing"]
abbrev P_check_polynomial : List Str := ["p", "thing"]
theorem sc_check_polynomial : FnScope N_check_polynomial P_check_polynomial (defScope s_check_polynomial) := ⟨rfl, rfl, rfl, by decide +kernel, rfl, by decide +kernel, by decide +kernel⟩
abbrev s_cut_off : Stmt := topS 22
abbrev N_cut_off : List Str := ["values", "many"]
abbrev P_cut_off : List Str := ["values"]
theorem sc_cut_off : FnScope N_cut_off P_cut_off (defScope s_cut_off) := ⟨rfl, rfl, rfl, by decide +kernel, rfl, by decide +kernel, by decide +kernel⟩
abbrev s_product_poly : Stmt := topS 23
abbrev N_product_poly : List Str := ["p", "one", "other", "found", "at", "value", "there", "factor"]
abbrev P_product_poly : List Str := ["p", "one", "other"]
theorem sc_product_poly : FnScope N_product_poly P_product_poly (defScope s_product_poly) := ⟨rfl, rfl, rfl, by decide +kernel, rfl, by decide +kernel, by decide +kernel⟩
abbrev s_over_of : Stmt := topS 24
abbrev N_over_of : List Str := ["p", "one", "other", "left", "turn", "found", "at", "factor", "there", "value"]
abbrev P_over_of : List Str := ["p", "one", "other"]
theorem sc_over_of : FnScope N_over_of P_over_of (defScope s_over_of) := ⟨rfl, rfl, rfl, by decide +kernel, rfl, by decide +kernel, by decide +kernel⟩
abbrev s_check_values : Stmt := topS 29
abbrev N_check_values : List Str := ["p", "values", "value"]
abbrev P_check_values : List Str := ["p", "values"]
theorem sc_check_values : FnScope N_check_values P_check_values (defScope s_check_values) := ⟨rfl, rfl, rfl, by decide +kernel, rfl, by decide +kernel, by decide +kernel⟩
abbrev s_check_rule : Stmt := topS 30
abbrev N_check_rule : List Str := ["p", "poly"]
abbrev P_check_rule : List Str := ["p", "poly"]
theorem sc_check_rule : FnScope N_check_rule P_check_rule (defScope s_check_rule) := ⟨rfl, rfl, rfl, by decide +kernel, rfl, by decide +kernel, by decide +kernel⟩
abbrev s_does_obey : Stmt := topS 31
abbrev N_does_obey : List Str := ["p", "poly", "values", "many", "at"]
abbrev P_does_obey : List Str := ["p", "poly", "values"]
theorem sc_does_obey : FnScope N_does_obey P_does_obey (defScope s_does_obey) := ⟨rfl, rfl, rfl, by decide +kernel, rfl, by decide +kernel, by decide +kernel⟩
abbrev s_obeys : Stmt := topS 32
abbrev N_obeys : List Str := ["p", "poly", "values"]
abbrev P_obeys : List Str := ["p", "poly", "values"]
theorem sc_obeys : FnScope N_obeys P_obeys (defScope s_obeys) := ⟨rfl, rfl, rfl, by decide +kernel, rfl, by decide +kernel, by decide +kernel⟩
abbrev s_check_first : Stmt := topS 37
abbrev N_check_first : List Str := ["p", "poly", "first"]
abbrev P_check_first : List Str := ["p", "poly", "first"]
theorem sc_check_first : FnScope N_check_first P_check_first (defScope s_check_first) := ⟨rfl, rfl, rfl, by decide +kernel, rfl, by decide +kernel, by decide +kernel⟩
abbrev s_power_over : Stmt := topS 38
abbrev N_power_over : List Str := ["p", "poly", "place", "found", "left", "square"]
abbrev P_power_over : List Str := ["p", "poly", "place"]
theorem sc_power_over : FnScope N_power_over P_power_over (defScope s_power_over) := ⟨rfl, rfl, rfl, by decide +kernel, rfl, by decide +kernel, by decide +kernel⟩
abbrev s_value_at : Stmt := topS 39
abbrev N_value_at : List Str := ["p", "poly", "first", "place"]
abbrev P_value_at : List Str := ["p", "poly", "first", "place"]
theorem sc_value_at : FnScope N_value_at P_value_at (defScope s_value_at) := ⟨rfl, rfl, rfl, by decide +kernel, rfl, by decide +kernel, by decide +kernel⟩
abbrev s_continued : Stmt := topS 40
abbrev N_continued : List Str := ["p", "poly", "first", "many", "found"]
abbrev P_continued : List Str := ["p", "poly", "first", "many"]
theorem sc_continued : FnScope N_continued P_continued (defScope s_continued) := ⟨rfl, rfl, rfl, by decide +kernel, rfl, by decide +kernel, by decide +kernel⟩
abbrev s_value_of : Stmt := topS 42
abbrev N_value_of : List Str := ["p", "poly", "value", "found", "share"]
abbrev P_value_of : List Str := ["p", "poly", "value"]
theorem sc_value_of : FnScope N_value_of P_value_of (defScope s_value_of) := ⟨rfl, rfl, rfl, by decide +kernel, rfl, by decide +kernel, by decide +kernel⟩
abbrev s_poly_at : Stmt := topS 43
abbrev N_poly_at : List Str := ["p", "poly", "value"]
abbrev P_poly_at : List Str := ["p", "poly", "value"]
theorem sc_poly_at : FnScope N_poly_at P_poly_at (defScope s_poly_at) := ⟨rfl, rfl, rfl, by decide +kernel, rfl, by decide +kernel, by decide +kernel⟩
abbrev s_turned_about : Stmt := topS 44
abbrev N_turned_about : List Str := ["p", "poly"]
abbrev P_turned_about : List Str := ["p", "poly"]
theorem sc_turned_about : FnScope N_turned_about P_turned_about (defScope s_turned_about) := ⟨rfl, rfl, rfl, by decide +kernel, rfl, by decide +kernel, by decide +kernel⟩
abbrev s_law_hand : Stmt := topS 46
abbrev N_law_hand : List Str := ["script", "cells", "cell"]
abbrev P_law_hand : List Str := ["script"]
theorem sc_law_hand : FnScope N_law_hand P_law_hand (defScope s_law_hand) := ⟨rfl, rfl, rfl, by decide +kernel, rfl, by decide +kernel, by decide +kernel⟩
abbrev s_law_draw : Stmt := topS 47
abbrev N_law_draw : List Str := ["hand", "many", "cell", "digit", "number"]
abbrev P_law_draw : List Str := ["hand", "many"]
theorem sc_law_draw : FnScope N_law_draw P_law_draw (defScope s_law_draw) := ⟨rfl, rfl, rfl, by decide +kernel, rfl, by decide +kernel, by decide +kernel⟩
abbrev s_law_any : Stmt := topS 48
abbrev N_law_any : List Str := ["hand", "some"]
abbrev P_law_any : List Str := ["hand", "some"]
theorem sc_law_any : FnScope N_law_any P_law_any (defScope s_law_any) := ⟨rfl, rfl, rfl, by decide +kernel, rfl, by decide +kernel, by decide +kernel⟩
abbrev s_law_is : Stmt := topS 49
abbrev N_law_is : List Str := ["told", "due"]
abbrev P_law_is : List Str := ["told", "due"]
theorem sc_law_is : FnScope N_law_is P_law_is (defScope s_law_is) := ⟨rfl, rfl, rfl, by decide +kernel, rfl, by decide +kernel, by decide +kernel⟩
abbrev s_law_power : Stmt := topS 50
abbrev N_law_power : List Str := ["p", "value", "many", "found", "here"]
abbrev P_law_power : List Str := ["p", "value", "many"]
theorem sc_law_power : FnScope N_law_power P_law_power (defScope s_law_power) := ⟨rfl, rfl, rfl, by decide +kernel, rfl, by decide +kernel, by decide +kernel⟩
abbrev s_law_times : Stmt := topS 51
abbrev N_law_times : List Str := ["p", "one", "other", "found", "a", "x", "b", "y"]
abbrev P_law_times : List Str := ["p", "one", "other"]
theorem sc_law_times : FnScope N_law_times P_law_times (defScope s_law_times) := ⟨rfl, rfl, rfl, by decide +kernel, rfl, by decide +kernel, by decide +kernel⟩
abbrev s_law_unlike : Stmt := topS 52
abbrev N_law_unlike : List Str := ["hand", "p", "many", "found", "value"]
abbrev P_law_unlike : List Str := ["hand", "p", "many"]
theorem sc_law_unlike : FnScope N_law_unlike P_law_unlike (defScope s_law_unlike) := ⟨rfl, rfl, rfl, by decide +kernel, rfl, by decide +kernel, by decide +kernel⟩
abbrev s_law_at : Stmt := topS 53
abbrev N_law_at : List Str := ["p", "bases", "weights", "place", "base", "weight"]
abbrev P_law_at : List Str := ["p", "bases", "weights", "place"]
theorem sc_law_at : FnScope N_law_at P_law_at (defScope s_law_at) := ⟨rfl, rfl, rfl, by decide +kernel, rfl, by decide +kernel, by decide +kernel⟩
abbrev s_Guessing___init__ : Stmt := inClass (topS 33) 0
abbrev N_Guessing___init__ : List Str := ["self", "p"]
abbrev P_Guessing___init__ : List Str := ["self", "p"]
theorem sc_Guessing___init__ : FnScope N_Guessing___init__ P_Guessing___init__ (defScope s_Guessing___init__) := ⟨rfl, rfl, rfl, by decide +kernel, rfl, by decide +kernel, by decide +kernel⟩
abbrev s_Guessing_off_by : Stmt := inClass (topS 33) 1
abbrev N_Guessing_off_by : List Str := ["self", "values", "at", "total", "back", "share"]
abbrev P_Guessing_off_by : List Str := ["self", "values", "at"]
theorem sc_Guessing_off_by : FnScope N_Guessing_off_by P_Guessing_off_by (defScope s_Guessing_off_by) := ⟨rfl, rfl, rfl, by decide +kernel, rfl, by decide +kernel, by decide +kernel⟩
abbrev s_Guessing_less_elder : Stmt := inClass (topS 33) 2
abbrev N_Guessing_less_elder : List Str := ["self", "share", "wide", "found", "at", "value"]
abbrev P_Guessing_less_elder : List Str := ["self", "share"]
theorem sc_Guessing_less_elder : FnScope N_Guessing_less_elder P_Guessing_less_elder (defScope s_Guessing_less_elder) := ⟨rfl, rfl, rfl, by decide +kernel, rfl, by decide +kernel, by decide +kernel⟩
abbrev s_Guessing_take : Stmt := inClass (topS 33) 3
abbrev N_Guessing_take : List Str := ["self", "values", "at", "off", "later"]
abbrev P_Guessing_take : List Str := ["self", "values", "at"]
theorem sc_Guessing_take : FnScope N_Guessing_take P_Guessing_take (defScope s_Guessing_take) := ⟨rfl, rfl, rfl, by decide +kernel, rfl, by decide +kernel, by decide +kernel⟩
abbrev s_Guessing_told : Stmt := inClass (topS 33) 4
abbrev N_Guessing_told : List Str := ["self", "row"]
abbrev P_Guessing_told : List Str := ["self"]
theorem sc_Guessing_told : FnScope N_Guessing_told P_Guessing_told (defScope s_Guessing_told) := ⟨rfl, rfl, rfl, by decide +kernel, rfl, by decide +kernel, by decide +kernel⟩
abbrev s_rule_of : Stmt := topS 34
abbrev N_rule_of : List Str := ["p", "values", "guessing", "at"]
abbrev P_rule_of : List Str := ["p", "values"]
theorem sc_rule_of : FnScope N_rule_of P_rule_of (defScope s_rule_of) := ⟨rfl, rfl, rfl, by decide +kernel, rfl, by decide +kernel, by decide +kernel⟩
abbrev s_shortest_rule : Stmt := topS 35
abbrev N_shortest_rule : List Str := ["p", "values"]
abbrev P_shortest_rule : List Str := ["p", "values"]
theorem sc_shortest_rule : FnScope N_shortest_rule P_shortest_rule (defScope s_shortest_rule) := ⟨rfl, rfl, rfl, by decide +kernel, rfl, by decide +kernel, by decide +kernel⟩
abbrev s_is_only_rule : Stmt := topS 36
abbrev N_is_only_rule : List Str := ["p", "values"]
abbrev P_is_only_rule : List Str := ["p", "values"]
theorem sc_is_only_rule : FnScope N_is_only_rule P_is_only_rule (defScope s_is_only_rule) := ⟨rfl, rfl, rfl, by decide +kernel, rfl, by decide +kernel, by decide +kernel⟩
abbrev s_law_is_powers_right : Stmt := topS 54
abbrev N_law_is_powers_right : List Str := ["hand", "p", "many", "bases", "weights", "rule", "size", "base", "first", "place", "long", "values", "short", "more", "bent", "back", "last", "one"]
abbrev P_law_is_powers_right : List Str := ["hand", "p", "many"]
theorem sc_law_is_powers_right : FnScope N_law_is_powers_right P_law_is_powers_right (defScope s_law_is_powers_right) := ⟨rfl, rfl, rfl, by decide +kernel, rfl, by decide +kernel, by decide +kernel⟩
abbrev s_law_is_places_right : Stmt := topS 55
abbrev N_law_is_places_right : List Str := ["hand", "p", "one", "two", "three", "a", "b", "c", "place", "line", "bow", "at"]
abbrev P_law_is_places_right : List Str := ["hand", "p"]
theorem sc_law_is_places_right : FnScope N_law_is_places_right P_law_is_places_right (defScope s_law_is_places_right) := ⟨rfl, rfl, rfl, by decide +kernel, rfl, by decide +kernel, by decide +kernel⟩
abbrev s_law_is_round_right : Stmt := topS 56
abbrev N_law_is_round_right : List Str := ["hand", "p", "many", "values", "rule", "place", "long", "told", "size", "at"]
abbrev P_law_is_round_right : List Str := ["hand", "p"]
theorem sc_law_is_round_right : FnScope N_law_is_round_right P_law_is_round_right (defScope s_law_is_round_right) := ⟨rfl, rfl, rfl, by decide +kernel, rfl, by decide +kernel, by decide +kernel⟩
abbrev s_law : Stmt := topS 57
abbrev N_law : List Str := ["script", "hand", "turn", "p", "told"]
abbrev P_law : List Str := ["script"]
theorem sc_law : FnScope N_law P_law (defScope s_law) := ⟨rfl, rfl, rfl, by decide +kernel, rfl, by decide +kernel, by decide +kernel⟩
/-! ## the built-ins are the built-ins -/
structure Bns (mg : Str → Option Value) : Prop where
  h_abs : mg "abs" = none
  h_all : mg "all" = none
  h_bool : mg "bool" = none
  h_enumerate : mg "enumerate" = none
  h_int : mg "int" = none
  h_isinstance : mg "isinstance" = none
  h_len : mg "len" = none
  h_list : mg "list" = none
  h_max : mg "max" = none
  h_min : mg "min" = none
  h_range : mg "range" = none
  h_repr : mg "repr" = none
  h_sum : mg "sum" = none
  h_tuple : mg "tuple" = none
  h_zip : mg "zip" = none
section
variable {P : Program} {w : World} {K : PySem.W.Frag} {mg : Str → Option Value} {base : Heap} {f : Addr} {fd : FuncData}
/-! ## checks -/
def sp_is_integer : Sp := fun vs H Q _ => ∃ i : Int, vs = [.int i] ∧ Q (.bl true) H
theorem ok_is_integer (F : Fun K "is_integer" "is_integer" s_is_integer f fd) (B : Bns mg) : FnOk P w K mg base CX0 1 f fd P_is_integer sp_is_integer := by
  refine F.ok sc_is_integer (fun vs H Q E h => ?_) (fun cdv A outer s H vs Q E hr h => ?_)
  · obtain ⟨i, rfl, _⟩ := h
    rfl
  · obtain ⟨i, rfl, q⟩ := h
    refine ⟨_, (pss_one (ps_ret (pe_and (pe_callB call_isi (by rfl) B.h_isinstance (by decide +kernel) (pa_cons (pv 0) (pa_cons (pe_bltn (v := .ty "int") (by rfl) B.h_int (by decide +kernel) rfl) pa_nil))) (pe_one (pe_not (pe_callB call_isi (by rfl) B.h_isinstance (by decide +kernel) (pa_cons (pv 0) (pa_cons (pe_bltn (v := .ty "bool") (by rfl) B.h_bool (by decide +kernel) rfl) pa_nil)))))))), ?_⟩
    walk_at "dd"
    refine ⟨.int i, .ty "int", .type "int", .type "int", true, rfl, .ty _, .base (.int i), kit_ty (by decide +kernel), ?_⟩
    walk_at "dd"
    refine k_andV (fun _ => ?_) (fun z => nomatch z)
    walk_at "dd"
    refine ⟨.int i, .ty "bool", .type "int", .type "bool", false, rfl, .ty _, .base (.int i), kit_ty (by decide +kernel), ?_⟩
    walk_at "dd"
    exact q
def sp_is_within : Sp := fun vs H Q _ => ∃ i a b : Int, vs = [.int i, .int a, .int b] ∧ Q (.bl (decide (a ≤ i ∧ i ≤ b))) H
theorem ok_is_within (F : Fun K "is_within" "is_within" s_is_within f fd) (O_is_integer : Own P w K mg base "is_integer" 1 P_is_integer sp_is_integer) : FnOk P w K mg base CX0 2 f fd P_is_within sp_is_within := by
  refine F.ok sc_is_within (fun vs H Q E h => ?_) (fun cdv A outer s H vs Q E hr h => ?_)
  · obtain ⟨i, a, b, rfl, _⟩ := h
    rfl
  · obtain ⟨i, a, b, rfl, q⟩ := h
    refine ⟨_, (pss_one (ps_ret (pe_and (pe_own O_is_integer (hr.mono (by decide)) (by rfl) (pa_cons (pv 0) pa_nil)) (pe_one (pe_chain or_le or_le (pv 1) (pv 0) (pv 2)))))), ?_⟩
    walk_at "dd"
    refine ⟨i, rfl, ?_⟩
    refine k_andV (fun _ => ?_) (fun z => nomatch z)
    walk_at "dd"
    refine k_chain (fun e => ?_) (fun e => ?_)
    · walk_at "dd"
      have e' : a ≤ i := of_decide_eq_true e
      rw [show decide (i ≤ b) = decide (a ≤ i ∧ i ≤ b) from decide_eq_decide.mpr ⟨fun z => ⟨e', z⟩, fun z => z.2⟩]
      exact q
    · rw [show false = decide (a ≤ i ∧ i ≤ b) from (decide_eq_false fun z => of_decide_eq_false e z.1).symm]
      exact q
def sp_is_listed (K : PySem.W.Frag) : Sp := fun vs H Q _ => ∃ c a xs, vs = [.ref a] ∧ SqC K c H a xs ∧ ∀ H', Ex H H' → Q (.bl true) H'
theorem ok_is_listed (F : Fun K "is_listed" "is_listed" s_is_listed f fd) (B : Bns mg) : FnOk P w K mg base CX0 1 f fd P_is_listed (sp_is_listed K) := by
  refine F.ok sc_is_listed (fun vs H Q E h => ?_) (fun cdv A outer s H vs Q E hr h => ?_)
  · obtain ⟨c, a, xs, rfl, _⟩ := h
    rfl
  · obtain ⟨c, a, xs, rfl, hs, q⟩ := h
    refine ⟨_, (pss_one (ps_ret (pe_callB call_isiT (by rfl) B.h_isinstance (by decide +kernel) (pa_cons (pv 0) (pa_cons (pe_tup (pa_cons (pe_bltn (v := .ty "list") (by rfl) B.h_list (by decide +kernel) rfl) (pa_cons (pe_bltn (v := .ty "tuple") (by rfl) B.h_tuple (by decide +kernel) rfl) pa_nil))) pa_nil))))), ?_⟩
    walk_at "dd"
    refine k_seq (by decide) fun p hp ep => ?_
    walk_at "dd"
    refine ⟨.ref a, p, [.ty "list", .ty "tuple"], _, [.type "list", .type "tuple"], true, rfl, upd_same, .cons (.ty _) (.cons (.ty _) .nil), SqC.ty (SqC.ex ep hs), ?_, ?_⟩
    · cases c
      · exact kit_any2 (kit_ty (by decide +kernel)) (kit_ty (by decide +kernel))
      · exact kit_any1 (kit_ty (by decide +kernel))
    · walk_at "dd"
      exact q _ ep
def sp_check_number : Sp := fun vs H Q _ => ∃ i a b : Int, vs = [.int i, .int a, .int b] ∧ a ≤ i ∧ i ≤ b ∧ Q .non H
theorem ok_check_number (F : Fun K "check_number" "check_number" s_check_number f fd) (O_is_within : Own P w K mg base "is_within" 2 P_is_within sp_is_within) : FnOk P w K mg base CX0 3 f fd P_check_number sp_check_number := by
  refine F.ok sc_check_number (fun vs H Q E h => ?_) (fun cdv A outer s H vs Q E hr h => ?_)
  · obtain ⟨i, a, b, rfl, _⟩ := h
    rfl
  · obtain ⟨i, a, b, rfl, h1, h2, q⟩ := h
    refine ⟨_, (pss_one (ps_if (pt_not (pt_val (pe_own O_is_within (hr.mono (by decide)) (by rfl) (pa_cons (pv 0) (pa_cons (pv 1) (pa_cons (pv 2) pa_nil)))))) (pss_one ps_never) pss_nil)), ?_⟩
    walk_at "dd"
    refine ⟨i, a, b, rfl, ?_⟩
    rw [decide_eq_true (show a ≤ i ∧ i ≤ b from ⟨h1, h2⟩)]
    walk_at "dd"
    exact q
/-! ## clocks -/
def sp_prime : Sp := fun vs H Q _ => ∃ n : Int, vs = [.int n] ∧ IsPr n ∧ Q (.bl true) H
theorem ok_prime (F : Fun K "prime" "prime" s_prime f fd) : FnOk P w K mg base CX0 1 f fd P_prime sp_prime := by
  refine F.ok sc_prime (fun vs H Q E h => ?_) (fun cdv A outer s H vs Q E hr h => ?_)
  · obtain ⟨n, rfl, _⟩ := h
    rfl
  · obtain ⟨n, rfl, ⟨h2, hm, hp⟩, q⟩ := h
    refine ⟨_, (pss_cons (ps_set (i := 1) sc_prime.nd rfl (by first | exact .inl rfl | exact .inr rfl) pe_int)
      (pss_cons (ps_while PassesOwn.never (pt_cmpR or_le (pe_op or_mul (pv 1) (pv 1)) (pv 0) (nomark _)) (pss_cons (ps_if (pt_cmpR or_eq (pe_op or_mod (pv 0) (pv 1)) pe_int (nomark _)) (pss_one (ps_ret pe_bl)) pss_nil)
      (pss_one (ps_aug (i := 1) sc_prime.nd rfl (by first | exact .inl rfl | exact .inr rfl) pe_int ip_add))))
      (pss_one (ps_ret pe_bl)))), ?_⟩
    walk_at "dd"
    refine d_while (fun m σ' H' => H' = H ∧ ∃ k : Int, σ' = [some (.int n), some (.int k)] ∧ 2 ≤ k ∧ k ≤ 1000001 ∧ m = (1000002 - k).toNat) (1000000 : Nat) ⟨rfl, 2, rfl, by omega, by omega, by omega⟩ ?_
    rintro m σ' H' ⟨rfl, k, rfl, k2, kn, rfl⟩
    walk_at "dd"
    refine d_mul (.inl ⟨by omega, by omega⟩) ?_
    walk_at "dd"
    refine k_if (fun e => ?_) (fun e => ?_)
    · have e' : k * k ≤ n := of_decide_eq_true e
      have hk : k ≤ 1000 := Int.not_lt.mp fun z => by
        have := Int.mul_le_mul (show (1001 : Int) ≤ k by omega) (show (1001 : Int) ≤ k by omega) (by omega) (by omega)
        omega
      refine k_body ?_
      walk_at "dd"
      refine d_mod (by omega) ?_
      walk_at "dd"
      refine k_ifN (decide_eq_false (hp k k2 e')) ?_
      walk_at "dd"
      exact ⟨_, by omega, rfl, k + 1, rfl, by omega, by omega, rfl⟩
    · walk_at "dd"
      exact q
/-- the hours of a clock -/
def sp_is_clock : Sp := fun vs H Q _ => ∃ n : Int, vs = [.int n] ∧ IsPr n ∧ Q (.bl true) H
theorem ok_is_clock (F : Fun K "is_clock" "is_clock" s_is_clock f fd) (O_is_within : Own P w K mg base "is_within" 2 P_is_within sp_is_within) (O_prime : Own P w K mg base "prime" 1 P_prime sp_prime)
    {tH : Tok} (g_MOST_HOURS : mg "MOST_HOURS" = some (.int 1000000 tH)) : FnOk P w K mg base CX0 3 f fd P_is_clock sp_is_clock := by
  refine F.ok sc_is_clock (fun vs H Q E h => ?_) (fun cdv A outer s H vs Q E hr h => ?_)
  · obtain ⟨n, rfl, _⟩ := h
    rfl
  · obtain ⟨n, rfl, hp, q⟩ := h
    refine ⟨_, (pss_one (ps_ret (pe_and (pe_own O_is_within (hr.mono (by decide)) (by rfl) (pa_cons (pv 0) (pa_cons pe_int (pa_cons (pe_glob (v := .int 1000000) (by rfl) g_MOST_HOURS ⟨_, rfl⟩) pa_nil)))) (pe_one (pe_own O_prime (hr.mono (by decide)) (by rfl) (pa_cons (pv 0) pa_nil)))))), ?_⟩
    walk_at "dd"
    refine ⟨n, 2, 1000000, rfl, ?_⟩
    rw [decide_eq_true (show 2 ≤ n ∧ n ≤ 1000000 from ⟨hp.1, hp.2.1⟩)]
    refine k_andV (fun _ => ?_) (fun z => nomatch z)
    walk_at "dd"
    exact ⟨n, rfl, hp, q⟩
def sp_check_clock : Sp := fun vs H Q _ => ∃ n : Int, vs = [.int n] ∧ IsPr n ∧ Q .non H
theorem ok_check_clock (F : Fun K "check_clock" "check_clock" s_check_clock f fd) (O_is_clock : Own P w K mg base "is_clock" 3 P_is_clock sp_is_clock) : FnOk P w K mg base CX0 4 f fd P_check_clock sp_check_clock := by
  refine F.ok sc_check_clock (fun vs H Q E h => ?_) (fun cdv A outer s H vs Q E hr h => ?_)
  · obtain ⟨n, rfl, _⟩ := h
    rfl
  · obtain ⟨n, rfl, hp, q⟩ := h
    refine ⟨_, (pss_one (ps_if (pt_not (pt_val (pe_own O_is_clock (hr.mono (by decide)) (by rfl) (pa_cons (pv 0) pa_nil)))) (pss_one ps_never) pss_nil)), ?_⟩
    walk_at "dd"
    refine ⟨n, rfl, hp, ?_⟩
    walk_at "dd"
    exact q

def sp_inverse_of : Sp := fun vs H Q _ => ∃ p v : Int, vs = [.int p, .int v] ∧ IsPr p ∧ 0 < v ∧ v < p ∧ ∀ x H', Ex H H' → Inv p v x → Q (.int x) H'
theorem ok_inverse_of (F : Fun K "inverse_of" "inverse_of" s_inverse_of f fd) : FnOk P w K mg base CX0 1 f fd P_inverse_of sp_inverse_of := by
  refine F.ok sc_inverse_of (fun vs H Q E h => ?_) (fun cdv A outer s H vs Q E hr h => ?_)
  · obtain ⟨p, v, rfl, _⟩ := h
    rfl
  · obtain ⟨p, v, rfl, hp, v0, vp, q⟩ := h
    have hpp := hp.pos
    have hpm := hp.2.1
    refine ⟨_, (pss_cons (ps_par (i := 2) (j := 3) (by rfl) sc_inverse_of.nd rfl rfl (by decide) rfl rfl (pa_cons (pv 0) (pa_cons (pv 1) pa_nil)) (by rfl))
      (pss_cons (ps_asg (pe_tup (pa_cons pe_int (pa_cons pe_int pa_nil))) (pg_tup (n := 2) rfl (pgs_cons (pg_name (i := 4) sc_inverse_of.nd rfl (by first | exact .inl rfl | exact .inr rfl)) (pgs_cons (pg_name (i := 5) sc_inverse_of.nd rfl (by first | exact .inl rfl | exact .inr rfl)) pgs_nil))))
      (pss_cons (ps_while PassesOwn.never (pt_cmpR or_gt (pv 3) pe_int (nomark _)) (pss_cons (ps_set (i := 6) sc_inverse_of.nd rfl (by first | exact .inl rfl | exact .inr rfl) (pe_op or_div (pv 2) (pv 3)))
      (pss_cons (ps_par (i := 2) (j := 3) (by rfl) sc_inverse_of.nd rfl rfl (by decide) rfl rfl (pa_cons (pv 3) (pa_cons (pe_op or_sub (pv 2) (pe_op or_mul (pv 6) (pv 3))) pa_nil)) (by rfl))
      (pss_one (ps_par (i := 4) (j := 5) (by rfl) sc_inverse_of.nd rfl rfl (by decide) rfl rfl (pa_cons (pv 5) (pa_cons (pe_op or_sub (pv 4) (pe_op or_mul (pv 6) (pv 5))) pa_nil)) (by rfl))))))
      (pss_one (ps_ret (pe_op or_mod (pv 4) (pv 0))))))), ?_⟩
    walk_at "dd"
    refine k_seq (by decide) fun pr hpr epr => ?_
    refine g_pair (.of upd_same) ?_
    refine d_while (fun m σ' H' => Ex H H' ∧ ∃ (a b s t : Int) (y : Option V), σ' = [some (.int p), some (.int v), some (.int a), some (.int b), some (.int s), some (.int t), y] ∧ 0 < a ∧ 0 ≤ b ∧ a ≤ 1000000 ∧ b ≤ 1000000 ∧ Cop a b ∧ p ∣ s * v - a ∧ p ∣ t * v - b ∧ m = b.toNat) v.toNat
      ⟨epr, p, v, 0, 1, none, rfl, hpp, by omega, by omega, by omega, hp.cop (fun z => ?_), ?_, by rw [Int.one_mul, Int.sub_self]; exact ⟨0, by simp⟩, rfl⟩ ?_
    · have := Int.le_of_dvd v0 z
      omega
    · rw [Int.zero_mul]
      exact ⟨-1, by omega⟩
    · rintro m σ' H' ⟨ee, a, b, s, t, y, rfl, a0, b0, am, bm, hc, h1, h2, rfl⟩
      walk_at "dd"
      refine k_if (fun e => ?_) (fun e => ?_)
      · have e' : 0 < b := of_decide_eq_true e
        have hk0 : 0 ≤ a / b := Int.ediv_nonneg (by omega) (by omega)
        have hk1 : a / b ≤ a := Int.ediv_le_self _ (by omega)
        have hmod := Int.mul_ediv_add_emod a b
        have hcm := Int.mul_comm (a / b) b
        have hr0 := Int.emod_nonneg a (show b ≠ 0 by omega)
        have hr1 := Int.emod_lt_of_pos a e'
        refine k_body ?_
        walk_at "dd"
        refine d_div (wide_div e' (b := 20) (by omega) (by decide) (by decide)) ?_
        walk_at "dd"
        refine d_mul (.inl ⟨by omega, by omega⟩) ?_
        walk_at "dd"
        refine d_mul (.inl ⟨by omega, by omega⟩) ?_
        walk_at "dd"
        exact ⟨(a - a / b * b).toNat, by omega, ee, b, a - a / b * b, t, s - a / b * t, some (.int (a / b)), rfl, e', by omega, by omega, by omega, cop_step hc, h2, euclid_step h1 h2, rfl⟩
      · have e' : b = 0 := by
          have := of_decide_eq_false e
          omega
        subst e'
        obtain rfl : a = 1 := cop_end hc a0
        walk_at "dd"
        refine d_mod hpp ?_
        exact q _ _ ee (inv_emod hpp h1)
end
section
variable {P : Program} {w : World} {K : PySem.W.Frag} {mg : Str → Option Value} {base : Heap} {f : Addr} {fd : FuncData}
/-! ## dot, polynomials -/
def sp_dot (K : PySem.W.Frag) : Sp := fun vs H Q _ => ∃ (p : Int) (c1 c2 : Bool) (a b : Addr) (xs ys : List Int), vs = [.int p, .ref a, .ref b] ∧ 0 < p ∧ p ≤ 1000000 ∧ SqC K c1 H a (xs.map .int) ∧ SqC K c2 H b (ys.map .int) ∧ Vl p xs ∧
  xs.length ≤ 1000 ∧ ∀ H', Ex H H' → Q (.int (dotI xs ys % p)) H'
theorem ok_dot (F : Fun K "dot" "dot" s_dot f fd) (B : Bns mg) : FnOk P w K mg base CX0 1 f fd P_dot (sp_dot K) := by
  refine F.ok sc_dot (fun vs H Q E h => ?_) (fun cdv A outer s H vs Q E hr h => ?_)
  · obtain ⟨p, c1, c2, a, b, xs, ys, rfl, _⟩ := h
    rfl
  · obtain ⟨p, c1, c2, a, b, xs, ys, rfl, p0, p1, ha, hb, hx, hl, q⟩ := h
    refine ⟨_, (pss_one (ps_ret (pe_op or_mod (pe_callB (cr_sum rfl) (by rfl) B.h_sum (by decide +kernel) (pa_cons (pe_lc (own := [("first", 3), ("second", 4)]) (g := (gTup K 2 (gCons (gName 3) (gCons (gName 4) gNil)))) (tt := tYes) (te := (tOp rMulI (tVar 3) (tVar 4))) (by rfl) sc_dot.nd (pi_Z (by rfl) B.h_zip (pa_cons (pv 1) (pa_cons (pv 2) pa_nil))) (blkOk_by (own := [("first", 3), ("second", 4)]) (N := N_dot) (sc := defScope s_dot) (by decide +kernel)) (fun _ _ _ _ _ => (pg_tup (n := 2) rfl (pgs_cons (pg_name (i := 3) sc_dot.nd rfl (by first | exact .inl rfl | exact .inr rfl)) (pgs_cons (pg_name (i := 4) sc_dot.nd rfl (by first | exact .inl rfl | exact .inr rfl)) pgs_nil)))) (fun _ _ _ _ _ => pts_nil) (fun _ _ _ _ _ => (pe_op or_mul (pv 3) (pv 4)))) pa_nil)) (pv 0)))), ?_⟩
    walk_at "dd"
    refine k_Z ha hb ?_
    refine k_lcP (walk_Z (n := min xs.length ys.length) (by simp)) (fun i => .int (cf xs i * cf ys i)) (by omega) (fun H' e => ⟨ha.ex e, hb.ex e⟩) (fun _ _ => rfl) (fun i x y H' H2 hi e ex ey e2 Q q => ?_) (fun l H' hl e el => ?_)
    · obtain ⟨rfl, h1⟩ := int_at ex
      obtain ⟨rfl, h2⟩ := int_at ey
      walk_at "dd"
      have := hx.cf p0 i
      refine d_mul (.inl ⟨by omega, by omega⟩) ?_
      exact q _ e2
    · rw [map_ints] at el
      walk_at "dd"
      refine d_sum (.inl (.inl el)) ?_
      walk_at "dd"
      refine d_mod p0 ?_
      rw [sum_map_range, ← dotI_eq]
      exact q _ e
def sp_is_polynomial (K : PySem.W.Frag) : Sp := fun vs H Q _ => ∃ (p : Int) (a : Addr) (xs : List Int), vs = [.int p, .ref a] ∧ SqT K H a (xs.map .int) ∧ Vl p xs ∧ Tr xs ∧ xs.length ≤ 1000 ∧ ∀ H', Ex H H' → Q (.bl true) H'
theorem ok_is_polynomial (F : Fun K "is_polynomial" "is_polynomial" s_is_polynomial f fd) (B : Bns mg) (O_is_within : Own P w K mg base "is_within" 2 P_is_within sp_is_within) : FnOk P w K mg base CX0 3 f fd P_is_polynomial (sp_is_polynomial K) := by
  refine F.ok sc_is_polynomial (fun vs H Q E h => ?_) (fun cdv A outer s H vs Q E hr h => ?_)
  · obtain ⟨p, a, xs, rfl, _⟩ := h
    rfl
  · obtain ⟨p, a, xs, rfl, ha, hv, ht, hl, q⟩ := h
    refine ⟨_, (pss_cons (ps_if (pt_not (pt_val (pe_callB call_isi (by rfl) B.h_isinstance (by decide +kernel) (pa_cons (pv 1) (pa_cons (pe_bltn (v := .ty "tuple") (by rfl) B.h_tuple (by decide +kernel) rfl) pa_nil))))) (pss_one (ps_ret pe_bl)) pss_nil)
      (pss_cons (ps_if (pt_not (pt_val (pe_callB (cr_all rfl) (by rfl) B.h_all (by decide +kernel) (pa_cons (pe_lc (own := [("value", 2)]) (g := (gName 2)) (tt := tYes) (te := (tCall (sp_is_within) [] E0 (tCons (tVar 2) (tCons (tC (.int 0)) (tCons (tOp rSubI (tVar 0) (tC (.int 1))) tNil))))) (by rfl) sc_is_polynomial.nd (pi_tup (pv 1)) (blkOk_by (own := [("value", 2)]) (N := N_is_polynomial) (sc := defScope s_is_polynomial) (by decide +kernel)) (fun _ _ _ _ _ => (pg_name (i := 2) sc_is_polynomial.nd rfl (by first | exact .inl rfl | exact .inr rfl))) (fun _ _ _ _ _ => pts_nil) (fun _ _ _ _ _ => (pe_own O_is_within (hr.mono (by decide)) (by rfl) (pa_cons (pv 2) (pa_cons pe_int (pa_cons (pe_op or_sub (pv 0) pe_int) pa_nil)))))) pa_nil)))) (pss_one (ps_ret pe_bl)) pss_nil)
      (pss_one (ps_ret (pe_or (pe_cmpR or_eq (pe_callB cr_lenC (by rfl) B.h_len (by decide +kernel) (pa_cons (pv 1) pa_nil)) pe_int (nomark _)) (pe_one (pe_cmpR or_ne (pe_ix ix_C (pv 1) (pe_un ur_neg pe_int) (fun _ _ => rfl)) pe_int (nomark _)))))))), ?_⟩
    walk_at "dd"
    refine ⟨.ref a, .ty "tuple", .type "tuple", .type "tuple", true, rfl, .ty _, SqC.ty (c := false) ha, kit_ty (by decide +kernel), ?_⟩
    walk_at "dd"
    refine k_ifN rfl ?_
    walk_at "dd"
    refine k_T ha ?_
    refine k_lcN walk_tup (fun i => .bl true) (by simpa using Nat.le_trans hl (by decide)) (fun H' e => ex_t e ha) (fun _ => rfl) (fun i x H' H2 hi e y => ?_) (fun l H' hl' e el => ?_)
    · obtain ⟨rfl, y⟩ := y
      obtain ⟨rfl, h1⟩ := int_at y
      refine ⟨Ex.refl _, fun Q q => ?_⟩
      walk_at "dd"
      refine ⟨cf xs i, 0, p - 1, rfl, ?_⟩
      have := hv _ (List.mem_of_getElem? (cf_lt h1))
      rw [decide_eq_true (show 0 ≤ cf xs i ∧ cf xs i ≤ p - 1 by omega)]
      exact q _ (Ex.refl _)
    · rw [map_bls] at el
      walk_at "dd"
      refine d_all (.inl (.inl el)) ?_
      rw [all_true fun _ _ => rfl]
      walk_at "dd"
      refine k_ifN rfl ?_
      walk_at "dd"
      have ha' := ex_t e ha
      refine d_lenT ha' ?_
      walk_at "dd"
      refine k_orV (fun _ => ?_) (fun z => ?_)
      · exact q _ e
      · walk_at "dd"
        have hne : xs ≠ [] := fun z' => by
          subst z'
          simp at z
        refine d_ixT ha' (ati_last hne) ?_
        walk_at "dd"
        rw [decide_eq_false (tr_last ht hne)]
        exact q _ e
def sp_check_polynomial (K : PySem.W.Frag) : Sp := fun vs H Q _ => ∃ (p : Int) (a : Addr) (xs : List Int), vs = [.int p, .ref a] ∧ SqT K H a (xs.map .int) ∧ Vl p xs ∧ Tr xs ∧ xs.length ≤ 1000 ∧ ∀ H', Ex H H' → Q .non H'
theorem ok_check_polynomial (F : Fun K "check_polynomial" "check_polynomial" s_check_polynomial f fd) (O_is_polynomial : Own P w K mg base "is_polynomial" 3 P_is_polynomial (sp_is_polynomial K)) : FnOk P w K mg base CX0 4 f fd P_check_polynomial (sp_check_polynomial K) := by
  refine F.ok sc_check_polynomial (fun vs H Q E h => ?_) (fun cdv A outer s H vs Q E hr h => ?_)
  · obtain ⟨p, a, xs, rfl, _⟩ := h
    rfl
  · obtain ⟨p, a, xs, rfl, ha, hv, ht, hl, q⟩ := h
    refine ⟨_, (pss_one (ps_if (pt_not (pt_val (pe_own O_is_polynomial (hr.mono (by decide)) (by rfl) (pa_cons (pv 0) (pa_cons (pv 1) pa_nil))))) (pss_one ps_never) pss_nil)), ?_⟩
    walk_at "dd"
    refine ⟨p, a, xs, rfl, ha, hv, ht, hl, fun H' e => ?_⟩
    walk_at "dd"
    exact q _ e
/-- a list or tuple of integers, cut -/
def sp_cut_off (K : PySem.W.Frag) : Sp := fun vs H Q _ => ∃ (c : Bool) (a : Addr) (xs : List Int), vs = [.ref a] ∧ SqC K c H a (xs.map .int) ∧ xs.length ≤ 10000 ∧ ∀ q H', Ex H H' → SqT K H' q ((cut xs).map .int) → Q (.ref q) H'
theorem ok_cut_off (F : Fun K "cut_off" "cut_off" s_cut_off f fd) (B : Bns mg) : FnOk P w K mg base CX0 1 f fd P_cut_off (sp_cut_off K) := by
  refine F.ok sc_cut_off (fun vs H Q E h => ?_) (fun cdv A outer s H vs Q E hr h => ?_)
  · obtain ⟨c, a, xs, rfl, _⟩ := h
    rfl
  · obtain ⟨c, a, xs, rfl, ha, hl, q⟩ := h
    refine ⟨_, (pss_cons (ps_set (i := 1) sc_cut_off.nd rfl (by first | exact .inl rfl | exact .inr rfl) (pe_callB cr_lenC (by rfl) B.h_len (by decide +kernel) (pa_cons (pv 0) pa_nil)))
      (pss_cons (ps_while PassesOwn.never (PW.pt (pw_and (pt_cmpR or_gt (pv 1) pe_int (nomark _)) (pw_and1 (pt_cmpR or_eq (pe_ix ix_C (pv 0) (pe_op or_sub (pv 1) pe_int) (fun _ _ => rfl)) pe_int (nomark _))))) (pss_one (ps_aug (i := 1) sc_cut_off.nd rfl (by first | exact .inl rfl | exact .inr rfl) pe_int ip_sub)))
      (pss_one (ps_ret (pe_callTy cr_tupC (by rfl) B.h_tuple (by decide +kernel) (pa_cons (pe_slice sl_C (pv 0) po_none (po_some (pv 1))) pa_nil)))))), ?_⟩
    walk_at "dd"
    refine d_lenC ha ?_
    walk_at "dd"
    refine d_while (fun m σ' H' => H' = H ∧ ∃ (k : Nat) (z : Int), z = (k : Int) ∧ σ' = [some (.ref a), some (.int z)] ∧ k ≤ xs.length ∧ (∀ j, k ≤ j → cf xs j = 0) ∧ m = k) xs.length ⟨rfl, xs.length, _, by simp, rfl, Nat.le_refl _, fun j hj => cf_ge hj, rfl⟩ ?_
    rintro m σ' H' ⟨rfl, k, z, hz, rfl, hk, h0, rfl⟩
    have fin : ∀ j, j ≤ xs.length → (∀ i, j ≤ i → cf xs i = 0) → (j ≠ 0 → cf xs (j - 1) ≠ 0) → xs.take j = cut xs := fun j hj hz hn => by
      rw [← cut_take j hj hz, cut_id (tr_of_last fun hne => ?_)]
      rw [List.length_take, Nat.min_eq_left hj]
      have hj0 : j ≠ 0 := by
        rintro rfl
        exact hne List.take_zero
      rw [cf, List.getD_eq_getElem?_getD, List.getElem?_take_of_lt (by omega), cf_lt (by omega)]
      exact hn hj0
    walk_at "dd"
    refine k_and (fun e => ?_) (fun e => ?_)
    · have e' := of_decide_eq_true e
      walk_at "dd"
      refine d_ixC ha (ati (j := m - 1) (by omega) (by omega)) ?_
      walk_at "dd"
      refine k_if (fun e2 => ?_) (fun e2 => ?_)
      · have e2' := of_decide_eq_true e2
        refine k_body ?_
        walk_at "dd"
        refine ⟨_, by omega, rfl, m - 1, z - 1, by omega, rfl, by omega, fun j hj => ?_, rfl⟩
        by_cases c1 : j = m - 1
        · rw [c1]
          exact e2'
        · exact h0 j (by omega)
      · walk_at "dd"
        refine d_slC ha fun l H' ee hs => ?_
        rw [cutV_to' hz, ← List.map_take, fin m hk h0 fun _ => of_decide_eq_false e2] at hs
        walk_at "dd"
        exact d_tupC hs fun p H2 e3 hp => q _ _ (ee.trans e3) hp
    · have e' := of_decide_eq_false e
      refine k_ifF ?_
      walk_at "dd"
      refine d_slC ha fun l H' ee hs => ?_
      rw [cutV_to' hz, ← List.map_take, fin m hk h0 fun z => by omega] at hs
      walk_at "dd"
      exact d_tupC hs fun p H2 e3 hp => q _ _ (ee.trans e3) hp
end
section
variable {P : Program} {w : World} {K : PySem.W.Frag} {mg : Str → Option Value} {base : Heap} {f : Addr} {fd : FuncData}
def sp_product_poly (K : PySem.W.Frag) : Sp := fun vs H Q _ => ∃ (p : Int) (a b : Addr) (xs ys : List Int), vs = [.int p, .ref a, .ref b] ∧ 0 < p ∧ p ≤ 1000000 ∧ SqT K H a (xs.map .int) ∧ SqT K H b (ys.map .int) ∧ Vl p xs ∧ Vl p ys ∧
  xs.length ≤ 1000 ∧ ys.length ≤ 1000 ∧ ∀ q H', Ex H H' → SqT K H' q ((prodP p xs ys).map .int) → Q (.ref q) H'
theorem ok_product_poly (F : Fun K "product_poly" "product_poly" s_product_poly f fd) (B : Bns mg) (O_cut_off : Own P w K mg base "cut_off" 1 P_cut_off (sp_cut_off K)) : FnOk P w K mg base CX0 2 f fd P_product_poly (sp_product_poly K) := by
  refine F.ok sc_product_poly (fun vs H Q E h => ?_) (fun cdv A outer s H vs Q E hr h => ?_)
  · obtain ⟨p, a, b, xs, ys, rfl, _⟩ := h
    rfl
  · obtain ⟨p, a, b, xs, ys, rfl, p0, p1, ha, hb, hx, hy, lx, ly, q⟩ := h
    refine ⟨_, (pss_cons (ps_set (i := 3) sc_product_poly.nd rfl (by first | exact .inl rfl | exact .inr rfl) (pe_op op_rep (pe_lst (pa_cons pe_int pa_nil)) (pe_op or_add (pe_callB cr_lenC (by rfl) B.h_len (by decide +kernel) (pa_cons (pv 1) pa_nil)) (pe_callB cr_lenC (by rfl) B.h_len (by decide +kernel) (pa_cons (pv 2) pa_nil)))))
      (pss_cons (ps_for PassesOwn.never rfl (pi_E (by rfl) B.h_enumerate (pa_cons (pv 1) pa_nil)) (pg_tup (n := 2) rfl (pgs_cons (pg_name (i := 4) sc_product_poly.nd rfl (by first | exact .inl rfl | exact .inr rfl)) (pgs_cons (pg_name (i := 5) sc_product_poly.nd rfl (by first | exact .inl rfl | exact .inr rfl)) pgs_nil))) (pss_one (ps_for PassesOwn.never rfl (pi_E (by rfl) B.h_enumerate (pa_cons (pv 2) pa_nil)) (pg_tup (n := 2) rfl (pgs_cons (pg_name (i := 6) sc_product_poly.nd rfl (by first | exact .inl rfl | exact .inr rfl)) (pgs_cons (pg_name (i := 7) sc_product_poly.nd rfl (by first | exact .inl rfl | exact .inr rfl)) pgs_nil))) (pss_one (ps_asg (pe_op or_mod (pe_op or_add (pe_ix ix_C (pv 3) (pe_op or_add (pv 4) (pv 6)) (fun _ _ => rfl)) (pe_op or_mul (pv 5) (pv 7))) (pv 0)) (pg_sub (pv 3) (pe_op or_add (pv 4) (pv 6)) set_list))))))
      (pss_one (ps_ret (pe_own O_cut_off (hr.mono (by decide)) (by rfl) (pa_cons (pv 3) pa_nil)))))), ?_⟩
    walk_at "dd"
    refine k_seq (by decide) fun z hz ez => ?_
    walk_at "dd"
    refine d_lenT (ex_t ez ha) ?_
    walk_at "dd"
    refine d_lenT (ex_t ez hb) ?_
    walk_at "dd"
    refine d_rep upd_same (by omega) (by simp; omega) (by simp; omega) fun l hl el => ?_
    rw [show (((xs.map V.int).length : Int) + ((ys.map V.int).length : Int)).toNat = xs.length + ys.length by simp; omega, rep_ints, ← pF_zero p xs ys]
    walk_at "dd"
    have hl0 : H l = none := none_of ez hl
    refine k_E (c := false) (ex_t (ez.trans (Ex.new hl)) ha) ?_
    refine k_for walk_E (fun i σ' H' => Ex H H' ∧ H' l = some (.lst ((pF p xs ys (xs.length + ys.length) i).map .int)) ∧ ∃ o1 o2 o3 o4, σ' = [some (.int p), some (.ref a), some (.ref b), some (.ref l), o1, o2, o3, o4])
      ⟨ez.trans (Ex.new hl), upd_same, none, none, none, none, rfl⟩ (fun i σ' H' _ h => ex_t h.1 ha) ?_ ?_
    · rintro i v σ' H' H2 hi ⟨e, hF, o1, o2, o3, o4, rfl⟩ ⟨T, x1, x2, rfl, hT, rfl, e1, e2⟩
      obtain rfl := Option.some.inj e1
      obtain ⟨rfl, hix⟩ := int_at e2
      refine g_pair (.of upd_same) ?_
      walk_at "dd"
      have eT := e.trans (Ex.new (o := .tup [.int (i : Nat), .int (cf xs i)]) hT)
      refine k_E (c := false) (ex_t eT hb) ?_
      refine k_for walk_E (fun j σ' H' => Ex H H' ∧ H' l = some (.lst ((pG p xs ys (xs.length + ys.length) i j).map .int)) ∧ ∃ o3 o4, σ' = [some (.int p), some (.ref a), some (.ref b), some (.ref l), some (.int (i : Nat)), some (.int (cf xs i)), o3, o4])
        ⟨eT, by rw [pG_zero]; exact Ex.new hT _ _ hF, o3, o4, rfl⟩ (fun i σ' H' _ h => ex_t h.1 hb) ?_ ?_
      · rintro j v σ' H' H2 hj ⟨e, hF, o3, o4, rfl⟩ ⟨T, x1, x2, rfl, hT, rfl, e1, e2⟩
        obtain rfl := Option.some.inj e1
        obtain ⟨rfl, hjy⟩ := int_at e2
        refine g_pair (.of upd_same) ?_
        walk_at "dd"
        have hF' := Ex.new (o := .tup [.int (j : Nat), .int (cf ys j)]) hT _ _ hF
        refine d_ixL (.inl (.inl hF')) (ati (j := i + j) (by omega) (by rw [pG_len]; omega)) ?_
        walk_at "dd"
        have := hx.cf p0 i
        refine d_mul (.inl ⟨by omega, by omega⟩) ?_
        walk_at "dd"
        refine d_mod p0 ?_
        walk_at "dd"
        refine k_set (j := i + j) hF' (by omega) (by rw [List.length_map, pG_len]; omega) ?_
        refine ⟨Ex.mut (e.trans (Ex.new hT)) hl0, ?_, _, _, rfl⟩
        rw [upd_same, ← List.map_set, pG_step (by omega)]
      · rintro σ' H' ⟨e, hF, o3, o4, rfl⟩
        rw [List.length_map, pG_end] at hF
        exact ⟨e, hF, _, _, _, _, rfl⟩
    · rintro σ' H' ⟨e, hF, o1, o2, o3, o4, rfl⟩
      rw [List.length_map] at hF
      walk_at "dd"
      exact ⟨true, l, _, rfl, .inl (.inl hF), by rw [pF_len]; omega, fun r H2 e2 hr => q r H2 (e.trans e2) hr⟩
def sp_over_of (K : PySem.W.Frag) : Sp := fun vs H Q _ => ∃ (p : Int) (a b : Addr) (xs ys : List Int), vs = [.int p, .ref a, .ref b] ∧ IsPr p ∧ SqT K H a (xs.map .int) ∧ SqT K H b (ys.map .int) ∧ Vl p xs ∧ Vl p ys ∧
  xs.length ≤ 1000 ∧ ys.length ≤ 1000 ∧ ys ≠ [] ∧ Tr ys ∧ ∀ T q r qs rs H', Ex H H' → SqT K H' T [.ref q, .ref r] → SqT K H' q (qs.map .int) → SqT K H' r (rs.map .int) → OverOk p xs ys qs rs → Q (.ref T) H'
theorem ok_over_of (F : Fun K "over_of" "over_of" s_over_of f fd) (B : Bns mg) (O_cut_off : Own P w K mg base "cut_off" 1 P_cut_off (sp_cut_off K)) (O_inverse_of : Own P w K mg base "inverse_of" 1 P_inverse_of sp_inverse_of) :
    FnOk P w K mg base CX0 2 f fd P_over_of (sp_over_of K) := by
  refine F.ok sc_over_of (fun vs H Q E h => ?_) (fun cdv A outer s H vs Q E hr h => ?_)
  · obtain ⟨p, a, b, xs, ys, rfl, _⟩ := h
    rfl
  · obtain ⟨p, a, b, xs, ys, rfl, hp, ha, hb, hx, hy, lx, ly, yn, yt, q⟩ := h
    have p0 := hp.pos
    have p1 := hp.2.1
    have yl := List.length_pos_iff.mpr yn
    have last := hy.cf p0 (ys.length - 1)
    have lastn := tr_last yt yn
    refine ⟨_, (pss_cons (ps_par (i := 3) (j := 4) (by rfl) sc_over_of.nd rfl rfl (by decide) rfl rfl (pa_cons (pe_callTy cr_lstC (by rfl) B.h_list (by decide +kernel) (pa_cons (pv 1) pa_nil)) (pa_cons (pe_own O_inverse_of (hr.mono (by decide)) (by rfl) (pa_cons (pv 0) (pa_cons (pe_ix ix_C (pv 2) (pe_un ur_neg pe_int) (fun _ _ => rfl)) pa_nil))) pa_nil)) (by rfl))
      (pss_cons (ps_set (i := 5) sc_over_of.nd rfl (by first | exact .inl rfl | exact .inr rfl) (pe_op op_rep (pe_lst (pa_cons pe_int pa_nil)) (pe_callB (cr_max2 rfl) (by rfl) B.h_max (by decide +kernel) (pa_cons pe_int (pa_cons (pe_op or_add (pe_op or_sub (pe_callB cr_lenC (by rfl) B.h_len (by decide +kernel) (pa_cons (pv 1) pa_nil)) (pe_callB cr_lenC (by rfl) B.h_len (by decide +kernel) (pa_cons (pv 2) pa_nil))) pe_int) pa_nil)))))
      (pss_cons (ps_for PassesOwn.never rfl (pi_list (pe_revL (pe_listRg rfl (by rfl) B.h_list (prg_1 (by rfl) B.h_range (pe_callB cr_lenC (by rfl) B.h_len (by decide +kernel) (pa_cons (pv 5) pa_nil)))))) (pg_name (i := 6) sc_over_of.nd rfl (by first | exact .inl rfl | exact .inr rfl)) (pss_cons (ps_set (i := 7) sc_over_of.nd rfl (by first | exact .inl rfl | exact .inr rfl) (pe_op or_mod (pe_op or_mul (pe_ix ix_C (pv 3) (pe_op or_sub (pe_op or_add (pv 6) (pe_callB cr_lenC (by rfl) B.h_len (by decide +kernel) (pa_cons (pv 2) pa_nil))) pe_int) (fun _ _ => rfl)) (pv 4)) (pv 0)))
      (pss_cons (ps_asg (pv 7) (pg_sub (pv 5) (pv 6) set_list))
      (pss_one (ps_for PassesOwn.never rfl (pi_E (by rfl) B.h_enumerate (pa_cons (pv 2) pa_nil)) (pg_tup (n := 2) rfl (pgs_cons (pg_name (i := 8) sc_over_of.nd rfl (by first | exact .inl rfl | exact .inr rfl)) (pgs_cons (pg_name (i := 9) sc_over_of.nd rfl (by first | exact .inl rfl | exact .inr rfl)) pgs_nil))) (pss_one (ps_asg (pe_op or_mod (pe_op or_sub (pe_ix ix_C (pv 3) (pe_op or_add (pv 6) (pv 8)) (fun _ _ => rfl)) (pe_op or_mul (pv 7) (pv 9))) (pv 0)) (pg_sub (pv 3) (pe_op or_add (pv 6) (pv 8)) set_list))))))))
      (pss_one (ps_ret (pe_tup (pa_cons (pe_own O_cut_off (hr.mono (by decide)) (by rfl) (pa_cons (pv 5) pa_nil)) (pa_cons (pe_own O_cut_off (hr.mono (by decide)) (by rfl) (pa_cons (pv 3) pa_nil)) pa_nil)))))))), ?_⟩
    walk_at "dd"
    refine d_lstC (c := false) ha fun l hl el => ?_
    walk_at "dd"
    refine d_ixT (ex_t el hb) (ati_last yn) ?_
    walk_at "dd"
    refine ⟨p, _, rfl, hp, by omega, by omega, fun t H1 e1 ht => ?_⟩
    walk_at "dd"
    refine k_seq (by decide) fun z hz ez => ?_
    have e2 := (el.trans e1).trans ez
    walk_at "dd"
    refine d_lenT (ex_t e2 ha) ?_
    walk_at "dd"
    refine d_lenT (ex_t e2 hb) ?_
    walk_at "dd"
    have hm : (max 0 (((xs.map V.int).length : Int) - ((ys.map V.int).length : Int) + 1)).toNat = xs.length + 1 - ys.length := by simp; omega
    refine d_rep upd_same (by omega) (by rw [hm]; simp; omega) (by simp; omega) fun g hg eg => ?_
    rw [hm, rep_ints] at eg ⊢
    walk_at "dd"
    generalize hmm : xs.length + 1 - ys.length = m at eg hm ⊢
    have hl0 : H l = none := hl
    have hg0 : H g = none := none_of e2 hg
    have hne : l ≠ g := by
      rintro rfl
      rw [(e1.trans ez) _ _ upd_same] at hg
      cases hg
    refine d_lenL (.inl (.inl upd_same)) ?_
    walk_at "dd"
    rw [show ((((List.range m).map fun _ => (0 : Int)).map V.int).length : Int) = (m : Int) by simp]
    refine k_rg1 (by omega) (by omega) fun r hr er => ?_
    rw [Int.toNat_natCast] at er ⊢
    refine k_revL (.inl (.inl upd_same)) fun r2 hr2 er2 => ?_
    have e3 := (e2.trans eg).trans (er.trans er2)
    have ne1 : g ≠ r2 := by
      rintro rfl
      rw [er _ _ upd_same] at hr2
      cases hr2
    have ne2 : l ≠ r2 := by
      rintro rfl
      rw [((e1.trans ez).trans (eg.trans er)) _ _ upd_same] at hr2
      cases hr2
    refine k_L (.inl (.inl upd_same)) ?_
    refine k_for walk_list (fun i σ' H' => Ex H H' ∧ H' r2 = some (.lst (((List.range m).map fun (i : Nat) => V.int (i : Int)).reverse)) ∧ ∃ (qf lf : Nat → Int), Ov p xs ys m xs.length (m - i) qf lf ∧ H' g = some (.lst (((List.range m).map qf).map .int)) ∧ H' l = some (.lst (((List.range xs.length).map lf).map .int)) ∧
        ∃ o1 o2 o3 o4, σ' = [some (.int p), some (.ref a), some (.ref b), some (.ref l), some (.int t), some (.ref g), o1, o2, o3, o4])
      ⟨e3, upd_same, fun _ => 0, cf xs, by rw [← hmm, Nat.sub_zero]; exact .start p0 hx yl, (er.trans er2) _ _ upd_same, ?_, none, none, none, none, rfl⟩ (fun i σ' H' _ h => .inl (.inl h.2.1)) ?_ ?_
    · rw [← list_cf]
      exact ((e1.trans ez).trans (eg.trans (er.trans er2))) _ _ upd_same
    · rintro i v σ' H' H2 hi ⟨e, hS, qf, lf, ov, hG, hL, o1, o2, o3, o4, rfl⟩ ⟨rfl, hv⟩
      rw [List.length_reverse, List.length_map, List.length_range] at hi
      rw [List.getElem?_reverse (by simpa using hi), List.length_map, List.length_range, List.getElem?_map, List.getElem?_range (by omega)] at hv
      obtain rfl := Option.some.inj hv
      rw [show m - i = (m - 1 - i) + 1 by omega] at ov
      rw [show m - (i + 1) = m - 1 - i by omega]
      generalize ht' : m - 1 - i = t0 at *
      walk_at "dd"
      refine d_lenT (ex_t e hb) ?_
      walk_at "dd"
      refine d_ixL (.inl (.inl hL)) (ati (j := t0 + ys.length - 1) (by simp; omega) (by simp; omega)) ?_
      rw [cf_map lf (by omega)]
      walk_at "dd"
      have hlv := ov.lv (t0 + ys.length - 1)
      have htv := ht.2.1
      have htw := ht.1
      refine d_mul (.inl ⟨by omega, by omega⟩) ?_
      walk_at "dd"
      refine d_mod p0 ?_
      walk_at "dd"
      refine k_set (j := t0) hG rfl (by simp; omega) ?_
      rw [set_ints]
      walk_at "dd"
      have fb := emod_lt p0 (lf (t0 + ys.length - 1) * t)
      have eS := Ex.mut (o := .lst (((List.range m).map fun k => if k = t0 then lf (t0 + ys.length - 1) * t % p else qf k).map .int)) e hg0
      refine k_E (c := false) (ex_t eS hb) ?_
      refine k_for walk_E (fun j σ' H' => Ex H H' ∧ H' r2 = some (.lst (((List.range m).map fun (i : Nat) => V.int (i : Int)).reverse)) ∧ H' g = some (.lst (((List.range m).map fun k => if k = t0 then lf (t0 + ys.length - 1) * t % p else qf k).map .int)) ∧
          H' l = some (.lst (((List.range xs.length).map (lJ p ys lf (lf (t0 + ys.length - 1) * t % p) t0 j)).map .int)) ∧
          ∃ o3 o4, σ' = [some (.int p), some (.ref a), some (.ref b), some (.ref l), some (.int t), some (.ref g), some (.int (t0 : Nat)), some (.int (lf (t0 + ys.length - 1) * t % p)), o3, o4])
        ⟨eS, upd_keep hS ne1.symm, upd_same, by rw [lJ_zero]; exact upd_keep hL hne, o3, o4, rfl⟩ (fun i σ' H' _ h => ex_t h.1 hb) ?_ ?_
      · rintro j v σ' H' H2 hj ⟨e, hS, hG, hL, o3, o4, rfl⟩ ⟨T, x1, x2, rfl, hT, rfl, e1, e2⟩
        rw [List.length_map] at hj
        obtain rfl := Option.some.inj e1
        obtain ⟨rfl, hjy⟩ := int_at e2
        refine g_pair (.of upd_same) ?_
        walk_at "dd"
        have eT := Ex.new (o := .tup [.int (j : Nat), .int (cf ys j)]) hT
        refine d_ixL (.inl (.inl (eT _ _ hL))) (ati (j := t0 + j) (by omega) (by simp; omega)) ?_
        walk_at "dd"
        refine d_mul (.inl ⟨by omega, by omega⟩) ?_
        walk_at "dd"
        refine d_mod p0 ?_
        walk_at "dd"
        refine k_set (j := t0 + j) (eT _ _ hL) (by omega) (by simp; omega) ?_
        rw [← List.map_set, lJ_step (by omega)]
        exact ⟨Ex.mut (e.trans eT) hl0, upd_keep (eT _ _ hS) ne2.symm, upd_keep (eT _ _ hG) hne.symm, upd_same, _, _, rfl⟩
      · rintro σ' H' ⟨e, hS, hG, hL, o3, o4, rfl⟩
        rw [List.length_map] at hL
        exact ⟨e, hS, _, _, ov.step p0 yl (by omega) (by omega) (by
          obtain ⟨_, _, h⟩ := ht
          exact h), hG, hL, _, _, _, _, rfl⟩
    · rintro σ' H' ⟨e, hS, qf, lf, ov, hG, hL, o1, o2, o3, o4, rfl⟩
      rw [List.length_reverse, List.length_map, List.length_range, Nat.sub_self] at ov
      walk_at "dd"
      refine ⟨true, g, _, rfl, .inl (.inl hG), by simp; omega, fun c1 H2 e2 hc1 => ?_⟩
      walk_at "dd"
      refine ⟨true, l, _, rfl, .inl (.inl (e2 _ _ hL)), by simp; omega, fun c2 H3 e3 hc2 => ?_⟩
      walk_at "dd"
      refine k_seq (by simp) fun T hT eT => ?_
      exact q T c1 c2 _ _ _ ((e.trans e2).trans (e3.trans eT)) (.inl (.inl upd_same)) (ex_t (e3.trans eT) hc1) (ex_t eT hc2) (ov.done p0 yl)
def sp_value_of (K : PySem.W.Frag) : Sp := fun vs H Q _ => ∃ (p v : Int) (a : Addr) (xs : List Int), vs = [.int p, .ref a, .int v] ∧ 0 < p ∧ p ≤ 1000000 ∧ 0 ≤ v ∧ v < p ∧ SqT K H a (xs.map .int) ∧ ∀ H', Ex H H' → Q (.int (hor p xs v)) H'
theorem hor_take {p : Int} {xs : List Int} {v : Int} {i : Nat} (h : i < xs.length) : (xs.take (i + 1)).foldl (fun f s => (f * v + s) % p) 0 = ((xs.take i).foldl (fun f s => (f * v + s) % p) 0 * v + cf xs i) % p := by
  rw [List.take_add_one, cf_lt h, List.foldl_append]
  rfl
theorem foldl_lt {p : Int} (hp : 0 < p) (v : Int) : ∀ (xs : List Int) (f0 : Int), 0 ≤ f0 ∧ f0 < p → 0 ≤ xs.foldl (fun f s => (f * v + s) % p) f0 ∧ xs.foldl (fun f s => (f * v + s) % p) f0 < p
  | [], _, h => h
  | x :: r, f0, _ => foldl_lt hp v r _ (emod_lt hp _)
theorem ok_value_of (F : Fun K "value_of" "value_of" s_value_of f fd) : FnOk P w K mg base CX0 1 f fd P_value_of (sp_value_of K) := by
  refine F.ok sc_value_of (fun vs H Q E h => ?_) (fun cdv A outer s H vs Q E hr h => ?_)
  · obtain ⟨p, v, a, xs, rfl, _⟩ := h
    rfl
  · obtain ⟨p, v, a, xs, rfl, p0, p1, v0, v1, ha, q⟩ := h
    refine ⟨_, (pss_cons (ps_set (i := 3) sc_value_of.nd rfl (by first | exact .inl rfl | exact .inr rfl) pe_int)
      (pss_cons (ps_for PassesOwn.never rfl (pi_tup (pe_revT (pv 1))) (pg_name (i := 4) sc_value_of.nd rfl (by first | exact .inl rfl | exact .inr rfl)) (pss_one (ps_set (i := 3) sc_value_of.nd rfl (by first | exact .inl rfl | exact .inr rfl) (pe_op or_mod (pe_op or_add (pe_op or_mul (pv 3) (pv 2)) (pv 4)) (pv 0)))))
      (pss_one (ps_ret (pv 3))))), ?_⟩
    walk_at "dd"
    refine k_revT ha fun r hr er => ?_
    rw [← List.map_reverse] at er ⊢
    refine k_T (.inl (.inl upd_same)) ?_
    refine k_for walk_tup (fun i σ' H' => Ex H H' ∧ SqT K H' r (xs.reverse.map .int) ∧ ∃ o, σ' = [some (.int p), some (.ref a), some (.int v), some (.int ((xs.reverse.take i).foldl (fun f s => (f * v + s) % p) 0)), o])
      ⟨er, .inl (.inl upd_same), none, rfl⟩ (fun i σ' H' _ h => h.2.1) ?_ ?_
    · rintro i x σ' H' H2 hi ⟨e, hS, o, rfl⟩ ⟨rfl, hx⟩
      obtain ⟨rfl, hi'⟩ := int_at hx
      have fb := foldl_lt p0 v (xs.reverse.take i) 0 ⟨Int.le_refl 0, p0⟩
      walk_at "dd"
      refine d_mul (.inl ⟨by omega, by omega⟩) ?_
      walk_at "dd"
      refine d_mod p0 ?_
      walk_at "dd"
      rw [← hor_take hi']
      exact ⟨e, hS, _, rfl⟩
    · rintro σ' H' ⟨e, hS, o, rfl⟩
      walk_at "dd"
      rw [List.length_map, List.take_length]
      exact q _ e
def sp_poly_at (K : PySem.W.Frag) : Sp := fun vs H Q _ => ∃ (p v : Int) (a : Addr) (xs : List Int), vs = [.int p, .ref a, .int v] ∧ IsPr p ∧ 0 ≤ v ∧ v < p ∧ SqT K H a (xs.map .int) ∧ Vl p xs ∧ Tr xs ∧ xs.length ≤ 1000 ∧ ∀ H', Ex H H' → Q (.int (hor p xs v)) H'
theorem ok_poly_at (F : Fun K "poly_at" "poly_at" s_poly_at f fd) (O_check_clock : Own P w K mg base "check_clock" 4 P_check_clock sp_check_clock) (O_check_polynomial : Own P w K mg base "check_polynomial" 4 P_check_polynomial (sp_check_polynomial K))
    (O_is_within : Own P w K mg base "is_within" 2 P_is_within sp_is_within) (O_value_of : Own P w K mg base "value_of" 1 P_value_of (sp_value_of K)) : FnOk P w K mg base CX0 5 f fd P_poly_at (sp_poly_at K) := by
  refine F.ok sc_poly_at (fun vs H Q E h => ?_) (fun cdv A outer s H vs Q E hr h => ?_)
  · obtain ⟨p, v, a, xs, rfl, _⟩ := h
    rfl
  · obtain ⟨p, v, a, xs, rfl, hp, v0, v1, ha, hx, ht, hl, q⟩ := h
    have p0 := hp.pos
    have p1 := hp.2.1
    refine ⟨_, (pss_cons (ps_expr (pe_own O_check_clock (hr.mono (by decide)) (by rfl) (pa_cons (pv 0) pa_nil)))
      (pss_cons (ps_expr (pe_own O_check_polynomial (hr.mono (by decide)) (by rfl) (pa_cons (pv 0) (pa_cons (pv 1) pa_nil))))
      (pss_cons (ps_if (pt_not (pt_val (pe_own O_is_within (hr.mono (by decide)) (by rfl) (pa_cons (pv 2) (pa_cons pe_int (pa_cons (pe_op or_sub (pv 0) pe_int) pa_nil)))))) (pss_one ps_never) pss_nil)
      (pss_one (ps_ret (pe_own O_value_of (hr.mono (by decide)) (by rfl) (pa_cons (pv 0) (pa_cons (pv 1) (pa_cons (pv 2) pa_nil))))))))), ?_⟩
    walk_at "dd"
    refine ⟨p, rfl, hp, ?_⟩
    walk_at "dd"
    refine ⟨p, a, xs, rfl, ha, hx, ht, hl, fun H' e => ?_⟩
    walk_at "dd"
    refine ⟨v, 0, p - 1, rfl, ?_⟩
    rw [decide_eq_true (show 0 ≤ v ∧ v ≤ p - 1 by omega)]
    walk_at "dd"
    refine k_ifN rfl ?_
    walk_at "dd"
    exact ⟨p, v, a, xs, rfl, p0, p1, v0, v1, ex_t e ha, fun H2 e2 => q _ (e.trans e2)⟩
def sp_turned_about (K : PySem.W.Frag) : Sp := fun vs H Q _ => ∃ (p : Int) (a : Addr) (xs : List Int), vs = [.int p, .ref a] ∧ IsPr p ∧ SqT K H a (xs.map .int) ∧ Vl p xs ∧ Tr xs ∧ xs.length ≤ 1000 ∧ ∀ r H', Ex H H' → SqT K H' r ((cut xs.reverse).map .int) → Q (.ref r) H'
theorem ok_turned_about (F : Fun K "turned_about" "turned_about" s_turned_about f fd) (O_check_clock : Own P w K mg base "check_clock" 4 P_check_clock sp_check_clock) (O_check_polynomial : Own P w K mg base "check_polynomial" 4 P_check_polynomial (sp_check_polynomial K))
    (O_cut_off : Own P w K mg base "cut_off" 1 P_cut_off (sp_cut_off K)) : FnOk P w K mg base CX0 5 f fd P_turned_about (sp_turned_about K) := by
  refine F.ok sc_turned_about (fun vs H Q E h => ?_) (fun cdv A outer s H vs Q E hr h => ?_)
  · obtain ⟨p, a, xs, rfl, _⟩ := h
    rfl
  · obtain ⟨p, a, xs, rfl, hp, ha, hx, ht, hl, q⟩ := h
    refine ⟨_, (pss_cons (ps_expr (pe_own O_check_clock (hr.mono (by decide)) (by rfl) (pa_cons (pv 0) pa_nil)))
      (pss_cons (ps_expr (pe_own O_check_polynomial (hr.mono (by decide)) (by rfl) (pa_cons (pv 0) (pa_cons (pv 1) pa_nil))))
      (pss_one (ps_ret (pe_own O_cut_off (hr.mono (by decide)) (by rfl) (pa_cons (pe_revT (pv 1)) pa_nil)))))), ?_⟩
    walk_at "dd"
    refine ⟨p, rfl, hp, ?_⟩
    walk_at "dd"
    refine ⟨p, a, xs, rfl, ha, hx, ht, hl, fun H' e => ?_⟩
    walk_at "dd"
    refine k_revT (ex_t e ha) fun r hr er => ?_
    rw [← List.map_reverse] at er ⊢
    exact ⟨false, r, _, rfl, .inl (.inl upd_same), by rw [List.length_reverse]; omega, fun r2 H2 e2 h2 => q _ _ (e.trans (er.trans e2)) h2⟩
end
section
variable {P : Program} {w : World} {K : PySem.W.Frag} {mg : Str → Option Value} {base : Heap} {f : Addr} {fd : FuncData}
/-! ## rules obeyed -/
def sp_check_values (K : PySem.W.Frag) : Sp := fun vs H Q _ => ∃ (p : Int) (c : Bool) (a : Addr) (xs : List Int), vs = [.int p, .ref a] ∧ SqC K c H a (xs.map .int) ∧ Vl p xs ∧ xs.length ≤ 200 ∧ ∀ H', Ex H H' → Q .non H'
theorem ok_check_values (F : Fun K "check_values" "check_values" s_check_values f fd) (B : Bns mg) (O_is_listed : Own P w K mg base "is_listed" 1 P_is_listed (sp_is_listed K)) (O_is_within : Own P w K mg base "is_within" 2 P_is_within sp_is_within)
    {tV : Tok} (g_MOST_VALUES : mg "MOST_VALUES" = some (.int 200 tV)) : FnOk P w K mg base CX0 3 f fd P_check_values (sp_check_values K) := by
  refine F.ok sc_check_values (fun vs H Q E h => ?_) (fun cdv A outer s H vs Q E hr h => ?_)
  · obtain ⟨p, c, a, xs, rfl, _⟩ := h
    rfl
  · obtain ⟨p, c, a, xs, rfl, ha, hv, hl, q⟩ := h
    refine ⟨_, (pss_cons (ps_if (PW.pt (pw_or (pt_not (pt_val (pe_own O_is_listed (hr.mono (by decide)) (by rfl) (pa_cons (pv 1) pa_nil)))) (pw_or1 (pt_cmpR or_gt (pe_callB cr_lenC (by rfl) B.h_len (by decide +kernel) (pa_cons (pv 1) pa_nil)) (pe_glob (v := .int 200) (by rfl) g_MOST_VALUES ⟨_, rfl⟩) (nomark _))))) (pss_one ps_never) pss_nil)
      (pss_one (ps_if (pt_not (pt_val (pe_callB (cr_all rfl) (by rfl) B.h_all (by decide +kernel) (pa_cons (pe_lc (own := [("value", 2)]) (g := (gName 2)) (tt := tYes) (te := (tCall (sp_is_within) [] E0 (tCons (tVar 2) (tCons (tC (.int 0)) (tCons (tOp rSubI (tVar 0) (tC (.int 1))) tNil))))) (by rfl) sc_check_values.nd (pi_C (pv 1)) (blkOk_by (own := [("value", 2)]) (N := N_check_values) (sc := defScope s_check_values) (by decide +kernel)) (fun _ _ _ _ _ => (pg_name (i := 2) sc_check_values.nd rfl (by first | exact .inl rfl | exact .inr rfl))) (fun _ _ _ _ _ => pts_nil) (fun _ _ _ _ _ => (pe_own O_is_within (hr.mono (by decide)) (by rfl) (pa_cons (pv 2) (pa_cons pe_int (pa_cons (pe_op or_sub (pv 0) pe_int) pa_nil)))))) pa_nil)))) (pss_one ps_never) pss_nil))), ?_⟩
    walk_at "dd"
    refine ⟨c, a, _, rfl, ha, fun H1 e1 => ?_⟩
    walk_at "dd"
    refine k_or (fun z => nomatch z) fun _ => ?_
    walk_at "dd"
    refine d_lenC (ha.ex e1) ?_
    walk_at "dd"
    refine k_ifN (decide_eq_false (by rw [List.length_map]; omega)) ?_
    walk_at "dd"
    refine k_C (ha.ex e1) ?_
    refine k_lcN walk_C (fun i => .bl true) (by rw [List.length_map]; omega) (fun H' e => ha.ex (e1.trans e)) (fun _ => rfl) (fun i x H' H2 hi e y => ?_) (fun l H' hl' e el => ?_)
    · obtain ⟨rfl, y⟩ := y
      obtain ⟨rfl, h1⟩ := int_at y
      refine ⟨Ex.refl _, fun Q q => ?_⟩
      walk_at "dd"
      refine ⟨cf xs i, 0, p - 1, rfl, ?_⟩
      have := hv _ (List.mem_of_getElem? (cf_lt h1))
      rw [decide_eq_true (show 0 ≤ cf xs i ∧ cf xs i ≤ p - 1 by omega)]
      exact q _ (Ex.refl _)
    · rw [map_bls] at el
      walk_at "dd"
      refine d_all (.inl (.inl el)) ?_
      rw [all_true fun _ _ => rfl]
      walk_at "dd"
      refine k_ifN rfl ?_
      walk_at "dd"
      exact q _ (e1.trans e)
/-- a rule -/
structure IsRule (p : Int) (xs : List Int) : Prop where
  pr : IsPr p
  vl : Vl p xs
  ne : xs ≠ []
  le : xs.length ≤ 30
  one : cf xs (xs.length - 1) = 1
theorem IsRule.tr {p : Int} {xs : List Int} (h : IsRule p xs) : Tr xs := tr_of_last fun _ => by rw [h.one]; decide
def sp_check_rule (K : PySem.W.Frag) : Sp := fun vs H Q _ => ∃ (p : Int) (a : Addr) (xs : List Int), vs = [.int p, .ref a] ∧ SqT K H a (xs.map .int) ∧ IsRule p xs ∧ ∀ H', Ex H H' → Q .non H'
theorem ok_check_rule (F : Fun K "check_rule" "check_rule" s_check_rule f fd) (B : Bns mg) (O_check_clock : Own P w K mg base "check_clock" 4 P_check_clock sp_check_clock) (O_check_polynomial : Own P w K mg base "check_polynomial" 4 P_check_polynomial (sp_check_polynomial K))
    {tR : Tok} (g_MOST_RULE : mg "MOST_RULE" = some (.int 30 tR)) : FnOk P w K mg base CX0 5 f fd P_check_rule (sp_check_rule K) := by
  refine F.ok sc_check_rule (fun vs H Q E h => ?_) (fun cdv A outer s H vs Q E hr h => ?_)
  · obtain ⟨p, a, xs, rfl, _⟩ := h
    rfl
  · obtain ⟨p, a, xs, rfl, ha, hR, q⟩ := h
    have hl := hR.le
    have hpos := List.length_pos_iff.mpr hR.ne
    refine ⟨_, (pss_cons (ps_expr (pe_own O_check_clock (hr.mono (by decide)) (by rfl) (pa_cons (pv 0) pa_nil)))
      (pss_cons (ps_expr (pe_own O_check_polynomial (hr.mono (by decide)) (by rfl) (pa_cons (pv 0) (pa_cons (pv 1) pa_nil))))
      (pss_one (ps_if (PW.pt (pw_or (pt_not (pt_chain or_le or_le pe_int (pe_callB cr_lenC (by rfl) B.h_len (by decide +kernel) (pa_cons (pv 1) pa_nil)) (pe_glob (v := .int 30) (by rfl) g_MOST_RULE ⟨_, rfl⟩))) (pw_or1 (pt_cmpR or_ne (pe_ix ix_C (pv 1) (pe_un ur_neg pe_int) (fun _ _ => rfl)) pe_int (nomark _))))) (pss_one ps_never) pss_nil)))), ?_⟩
    walk_at "dd"
    refine ⟨p, rfl, hR.pr, ?_⟩
    walk_at "dd"
    refine ⟨p, a, xs, rfl, ha, hR.vl, hR.tr, by omega, fun H' e => ?_⟩
    walk_at "dd"
    refine d_lenT (ex_t e ha) ?_
    walk_at "dd"
    rw [List.length_map, decide_eq_true (show (1 : Int) ≤ (xs.length : Int) by omega)]
    refine k_chain (fun _ => ?_) (fun z => nomatch z)
    walk_at "dd"
    rw [decide_eq_true (show (xs.length : Int) ≤ 30 by omega)]
    walk_at "dd"
    refine k_or (fun z => nomatch z) fun _ => ?_
    walk_at "dd"
    refine d_ixT (ex_t e ha) (ati_last hR.ne) ?_
    walk_at "dd"
    rw [decide_eq_true hR.one]
    refine k_ifN rfl ?_
    walk_at "dd"
    exact q _ e
def sp_does_obey (K : PySem.W.Frag) : Sp := fun vs H Q _ => ∃ (p : Int) (c : Bool) (a b : Addr) (xs ys : List Int), vs = [.int p, .ref a, .ref b] ∧ IsRule p xs ∧ SqT K H a (xs.map .int) ∧ SqC K c H b (ys.map .int) ∧ ys.length ≤ 200 ∧ ∀ H', Ex H H' → Q (.bl (obB p xs ys)) H'
theorem ok_does_obey (F : Fun K "does_obey" "does_obey" s_does_obey f fd) (B : Bns mg) (O_dot : Own P w K mg base "dot" 1 P_dot (sp_dot K)) : FnOk P w K mg base CX0 2 f fd P_does_obey (sp_does_obey K) := by
  refine F.ok sc_does_obey (fun vs H Q E h => ?_) (fun cdv A outer s H vs Q E hr h => ?_)
  · obtain ⟨p, c, a, b, xs, ys, rfl, _⟩ := h
    rfl
  · obtain ⟨p, c, a, b, xs, ys, rfl, hR, ha, hb, hl, q⟩ := h
    have p0 := hR.pr.pos
    have p1 := hR.pr.2.1
    have lx := hR.le
    refine ⟨_, (pss_cons (ps_set (i := 3) sc_does_obey.nd rfl (by first | exact .inl rfl | exact .inr rfl) (pe_callB cr_lenC (by rfl) B.h_len (by decide +kernel) (pa_cons (pv 1) pa_nil)))
      (pss_one (ps_ret (pe_callB (cr_all rfl) (by rfl) B.h_all (by decide +kernel) (pa_cons (pe_lc (own := [("at", 4)]) (g := (gName 4)) (tt := tYes) (te := (tOp rEqI (tCall (sp_dot K) [] E0 (tCons (tVar 0) (tCons (tVar 1) (tCons (tSl (rSlC K) (tVar 2) (tPart (tVar 4)) (tPart (tOp rAddI (tVar 4) (tVar 3)))) tNil)))) (tC (.int 0)))) (by rfl) sc_does_obey.nd (pi_range1 (by rfl) B.h_range (pa_cons (pe_op or_add (pe_op or_sub (pe_callB cr_lenC (by rfl) B.h_len (by decide +kernel) (pa_cons (pv 2) pa_nil)) (pv 3)) pe_int) pa_nil)) (blkOk_by (own := [("at", 4)]) (N := N_does_obey) (sc := defScope s_does_obey) (by decide +kernel)) (fun _ _ _ _ _ => (pg_name (i := 4) sc_does_obey.nd rfl (by first | exact .inl rfl | exact .inr rfl))) (fun _ _ _ _ _ => pts_nil) (fun _ _ _ _ _ => (pe_cmpR or_eq (pe_own O_dot (hr.mono (by decide)) (by rfl) (pa_cons (pv 0) (pa_cons (pv 1) (pa_cons (pe_slice sl_C (pv 2) (po_some (pv 4)) (po_some (pe_op or_add (pv 4) (pv 3)))) pa_nil)))) pe_int (nomark _)))) pa_nil))))), ?_⟩
    walk_at "dd"
    refine d_lenT ha ?_
    walk_at "dd"
    refine d_lenC hb ?_
    walk_at "dd"
    rw [List.length_map, List.length_map]
    refine k_R1 (by omega) (by omega) ?_
    refine k_lcN walk_rng (fun i => .bl (decide (dotI xs ((ys.drop i).take xs.length) % p = 0))) (by omega) (fun H' e => trivial) (fun _ => rfl) (fun i x H' H2 hi e y => ?_) (fun l H' hl' e el => ?_)
    · obtain ⟨rfl, rfl⟩ := y
      refine ⟨Ex.refl _, fun Q q => ?_⟩
      walk_at "dd"
      refine d_slC (hb.ex e) fun r H2 e2 h2 => ?_
      rw [cutV_mid (n := i) (m := i + xs.length) (by omega) (by omega), show i + xs.length - i = xs.length by omega, ← List.map_drop, ← List.map_take] at h2
      walk_at "dd"
      refine ⟨p, false, c, a, r, xs, _, rfl, p0, p1, ex_t (e.trans e2) ha, h2, hR.vl, by omega, fun H3 e3 => ?_⟩
      walk_at "dd"
      exact q _ (e2.trans e3)
    · rw [map_bls] at el
      walk_at "dd"
      refine d_all (.inl (.inl el)) ?_
      rw [show ((ys.length : Int) - (xs.length : Int) + 1).toNat = ys.length + 1 - xs.length by omega]
      exact q _ e
def sp_obeys (K : PySem.W.Frag) : Sp := fun vs H Q _ => ∃ (p : Int) (c : Bool) (a b : Addr) (xs ys : List Int), vs = [.int p, .ref a, .ref b] ∧ IsRule p xs ∧ SqT K H a (xs.map .int) ∧ SqC K c H b (ys.map .int) ∧ Vl p ys ∧ ys.length ≤ 200 ∧ ∀ H', Ex H H' → Q (.bl (obB p xs ys)) H'
theorem ok_obeys (F : Fun K "obeys" "obeys" s_obeys f fd) (O_check_rule : Own P w K mg base "check_rule" 5 P_check_rule (sp_check_rule K)) (O_check_values : Own P w K mg base "check_values" 3 P_check_values (sp_check_values K)) (O_does_obey : Own P w K mg base "does_obey" 2 P_does_obey (sp_does_obey K)) :
    FnOk P w K mg base CX0 6 f fd P_obeys (sp_obeys K) := by
  refine F.ok sc_obeys (fun vs H Q E h => ?_) (fun cdv A outer s H vs Q E hr h => ?_)
  · obtain ⟨p, c, a, b, xs, ys, rfl, _⟩ := h
    rfl
  · obtain ⟨p, c, a, b, xs, ys, rfl, hR, ha, hb, hv, hl, q⟩ := h
    refine ⟨_, (pss_cons (ps_expr (pe_own O_check_rule (hr.mono (by decide)) (by rfl) (pa_cons (pv 0) (pa_cons (pv 1) pa_nil))))
      (pss_cons (ps_expr (pe_own O_check_values (hr.mono (by decide)) (by rfl) (pa_cons (pv 0) (pa_cons (pv 2) pa_nil))))
      (pss_one (ps_ret (pe_own O_does_obey (hr.mono (by decide)) (by rfl) (pa_cons (pv 0) (pa_cons (pv 1) (pa_cons (pv 2) pa_nil)))))))), ?_⟩
    walk_at "dd"
    refine ⟨p, a, xs, rfl, ha, hR, fun H' e => ?_⟩
    walk_at "dd"
    refine ⟨p, c, b, ys, rfl, hb.ex e, hv, hl, fun H2 e2 => ?_⟩
    walk_at "dd"
    exact ⟨p, c, a, b, xs, ys, rfl, hR, ex_t (e.trans e2) ha, hb.ex (e.trans e2), hl, fun H3 e3 => q _ ((e.trans e2).trans e3)⟩
def sp_check_first (K : PySem.W.Frag) : Sp := fun vs H Q _ => ∃ (p : Int) (a b : Addr) (xs ys : List Int), vs = [.int p, .ref a, .ref b] ∧ SqT K H a (xs.map .int) ∧ SqT K H b (ys.map .int) ∧ Vl p ys ∧ ys.length ≤ 200 ∧ ys.length + 1 = xs.length ∧ ∀ H', Ex H H' → Q .non H'
theorem ok_check_first (F : Fun K "check_first" "check_first" s_check_first f fd) (B : Bns mg) (O_check_values : Own P w K mg base "check_values" 3 P_check_values (sp_check_values K)) : FnOk P w K mg base CX0 4 f fd P_check_first (sp_check_first K) := by
  refine F.ok sc_check_first (fun vs H Q E h => ?_) (fun cdv A outer s H vs Q E hr h => ?_)
  · obtain ⟨p, a, b, xs, ys, rfl, _⟩ := h
    rfl
  · obtain ⟨p, a, b, xs, ys, rfl, ha, hb, hv, hl, hll, q⟩ := h
    refine ⟨_, (pss_cons (ps_expr (pe_own O_check_values (hr.mono (by decide)) (by rfl) (pa_cons (pv 0) (pa_cons (pv 2) pa_nil))))
      (pss_one (ps_if (pt_cmpR or_ne (pe_callB cr_lenC (by rfl) B.h_len (by decide +kernel) (pa_cons (pv 2) pa_nil)) (pe_op or_sub (pe_callB cr_lenC (by rfl) B.h_len (by decide +kernel) (pa_cons (pv 1) pa_nil)) pe_int) (nomark _)) (pss_one ps_never) pss_nil))), ?_⟩
    walk_at "dd"
    refine ⟨p, false, b, ys, rfl, hb, hv, hl, fun H' e => ?_⟩
    walk_at "dd"
    refine d_lenT (ex_t e hb) ?_
    walk_at "dd"
    refine d_lenT (ex_t e ha) ?_
    walk_at "dd"
    rw [decide_eq_true (by rw [List.length_map, List.length_map]; omega)]
    refine k_ifN rfl ?_
    walk_at "dd"
    exact q _ e
end
section
variable {P : Program} {w : World} {K : PySem.W.Frag} {mg : Str → Option Value} {base : Heap} {f : Addr} {fd : FuncData} {C : Addr}
/-! ## guessing -/
structure TGuess (K : PySem.W.Frag) (C : Addr) : Prop where
  cl : Cls K C
  n_p : NoAttr K C "p"
  n_rule : NoAttr K C "rule"
  n_long : NoAttr K C "long"
  n_elder : NoAttr K C "elder"
  n_ahead : NoAttr K C "ahead"
  n_size : NoAttr K C "size"
def gF (p : Int) (r : Addr) (l : Int) (e : Addr) (a s : Int) : List (Str × V) := [("p", .int p), ("rule", .ref r), ("long", .int l), ("elder", .ref e), ("ahead", .int a), ("size", .int s)]
theorem gF_p (p : Int) (r : Addr) (l : Int) (e : Addr) (a s : Int) : (gF p r l e a s).lookup ("p" : Str) = some (.int p) := rfl
theorem gF_rule (p : Int) (r : Addr) (l : Int) (e : Addr) (a s : Int) : (gF p r l e a s).lookup ("rule" : Str) = some (.ref r) := rfl
theorem gF_long (p : Int) (r : Addr) (l : Int) (e : Addr) (a s : Int) : (gF p r l e a s).lookup ("long" : Str) = some (.int l) := rfl
theorem gF_elder (p : Int) (r : Addr) (l : Int) (e : Addr) (a s : Int) : (gF p r l e a s).lookup ("elder" : Str) = some (.ref e) := rfl
theorem gF_ahead (p : Int) (r : Addr) (l : Int) (e : Addr) (a s : Int) : (gF p r l e a s).lookup ("ahead" : Str) = some (.int a) := rfl
theorem gF_size (p : Int) (r : Addr) (l : Int) (e : Addr) (a s : Int) : (gF p r l e a s).lookup ("size" : Str) = some (.int s) := rfl
theorem gF_prule (p : Int) (r : Addr) (l : Int) (e : Addr) (a s : Int) (r' : Addr) : putF "rule" (.ref r') (gF p r l e a s) = gF p r' l e a s := rfl
theorem gF_plong (p : Int) (r : Addr) (l : Int) (e : Addr) (a s : Int) (l' : Int) : putF "long" (.int l') (gF p r l e a s) = gF p r l' e a s := rfl
theorem gF_pelder (p : Int) (r : Addr) (l : Int) (e : Addr) (a s : Int) (e' : Addr) : putF "elder" (.ref e') (gF p r l e a s) = gF p r l e' a s := rfl
theorem gF_pahead (p : Int) (r : Addr) (l : Int) (e : Addr) (a s : Int) (a' : Int) : putF "ahead" (.int a') (gF p r l e a s) = gF p r l e a' s := rfl
theorem gF_psize (p : Int) (r : Addr) (l : Int) (e : Addr) (a s : Int) (s' : Int) : putF "size" (.int s') (gF p r l e a s) = gF p r l e a s' := rfl
/-- the object as the reckoning has it -/
def GOk (C : Addr) (H : Hp) (g : Addr) (p : Int) (b : Bm) : Prop := ∃ dx r e, H g = some (.ins C dx (gF p r b.long e b.ahead b.size)) ∧ H r = some (.lst (b.rule.map .int)) ∧ H e = some (.lst (b.elder.map .int))
/-- all stays but what is at g -/
def Exb (g : Addr) (H H' : Hp) : Prop := ∀ a o, a ≠ g → H a = some o → H' a = some o
theorem Ex.exb {H H' : Hp} (e : Ex H H') (g : Addr) : Exb g H H' := fun a o _ h => e a o h
theorem Exb.upd {H H' : Hp} {g : Addr} (e : Exb g H H') (o : HO) : Exb g H (upd H' g o) := fun a u ne h => by
  rw [upd_ne ne]
  exact e a u ne h
theorem Exb.trans {H H' H2 : Hp} {g : Addr} (e : Exb g H H') (e' : Exb g H' H2) : Exb g H H2 := fun a u ne h => e' a u ne (e a u ne h)
theorem Exb.ex {H0 H H' : Hp} {g : Addr} (e : Ex H0 H) (h : H0 g = none) (e' : Exb g H H') : Ex H0 H' := fun a o ha => e' a o (by
  rintro rfl
  rw [h] at ha
  cases ha) (e a o ha)
theorem GOk.ex {H H' : Hp} {g : Addr} {p : Int} {b : Bm} (e : Ex H H') (h : GOk C H g p b) : GOk C H' g p b := by
  obtain ⟨dx, r, el, h1, h2, h3⟩ := h
  exact ⟨dx, r, el, e _ _ h1, e _ _ h2, e _ _ h3⟩
def sp_g_init (C : Addr) : Sp := fun vs H Q _ => ∃ (g dx : Addr) (p : Int), vs = [.ref g, .int p] ∧ H g = some (.ins C dx []) ∧ ∀ H', Exb g H H' → GOk C H' g p .start → Q .non H'
theorem ok_g_init (F : Fun K "__init__" "Guessing.__init__" s_Guessing___init__ f fd) (T_Guessing : TGuess K C) : FnOk P w K mg base CX0 1 f fd P_Guessing___init__ (sp_g_init C) := by
  refine F.ok sc_Guessing___init__ (fun vs H Q E h => ?_) (fun cdv A outer s H vs Q E hr h => ?_)
  · obtain ⟨g, dx, p, rfl, _⟩ := h
    rfl
  · obtain ⟨g, dx, p, rfl, hg, q⟩ := h
    have T := T_Guessing
    refine ⟨_, (pss_cons (ps_fld (pv 0) (pv 1) rfl)
      (pss_cons (ps_fld (pv 0) (pe_lst (pa_cons pe_int pa_nil)) rfl)
      (pss_cons (ps_fld (pv 0) pe_int rfl)
      (pss_cons (ps_fld (pv 0) (pe_lst (pa_cons pe_int pa_nil)) rfl)
      (pss_cons (ps_fld (pv 0) pe_int rfl)
      (pss_one (ps_fld (pv 0) pe_int rfl))))))), ?_⟩
    walk_at "dd"
    refine k_sfld hg T.cl T.n_p (by decide) ?_
    walk_at "dd"
    refine k_seq (by decide) fun r hr er => ?_
    walk_at "dd"
    refine k_sfld (er _ _ upd_same) T.cl T.n_rule (by show 1 < 1000; decide) ?_
    walk_at "dd"
    refine k_sfld upd_same T.cl T.n_long (by show 2 < 1000; decide) ?_
    walk_at "dd"
    refine k_seq (by decide) fun e he ee => ?_
    walk_at "dd"
    refine k_sfld (ee _ _ upd_same) T.cl T.n_elder (by show 3 < 1000; decide) ?_
    walk_at "dd"
    refine k_sfld upd_same T.cl T.n_ahead (by show 4 < 1000; decide) ?_
    walk_at "dd"
    refine k_sfld upd_same T.cl T.n_size (by show 5 < 1000; decide) ?_
    walk_at "dd"
    have rg : r ≠ g := by
      rintro rfl
      rw [upd_same] at hr
      cases hr
    have eg : e ≠ g := by
      rintro rfl
      rw [upd_same] at he
      cases he
    have re : r ≠ e := by
      rintro rfl
      rw [upd_ne rg, upd_ne rg, upd_same] at he
      cases he
    refine q _ ?_ ⟨dx, r, e, upd_same, ?_, ?_⟩
    · refine Exb.upd (.upd (.upd (Exb.trans ?_ (Ex.exb ee g)) _) _) _
      refine Exb.upd (.upd (Exb.trans ?_ (Ex.exb er g)) _) _
      exact Exb.upd (Ex.exb (Ex.refl _) g) _
    · rw [upd_ne rg, upd_ne rg, upd_ne rg, upd_ne re, upd_ne rg, upd_ne rg, upd_same]
      rfl
    · rw [upd_ne eg, upd_ne eg, upd_ne eg, upd_same]
      rfl
def sp_g_off_by (K : PySem.W.Frag) (C : Addr) : Sp := fun vs H Q _ => ∃ (g a : Addr) (p : Int) (b : Bm) (xs : List Int) (n : Nat) (z : Int), vs = [.ref g, .ref a, .int z] ∧ z = (n : Int) ∧ GOk C H g p b ∧ SqL K H a (xs.map .int) ∧ 0 < p ∧ p ≤ 1000000 ∧ BmOk p n b ∧ n < xs.length ∧ n ≤ 1000 ∧
  ∀ H', Ex H H' → Q (.int (offB p b xs n)) H'
theorem ok_g_off_by (F : Fun K "off_by" "Guessing.off_by" s_Guessing_off_by f fd) (T_Guessing : TGuess K C) (B : Bns mg) : FnOk P w K mg base CX0 1 f fd P_Guessing_off_by (sp_g_off_by K C) := by
  refine F.ok sc_Guessing_off_by (fun vs H Q E h => ?_) (fun cdv A outer s H vs Q E hr h => ?_)
  · obtain ⟨g, a, p, b, xs, n, z, rfl, _⟩ := h
    rfl
  · obtain ⟨g, a, p, b, xs, n, z, rfl, hz, ⟨dx, r, el, h1, h2, h3⟩, ha, p0, p1, ok, hn, hn2, q⟩ := h
    have T := T_Guessing
    refine ⟨_, (pss_cons (ps_set (i := 3) sc_Guessing_off_by.nd rfl (by first | exact .inl rfl | exact .inr rfl) pe_int)
      (pss_cons (ps_for PassesOwn.never rfl (pi_E (by rfl) B.h_enumerate (pa_cons (pe_slice sl_L (pe_fld (pv 0) rfl) po_none (po_some (pe_op or_add (pe_fld (pv 0) rfl) pe_int))) pa_nil)) (pg_tup (n := 2) rfl (pgs_cons (pg_name (i := 4) sc_Guessing_off_by.nd rfl (by first | exact .inl rfl | exact .inr rfl)) (pgs_cons (pg_name (i := 5) sc_Guessing_off_by.nd rfl (by first | exact .inl rfl | exact .inr rfl)) pgs_nil))) (pss_one (ps_aug (i := 3) sc_Guessing_off_by.nd rfl (by first | exact .inl rfl | exact .inr rfl) (pe_op or_mul (pv 5) (pe_ix ix_C (pv 1) (pe_op or_sub (pv 2) (pv 4)) (fun _ _ => rfl))) ip_add)))
      (pss_one (ps_ret (pe_op or_mod (pv 3) (pe_fld (pv 0) rfl)))))), ?_⟩
    walk_at "dd"
    refine k_fld h1 T.cl T.n_rule (gF_rule ..) ?_
    walk_at "dd"
    refine k_fld h1 T.cl T.n_long (gF_long ..) ?_
    walk_at "dd"
    refine d_slL (.inl (.inl h2)) fun l hl el => ?_
    rw [cutV_to' (n := b.long + 1) (by omega), List.take_of_length_le (by rw [List.length_map]; exact ok.rl)] at el ⊢
    refine k_E (c := true) (.inl (.inl upd_same)) ?_
    have rl := ok.rl
    have ln := ok.ln
    refine k_for walk_E (fun i σ' H' => Ex H H' ∧ SqL K H' l (b.rule.map .int) ∧ ∃ o1 o2, σ' = [some (.ref g), some (.ref a), some (.int z), some (.int (sm i fun k => cf b.rule k * cf xs (n - k))), o1, o2])
      ⟨el, .inl (.inl upd_same), none, none, rfl⟩ (fun i σ' H' _ h => h.2.1) ?_ ?_
    · rintro i v σ' H' H2 hi ⟨e, hS, o1, o2, rfl⟩ ⟨T', x1, x2, rfl, hT, rfl, e1, e2⟩
      obtain rfl := Option.some.inj e1
      obtain ⟨rfl, hix⟩ := int_at e2
      refine g_pair (.of upd_same) ?_
      have eT := e.trans (Ex.new (o := .tup [.int (i : Nat), .int (cf b.rule i)]) hT)
      walk_at "dd"
      refine d_ixL (ex_l eT ha) (ati (j := n - i) (by omega) (by omega)) ?_
      walk_at "dd"
      have := ok.rv.cf p0 i
      refine d_mul (.inl ⟨by omega, by omega⟩) ?_
      walk_at "dd"
      exact ⟨eT, ex_l (Ex.new hT) hS, _, _, rfl⟩
    · rintro σ' H' ⟨e, hS, o1, o2, rfl⟩
      walk_at "dd"
      refine k_fld (e _ _ h1) T.cl T.n_p (gF_p ..) ?_
      walk_at "dd"
      refine d_mod p0 ?_
      rw [List.length_map]
      exact q _ e
def sp_g_less_elder (K : PySem.W.Frag) (C : Addr) : Sp := fun vs H Q _ => ∃ (g : Addr) (p : Int) (b : Bm) (n : Nat) (share : Int), vs = [.ref g, .int share] ∧ GOk C H g p b ∧ 0 < p ∧ p ≤ 1000000 ∧ BmOk p n b ∧ 0 ≤ share ∧ share < p ∧ n ≤ 1000 ∧
  ∀ l H', H l = none → Ex H H' → H' l = some (.lst ((lessB p b share).map .int)) → Q (.ref l) H'
theorem ok_g_less_elder (F : Fun K "less_elder" "Guessing.less_elder" s_Guessing_less_elder f fd) (T_Guessing : TGuess K C) (B : Bns mg) : FnOk P w K mg base CX0 1 f fd P_Guessing_less_elder (sp_g_less_elder K C) := by
  refine F.ok sc_Guessing_less_elder (fun vs H Q E h => ?_) (fun cdv A outer s H vs Q E hr h => ?_)
  · obtain ⟨g, p, b, n, share, rfl, _⟩ := h
    rfl
  · obtain ⟨g, p, b, n, share, rfl, ⟨dx, r, el, h1, h2, h3⟩, p0, p1, ok, s0, s1, hn2, q⟩ := h
    have T := T_Guessing
    have rl := ok.rl
    have ln := ok.ln
    have okel := ok.el
    refine ⟨_, (pss_cons (ps_set (i := 2) sc_Guessing_less_elder.nd rfl (by first | exact .inl rfl | exact .inr rfl) (pe_callB (cr_max2 rfl) (by rfl) B.h_max (by decide +kernel) (pa_cons (pe_callB cr_lenC (by rfl) B.h_len (by decide +kernel) (pa_cons (pe_fld (pv 0) rfl) pa_nil)) (pa_cons (pe_op or_add (pe_callB cr_lenC (by rfl) B.h_len (by decide +kernel) (pa_cons (pe_fld (pv 0) rfl) pa_nil)) (pe_fld (pv 0) rfl)) pa_nil))))
      (pss_cons (ps_set (i := 3) sc_Guessing_less_elder.nd rfl (by first | exact .inl rfl | exact .inr rfl) (pe_op op_cat (pe_fld (pv 0) rfl) (pe_op op_rep (pe_lst (pa_cons pe_int pa_nil)) (pe_op or_sub (pv 2) (pe_callB cr_lenC (by rfl) B.h_len (by decide +kernel) (pa_cons (pe_fld (pv 0) rfl) pa_nil))))))
      (pss_cons (ps_for PassesOwn.never rfl (pi_E (by rfl) B.h_enumerate (pa_cons (pe_fld (pv 0) rfl) pa_nil)) (pg_tup (n := 2) rfl (pgs_cons (pg_name (i := 4) sc_Guessing_less_elder.nd rfl (by first | exact .inl rfl | exact .inr rfl)) (pgs_cons (pg_name (i := 5) sc_Guessing_less_elder.nd rfl (by first | exact .inl rfl | exact .inr rfl)) pgs_nil))) (pss_one (ps_asg (pe_op or_mod (pe_op or_sub (pe_ix ix_C (pv 3) (pe_op or_add (pv 4) (pe_fld (pv 0) rfl)) (fun _ _ => rfl)) (pe_op or_mul (pv 1) (pv 5))) (pe_fld (pv 0) rfl)) (pg_sub (pv 3) (pe_op or_add (pv 4) (pe_fld (pv 0) rfl)) set_list))))
      (pss_one (ps_ret (pv 3)))))), ?_⟩
    walk_at "dd"
    refine k_fld h1 T.cl T.n_rule (gF_rule ..) ?_
    walk_at "dd"
    refine d_lenL (.inl (.inl h2)) ?_
    walk_at "dd"
    refine k_fld h1 T.cl T.n_elder (gF_elder ..) ?_
    walk_at "dd"
    refine d_lenL (.inl (.inl h3)) ?_
    walk_at "dd"
    refine k_fld h1 T.cl T.n_ahead (gF_ahead ..) ?_
    walk_at "dd"
    have hm : max ((b.rule.map V.int).length : Int) ((b.elder.map V.int).length + b.ahead) = (max b.rule.length (b.elder.length + b.ahead) : Nat) := by
      rw [List.length_map, List.length_map]
      omega
    rw [hm]
    refine k_fld h1 T.cl T.n_rule (gF_rule ..) ?_
    walk_at "dd"
    refine k_seq (by decide) fun l0 hl0 el0 => ?_
    walk_at "dd"
    refine k_fld (el0 _ _ h1) T.cl T.n_rule (gF_rule ..) ?_
    walk_at "dd"
    refine d_lenL (.inl (.inl (el0 _ _ h2))) ?_
    walk_at "dd"
    generalize hw : max b.rule.length (b.elder.length + b.ahead) = wd
    refine d_rep upd_same (by rw [List.length_map]; omega) (by rw [List.length_map]; simp; omega) (by rw [List.length_map]; omega) fun l1 hl1 el1 => ?_
    rw [rep_ints, List.length_map, show ((wd : Int) - (b.rule.length : Int)).toNat = wd - b.rule.length by omega] at el1 ⊢
    have e1 := el0.trans el1
    refine d_cat (e1 _ _ h2) upd_same (by simp; omega) fun l hl el2 => ?_
    rw [← List.map_append, pad_all (by omega)] at el2 ⊢
    have e2 := e1.trans el2
    have hlH : H l = none := none_of e1 hl
    walk_at "dd"
    refine k_fld (e2 _ _ h1) T.cl T.n_elder (gF_elder ..) ?_
    walk_at "dd"
    refine k_E (c := true) (.inl (.inl (e2 _ _ h3))) ?_
    refine k_for walk_E (fun i σ' H' => Ex H H' ∧ H' l = some (.lst (((List.range wd).map (lJ p b.elder (cf b.rule) share b.ahead i)).map .int)) ∧ ∃ o1 o2, σ' = [some (.ref g), some (.int share), some (.int (wd : Nat)), some (.ref l), o1, o2])
      ⟨e2, by rw [lJ_zero]; exact upd_same, none, none, rfl⟩ (fun i σ' H' _ h => .inl (.inl (h.1 _ _ h3))) ?_ ?_
    · rintro i v σ' H' H2 hi ⟨e, hL, o1, o2, rfl⟩ ⟨T', x1, x2, rfl, hT, rfl, e1, e2⟩
      obtain rfl := Option.some.inj e1
      obtain ⟨rfl, hix⟩ := int_at e2
      refine g_pair (.of upd_same) ?_
      have eT := Ex.new (o := .tup [.int (i : Nat), .int (cf b.elder i)]) hT
      walk_at "dd"
      refine k_fld ((e.trans eT) _ _ h1) T.cl T.n_ahead (gF_ahead ..) ?_
      walk_at "dd"
      refine d_ixL (.inl (.inl (eT _ _ hL))) (ati (j := b.ahead + i) (by omega) (by simp; omega)) ?_
      walk_at "dd"
      refine d_mul (.inl ⟨by omega, by omega⟩) ?_
      walk_at "dd"
      refine k_fld ((e.trans eT) _ _ h1) T.cl T.n_p (gF_p ..) ?_
      walk_at "dd"
      refine d_mod p0 ?_
      walk_at "dd"
      refine k_fld ((e.trans eT) _ _ h1) T.cl T.n_ahead (gF_ahead ..) ?_
      walk_at "dd"
      refine k_set (j := b.ahead + i) (eT _ _ hL) (by omega) (by simp; omega) ?_
      rw [← List.map_set, lJ_step (by omega)]
      exact ⟨Ex.mut (e.trans eT) hlH, upd_same, _, _, rfl⟩
    · rintro σ' H' ⟨e, hL, o1, o2, rfl⟩
      walk_at "dd"
      rw [List.length_map, ← hw] at hL
      exact q _ _ hlH e hL
end
section
variable {P : Program} {w : World} {K : PySem.W.Frag} {mg : Str → Option Value} {base : Heap} {f : Addr} {fd : FuncData} {C : Addr}
def sp_g_take (K : PySem.W.Frag) (C : Addr) : Sp := fun vs H Q _ => ∃ (g a : Addr) (p : Int) (b : Bm) (xs : List Int) (n : Nat) (z : Int), vs = [.ref g, .ref a, .int z] ∧ z = (n : Int) ∧ GOk C H g p b ∧ SqL K H a (xs.map .int) ∧ IsPr p ∧ BmOk p n b ∧ n < xs.length ∧ n ≤ 1000 ∧
  ∀ H', Exb g H H' → GOk C H' g p (stepB p xs n b) → Q .non H'
theorem ok_g_take (F : Fun K "take" "Guessing.take" s_Guessing_take f fd) (T_Guessing : TGuess K C) (M_Guessing_off_by : OwnM P w K mg base C "off_by" 1 P_Guessing_off_by (sp_g_off_by K C)) (M_Guessing_less_elder : OwnM P w K mg base C "less_elder" 1 P_Guessing_less_elder (sp_g_less_elder K C))
    (O_inverse_of : Own P w K mg base "inverse_of" 1 P_inverse_of sp_inverse_of) : FnOk P w K mg base CX0 2 f fd P_Guessing_take (sp_g_take K C) := by
  refine F.ok sc_Guessing_take (fun vs H Q E h => ?_) (fun cdv A outer s H vs Q E hr h => ?_)
  · obtain ⟨g, a, p, b, xs, n, z, rfl, _⟩ := h
    rfl
  · obtain ⟨g, a, p, b, xs, n, z, rfl, hz, hG, ha, hp, ok, hn, hn2, q⟩ := h
    have T := T_Guessing
    have p0 := hp.pos
    have p1 := hp.2.1
    have hG0 := hG
    obtain ⟨dx, r, el, h1, h2, h3⟩ := hG0
    refine ⟨_, (pss_cons (ps_set (i := 3) sc_Guessing_take.nd rfl (by first | exact .inl rfl | exact .inr rfl) (pe_ownM (pv 0) T_Guessing.cl M_Guessing_off_by (hr.mono (by decide)) (pa_cons (pv 1) (pa_cons (pv 2) pa_nil))))
      (pss_cons (ps_if (pt_cmpR or_eq (pv 3) pe_int (nomark _)) (pss_cons (ps_fldaug (pv 0) pe_int in_add)
      (pss_one ps_retN)) pss_nil)
      (pss_cons (ps_set (i := 4) sc_Guessing_take.nd rfl (by first | exact .inl rfl | exact .inr rfl) (pe_ownM (pv 0) T_Guessing.cl M_Guessing_less_elder (hr.mono (by decide)) (pa_cons (pe_op or_mod (pe_op or_mul (pv 3) (pe_own O_inverse_of (hr.mono (by decide)) (by rfl) (pa_cons (pe_fld (pv 0) rfl) (pa_cons (pe_fld (pv 0) rfl) pa_nil)))) (pe_fld (pv 0) rfl)) pa_nil)))
      (pss_cons (ps_if (pt_cmpR or_le (pe_op or_mul pe_int (pe_fld (pv 0) rfl)) (pv 2) (nomark _)) (pss_cons (ps_asg (pe_tup (pa_cons (pe_fld (pv 0) rfl) (pa_cons (pv 3) (pa_cons pe_int pa_nil)))) (pg_tup (n := 3) rfl (pgs_cons (pg_fld (pv 0)) (pgs_cons (pg_fld (pv 0)) (pgs_cons (pg_fld (pv 0)) pgs_nil)))))
      (pss_one (ps_fld (pv 0) (pe_op or_sub (pe_op or_add (pv 2) pe_int) (pe_fld (pv 0) rfl)) rfl))) (pss_one (ps_fldaug (pv 0) pe_int in_add)))
      (pss_one (ps_fld (pv 0) (pv 4) rfl)))))), ?_⟩
    walk_at "dd"
    refine k_meth h1 rfl ?_
    walk_at "dd"
    refine ⟨g, a, p, b, xs, n, z, rfl, hz, hG, ha, p0, p1, ok, hn, hn2, fun H1 e1 => ?_⟩
    have ob := offB_lt p0 b xs n
    walk_at "dd"
    refine k_if (fun e => ?_) (fun e => ?_)
    · have e' := of_decide_eq_true e
      walk_at "dd"
      refine k_faug (e1 _ _ h1) T.cl T.n_ahead (gF_ahead ..) (by show 6 < 1000; decide) ?_
      walk_at "dd"
      rw [gF_pahead]
      refine q _ ((Ex.exb e1 g).upd _) ?_
      have rg : r ≠ g := by
        rintro rfl
        rw [h1] at h2
        cases h2
      have eg : el ≠ g := by
        rintro rfl
        rw [h1] at h3
        cases h3
      unfold stepB
      rw [if_pos e']
      exact ⟨dx, r, el, upd_same, upd_keep (e1 _ _ h2) rg, upd_keep (e1 _ _ h3) eg⟩
    · have e' := of_decide_eq_false e
      walk_at "dd"
      refine k_meth (e1 _ _ h1) rfl ?_
      walk_at "dd"
      refine k_fld (e1 _ _ h1) T.cl T.n_p (gF_p ..) ?_
      walk_at "dd"
      refine k_fld (e1 _ _ h1) T.cl T.n_size (gF_size ..) ?_
      walk_at "dd"
      refine ⟨p, b.size, rfl, hp, ok.s0, ok.s1, fun t H2 e2 ht => ?_⟩
      obtain rfl := invF_eq ht
      obtain ⟨t0, t1, _⟩ := ht
      refine d_mul (.inl ⟨by omega, by omega⟩) ?_
      walk_at "dd"
      have e12 := e1.trans e2
      refine k_fld (e12 _ _ h1) T.cl T.n_p (gF_p ..) ?_
      walk_at "dd"
      refine d_mod p0 ?_
      have sb := emod_lt p0 (offB p b xs n * invF p b.size)
      walk_at "dd"
      refine ⟨g, p, b, n, _, rfl, hG.ex e12, p0, p1, ok, sb.1, sb.2, hn2, fun l H3 hl e3 hL => ?_⟩
      have e13 := e12.trans e3
      have k1 := e13 _ _ h1
      have k2 := e13 _ _ h2
      have k3 := e13 _ _ h3
      have rg : r ≠ g := by
        rintro rfl
        rw [h1] at h2
        cases h2
      have eg : el ≠ g := by
        rintro rfl
        rw [h1] at h3
        cases h3
      have lg : l ≠ g := by
        rintro rfl
        rw [e12 _ _ h1] at hl
        cases hl
      walk_at "dd"
      refine k_fld k1 T.cl T.n_long (gF_long ..) ?_
      walk_at "dd"
      refine d_mul (.inl ⟨by omega, by omega⟩) ?_
      walk_at "dd"
      refine k_if (fun c => ?_) (fun c => ?_)
      · have c' := of_decide_eq_true c
        have ln := ok.ln
        walk_at "dd"
        refine k_fld k1 T.cl T.n_rule (gF_rule ..) ?_
        walk_at "dd"
        refine k_seq (by show 3 ≤ 1000; decide) fun t ht et => ?_
        have tg : g ≠ t := by
          rintro rfl
          rw [k1] at ht
          cases ht
        have tr : r ≠ t := by
          rintro rfl
          rw [k2] at ht
          cases ht
        have tl : l ≠ t := by
          rintro rfl
          rw [hL] at ht
          cases ht
        refine ⟨t, _, rfl, .of upd_same, rfl, _, _, rfl, ?_⟩
        walk_at "dd"
        refine k_gfld (upd_keep k1 tg) T.cl T.n_elder (by show 6 < 1000; decide) ?_
        rw [gF_pelder]
        refine ⟨_, _, rfl, ?_⟩
        walk_at "dd"
        refine k_gfld upd_same T.cl T.n_size (by show 6 < 1000; decide) ?_
        rw [gF_psize]
        refine ⟨_, _, rfl, ?_⟩
        walk_at "dd"
        refine k_gfld upd_same T.cl T.n_ahead (by show 6 < 1000; decide) ?_
        rw [gF_pahead]
        refine ⟨rfl, ?_⟩
        walk_at "dd"
        refine k_fld upd_same T.cl T.n_long (gF_long ..) ?_
        walk_at "dd"
        refine k_sfld upd_same T.cl T.n_long (by show 6 < 1000; decide) ?_
        rw [gF_plong]
        walk_at "dd"
        refine k_sfld upd_same T.cl T.n_rule (by show 6 < 1000; decide) ?_
        rw [gF_prule]
        refine q _ ?_ ?_
        · exact Exb.upd (.upd (.upd (.upd (.upd ((Ex.exb e13 g).trans (Ex.exb et g)) _) _) _) _) _
        · unfold stepB
          rw [if_neg e', if_pos (by omega)]
          refine ⟨dx, l, r, ?_, ?_, ?_⟩
          · rw [upd_same, hz, show (n : Int) + 1 - (b.long : Int) = ((n + 1 - b.long : Nat) : Int) by omega]
            rfl
          · rw [upd_ne lg, upd_ne lg, upd_ne lg, upd_ne lg, upd_ne lg, upd_ne tl]
            exact hL
          · rw [upd_ne rg, upd_ne rg, upd_ne rg, upd_ne rg, upd_ne rg, upd_ne tr]
            exact k2
      · have c' := of_decide_eq_false c
        walk_at "dd"
        refine k_faug k1 T.cl T.n_ahead (gF_ahead ..) (by show 6 < 1000; decide) ?_
        rw [gF_pahead]
        walk_at "dd"
        refine k_sfld upd_same T.cl T.n_rule (by show 6 < 1000; decide) ?_
        rw [gF_prule]
        refine q _ (Exb.upd (.upd (Ex.exb e13 g) _) _) ?_
        unfold stepB
        rw [if_neg e', if_neg (by omega)]
        refine ⟨dx, l, el, upd_same, ?_, ?_⟩
        · rw [upd_ne lg, upd_ne lg]
          exact hL
        · rw [upd_ne eg, upd_ne eg]
          exact k3
def sp_g_told (K : PySem.W.Frag) (C : Addr) : Sp := fun vs H Q _ => ∃ (g : Addr) (p : Int) (b : Bm) (n : Nat), vs = [.ref g] ∧ GOk C H g p b ∧ BmOk p n b ∧ n ≤ 1000 ∧ ∀ r H', Ex H H' → SqT K H' r ((toldB b).map .int) → Q (.ref r) H'
theorem ok_g_told (F : Fun K "told" "Guessing.told" s_Guessing_told f fd) (T_Guessing : TGuess K C) (B : Bns mg) : FnOk P w K mg base CX0 1 f fd P_Guessing_told (sp_g_told K C) := by
  refine F.ok sc_Guessing_told (fun vs H Q E h => ?_) (fun cdv A outer s H vs Q E hr h => ?_)
  · obtain ⟨g, p, b, n, rfl, _⟩ := h
    rfl
  · obtain ⟨g, p, b, n, rfl, ⟨dx, r, el, h1, h2, h3⟩, ok, hn, q⟩ := h
    have T := T_Guessing
    have rl := ok.rl
    have ln := ok.ln
    refine ⟨_, (pss_cons (ps_set (i := 1) sc_Guessing_told.nd rfl (by first | exact .inl rfl | exact .inr rfl) (pe_slice sl_L (pe_op op_cat (pe_fld (pv 0) rfl) (pe_op op_rep (pe_lst (pa_cons pe_int pa_nil)) (pe_op or_add (pe_fld (pv 0) rfl) pe_int))) po_none (po_some (pe_op or_add (pe_fld (pv 0) rfl) pe_int))))
      (pss_one (ps_ret (pe_callTy cr_tupC (by rfl) B.h_tuple (by decide +kernel) (pa_cons (pe_revL (pv 1)) pa_nil))))), ?_⟩
    walk_at "dd"
    refine k_fld h1 T.cl T.n_rule (gF_rule ..) ?_
    walk_at "dd"
    refine k_seq (by decide) fun l0 hl0 e0 => ?_
    walk_at "dd"
    refine k_fld (e0 _ _ h1) T.cl T.n_long (gF_long ..) ?_
    walk_at "dd"
    refine d_rep upd_same (by omega) (by simp; omega) (by omega) fun l1 hl1 e1 => ?_
    rw [rep_ints, show ((b.long : Int) + 1).toNat = b.long + 1 by omega] at e1 ⊢
    refine d_cat ((e0.trans e1) _ _ h2) upd_same (by simp; omega) fun l2 hl2 e2 => ?_
    rw [← List.map_append] at e2 ⊢
    walk_at "dd"
    have e02 := (e0.trans e1).trans e2
    refine k_fld (e02 _ _ h1) T.cl T.n_long (gF_long ..) ?_
    walk_at "dd"
    refine d_slL (.inl (.inl upd_same)) fun l3 hl3 e3 => ?_
    rw [cutV_to' (n := b.long + 1) (by omega), ← List.map_take, pad_take (by omega)] at e3 ⊢
    walk_at "dd"
    refine k_revL (.inl (.inl upd_same)) fun l4 hl4 e4 => ?_
    rw [← List.map_reverse] at e4 ⊢
    refine d_tupC (c := true) (.inl (.inl upd_same)) fun T' H' e5 hT => ?_
    exact q _ _ (((e02.trans e3).trans e4).trans e5) hT
def sp_rule_of (K : PySem.W.Frag) : Sp := fun vs H Q _ => ∃ (p : Int) (a : Addr) (xs : List Int), vs = [.int p, .ref a] ∧ IsPr p ∧ SqL K H a (xs.map .int) ∧ xs.length ≤ 200 ∧ ∀ r H', Ex H H' → SqT K H' r ((ruleB p xs).map .int) → Q (.ref r) H'
theorem ok_rule_of (F : Fun K "rule_of" "rule_of" s_rule_of f fd) (B : Bns mg) (M_Guessing : OwnC P w K mg base C "Guessing" 1 P_Guessing___init__ (sp_g_init C)) (T_Guessing : TGuess K C) (M_Guessing_take : OwnM P w K mg base C "take" 2 P_Guessing_take (sp_g_take K C))
    (M_Guessing_told : OwnM P w K mg base C "told" 1 P_Guessing_told (sp_g_told K C)) : FnOk P w K mg base CX0 3 f fd P_rule_of (sp_rule_of K) := by
  refine F.ok sc_rule_of (fun vs H Q E h => ?_) (fun cdv A outer s H vs Q E hr h => ?_)
  · obtain ⟨p, a, xs, rfl, _⟩ := h
    rfl
  · obtain ⟨p, a, xs, rfl, hp, ha, hl, q⟩ := h
    have hp2 : 1 < p := by have := hp.1; omega
    refine ⟨_, (pss_cons (ps_set (i := 2) sc_rule_of.nd rfl (by first | exact .inl rfl | exact .inr rfl) (pe_ownC M_Guessing (hr.mono (by decide)) (by rfl) (pa_cons (pv 0) pa_nil)))
      (pss_cons (ps_for PassesOwn.never rfl (pi_range1 (by rfl) B.h_range (pa_cons (pe_callB cr_lenC (by rfl) B.h_len (by decide +kernel) (pa_cons (pv 1) pa_nil)) pa_nil)) (pg_name (i := 3) sc_rule_of.nd rfl (by first | exact .inl rfl | exact .inr rfl)) (pss_one (ps_expr (pe_ownM (pv 2) T_Guessing.cl M_Guessing_take (hr.mono (by decide)) (pa_cons (pv 1) (pa_cons (pv 3) pa_nil))))))
      (pss_one (ps_ret (pe_ownM0 (pv 2) T_Guessing.cl M_Guessing_told (hr.mono (by decide))))))), ?_⟩
    walk_at "dd"
    intro g dx hg hdx hne
    have e1 : Ex H (upd (upd H dx (.own g)) g (.ins C dx [])) := (Ex.new hdx).trans (Ex.new (by rw [upd_ne hne.symm]; exact hg))
    refine ⟨g, dx, p, rfl, upd_same, fun H1 x1 g1 => ⟨rfl, ?_⟩⟩
    have e2 := Exb.ex e1 hg x1
    walk_at "dd"
    refine d_lenL (ex_l e2 ha) ?_
    refine k_R1 (by omega) (by rw [List.length_map]; omega) ?_
    rw [List.length_map, Int.toNat_natCast]
    refine k_for walk_rng (fun i σ' H' => Ex H H' ∧ GOk C H' g p (bm p xs i) ∧ ∃ o, σ' = [some (.int p), some (.ref a), some (.ref g), o]) ⟨e2, g1, none, rfl⟩ (fun i σ' H' _ _ => trivial) ?_ ?_
    · rintro i v σ' H' H2 hi ⟨e, hG, o, rfl⟩ ⟨rfl, rfl⟩
      have hG0 := hG
      obtain ⟨dx', r, el, h1, h2, h3⟩ := hG0
      walk_at "dd"
      refine k_meth h1 rfl ?_
      walk_at "dd"
      refine ⟨g, a, p, _, xs, i, _, rfl, rfl, hG, ex_l e ha, hp, bm_ok hp2 xs i, hi, by omega, fun H3 x3 g3 => ?_⟩
      walk_at "dd"
      exact ⟨Exb.ex e hg x3, g3, _, rfl⟩
    · rintro σ' H' ⟨e, hG, o, rfl⟩
      have hG0 := hG
      obtain ⟨dx', r, el, h1, h2, h3⟩ := hG0
      walk_at "dd"
      refine k_meth h1 rfl ?_
      walk_at "dd"
      exact ⟨g, p, _, xs.length, rfl, hG, bm_ok hp2 xs _, by omega, fun r' H2 e' h' => q _ _ (e.trans e') h'⟩
def sp_shortest_rule (K : PySem.W.Frag) : Sp := fun vs H Q _ => ∃ (p : Int) (c : Bool) (a : Addr) (xs : List Int), vs = [.int p, .ref a] ∧ IsPr p ∧ SqC K c H a (xs.map .int) ∧ Vl p xs ∧ xs.length ≤ 200 ∧ ∀ r H', Ex H H' → SqT K H' r ((ruleB p xs).map .int) → Q (.ref r) H'
theorem ok_shortest_rule (F : Fun K "shortest_rule" "shortest_rule" s_shortest_rule f fd) (B : Bns mg) (O_check_clock : Own P w K mg base "check_clock" 4 P_check_clock sp_check_clock) (O_check_values : Own P w K mg base "check_values" 3 P_check_values (sp_check_values K))
    (O_rule_of : Own P w K mg base "rule_of" 3 P_rule_of (sp_rule_of K)) : FnOk P w K mg base CX0 5 f fd P_shortest_rule (sp_shortest_rule K) := by
  refine F.ok sc_shortest_rule (fun vs H Q E h => ?_) (fun cdv A outer s H vs Q E hr h => ?_)
  · obtain ⟨p, c, a, xs, rfl, _⟩ := h
    rfl
  · obtain ⟨p, c, a, xs, rfl, hp, ha, hv, hl, q⟩ := h
    refine ⟨_, (pss_cons (ps_expr (pe_own O_check_clock (hr.mono (by decide)) (by rfl) (pa_cons (pv 0) pa_nil)))
      (pss_cons (ps_expr (pe_own O_check_values (hr.mono (by decide)) (by rfl) (pa_cons (pv 0) (pa_cons (pv 1) pa_nil))))
      (pss_one (ps_ret (pe_own O_rule_of (hr.mono (by decide)) (by rfl) (pa_cons (pv 0) (pa_cons (pe_callTy cr_lstC (by rfl) B.h_list (by decide +kernel) (pa_cons (pv 1) pa_nil)) pa_nil))))))), ?_⟩
    walk_at "dd"
    refine ⟨p, rfl, hp, ?_⟩
    walk_at "dd"
    refine ⟨p, c, a, xs, rfl, ha, hv, hl, fun H1 e1 => ?_⟩
    walk_at "dd"
    refine d_lstC (ha.ex e1) fun l hl' el => ?_
    walk_at "dd"
    exact ⟨p, l, xs, rfl, hp, .inl (.inl upd_same), hl, fun r H2 e2 h2 => q _ _ ((e1.trans el).trans e2) h2⟩
def sp_is_only_rule (K : PySem.W.Frag) : Sp := fun vs H Q _ => ∃ (p : Int) (c : Bool) (a : Addr) (xs : List Int), vs = [.int p, .ref a] ∧ IsPr p ∧ SqC K c H a (xs.map .int) ∧ Vl p xs ∧ xs.length ≤ 200 ∧ ∀ H', Ex H H' → Q (.bl (decide (2 * (((ruleB p xs).length : Int) - 1) ≤ xs.length))) H'
theorem ok_is_only_rule (F : Fun K "is_only_rule" "is_only_rule" s_is_only_rule f fd) (B : Bns mg) (O_check_clock : Own P w K mg base "check_clock" 4 P_check_clock sp_check_clock) (O_check_values : Own P w K mg base "check_values" 3 P_check_values (sp_check_values K))
    (O_rule_of : Own P w K mg base "rule_of" 3 P_rule_of (sp_rule_of K)) : FnOk P w K mg base CX0 5 f fd P_is_only_rule (sp_is_only_rule K) := by
  refine F.ok sc_is_only_rule (fun vs H Q E h => ?_) (fun cdv A outer s H vs Q E hr h => ?_)
  · obtain ⟨p, c, a, xs, rfl, _⟩ := h
    rfl
  · obtain ⟨p, c, a, xs, rfl, hp, ha, hv, hl, q⟩ := h
    refine ⟨_, (pss_cons (ps_expr (pe_own O_check_clock (hr.mono (by decide)) (by rfl) (pa_cons (pv 0) pa_nil)))
      (pss_cons (ps_expr (pe_own O_check_values (hr.mono (by decide)) (by rfl) (pa_cons (pv 0) (pa_cons (pv 1) pa_nil))))
      (pss_one (ps_ret (pe_cmpR or_le (pe_op or_mul pe_int (pe_op or_sub (pe_callB cr_lenC (by rfl) B.h_len (by decide +kernel) (pa_cons (pe_own O_rule_of (hr.mono (by decide)) (by rfl) (pa_cons (pv 0) (pa_cons (pe_callTy cr_lstC (by rfl) B.h_list (by decide +kernel) (pa_cons (pv 1) pa_nil)) pa_nil))) pa_nil)) pe_int)) (pe_callB cr_lenC (by rfl) B.h_len (by decide +kernel) (pa_cons (pv 1) pa_nil)) (nomark _)))))), ?_⟩
    walk_at "dd"
    refine ⟨p, rfl, hp, ?_⟩
    walk_at "dd"
    refine ⟨p, c, a, xs, rfl, ha, hv, hl, fun H1 e1 => ?_⟩
    walk_at "dd"
    refine d_lstC (ha.ex e1) fun l hl' el => ?_
    walk_at "dd"
    refine ⟨p, l, xs, rfl, hp, .inl (.inl upd_same), hl, fun r H2 e2 h2 => ?_⟩
    walk_at "dd"
    refine d_lenT h2 ?_
    walk_at "dd"
    refine d_mul (.inl ⟨by omega, by omega⟩) ?_
    walk_at "dd"
    have e3 := (e1.trans el).trans e2
    refine d_lenC (ha.ex e3) ?_
    walk_at "dd"
    rw [List.length_map, List.length_map]
    exact q _ e3
end
section
variable {P : Program} {w : World} {K : PySem.W.Frag} {mg : Str → Option Value} {base : Heap} {f : Addr} {fd : FuncData}
def sp_power_over (K : PySem.W.Frag) : Sp := fun vs H Q _ => ∃ (p : Int) (a : Addr) (xs : List Int) (k : Nat), vs = [.int p, .ref a, .int k] ∧ IsRule p xs ∧ SqT K H a (xs.map .int) ∧ k ≤ 10 ^ 18 ∧ ∀ r H' fs, Ex H H' → SqT K H' r (fs.map .int) → Pw p xs k fs → Q (.ref r) H'
theorem vl_1 {p : Int} (hp : 1 < p) : Vl p [1] := fun x hx => by
  rw [List.mem_singleton] at hx
  omega
theorem vl_01 {p : Int} (hp : 1 < p) : Vl p [0, 1] := fun x hx => by
  rcases List.mem_cons.mp hx with e | e
  · omega
  · exact vl_1 hp x e
theorem ok_power_over (F : Fun K "power_over" "power_over" s_power_over f fd) (O_over_of : Own P w K mg base "over_of" 2 P_over_of (sp_over_of K)) (O_product_poly : Own P w K mg base "product_poly" 2 P_product_poly (sp_product_poly K)) :
    FnOk P w K mg base CX0 3 f fd P_power_over (sp_power_over K) := by
  refine F.ok sc_power_over (fun vs H Q E h => ?_) (fun cdv A outer s H vs Q E hr h => ?_)
  · obtain ⟨p, a, xs, k, rfl, _⟩ := h
    rfl
  · obtain ⟨p, a, xs, k, rfl, hR, ha, hk, q⟩ := h
    have hp := hR.pr
    have p0 := hp.pos
    have p2 := hp.1
    have p1 := hp.2.1
    have lx := hR.le
    refine ⟨_, (pss_cons (ps_par3 (i := 3) (j := 4) (l := 5) (by rfl) sc_power_over.nd rfl rfl rfl (by decide) (by decide) (by decide) rfl rfl rfl (pa_cons (pe_ix ix_C (pe_own O_over_of (hr.mono (by decide)) (by rfl) (pa_cons (pv 0) (pa_cons (pe_tup (pa_cons pe_int pa_nil)) (pa_cons (pv 1) pa_nil)))) pe_int (fun _ _ => rfl)) (pa_cons (pv 2) (pa_cons (pe_ix ix_C (pe_own O_over_of (hr.mono (by decide)) (by rfl) (pa_cons (pv 0) (pa_cons (pe_tup (pa_cons pe_int (pa_cons pe_int pa_nil))) (pa_cons (pv 1) pa_nil)))) pe_int (fun _ _ => rfl)) pa_nil))) (by rfl))
      (pss_cons (ps_while PassesOwn.never (pt_cmpR or_gt (pv 4) pe_int (nomark _)) (pss_cons (ps_if (pt_cmpR or_eq (pe_op or_mod (pv 4) pe_int) pe_int (nomark _)) (pss_one (ps_set (i := 3) sc_power_over.nd rfl (by first | exact .inl rfl | exact .inr rfl) (pe_ix ix_C (pe_own O_over_of (hr.mono (by decide)) (by rfl) (pa_cons (pv 0) (pa_cons (pe_own O_product_poly (hr.mono (by decide)) (by rfl) (pa_cons (pv 0) (pa_cons (pv 3) (pa_cons (pv 5) pa_nil)))) (pa_cons (pv 1) pa_nil)))) pe_int (fun _ _ => rfl)))) pss_nil)
      (pss_one (ps_par (i := 4) (j := 5) (by rfl) sc_power_over.nd rfl rfl (by decide) rfl rfl (pa_cons (pe_op or_div (pv 4) pe_int) (pa_cons (pe_ix ix_C (pe_own O_over_of (hr.mono (by decide)) (by rfl) (pa_cons (pv 0) (pa_cons (pe_own O_product_poly (hr.mono (by decide)) (by rfl) (pa_cons (pv 0) (pa_cons (pv 5) (pa_cons (pv 5) pa_nil)))) (pa_cons (pv 1) pa_nil)))) pe_int (fun _ _ => rfl)) pa_nil)) (by rfl)))))
      (pss_one (ps_ret (pv 3))))), ?_⟩
    walk_at "dd"
    refine k_seq (by decide) fun t1 ht1 et1 => ?_
    walk_at "dd"
    refine ⟨p, t1, a, [1], xs, rfl, hp, .inl (.inl upd_same), ex_t et1 ha, vl_1 (by omega), hR.vl, by decide, by omega, hR.ne, hR.tr, fun T1 q1 r1 qs1 rs1 H1 e1 hT1 hq1 hr1 o1 => ?_⟩
    walk_at "dd"
    refine d_ixT hT1 (v := .ref r1) rfl ?_
    walk_at "dd"
    refine k_seq (by decide) fun t2 ht2 et2 => ?_
    walk_at "dd"
    refine ⟨p, t2, a, [0, 1], xs, rfl, hp, .inl (.inl upd_same), ex_t ((et1.trans e1).trans et2) ha, vl_01 (by omega), hR.vl, by decide, by omega, hR.ne, hR.tr, fun T2 q2 r2 qs2 rs2 H2 e2 hT2 hq2 hr2 o2 => ?_⟩
    walk_at "dd"
    refine d_ixT hT2 (v := .ref r2) rfl ?_
    walk_at "dd"
    have ee := (et1.trans e1).trans (et2.trans e2)
    refine d_while (fun m σ' H' => Ex H H' ∧ ∃ (fa sa : Addr) (fs ss : List Int) (l ka kb : Nat) (z : Int), z = (l : Int) ∧ σ' = [some (.int p), some (.ref a), some (.int k), some (.ref fa), some (.int z), some (.ref sa)] ∧ SqT K H' fa (fs.map .int) ∧ SqT K H' sa (ss.map .int) ∧
        Pw p xs ka fs ∧ Pw p xs kb ss ∧ ka + kb * l = k ∧ m = l) k ⟨ee, r1, r2, rs1, rs2, k, 0, 1, _, rfl, rfl, ex_t (et2.trans e2) hr1, hr2, .one o1, .next o2, by omega, rfl⟩ ?_
    rintro m σ' H' ⟨e, fa, sa, fs, ss, l, ka, kb, z, hz, rfl, hf, hs, wf, ws, hkk, rfl⟩
    have lf := wf.ln
    have ls := ws.ln
    walk_at "dd"
    refine k_if (fun c => ?_) (fun c => ?_)
    · have c' := of_decide_eq_true c
      refine k_body ?_
      walk_at "dd"
      refine d_mod (by decide) ?_
      walk_at "dd"
      refine k_if (fun c2 => ?_) (fun c2 => ?_)
      · have c2' := of_decide_eq_true c2
        walk_at "dd"
        refine ⟨p, fa, sa, fs, ss, rfl, p0, p1, hf, hs, wf.vl, ws.vl, by omega, by omega, fun pr H3 e3 hpr => ?_⟩
        have pl := prodP_len (p := p) fs ss
        walk_at "dd"
        refine ⟨p, pr, a, _, xs, rfl, hp, hpr, ex_t (e.trans e3) ha, prodP_vl p0 _ _, hR.vl, by omega, by omega, hR.ne, hR.tr, fun T4 q4 r4 qs4 rs4 H4 e4 hT4 hq4 hr4 o4 => ?_⟩
        walk_at "dd"
        refine d_ixT hT4 (v := .ref r4) rfl ?_
        walk_at "dd"
        refine d_div (wide_div (by decide) (b := 20) (by decide) (by decide) (by decide)) ?_
        walk_at "dd"
        have hs4 := ex_t (e3.trans e4) hs
        refine ⟨p, sa, sa, ss, ss, rfl, p0, p1, hs4, hs4, ws.vl, ws.vl, by omega, by omega, fun pr2 H5 e5 hpr2 => ?_⟩
        have pl2 := prodP_len (p := p) ss ss
        walk_at "dd"
        refine ⟨p, pr2, a, _, xs, rfl, hp, hpr2, ex_t ((e.trans e3).trans (e4.trans e5)) ha, prodP_vl p0 _ _, hR.vl, by omega, by omega, hR.ne, hR.tr, fun T6 q6 r6 qs6 rs6 H6 e6 hT6 hq6 hr6 o6 => ?_⟩
        walk_at "dd"
        refine d_ixT hT6 (v := .ref r6) rfl ?_
        walk_at "dd"
        refine ⟨m / 2, by omega, ((e.trans e3).trans (e4.trans e5)).trans e6, r4, r6, rs4, rs6, m / 2, ka + kb, kb + kb, z / 2, by omega, rfl, ex_t (e5.trans e6) hr4, hr6, wf.mul ws o4, ws.mul ws o6, ?_, rfl⟩
        have h2 : m = m / 2 + m / 2 + 1 := by omega
        rw [← hkk]
        generalize m / 2 = y at h2
        subst h2
        rw [Nat.add_mul, Nat.mul_add, Nat.mul_add]
        omega
      · have c2' := of_decide_eq_false c2
        walk_at "dd"
        refine d_div (wide_div (by decide) (b := 20) (by decide) (by decide) (by decide)) ?_
        walk_at "dd"
        refine ⟨p, sa, sa, ss, ss, rfl, p0, p1, hs, hs, ws.vl, ws.vl, by omega, by omega, fun pr2 H5 e5 hpr2 => ?_⟩
        have pl2 := prodP_len (p := p) ss ss
        walk_at "dd"
        refine ⟨p, pr2, a, _, xs, rfl, hp, hpr2, ex_t (e.trans e5) ha, prodP_vl p0 _ _, hR.vl, by omega, by omega, hR.ne, hR.tr, fun T6 q6 r6 qs6 rs6 H6 e6 hT6 hq6 hr6 o6 => ?_⟩
        walk_at "dd"
        refine d_ixT hT6 (v := .ref r6) rfl ?_
        walk_at "dd"
        refine ⟨m / 2, by omega, (e.trans e5).trans e6, fa, r6, fs, rs6, m / 2, ka, kb + kb, z / 2, by omega, rfl, ex_t (e5.trans e6) hf, hr6, wf, ws.mul ws o6, ?_, rfl⟩
        have h2 : m = m / 2 + m / 2 := by omega
        rw [← hkk]
        generalize m / 2 = y at h2
        subst h2
        rw [Nat.add_mul, Nat.mul_add]
    · have c' := of_decide_eq_false c
      obtain rfl : m = 0 := by omega
      walk_at "dd"
      rw [Nat.mul_zero, Nat.add_zero] at hkk
      subst hkk
      exact q _ _ _ e hf wf
def sp_value_at (K : PySem.W.Frag) : Sp := fun vs H Q _ => ∃ (p : Int) (a b : Addr) (xs ys : List Int) (k : Nat) (u : Nat → Int), vs = [.int p, .ref a, .ref b, .int k] ∧ IsRule p xs ∧ SqT K H a (xs.map .int) ∧ SqT K H b (ys.map .int) ∧ ys.length + 1 = xs.length ∧
  ys = ((List.range ys.length).map fun k => u k % p) ∧ Ob p xs u ∧ k ≤ 10 ^ 18 ∧ ∀ H', Ex H H' → Q (.int (u k % p)) H'
theorem ok_value_at (F : Fun K "value_at" "value_at" s_value_at f fd) (O_check_rule : Own P w K mg base "check_rule" 5 P_check_rule (sp_check_rule K)) (O_check_first : Own P w K mg base "check_first" 4 P_check_first (sp_check_first K))
    (O_check_number : Own P w K mg base "check_number" 3 P_check_number sp_check_number) (O_power_over : Own P w K mg base "power_over" 3 P_power_over (sp_power_over K)) (O_dot : Own P w K mg base "dot" 1 P_dot (sp_dot K)) {tP : Tok} (g_MOST_PLACE : mg "MOST_PLACE" = some (.int (10 ^ 18) tP)) :
    FnOk P w K mg base CX0 6 f fd P_value_at (sp_value_at K) := by
  refine F.ok sc_value_at (fun vs H Q E h => ?_) (fun cdv A outer s H vs Q E hr h => ?_)
  · obtain ⟨p, a, b, xs, ys, k, u, rfl, _⟩ := h
    rfl
  · obtain ⟨p, a, b, xs, ys, k, u, rfl, hR, ha, hb, hl, hy, hu, hk, q⟩ := h
    have hp := hR.pr
    have p0 := hp.pos
    have p1 := hp.2.1
    have lx := hR.le
    have vy : Vl p ys := by
      rw [hy]
      exact Vl.map fun i _ => emod_lt p0 _
    refine ⟨_, (pss_cons (ps_expr (pe_own O_check_rule (hr.mono (by decide)) (by rfl) (pa_cons (pv 0) (pa_cons (pv 1) pa_nil))))
      (pss_cons (ps_expr (pe_own O_check_first (hr.mono (by decide)) (by rfl) (pa_cons (pv 0) (pa_cons (pv 1) (pa_cons (pv 2) pa_nil)))))
      (pss_cons (ps_expr (pe_own O_check_number (hr.mono (by decide)) (by rfl) (pa_cons (pv 3) (pa_cons pe_int (pa_cons (pe_glob (v := .int 1000000000000000000) (by rfl) g_MOST_PLACE ⟨_, rfl⟩) pa_nil)))))
      (pss_one (ps_ret (pe_own O_dot (hr.mono (by decide)) (by rfl) (pa_cons (pv 0) (pa_cons (pe_own O_power_over (hr.mono (by decide)) (by rfl) (pa_cons (pv 0) (pa_cons (pv 1) (pa_cons (pv 3) pa_nil)))) (pa_cons (pv 2) pa_nil))))))))), ?_⟩
    walk_at "dd"
    refine ⟨p, a, xs, rfl, ha, hR, fun H1 e1 => ?_⟩
    walk_at "dd"
    refine ⟨p, a, b, xs, ys, rfl, ex_t e1 ha, ex_t e1 hb, vy, by omega, hl, fun H2 e2 => ?_⟩
    walk_at "dd"
    have hk' : (k : Int) ≤ 1000000000000000000 := by omega
    refine ⟨k, 0, 1000000000000000000, rfl, by omega, hk', ?_⟩
    walk_at "dd"
    have e12 := e1.trans e2
    refine ⟨p, a, xs, k, rfl, hR, ex_t e12 ha, hk, fun r H3 fs e3 hr3 hw => ?_⟩
    walk_at "dd"
    have lw := hw.ln
    refine ⟨p, false, false, r, b, fs, ys, rfl, p0, p1, hr3, ex_t (e12.trans e3) hb, hw.vl, by omega, fun H4 e4 => ?_⟩
    rw [val_eq hw hu hl hy]
    exact q _ ((e12.trans e3).trans e4)
def sp_continued (K : PySem.W.Frag) : Sp := fun vs H Q _ => ∃ (p : Int) (a b : Addr) (xs ys : List Int) (k : Nat) (u : Nat → Int), vs = [.int p, .ref a, .ref b, .int k] ∧ IsRule p xs ∧ SqT K H a (xs.map .int) ∧ SqT K H b (ys.map .int) ∧ ys.length + 1 = xs.length ∧
  ys = ((List.range ys.length).map fun k => u k % p) ∧ Ob p xs u ∧ k ≤ 200 ∧ ∀ r H', Ex H H' → SqT K H' r (((List.range k).map fun k => u k % p).map .int) → Q (.ref r) H'
theorem ok_continued (F : Fun K "continued" "continued" s_continued f fd) (B : Bns mg) (O_check_rule : Own P w K mg base "check_rule" 5 P_check_rule (sp_check_rule K)) (O_check_first : Own P w K mg base "check_first" 4 P_check_first (sp_check_first K))
    (O_check_number : Own P w K mg base "check_number" 3 P_check_number sp_check_number) (O_dot : Own P w K mg base "dot" 1 P_dot (sp_dot K)) {tV : Tok} (g_MOST_VALUES : mg "MOST_VALUES" = some (.int 200 tV)) :
    FnOk P w K mg base CX0 6 f fd P_continued (sp_continued K) := by
  refine F.ok sc_continued (fun vs H Q E h => ?_) (fun cdv A outer s H vs Q E hr h => ?_)
  · obtain ⟨p, a, b, xs, ys, k, u, rfl, _⟩ := h
    rfl
  · obtain ⟨p, a, b, xs, ys, k, u, rfl, hR, ha, hb, hl, hy, hu, hk, q⟩ := h
    have hp := hR.pr
    have p0 := hp.pos
    have p1 := hp.2.1
    have lx := hR.le
    have vy : Vl p ys := by
      rw [hy]
      exact Vl.map fun i _ => emod_lt p0 _
    refine ⟨_, (pss_cons (ps_expr (pe_own O_check_rule (hr.mono (by decide)) (by rfl) (pa_cons (pv 0) (pa_cons (pv 1) pa_nil))))
      (pss_cons (ps_expr (pe_own O_check_first (hr.mono (by decide)) (by rfl) (pa_cons (pv 0) (pa_cons (pv 1) (pa_cons (pv 2) pa_nil)))))
      (pss_cons (ps_expr (pe_own O_check_number (hr.mono (by decide)) (by rfl) (pa_cons (pv 3) (pa_cons pe_int (pa_cons (pe_glob (v := .int 200) (by rfl) g_MOST_VALUES ⟨_, rfl⟩) pa_nil)))))
      (pss_cons (ps_set (i := 4) sc_continued.nd rfl (by first | exact .inl rfl | exact .inr rfl) (pe_callTy cr_lstC (by rfl) B.h_list (by decide +kernel) (pa_cons (pv 2) pa_nil)))
      (pss_cons (ps_while PassesOwn.never (pt_cmpR or_lt (pe_callB cr_lenC (by rfl) B.h_len (by decide +kernel) (pa_cons (pv 4) pa_nil)) (pv 3) (nomark _)) (pss_one (ps_expr (pe_bm PySem.F.plainAttrs_list PySem.F.slot_list_append PySem.F.type_list_append mt_append (pv 4) (pa_cons (pe_op or_mod (pe_un ur_neg (pe_own O_dot (hr.mono (by decide)) (by rfl) (pa_cons (pv 0) (pa_cons (pe_slice sl_U (pv 1) po_none (po_some (pe_un ur_neg pe_int))) (pa_cons (pe_slice sl_L (pv 4) (po_some (pe_op or_add (pe_op or_sub (pe_callB cr_lenC (by rfl) B.h_len (by decide +kernel) (pa_cons (pv 4) pa_nil)) (pe_callB cr_lenC (by rfl) B.h_len (by decide +kernel) (pa_cons (pv 1) pa_nil))) pe_int)) po_none) pa_nil))))) (pv 0)) pa_nil)))))
      (pss_one (ps_ret (pe_callTy cr_tupC (by rfl) B.h_tuple (by decide +kernel) (pa_cons (pe_slice sl_L (pv 4) po_none (po_some (pv 3))) pa_nil))))))))), ?_⟩
    walk_at "dd"
    refine ⟨p, a, xs, rfl, ha, hR, fun H1 e1 => ?_⟩
    walk_at "dd"
    refine ⟨p, a, b, xs, ys, rfl, ex_t e1 ha, ex_t e1 hb, vy, by omega, hl, fun H2 e2 => ?_⟩
    walk_at "dd"
    refine ⟨k, 0, 200, rfl, by omega, by omega, ?_⟩
    walk_at "dd"
    have e12 := e1.trans e2
    refine d_lstC (c := false) (ex_t e12 hb) fun l hl0 el => ?_
    have hlH : H l = none := none_of e12 hl0
    walk_at "dd"
    refine d_while (fun m σ' H' => Ex H H' ∧ ∃ n : Nat, σ' = [some (.int p), some (.ref a), some (.ref b), some (.int k), some (.ref l)] ∧ H' l = some (.lst (((List.range n).map fun k => u k % p).map .int)) ∧ ys.length ≤ n ∧ (n ≤ ys.length ∨ n ≤ k) ∧ m = k - n) (k - ys.length)
      ⟨e12.trans el, ys.length, rfl, by rw [← hy]; exact upd_same, Nat.le_refl _, .inl (Nat.le_refl _), rfl⟩ ?_
    rintro m σ' H' ⟨e, n, rfl, hL, hn, hn2, rfl⟩
    walk_at "dd"
    refine d_lenL (.inl (.inl hL)) ?_
    walk_at "dd"
    rw [List.length_map, List.length_map, List.length_range]
    refine k_if (fun c => ?_) (fun c => ?_)
    · have c' := of_decide_eq_true c
      refine k_body ?_
      walk_at "dd"
      refine k_bmL (.inl (.inl hL)) ?_
      walk_at "dd"
      refine d_slU (ex_t e ha) fun r1 H3 e3 h3 => ?_
      rw [cutV_last, List.length_map, ← List.map_take] at h3
      walk_at "dd"
      refine d_lenL (.inl (.inl (e3 _ _ hL))) ?_
      walk_at "dd"
      refine d_lenT (ex_t (e.trans e3) ha) ?_
      walk_at "dd"
      rw [List.length_map, List.length_map, List.length_range, List.length_map]
      refine d_slL (.inl (.inl (e3 _ _ hL))) fun r2 hr2 e4 => ?_
      rw [cutV_from (n := n - ys.length) (by omega), ← List.map_drop] at e4 ⊢
      walk_at "dd"
      refine ⟨p, false, true, r1, r2, _, _, rfl, p0, p1, ex_t e4 h3, .inl (.inl upd_same), hR.vl.take _, by rw [List.length_take]; omega, fun H5 e5 => ?_⟩
      walk_at "dd"
      refine d_mod p0 ?_
      rw [show xs.length - 1 = ys.length by omega, cont_eq hu hl (by have := hR.one; rwa [show xs.length - 1 = ys.length by omega] at this) hn]
      walk_at "dd"
      have e35 := (e3.trans e4).trans e5
      refine k_append (e35 _ _ hL) (by simp; omega) ?_
      refine ⟨k - (n + 1), by omega, Ex.mut (e.trans e35) hlH, n + 1, rfl, ?_, by omega, .inr (by omega), rfl⟩
      rw [upd_same, List.range_succ, List.map_append, List.map_append]
      rfl
    · have c' := of_decide_eq_false c
      walk_at "dd"
      refine d_slL (.inl (.inl hL)) fun r2 hr2 e4 => ?_
      rw [cutV_to' (n := k) rfl, ← List.map_take, map_take _ (by omega)] at e4 ⊢
      walk_at "dd"
      exact d_tupC (c := true) (.inl (.inl upd_same)) fun r H6 e6 h6 => q _ _ ((e.trans e4).trans e6) h6
end
section
variable {P : Program} {w : World} {K : PySem.W.Frag} {mg : Str → Option Value} {base : Heap} {f : Addr} {fd : FuncData}
/-! ## the law's own: what is drawn -/
def HandOk (H : Hp) (h c : Addr) : Prop := ∃ (cells : List Int) (k : Nat) (z s t : Int), H h = some (.lst [.ref c, .int k, .int z, .int s, .int t]) ∧ H c = some (.lst (cells.map .int)) ∧ h ≠ c ∧ 0 ≤ z ∧ ∀ x ∈ cells, 0 ≤ x
def sp_law_hand (K : PySem.W.Frag) : Sp := fun vs H Q _ => ∃ (a : Addr) (ns : List Int), vs = [.ref a] ∧ SqL K H a (ns.map .int) ∧ ns.length ≤ 1000 ∧ ∀ h c H', H h = none → Ex H H' → HandOk H' h c → Q (.ref h) H'
theorem ok_law_hand (F : Fun K "_law_hand" "_law_hand" s_law_hand f fd) (B : Bns mg) : FnOk P w K mg base CX0 1 f fd P_law_hand (sp_law_hand K) := by
  refine F.ok sc_law_hand (fun vs H Q E h => ?_) (fun cdv A outer s H vs Q E hr h => ?_)
  · obtain ⟨a, ns, rfl, _⟩ := h
    rfl
  · obtain ⟨a, ns, rfl, ha, hl, q⟩ := h
    refine ⟨_, (pss_cons (ps_setLc (i := 1) (own := [("cell", 2)]) (g := (gName 2)) (tt := tYes) (te := (tCB rAbsI (tCons (tCB rIntI (tCons (tVar 2) tNil)) tNil))) (by rfl) sc_law_hand.nd rfl rfl (sw_true rfl rfl rfl (by decide +kernel)) (pi_list (pe_slice sl_L (pv 0) po_none (po_some pe_int))) (blkOk_by (own := [("cell", 2)]) (N := N_law_hand) (sc := defScope s_law_hand) (by decide +kernel)) (fun _ _ _ _ _ => (pg_name (i := 2) sc_law_hand.nd rfl (by first | exact .inl rfl | exact .inr rfl))) (fun _ _ _ _ _ => pts_nil) (fun _ _ _ _ _ => (pe_callB cr_abs (by rfl) B.h_abs (by decide +kernel) (pa_cons (pe_callTy cr_int (by rfl) B.h_int (by decide +kernel) (pa_cons (pv 2) pa_nil)) pa_nil))))
      (pss_one (ps_ret (pe_lst (pa_cons (pv 1) (pa_cons pe_int (pa_cons pe_int (pa_cons (pe_op or_add pe_int (pe_op or_mul pe_int (pe_callB cr_lenC (by rfl) B.h_len (by decide +kernel) (pa_cons (pv 1) pa_nil)))) (pa_cons pe_int pa_nil))))))))), ?_⟩
    walk_at "dd"
    refine d_slL ha fun l hl el => ?_
    rw [cutV_to' (show (61 : Int) = ((61 : Nat) : Int) from rfl), ← List.map_take] at el ⊢
    refine k_L (.inl (.inl upd_same)) ?_
    refine k_lcN walk_list (fun i => .int ((cf (ns.take 61) i).natAbs : Int)) (by rw [List.length_map, List.length_take]; omega) (fun H' e => .inl (.inl (e _ _ upd_same))) (fun _ => rfl) (fun i x H' H2 hi e y => ?_) (fun c H' hc e ec => ?_)
    · obtain ⟨rfl, y⟩ := y
      obtain ⟨rfl, _⟩ := int_at y
      refine ⟨Ex.refl _, fun Q q => ?_⟩
      walk_at "dd"
      exact q _ (Ex.refl _)
    · rw [map_ints] at ec
      walk_at "dd"
      refine d_lenL (.inl (.inl ec)) ?_
      refine d_mul (.inl ⟨by omega, by omega⟩) ?_
      walk_at "dd"
      refine k_seq (by show 5 ≤ 1000; decide) fun h hh eh => ?_
      refine q h c _ (none_of (el.trans e) hh) ((el.trans e).trans eh) ⟨_, 0, 0, _, 0, upd_same, eh _ _ ec, ?_, Int.le_refl 0, fun x hx => ?_⟩
      · rintro rfl
        rw [ec] at hh
        cases hh
      · obtain ⟨i, _, rfl⟩ := List.mem_map.mp hx
        omega
def sp_law_draw : Sp := fun vs H Q _ => ∃ (h c : Addr) (m : Int), vs = [.ref h, .int m] ∧ HandOk H h c ∧ 0 < m ∧ m ≤ 10 ^ 18 ∧ ∀ (r : Int) H', 0 ≤ r → r < m → Exb h H H' → HandOk H' h c → Q (.int r) H'
theorem ok_law_draw (F : Fun K "_law_draw" "_law_draw" s_law_draw f fd) (B : Bns mg) : FnOk P w K mg base CX0 1 f fd P_law_draw sp_law_draw := by
  refine F.ok sc_law_draw (fun vs H Q E h => ?_) (fun cdv A outer s H vs Q E hr h => ?_)
  · obtain ⟨h, c, m, rfl, _⟩ := h
    rfl
  · obtain ⟨h, c, m, rfl, hh, m0, m1, q⟩ := h
    refine ⟨_, (pss_cons (ps_if (PW.pt (pw_and (pt_cmpR or_eq (pe_ix ix_C (pv 0) pe_int (fun _ _ => rfl)) pe_int (nomark _)) (pw_and1 (pt_cmpR or_lt (pe_ix ix_C (pv 0) pe_int (fun _ _ => rfl)) (pe_callB cr_lenC (by rfl) B.h_len (by decide +kernel) (pa_cons (pe_ix ix_C (pv 0) pe_int (fun _ _ => rfl)) pa_nil)) (nomark _))))) (pss_cons (ps_set (i := 2) sc_law_draw.nd rfl (by first | exact .inl rfl | exact .inr rfl) (pe_ix ix_C (pe_ix ix_C (pv 0) pe_int (fun _ _ => rfl)) (pe_ix ix_C (pv 0) pe_int (fun _ _ => rfl)) (fun _ _ => rfl)))
      (pss_cons (ps_asg (pe_op or_add (pe_ix ix_C (pv 0) pe_int (fun _ _ => rfl)) pe_int) (pg_sub (pv 0) pe_int set_list))
      (pss_cons (ps_asg (pe_op or_mod (pe_callTy cr_int (by rfl) B.h_int (by decide +kernel) (pa_cons (pe_op or_add (pe_op or_add (pe_op or_mul (pe_ix ix_C (pv 0) pe_int (fun _ _ => rfl)) pe_int) (pe_op or_mul (pv 2) pe_int)) pe_int) pa_nil)) pe_int) (pg_sub (pv 0) pe_int set_list))
      (pss_one (ps_if (pt_cmpR or_ge (pv 2) (pe_op or_pow pe_int pe_int) (nomark _)) (pss_one (ps_asg (pv 2) (pg_sub (pv 0) pe_int set_list))) pss_nil))))) pss_nil)
      (pss_cons (ps_if (pt_cmpR or_gt (pe_ix ix_C (pv 0) pe_int (fun _ _ => rfl)) pe_int (nomark _)) (pss_cons (ps_set (i := 3) sc_law_draw.nd rfl (by first | exact .inl rfl | exact .inr rfl) (pe_op or_mod (pe_callTy cr_int (by rfl) B.h_int (by decide +kernel) (pa_cons (pe_ix ix_C (pv 0) pe_int (fun _ _ => rfl)) pa_nil)) (pv 1)))
      (pss_cons (ps_asg (pe_op or_div (pe_ix ix_C (pv 0) pe_int (fun _ _ => rfl)) (pv 1)) (pg_sub (pv 0) pe_int set_list))
      (pss_one (ps_ret (pv 3))))) pss_nil)
      (pss_cons (ps_asg (pe_op or_add (pe_ix ix_C (pv 0) pe_int (fun _ _ => rfl)) pe_int) (pg_sub (pv 0) pe_int set_list))
      (pss_cons (ps_set (i := 4) sc_law_draw.nd rfl (by first | exact .inl rfl | exact .inr rfl) (pe_op or_mod (pe_callTy cr_int (by rfl) B.h_int (by decide +kernel) (pa_cons (pe_op or_mul (pe_callTy cr_int (by rfl) B.h_int (by decide +kernel) (pa_cons (pe_op or_add (pe_ix ix_C (pv 0) pe_int (fun _ _ => rfl)) (pe_op or_mul pe_int (pe_ix ix_C (pv 0) pe_int (fun _ _ => rfl)))) pa_nil)) pe_int) pa_nil)) pe_int))
      (pss_cons (ps_set (i := 4) sc_law_draw.nd rfl (by first | exact .inl rfl | exact .inr rfl) (pe_op or_mod (pe_callTy cr_int (by rfl) B.h_int (by decide +kernel) (pa_cons (pe_op or_mul (pv 4) (pe_op or_add (pe_op or_div (pv 4) pe_int) pe_int)) pa_nil)) pe_int))
      (pss_cons (ps_set (i := 4) sc_law_draw.nd rfl (by first | exact .inl rfl | exact .inr rfl) (pe_op or_mod (pe_callTy cr_int (by rfl) B.h_int (by decide +kernel) (pa_cons (pe_op or_mul (pv 4) (pe_op or_add (pe_op or_div (pv 4) pe_int) pe_int)) pa_nil)) pe_int))
      (pss_one (ps_ret (pe_op or_mod (pe_callTy cr_int (by rfl) B.h_int (by decide +kernel) (pa_cons (pe_op or_div (pv 4) pe_int) pa_nil)) (pv 1)))))))))), ?_⟩
    refine d_seqR (fun σ' H' => Exb h H H' ∧ HandOk H' h c ∧ ∃ o1 o2 o3, σ' = [some (.ref h), some (.int m), o1, o2, o3]) ?_ fun hR => ?_
    · rintro σ' H' ⟨e, ⟨cells, k, z, s, t, h1, h2, hne, hz, hc⟩, o1, o2, o3, rfl⟩
      walk_at "dd"
      refine d_ixL (.inl (.inl h1)) (v := .int z) rfl ?_
      walk_at "dd"
      refine k_if (fun _ => ?_) (fun _ => ?_)
      · walk_at "dd"
        refine d_ixL (.inl (.inl h1)) (v := .int z) rfl ?_
        walk_at "dd"
        refine d_mod m0 ?_
        walk_at "dd"
        refine d_ixL (.inl (.inl h1)) (v := .int z) rfl ?_
        walk_at "dd"
        refine d_div (wide_div (b := 62) m0 (by omega) (by decide) (by decide)) ?_
        walk_at "dd"
        refine k_set (j := 2) h1 rfl (by show 2 < 5; decide) ?_
        walk_at "dd"
        have zb := emod_lt m0 z
        exact q _ _ zb.1 zb.2 (e.upd _) ⟨cells, k, _, s, t, upd_same, upd_keep h2 hne.symm, hne, Int.ediv_nonneg hz (by omega), hc⟩
      · walk_at "dd"
        refine d_ixL (.inl (.inl h1)) (v := .int t) rfl ?_
        walk_at "dd"
        refine k_set (j := 4) h1 rfl (by show 4 < 5; decide) ?_
        walk_at "dd"
        refine d_ixL (.inl (.inl upd_same)) (v := .int s) rfl ?_
        walk_at "dd"
        refine d_ixL (.inl (.inl upd_same)) (v := .int (t + 1)) rfl ?_
        walk_at "dd"
        refine d_mul (.inl ⟨by omega, by omega⟩) ?_
        walk_at "dd"
        refine d_mul (.inr ⟨by omega, by omega⟩) ?_
        walk_at "dd"
        refine d_mod (by omega) ?_
        walk_at "dd"
        have n0 := emod_lt (p := 2147483647) (by decide) ((s + 7919 * (t + 1)) * 48271)
        generalize (s + 7919 * (t + 1)) * 48271 % 2147483647 = n1 at n0 ⊢
        refine d_div (wide_div (b := 62) (by omega) (by omega) (by decide) (by decide)) ?_
        walk_at "dd"
        refine d_mul (.inl ⟨by omega, by omega⟩) ?_
        walk_at "dd"
        refine d_mod (by omega) ?_
        walk_at "dd"
        have n2 := emod_lt (p := 2147483647) (by decide) (n1 * (n1 / 1009 + 69621))
        generalize n1 * (n1 / 1009 + 69621) % 2147483647 = n3 at n2 ⊢
        refine d_div (wide_div (b := 62) (by omega) (by omega) (by decide) (by decide)) ?_
        walk_at "dd"
        refine d_mul (.inl ⟨by omega, by omega⟩) ?_
        walk_at "dd"
        refine d_mod (by omega) ?_
        walk_at "dd"
        refine d_div (wide_div (b := 62) (by omega) (by omega) (by decide) (by decide)) ?_
        walk_at "dd"
        refine d_mod m0 ?_
        generalize n3 * (n3 / 2003 + 40014) % 2147483563 / 16 = n5
        have zb := emod_lt m0 n5
        exact q _ _ zb.1 zb.2 (e.upd _) ⟨cells, k, _, s, _, upd_same, upd_keep h2 hne.symm, hne, hz, hc⟩
    · have hok := hh
      obtain ⟨cells, k, z, s, t, h1, h2, hne, hz, hc⟩ := hh
      walk_at "dd"
      refine d_ixL (.inl (.inl h1)) (v := .int z) rfl ?_
      walk_at "dd"
      refine k_and (fun e => ?_) (fun e => ?_)
      · walk_at "dd"
        refine d_ixL (.inl (.inl h1)) (v := .int k) rfl ?_
        walk_at "dd"
        refine d_ixL (.inl (.inl h1)) (v := .ref c) rfl ?_
        walk_at "dd"
        refine d_lenL (.inl (.inl h2)) ?_
        walk_at "dd"
        rw [List.length_map]
        refine k_if (fun e2 => ?_) (fun e2 => ?_)
        · have e2' := of_decide_eq_true e2
          walk_at "dd"
          refine d_ixL (.inl (.inl h1)) (v := .ref c) rfl ?_
          walk_at "dd"
          refine d_ixL (.inl (.inl h1)) (v := .int k) rfl ?_
          walk_at "dd"
          refine d_ixL (.inl (.inl h2)) (ati (j := k) rfl (by omega)) ?_
          walk_at "dd"
          have hcell : 0 ≤ cf cells k := hc _ (List.mem_of_getElem? (cf_lt (by omega)))
          refine d_ixL (.inl (.inl h1)) (v := .int k) rfl ?_
          walk_at "dd"
          refine k_set (j := 1) h1 rfl (by show 1 < 5; decide) ?_
          walk_at "dd"
          refine d_ixL (.inl (.inl upd_same)) (v := .int s) rfl ?_
          walk_at "dd"
          refine d_mul (.inr ⟨by omega, by omega⟩) ?_
          walk_at "dd"
          refine d_mul (.inr ⟨by omega, by omega⟩) ?_
          walk_at "dd"
          refine d_mod (by omega) ?_
          generalize (s * 69621 + cf cells k * 40692 + 67) % 2147483629 = s1
          walk_at "dd"
          refine k_set (j := 3) upd_same rfl (by show 3 < 5; decide) ?_
          walk_at "dd"
          refine d_pow ⟨by decide, by decide, by decide⟩ ?_
          walk_at "dd"
          refine k_if (fun e3 => ?_) (fun e3 => ?_)
          · walk_at "dd"
            refine k_set (j := 2) upd_same rfl (by show 2 < 5; decide) ?_
            refine hR _ _ ⟨Exb.upd (.upd (.upd (Ex.exb (Ex.refl H) h) _) _) _, ⟨cells, k + 1, cf cells k, s1, t, ?_, ?_, hne, hcell, hc⟩, _, _, _, rfl⟩
            · rw [upd_same]
              rfl
            · rw [upd_ne hne.symm, upd_ne hne.symm, upd_ne hne.symm]
              exact h2
          · refine d_next ?_
            refine hR _ _ ⟨Exb.upd (.upd (Ex.exb (Ex.refl H) h) _) _, ⟨cells, k + 1, z, s1, t, ?_, ?_, hne, hz, hc⟩, _, _, _, rfl⟩
            · rw [upd_same]
              rfl
            · rw [upd_ne hne.symm, upd_ne hne.symm]
              exact h2
        · refine d_next ?_
          exact hR _ _ ⟨Ex.exb (Ex.refl H) h, hok, _, _, _, rfl⟩
      · refine k_ifF ?_
        refine d_next ?_
        exact hR _ _ ⟨Ex.exb (Ex.refl H) h, hok, _, _, _, rfl⟩
end
section
variable {P : Program} {w : World} {K : PySem.W.Frag} {mg : Str → Option Value} {base : Heap} {f : Addr} {fd : FuncData}
theorem exb_l {H H' : Hp} {h a : Addr} {xs : List V} (e : Exb h H H') (ne : a ≠ h) (hs : SqL K H a xs) : SqL K H' a xs := by
  rcases hs with (z | ⟨o, z⟩) | z
  · exact .inl (.inl (e a _ ne z))
  · exact .inl (.inr ⟨o, e a _ ne z⟩)
  · exact .inr z
theorem exb_t {H H' : Hp} {h c a : Addr} {xs : List V} (e : Exb h H H') (hh : HandOk H h c) (hs : SqT K H a xs) : SqT K H' a xs := by
  obtain ⟨cells, k, z, s, t, h1, _⟩ := hh
  rcases hs with (z | ⟨o, z⟩) | z
  · refine .inl (.inl (e a _ ?_ z))
    rintro rfl
    rw [h1] at z
    cases z
  · refine .inl (.inr ⟨o, e a _ ?_ z⟩)
    rintro rfl
    rw [h1] at z
    cases z
  · exact .inr z
theorem HandOk.ex {H H' : Hp} {h c : Addr} (e : Ex H H') (hh : HandOk H h c) : HandOk H' h c := by
  obtain ⟨cells, k, z, s, t, h1, h2, r⟩ := hh
  exact ⟨cells, k, z, s, t, e _ _ h1, e _ _ h2, r⟩
theorem HandOk.ne {H : Hp} {h c a : Addr} {o : HO} (hh : HandOk H h c) (ho : H a = some o) (hn : ∀ c r, o ≠ .lst (.ref c :: r)) : a ≠ h := by
  obtain ⟨cells, k, z, s, t, h1, _⟩ := hh
  rintro rfl
  rw [h1] at ho
  exact hn _ _ (Option.some.inj ho).symm
theorem HandOk.nei {H : Hp} {h c a : Addr} {xs : List Int} (hh : HandOk H h c) (ho : H a = some (.lst (xs.map .int))) : a ≠ h := hh.ne ho fun c r e => by
  cases xs with
  | nil => cases e
  | cons x r => cases e
theorem HandOk.new {H : Hp} {h c a : Addr} (hh : HandOk H h c) (ho : H a = none) : a ≠ h := by
  obtain ⟨cells, k, z, s, t, h1, _⟩ := hh
  rintro rfl
  rw [h1] at ho
  cases ho
theorem HandOk.newc {H : Hp} {h c a : Addr} (hh : HandOk H h c) (ho : H a = none) : a ≠ c := by
  obtain ⟨cells, k, z, s, t, h1, h2, _⟩ := hh
  rintro rfl
  rw [h2] at ho
  cases ho
theorem HandOk.mut {H : Hp} {h c a : Addr} {o : HO} (hh : HandOk H h c) (n1 : a ≠ h) (n2 : a ≠ c) : HandOk (upd H a o) h c := by
  obtain ⟨cells, k, z, s, t, h1, h2, r⟩ := hh
  exact ⟨cells, k, z, s, t, upd_keep h1 n1.symm, upd_keep h2 n2.symm, r⟩
theorem exb_mut {H H' : Hp} {h a : Addr} {o : HO} (e : Exb h H H') (hn : H a = none) : Exb h H (upd H' a o) := fun b u ne hb => by
  rw [upd_ne]
  · exact e b u ne hb
  · rintro rfl
    rw [hn] at hb
    cases hb
def sp_law_any : Sp := fun vs H Q _ => ∃ (h c a : Addr) (xs : List Int), vs = [.ref h, .ref a] ∧ HandOk H h c ∧ H a = some (.lst (xs.map .int)) ∧ xs ≠ [] ∧ xs.length ≤ 1000 ∧ ∀ v H', v ∈ xs → Exb h H H' → HandOk H' h c → Q (.int v) H'
theorem ok_law_any (F : Fun K "_law_any" "_law_any" s_law_any f fd) (B : Bns mg) (O_law_draw : Own P w K mg base "_law_draw" 1 P_law_draw sp_law_draw) : FnOk P w K mg base CX0 2 f fd P_law_any sp_law_any := by
  refine F.ok sc_law_any (fun vs H Q E h => ?_) (fun cdv A outer s H vs Q E hr h => ?_)
  · obtain ⟨h, c, a, xs, rfl, _⟩ := h
    rfl
  · obtain ⟨h, c, a, xs, rfl, hh, ha, hx, hl, q⟩ := h
    have hp := List.length_pos_iff.mpr hx
    refine ⟨_, (pss_one (ps_ret (pe_ix ix_C (pv 1) (pe_own O_law_draw (hr.mono (by decide)) (by rfl) (pa_cons (pv 0) (pa_cons (pe_callB cr_lenC (by rfl) B.h_len (by decide +kernel) (pa_cons (pv 1) pa_nil)) pa_nil))) (fun _ _ => rfl)))), ?_⟩
    walk_at "dd"
    refine d_lenL (.inl (.inl ha)) ?_
    walk_at "dd"
    rw [List.length_map]
    refine ⟨h, c, xs.length, rfl, hh, by omega, by omega, fun r H1 r0 r1 e1 hh1 => ?_⟩
    refine d_ixL (.inl (.inl (e1 _ _ (hh.nei ha) ha))) (ati (j := r.toNat) (by omega) (by omega)) ?_
    exact q _ _ (List.mem_of_getElem? (cf_lt (by omega))) e1 hh1
def sp_law_is (K : PySem.W.Frag) : Sp := fun vs H Q _ => ∃ (x y : V) (d : PyData), vs = [x, y] ∧ Dp K H x d ∧ Dp K H y d ∧ ((∃ a, x = .ref a) ∨ ∃ b, x = .bl b) ∧ ((∃ a, y = .ref a) ∨ ∃ b, y = .bl b) ∧ Rp d ∧ Q (.bl true) H
theorem ok_law_is (F : Fun K "_law_is" "_law_is" s_law_is f fd) (B : Bns mg) : FnG P w K mg base 1 f fd P_law_is (sp_law_is K) := by
  refine fun_okG F sc_law_is (fun vs H Q E h => ?_) (fun cdv A outer s H vs Q E hgd hr h => ?_)
  · obtain ⟨x, y, d, rfl, _⟩ := h
    rfl
  · obtain ⟨x, y, d, rfl, h1, h2, h3, h4, h5, q⟩ := h
    refine ⟨_, (pss_one (ps_ret (pe_cmpR op_eq (pe_callB (call_repr hgd hr.units) (by rfl) B.h_repr (by decide +kernel) (pa_cons (pv 0) pa_nil)) (pe_callB (call_repr hgd hr.units) (by rfl) B.h_repr (by decide +kernel) (pa_cons (pv 1) pa_nil)) (nomark _)))), ?_⟩
    walk_at "dd"
    refine d_repr h1 h3 h5 ?_
    walk_at "dd"
    refine d_repr h2 h4 h5 ?_
    refine ⟨rfl, ?_⟩
    rw [decide_eq_true rfl]
    exact q
def sp_law_power : Sp := fun vs H Q _ => ∃ (p v : Int) (k : Nat), vs = [.int p, .int v, .int k] ∧ 1 < p ∧ p ≤ 1000000 ∧ Q (.int (v ^ k % p)) H
theorem ok_law_power (F : Fun K "_law_power" "_law_power" s_law_power f fd) (B : Bns mg) : FnOk P w K mg base CX0 1 f fd P_law_power sp_law_power := by
  refine F.ok sc_law_power (fun vs H Q E h => ?_) (fun cdv A outer s H vs Q E hr h => ?_)
  · obtain ⟨p, v, k, rfl, _⟩ := h
    rfl
  · obtain ⟨p, v, k, rfl, p0, p1, q⟩ := h
    refine ⟨_, (pss_cons (ps_par (i := 3) (j := 4) (by rfl) sc_law_power.nd rfl rfl (by decide) rfl rfl (pa_cons pe_int (pa_cons (pe_op or_mod (pe_callTy cr_int (by rfl) B.h_int (by decide +kernel) (pa_cons (pv 1) pa_nil)) (pv 0)) pa_nil)) (by rfl))
      (pss_cons (ps_while PassesOwn.never (pt_cmpR or_gt (pv 2) pe_int (nomark _)) (pss_cons (ps_if (pt_cmpR or_eq (pe_op or_mod (pe_callTy cr_int (by rfl) B.h_int (by decide +kernel) (pa_cons (pv 2) pa_nil)) pe_int) pe_int (nomark _)) (pss_one (ps_set (i := 3) sc_law_power.nd rfl (by first | exact .inl rfl | exact .inr rfl) (pe_op or_mod (pe_callTy cr_int (by rfl) B.h_int (by decide +kernel) (pa_cons (pe_op or_mul (pv 3) (pv 4)) pa_nil)) (pv 0)))) pss_nil)
      (pss_one (ps_par (i := 4) (j := 2) (by rfl) sc_law_power.nd rfl rfl (by decide) rfl rfl (pa_cons (pe_op or_mod (pe_callTy cr_int (by rfl) B.h_int (by decide +kernel) (pa_cons (pe_op or_mul (pv 4) (pv 4)) pa_nil)) (pv 0)) (pa_cons (pe_op or_div (pv 2) pe_int) pa_nil)) (by rfl)))))
      (pss_one (ps_ret (pe_op or_mod (pe_callTy cr_int (by rfl) B.h_int (by decide +kernel) (pa_cons (pv 3) pa_nil)) (pv 0)))))), ?_⟩
    walk_at "dd"
    refine d_mod (by omega) ?_
    walk_at "dd"
    refine d_while (fun m σ' H' => H' = H ∧ ∃ (l : Nat) (z fo he : Int), z = (l : Int) ∧ σ' = [some (.int p), some (.int v), some (.int z), some (.int fo), some (.int he)] ∧ 0 ≤ fo ∧ fo < p ∧ 0 ≤ he ∧ he < p ∧ Eqm p (fo * he ^ l) (v ^ k) ∧ m = l) k
      ⟨rfl, k, _, 1, v % p, rfl, rfl, by omega, by omega, (emod_lt (by omega) v).1, (emod_lt (by omega) v).2, by rw [Int.one_mul]; exact Eqm.pow (Eqm.mod v) k, rfl⟩ ?_
    rintro m σ' H' ⟨rfl, l, z, fo, he, hz, rfl, f0, f1, h0, h1, hq, rfl⟩
    walk_at "dd"
    refine k_if (fun c => ?_) (fun c => ?_)
    · have c' := of_decide_eq_true c
      refine k_body ?_
      walk_at "dd"
      refine d_mod (by decide) ?_
      walk_at "dd"
      refine k_if (fun c2 => ?_) (fun c2 => ?_)
      · have c2' := of_decide_eq_true c2
        walk_at "dd"
        refine d_mul (.inl ⟨by omega, by omega⟩) ?_
        walk_at "dd"
        refine d_mod (by omega) ?_
        walk_at "dd"
        refine d_mul (.inl ⟨by omega, by omega⟩) ?_
        walk_at "dd"
        refine d_mod (by omega) ?_
        walk_at "dd"
        refine d_div (wide_div (by decide) (b := 20) (by decide) (by decide) (by decide)) ?_
        walk_at "dd"
        have b1 := emod_lt (show 0 < p by omega) (fo * he)
        have b2 := emod_lt (show 0 < p by omega) (he * he)
        refine ⟨m / 2, by omega, rfl, m / 2, z / 2, _, _, by omega, rfl, b1.1, b1.2, b2.1, b2.2, Eqm.trans ?_ hq, rfl⟩
        refine ((Eqm.mod _).mul (Eqm.pow (Eqm.mod _) _)).trans (.of ?_)
        have h2 : m = m / 2 + m / 2 + 1 := by omega
        generalize m / 2 = y at h2
        subst h2
        rw [Int.pow_succ, Int.pow_add, Int.mul_pow, Int.mul_assoc fo he, Int.mul_comm he]
      · have c2' := of_decide_eq_false c2
        walk_at "dd"
        refine d_mul (.inl ⟨by omega, by omega⟩) ?_
        walk_at "dd"
        refine d_mod (by omega) ?_
        walk_at "dd"
        refine d_div (wide_div (by decide) (b := 20) (by decide) (by decide) (by decide)) ?_
        walk_at "dd"
        have b2 := emod_lt (show 0 < p by omega) (he * he)
        refine ⟨m / 2, by omega, rfl, m / 2, z / 2, _, _, by omega, rfl, f0, f1, b2.1, b2.2, Eqm.trans ?_ hq, rfl⟩
        refine ((Eqm.refl _).mul (Eqm.pow (Eqm.mod _) _)).trans (.of ?_)
        have h2 : m = m / 2 + m / 2 := by omega
        generalize m / 2 = y at h2
        subst h2
        rw [Int.pow_add, Int.mul_pow]
    · have c' := of_decide_eq_false c
      obtain rfl : m = 0 := by omega
      walk_at "dd"
      refine d_mod (by omega) ?_
      rw [Int.pow_zero, Int.mul_one] at hq
      rw [hq.emod]
      exact q
def sp_law_times (K : PySem.W.Frag) : Sp := fun vs H Q _ => ∃ (p : Int) (a b : Addr) (xs ys : List Int), vs = [.int p, .ref a, .ref b] ∧ 0 < p ∧ p ≤ 1000000 ∧ SqT K H a (xs.map .int) ∧ SqT K H b (ys.map .int) ∧ Vl p xs ∧
  xs.length ≤ 1000 ∧ ys.length ≤ 1000 ∧ xs ≠ [] ∧ ys ≠ [] ∧ ∀ q H', Ex H H' → SqT K H' q ((timesP p xs ys).map .int) → Q (.ref q) H'
theorem ok_law_times (F : Fun K "_law_times" "_law_times" s_law_times f fd) (B : Bns mg) : FnOk P w K mg base CX0 1 f fd P_law_times (sp_law_times K) := by
  refine F.ok sc_law_times (fun vs H Q E h => ?_) (fun cdv A outer s H vs Q E hr h => ?_)
  · obtain ⟨p, a, b, xs, ys, rfl, _⟩ := h
    rfl
  · obtain ⟨p, a, b, xs, ys, rfl, p0, p1, ha, hb, hx, lx, ly, xn, yn, q⟩ := h
    have xp := List.length_pos_iff.mpr xn
    have yp := List.length_pos_iff.mpr yn
    refine ⟨_, (pss_cons (ps_set (i := 3) sc_law_times.nd rfl (by first | exact .inl rfl | exact .inr rfl) (pe_op op_rep (pe_lst (pa_cons pe_int pa_nil)) (pe_op or_sub (pe_op or_add (pe_callB cr_lenC (by rfl) B.h_len (by decide +kernel) (pa_cons (pv 1) pa_nil)) (pe_callB cr_lenC (by rfl) B.h_len (by decide +kernel) (pa_cons (pv 2) pa_nil))) pe_int)))
      (pss_cons (ps_for PassesOwn.never rfl (pi_E (by rfl) B.h_enumerate (pa_cons (pv 1) pa_nil)) (pg_tup (n := 2) rfl (pgs_cons (pg_name (i := 4) sc_law_times.nd rfl (by first | exact .inl rfl | exact .inr rfl)) (pgs_cons (pg_name (i := 5) sc_law_times.nd rfl (by first | exact .inl rfl | exact .inr rfl)) pgs_nil))) (pss_one (ps_for PassesOwn.never rfl (pi_E (by rfl) B.h_enumerate (pa_cons (pv 2) pa_nil)) (pg_tup (n := 2) rfl (pgs_cons (pg_name (i := 6) sc_law_times.nd rfl (by first | exact .inl rfl | exact .inr rfl)) (pgs_cons (pg_name (i := 7) sc_law_times.nd rfl (by first | exact .inl rfl | exact .inr rfl)) pgs_nil))) (pss_one (ps_asg (pe_op or_mod (pe_callTy cr_int (by rfl) B.h_int (by decide +kernel) (pa_cons (pe_op or_add (pe_ix ix_C (pv 3) (pe_op or_add (pv 4) (pv 6)) (fun _ _ => rfl)) (pe_op or_mul (pv 5) (pv 7))) pa_nil)) (pv 0)) (pg_sub (pv 3) (pe_op or_add (pv 4) (pv 6)) set_list))))))
      (pss_one (ps_ret (pe_callTy cr_tupC (by rfl) B.h_tuple (by decide +kernel) (pa_cons (pv 3) pa_nil)))))), ?_⟩
    walk_at "dd"
    refine k_seq (by decide) fun z hz ez => ?_
    walk_at "dd"
    refine d_lenT (ex_t ez ha) ?_
    walk_at "dd"
    refine d_lenT (ex_t ez hb) ?_
    walk_at "dd"
    refine d_rep upd_same (by simp; omega) (by simp; omega) (by simp; omega) fun l hl el => ?_
    rw [show (((xs.map V.int).length : Int) + ((ys.map V.int).length : Int) - 1).toNat = xs.length + ys.length - 1 by simp; omega, rep_ints, ← pF_zero p xs ys] at el ⊢
    walk_at "dd"
    generalize hn : xs.length + ys.length - 1 = n at el ⊢
    have hl0 : H l = none := none_of ez hl
    refine k_E (c := false) (ex_t (ez.trans el) ha) ?_
    refine k_for walk_E (fun i σ' H' => Ex H H' ∧ H' l = some (.lst ((pF p xs ys n i).map .int)) ∧ ∃ o1 o2 o3 o4, σ' = [some (.int p), some (.ref a), some (.ref b), some (.ref l), o1, o2, o3, o4])
      ⟨ez.trans el, upd_same, none, none, none, none, rfl⟩ (fun i σ' H' _ h => ex_t h.1 ha) ?_ ?_
    · rintro i v σ' H' H2 hi ⟨e, hF, o1, o2, o3, o4, rfl⟩ ⟨T, x1, x2, rfl, hT, rfl, e1, e2⟩
      obtain rfl := Option.some.inj e1
      obtain ⟨rfl, hix⟩ := int_at e2
      refine g_pair (.of upd_same) ?_
      walk_at "dd"
      have eT := e.trans (Ex.new (o := .tup [.int (i : Nat), .int (cf xs i)]) hT)
      refine k_E (c := false) (ex_t eT hb) ?_
      refine k_for walk_E (fun j σ' H' => Ex H H' ∧ H' l = some (.lst ((pG p xs ys n i j).map .int)) ∧ ∃ o3 o4, σ' = [some (.int p), some (.ref a), some (.ref b), some (.ref l), some (.int (i : Nat)), some (.int (cf xs i)), o3, o4])
        ⟨eT, by rw [pG_zero]; exact Ex.new hT _ _ hF, o3, o4, rfl⟩ (fun i σ' H' _ h => ex_t h.1 hb) ?_ ?_
      · rintro j v σ' H' H2 hj ⟨e, hF, o3, o4, rfl⟩ ⟨T, x1, x2, rfl, hT, rfl, e1, e2⟩
        obtain rfl := Option.some.inj e1
        obtain ⟨rfl, hjy⟩ := int_at e2
        refine g_pair (.of upd_same) ?_
        walk_at "dd"
        have hF' := Ex.new (o := .tup [.int (j : Nat), .int (cf ys j)]) hT _ _ hF
        refine d_ixL (.inl (.inl hF')) (ati (j := i + j) (by omega) (by rw [pG_len]; omega)) ?_
        walk_at "dd"
        have := hx.cf p0 i
        refine d_mul (.inl ⟨by omega, by omega⟩) ?_
        walk_at "dd"
        refine d_mod p0 ?_
        walk_at "dd"
        refine k_set (j := i + j) hF' (by omega) (by rw [List.length_map, pG_len]; omega) ?_
        refine ⟨Ex.mut (e.trans (Ex.new hT)) hl0, ?_, _, _, rfl⟩
        rw [upd_same, ← List.map_set, pG_step (by omega)]
      · rintro σ' H' ⟨e, hF, o3, o4, rfl⟩
        rw [List.length_map, pG_end] at hF
        exact ⟨e, hF, _, _, _, _, rfl⟩
    · rintro σ' H' ⟨e, hF, o1, o2, o3, o4, rfl⟩
      rw [List.length_map, ← hn] at hF
      walk_at "dd"
      exact d_tupC (c := true) (.inl (.inl hF)) fun r H2 e2 hr => q r H2 (e.trans e2) hr
def sp_law_at (K : PySem.W.Frag) : Sp := fun vs H Q _ => ∃ (p : Int) (a b : Addr) (bs ws : List Int) (k : Nat), vs = [.int p, .ref a, .ref b, .int k] ∧ 1 < p ∧ p ≤ 1000000 ∧ SqL K H a (bs.map .int) ∧ SqL K H b (ws.map .int) ∧ Vl p ws ∧ bs.length = ws.length ∧
  bs.length ≤ 1000 ∧ ∀ H', Ex H H' → Q (.int (atF bs ws k % p)) H'
theorem ok_law_at (F : Fun K "_law_at" "_law_at" s_law_at f fd) (B : Bns mg) (O_law_power : Own P w K mg base "_law_power" 1 P_law_power sp_law_power) : FnOk P w K mg base CX0 2 f fd P_law_at (sp_law_at K) := by
  refine F.ok sc_law_at (fun vs H Q E h => ?_) (fun cdv A outer s H vs Q E hr h => ?_)
  · obtain ⟨p, a, b, bs, ws, k, rfl, _⟩ := h
    rfl
  · obtain ⟨p, a, b, bs, ws, k, rfl, p0, p1, ha, hb, hw, hll, hl, q⟩ := h
    refine ⟨_, (pss_one (ps_ret (pe_op or_mod (pe_callTy cr_int (by rfl) B.h_int (by decide +kernel) (pa_cons (pe_callB (cr_sum rfl) (by rfl) B.h_sum (by decide +kernel) (pa_cons (pe_lc (own := [("base", 4), ("weight", 5)]) (g := (gTup K 2 (gCons (gName 4) (gCons (gName 5) gNil)))) (tt := tYes) (te := (tOp rMulI (tVar 5) (tCall (sp_law_power) [] E0 (tCons (tVar 0) (tCons (tVar 4) (tCons (tVar 3) tNil)))))) (by rfl) sc_law_at.nd (pi_Z (by rfl) B.h_zip (pa_cons (pv 1) (pa_cons (pv 2) pa_nil))) (blkOk_by (own := [("base", 4), ("weight", 5)]) (N := N_law_at) (sc := defScope s_law_at) (by decide +kernel)) (fun _ _ _ _ _ => (pg_tup (n := 2) rfl (pgs_cons (pg_name (i := 4) sc_law_at.nd rfl (by first | exact .inl rfl | exact .inr rfl)) (pgs_cons (pg_name (i := 5) sc_law_at.nd rfl (by first | exact .inl rfl | exact .inr rfl)) pgs_nil)))) (fun _ _ _ _ _ => pts_nil) (fun _ _ _ _ _ => (pe_op or_mul (pv 5) (pe_own O_law_power (hr.mono (by decide)) (by rfl) (pa_cons (pv 0) (pa_cons (pv 4) (pa_cons (pv 3) pa_nil))))))) pa_nil)) pa_nil)) (pv 0)))), ?_⟩
    walk_at "dd"
    refine k_Z (c1 := true) (c2 := true) ha hb ?_
    refine k_lcP (walk_Z (n := bs.length) (by simp; omega)) (fun i => .int (cf ws i * (cf bs i ^ k % p))) (by omega) (fun H' e => ⟨ex_l e ha, ex_l e hb⟩) (fun _ _ => rfl) (fun i x y H' H2 hi e ex ey e2 Q q => ?_) (fun l H' hl e el => ?_)
    · obtain ⟨rfl, h1⟩ := int_at ex
      obtain ⟨rfl, h2⟩ := int_at ey
      walk_at "dd"
      refine ⟨p, cf bs i, k, rfl, p0, p1, ?_⟩
      have := hw.cf (by omega) i
      refine d_mul (.inl ⟨by omega, by omega⟩) ?_
      exact q _ e2
    · rw [map_ints] at el
      walk_at "dd"
      refine d_sum (.inl (.inl el)) ?_
      walk_at "dd"
      refine d_mod (by omega) ?_
      rw [sum_map_range, show (sm bs.length fun k_1 => cf ws k_1 * (cf bs k_1 ^ k % p)) % p = atF bs ws k % p from Eqm.emod (Eqm.sm fun i _ => (Eqm.refl _).mul (Eqm.mod _))]
      exact q _ e
end
section
variable {P : Program} {w : World} {K : PySem.W.Frag} {mg : Str → Option Value} {base : Heap} {f : Addr} {fd : FuncData}
/-! ## unlike values -/
theorem inV_ints {v : Int} {xs : List Int} : inV (.int v) (xs.map .int) = decide (v ∈ xs) := by
  induction xs with
  | nil => rfl
  | cons x r ih =>
    unfold inV at ih ⊢
    rw [List.map_cons, List.any_cons, ih]
    by_cases e : x = v
    · subst e
      simp [eqV]
    · by_cases e2 : v ∈ r
      · simp [eqV, e2]
      · simp [eqV, e, Ne.symm e, e2]
theorem flat_ints {xs : List Int} : (xs.map V.int).all flatV = true := by
  rw [List.all_eq_true]
  intro v hv
  obtain ⟨x, _, rfl⟩ := List.mem_map.mp hv
  rfl
/-- a value between 1 and n that is not in xs -/
theorem free_value : ∀ (n : Nat) (xs : List Int), xs.length < n → ∃ v : Int, 1 ≤ v ∧ v ≤ n ∧ v ∉ xs := by
  have key : ∀ (n : Nat) (xs : List Int), (∀ v : Int, 1 ≤ v → v ≤ n → v ∈ xs) → n ≤ xs.length := by
    intro n
    induction n with
    | zero => intro xs _; exact Nat.zero_le _
    | succ n ih =>
      intro xs h
      have hm := h ((n + 1 : Nat) : Int) (by omega) (Int.le_refl _)
      have h2 := ih (xs.erase ((n + 1 : Nat) : Int)) fun v h1 hv => (List.mem_erase_of_ne (by omega)).mpr (h v h1 (by omega))
      rw [List.length_erase_of_mem hm] at h2
      have := List.length_pos_of_mem hm
      omega
  intro n xs h
  refine Classical.byContradiction fun z => ?_
  have := key n xs fun v h1 h2 => Classical.byContradiction fun z2 => z ⟨v, h1, h2, z2⟩
  omega
def sp_law_unlike : Sp := fun vs H Q _ => ∃ (h cc : Addr) (p m : Int), vs = [.ref h, .int p, .int m] ∧ HandOk H h cc ∧ 2 < p ∧ p ≤ 1000000 ∧ 0 < m ∧ m ≤ 100 ∧
  ∀ l H' (xs : List Int), H l = none → Exb h H H' → HandOk H' h cc → H' l = some (.lst (xs.map .int)) → xs.Nodup → (∀ x ∈ xs, 0 < x ∧ x < p) → (xs.length : Int) = min m (p - 1) → Q (.ref l) H'
theorem ok_law_unlike (F : Fun K "_law_unlike" "_law_unlike" s_law_unlike f fd) (B : Bns mg) (O_law_draw : Own P w K mg base "_law_draw" 1 P_law_draw sp_law_draw) : FnOk P w K mg base CX0 2 f fd P_law_unlike sp_law_unlike := by
  refine F.ok sc_law_unlike (fun vs H Q E h => ?_) (fun cdv A outer s H vs Q E hr h => ?_)
  · obtain ⟨h, cc, p, m, rfl, _⟩ := h
    rfl
  · obtain ⟨h, cc, p, m, rfl, hh, p0, p1, m0, m1, q⟩ := h
    refine ⟨_, (pss_cons (ps_set (i := 3) sc_law_unlike.nd rfl (by first | exact .inl rfl | exact .inr rfl) (pe_lst pa_nil))
      (pss_cons (ps_while PassesOwn.never (pt_cmpR or_lt (pe_callB cr_lenC (by rfl) B.h_len (by decide +kernel) (pa_cons (pv 3) pa_nil)) (pe_callB (cr_min2 rfl) (by rfl) B.h_min (by decide +kernel) (pa_cons (pv 2) (pa_cons (pe_op or_sub (pv 1) pe_int) pa_nil))) (nomark _)) (pss_cons (ps_set (i := 4) sc_law_unlike.nd rfl (by first | exact .inl rfl | exact .inr rfl) (pe_op or_add pe_int (pe_own O_law_draw (hr.mono (by decide)) (by rfl) (pa_cons (pv 0) (pa_cons (pe_op or_sub (pv 1) pe_int) pa_nil)))))
      (pss_cons (ps_while PassesOwn.never (pt_cmpR op_in_seq (pv 4) (pv 3) (by with_unfolding_all rfl)) (pss_one (ps_set (i := 4) sc_law_unlike.nd rfl (by first | exact .inl rfl | exact .inr rfl) (pe_op or_add pe_int (pe_op or_mod (pe_callTy cr_int (by rfl) B.h_int (by decide +kernel) (pa_cons (pv 4) pa_nil)) (pe_op or_sub (pv 1) pe_int))))))
      (pss_one (ps_expr (pe_bm PySem.F.plainAttrs_list PySem.F.slot_list_append PySem.F.type_list_append mt_append (pv 3) (pa_cons (pv 4) pa_nil)))))))
      (pss_one (ps_ret (pv 3))))), ?_⟩
    walk_at "dd"
    refine k_seq (by decide) fun l hl el => ?_
    have lh : l ≠ h := hh.new hl
    have lc : l ≠ cc := hh.newc hl
    walk_at "dd"
    refine d_while (fun mm σ' H' => ∃ (xs : List Int) (o : Option V), σ' = [some (.ref h), some (.int p), some (.int m), some (.ref l), o] ∧ Exb h H H' ∧ HandOk H' h cc ∧ H' l = some (.lst (xs.map .int)) ∧ xs.Nodup ∧ (∀ x ∈ xs, 0 < x ∧ x < p) ∧ (xs.length : Int) ≤ min m (p - 1) ∧ mm = 100 - xs.length) 100
      ⟨[], none, rfl, Ex.exb el h, hh.ex el, upd_same, List.nodup_nil, fun x hx => absurd hx List.not_mem_nil, by show (0 : Int) ≤ _; omega, rfl⟩ ?_
    rintro mm σ' H' ⟨xs, o, rfl, e, hok, hL, nd, hx, hlen, rfl⟩
    walk_at "dd"
    refine d_lenL (.inl (.inl hL)) ?_
    walk_at "dd"
    rw [List.length_map]
    refine k_if (fun c => ?_) (fun c => ?_)
    · have c' := of_decide_eq_true c
      refine k_body ?_
      walk_at "dd"
      refine ⟨h, cc, p - 1, rfl, hok, by omega, by omega, fun r H1 r0 r1 e1 hok1 => ?_⟩
      walk_at "dd"
      have hL1 := e1 _ _ lh hL
      obtain ⟨fv, f1, f2, f3⟩ := free_value (p - 1).toNat xs (by omega)
      refine d_while (fun m2 σ' H' => H' = H1 ∧ ∃ v : Int, σ' = [some (.ref h), some (.int p), some (.int m), some (.ref l), some (.int v)] ∧ 0 < v ∧ v < p ∧ m2 = (if v ≤ fv then fv - v else fv - v + (p - 1)).toNat) _ ⟨rfl, 1 + r, rfl, by omega, by omega, rfl⟩ ?_
      rintro m2 σ' H2 ⟨rfl, v, rfl, v0, v1, rfl⟩
      walk_at "dd"
      refine ⟨l, _, rfl, .inl (.inl (.inl hL1)), rfl, flat_ints, ?_⟩
      rw [inV_ints]
      refine d_k ?_
      refine k_if (fun c3 => ?_) (fun c3 => ?_)
      · replace c3 : decide (v ∈ xs) = true := c3
        have c3' := of_decide_eq_true c3
        have hne : v ≠ fv := fun z => f3 (z ▸ c3')
        refine k_body ?_
        walk_at "dd"
        refine d_mod (by omega) ?_
        walk_at "dd"
        have hmod : v % (p - 1) = if v = p - 1 then 0 else v := by
          split
          · rename_i z
            rw [z, Int.emod_self]
          · exact Int.emod_eq_of_lt (by omega) (by omega)
        refine ⟨_, ?_, rfl, 1 + v % (p - 1), rfl, ?_, ?_, rfl⟩
        · rw [hmod]
          split <;> split <;> split <;> omega
        · rw [hmod]
          split <;> omega
        · rw [hmod]
          split <;> omega
      · replace c3 : decide (v ∈ xs) = false := c3
        have c3' := of_decide_eq_false c3
        walk_at "dd"
        refine k_bmL (.inl (.inl hL1)) ?_
        walk_at "dd"
        refine k_append hL1 (by rw [List.length_map]; omega) ?_
        have nd' : (xs ++ [v]).Nodup := by
          rw [List.nodup_append]
          refine ⟨nd, by simp, fun a ha b hb => ?_⟩
          rw [List.mem_singleton] at hb
          subst hb
          rintro rfl
          exact c3' ha
        refine ⟨100 - (xs ++ [v]).length, by rw [List.length_append]; show 100 - (xs.length + 1) < _; omega, xs ++ [v], _, rfl, ?_, ?_, ?_, nd', ?_, ?_, rfl⟩
        · exact exb_mut (e.trans e1) hl
        · exact hok1.mut lh lc
        · rw [upd_same, List.map_append]
          rfl
        · intro x hx'
          rcases List.mem_append.mp hx' with z | z
          · exact hx x z
          · rw [List.mem_singleton] at z
            omega
        · rw [List.length_append]
          show ((xs.length + 1 : Nat) : Int) ≤ _
          omega
    · have c' := of_decide_eq_false c
      walk_at "dd"
      exact q l H' xs hl e hok hL nd hx (by omega)
end
section
variable {P : Program} {w : World} {K : PySem.W.Frag} {mg : Str → Option Value} {base : Heap} {f : Addr} {fd : FuncData}
/-- a list of drawn values -/
theorem k_lcD {σ : L2.St} {H : Hp} {J : It} {n : Nat} {G : Hp → Prop} {Y : Nat → Hp → V → Hp → Prop} {te : TE} {vs : List Nat} {j : Nat} {Q : VK} {h cc : Addr} (w : Walk J n G Y) (Pv : Int → Prop) (hn : n ≤ 1000) (hh : HandOk H h cc)
    (hG : ∀ H', Exb h H H' → G H') (hY : ∀ i x H' H2, Y i H' x H2 → H2 = H') (hw : ∀ x, wipe ((wipe σ vs).set j (some x)) vs = wipe σ vs)
    (hs : ∀ i x H' (R : VK), i < n → Exb h H H' → HandOk H' h cc → (∀ v H2, Pv v → Exb h H' H2 → HandOk H2 h cc → R (.int v) H2) → te ((wipe σ vs).set j (some x)) H' R)
    (q : ∀ D H' (ys : List Int), H D = none → Exb h H H' → HandOk H' h cc → H' D = some (.lst (ys.map .int)) → ys.length = n → (∀ y ∈ ys, Pv y) → Q (.ref D) H') : kLc (gName j) tYes te vs σ Q J H := fun D hD => by
  have dh := hh.new hD
  have dc := hh.newc hD
  refine lc_it w (fun i H' => Exb h H H' ∧ HandOk H' h cc ∧ ∃ ys : List Int, H' D = some (.lst (ys.map .int)) ∧ ys.length = i ∧ ∀ y ∈ ys, Pv y) ⟨exb_mut (Ex.exb (Ex.refl _) h) hD, hh.mut dh dc, [], upd_same, rfl, fun y hy => absurd hy List.not_mem_nil⟩
    (fun i H' _ p => hG H' p.1) (fun i x H' H2 hi p y => ⟨hw x, ?_⟩) (fun H' p => ?_)
  · obtain ⟨e, hh', ys, hD', hl, hp⟩ := p
    obtain rfl := hY i x H' H2 y
    refine hs i x H2 _ hi e hh' fun v H3 hv e3 hh3 => ⟨ys.map .int, e3 _ _ dh hD', by rw [List.length_map, hl]; exact Nat.lt_of_lt_of_le (Nat.lt_of_lt_of_le hi hn) (by decide), exb_mut (e.trans e3) hD, hh3.mut dh dc, ys ++ [v], ?_, ?_, ?_⟩
    · rw [upd_same, List.map_append]
      rfl
    · rw [List.length_append, hl]
      rfl
    · intro y hy
      rcases List.mem_append.mp hy with z | z
      · exact hp y z
      · rw [List.mem_singleton] at z
        exact z ▸ hv
  · obtain ⟨e, hh', ys, hD', hl, hp⟩ := p
    exact q D H' ys hD e hh' hD' hl hp
def sp_law_is_powers_right : Sp := fun vs H Q _ => ∃ (h cc : Addr) (p m : Int), vs = [.ref h, .int p, .int m] ∧ HandOk H h cc ∧ IsPr p ∧ 5 ≤ p ∧ 0 < m ∧ m ≤ 9 ∧ ∀ H', Exb h H H' → HandOk H' h cc → Q (.bl true) H'
theorem ok_law_is_powers_right (F : Fun K "_law_is_powers_right" "_law_is_powers_right" s_law_is_powers_right f fd) (B : Bns mg)
    (O_law_draw : Own P w K mg base "_law_draw" 1 P_law_draw sp_law_draw) (O_law_any : Own P w K mg base "_law_any" 2 P_law_any sp_law_any) (O_law_is : OwnG P w K mg base "_law_is" 1 P_law_is (sp_law_is K)) (O_law_power : Own P w K mg base "_law_power" 1 P_law_power sp_law_power)
    (O_law_times : Own P w K mg base "_law_times" 1 P_law_times (sp_law_times K)) (O_law_unlike : Own P w K mg base "_law_unlike" 2 P_law_unlike sp_law_unlike) (O_law_at : Own P w K mg base "_law_at" 2 P_law_at (sp_law_at K))
    (O_value_at : Own P w K mg base "value_at" 6 P_value_at (sp_value_at K)) (O_continued : Own P w K mg base "continued" 6 P_continued (sp_continued K)) (O_shortest_rule : Own P w K mg base "shortest_rule" 5 P_shortest_rule (sp_shortest_rule K))
    (O_is_only_rule : Own P w K mg base "is_only_rule" 5 P_is_only_rule (sp_is_only_rule K)) (O_obeys : Own P w K mg base "obeys" 6 P_obeys (sp_obeys K)) (O_poly_at : Own P w K mg base "poly_at" 5 P_poly_at (sp_poly_at K)) (O_turned_about : Own P w K mg base "turned_about" 5 P_turned_about (sp_turned_about K)) :
    FnG P w K mg base 7 f fd P_law_is_powers_right sp_law_is_powers_right := by
  refine fun_okG F sc_law_is_powers_right (fun vs H Q E h => ?_) (fun cdv A outer s H vs Q E hgd hr h => ?_)
  · obtain ⟨h, cc, p, m, rfl, _⟩ := h
    rfl
  · obtain ⟨h, cc, p, m, rfl, hh, hp, p5, m0, m1, q⟩ := h
    have p0 := hp.pos
    have p1 := hp.2.1
    refine ⟨_, (pss_cons (ps_set (i := 3) sc_law_is_powers_right.nd rfl (by first | exact .inl rfl | exact .inr rfl) (pe_own O_law_unlike (hr.mono (by decide)) (by rfl) (pa_cons (pv 0) (pa_cons (pv 1) (pa_cons (pv 2) pa_nil)))))
      (pss_cons (ps_set (i := 4) sc_law_is_powers_right.nd rfl (by first | exact .inl rfl | exact .inr rfl) (pe_lc (own := [("base", 7)]) (g := (gName 7)) (tt := tYes) (te := (tOp rAddI (tC (.int 1)) (tCall (sp_law_draw) [] E0 (tCons (tVar 0) (tCons (tOp rSubI (tVar 1) (tC (.int 1))) tNil))))) (by rfl) sc_law_is_powers_right.nd (pi_list (pv 3)) (blkOk_by (own := [("base", 7)]) (N := N_law_is_powers_right) (sc := defScope s_law_is_powers_right) (by decide +kernel)) (fun _ _ _ _ _ => (pg_name (i := 7) sc_law_is_powers_right.nd rfl (by first | exact .inl rfl | exact .inr rfl))) (fun _ _ _ _ _ => pts_nil) (fun _ _ _ _ _ => (pe_op or_add pe_int (pe_own O_law_draw (hr.mono (by decide)) (by rfl) (pa_cons (pv 0) (pa_cons (pe_op or_sub (pv 1) pe_int) pa_nil)))))))
      (pss_cons (ps_par (i := 5) (j := 6) (by rfl) sc_law_is_powers_right.nd rfl rfl (by decide) rfl rfl (pa_cons (pe_tup (pa_cons pe_int pa_nil)) (pa_cons (pe_callB cr_lenC (by rfl) B.h_len (by decide +kernel) (pa_cons (pv 3) pa_nil)) pa_nil)) (by rfl))
      (pss_cons (ps_for PassesOwn.never rfl (pi_list (pv 3)) (pg_name (i := 7) sc_law_is_powers_right.nd rfl (by first | exact .inl rfl | exact .inr rfl)) (pss_one (ps_set (i := 5) sc_law_is_powers_right.nd rfl (by first | exact .inl rfl | exact .inr rfl) (pe_own O_law_times (hr.mono (by decide)) (by rfl) (pa_cons (pv 1) (pa_cons (pv 5) (pa_cons (pe_tup (pa_cons (pe_op or_mod (pe_callTy cr_int (by rfl) B.h_int (by decide +kernel) (pa_cons (pe_op or_sub pe_int (pv 7)) pa_nil)) (pv 1)) (pa_cons pe_int pa_nil))) pa_nil)))))))
      (pss_cons (ps_set (i := 8) sc_law_is_powers_right.nd rfl (by first | exact .inl rfl | exact .inr rfl) (pe_callTy cr_tupC (by rfl) B.h_tuple (by decide +kernel) (pa_cons (pe_lc (own := [("place", 9)]) (g := (gName 9)) (tt := tYes) (te := (tCall (sp_law_at K) [] E0 (tCons (tVar 1) (tCons (tVar 3) (tCons (tVar 4) (tCons (tVar 9) tNil)))))) (by rfl) sc_law_is_powers_right.nd (pi_range1 (by rfl) B.h_range (pa_cons (pv 6) pa_nil)) (blkOk_by (own := [("place", 9)]) (N := N_law_is_powers_right) (sc := defScope s_law_is_powers_right) (by decide +kernel)) (fun _ _ _ _ _ => (pg_name (i := 9) sc_law_is_powers_right.nd rfl (by first | exact .inl rfl | exact .inr rfl))) (fun _ _ _ _ _ => pts_nil) (fun _ _ _ _ _ => (pe_own O_law_at (hr.mono (by decide)) (by rfl) (pa_cons (pv 1) (pa_cons (pv 3) (pa_cons (pv 4) (pa_cons (pv 9) pa_nil))))))) pa_nil)))
      (pss_cons (ps_for PassesOwn.never rfl (pi_tup (pe_tup (pa_cons (pe_op or_pow pe_int pe_int) (pa_cons (pe_op or_sub (pe_op or_pow pe_int pe_int) (pe_own O_law_draw (hr.mono (by decide)) (by rfl) (pa_cons (pv 0) (pa_cons (pe_op or_pow pe_int pe_int) pa_nil)))) (pa_cons (pv 6) (pa_cons (pe_own O_law_draw (hr.mono (by decide)) (by rfl) (pa_cons (pv 0) (pa_cons pe_int pa_nil))) (pa_cons pe_int pa_nil))))))) (pg_name (i := 9) sc_law_is_powers_right.nd rfl (by first | exact .inl rfl | exact .inr rfl)) (pss_one (ps_if (pt_cmpR or_ne (pe_own O_value_at (hr.mono (by decide)) (by rfl) (pa_cons (pv 1) (pa_cons (pv 5) (pa_cons (pv 8) (pa_cons (pv 9) pa_nil))))) (pe_own O_law_at (hr.mono (by decide)) (by rfl) (pa_cons (pv 1) (pa_cons (pv 3) (pa_cons (pv 4) (pa_cons (pv 9) pa_nil))))) (nomark _)) (pss_one (ps_ret pe_bl)) pss_nil)))
      (pss_cons (ps_set (i := 10) sc_law_is_powers_right.nd rfl (by first | exact .inl rfl | exact .inr rfl) (pe_own O_law_any (hr.mono (by decide)) (by rfl) (pa_cons (pv 0) (pa_cons (pe_lst (pa_cons (pe_op or_mul pe_int (pv 6)) (pa_cons (pe_op or_add (pe_op or_mul pe_int (pv 6)) (pe_own O_law_draw (hr.mono (by decide)) (by rfl) (pa_cons (pv 0) (pa_cons pe_int pa_nil)))) (pa_cons (pe_callB (cr_min2 rfl) (by rfl) B.h_min (by decide +kernel) (pa_cons pe_int (pa_cons (pe_op or_add (pe_op or_mul pe_int (pv 6)) pe_int) pa_nil))) pa_nil)))) pa_nil))))
      (pss_cons (ps_set (i := 11) sc_law_is_powers_right.nd rfl (by first | exact .inl rfl | exact .inr rfl) (pe_callTy cr_tupC (by rfl) B.h_tuple (by decide +kernel) (pa_cons (pe_lc (own := [("place", 9)]) (g := (gName 9)) (tt := tYes) (te := (tCall (sp_law_at K) [] E0 (tCons (tVar 1) (tCons (tVar 3) (tCons (tVar 4) (tCons (tVar 9) tNil)))))) (by rfl) sc_law_is_powers_right.nd (pi_range1 (by rfl) B.h_range (pa_cons (pv 10) pa_nil)) (blkOk_by (own := [("place", 9)]) (N := N_law_is_powers_right) (sc := defScope s_law_is_powers_right) (by decide +kernel)) (fun _ _ _ _ _ => (pg_name (i := 9) sc_law_is_powers_right.nd rfl (by first | exact .inl rfl | exact .inr rfl))) (fun _ _ _ _ _ => pts_nil) (fun _ _ _ _ _ => (pe_own O_law_at (hr.mono (by decide)) (by rfl) (pa_cons (pv 1) (pa_cons (pv 3) (pa_cons (pv 4) (pa_cons (pv 9) pa_nil))))))) pa_nil)))
      (pss_cons (ps_if (pt_not (pt_val (pe_ownG O_law_is (hr.mono (by decide)) hgd (by rfl) (pa_cons (pe_lst (pa_cons (pe_own O_continued (hr.mono (by decide)) (by rfl) (pa_cons (pv 1) (pa_cons (pv 5) (pa_cons (pv 8) (pa_cons (pv 10) pa_nil))))) (pa_cons (pe_own O_shortest_rule (hr.mono (by decide)) (by rfl) (pa_cons (pv 1) (pa_cons (pv 11) pa_nil))) pa_nil))) (pa_cons (pe_lst (pa_cons (pv 11) (pa_cons (pv 5) pa_nil))) pa_nil))))) (pss_one (ps_ret pe_bl)) pss_nil)
      (pss_cons (ps_if (PW.pt (pw_or (pt_cmpR or_notB (pe_own O_is_only_rule (hr.mono (by decide)) (by rfl) (pa_cons (pv 1) (pa_cons (pe_callTy cr_lstC (by rfl) B.h_list (by decide +kernel) (pa_cons (pv 11) pa_nil)) pa_nil))) pe_bl (nomark _)) (pw_or1 (pt_cmpR or_notB (pe_own O_obeys (hr.mono (by decide)) (by rfl) (pa_cons (pv 1) (pa_cons (pv 5) (pa_cons (pv 11) pa_nil)))) pe_bl (nomark _))))) (pss_one (ps_ret pe_bl)) pss_nil)
      (pss_cons (ps_set (i := 12) sc_law_is_powers_right.nd rfl (by first | exact .inl rfl | exact .inr rfl) (pe_slice sl_U (pv 11) po_none (po_some (pe_op or_sub (pe_op or_mul pe_int (pv 6)) pe_int))))
      (pss_cons (ps_if (pt_not (pt_val (pe_ownG O_law_is (hr.mono (by decide)) hgd (by rfl) (pa_cons (pe_own O_is_only_rule (hr.mono (by decide)) (by rfl) (pa_cons (pv 1) (pa_cons (pv 12) pa_nil))) (pa_cons (pe_cmpR or_le (pe_op or_mul pe_int (pe_op or_sub (pe_callB cr_lenC (by rfl) B.h_len (by decide +kernel) (pa_cons (pe_own O_shortest_rule (hr.mono (by decide)) (by rfl) (pa_cons (pv 1) (pa_cons (pv 12) pa_nil))) pa_nil)) pe_int)) (pe_callB cr_lenC (by rfl) B.h_len (by decide +kernel) (pa_cons (pv 12) pa_nil)) (nomark _)) pa_nil))))) (pss_one (ps_ret pe_bl)) pss_nil)
      (pss_cons (ps_set (i := 13) sc_law_is_powers_right.nd rfl (by first | exact .inl rfl | exact .inr rfl) (pe_own O_law_times (hr.mono (by decide)) (by rfl) (pa_cons (pv 1) (pa_cons (pv 5) (pa_cons (pe_tup (pa_cons (pe_own O_law_draw (hr.mono (by decide)) (by rfl) (pa_cons (pv 0) (pa_cons (pv 1) pa_nil))) (pa_cons pe_int pa_nil))) pa_nil)))))
      (pss_cons (ps_if (PW.pt (pw_or (pt_cmpR or_notB (pe_own O_obeys (hr.mono (by decide)) (by rfl) (pa_cons (pv 1) (pa_cons (pv 13) (pa_cons (pv 11) pa_nil)))) pe_bl (nomark _)) (pw_or1 (pt_cmpR or_ne (pe_own O_poly_at (hr.mono (by decide)) (by rfl) (pa_cons (pv 1) (pa_cons (pv 5) (pa_cons (pe_ix ix_C (pv 3) pe_int (fun _ _ => rfl)) pa_nil)))) pe_int (nomark _))))) (pss_one (ps_ret pe_bl)) pss_nil)
      (pss_cons (ps_set (i := 14) sc_law_is_powers_right.nd rfl (by first | exact .inl rfl | exact .inr rfl) (pe_op or_catU (pe_slice sl_U (pv 11) po_none (po_some (pe_un ur_neg pe_int))) (pe_tup (pa_cons (pe_op or_mod (pe_callTy cr_int (by rfl) B.h_int (by decide +kernel) (pa_cons (pe_op or_add (pe_ix ix_C (pv 11) (pe_un ur_neg pe_int) (fun _ _ => rfl)) pe_int) pa_nil)) (pv 1)) pa_nil))))
      (pss_cons (ps_if (pt_cmpR or_notB (pe_own O_obeys (hr.mono (by decide)) (by rfl) (pa_cons (pv 1) (pa_cons (pv 5) (pa_cons (pv 14) pa_nil)))) pe_bl (nomark _)) (pss_one (ps_ret pe_bl)) pss_nil)
      (pss_cons (ps_set (i := 15) sc_law_is_powers_right.nd rfl (by first | exact .inl rfl | exact .inr rfl) (pe_own O_turned_about (hr.mono (by decide)) (by rfl) (pa_cons (pv 1) (pa_cons (pv 5) pa_nil))))
      (pss_cons (ps_set (i := 16) sc_law_is_powers_right.nd rfl (by first | exact .inl rfl | exact .inr rfl) (pe_own O_law_power (hr.mono (by decide)) (by rfl) (pa_cons (pv 1) (pa_cons (pe_ix ix_C (pv 15) (pe_un ur_neg pe_int) (fun _ _ => rfl)) (pa_cons (pe_op or_sub (pv 1) pe_int) pa_nil)))))
      (pss_one (ps_ret (pe_cmpR or_isB (pe_own O_obeys (hr.mono (by decide)) (by rfl) (pa_cons (pv 1) (pa_cons (pe_callTy cr_tupC (by rfl) B.h_tuple (by decide +kernel) (pa_cons (pe_lc (own := [("one", 17)]) (g := (gName 17)) (tt := tYes) (te := (tOp rModI (tCB rIntI (tCons (tOp rMulI (tVar 17) (tVar 16)) tNil)) (tVar 1))) (by rfl) sc_law_is_powers_right.nd (pi_tup (pv 15)) (blkOk_by (own := [("one", 17)]) (N := N_law_is_powers_right) (sc := defScope s_law_is_powers_right) (by decide +kernel)) (fun _ _ _ _ _ => (pg_name (i := 17) sc_law_is_powers_right.nd rfl (by first | exact .inl rfl | exact .inr rfl))) (fun _ _ _ _ _ => pts_nil) (fun _ _ _ _ _ => (pe_op or_mod (pe_callTy cr_int (by rfl) B.h_int (by decide +kernel) (pa_cons (pe_op or_mul (pv 17) (pv 16)) pa_nil)) (pv 1)))) pa_nil)) (pa_cons (pe_revT (pv 11)) pa_nil)))) pe_bl (nomark _)))))))))))))))))))))), ?_⟩
    walk_at "dd"
    refine ⟨h, cc, p, m, rfl, hh, by omega, by omega, m0, by omega, fun lb H1 bs lbn e1 hh1 hb nd hbv hbl => ?_⟩
    have bn0 : 0 < bs.length := by omega
    have bn9 : bs.length ≤ 9 := by omega
    walk_at "dd"
    refine k_L (.inl (.inl hb)) ?_
    have lbh := hh1.nei hb
    refine k_lcD walk_list (fun v => 0 < v ∧ v < p) (by rw [List.length_map]; omega) hh1 (fun H' e => .inl (.inl (e _ _ lbh hb))) (fun i x H' H2 y => y.1) (fun _ => rfl) (fun i x H' R hi e hk hR => ?_) (fun lw H2 ws lwn e2 hh2 hw hwl hwv => ?_)
    · walk_at "dd"
      refine ⟨h, cc, p - 1, rfl, hk, by omega, by omega, fun r H3 r0 r1 e3 hk3 => ?_⟩
      walk_at "dd"
      exact hR _ _ ⟨by omega, by omega⟩ e3 hk3
    rw [List.length_map] at hwl
    have hb2 := e2 _ _ lbh hb
    have lwh := hh2.nei hw
    have e12 := e1.trans e2
    walk_at "dd"
    refine k_seq (by decide) fun t0 ht0 et0 => ?_
    walk_at "dd"
    refine d_lenL (.inl (.inl (et0 _ _ hb2))) ?_
    walk_at "dd"
    refine k_L (.inl (.inl (et0 _ _ hb2))) ?_
    rw [List.length_map]
    refine k_for walk_list (fun i σ' H' => Ex H2 H' ∧ ∃ (R : List Int) (ra : Addr) (o : Option V), σ' = [some (.ref h), some (.int p), some (.int m), some (.ref lb), some (.ref lw), some (.ref ra), some (.int bs.length), o, none, none, none, none, none, none, none, none, none, none] ∧ SqT K H' ra (R.map .int) ∧ RulOk p i R ∧ ∀ x ∈ bs.take i, Root p R x)
      ⟨et0, [1], t0, none, rfl, .inl (.inl upd_same), rul_start (by omega), fun x hx => by simp at hx⟩ (fun i σ' H' _ h => .inl (.inl (h.1 _ _ hb2))) ?_ ?_
    · rintro i x σ' H' H3 hi ⟨e, R, ra, o, rfl, hR, ok, hrt⟩ ⟨rfl, hx⟩
      obtain ⟨rfl, hi'⟩ := int_at hx
      have hbi := hbv _ (List.mem_of_getElem? (cf_lt hi'))
      walk_at "dd"
      refine d_mod p0 ?_
      walk_at "dd"
      refine k_seq (by simp) fun t ht et => ?_
      walk_at "dd"
      refine ⟨p, ra, t, R, [(0 - cf bs i) % p, 1], rfl, p0, p1, ex_t et hR, .inl (.inl upd_same), ok.vl, by rw [ok.ln]; omega, by simp, ok.ne, by simp, fun r H4 e4 hr4 => ?_⟩
      walk_at "dd"
      refine ⟨(e.trans et).trans e4, _, r, _, rfl, hr4, ok.step hp (ndvd_neg hbi.1 hbi.2), fun x hx => ?_⟩
      rw [List.take_add_one, cf_lt hi'] at hx
      rcases List.mem_append.mp hx with z | z
      · exact root_old ok.ne (hrt x z)
      · rw [show x = cf bs i by simpa using z]
        exact root_new ok.ne
    rintro σ' H3 ⟨e3, R, ra, o, rfl, hR, ok, hrt⟩
    rw [List.length_map] at ok hrt
    rw [List.take_length] at hrt
    have W : Pws p bs.length bs ws R := ⟨hp, bn0, rfl, hwl, nd, hbv, hwv, ok, hrt⟩
    have hRule : IsRule p R := ⟨hp, ok.vl, ok.ne, by rw [ok.ln]; omega, by rw [ok.ln]; exact ok.one⟩
    generalize hn : bs.length = n at *
    have hbL := e3 _ _ hb2
    have hwL := e3 _ _ hw
    have hh3 := hh2.ex e3
    have e13 : Exb h H H3 := e12.trans (Ex.exb e3 h)
    walk_at "dd"
    refine k_R1 (by omega) (by omega) ?_
    rw [Int.toNat_natCast]
    have wv : Vl p ws := fun x hx => by
      have := hwv x hx
      omega
    refine k_lcN walk_rng (fun i => .int (atF bs ws i % p)) (by omega) (fun H' e => trivial) (fun _ => rfl) (fun i x H' H4 hi e y => ?_) (fun l1 H4 hl1 e4 el1 => ?_)
    · obtain ⟨rfl, rfl⟩ := y
      refine ⟨Ex.refl _, fun Q q => ?_⟩
      walk_at "dd"
      exact ⟨p, lb, lw, bs, ws, i, rfl, by omega, p1, .inl (.inl (e _ _ hbL)), .inl (.inl (e _ _ hwL)), wv, by omega, by omega, fun H5 e5 => q _ e5⟩
    rw [map_ints] at el1
    walk_at "dd"
    refine d_tupC (c := true) (.inl (.inl el1)) fun fa H5 e5 hfa => ?_
    walk_at "dd"
    have hfa : SqT K H5 fa ((row p (atF bs ws) n).map .int) := hfa
    have e35 := e4.trans e5
    have hbL := e35 _ _ hbL
    have hwL := e35 _ _ hwL
    have hR := ex_t e35 hR
    have hh5 := hh3.ex e35
    refine d_pow ⟨by decide, by decide, by decide⟩ ?_
    walk_at "dd"
    refine d_pow ⟨by decide, by decide, by decide⟩ ?_
    walk_at "dd"
    refine d_pow ⟨by decide, by decide, by decide⟩ ?_
    walk_at "dd"
    refine ⟨h, cc, _, rfl, hh5, by decide, by decide, fun r1 H6 r10 r11 e6 hh6 => ?_⟩
    walk_at "dd"
    refine ⟨h, cc, _, rfl, hh6, by decide, by decide, fun r2 H7 r20 r21 e7 hh7 => ?_⟩
    walk_at "dd"
    have hbL := e7 _ _ (hh6.nei (e6 _ _ lbh hbL)) (e6 _ _ lbh hbL)
    have hwL := e7 _ _ (hh6.nei (e6 _ _ lwh hwL)) (e6 _ _ lwh hwL)
    have hR := exb_t e7 hh6 (exb_t e6 hh5 hR)
    have hfa := exb_t e7 hh6 (exb_t e6 hh5 hfa)
    have e07 := (e13.trans (Ex.exb e35 h)).trans (e6.trans e7)
    refine k_seq (by simp) fun tp htp etp => ?_
    refine k_T (.inl (.inl upd_same)) ?_
    have hrl : r1 < 1000000 := r11
    have hrl2 : r2 < 300 := r21
    refine k_for walk_tup (fun i σ' H' => Ex H7 H' ∧ SqT K H' tp ([(10 ^ 18 : Int), 10 ^ 18 - r1, n, r2, 0].map .int) ∧ ∃ (o o2 : Option V), σ' = [some (.ref h), some (.int p), some (.int m), some (.ref lb), some (.ref lw), some (.ref ra), some (.int n), o, some (.ref fa), o2, none, none, none, none, none, none, none, none])
      ⟨etp, .inl (.inl upd_same), o, none, rfl⟩ (fun i σ' H' _ h => h.2.1) ?_ ?_
    · rintro i x σ' H' H8 hi ⟨e, hT, o, o2, rfl⟩ ⟨rfl, hx⟩
      obtain ⟨rfl, hi'⟩ := int_at hx
      obtain ⟨k, hk, hk2⟩ : ∃ k : Nat, cf [(10 ^ 18 : Int), 10 ^ 18 - r1, n, r2, 0] i = k ∧ k ≤ 10 ^ 18 := by
        have hb : ∀ x ∈ [(10 ^ 18 : Int), 10 ^ 18 - r1, n, r2, 0], 0 ≤ x ∧ x ≤ 10 ^ 18 := by
          intro x hx
          simp only [List.mem_cons, List.not_mem_nil, or_false] at hx
          omega
        have := hb _ (List.mem_of_getElem? (cf_lt hi'))
        exact ⟨_, (Int.toNat_of_nonneg this.1).symm, by omega⟩
      rw [hk]
      walk_at "dd"
      refine ⟨p, ra, fa, R, _, k, atF bs ws, rfl, hRule, ex_t e hR, ex_t e hfa, by rw [row_len, ok.ln], by rw [row_len]; rfl, W.ob, hk2, fun H9 e9 => ?_⟩
      walk_at "dd"
      refine ⟨p, lb, lw, bs, ws, k, rfl, by omega, p1, .inl (.inl (e9 _ _ (e _ _ hbL))), .inl (.inl (e9 _ _ (e _ _ hwL))), wv, by omega, by omega, fun H10 e10 => ?_⟩
      walk_at "dd"
      rw [decide_eq_true rfl]
      refine k_ifN rfl ?_
      refine d_next ?_
      exact ⟨e.trans (e9.trans e10), ex_t (e9.trans e10) hT, o, _, rfl⟩
    rintro σ' H8 ⟨e8, hT, o, o2, rfl⟩
    have hbL := e8 _ _ hbL
    have hwL := e8 _ _ hwL
    have hR := ex_t e8 hR
    have hfa := ex_t e8 hfa
    have hh8 := hh7.ex e8
    have e08 := e07.trans (Ex.exb e8 h)
    clear e12 e13 e07
    walk_at "dd"
    refine d_mul (.inl ⟨by decide, by decide⟩) ?_
    walk_at "dd"
    refine d_mul (.inl ⟨by decide, by decide⟩) ?_
    walk_at "dd"
    refine ⟨h, cc, _, rfl, hh8, by decide, by decide, fun r3 H9 r30 r31 e9 hh9 => ?_⟩
    have hbL := e9 _ _ (hh8.nei hbL) hbL
    have hwL := e9 _ _ (hh8.nei hwL) hwL
    have hR := exb_t e9 hh8 hR
    have hfa := exb_t e9 hh8 hfa
    have e09 := e08.trans e9
    clear e08
    walk_at "dd"
    refine d_mul (.inl ⟨by decide, by decide⟩) ?_
    walk_at "dd"
    refine k_seq (by simp) fun lc hlc elc => ?_
    walk_at "dd"
    refine ⟨h, cc, lc, [2 * n, 2 * n + r3, min 200 (4 * n + 100)], rfl, hh9.ex elc, upd_same, by simp, by simp, fun lg H10 hlg e10 hh10 => ?_⟩
    walk_at "dd"
    have hr3 : r3 < 40 := r31
    obtain ⟨N, hN, hN1, hN2⟩ : ∃ N : Nat, lg = N ∧ 2 * n ≤ N ∧ N ≤ 200 := by
      simp only [List.mem_cons, List.not_mem_nil, or_false] at hlg
      exact ⟨lg.toNat, by omega, by omega, by omega⟩
    subst hN
    have hh9c := hh9.ex elc
    have hbL := e10 _ _ (hh9c.nei (elc _ _ hbL)) (elc _ _ hbL)
    have hwL := e10 _ _ (hh9c.nei (elc _ _ hwL)) (elc _ _ hwL)
    have hR := exb_t e10 hh9c (ex_t elc hR)
    have hfa := exb_t e10 hh9c (ex_t elc hfa)
    have e010 := (e09.trans (Ex.exb elc h)).trans e10
    clear e09
    refine k_R1 (by omega) (by omega) ?_
    rw [Int.toNat_natCast]
    refine k_lcN walk_rng (fun i => .int (atF bs ws i % p)) (by omega) (fun H' e => trivial) (fun _ => rfl) (fun i x H' H11 hi e y => ?_) (fun l2 H11 hl2 e11 el2 => ?_)
    · obtain ⟨rfl, rfl⟩ := y
      refine ⟨Ex.refl _, fun Q q => ?_⟩
      walk_at "dd"
      exact ⟨p, lb, lw, bs, ws, i, rfl, by omega, p1, .inl (.inl (e _ _ hbL)), .inl (.inl (e _ _ hwL)), wv, by omega, by omega, fun H5 e5 => q _ e5⟩
    rw [map_ints] at el2
    walk_at "dd"
    refine d_tupC (c := true) (.inl (.inl el2)) fun va H12 e12 hva => ?_
    have hva : SqT K H12 va ((row p (atF bs ws) N).map .int) := hva
    have e1012 := e11.trans e12
    have hbL := e1012 _ _ hbL
    have hwL := e1012 _ _ hwL
    have hR := ex_t e1012 hR
    have hfa := ex_t e1012 hfa
    have hh12 := hh10.ex e1012
    have e012 := e010.trans (Ex.exb e1012 h)
    clear e010 e10 e9 e8 e7 e6 e5 e4 e3 e2
    walk_at "dd"
    refine ⟨p, ra, fa, R, _, N, atF bs ws, rfl, hRule, hR, hfa, by rw [row_len, ok.ln], by rw [row_len]; rfl, W.ob, hN2, fun cn H13 e13 hcn => ?_⟩
    walk_at "dd"
    have vvl := row_vl p0 (atF bs ws) N
    refine ⟨p, false, va, _, rfl, hp, ex_t e13 hva, vvl, by rw [row_len]; omega, fun sr H14 e14 hsr => ?_⟩
    rw [W.rule_eq hN1] at hsr
    walk_at "dd"
    refine k_seq (by simp) fun s1 hs1 es1 => ?_
    walk_at "dd"
    refine k_seq (by simp) fun s2 hs2 es2 => ?_
    walk_at "dd"
    have hcn : SqT K H13 cn ((row p (atF bs ws) N).map .int) := hcn
    have e1214 := e13.trans e14
    have rv := ra_ints (B := 200) (ns := row p (atF bs ws) N) (fun x hx => by have := vvl x hx; omega) (by rw [row_len]; omega)
    have rr := ra_ints (B := 200) (ns := R) (fun x hx => by have := ok.vl x hx; omega) (by rw [ok.ln]; omega)
    refine ⟨.ref s1, .ref s2, .list [.tuple ((row p (atF bs ws) N).map PyData.int), .tuple (R.map PyData.int)], rfl, ?_, ?_, .inl ⟨_, rfl⟩, .inl ⟨_, rfl⟩, ?_, ?_⟩
    · exact .lst (.inl (.inl (es2 _ _ upd_same))) (.cons (.tup (ex_t (e14.trans (es1.trans es2)) hcn) (dp_ints _)) (.cons (.tup (ex_t (es1.trans es2) hsr) (dp_ints _)) .nil))
    · exact .lst (.inl (.inl upd_same)) (.cons (.tup (ex_t (e1214.trans (es1.trans es2)) hva) (dp_ints _)) (.cons (.tup (ex_t (e1214.trans (es1.trans es2)) hR) (dp_ints _)) .nil))
    · exact Ra.rp true (Ra.cons_seq (c := false) rv (Ra.cons_seq (c := false) rr .nil)) (by decide) (by decide)
    walk_at "dd"
    refine k_ifN rfl ?_
    have e15 := e1214.trans (es1.trans es2)
    have hva := ex_t e15 hva
    have hbL := e15 _ _ hbL
    have hR := ex_t e15 hR
    have hh15 := hh12.ex e15
    have e015 := e012.trans (Ex.exb e15 h)
    clear e012 hcn hsr
    walk_at "dd"
    refine d_lstC (c := false) hva fun lv hlv elv => ?_
    walk_at "dd"
    refine ⟨p, true, lv, _, rfl, hp, .inl (.inl upd_same), vvl, by rw [row_len]; omega, fun H16 e16 => ?_⟩
    rw [W.rule_eq hN1, decide_eq_true (by rw [ok.ln, row_len]; omega)]
    walk_at "dd"
    refine k_or (fun z => nomatch z) fun _ => ?_
    walk_at "dd"
    have e1516 := elv.trans e16
    refine ⟨p, false, ra, va, R, _, rfl, hRule, ex_t e1516 hR, ex_t e1516 hva, vvl, by rw [row_len]; omega, fun H17 e17 => ?_⟩
    rw [obB_true (row_obn N W.ob)]
    walk_at "dd"
    refine k_ifN rfl ?_
    have e17 := e1516.trans e17
    have hva := ex_t e17 hva
    have hbL := e17 _ _ hbL
    have hR := ex_t e17 hR
    have hh17 := hh15.ex e17
    have e017 := e015.trans (Ex.exb e17 h)
    clear e015
    walk_at "dd"
    refine d_mul (.inl ⟨by decide, by decide⟩) ?_
    walk_at "dd"
    refine d_slU hva fun sa H18 e18 hsa => ?_
    rw [cutV_to' (n := 2 * n - 1) (by omega), ← List.map_take, show (row p (atF bs ws) N).take (2 * n - 1) = row p (atF bs ws) (2 * n - 1) from map_take _ (by omega)] at hsa
    have svl := row_vl p0 (atF bs ws) (2 * n - 1)
    walk_at "dd"
    refine ⟨p, false, sa, _, rfl, hp, hsa, svl, by rw [row_len]; omega, fun H19 e19 => ?_⟩
    walk_at "dd"
    refine ⟨p, false, sa, _, rfl, hp, ex_t e19 hsa, svl, by rw [row_len]; omega, fun sr H20 e20 hsr => ?_⟩
    walk_at "dd"
    refine d_lenT hsr ?_
    walk_at "dd"
    refine d_mul (.inl ⟨by decide, by decide⟩) ?_
    walk_at "dd"
    refine d_lenT (ex_t (e19.trans e20) hsa) ?_
    walk_at "dd"
    rw [List.length_map, List.length_map]
    refine ⟨_, _, _, rfl, .bl _, .bl _, .inr ⟨_, rfl⟩, .inr ⟨_, rfl⟩, rp_bool _, ?_⟩
    walk_at "dd"
    refine k_ifN rfl ?_
    have e1820 := e18.trans (e19.trans e20)
    have hva := ex_t e1820 hva
    have hbL := e1820 _ _ hbL
    have hR := ex_t e1820 hR
    have hh20 := hh17.ex e1820
    have e020 := e017.trans (Ex.exb e1820 h)
    clear e017 hsr hsa
    walk_at "dd"
    refine ⟨h, cc, p, rfl, hh20, p0, by omega, fun r4 H21 r40 r41 e21 hh21 => ?_⟩
    have hva := exb_t e21 hh20 hva
    have hbL := e21 _ _ (hh20.nei hbL) hbL
    have hR := exb_t e21 hh20 hR
    have e021 := e020.trans e21
    clear e020
    walk_at "dd"
    refine k_seq (by simp) fun t3 ht3 et3 => ?_
    walk_at "dd"
    refine ⟨p, ra, t3, R, [r4, 1], rfl, p0, p1, ex_t et3 hR, .inl (.inl upd_same), ok.vl, by rw [ok.ln]; omega, by simp, ok.ne, by simp, fun mo H22 e22 hmo => ?_⟩
    have e2122 := et3.trans e22
    have hva := ex_t e2122 hva
    have hbL := e2122 _ _ hbL
    have hR := ex_t e2122 hR
    have hh22 := hh21.ex e2122
    have e022 := e021.trans (Ex.exb e2122 h)
    clear e021
    have mln : (timesP p R [r4, 1]).length = n + 2 := by
      rw [timesP_len, ok.ln]
      rfl
    have mRule : IsRule p (timesP p R [r4, 1]) := ⟨hp, timesP_vl p0 _ _, (fun z => by rw [z] at mln; simp at mln), by rw [mln]; omega, by
      have e := times_last (p := p) (ys := [r4, 1]) ok.ne (by simp)
      rw [ok.ln] at e
      rw [mln, show n + 2 - 1 = n + 1 + [r4, 1].length - 2 from rfl, e, show n + 1 - 1 = n from rfl, ok.one]
      show 1 * 1 % p = 1
      exact Int.emod_eq_of_lt (by decide) (by omega)⟩
    walk_at "dd"
    refine ⟨p, false, mo, va, _, _, rfl, mRule, hmo, hva, vvl, by rw [row_len]; omega, fun H23 e23 => ?_⟩
    rw [obB_true (row_obn N (W.more r4))]
    walk_at "dd"
    refine k_or (fun z => nomatch z) fun _ => ?_
    walk_at "dd"
    refine d_ixL (.inl (.inl (e23 _ _ hbL))) (ati (j := 0) rfl (by omega)) ?_
    walk_at "dd"
    have hb0m := List.mem_of_getElem? (cf_lt (xs := bs) (k := 0) (by omega))
    have hb0 := hbv _ hb0m
    refine ⟨p, cf bs 0, ra, R, rfl, hp, by omega, hb0.2, ex_t e23 hR, ok.vl, hRule.tr, by rw [ok.ln]; omega, fun H24 e24 => ?_⟩
    rw [W.at0 hb0m]
    walk_at "dd"
    refine k_ifN rfl ?_
    have e2224 := e23.trans e24
    have hva := ex_t e2224 hva
    have hR := ex_t e2224 hR
    have hh24 := hh22.ex e2224
    have e024 := e022.trans (Ex.exb e2224 h)
    clear e022 hmo
    have rne : row p (atF bs ws) N ≠ [] := fun z => by
      have := row_len p (atF bs ws) N
      rw [z] at this
      simp at this
      omega
    walk_at "dd"
    refine d_slU hva fun s3 H25 e25 hs3 => ?_
    rw [cutV_last, List.length_map, row_len, ← List.map_take] at hs3
    walk_at "dd"
    refine d_ixT (ex_t e25 hva) (ati_last rne) ?_
    rw [row_len]
    walk_at "dd"
    refine d_mod p0 ?_
    walk_at "dd"
    refine k_seq (by simp) fun t4 ht4 et4 => ?_
    refine d_catU (ex_t et4 hs3) (.inl (.inl upd_same)) (by rw [List.length_map, List.length_take, row_len]; show _ + 1 ≤ _; omega) fun be H26 e26 hbe => ?_
    have hbe : SqT K H26 be (((row p (atF bs ws) N).take (N - 1) ++ [(cf (row p (atF bs ws) N) (N - 1) + 1) % p]).map .int) := by
      rw [List.map_append]
      exact hbe
    have bvl : Vl p ((row p (atF bs ws) N).take (N - 1) ++ [(cf (row p (atF bs ws) N) (N - 1) + 1) % p]) := fun x hx => by
      rcases List.mem_append.mp hx with z | z
      · exact vvl x (List.mem_of_mem_take z)
      · rw [List.mem_singleton] at z
        rw [z]
        exact emod_lt p0 _
    have e2426 := (e25.trans et4).trans e26
    have hva := ex_t e2426 hva
    have hR := ex_t e2426 hR
    have hh26 := hh24.ex e2426
    have e026 := e024.trans (Ex.exb e2426 h)
    clear e024 hs3
    walk_at "dd"
    refine ⟨p, false, ra, be, R, _, rfl, hRule, hR, hbe, bvl, by rw [List.length_append, List.length_take, row_len]; show _ + 1 ≤ _; omega, fun H27 e27 => ?_⟩
    rw [W.bent (by omega)]
    walk_at "dd"
    refine k_ifN rfl ?_
    walk_at "dd"
    refine ⟨p, ra, R, rfl, hp, ex_t e27 hR, ok.vl, hRule.tr, by rw [ok.ln]; omega, fun ba H28 e28 hba => ?_⟩
    rw [W.rev_tr] at hba
    walk_at "dd"
    have rrn : R.reverse ≠ [] := fun z => ok.ne (by simpa using z)
    refine d_ixT hba (ati_last rrn) ?_
    walk_at "dd"
    have rr0 : cf R.reverse (R.reverse.length - 1) = cf R 0 := by
      have ln := ok.ln
      rw [List.length_reverse, cf_rev (by omega)]
      congr 1
      omega
    rw [rr0]
    refine ⟨p, cf R 0, (p - 2).toNat, by rw [Int.toNat_of_nonneg (by omega)], by omega, p1, ?_⟩
    walk_at "dd"
    refine k_T hba ?_
    have rvl : Vl p R.reverse := fun x hx => ok.vl x (List.mem_reverse.mp hx)
    refine k_lcN walk_tup (fun i => .int (cf R.reverse i * (cf R 0 ^ (p - 2).toNat % p) % p)) (by rw [List.length_map, List.length_reverse, ok.ln]; omega) (fun H' e => ex_t e hba) (fun _ => rfl) (fun i x H' H29 hi e y => ?_) (fun l3 H29 hl3 e29 el3 => ?_)
    · obtain ⟨rfl, y⟩ := y
      obtain ⟨rfl, _⟩ := int_at y
      refine ⟨Ex.refl _, fun Q q => ?_⟩
      walk_at "dd"
      have := rvl.cf p0 i
      refine d_mul (.inl ⟨by omega, by omega⟩) ?_
      walk_at "dd"
      refine d_mod p0 ?_
      exact q _ (Ex.refl _)
    have hz : (List.range (R.reverse.map V.int).length).map (fun i => V.int (cf R.reverse i * (cf R 0 ^ (p - 2).toNat % p) % p)) = (turnd p R).map V.int := by
      rw [map_ints, List.length_map]
      congr 1
      have h1 := congrArg (List.map fun x => x * (cf R 0 ^ (p - 2).toNat % p) % p) (list_cf R.reverse)
      rw [List.map_map] at h1
      exact h1.symm
    rw [hz] at el3
    walk_at "dd"
    refine d_tupC (c := true) (.inl (.inl el3)) fun tu H30 e30 htu => ?_
    walk_at "dd"
    have e2630 := (e27.trans e28).trans (e29.trans e30)
    refine k_revT (ex_t e2630 hva) fun rv hrv erv => ?_
    rw [← List.map_reverse] at erv ⊢
    walk_at "dd"
    have ln := ok.ln
    have tRule : IsRule p (turnd p R) := ⟨hp, fun x hx => by
      unfold turnd at hx
      obtain ⟨y, _, rfl⟩ := List.mem_map.mp hx
      exact emod_lt p0 _, (fun z => by have := turnd_len p R; rw [z, ln] at this; simp at this), by rw [turnd_len, ln]; omega, by rw [turnd_len, ln]; exact W.turn_mon⟩
    refine ⟨p, false, tu, rv, _, _, rfl, tRule, ex_t erv htu, .inl (.inl upd_same), fun x hx => vvl x (List.mem_reverse.mp hx), by rw [List.length_reverse, row_len]; omega, fun H31 e31 => ?_⟩
    rw [W.turn_ob]
    walk_at "dd"
    have eL := (e2630.trans erv).trans e31
    exact q _ (e026.trans (Ex.exb eL h)) (hh26.ex eL)
end
section
variable {P : Program} {w : World} {K : PySem.W.Frag} {mg : Str → Option Value} {base : Heap} {f : Addr} {fd : FuncData}
theorem rulRule {p : Int} {n : Nat} {R : List Int} (h : RulOk p n R) (hp : IsPr p) (hn : n ≤ 29) : IsRule p R := ⟨hp, h.vl, h.ne, by rw [h.ln]; omega, by rw [h.ln]; exact h.one⟩
def sp_law_is_places_right : Sp := fun vs H Q _ => ∃ (h cc : Addr) (p : Int), vs = [.ref h, .int p] ∧ HandOk H h cc ∧ IsPr p ∧ ∀ H', Exb h H H' → HandOk H' h cc → Q (.bl true) H'
theorem ok_law_is_places_right (F : Fun K "_law_is_places_right" "_law_is_places_right" s_law_is_places_right f fd) (B : Bns mg)
    (O_law_draw : Own P w K mg base "_law_draw" 1 P_law_draw sp_law_draw) (O_law_times : Own P w K mg base "_law_times" 1 P_law_times (sp_law_times K)) (O_value_at : Own P w K mg base "value_at" 6 P_value_at (sp_value_at K)) :
    FnOk P w K mg base CX0 7 f fd P_law_is_places_right sp_law_is_places_right := by
  refine F.ok sc_law_is_places_right (fun vs H Q E h => ?_) (fun cdv A outer s H vs Q E hr h => ?_)
  · obtain ⟨h, cc, p, rfl, _⟩ := h
    rfl
  · obtain ⟨h, cc, p, rfl, hh, hp, q⟩ := h
    have p0 := hp.pos
    have p1 := hp.2.1
    have p2 := hp.1
    refine ⟨_, (pss_cons (ps_set (i := 2) sc_law_is_places_right.nd rfl (by first | exact .inl rfl | exact .inr rfl) (pe_tup (pa_cons (pe_op or_mod (pe_callTy cr_int (by rfl) B.h_int (by decide +kernel) (pa_cons (pe_op or_sub pe_int pe_int) pa_nil)) (pv 1)) (pa_cons pe_int pa_nil))))
      (pss_cons (ps_set (i := 3) sc_law_is_places_right.nd rfl (by first | exact .inl rfl | exact .inr rfl) (pe_own O_law_times (hr.mono (by decide)) (by rfl) (pa_cons (pv 1) (pa_cons (pv 2) (pa_cons (pv 2) pa_nil)))))
      (pss_cons (ps_set (i := 4) sc_law_is_places_right.nd rfl (by first | exact .inl rfl | exact .inr rfl) (pe_own O_law_times (hr.mono (by decide)) (by rfl) (pa_cons (pv 1) (pa_cons (pv 3) (pa_cons (pv 2) pa_nil)))))
      (pss_cons (ps_asg (pe_tup (pa_cons (pe_own O_law_draw (hr.mono (by decide)) (by rfl) (pa_cons (pv 0) (pa_cons (pv 1) pa_nil))) (pa_cons (pe_own O_law_draw (hr.mono (by decide)) (by rfl) (pa_cons (pv 0) (pa_cons (pv 1) pa_nil))) (pa_cons (pe_own O_law_draw (hr.mono (by decide)) (by rfl) (pa_cons (pv 0) (pa_cons (pv 1) pa_nil))) pa_nil)))) (pg_tup (n := 3) rfl (pgs_cons (pg_name (i := 5) sc_law_is_places_right.nd rfl (by first | exact .inl rfl | exact .inr rfl)) (pgs_cons (pg_name (i := 6) sc_law_is_places_right.nd rfl (by first | exact .inl rfl | exact .inr rfl)) (pgs_cons (pg_name (i := 7) sc_law_is_places_right.nd rfl (by first | exact .inl rfl | exact .inr rfl)) pgs_nil)))))
      (pss_cons (ps_for PassesOwn.never rfl (pi_tup (pe_tup (pa_cons (pe_op or_pow pe_int pe_int) (pa_cons (pe_own O_law_draw (hr.mono (by decide)) (by rfl) (pa_cons (pv 0) (pa_cons (pe_op or_pow pe_int pe_int) pa_nil))) (pa_cons pe_int pa_nil))))) (pg_name (i := 8) sc_law_is_places_right.nd rfl (by first | exact .inl rfl | exact .inr rfl)) (pss_cons (ps_set (i := 9) sc_law_is_places_right.nd rfl (by first | exact .inl rfl | exact .inr rfl) (pe_callTy cr_tupC (by rfl) B.h_tuple (by decide +kernel) (pa_cons (pe_lc (own := [("at", 11)]) (g := (gName 11)) (tt := tYes) (te := (tOp rModI (tCB rIntI (tCons (tOp rAddI (tVar 5) (tOp rMulI (tVar 6) (tVar 11))) tNil)) (tVar 1))) (by rfl) sc_law_is_places_right.nd (pi_range1 (by rfl) B.h_range (pa_cons pe_int pa_nil)) (blkOk_by (own := [("at", 11)]) (N := N_law_is_places_right) (sc := defScope s_law_is_places_right) (by decide +kernel)) (fun _ _ _ _ _ => (pg_name (i := 11) sc_law_is_places_right.nd rfl (by first | exact .inl rfl | exact .inr rfl))) (fun _ _ _ _ _ => pts_nil) (fun _ _ _ _ _ => (pe_op or_mod (pe_callTy cr_int (by rfl) B.h_int (by decide +kernel) (pa_cons (pe_op or_add (pv 5) (pe_op or_mul (pv 6) (pv 11))) pa_nil)) (pv 1)))) pa_nil)))
      (pss_cons (ps_if (pt_cmpR or_ne (pe_own O_value_at (hr.mono (by decide)) (by rfl) (pa_cons (pv 1) (pa_cons (pv 3) (pa_cons (pv 9) (pa_cons (pv 8) pa_nil))))) (pe_op or_mod (pe_callTy cr_int (by rfl) B.h_int (by decide +kernel) (pa_cons (pe_op or_add (pv 5) (pe_op or_mul (pv 6) (pv 8))) pa_nil)) (pv 1)) (nomark _)) (pss_one (ps_ret pe_bl)) pss_nil)
      (pss_cons (ps_set (i := 10) sc_law_is_places_right.nd rfl (by first | exact .inl rfl | exact .inr rfl) (pe_callTy cr_tupC (by rfl) B.h_tuple (by decide +kernel) (pa_cons (pe_lc (own := [("at", 11)]) (g := (gName 11)) (tt := tYes) (te := (tOp rModI (tCB rIntI (tCons (tOp rAddI (tOp rAddI (tVar 5) (tOp rMulI (tVar 6) (tVar 11))) (tOp rMulI (tOp rMulI (tVar 7) (tVar 11)) (tVar 11))) tNil)) (tVar 1))) (by rfl) sc_law_is_places_right.nd (pi_range1 (by rfl) B.h_range (pa_cons pe_int pa_nil)) (blkOk_by (own := [("at", 11)]) (N := N_law_is_places_right) (sc := defScope s_law_is_places_right) (by decide +kernel)) (fun _ _ _ _ _ => (pg_name (i := 11) sc_law_is_places_right.nd rfl (by first | exact .inl rfl | exact .inr rfl))) (fun _ _ _ _ _ => pts_nil) (fun _ _ _ _ _ => (pe_op or_mod (pe_callTy cr_int (by rfl) B.h_int (by decide +kernel) (pa_cons (pe_op or_add (pe_op or_add (pv 5) (pe_op or_mul (pv 6) (pv 11))) (pe_op or_mul (pe_op or_mul (pv 7) (pv 11)) (pv 11))) pa_nil)) (pv 1)))) pa_nil)))
      (pss_one (ps_if (pt_cmpR or_ne (pe_own O_value_at (hr.mono (by decide)) (by rfl) (pa_cons (pv 1) (pa_cons (pv 4) (pa_cons (pv 10) (pa_cons (pv 8) pa_nil))))) (pe_op or_mod (pe_callTy cr_int (by rfl) B.h_int (by decide +kernel) (pa_cons (pe_op or_add (pe_op or_add (pv 5) (pe_op or_mul (pv 6) (pv 8))) (pe_op or_mul (pe_op or_mul (pv 7) (pv 8)) (pv 8))) pa_nil)) (pv 1)) (nomark _)) (pss_one (ps_ret pe_bl)) pss_nil))))))
      (pss_one (ps_ret pe_bl))))))), ?_⟩
    walk_at "dd"
    refine d_mod p0 ?_
    walk_at "dd"
    refine k_seq (by simp) fun oa hoa eoa => ?_
    have ho : SqT K (upd H oa (.tup [.int ((0 - 1) % p), .int 1])) oa ((oneP p).map .int) := .inl (.inl upd_same)
    generalize upd H oa (.tup [.int ((0 - 1) % p), .int 1]) = H1 at *
    walk_at "dd"
    have o1 := rulOne hp
    have o2 := RulOk.two hp
    have o3 := RulOk.three hp
    refine ⟨p, oa, oa, oneP p, oneP p, rfl, p0, p1, ho, ho, o1.vl, by rw [o1.ln]; omega, by rw [o1.ln]; omega, o1.ne, o1.ne, fun tw H2 e2 htw => ?_⟩
    walk_at "dd"
    refine ⟨p, tw, oa, twoP p, oneP p, rfl, p0, p1, htw, ex_t e2 ho, o2.vl, by rw [o2.ln]; omega, by rw [o1.ln]; omega, o2.ne, o1.ne, fun th H3 e3 hth => ?_⟩
    have htw := ex_t e3 htw
    have e03 := (eoa.trans e2).trans e3
    have hh3 := hh.ex e03
    walk_at "dd"
    refine ⟨h, cc, p, rfl, hh3, p0, by omega, fun a H4 a0 a1 e4 hh4 => ?_⟩
    walk_at "dd"
    refine ⟨h, cc, p, rfl, hh4, p0, by omega, fun b H5 b0 b1 e5 hh5 => ?_⟩
    walk_at "dd"
    refine ⟨h, cc, p, rfl, hh5, p0, by omega, fun c H6x c0 c1 e6x hh6x => ?_⟩
    walk_at "dd"
    refine k_seq (by simp) fun tt htt ett => ?_
    refine g_triple (.of upd_same) ?_
    have e6 := e6x.trans (Ex.exb ett h)
    have hh6 := hh6x.ex ett
    generalize upd H6x tt (.tup [.int a, .int b, .int c]) = H6 at *
    walk_at "dd"
    refine d_pow ⟨by decide, by decide, by decide⟩ ?_
    walk_at "dd"
    refine d_pow ⟨by decide, by decide, by decide⟩ ?_
    walk_at "dd"
    refine ⟨h, cc, _, rfl, hh6, by decide, by decide, fun r H7 r0 r1 e7 hh7 => ?_⟩
    have r1 : r < 1000000000 := r1
    have e07 := (Ex.exb e03 h).trans ((e4.trans e5).trans (e6.trans e7))
    have htw := exb_t e7 hh6 (exb_t e6 hh5 (exb_t e5 hh4 (exb_t e4 hh3 htw)))
    have hth := exb_t e7 hh6 (exb_t e6 hh5 (exb_t e5 hh4 (exb_t e4 hh3 hth)))
    walk_at "dd"
    refine k_seq (by simp) fun tp htp etp => ?_
    walk_at "dd"
    refine k_T (.inl (.inl upd_same)) ?_
    refine k_for walk_tup (fun i σ' H' => Ex H7 H' ∧ SqT K H' tp ([(10 ^ 18 : Int), r, 3].map .int) ∧ ∃ (o o2 o3 : Option V), σ' = [some (.ref h), some (.int p), some (.ref oa), some (.ref tw), some (.ref th), some (.int a), some (.int b), some (.int c), o, o2, o3, none])
      ⟨etp, .inl (.inl upd_same), none, none, none, rfl⟩ (fun i σ' H' _ h => h.2.1) ?_ ?_
    · rintro i x σ' H' H8 hi ⟨e, hT, u1, u2, u3, rfl⟩ ⟨rfl, hx⟩
      obtain ⟨rfl, hi'⟩ := int_at hx
      obtain ⟨k, hk, hk2⟩ : ∃ k : Nat, cf [(10 ^ 18 : Int), r, 3] i = k ∧ k ≤ 10 ^ 18 := by
        have hb : ∀ x ∈ [(10 ^ 18 : Int), r, 3], 0 ≤ x ∧ x ≤ 10 ^ 18 := by
          intro x hx
          simp only [List.mem_cons, List.not_mem_nil, or_false] at hx
          omega
        have := hb _ (List.mem_of_getElem? (cf_lt hi'))
        exact ⟨_, (Int.toNat_of_nonneg this.1).symm, by omega⟩
      rw [hk]
      walk_at "dd"
      refine k_R1 (by decide) (by decide) ?_
      refine k_lcN walk_rng (fun i => .int ((a + b * (i : Int)) % p)) (by decide) (fun H' e => trivial) (fun _ => rfl) (fun i x H' H4 hi e y => ?_) (fun l1 H9 hl1 e9 el1 => ?_)
      · obtain ⟨rfl, rfl⟩ := y
        refine ⟨Ex.refl _, fun Q q => ?_⟩
        walk_at "dd"
        refine d_mul (.inl ⟨by omega, by omega⟩) ?_
        walk_at "dd"
        refine d_mod p0 ?_
        exact q _ (Ex.refl _)
      rw [map_ints] at el1
      walk_at "dd"
      refine d_tupC (c := true) (.inl (.inl el1)) fun la H10 e10 hla => ?_
      have hla : SqT K H10 la ((row p (fun m => a + b * (m : Int)) 2).map .int) := hla
      walk_at "dd"
      have e810 := e.trans (e9.trans e10)
      refine ⟨p, tw, la, twoP p, _, k, fun m => a + b * (m : Int), rfl, rulRule o2 hp (by decide), ex_t e810 htw, hla, by rw [row_len, o2.ln], by rw [row_len]; rfl, ob_two (b := b) (lin_dif a b), hk2, fun H11 e11 => ?_⟩
      walk_at "dd"
      refine d_mul (.inl ⟨by omega, by omega⟩) ?_
      walk_at "dd"
      refine d_mod p0 ?_
      walk_at "dd"
      rw [decide_eq_true rfl]
      refine k_ifN rfl ?_
      walk_at "dd"
      refine k_R1 (by decide) (by decide) ?_
      refine k_lcN walk_rng (fun i => .int ((a + b * (i : Int) + c * (i : Int) * (i : Int)) % p)) (by decide) (fun H' e => trivial) (fun _ => rfl) (fun i x H' H4 hi e y => ?_) (fun l2 H12 hl2 e12 el2 => ?_)
      · obtain ⟨rfl, rfl⟩ := y
        refine ⟨Ex.refl _, fun Q q => ?_⟩
        walk_at "dd"
        refine d_mul (.inl ⟨by omega, by omega⟩) ?_
        walk_at "dd"
        refine d_mul (.inl ⟨by omega, by omega⟩) ?_
        walk_at "dd"
        refine d_mul (.inr ⟨by omega, by have : i < 3 := hi; omega⟩) ?_
        walk_at "dd"
        refine d_mod p0 ?_
        exact q _ (Ex.refl _)
      rw [map_ints] at el2
      walk_at "dd"
      refine d_tupC (c := true) (.inl (.inl el2)) fun ba H13 e13 hba => ?_
      have hba : SqT K H13 ba ((row p (fun m => a + b * (m : Int) + c * (m : Int) * (m : Int)) 3).map .int) := hba
      walk_at "dd"
      have e813 := (e810.trans e11).trans (e12.trans e13)
      refine ⟨p, th, ba, threeP p, _, k, fun m => a + b * (m : Int) + c * (m : Int) * (m : Int), rfl, rulRule o3 hp (by decide), ex_t e813 hth, hba, by rw [row_len, o3.ln], by rw [row_len]; rfl, ob_three hp (b := 2 * c) (sq_dif a b c), hk2, fun H14 e14 => ?_⟩
      walk_at "dd"
      refine d_mul (.inl ⟨by omega, by omega⟩) ?_
      walk_at "dd"
      refine d_mul (.inl ⟨by omega, by omega⟩) ?_
      walk_at "dd"
      refine d_mul (.inr ⟨by omega, by omega⟩) ?_
      walk_at "dd"
      refine d_mod p0 ?_
      walk_at "dd"
      rw [decide_eq_true rfl]
      refine k_ifN rfl ?_
      refine d_next ?_
      have e1114 := e11.trans ((e12.trans e13).trans e14)
      exact ⟨e813.trans e14, ex_t ((e9.trans e10).trans e1114) hT, _, _, _, rfl⟩
    · rintro σ' H8 ⟨e8, hT, u1, u2, u3, rfl⟩
      walk_at "dd"
      exact q _ (e07.trans (Ex.exb e8 h)) (hh7.ex e8)
def sp_law_is_round_right : Sp := fun vs H Q _ => ∃ (h cc : Addr) (p : Int), vs = [.ref h, .int p] ∧ HandOk H h cc ∧ IsPr p ∧ ∀ H', Exb h H H' → HandOk H' h cc → Q (.bl true) H'
theorem ok_law_is_round_right (F : Fun K "_law_is_round_right" "_law_is_round_right" s_law_is_round_right f fd) (B : Bns mg)
    (O_law_draw : Own P w K mg base "_law_draw" 1 P_law_draw sp_law_draw) (O_law_any : Own P w K mg base "_law_any" 2 P_law_any sp_law_any) (O_value_at : Own P w K mg base "value_at" 6 P_value_at (sp_value_at K)) (O_continued : Own P w K mg base "continued" 6 P_continued (sp_continued K))
    (O_shortest_rule : Own P w K mg base "shortest_rule" 5 P_shortest_rule (sp_shortest_rule K)) (O_is_only_rule : Own P w K mg base "is_only_rule" 5 P_is_only_rule (sp_is_only_rule K)) (O_obeys : Own P w K mg base "obeys" 6 P_obeys (sp_obeys K)) :
    FnOk P w K mg base CX0 7 f fd P_law_is_round_right sp_law_is_round_right := by
  refine F.ok sc_law_is_round_right (fun vs H Q E h => ?_) (fun cdv A outer s H vs Q E hr h => ?_)
  · obtain ⟨h, cc, p, rfl, _⟩ := h
    rfl
  · obtain ⟨h, cc, p, rfl, hh, hp, q⟩ := h
    have p0 := hp.pos
    have p1 := hp.2.1
    have p2 := hp.1
    refine ⟨_, (pss_cons (ps_set (i := 2) sc_law_is_round_right.nd rfl (by first | exact .inl rfl | exact .inr rfl) (pe_op or_add pe_int (pe_own O_law_draw (hr.mono (by decide)) (by rfl) (pa_cons (pv 0) (pa_cons pe_int pa_nil)))))
      (pss_cons (ps_set (i := 3) sc_law_is_round_right.nd rfl (by first | exact .inl rfl | exact .inr rfl) (pe_callTy cr_tupC (by rfl) B.h_tuple (by decide +kernel) (pa_cons (pe_lc (own := [("at", 9)]) (g := (gName 9)) (tt := tYes) (te := (tCall (sp_law_draw) [] E0 (tCons (tVar 0) (tCons (tVar 1) tNil)))) (by rfl) sc_law_is_round_right.nd (pi_range1 (by rfl) B.h_range (pa_cons (pv 2) pa_nil)) (blkOk_by (own := [("at", 9)]) (N := N_law_is_round_right) (sc := defScope s_law_is_round_right) (by decide +kernel)) (fun _ _ _ _ _ => (pg_name (i := 9) sc_law_is_round_right.nd rfl (by first | exact .inl rfl | exact .inr rfl))) (fun _ _ _ _ _ => pts_nil) (fun _ _ _ _ _ => (pe_own O_law_draw (hr.mono (by decide)) (by rfl) (pa_cons (pv 0) (pa_cons (pv 1) pa_nil))))) pa_nil)))
      (pss_cons (ps_set (i := 4) sc_law_is_round_right.nd rfl (by first | exact .inl rfl | exact .inr rfl) (pe_op or_catU (pe_op or_catU (pe_tup (pa_cons (pe_op or_mod (pe_callTy cr_int (by rfl) B.h_int (by decide +kernel) (pa_cons (pe_op or_sub pe_int pe_int) pa_nil)) (pv 1)) pa_nil)) (pe_op op_repA (pe_tup (pa_cons pe_int pa_nil)) (pe_op or_sub (pv 2) pe_int))) (pe_tup (pa_cons pe_int pa_nil))))
      (pss_cons (ps_set (i := 5) sc_law_is_round_right.nd rfl (by first | exact .inl rfl | exact .inr rfl) (pe_own O_law_any (hr.mono (by decide)) (by rfl) (pa_cons (pv 0) (pa_cons (pe_lst (pa_cons (pe_op or_pow pe_int pe_int) (pa_cons (pe_own O_law_draw (hr.mono (by decide)) (by rfl) (pa_cons (pv 0) (pa_cons (pe_op or_pow pe_int pe_int) pa_nil))) pa_nil))) pa_nil))))
      (pss_cons (ps_if (pt_cmpR or_ne (pe_own O_value_at (hr.mono (by decide)) (by rfl) (pa_cons (pv 1) (pa_cons (pv 4) (pa_cons (pv 3) (pa_cons (pv 5) pa_nil))))) (pe_ix ix_C (pv 3) (pe_op or_mod (pe_callTy cr_int (by rfl) B.h_int (by decide +kernel) (pa_cons (pv 5) pa_nil)) (pv 2)) (fun _ _ => rfl)) (nomark _)) (pss_one (ps_ret pe_bl)) pss_nil)
      (pss_cons (ps_set (i := 6) sc_law_is_round_right.nd rfl (by first | exact .inl rfl | exact .inr rfl) (pe_own O_continued (hr.mono (by decide)) (by rfl) (pa_cons (pv 1) (pa_cons (pv 4) (pa_cons (pv 3) (pa_cons pe_int pa_nil))))))
      (pss_cons (ps_if (PW.pt (pw_or (pt_cmpR (op_neD hr.units) (pv 6) (pe_slice sl_U (pe_op op_repA (pv 3) pe_int) po_none (po_some pe_int)) (nomark _)) (pw_or1 (pt_cmpR (op_neD hr.units) (pe_own O_continued (hr.mono (by decide)) (by rfl) (pa_cons (pv 1) (pa_cons (pv 4) (pa_cons (pv 3) (pa_cons pe_int pa_nil))))) (pe_tup pa_nil) (nomark _))))) (pss_one (ps_ret pe_bl)) pss_nil)
      (pss_cons (ps_set (i := 7) sc_law_is_round_right.nd rfl (by first | exact .inl rfl | exact .inr rfl) (pe_own O_shortest_rule (hr.mono (by decide)) (by rfl) (pa_cons (pv 1) (pa_cons (pv 6) pa_nil))))
      (pss_cons (ps_set (i := 8) sc_law_is_round_right.nd rfl (by first | exact .inl rfl | exact .inr rfl) (pe_op or_sub (pe_callB cr_lenC (by rfl) B.h_len (by decide +kernel) (pa_cons (pv 7) pa_nil)) pe_int))
      (pss_one (ps_ret (pe_and (pe_cmpR or_le (pv 8) (pv 2) (nomark _)) (pe_and (pe_cmpR or_eq (pe_ix ix_C (pv 7) (pe_un ur_neg pe_int) (fun _ _ => rfl)) pe_int (nomark _)) (pe_and (pe_cmpR or_isB (pe_own O_obeys (hr.mono (by decide)) (by rfl) (pa_cons (pv 1) (pa_cons (pv 7) (pa_cons (pv 6) pa_nil)))) pe_bl (nomark _)) (pe_one (pe_cmpR or_isB (pe_own O_is_only_rule (hr.mono (by decide)) (by rfl) (pa_cons (pv 1) (pa_cons (pv 6) pa_nil))) pe_bl (nomark _))))))))))))))))), ?_⟩
    walk_at "dd"
    refine ⟨h, cc, _, rfl, hh, by decide, by decide, fun r H1 r0 r1 e1 hh1 => ?_⟩
    obtain ⟨n, hn, n0, n12⟩ : ∃ n : Nat, 1 + r = n ∧ 0 < n ∧ n ≤ 12 := ⟨(1 + r).toNat, by omega, by omega, by omega⟩
    walk_at "dd"
    rw [hn]
    refine k_R1 (by omega) (by omega) ?_
    rw [Int.toNat_natCast]
    refine k_lcD walk_rng (fun v => 0 ≤ v ∧ v < p) (by omega) hh1 (fun H' e => trivial) (fun i x H' H2 y => y.1) (fun _ => rfl) (fun i x H' R hi e hk hR => ?_) (fun l1 H2 ys l1n e2 hh2 hl1 hyl hyv => ?_)
    · walk_at "dd"
      exact ⟨h, cc, p, rfl, hk, p0, by omega, fun r H3 r0 r1 e3 hk3 => hR _ _ ⟨r0, r1⟩ e3 hk3⟩
    walk_at "dd"
    refine d_tupC (c := true) (.inl (.inl hl1)) fun va H3 e3 hva => ?_
    walk_at "dd"
    refine d_mod p0 ?_
    walk_at "dd"
    refine k_seq (by simp) fun t1 ht1 et1 => ?_
    walk_at "dd"
    refine k_seq (by simp) fun t2 ht2 et2 => ?_
    walk_at "dd"
    refine d_repT (xs := [.int 0]) (.inl (.inl upd_same)) (by omega) (by omega) (by simp) fun za H4 e4 hza => ?_
    rw [rep_one, show ((n : Int) - 1).toNat = n - 1 by omega] at hza
    walk_at "dd"
    refine d_catU (xs := [(0 - 1) % p].map .int) (ex_t (et2.trans e4) (.inl (.inl upd_same))) hza (by simp; omega) fun ca H5 e5 hca => ?_
    walk_at "dd"
    refine k_seq (by simp) fun t3 ht3 et3 => ?_
    walk_at "dd"
    refine d_catU (ys := [(1 : Int)].map .int) (ex_t et3 hca) (.inl (.inl upd_same)) (by simp; omega) fun ra H6 e6 hra => ?_
    rw [← List.map_append, ← List.map_append, show [(0 - 1) % p] ++ List.replicate (n - 1) 0 ++ [1] = roundP p n from rfl] at hra
    have e36 := (et1.trans et2).trans ((e4.trans e5).trans (et3.trans e6))
    have hva := ex_t e36 hva
    have hh6 := (hh2.ex e3).ex e36
    have e06 := (e1.trans e2).trans ((Ex.exb e3 h).trans (Ex.exb e36 h))
    have rln := roundP_len (p := p) n0
    have rRule : IsRule p (roundP p n) := ⟨hp, roundP_vl (by omega), (fun z => by rw [z] at rln; simp at rln), by omega, by rw [rln]; exact roundP_last n0⟩
    have hob : Ob p (roundP p n) (fun k => cf ys (k % ys.length)) := ob_round n0 fun m => by
      show cf ys ((m + n) % ys.length) = cf ys (m % ys.length)
      rw [hyl, Nat.add_mod_right]
    have yrow := round_row p0 hyv
    walk_at "dd"
    refine d_pow ⟨by decide, by decide, by decide⟩ ?_
    walk_at "dd"
    refine d_pow ⟨by decide, by decide, by decide⟩ ?_
    walk_at "dd"
    refine ⟨h, cc, _, rfl, hh6, by decide, by decide, fun r2 H7 r20 r21 e7 hh7 => ?_⟩
    have r21 : r2 < 1000000000000 := r21
    walk_at "dd"
    refine k_seq (by simp) fun pl hpl epl => ?_
    walk_at "dd"
    refine ⟨h, cc, pl, [(10 ^ 18 : Int), r2], rfl, hh7.ex epl, upd_same, by simp, by simp, fun lg H8 hlg e8 hh8 => ?_⟩
    obtain ⟨k, hk, hk2⟩ : ∃ k : Nat, lg = k ∧ k ≤ 10 ^ 18 := by
      simp only [List.mem_cons, List.not_mem_nil, or_false] at hlg
      exact ⟨lg.toNat, by omega, by omega⟩
    subst hk
    have hva := exb_t e8 (hh7.ex epl) (ex_t epl (exb_t e7 hh6 hva))
    have hra := exb_t e8 (hh7.ex epl) (ex_t epl (exb_t e7 hh6 hra))
    have e08 := e06.trans ((e7.trans (Ex.exb epl h)).trans e8)
    clear e06
    walk_at "dd"
    refine ⟨p, ra, va, roundP p n, ys, k, _, rfl, rRule, hra, hva, by omega, yrow, hob, hk2, fun H9 e9 => ?_⟩
    walk_at "dd"
    refine d_mod (by omega) ?_
    refine d_ixT (ex_t e9 hva) (ati (j := k % n) (by omega) (by rw [hyl]; exact Nat.mod_lt _ n0)) ?_
    have hvb := hyv (cf ys (k % n)) (List.mem_of_getElem? (cf_lt (by rw [hyl]; exact Nat.mod_lt _ n0)))
    walk_at "dd"
    rw [decide_eq_true (show cf ys (k % ys.length) % p = cf ys (k % n) by rw [hyl]; exact Int.emod_eq_of_lt hvb.1 hvb.2)]
    refine k_ifN rfl ?_
    walk_at "dd"
    refine ⟨p, ra, va, roundP p n, ys, 200, _, rfl, rRule, ex_t e9 hra, ex_t e9 hva, by omega, yrow, hob, by decide, fun lo H10 e10 hlo => ?_⟩
    walk_at "dd"
    have hlo : SqT K H10 lo ((row p (fun k => cf ys (k % ys.length)) 200).map .int) := hlo
    refine d_repT (ex_t (e9.trans e10) hva) (by decide) (by decide) (by rw [List.length_map]; omega) fun wa H11 e11 hwa => ?_
    walk_at "dd"
    refine d_slU hwa fun wb H12 e12 hwb => ?_
    rw [rep_map, cutV_to' (show (200 : Int) = ((200 : Nat) : Int) from rfl), ← List.map_take, round_take p0 (by omega) hyv (by show 200 ≤ 200 * _; omega)] at hwb
    walk_at "dd"
    refine d_neT (ex_t (e11.trans e12) hlo) hwb ?_
    walk_at "dd"
    refine k_or (fun z => nomatch z) fun _ => ?_
    walk_at "dd"
    have e1012 := e11.trans e12
    refine ⟨p, ra, va, roundP p n, ys, 0, _, rfl, rRule, ex_t ((e9.trans e10).trans e1012) hra, ex_t ((e9.trans e10).trans e1012) hva, by omega, yrow, hob, by decide, fun z1 H13 e13 hz1 => ?_⟩
    walk_at "dd"
    refine k_seq (by simp) fun z2 hz2 ez2 => ?_
    refine d_neT (ns := []) (ex_t ez2 hz1) (.inl (.inl upd_same)) ?_
    walk_at "dd"
    have e1014 := e1012.trans (e13.trans ez2)
    have hlo := ex_t e1014 hlo
    have e814 := (e9.trans e10).trans e1014
    have hh14 := hh8.ex e814
    have e014 := e08.trans (Ex.exb e814 h)
    have lvl := row_vl p0 (fun k => cf ys (k % ys.length)) 200
    walk_at "dd"
    refine ⟨p, false, lo, _, rfl, hp, hlo, lvl, by rw [row_len]; decide, fun td H15 e15 htd => ?_⟩
    have tmin := ruleB_min hp (vs := row p (fun k => cf ys (k % ys.length)) 200) ⟨rRule.ne, rRule.one⟩ (row_obn 200 hob)
    have tmon := ruleB_mon hp (row p (fun k => cf ys (k % ys.length)) 200)
    have tobn := ruleB_obn hp (row p (fun k => cf ys (k % ys.length)) 200)
    have tvl := ruleB_vl hp (row p (fun k => cf ys (k % ys.length)) 200)
    rw [rln] at tmin
    have tpos := List.length_pos_iff.mpr tmon.1
    have tRule : IsRule p (ruleB p (row p (fun k => cf ys (k % ys.length)) 200)) := ⟨hp, tvl, tmon.1, by omega, tmon.2⟩
    walk_at "dd"
    refine d_lenT htd ?_
    walk_at "dd"
    rw [List.length_map]
    refine k_andV (fun _ => ?_) (fun z => absurd (of_decide_eq_false z) (by omega))
    walk_at "dd"
    refine d_ixT htd (ati_last tmon.1) ?_
    walk_at "dd"
    rw [tmon.2]
    refine k_andV (fun _ => ?_) (fun z => nomatch z)
    walk_at "dd"
    refine ⟨p, false, td, lo, _, _, rfl, tRule, htd, ex_t e15 hlo, lvl, by rw [row_len]; decide, fun H16 e16 => ?_⟩
    rw [obB_true tobn]
    walk_at "dd"
    refine k_andV (fun _ => ?_) (fun z => nomatch z)
    walk_at "dd"
    refine ⟨p, false, lo, _, rfl, hp, ex_t (e15.trans e16) hlo, lvl, by rw [row_len]; decide, fun H17 e17 => ?_⟩
    rw [decide_eq_true (by rw [row_len]; omega)]
    walk_at "dd"
    have eL := (e15.trans e16).trans e17
    exact q _ (e014.trans (Ex.exb eL h)) (hh14.ex eL)
end
section
variable {P : Program} {w : World} {K : PySem.W.Frag} {mg : Str → Option Value} {base : Heap} {f : Addr} {fd : FuncData}
def sp_law (K : PySem.W.Frag) : Sp := fun vs H Q _ => ∃ (a : Addr) (ns : List Int), vs = [.ref a] ∧ SqL K H a (ns.map .int) ∧ ns.length ≤ 1000 ∧ ∀ H', Q (.bl true) H'
theorem ok_law (F : Fun K "law" "law" s_law f fd) (B : Bns mg) (O_law_hand : Own P w K mg base "_law_hand" 1 P_law_hand (sp_law_hand K))
    (O_law_draw : Own P w K mg base "_law_draw" 1 P_law_draw sp_law_draw) (O_law_any : Own P w K mg base "_law_any" 2 P_law_any sp_law_any) (O_law_is : OwnG P w K mg base "_law_is" 1 P_law_is (sp_law_is K))
    (O_law_is_powers_right : OwnG P w K mg base "_law_is_powers_right" 7 P_law_is_powers_right sp_law_is_powers_right) (O_law_is_places_right : Own P w K mg base "_law_is_places_right" 7 P_law_is_places_right sp_law_is_places_right)
    (O_law_is_round_right : Own P w K mg base "_law_is_round_right" 7 P_law_is_round_right sp_law_is_round_right)
    (O_shortest_rule : Own P w K mg base "shortest_rule" 5 P_shortest_rule (sp_shortest_rule K)) (O_is_only_rule : Own P w K mg base "is_only_rule" 5 P_is_only_rule (sp_is_only_rule K)) :
    FnG P w K mg base 8 f fd P_law (sp_law K) := by
  refine fun_okG F sc_law (fun vs H Q E h => ?_) (fun cdv A outer s H vs Q E hgd hr h => ?_)
  · obtain ⟨a, ns, rfl, _⟩ := h
    rfl
  · obtain ⟨a, ns, rfl, ha, hl, q⟩ := h
    refine ⟨_, (pss_cons (ps_set (i := 1) sc_law.nd rfl (by first | exact .inl rfl | exact .inr rfl) (pe_own O_law_hand (hr.mono (by decide)) (by rfl) (pa_cons (pv 0) pa_nil)))
      (pss_cons (ps_for PassesOwn.never rfl (pi_range1 (by rfl) B.h_range (pa_cons pe_int pa_nil)) (pg_name (i := 2) sc_law.nd rfl (by first | exact .inl rfl | exact .inr rfl)) (pss_cons (ps_set (i := 3) sc_law.nd rfl (by first | exact .inl rfl | exact .inr rfl) (pe_own O_law_any (hr.mono (by decide)) (by rfl) (pa_cons (pv 1) (pa_cons (pe_lst (pa_cons pe_int (pa_cons pe_int (pa_cons pe_int (pa_cons pe_int (pa_cons pe_int pa_nil)))))) pa_nil))))
      (pss_cons (ps_if (pt_not (pt_val (pe_ownG O_law_is_powers_right (hr.mono (by decide)) hgd (by rfl) (pa_cons (pv 1) (pa_cons (pv 3) (pa_cons (pe_own O_law_any (hr.mono (by decide)) (by rfl) (pa_cons (pv 1) (pa_cons (pe_lst (pa_cons pe_int (pa_cons (pe_op or_add pe_int (pe_own O_law_draw (hr.mono (by decide)) (by rfl) (pa_cons (pv 1) (pa_cons pe_int pa_nil)))) (pa_cons pe_int pa_nil)))) pa_nil))) pa_nil)))))) (pss_one (ps_ret pe_bl)) pss_nil)
      (pss_one (ps_if (PW.pt (pw_or (pt_not (pt_val (pe_own O_law_is_places_right (hr.mono (by decide)) (by rfl) (pa_cons (pv 1) (pa_cons (pv 3) pa_nil))))) (pw_or1 (pt_not (pt_val (pe_own O_law_is_round_right (hr.mono (by decide)) (by rfl) (pa_cons (pv 1) (pa_cons (pv 3) pa_nil)))))))) (pss_one (ps_ret pe_bl)) pss_nil)))))
      (pss_cons (ps_set (i := 4) sc_law.nd rfl (by first | exact .inl rfl | exact .inr rfl) (pe_lst (pa_cons (pe_own O_shortest_rule (hr.mono (by decide)) (by rfl) (pa_cons pe_int (pa_cons (pe_tup pa_nil) pa_nil))) (pa_cons (pe_own O_shortest_rule (hr.mono (by decide)) (by rfl) (pa_cons pe_int (pa_cons (pe_op op_repA (pe_tup (pa_cons pe_int pa_nil)) pe_int) pa_nil))) (pa_cons (pe_callB cr_lenC (by rfl) B.h_len (by decide +kernel) (pa_cons (pe_own O_shortest_rule (hr.mono (by decide)) (by rfl) (pa_cons pe_int (pa_cons (pe_op or_catU (pe_op op_repA (pe_tup (pa_cons pe_int pa_nil)) pe_int) (pe_tup (pa_cons pe_int pa_nil))) pa_nil))) pa_nil)) pa_nil)))))
      (pss_one (ps_ret (pe_and (pe_ownG O_law_is (hr.mono (by decide)) hgd (by rfl) (pa_cons (pv 4) (pa_cons (pe_lst (pa_cons (pe_tup (pa_cons pe_int pa_nil)) (pa_cons (pe_tup (pa_cons pe_int pa_nil)) (pa_cons pe_int pa_nil)))) pa_nil))) (pe_one (pe_cmpR or_isB (pe_own O_is_only_rule (hr.mono (by decide)) (by rfl) (pa_cons pe_int (pa_cons (pe_op or_catU (pe_op op_repA (pe_tup (pa_cons pe_int pa_nil)) pe_int) (pe_tup (pa_cons pe_int pa_nil))) pa_nil))) pe_bl (nomark _))))))))), ?_⟩
    walk_at "dd"
    refine ⟨a, ns, rfl, ha, hl, fun h cc H1 hn e1 hh1 => ?_⟩
    walk_at "dd"
    refine k_R1 (by decide) (by decide) ?_
    refine k_for walk_rng (fun i σ' H' => HandOk H' h cc ∧ ∃ (o o2 : Option V), σ' = [some (.ref a), some (.ref h), o, o2, none]) ⟨hh1, none, none, rfl⟩ (fun i σ' H' _ _ => trivial) ?_ ?_
    · rintro i x σ' H' H2 hi ⟨hh, o, o2, rfl⟩ ⟨rfl, rfl⟩
      walk_at "dd"
      refine k_seq (by simp) fun l1 hl1 el1 => ?_
      walk_at "dd"
      refine ⟨h, cc, l1, [999983, 10007, 101, 31, 7], rfl, hh.ex el1, upd_same, by simp, by simp, fun p H3 hp e3 hh3 => ?_⟩
      have hP : IsPr p ∧ 5 ≤ p := by
        simp only [List.mem_cons, List.not_mem_nil, or_false] at hp
        rcases hp with rfl | rfl | rfl | rfl | rfl
        · exact ⟨pr_999983, by decide⟩
        · exact ⟨pr_10007, by decide⟩
        · exact ⟨pr_101, by decide⟩
        · exact ⟨pr_31, by decide⟩
        · exact ⟨pr_7, by decide⟩
      walk_at "dd"
      refine ⟨h, cc, _, rfl, hh3, by decide, by decide, fun r H4 r0 r1 e4 hh4 => ?_⟩
      walk_at "dd"
      refine k_seq (by simp) fun l2 hl2 el2 => ?_
      walk_at "dd"
      refine ⟨h, cc, l2, [6, 1 + r, 2], rfl, hh4.ex el2, upd_same, by simp, by simp, fun m H5 hm e5 hh5 => ?_⟩
      walk_at "dd"
      refine ⟨h, cc, p, m, rfl, hh5, hP.1, hP.2, ?_, ?_, fun H6 e6 hh6 => ?_⟩
      · simp only [List.mem_cons, List.not_mem_nil, or_false] at hm
        omega
      · simp only [List.mem_cons, List.not_mem_nil, or_false] at hm
        omega
      walk_at "dd"
      refine k_ifN rfl ?_
      walk_at "dd"
      refine ⟨h, cc, p, rfl, hh6, hP.1, fun H7 e7 hh7 => ?_⟩
      walk_at "dd"
      refine k_or (fun z => nomatch z) fun _ => ?_
      walk_at "dd"
      refine ⟨h, cc, p, rfl, hh7, hP.1, fun H8 e8 hh8 => ?_⟩
      walk_at "dd"
      refine k_ifN rfl ?_
      refine d_next ?_
      exact ⟨hh8, _, _, rfl⟩
    · rintro σ' H2 ⟨hh, o, o2, rfl⟩
      walk_at "dd"
      refine k_seq (by simp) fun t0 ht0 et0 => ?_
      walk_at "dd"
      refine ⟨7, false, t0, [], rfl, pr_7, .inl (.inl upd_same), fun x hx => absurd hx List.not_mem_nil, by decide, fun s1 H3 e3 hs1 => ?_⟩
      rw [rule_zero fun k => rfl] at hs1
      walk_at "dd"
      refine k_seq (by simp) fun t1 ht1 et1 => ?_
      walk_at "dd"
      refine d_repT (xs := [.int 0]) (.inl (.inl upd_same)) (by decide) (by decide) (by simp) fun za H4 e4 hza => ?_
      rw [rep_one] at hza
      walk_at "dd"
      have z200 : ∀ k, cf (List.replicate (Int.toNat 200) (0 : Int)) k = 0 := fun k => by
        by_cases c : k < 200
        · apply cf_of
          rw [List.getElem?_replicate, if_pos (by simpa using c)]
        · exact cf_ge (by simp; omega)
      refine ⟨7, false, za, _, rfl, pr_7, hza, fun x hx => by have := (List.mem_replicate.mp hx).2; omega, by rw [List.length_replicate]; decide, fun s2 H5 e5 hs2 => ?_⟩
      rw [rule_zero z200] at hs2
      walk_at "dd"
      refine k_seq (by simp) fun t2 ht2 et2 => ?_
      walk_at "dd"
      refine d_repT (xs := [.int 0]) (.inl (.inl upd_same)) (by decide) (by decide) (by simp) fun zb H6 e6 hzb => ?_
      rw [rep_one] at hzb
      walk_at "dd"
      refine k_seq (by simp) fun t3 ht3 et3 => ?_
      walk_at "dd"
      refine d_catU (ys := [(1 : Int)].map .int) (ex_t et3 hzb) (.inl (.inl upd_same)) (by simp) fun zc H7 e7 hzc => ?_
      rw [← List.map_append] at hzc
      walk_at "dd"
      have lvl : Vl 7 (List.replicate (Int.toNat 9) (0 : Int) ++ [1]) := fun x hx => by
        rcases List.mem_append.mp hx with z | z
        · have := (List.mem_replicate.mp z).2
          omega
        · rw [List.mem_singleton] at z
          omega
      have lrl : (ruleB 7 (List.replicate (Int.toNat 9) (0 : Int) ++ [1])).length = 11 := rule_late pr_7 (n := 9) rfl (fun k hk => by
        apply cf_of
        rw [List.getElem?_append_left (by simpa using hk), List.getElem?_replicate, if_pos (by simpa using hk)]) rfl
      refine ⟨7, false, zc, _, rfl, pr_7, hzc, lvl, by decide, fun s3 H8 e8 hs3 => ?_⟩
      walk_at "dd"
      refine d_lenT hs3 ?_
      rw [List.length_map, lrl]
      walk_at "dd"
      refine k_seq (by simp) fun td htd etd => ?_
      have e38 := (et1.trans (e4.trans e5)).trans ((et2.trans e6).trans ((et3.trans e7).trans e8))
      have e58 := (et2.trans e6).trans ((et3.trans e7).trans e8)
      walk_at "dd"
      refine k_seq (by simp) fun u1 hu1 eu1 => ?_
      walk_at "dd"
      refine k_seq (by simp) fun u2 hu2 eu2 => ?_
      walk_at "dd"
      refine k_seq (by simp) fun u3 hu3 eu3 => ?_
      walk_at "dd"
      have eu := eu1.trans (eu2.trans eu3)
      refine ⟨.ref td, .ref u3, .list [.tuple ([(1 : Int)].map PyData.int), .tuple ([(1 : Int)].map PyData.int), .int 11], rfl, ?_, ?_, .inl ⟨_, rfl⟩, .inl ⟨_, rfl⟩, ?_, ?_⟩
      · exact .lst (.inl (.inl (eu _ _ upd_same))) (.cons (.tup (ex_t (e38.trans (etd.trans eu)) hs1) (dp_ints _)) (.cons (.tup (ex_t (e58.trans (etd.trans eu)) hs2) (dp_ints _)) (.cons (.int 11) .nil)))
      · exact .lst (.inl (.inl upd_same)) (.cons (.tup (.inl (.inl ((eu2.trans eu3) _ _ upd_same))) (dp_ints [1])) (.cons (.tup (.inl (.inl (eu3 _ _ upd_same))) (dp_ints [1])) (.cons (.int 11) .nil)))
      · exact ⟨rfl, rfl, by decide, by decide +kernel⟩
      refine k_andV (fun _ => ?_) (fun z => nomatch z)
      walk_at "dd"
      refine k_seq (by simp) fun t5 ht5 et5 => ?_
      walk_at "dd"
      refine d_repT (xs := [.int 0]) (.inl (.inl upd_same)) (by decide) (by decide) (by simp) fun zd H9 e9 hzd => ?_
      rw [rep_one] at hzd
      walk_at "dd"
      refine k_seq (by simp) fun t6 ht6 et6 => ?_
      walk_at "dd"
      refine d_catU (ys := [(1 : Int)].map .int) (ex_t et6 hzd) (.inl (.inl upd_same)) (by simp) fun ze H10 e10 hze => ?_
      rw [← List.map_append] at hze
      walk_at "dd"
      refine ⟨7, false, ze, _, rfl, pr_7, hze, lvl, by decide, fun H11 e11 => ?_⟩
      rw [lrl]
      walk_at "dd"
      exact q _
end
theorem fun_of {K : PySem.W.Frag} {fa : List He.Fa} {fn : List He.FnD} (c : He.SaysE fa fn K) (i : Nat) {at_ : Str × Option Str} {x q : Str} {st : Stmt} (h : fn[i]? = some ⟨at_, x, q, defArgs st, defBody st, defScope st⟩) (hk : PySem.W.keepIn K (.ref (He.fAd K at_)) = true) :
    ∃ fd, Fun K x q st (He.fAd K at_) fd := by
  obtain ⟨oc, od, osl, kV, doc, pm, an, cdv, ct, l, c⟩ := c.def_ i h
  exact ⟨_, fun_mk l c hk⟩
def fa : List He.Fa := ([.keep "is_integer", .glo "is_integer", .keep "is_within", .glo "is_within", .keep "is_listed", .glo "is_listed", .keep "check_number", .glo "check_number", .keep "prime", .glo "prime", .keep "is_clock", .glo "is_clock", .keep "check_clock", .glo "check_clock", .keep "inverse_of", .glo "inverse_of", .keep "dot", .glo "dot", .keep "is_polynomial", .glo "is_polynomial", .keep "check_polynomial", .glo "check_polynomial", .keep "cut_off", .glo "cut_off", .keep "product_poly", .glo "product_poly", .keep "over_of", .glo "over_of", .keep "value_of", .glo "value_of"] : List He.Fa) ++ ([.keep "poly_at", .glo "poly_at", .keep "turned_about", .glo "turned_about", .keep "check_values", .glo "check_values", .keep "check_rule", .glo "check_rule", .keep "does_obey", .glo "does_obey", .keep "obeys", .glo "obeys", .keep "check_first", .glo "check_first", .meth "Guessing" "__init__", .mkr "Guessing", .glo "Guessing", .meth "Guessing" "off_by", .meth "Guessing" "less_elder", .meth "Guessing" "take", .meth "Guessing" "told", .keep "rule_of", .glo "rule_of", .keep "shortest_rule", .glo "shortest_rule", .keep "is_only_rule", .glo "is_only_rule", .keep "power_over", .glo "power_over", .keep "value_at"] : List He.Fa) ++ ([.glo "value_at", .keep "continued", .glo "continued", .keep "_law_hand", .glo "_law_hand", .keep "_law_draw", .glo "_law_draw", .keep "_law_any", .glo "_law_any", .keep "_law_is", .glo "_law_is", .keep "_law_power", .glo "_law_power", .keep "_law_times", .glo "_law_times", .keep "_law_at", .glo "_law_at", .keep "_law_unlike", .glo "_law_unlike", .keep "_law_is_powers_right", .glo "_law_is_powers_right", .keep "_law_is_places_right", .glo "_law_is_places_right", .keep "_law_is_round_right", .glo "_law_is_round_right", .keep "law", .free "abs", .free "all", .free "bool", .free "enumerate"] : List He.Fa) ++ ([.free "int", .free "isinstance", .free "len", .free "list", .free "max", .free "min", .free "range", .free "repr", .free "sum", .free "tuple", .free "zip", .int "MOST_HOURS" (1000000), .int "MOST_VALUES" (200), .int "MOST_RULE" (30), .int "MOST_PLACE" (1000000000000000000), .cls "Guessing", .noat "Guessing" "p", .noat "Guessing" "rule", .noat "Guessing" "long", .noat "Guessing" "elder", .noat "Guessing" "ahead", .noat "Guessing" "size", .glo "law"] : List He.Fa)
def fn : List He.FnD := ([⟨("is_integer", none), "is_integer", "is_integer", defArgs s_is_integer, defBody s_is_integer, defScope s_is_integer⟩, ⟨("is_within", none), "is_within", "is_within", defArgs s_is_within, defBody s_is_within, defScope s_is_within⟩, ⟨("is_listed", none), "is_listed", "is_listed", defArgs s_is_listed, defBody s_is_listed, defScope s_is_listed⟩, ⟨("check_number", none), "check_number", "check_number", defArgs s_check_number, defBody s_check_number, defScope s_check_number⟩, ⟨("prime", none), "prime", "prime", defArgs s_prime, defBody s_prime, defScope s_prime⟩, ⟨("is_clock", none), "is_clock", "is_clock", defArgs s_is_clock, defBody s_is_clock, defScope s_is_clock⟩, ⟨("check_clock", none), "check_clock", "check_clock", defArgs s_check_clock, defBody s_check_clock, defScope s_check_clock⟩, ⟨("inverse_of", none), "inverse_of", "inverse_of", defArgs s_inverse_of, defBody s_inverse_of, defScope s_inverse_of⟩, ⟨("dot", none), "dot", "dot", defArgs s_dot, defBody s_dot, defScope s_dot⟩, ⟨("is_polynomial", none), "is_polynomial", "is_polynomial", defArgs s_is_polynomial, defBody s_is_polynomial, defScope s_is_polynomial⟩, ⟨("check_polynomial", none), "check_polynomial", "check_polynomial", defArgs s_check_polynomial, defBody s_check_polynomial, defScope s_check_polynomial⟩, ⟨("cut_off", none), "cut_off", "cut_off", defArgs s_cut_off, defBody s_cut_off, defScope s_cut_off⟩, ⟨("product_poly", none), "product_poly", "product_poly", defArgs s_product_poly, defBody s_product_poly, defScope s_product_poly⟩, ⟨("over_of", none), "over_of", "over_of", defArgs s_over_of, defBody s_over_of, defScope s_over_of⟩, ⟨("value_of", none), "value_of", "value_of", defArgs s_value_of, defBody s_value_of, defScope s_value_of⟩, ⟨("poly_at", none), "poly_at", "poly_at", defArgs s_poly_at, defBody s_poly_at, defScope s_poly_at⟩, ⟨("turned_about", none), "turned_about", "turned_about", defArgs s_turned_about, defBody s_turned_about, defScope s_turned_about⟩, ⟨("check_values", none), "check_values", "check_values", defArgs s_check_values, defBody s_check_values, defScope s_check_values⟩, ⟨("check_rule", none), "check_rule", "check_rule", defArgs s_check_rule, defBody s_check_rule, defScope s_check_rule⟩, ⟨("does_obey", none), "does_obey", "does_obey", defArgs s_does_obey, defBody s_does_obey, defScope s_does_obey⟩, ⟨("obeys", none), "obeys", "obeys", defArgs s_obeys, defBody s_obeys, defScope s_obeys⟩, ⟨("check_first", none), "check_first", "check_first", defArgs s_check_first, defBody s_check_first, defScope s_check_first⟩, ⟨("Guessing", some "__init__"), "__init__", "Guessing.__init__", defArgs s_Guessing___init__, defBody s_Guessing___init__, defScope s_Guessing___init__⟩, ⟨("Guessing", some "off_by"), "off_by", "Guessing.off_by", defArgs s_Guessing_off_by, defBody s_Guessing_off_by, defScope s_Guessing_off_by⟩, ⟨("Guessing", some "less_elder"), "less_elder", "Guessing.less_elder", defArgs s_Guessing_less_elder, defBody s_Guessing_less_elder, defScope s_Guessing_less_elder⟩, ⟨("Guessing", some "take"), "take", "Guessing.take", defArgs s_Guessing_take, defBody s_Guessing_take, defScope s_Guessing_take⟩, ⟨("Guessing", some "told"), "told", "Guessing.told", defArgs s_Guessing_told, defBody s_Guessing_told, defScope s_Guessing_told⟩, ⟨("rule_of", none), "rule_of", "rule_of", defArgs s_rule_of, defBody s_rule_of, defScope s_rule_of⟩, ⟨("shortest_rule", none), "shortest_rule", "shortest_rule", defArgs s_shortest_rule, defBody s_shortest_rule, defScope s_shortest_rule⟩, ⟨("is_only_rule", none), "is_only_rule", "is_only_rule", defArgs s_is_only_rule, defBody s_is_only_rule, defScope s_is_only_rule⟩] : List He.FnD) ++ ([⟨("power_over", none), "power_over", "power_over", defArgs s_power_over, defBody s_power_over, defScope s_power_over⟩, ⟨("value_at", none), "value_at", "value_at", defArgs s_value_at, defBody s_value_at, defScope s_value_at⟩, ⟨("continued", none), "continued", "continued", defArgs s_continued, defBody s_continued, defScope s_continued⟩, ⟨("_law_hand", none), "_law_hand", "_law_hand", defArgs s_law_hand, defBody s_law_hand, defScope s_law_hand⟩, ⟨("_law_draw", none), "_law_draw", "_law_draw", defArgs s_law_draw, defBody s_law_draw, defScope s_law_draw⟩, ⟨("_law_any", none), "_law_any", "_law_any", defArgs s_law_any, defBody s_law_any, defScope s_law_any⟩, ⟨("_law_is", none), "_law_is", "_law_is", defArgs s_law_is, defBody s_law_is, defScope s_law_is⟩, ⟨("_law_power", none), "_law_power", "_law_power", defArgs s_law_power, defBody s_law_power, defScope s_law_power⟩, ⟨("_law_times", none), "_law_times", "_law_times", defArgs s_law_times, defBody s_law_times, defScope s_law_times⟩, ⟨("_law_at", none), "_law_at", "_law_at", defArgs s_law_at, defBody s_law_at, defScope s_law_at⟩, ⟨("_law_unlike", none), "_law_unlike", "_law_unlike", defArgs s_law_unlike, defBody s_law_unlike, defScope s_law_unlike⟩, ⟨("_law_is_powers_right", none), "_law_is_powers_right", "_law_is_powers_right", defArgs s_law_is_powers_right, defBody s_law_is_powers_right, defScope s_law_is_powers_right⟩, ⟨("_law_is_places_right", none), "_law_is_places_right", "_law_is_places_right", defArgs s_law_is_places_right, defBody s_law_is_places_right, defScope s_law_is_places_right⟩, ⟨("_law_is_round_right", none), "_law_is_round_right", "_law_is_round_right", defArgs s_law_is_round_right, defBody s_law_is_round_right, defScope s_law_is_round_right⟩, ⟨("law", none), "law", "law", defArgs s_law, defBody s_law, defScope s_law⟩] : List He.FnD)
theorem all_mk {P : Program} {w : World} {K : PySem.W.Frag} {h : Heap} {mg : Str → Option Value} {f : Addr} (X : K.In h) (G : h.Ns mainGlobals mg) (hfa : mg "law" = some (.ref f)) (c : He.SaysE fa fn K) :
    ∃ fd : FuncData, (∀ (s : Shared) (u : Value), BindsTo s fd ⟨[u], []⟩ [("script", u)]) ∧ ∀ base : Heap, K.In base → base.Ns mainGlobals mg → FnG P w K mg base 8 f fd ["script"] (sp_law K) := by
  have e := hfa.symm.trans (He.glo_ok X G (c.fact 112 (f := .glo "law") rfl))
  cases e
  have B : Bns mg := ⟨He.free_ok X G (c.fact 86 (f := .free "abs") rfl), He.free_ok X G (c.fact 87 (f := .free "all") rfl), He.free_ok X G (c.fact 88 (f := .free "bool") rfl), He.free_ok X G (c.fact 89 (f := .free "enumerate") rfl), He.free_ok X G (c.fact 90 (f := .free "int") rfl), He.free_ok X G (c.fact 91 (f := .free "isinstance") rfl), He.free_ok X G (c.fact 92 (f := .free "len") rfl), He.free_ok X G (c.fact 93 (f := .free "list") rfl), He.free_ok X G (c.fact 94 (f := .free "max") rfl), He.free_ok X G (c.fact 95 (f := .free "min") rfl), He.free_ok X G (c.fact 96 (f := .free "range") rfl), He.free_ok X G (c.fact 97 (f := .free "repr") rfl), He.free_ok X G (c.fact 98 (f := .free "sum") rfl), He.free_ok X G (c.fact 99 (f := .free "tuple") rfl), He.free_ok X G (c.fact 100 (f := .free "zip") rfl)⟩
  obtain ⟨t_MOST_HOURS, g_MOST_HOURS⟩ := He.int_ok X G (c.fact 101 (f := .int "MOST_HOURS" (1000000)) rfl)
  obtain ⟨t_MOST_VALUES, g_MOST_VALUES⟩ := He.int_ok X G (c.fact 102 (f := .int "MOST_VALUES" (200)) rfl)
  obtain ⟨t_MOST_RULE, g_MOST_RULE⟩ := He.int_ok X G (c.fact 103 (f := .int "MOST_RULE" (30)) rfl)
  obtain ⟨t_MOST_PLACE, g_MOST_PLACE⟩ := He.int_ok X G (c.fact 104 (f := .int "MOST_PLACE" (1000000000000000000)) rfl)
  have T_Guessing : TGuess K (He.ga K "Guessing") := ⟨He.cls_ok (c.fact 105 (f := .cls "Guessing") rfl), He.noat_ok (c.fact 106 (f := .noat "Guessing" "p") rfl), He.noat_ok (c.fact 107 (f := .noat "Guessing" "rule") rfl), He.noat_ok (c.fact 108 (f := .noat "Guessing" "long") rfl), He.noat_ok (c.fact 109 (f := .noat "Guessing" "elder") rfl), He.noat_ok (c.fact 110 (f := .noat "Guessing" "ahead") rfl), He.noat_ok (c.fact 111 (f := .noat "Guessing" "size") rfl)⟩
  obtain ⟨fd_is_integer, F_is_integer⟩ := fun_of c 0 (st := s_is_integer) rfl (He.keep_ok (c.fact 0 (f := .keep "is_integer") rfl))
  have b_is_integer : L2.Binds K fd_is_integer P_is_integer [] := F_is_integer.binds fun _ _ _ _ _ _ us hl => match us, hl with | [_], _ => rfl
  obtain ⟨fd_is_within, F_is_within⟩ := fun_of c 1 (st := s_is_within) rfl (He.keep_ok (c.fact 2 (f := .keep "is_within") rfl))
  have b_is_within : L2.Binds K fd_is_within P_is_within [] := F_is_within.binds fun _ _ _ _ _ _ us hl => match us, hl with | [_, _, _], _ => rfl
  obtain ⟨fd_is_listed, F_is_listed⟩ := fun_of c 2 (st := s_is_listed) rfl (He.keep_ok (c.fact 4 (f := .keep "is_listed") rfl))
  have b_is_listed : L2.Binds K fd_is_listed P_is_listed [] := F_is_listed.binds fun _ _ _ _ _ _ us hl => match us, hl with | [_], _ => rfl
  obtain ⟨fd_check_number, F_check_number⟩ := fun_of c 3 (st := s_check_number) rfl (He.keep_ok (c.fact 6 (f := .keep "check_number") rfl))
  have b_check_number : L2.Binds K fd_check_number P_check_number [] := F_check_number.binds fun _ _ _ _ _ _ us hl => match us, hl with | [_, _, _], _ => rfl
  obtain ⟨fd_prime, F_prime⟩ := fun_of c 4 (st := s_prime) rfl (He.keep_ok (c.fact 8 (f := .keep "prime") rfl))
  have b_prime : L2.Binds K fd_prime P_prime [] := F_prime.binds fun _ _ _ _ _ _ us hl => match us, hl with | [_], _ => rfl
  obtain ⟨fd_is_clock, F_is_clock⟩ := fun_of c 5 (st := s_is_clock) rfl (He.keep_ok (c.fact 10 (f := .keep "is_clock") rfl))
  have b_is_clock : L2.Binds K fd_is_clock P_is_clock [] := F_is_clock.binds fun _ _ _ _ _ _ us hl => match us, hl with | [_], _ => rfl
  obtain ⟨fd_check_clock, F_check_clock⟩ := fun_of c 6 (st := s_check_clock) rfl (He.keep_ok (c.fact 12 (f := .keep "check_clock") rfl))
  have b_check_clock : L2.Binds K fd_check_clock P_check_clock [] := F_check_clock.binds fun _ _ _ _ _ _ us hl => match us, hl with | [_], _ => rfl
  obtain ⟨fd_inverse_of, F_inverse_of⟩ := fun_of c 7 (st := s_inverse_of) rfl (He.keep_ok (c.fact 14 (f := .keep "inverse_of") rfl))
  have b_inverse_of : L2.Binds K fd_inverse_of P_inverse_of [] := F_inverse_of.binds fun _ _ _ _ _ _ us hl => match us, hl with | [_, _], _ => rfl
  obtain ⟨fd_dot, F_dot⟩ := fun_of c 8 (st := s_dot) rfl (He.keep_ok (c.fact 16 (f := .keep "dot") rfl))
  have b_dot : L2.Binds K fd_dot P_dot [] := F_dot.binds fun _ _ _ _ _ _ us hl => match us, hl with | [_, _, _], _ => rfl
  obtain ⟨fd_is_polynomial, F_is_polynomial⟩ := fun_of c 9 (st := s_is_polynomial) rfl (He.keep_ok (c.fact 18 (f := .keep "is_polynomial") rfl))
  have b_is_polynomial : L2.Binds K fd_is_polynomial P_is_polynomial [] := F_is_polynomial.binds fun _ _ _ _ _ _ us hl => match us, hl with | [_, _], _ => rfl
  obtain ⟨fd_check_polynomial, F_check_polynomial⟩ := fun_of c 10 (st := s_check_polynomial) rfl (He.keep_ok (c.fact 20 (f := .keep "check_polynomial") rfl))
  have b_check_polynomial : L2.Binds K fd_check_polynomial P_check_polynomial [] := F_check_polynomial.binds fun _ _ _ _ _ _ us hl => match us, hl with | [_, _], _ => rfl
  obtain ⟨fd_cut_off, F_cut_off⟩ := fun_of c 11 (st := s_cut_off) rfl (He.keep_ok (c.fact 22 (f := .keep "cut_off") rfl))
  have b_cut_off : L2.Binds K fd_cut_off P_cut_off [] := F_cut_off.binds fun _ _ _ _ _ _ us hl => match us, hl with | [_], _ => rfl
  obtain ⟨fd_product_poly, F_product_poly⟩ := fun_of c 12 (st := s_product_poly) rfl (He.keep_ok (c.fact 24 (f := .keep "product_poly") rfl))
  have b_product_poly : L2.Binds K fd_product_poly P_product_poly [] := F_product_poly.binds fun _ _ _ _ _ _ us hl => match us, hl with | [_, _, _], _ => rfl
  obtain ⟨fd_over_of, F_over_of⟩ := fun_of c 13 (st := s_over_of) rfl (He.keep_ok (c.fact 26 (f := .keep "over_of") rfl))
  have b_over_of : L2.Binds K fd_over_of P_over_of [] := F_over_of.binds fun _ _ _ _ _ _ us hl => match us, hl with | [_, _, _], _ => rfl
  obtain ⟨fd_value_of, F_value_of⟩ := fun_of c 14 (st := s_value_of) rfl (He.keep_ok (c.fact 28 (f := .keep "value_of") rfl))
  have b_value_of : L2.Binds K fd_value_of P_value_of [] := F_value_of.binds fun _ _ _ _ _ _ us hl => match us, hl with | [_, _, _], _ => rfl
  obtain ⟨fd_poly_at, F_poly_at⟩ := fun_of c 15 (st := s_poly_at) rfl (He.keep_ok (c.fact 30 (f := .keep "poly_at") rfl))
  have b_poly_at : L2.Binds K fd_poly_at P_poly_at [] := F_poly_at.binds fun _ _ _ _ _ _ us hl => match us, hl with | [_, _, _], _ => rfl
  obtain ⟨fd_turned_about, F_turned_about⟩ := fun_of c 16 (st := s_turned_about) rfl (He.keep_ok (c.fact 32 (f := .keep "turned_about") rfl))
  have b_turned_about : L2.Binds K fd_turned_about P_turned_about [] := F_turned_about.binds fun _ _ _ _ _ _ us hl => match us, hl with | [_, _], _ => rfl
  obtain ⟨fd_check_values, F_check_values⟩ := fun_of c 17 (st := s_check_values) rfl (He.keep_ok (c.fact 34 (f := .keep "check_values") rfl))
  have b_check_values : L2.Binds K fd_check_values P_check_values [] := F_check_values.binds fun _ _ _ _ _ _ us hl => match us, hl with | [_, _], _ => rfl
  obtain ⟨fd_check_rule, F_check_rule⟩ := fun_of c 18 (st := s_check_rule) rfl (He.keep_ok (c.fact 36 (f := .keep "check_rule") rfl))
  have b_check_rule : L2.Binds K fd_check_rule P_check_rule [] := F_check_rule.binds fun _ _ _ _ _ _ us hl => match us, hl with | [_, _], _ => rfl
  obtain ⟨fd_does_obey, F_does_obey⟩ := fun_of c 19 (st := s_does_obey) rfl (He.keep_ok (c.fact 38 (f := .keep "does_obey") rfl))
  have b_does_obey : L2.Binds K fd_does_obey P_does_obey [] := F_does_obey.binds fun _ _ _ _ _ _ us hl => match us, hl with | [_, _, _], _ => rfl
  obtain ⟨fd_obeys, F_obeys⟩ := fun_of c 20 (st := s_obeys) rfl (He.keep_ok (c.fact 40 (f := .keep "obeys") rfl))
  have b_obeys : L2.Binds K fd_obeys P_obeys [] := F_obeys.binds fun _ _ _ _ _ _ us hl => match us, hl with | [_, _, _], _ => rfl
  obtain ⟨fd_check_first, F_check_first⟩ := fun_of c 21 (st := s_check_first) rfl (He.keep_ok (c.fact 42 (f := .keep "check_first") rfl))
  have b_check_first : L2.Binds K fd_check_first P_check_first [] := F_check_first.binds fun _ _ _ _ _ _ us hl => match us, hl with | [_, _, _], _ => rfl
  obtain ⟨fd_g_init, F_g_init⟩ := fun_of c 22 (st := s_Guessing___init__) rfl ((He.meth_ok (c.fact 44 (f := .meth "Guessing" "__init__") rfl)).kp)
  have b_g_init : L2.Binds K fd_g_init P_Guessing___init__ [] := F_g_init.binds fun _ _ _ _ _ _ us hl => match us, hl with | [_, _], _ => rfl
  obtain ⟨fd_g_off_by, F_g_off_by⟩ := fun_of c 23 (st := s_Guessing_off_by) rfl ((He.meth_ok (c.fact 47 (f := .meth "Guessing" "off_by") rfl)).kp)
  have b_g_off_by : L2.Binds K fd_g_off_by P_Guessing_off_by [] := F_g_off_by.binds fun _ _ _ _ _ _ us hl => match us, hl with | [_, _, _], _ => rfl
  obtain ⟨fd_g_less_elder, F_g_less_elder⟩ := fun_of c 24 (st := s_Guessing_less_elder) rfl ((He.meth_ok (c.fact 48 (f := .meth "Guessing" "less_elder") rfl)).kp)
  have b_g_less_elder : L2.Binds K fd_g_less_elder P_Guessing_less_elder [] := F_g_less_elder.binds fun _ _ _ _ _ _ us hl => match us, hl with | [_, _], _ => rfl
  obtain ⟨fd_g_take, F_g_take⟩ := fun_of c 25 (st := s_Guessing_take) rfl ((He.meth_ok (c.fact 49 (f := .meth "Guessing" "take") rfl)).kp)
  have b_g_take : L2.Binds K fd_g_take P_Guessing_take [] := F_g_take.binds fun _ _ _ _ _ _ us hl => match us, hl with | [_, _, _], _ => rfl
  obtain ⟨fd_g_told, F_g_told⟩ := fun_of c 26 (st := s_Guessing_told) rfl ((He.meth_ok (c.fact 50 (f := .meth "Guessing" "told") rfl)).kp)
  have b_g_told : L2.Binds K fd_g_told P_Guessing_told [] := F_g_told.binds fun _ _ _ _ _ _ us hl => match us, hl with | [_], _ => rfl
  obtain ⟨fd_rule_of, F_rule_of⟩ := fun_of c 27 (st := s_rule_of) rfl (He.keep_ok (c.fact 51 (f := .keep "rule_of") rfl))
  have b_rule_of : L2.Binds K fd_rule_of P_rule_of [] := F_rule_of.binds fun _ _ _ _ _ _ us hl => match us, hl with | [_, _], _ => rfl
  obtain ⟨fd_shortest_rule, F_shortest_rule⟩ := fun_of c 28 (st := s_shortest_rule) rfl (He.keep_ok (c.fact 53 (f := .keep "shortest_rule") rfl))
  have b_shortest_rule : L2.Binds K fd_shortest_rule P_shortest_rule [] := F_shortest_rule.binds fun _ _ _ _ _ _ us hl => match us, hl with | [_, _], _ => rfl
  obtain ⟨fd_is_only_rule, F_is_only_rule⟩ := fun_of c 29 (st := s_is_only_rule) rfl (He.keep_ok (c.fact 55 (f := .keep "is_only_rule") rfl))
  have b_is_only_rule : L2.Binds K fd_is_only_rule P_is_only_rule [] := F_is_only_rule.binds fun _ _ _ _ _ _ us hl => match us, hl with | [_, _], _ => rfl
  obtain ⟨fd_power_over, F_power_over⟩ := fun_of c 30 (st := s_power_over) rfl (He.keep_ok (c.fact 57 (f := .keep "power_over") rfl))
  have b_power_over : L2.Binds K fd_power_over P_power_over [] := F_power_over.binds fun _ _ _ _ _ _ us hl => match us, hl with | [_, _, _], _ => rfl
  obtain ⟨fd_value_at, F_value_at⟩ := fun_of c 31 (st := s_value_at) rfl (He.keep_ok (c.fact 59 (f := .keep "value_at") rfl))
  have b_value_at : L2.Binds K fd_value_at P_value_at [] := F_value_at.binds fun _ _ _ _ _ _ us hl => match us, hl with | [_, _, _, _], _ => rfl
  obtain ⟨fd_continued, F_continued⟩ := fun_of c 32 (st := s_continued) rfl (He.keep_ok (c.fact 61 (f := .keep "continued") rfl))
  have b_continued : L2.Binds K fd_continued P_continued [] := F_continued.binds fun _ _ _ _ _ _ us hl => match us, hl with | [_, _, _, _], _ => rfl
  obtain ⟨fd_law_hand, F_law_hand⟩ := fun_of c 33 (st := s_law_hand) rfl (He.keep_ok (c.fact 63 (f := .keep "_law_hand") rfl))
  have b_law_hand : L2.Binds K fd_law_hand P_law_hand [] := F_law_hand.binds fun _ _ _ _ _ _ us hl => match us, hl with | [_], _ => rfl
  obtain ⟨fd_law_draw, F_law_draw⟩ := fun_of c 34 (st := s_law_draw) rfl (He.keep_ok (c.fact 65 (f := .keep "_law_draw") rfl))
  have b_law_draw : L2.Binds K fd_law_draw P_law_draw [] := F_law_draw.binds fun _ _ _ _ _ _ us hl => match us, hl with | [_, _], _ => rfl
  obtain ⟨fd_law_any, F_law_any⟩ := fun_of c 35 (st := s_law_any) rfl (He.keep_ok (c.fact 67 (f := .keep "_law_any") rfl))
  have b_law_any : L2.Binds K fd_law_any P_law_any [] := F_law_any.binds fun _ _ _ _ _ _ us hl => match us, hl with | [_, _], _ => rfl
  obtain ⟨fd_law_is, F_law_is⟩ := fun_of c 36 (st := s_law_is) rfl (He.keep_ok (c.fact 69 (f := .keep "_law_is") rfl))
  have b_law_is : L2.Binds K fd_law_is P_law_is [] := F_law_is.binds fun _ _ _ _ _ _ us hl => match us, hl with | [_, _], _ => rfl
  obtain ⟨fd_law_power, F_law_power⟩ := fun_of c 37 (st := s_law_power) rfl (He.keep_ok (c.fact 71 (f := .keep "_law_power") rfl))
  have b_law_power : L2.Binds K fd_law_power P_law_power [] := F_law_power.binds fun _ _ _ _ _ _ us hl => match us, hl with | [_, _, _], _ => rfl
  obtain ⟨fd_law_times, F_law_times⟩ := fun_of c 38 (st := s_law_times) rfl (He.keep_ok (c.fact 73 (f := .keep "_law_times") rfl))
  have b_law_times : L2.Binds K fd_law_times P_law_times [] := F_law_times.binds fun _ _ _ _ _ _ us hl => match us, hl with | [_, _, _], _ => rfl
  obtain ⟨fd_law_at, F_law_at⟩ := fun_of c 39 (st := s_law_at) rfl (He.keep_ok (c.fact 75 (f := .keep "_law_at") rfl))
  have b_law_at : L2.Binds K fd_law_at P_law_at [] := F_law_at.binds fun _ _ _ _ _ _ us hl => match us, hl with | [_, _, _, _], _ => rfl
  obtain ⟨fd_law_unlike, F_law_unlike⟩ := fun_of c 40 (st := s_law_unlike) rfl (He.keep_ok (c.fact 77 (f := .keep "_law_unlike") rfl))
  have b_law_unlike : L2.Binds K fd_law_unlike P_law_unlike [] := F_law_unlike.binds fun _ _ _ _ _ _ us hl => match us, hl with | [_, _, _], _ => rfl
  obtain ⟨fd_law_is_powers_right, F_law_is_powers_right⟩ := fun_of c 41 (st := s_law_is_powers_right) rfl (He.keep_ok (c.fact 79 (f := .keep "_law_is_powers_right") rfl))
  have b_law_is_powers_right : L2.Binds K fd_law_is_powers_right P_law_is_powers_right [] := F_law_is_powers_right.binds fun _ _ _ _ _ _ us hl => match us, hl with | [_, _, _], _ => rfl
  obtain ⟨fd_law_is_places_right, F_law_is_places_right⟩ := fun_of c 42 (st := s_law_is_places_right) rfl (He.keep_ok (c.fact 81 (f := .keep "_law_is_places_right") rfl))
  have b_law_is_places_right : L2.Binds K fd_law_is_places_right P_law_is_places_right [] := F_law_is_places_right.binds fun _ _ _ _ _ _ us hl => match us, hl with | [_, _], _ => rfl
  obtain ⟨fd_law_is_round_right, F_law_is_round_right⟩ := fun_of c 43 (st := s_law_is_round_right) rfl (He.keep_ok (c.fact 83 (f := .keep "_law_is_round_right") rfl))
  have b_law_is_round_right : L2.Binds K fd_law_is_round_right P_law_is_round_right [] := F_law_is_round_right.binds fun _ _ _ _ _ _ us hl => match us, hl with | [_, _], _ => rfl
  obtain ⟨fd_law, F_law⟩ := fun_of c 44 (st := s_law) rfl (He.keep_ok (c.fact 85 (f := .keep "law") rfl))
  have b_law : L2.Binds K fd_law P_law [] := F_law.binds fun _ _ _ _ _ _ us hl => match us, hl with | [_], _ => rfl
  refine ⟨fd_law, fun s u => ?_, fun base kb gb => ?_⟩
  · obtain ⟨oc, od, kV, doc, pm, an, cdv, ct, osl, rfl, _, _⟩ := F_law.ex
    exact .of_eq rfl
  have O_is_integer : Own P w K mg base "is_integer" 1 P_is_integer sp_is_integer := ⟨_, fd_is_integer, He.glo_ok X G (c.fact 1 (f := .glo "is_integer") rfl), He.keep_ok (c.fact 0 (f := .keep "is_integer") rfl), b_is_integer, ok_is_integer F_is_integer B⟩
  have O_is_within : Own P w K mg base "is_within" 2 P_is_within sp_is_within := ⟨_, fd_is_within, He.glo_ok X G (c.fact 3 (f := .glo "is_within") rfl), He.keep_ok (c.fact 2 (f := .keep "is_within") rfl), b_is_within, ok_is_within F_is_within O_is_integer⟩
  have O_is_listed : Own P w K mg base "is_listed" 1 P_is_listed (sp_is_listed K) := ⟨_, fd_is_listed, He.glo_ok X G (c.fact 5 (f := .glo "is_listed") rfl), He.keep_ok (c.fact 4 (f := .keep "is_listed") rfl), b_is_listed, ok_is_listed F_is_listed B⟩
  have O_check_number : Own P w K mg base "check_number" 3 P_check_number sp_check_number := ⟨_, fd_check_number, He.glo_ok X G (c.fact 7 (f := .glo "check_number") rfl), He.keep_ok (c.fact 6 (f := .keep "check_number") rfl), b_check_number, ok_check_number F_check_number O_is_within⟩
  have O_prime : Own P w K mg base "prime" 1 P_prime sp_prime := ⟨_, fd_prime, He.glo_ok X G (c.fact 9 (f := .glo "prime") rfl), He.keep_ok (c.fact 8 (f := .keep "prime") rfl), b_prime, ok_prime F_prime⟩
  have O_is_clock : Own P w K mg base "is_clock" 3 P_is_clock sp_is_clock := ⟨_, fd_is_clock, He.glo_ok X G (c.fact 11 (f := .glo "is_clock") rfl), He.keep_ok (c.fact 10 (f := .keep "is_clock") rfl), b_is_clock, ok_is_clock F_is_clock O_is_within O_prime g_MOST_HOURS⟩
  have O_check_clock : Own P w K mg base "check_clock" 4 P_check_clock sp_check_clock := ⟨_, fd_check_clock, He.glo_ok X G (c.fact 13 (f := .glo "check_clock") rfl), He.keep_ok (c.fact 12 (f := .keep "check_clock") rfl), b_check_clock, ok_check_clock F_check_clock O_is_clock⟩
  have O_inverse_of : Own P w K mg base "inverse_of" 1 P_inverse_of sp_inverse_of := ⟨_, fd_inverse_of, He.glo_ok X G (c.fact 15 (f := .glo "inverse_of") rfl), He.keep_ok (c.fact 14 (f := .keep "inverse_of") rfl), b_inverse_of, ok_inverse_of F_inverse_of⟩
  have O_dot : Own P w K mg base "dot" 1 P_dot (sp_dot K) := ⟨_, fd_dot, He.glo_ok X G (c.fact 17 (f := .glo "dot") rfl), He.keep_ok (c.fact 16 (f := .keep "dot") rfl), b_dot, ok_dot F_dot B⟩
  have O_is_polynomial : Own P w K mg base "is_polynomial" 3 P_is_polynomial (sp_is_polynomial K) := ⟨_, fd_is_polynomial, He.glo_ok X G (c.fact 19 (f := .glo "is_polynomial") rfl), He.keep_ok (c.fact 18 (f := .keep "is_polynomial") rfl), b_is_polynomial, ok_is_polynomial F_is_polynomial B O_is_within⟩
  have O_check_polynomial : Own P w K mg base "check_polynomial" 4 P_check_polynomial (sp_check_polynomial K) := ⟨_, fd_check_polynomial, He.glo_ok X G (c.fact 21 (f := .glo "check_polynomial") rfl), He.keep_ok (c.fact 20 (f := .keep "check_polynomial") rfl), b_check_polynomial, ok_check_polynomial F_check_polynomial O_is_polynomial⟩
  have O_cut_off : Own P w K mg base "cut_off" 1 P_cut_off (sp_cut_off K) := ⟨_, fd_cut_off, He.glo_ok X G (c.fact 23 (f := .glo "cut_off") rfl), He.keep_ok (c.fact 22 (f := .keep "cut_off") rfl), b_cut_off, ok_cut_off F_cut_off B⟩
  have O_product_poly : Own P w K mg base "product_poly" 2 P_product_poly (sp_product_poly K) := ⟨_, fd_product_poly, He.glo_ok X G (c.fact 25 (f := .glo "product_poly") rfl), He.keep_ok (c.fact 24 (f := .keep "product_poly") rfl), b_product_poly, ok_product_poly F_product_poly B O_cut_off⟩
  have O_over_of : Own P w K mg base "over_of" 2 P_over_of (sp_over_of K) := ⟨_, fd_over_of, He.glo_ok X G (c.fact 27 (f := .glo "over_of") rfl), He.keep_ok (c.fact 26 (f := .keep "over_of") rfl), b_over_of, ok_over_of F_over_of B O_cut_off O_inverse_of⟩
  have O_value_of : Own P w K mg base "value_of" 1 P_value_of (sp_value_of K) := ⟨_, fd_value_of, He.glo_ok X G (c.fact 29 (f := .glo "value_of") rfl), He.keep_ok (c.fact 28 (f := .keep "value_of") rfl), b_value_of, ok_value_of F_value_of⟩
  have O_poly_at : Own P w K mg base "poly_at" 5 P_poly_at (sp_poly_at K) := ⟨_, fd_poly_at, He.glo_ok X G (c.fact 31 (f := .glo "poly_at") rfl), He.keep_ok (c.fact 30 (f := .keep "poly_at") rfl), b_poly_at, ok_poly_at F_poly_at O_check_clock O_check_polynomial O_is_within O_value_of⟩
  have O_turned_about : Own P w K mg base "turned_about" 5 P_turned_about (sp_turned_about K) := ⟨_, fd_turned_about, He.glo_ok X G (c.fact 33 (f := .glo "turned_about") rfl), He.keep_ok (c.fact 32 (f := .keep "turned_about") rfl), b_turned_about, ok_turned_about F_turned_about O_check_clock O_check_polynomial O_cut_off⟩
  have O_check_values : Own P w K mg base "check_values" 3 P_check_values (sp_check_values K) := ⟨_, fd_check_values, He.glo_ok X G (c.fact 35 (f := .glo "check_values") rfl), He.keep_ok (c.fact 34 (f := .keep "check_values") rfl), b_check_values, ok_check_values F_check_values B O_is_listed O_is_within g_MOST_VALUES⟩
  have O_check_rule : Own P w K mg base "check_rule" 5 P_check_rule (sp_check_rule K) := ⟨_, fd_check_rule, He.glo_ok X G (c.fact 37 (f := .glo "check_rule") rfl), He.keep_ok (c.fact 36 (f := .keep "check_rule") rfl), b_check_rule, ok_check_rule F_check_rule B O_check_clock O_check_polynomial g_MOST_RULE⟩
  have O_does_obey : Own P w K mg base "does_obey" 2 P_does_obey (sp_does_obey K) := ⟨_, fd_does_obey, He.glo_ok X G (c.fact 39 (f := .glo "does_obey") rfl), He.keep_ok (c.fact 38 (f := .keep "does_obey") rfl), b_does_obey, ok_does_obey F_does_obey B O_dot⟩
  have O_obeys : Own P w K mg base "obeys" 6 P_obeys (sp_obeys K) := ⟨_, fd_obeys, He.glo_ok X G (c.fact 41 (f := .glo "obeys") rfl), He.keep_ok (c.fact 40 (f := .keep "obeys") rfl), b_obeys, ok_obeys F_obeys O_check_rule O_check_values O_does_obey⟩
  have O_check_first : Own P w K mg base "check_first" 4 P_check_first (sp_check_first K) := ⟨_, fd_check_first, He.glo_ok X G (c.fact 43 (f := .glo "check_first") rfl), He.keep_ok (c.fact 42 (f := .keep "check_first") rfl), b_check_first, ok_check_first F_check_first B O_check_values⟩
  have M_Guessing : OwnC P w K mg base (He.ga K "Guessing") "Guessing" 1 P_Guessing___init__ (sp_g_init (He.ga K "Guessing")) := ⟨_, fd_g_init, He.mkr_ok (c.fact 45 (f := .mkr "Guessing") rfl), He.glo_ok X G (c.fact 46 (f := .glo "Guessing") rfl), b_g_init, ok_g_init F_g_init T_Guessing⟩
  have M_Guessing_off_by : OwnM P w K mg base (He.ga K "Guessing") "off_by" 1 P_Guessing_off_by (sp_g_off_by K (He.ga K "Guessing")) := ⟨_, fd_g_off_by, He.meth_ok (c.fact 47 (f := .meth "Guessing" "off_by") rfl), b_g_off_by, ok_g_off_by F_g_off_by T_Guessing B⟩
  have M_Guessing_less_elder : OwnM P w K mg base (He.ga K "Guessing") "less_elder" 1 P_Guessing_less_elder (sp_g_less_elder K (He.ga K "Guessing")) := ⟨_, fd_g_less_elder, He.meth_ok (c.fact 48 (f := .meth "Guessing" "less_elder") rfl), b_g_less_elder, ok_g_less_elder F_g_less_elder T_Guessing B⟩
  have M_Guessing_take : OwnM P w K mg base (He.ga K "Guessing") "take" 2 P_Guessing_take (sp_g_take K (He.ga K "Guessing")) := ⟨_, fd_g_take, He.meth_ok (c.fact 49 (f := .meth "Guessing" "take") rfl), b_g_take, ok_g_take F_g_take T_Guessing M_Guessing_off_by M_Guessing_less_elder O_inverse_of⟩
  have M_Guessing_told : OwnM P w K mg base (He.ga K "Guessing") "told" 1 P_Guessing_told (sp_g_told K (He.ga K "Guessing")) := ⟨_, fd_g_told, He.meth_ok (c.fact 50 (f := .meth "Guessing" "told") rfl), b_g_told, ok_g_told F_g_told T_Guessing B⟩
  have O_rule_of : Own P w K mg base "rule_of" 3 P_rule_of (sp_rule_of K) := ⟨_, fd_rule_of, He.glo_ok X G (c.fact 52 (f := .glo "rule_of") rfl), He.keep_ok (c.fact 51 (f := .keep "rule_of") rfl), b_rule_of, ok_rule_of F_rule_of B M_Guessing T_Guessing M_Guessing_take M_Guessing_told⟩
  have O_shortest_rule : Own P w K mg base "shortest_rule" 5 P_shortest_rule (sp_shortest_rule K) := ⟨_, fd_shortest_rule, He.glo_ok X G (c.fact 54 (f := .glo "shortest_rule") rfl), He.keep_ok (c.fact 53 (f := .keep "shortest_rule") rfl), b_shortest_rule, ok_shortest_rule F_shortest_rule B O_check_clock O_check_values O_rule_of⟩
  have O_is_only_rule : Own P w K mg base "is_only_rule" 5 P_is_only_rule (sp_is_only_rule K) := ⟨_, fd_is_only_rule, He.glo_ok X G (c.fact 56 (f := .glo "is_only_rule") rfl), He.keep_ok (c.fact 55 (f := .keep "is_only_rule") rfl), b_is_only_rule, ok_is_only_rule F_is_only_rule B O_check_clock O_check_values O_rule_of⟩
  have O_power_over : Own P w K mg base "power_over" 3 P_power_over (sp_power_over K) := ⟨_, fd_power_over, He.glo_ok X G (c.fact 58 (f := .glo "power_over") rfl), He.keep_ok (c.fact 57 (f := .keep "power_over") rfl), b_power_over, ok_power_over F_power_over O_over_of O_product_poly⟩
  have O_value_at : Own P w K mg base "value_at" 6 P_value_at (sp_value_at K) := ⟨_, fd_value_at, He.glo_ok X G (c.fact 60 (f := .glo "value_at") rfl), He.keep_ok (c.fact 59 (f := .keep "value_at") rfl), b_value_at, ok_value_at F_value_at O_check_rule O_check_first O_check_number O_power_over O_dot g_MOST_PLACE⟩
  have O_continued : Own P w K mg base "continued" 6 P_continued (sp_continued K) := ⟨_, fd_continued, He.glo_ok X G (c.fact 62 (f := .glo "continued") rfl), He.keep_ok (c.fact 61 (f := .keep "continued") rfl), b_continued, ok_continued F_continued B O_check_rule O_check_first O_check_number O_dot g_MOST_VALUES⟩
  have O_law_hand : Own P w K mg base "_law_hand" 1 P_law_hand (sp_law_hand K) := ⟨_, fd_law_hand, He.glo_ok X G (c.fact 64 (f := .glo "_law_hand") rfl), He.keep_ok (c.fact 63 (f := .keep "_law_hand") rfl), b_law_hand, ok_law_hand F_law_hand B⟩
  have O_law_draw : Own P w K mg base "_law_draw" 1 P_law_draw sp_law_draw := ⟨_, fd_law_draw, He.glo_ok X G (c.fact 66 (f := .glo "_law_draw") rfl), He.keep_ok (c.fact 65 (f := .keep "_law_draw") rfl), b_law_draw, ok_law_draw F_law_draw B⟩
  have O_law_any : Own P w K mg base "_law_any" 2 P_law_any sp_law_any := ⟨_, fd_law_any, He.glo_ok X G (c.fact 68 (f := .glo "_law_any") rfl), He.keep_ok (c.fact 67 (f := .keep "_law_any") rfl), b_law_any, ok_law_any F_law_any B O_law_draw⟩
  have O_law_is : OwnG P w K mg base "_law_is" 1 P_law_is (sp_law_is K) := ⟨_, fd_law_is, He.glo_ok X G (c.fact 70 (f := .glo "_law_is") rfl), He.keep_ok (c.fact 69 (f := .keep "_law_is") rfl), b_law_is, ok_law_is F_law_is B⟩
  have O_law_power : Own P w K mg base "_law_power" 1 P_law_power sp_law_power := ⟨_, fd_law_power, He.glo_ok X G (c.fact 72 (f := .glo "_law_power") rfl), He.keep_ok (c.fact 71 (f := .keep "_law_power") rfl), b_law_power, ok_law_power F_law_power B⟩
  have O_law_times : Own P w K mg base "_law_times" 1 P_law_times (sp_law_times K) := ⟨_, fd_law_times, He.glo_ok X G (c.fact 74 (f := .glo "_law_times") rfl), He.keep_ok (c.fact 73 (f := .keep "_law_times") rfl), b_law_times, ok_law_times F_law_times B⟩
  have O_law_at : Own P w K mg base "_law_at" 2 P_law_at (sp_law_at K) := ⟨_, fd_law_at, He.glo_ok X G (c.fact 76 (f := .glo "_law_at") rfl), He.keep_ok (c.fact 75 (f := .keep "_law_at") rfl), b_law_at, ok_law_at F_law_at B O_law_power⟩
  have O_law_unlike : Own P w K mg base "_law_unlike" 2 P_law_unlike sp_law_unlike := ⟨_, fd_law_unlike, He.glo_ok X G (c.fact 78 (f := .glo "_law_unlike") rfl), He.keep_ok (c.fact 77 (f := .keep "_law_unlike") rfl), b_law_unlike, ok_law_unlike F_law_unlike B O_law_draw⟩
  have O_law_is_powers_right : OwnG P w K mg base "_law_is_powers_right" 7 P_law_is_powers_right sp_law_is_powers_right := ⟨_, fd_law_is_powers_right, He.glo_ok X G (c.fact 80 (f := .glo "_law_is_powers_right") rfl), He.keep_ok (c.fact 79 (f := .keep "_law_is_powers_right") rfl), b_law_is_powers_right, ok_law_is_powers_right F_law_is_powers_right B O_law_draw O_law_any O_law_is O_law_power O_law_times O_law_unlike O_law_at O_value_at O_continued O_shortest_rule O_is_only_rule O_obeys O_poly_at O_turned_about⟩
  have O_law_is_places_right : Own P w K mg base "_law_is_places_right" 7 P_law_is_places_right sp_law_is_places_right := ⟨_, fd_law_is_places_right, He.glo_ok X G (c.fact 82 (f := .glo "_law_is_places_right") rfl), He.keep_ok (c.fact 81 (f := .keep "_law_is_places_right") rfl), b_law_is_places_right, ok_law_is_places_right F_law_is_places_right B O_law_draw O_law_times O_value_at⟩
  have O_law_is_round_right : Own P w K mg base "_law_is_round_right" 7 P_law_is_round_right sp_law_is_round_right := ⟨_, fd_law_is_round_right, He.glo_ok X G (c.fact 84 (f := .glo "_law_is_round_right") rfl), He.keep_ok (c.fact 83 (f := .keep "_law_is_round_right") rfl), b_law_is_round_right, ok_law_is_round_right F_law_is_round_right B O_law_draw O_law_any O_value_at O_continued O_shortest_rule O_is_only_rule O_obeys⟩
  exact ok_law F_law B O_law_hand O_law_draw O_law_any O_law_is O_law_is_powers_right O_law_is_places_right O_law_is_round_right O_shortest_rule O_is_only_rule
abbrev R : PySem.W.OpenRow := PySem.W.OpenLaw.row PySem.Challenge.rw_tollhall_k04_whole_rules_of_rows_a_trill
abbrev hk : PySem.W.Hook := He.hookE 5 fa fn
def ob (s : PySem.W.SharedT) : He.Al := He.obsG 5 fa fn (HandSHeadRun.getT s)
theorem ob_eq (s : PySem.W.SharedT) : ob s = hk.obs s.abs := He.obsG_eq (HandSHeadRun.getT_eq s)
def names : List Str := (["__name__", "TollError", "NoClock", "NoNumber", "NoValue", "NoValues", "NoPolynomial", "is_integer", "is_within", "is_listed", "check_number", "MOST_HOURS", "prime", "is_clock", "inverse_of", "dot", "check_clock", "is_polynomial", "check_polynomial", "cut_off", "product_poly", "over_of", "MOST_VALUES", "MOST_RULE", "MOST_PLACE", "check_values", "check_rule", "does_obey", "obeys", "Guessing"] : List Str) ++ (["rule_of", "shortest_rule", "is_only_rule", "check_first", "power_over", "value_at", "continued", "value_of", "poly_at", "turned_about", "_law_hand", "_law_draw", "_law_any", "_law_is", "_law_power", "_law_times", "_law_unlike", "_law_at", "_law_is_powers_right", "_law_is_places_right", "_law_is_round_right"] : List Str)
theorem run (w : World) : HandSHeadRun.RunEq R (PySem.W.view R.prog [57]) hk ob 6000 names w := by
  intro os
  kernel_rfl
end K04
set_option maxHeartbeats 0 in
open PySem PySem.W PySem.Calls PyProof.Rows in
theorem PySem.Challenge.cw_tollhall_k04_whole_rules_of_rows_a_trill_holds : PySem.Challenge.rw_tollhall_k04_whole_rules_of_rows_a_trill.Holds := by
  w_on; o_law
  refine HandSHeadRun.head_any (r := OpenLaw.row PySem.Challenge.rw_tollhall_k04_whole_rules_of_rows_a_trill) (q := view (OpenLaw.row PySem.Challenge.rw_tollhall_k04_whole_rules_of_rows_a_trill).prog [57]) (H := K04.hk) (ob := K04.ob) (M := 6000) (loose := K04.names) (d := HandSHeadRun.topDef (OpenLaw.row PySem.Challenge.rw_tollhall_k04_whole_rules_of_rows_a_trill).prog 57) (kwd := []) K04.ob_eq
    (by kernel_rfl) (fun s => by kernel_rfl) K04.run (by kernel_rfl) (by kernel_rfl) (by kernel_rfl) (by rfl) (by first | assumption | decide +kernel) (by decide +kernel) ⟨rfl, rfl, rfl, rfl, rfl, by decide +kernel⟩ ?hw ?hc
  case hw => w_witness2
  case hc =>
    refine Tb.walk_endE (l := PySem.Challenge.rw_tollhall_k04_whole_rules_of_rows_a_trill) (n := 63) (k := 8) (x := "script") rfl (by decide) (by kernel_rfl) ⟨rfl, by decide, by decide⟩ ?F
    intro w mg fa h Y G hmg0
    obtain ⟨K, KX, c⟩ := Y
    have hmg : mg ("law" : PySem.Str) = some (.ref fa) := by
      have e : (HandSHeadRun.topDef (OpenLaw.row PySem.Challenge.rw_tollhall_k04_whole_rules_of_rows_a_trill).prog 57).name = ("law" : PySem.Str) := by kernel_rfl
      rw [← e]
      exact hmg0
    obtain ⟨fd, hb, hF⟩ := K04.all_mk (P := (PySem.Challenge.rw_tollhall_k04_whole_rules_of_rows_a_trill).prog) (w := w) KX G hmg c
    exact ⟨K, fd, K04.sp_law K, KX, hb, fun H a ns hl hS => ⟨a, ns, rfl, hS, by omega, fun _ => rfl⟩, hF⟩
