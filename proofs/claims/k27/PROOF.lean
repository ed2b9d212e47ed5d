import PyProof.Rows.All
import Wide.All
import OpenK.AllK
import Wide.FinOn
import HandS.ForMost
import HandS.Walk
import HandS.Evl
import KE.GoesEnum
import HandS.Zip
import HandS.SetFor
import HandS.TupAny
import HandS.TupMul
import HandS.TupLe
import HandS.IsInst
import HandS.Wide
import KE.KTupSum
import KE.SortData
import HandS.ForExc
import HandS.ExcField
import KE.KEqDeep
import KE.KExcSuper
import HandS.ExcInit
import HandS.ExcIs
import HandS.WordsExc
import HandS.ExcOwn
import PySem.Challenge.RW_ringclaims_k27_whole_kinds_by_all_openin
set_option Elab.async false
set_option linter.all false
set_option maxRecDepth 100000
set_option maxHeartbeats 4000000
/-! KA: what is walked: lists and tuples in any mix (for, enumerate, zip of two and of three). -/
namespace K27
open PySem PySem.Spec PyProof.Rows L2
/-- a list (k = true) or a tuple (k = false) of the values xs at a -/
def SqK (k : Bool) (K : PySem.W.Frag) (H : Hp) (a : Addr) (xs : List V) : Prop := match k with
  | true => SqL K H a xs
  | false => SqT K H a xs
def SeqH (k : Bool) (h : Heap) (a : Addr) (items : Array Value) : Prop := match k with
  | true => h.IsList a items
  | false => h.IsTuple a items
def IterH (k : Bool) (h : Heap) (it a : Addr) (i : Nat) : Prop := match k with
  | true => h.IsListIter it a i
  | false => h.IsTupleIter it a i
def begO (k : Bool) (a : Addr) : Obj := match k with
  | true => { cls := .type "list_iterator", data := .fields #[.ref a, .int 0 0] }
  | false => { cls := .type "tuple_iterator", data := .fields #[.ref a, .int 0 0] }
theorem beg_k (k : Bool) (a : Addr) (items : Array Value) : Begins (.ref a) (begO k a) fun h => SeqH k h a items := by
  cases k with
  | true => exact begins_list a items
  | false => exact begins_tuple a items
theorem beg_iter {k : Bool} {h : Heap} {it a : Addr} (e : h.get? it = some (begO k a)) : IterH k h it a 0 := by
  cases k with
  | true => exact ⟨_, e, rfl, rfl⟩
  | false => exact ⟨_, e, rfl, rfl⟩
theorem iter_obj {k : Bool} {h : Heap} {it a : Addr} {i : Nat} (st : IterH k h it a i) : ∃ o, h.get? it = some o ∧ ∀ v, o.data ≠ .cell v := by
  cases k with
  | true =>
    obtain ⟨o, e, _, d⟩ := st
    exact ⟨o, e, fun v q => by rw [d] at q; cases q⟩
  | false =>
    obtain ⟨o, e, _, d⟩ := st
    exact ⟨o, e, fun v q => by rw [d] at q; cases q⟩
theorem iter_keep {k : Bool} {h h' : Heap} {it a : Addr} {i : Nat} (st : IterH k h it a i) (q : ∀ o, h.get? it = some o → h'.get? it = some o) : IterH k h' it a i := by
  cases k with
  | true => exact Heap.IsListIter.at st q
  | false => exact Heap.IsTupleIter.at st q
theorem draws_k {prog : Program} {w : World} {A : Around} (hh : A.handled = none) (k : Bool) (it a : Addr) (hne : a ≠ it) (items : Array Value) :
    Draws prog w A it [it, a] items.size (fun i v => items[i]? = some v) (fun i h => IterH k h it a i ∧ SeqH k h a items) := by
  cases k with
  | true => exact Draws.list hh it a hne items
  | false => exact Draws.tuple hh it a hne items
section
variable {X : Cx} {pins : List (Addr × Obj)} {σ : L2.St} {H : Hp} {s : Shared} {a : Addr} {xs ys : List V} {k : Bool}
theorem inv_sq (I : Inv X pins σ H s) (h : SqK k X.K H a xs) : ∃ its : List Value, Vals xs its ∧ SeqH k s.heap a its.toArray ∧ xs.length ≤ sizeLine ∧ a < s.heap.objs.size := by
  cases k with
  | true =>
    obtain ⟨its, r, p, z⟩ := I.list h
    exact ⟨its, r, p.isList, z, p.lt⟩
  | false =>
    obtain ⟨its, r, p, z⟩ := I.tuple h
    obtain ⟨o, e, _⟩ := id p
    exact ⟨its, r, p, z, Heap.lt_size e⟩
theorem sq_inj (I : Inv X pins σ H s) (h : SqK k X.K H a xs) (h' : SqK k X.K H a ys) : xs = ys := by
  cases k with
  | true => exact I.list_inj h h'
  | false => exact I.tuple_inj h h'
end
/-! ### a walk that gives new tuples -/
/-- what a walk must be at a state: its next turn, its end -/
structure Going (X : Cx) (J : It) (z : Addr) (fpc : List Addr) (tn : Nat → Heap → Prop) (i : Nat) (H : Hp) (h : Heap) : Prop where
  go : J.go i H → ∃ (n : Nat) (fp wr : List Addr) (Pt : Nat → Array Value → Prop) (Sw : Nat → Heap → Prop) (Mid : Nat → Addr → Heap → Prop), WalksT X.prog X.w X.A z fp wr n Pt Sw Mid ∧ i < n ∧ (∀ b ∈ wr, b ∈ fpc) ∧ Sw i h ∧
    (∀ h', Sw (i + 1) h' → tn (i + 1) h') ∧ ∀ vals, Pt i vals → ∃ xs : List V, Vals xs vals.toList ∧ xs.length ≤ sizeLine ∧ ∀ T, H T = none → J.yld i H (.ref T) (upd H T (.tup xs))
  stop : J.stop i H → ∃ (fp wr : List Addr) (Pt : Nat → Array Value → Prop) (Sw : Nat → Heap → Prop) (Mid : Nat → Addr → Heap → Prop), WalksT X.prog X.w X.A z fp wr i Pt Sw Mid ∧ (∀ b ∈ wr, b ∈ fpc) ∧ Sw i h
theorem turn_gen {P : Program} {w : World} {K : PySem.W.Frag} {elts : List Expr} {kk : Nat} {tpos : Pos} {J : It} {z : Addr} {fpc : List Addr} {tn : Nat → Heap → Prop} (mem : z ∈ fpc)
    (obj : ∀ i h, tn i h → ∀ b ∈ fpc, ∃ o, h.get? b = some o ∧ ∀ v, o.data ≠ .cell v)
    (keep : ∀ i h h', tn i h → (∀ b ∈ fpc, ∀ o, h.get? b = some o → h'.get? b = some o) → tn i h')
    (self : ∀ (A : Around) (i : Nat) (s : Shared) (Q : Value → Shared → Prop) (E : Value → Shared → Prop), tn i s.heap → Q (.ref z) s → wpAny (model P w) A (pyIter (.ref z)) Q E s)
    (going : ∀ (X : Cx), X.prog = P → X.w = w → X.K = K → X.calm = true → ∀ (i : Nat) (pins : List (Addr × Obj)) (σ : L2.St) (H : Hp) (s : Shared), Inv X pins σ H s → tn i s.heap → Going X J z fpc tn i H s.heap) :
    Turn P w K (.Tuple elts kk tpos) J fpc z tn where
  mem := mem
  obj := obj
  keep := keep
  self := self
  item := by
    intro X hP hw hK hc i pins s σ H E I hf st hg
    have G := going X hP hw hK hc i pins σ H s I st
    subst hP hw hK
    obtain ⟨n, fp, wr, Pt, Sw, Mid, W, hi, hwr, sw, nxt, vals⟩ := G.go hg
    have old : ∀ b ∈ fpc, ∃ o, s.heap.get? b = some o := fun b hb => let ⟨o, e, _⟩ := obj i _ st b hb; ⟨o, e⟩
    refine W.item i s _ _ hi sw fun T vs h' tk hv hT ht hm hk => ?_
    refine ⟨_, rfl, W.go elts kk tpos i T { s with heap := h', toks := tk } _ _ hm fun h'' sw' hk' => ?_⟩
    obtain ⟨xs, rv, hz, hy⟩ := vals vs hv
    have hTw : T ∉ wr := W.apart i T h' hm
    obtain ⟨ob, hob, hcl, nn, hd⟩ := ht
    have new : ObjOk X.prog X.w (upd H T (.tup xs)) h'' T (.tup xs) := ⟨hz, vs.toList, rv, ob, hk' T ob hTw hob, hcl, nn, by simpa using hd⟩
    have I1 : Inv X pins σ (upd H T (.tup xs)) { s with heap := h'', toks := tk } :=
      I.turnedNew (ch := fpc) (fun b o hb e => hk' b o (fun q => hb (hwr b q)) (hk b o (fun q => hb (hwr b q)) e)) hf hT new
    refine ⟨.ref T, _, I1, rfl, hy T (I.hok.fresh hT), nxt _ sw', fun b hb => ?_⟩
    obtain ⟨o, e⟩ := old b hb
    rw [upd_ne (Nat.ne_of_lt (Nat.lt_of_lt_of_le (Heap.lt_size e) hT))]
    exact (hf b hb).1
  done := by
    intro X hP hw hK hc i pins s σ H E I hf st hg
    have G := going X hP hw hK hc i pins σ H s I st
    subst hP hw hK
    obtain ⟨fp, wr, Pt, Sw, Mid, W, hwr, sw⟩ := G.stop hg
    exact W.done s _ _ sw fun h' tk hk => ⟨rfl, I.turnedL (ch := fpc) (fun b o hb e => hk b o (fun q => hb (hwr b q)) e) hf⟩
end K27

set_option Elab.async false
set_option linter.all false
set_option maxRecDepth 100000
set_option maxHeartbeats 4000000
/-! KB: the walks: for, enumerate, zip of two, zip of three, over lists and tuples in any mix. -/
namespace K27
open PySem PySem.Spec PyProof.Rows L2
/-! ### plain -/
def ItQ (k : Bool) (K : PySem.W.Frag) (a : Addr) : It := match k with
  | true => Itl K a
  | false => Itt K a
def iSeq (K : PySem.W.Frag) (te : TE) : TI := fun σ H R => te σ H fun x H1 => ∃ (k : Bool) (a : Addr) (xs : List V), x = .ref a ∧ SqK k K H1 a xs ∧ R (ItQ k K a) H1
theorem pi_seq {X : Cx} {tg l : Expr} {tl : TE} (hl : PE X l tl) : PI X tg l (iSeq X.K tl) := by
  refine ⟨fun pins s σ H R I h => ?_⟩
  refine thn (hl.run pins s σ H _ I h) fun v s1 ⟨x, H1, I1, r1, q1⟩ => ?_
  obtain ⟨k, a, xs, ex, hq, q⟩ := q1
  subst ex
  cases r1
  have sz : s1.heap.objs.size ≤ s1.heap.objs.size := Nat.le_refl _
  cases k with
  | true =>
    obtain ⟨its, rv, p, hz⟩ := I1.list hq
    refine wpAny_pyIter_list p.isList ?_
    refine ⟨s1.heap.objs.size, [s1.heap.objs.size], _, _, H1, rfl, I1.kept (t' := s1.toks) fun b o e => Heap.get?_push_of_some _ e, turn_list a _, ⟨_, Heap.get?_push_size _ rfl, rfl, rfl⟩, fun b hb => ?_, q⟩
    rw [List.mem_singleton.mp hb]
    exact I1.fpOk sz (I1.hok.fresh sz)
  | false =>
    obtain ⟨its, rv, p, hz⟩ := I1.tuple hq
    refine wpAny_pyIter_tuple (show s1.heap.IsTuple a its.toArray from p) ?_
    refine ⟨s1.heap.objs.size, [s1.heap.objs.size], _, _, H1, rfl, I1.kept (t' := s1.toks) fun b o e => Heap.get?_push_of_some _ e, turn_tuple a _, ⟨_, Heap.get?_push_size _ rfl, rfl, rfl⟩, fun b hb => ?_, q⟩
    rw [List.mem_singleton.mp hb]
    exact I1.fpOk sz (I1.hok.fresh sz)
theorem walk_seq {k : Bool} {K : PySem.W.Frag} {a : Addr} {xs : List V} : Walk (ItQ k K a) xs.length (fun H => SqK k K H a xs) (YAt xs) := by
  cases k with
  | true => exact walk_list
  | false => exact walk_tup
/-! ### new tuples of what stands at the places -/
/-- what is yielded: a new tuple -/
def YTup (f : Nat → Option (List V)) : Nat → Hp → V → Hp → Prop := fun i H v H' => ∃ T xs, v = .ref T ∧ H T = none ∧ H' = upd H T (.tup xs) ∧ f i = some xs
/-! ### enumerate -/
def ItE (k : Bool) (K : PySem.W.Frag) (a : Addr) : It :=
  ⟨fun i H => ∃ xs x, SqK k K H a xs ∧ xs[i]? = some x, fun i H v H' => ∃ T x, v = .ref T ∧ H T = none ∧ H' = upd H T (.tup [.int (i : Nat), x]) ∧ ∀ xs, SqK k K H a xs → xs[i]? = some x,
    fun i H => ∃ xs, SqK k K H a xs ∧ i = xs.length⟩
theorem go_enum {X : Cx} (hc : X.calm = true) {k : Bool} {a e it : Addr} {i : Nat} {pins : List (Addr × Obj)} {σ : L2.St} {H : Hp} {s : Shared} (hei : e ≠ it) (hea : e ≠ a) (hia : a ≠ it) (I : Inv X pins σ H s)
    (st : (∃ old, IsEnum s.heap e it (0 + (i : Int)) old) ∧ IterH k s.heap it a i) : Going X (ItE k X.K a) e [e, it] (fun i h => (∃ old, IsEnum h e it (0 + (i : Int)) old) ∧ IterH k h it a i) i H s.heap where
  go := fun ⟨xs, x, hq, hx⟩ => by
    obtain ⟨its, rv, p, hz, _⟩ := inv_sq I hq
    obtain ⟨u, hu, ru⟩ := rv.get hx
    refine ⟨_, _, _, _, _, _, WalksT.enumFrom (prog := X.prog) (w := X.w) (A := X.A) 0 (draws_k (prog := X.prog) (w := X.w) (A := X.A.in1) (I.ok.hd hc) k it a hia its.toArray) e hei (by simp [hei, hea]) (by simp), ?_, fun b hb => hb, ⟨st.1, st.2, p⟩, fun h' q => ⟨q.1, q.2.1⟩, fun vals hv => ?_⟩
    · have hl := (List.getElem?_eq_some_iff.mp hu).1
      simpa using hl
    · obtain ⟨t, y, hy, rfl⟩ := hv
      have ey : y = u := by
        have hu' : its.toArray[i]? = some u := by simpa using hu
        exact Option.some.inj (hy.symm.trans hu')
      subst ey
      refine ⟨[.int (i : Nat), x], .cons ⟨t, by rw [Int.zero_add]⟩ (.cons ru .nil), by show 2 ≤ sizeLine; decide, fun T hT => ⟨T, x, rfl, hT, rfl, fun ys hys => ?_⟩⟩
      rw [sq_inj I hys hq]
      exact hx
  stop := fun ⟨xs, hq, hx⟩ => by
    obtain ⟨its, rv, p, hz, _⟩ := inv_sq I hq
    have hl : its.toArray.size = i := by rw [List.size_toArray, ← rv.length, hx]
    have W := WalksT.enumFrom (prog := X.prog) (w := X.w) (A := X.A) 0 (draws_k (prog := X.prog) (w := X.w) (A := X.A.in1) (I.ok.hd hc) k it a hia its.toArray) e hei (by simp [hei, hea]) (by simp)
    rw [hl] at W
    exact ⟨_, _, _, _, _, W, fun b hb => hb, st.1, st.2, p⟩
theorem turn_enumQ {P : Program} {w : World} {K : PySem.W.Frag} {elts : List Expr} {kk : Nat} {tpos : Pos} (k : Bool) {a e it : Addr} (hei : e ≠ it) (hea : e ≠ a) (hia : a ≠ it) :
    Turn P w K (.Tuple elts kk tpos) (ItE k K a) [e, it] e (fun i h => (∃ old, IsEnum h e it (0 + (i : Int)) old) ∧ IterH k h it a i) := by
  refine turn_gen (by simp) (fun i h st b hb => ?_) (fun i h h' st q => ?_) (fun A i s Q E st h => ?_) fun X hP hw hK hc i pins σ H s I st => ?_
  · obtain ⟨⟨old, he⟩, hi⟩ := st
    rcases List.mem_cons.mp hb with z | hb
    · rw [z]
      exact ⟨_, he, fun v q => nomatch q⟩
    · rw [List.mem_singleton.mp hb]
      exact iter_obj hi
  · obtain ⟨⟨old, he⟩, hi⟩ := st
    exact ⟨⟨old, q e (by simp) _ he⟩, iter_keep hi fun o z => q it (by simp) o z⟩
  · obtain ⟨⟨old, he⟩, hi⟩ := st
    exact wpAny_pyIter_enum he h
  · subst hK
    exact go_enum hc hei hea hia I st
def iEnumQ (K : PySem.W.Frag) (ta : TA) : TI := fun σ H R => ta σ H fun vs H1 => ∃ (k : Bool) (a : Addr) (xs : List V), vs = [.ref a] ∧ SqK k K H1 a xs ∧ R (ItE k K a) H1
theorem walk_enumQ {k : Bool} {K : PySem.W.Frag} {a : Addr} {xs : List V} : Walk (ItE k K a) xs.length (fun H => SqK k K H a xs) (YTup fun i => xs[i]?.map fun x => [.int (i : Nat), x]) := by
  refine ⟨fun i H hi q => ⟨xs, xs[i], q, List.getElem?_eq_getElem hi⟩, fun H q => ⟨xs, q, rfl⟩, fun i H v H' hi q y => ?_⟩
  obtain ⟨T, x, h1, h2, h3, h4⟩ := y
  exact ⟨T, _, h1, h2, h3, by show Option.map _ (xs[i]?) = _; rw [h4 xs q]; rfl⟩
/-- the new cells of an enumerate, of a zip, may turn -/
theorem fresh_fp {X : Cx} {pins : List (Addr × Obj)} {σ : L2.St} {H : Hp} {s : Shared} (I : Inv X pins σ H s) {fp : List Addr} (h : ∀ b ∈ fp, s.heap.objs.size ≤ b) : ∀ b ∈ fp, FpOk X pins H b := fun b hb =>
  I.fpOk (h b hb) (I.hok.fresh (h b hb))
theorem meets_enum1 {v : Value} {o : Obj} {G : Heap → Prop} (B : Begins v o G) :
    Meets (Builtin.«enumerate.__new__» ⟨[.type "enumerate", v], []⟩) (fun _ R s => G s.heap ∧
      R (.ok (.ret (.ref (s.heap.push o).objs.size))) { s with heap := (s.heap.push o).push { cls := .type "enumerate", data := .fields #[.none, .bool false, .ref s.heap.objs.size, rawInt 0, .none, .none] } }) :=
  .of_wp fun prog w A R s h => by
    obtain ⟨hp, g, d, tk, os⟩ := s
    obtain ⟨h1, h⟩ := h
    have hsub := sub_enumerate
    have it0 : ∀ {A' : Around} {E : Value → Shared → Prop} {Q : Value → Shared → Prop}, Q (.ref hp.objs.size) ⟨hp.push o, g, d, tk, os⟩ → wpAny (model prog w) A' (pyIter v) Q E ⟨hp, g, d, tk, os⟩ :=
      fun q => B.iter prog w _ _ ⟨hp, g, d, tk, os⟩ _ h1 q
    wp_walk using it0
    refine wpAny_stack_any fun st => wpAny_pure ?_
    split
    · rename_i c _ _ _ _ _
      cases (c == Value.type "enumerate") <;> (wp_walk using it0; exact ⟨_, rfl, h⟩)
    · wp_walk using it0
      exact ⟨_, rfl, h⟩
theorem enum_make {prog : Program} {w : World} {A : Around} {E : Value → Shared → Prop} {s : Shared} (k : Bool) {a : Addr} {items : Array Value} {Q : Value → Shared → Prop} (hL : SeqH k s.heap a items)
    (h : ∀ h', IsEnum h' (s.heap.objs.size + 1) s.heap.objs.size 0 .none → IterH k h' s.heap.objs.size a 0 → (∀ b o, s.heap.get? b = some o → h'.get? b = some o) → Q (.ref (s.heap.objs.size + 1)) { s with heap := h' }) :
    wpAny (model prog w) A (call (.type "enumerate") [.ref a]) Q E s := by
  have B := beg_k k a items
  have hz : (s.heap.push (begO k a)).objs.size = s.heap.objs.size + 1 := Heap.size_push ..
  have e1 := Heap.get?_push_size (s.heap.push (begO k a)) (o := { cls := .type "enumerate", data := .fields #[.none, .bool false, .ref s.heap.objs.size, rawInt 0, .none, .none] }) rfl
  rw [hz] at e1
  refine callType_new F.called_enumerate (by decide) (F.typeCall_enumerate_1 _) (F.newCall_enumerate_1 _) (fun obj => F.args_object_init_2 obj _) F.entry_enumerate_new (meets_enum1 B) ⟨hL, ?_⟩
  show _ ∧ _
  rw [hz]
  exact ⟨⟨_, e1, rfl⟩, h _ e1 (beg_iter (Heap.get?_push_of_some _ (Heap.get?_push_size _ B.free))) fun b o x => Heap.get?_push_of_some _ (Heap.get?_push_of_some _ x)⟩
theorem pi_enumQ {X : Cx} {e : Expr} {ta : TA} {p pos tpos : Pos} {elts : List Expr} {kk : Nat} (hg : Gl X "enumerate") (hm : X.mg "enumerate" = none) (ha : PA X [e] ta) (hs : starEach [e] X.env = [(false, eval e X.env)] := by rfl) :
    PI X (.Tuple elts kk tpos) (.Call (.Name "enumerate" p) [e] [] pos) (iEnumQ X.K ta) := by
  refine ⟨fun pins s σ H R I h => ?_⟩
  refine Call_ (ld_blt I hg hm boot_enumerate (PyProof.Rows.callWith_type1 (thn (ha.run pos pins s σ H _ I h) fun us s1 ⟨vs, H1, I1, r1, q1⟩ => ?_) hs rfl))
  obtain ⟨k, a, xs, ex, hq, q⟩ := q1
  subst ex
  cases r1 with
  | cons r rr =>
    cases rr
    cases r
    obtain ⟨its, rv, p', hz, hlt⟩ := inv_sq I1 hq
    refine enum_make k p' fun h' he hit hk => wpAny_pyIter_enum he ?_
    have I2 : Inv X pins σ H1 { s1 with heap := h' } := I1.kept (t' := s1.toks) hk
    refine ⟨s1.heap.objs.size + 1, [s1.heap.objs.size + 1, s1.heap.objs.size], _, _, H1, rfl, I2, turn_enumQ k (a := a) (Nat.succ_ne_self _) (Nat.ne_of_gt (Nat.lt_succ_of_lt hlt)) (Nat.ne_of_lt hlt), ⟨⟨.none, by simpa using he⟩, hit⟩, fun b hb => ?_, q⟩
    refine fresh_fp I1 (fun b hb => ?_) b hb
    rcases List.mem_cons.mp hb with z | hb
    · rw [z]
      exact Nat.le_succ _
    · rw [List.mem_singleton.mp hb]
      exact Nat.le_refl _
/-! ### zip of two -/
def ItZ2 (k1 k2 : Bool) (K : PySem.W.Frag) (a b : Addr) : It :=
  ⟨fun i H => ∃ xs ys x y, SqK k1 K H a xs ∧ SqK k2 K H b ys ∧ xs[i]? = some x ∧ ys[i]? = some y,
    fun i H v H' => ∃ T x y, v = .ref T ∧ H T = none ∧ H' = upd H T (.tup [x, y]) ∧ (∀ xs, SqK k1 K H a xs → xs[i]? = some x) ∧ ∀ ys, SqK k2 K H b ys → ys[i]? = some y,
    fun i H => ∃ xs ys, SqK k1 K H a xs ∧ SqK k2 K H b ys ∧ i = min xs.length ys.length⟩
theorem at_arr {its : List Value} {i : Nat} {u : Value} (hu : its[i]? = some u) : its.toArray[i]? = some u ∧ i < its.toArray.size := by
  have hl := (List.getElem?_eq_some_iff.mp hu).1
  exact ⟨by simpa using hu, by simpa using hl⟩
theorem turn_zip2 {P : Program} {w : World} {K : PySem.W.Frag} {elts : List Expr} {kk : Nat} {tpos : Pos} (k1 k2 : Bool) {a b z TI TO i1 i2 : Addr} (S : ZipSep2 z TI TO i1 i2 [i1, a] [i2, b]) (n1 : a ≠ i1) (n2 : b ≠ i2) :
    Turn P w K (.Tuple elts kk tpos) (ItZ2 k1 k2 K a b) [z, TI, TO, i1, i2] z (fun i h => IsZip h z TI TO .none ∧ IsTupOf2 h TI (.ref i1) (.ref i2) ∧ (∃ x y, IsTupOf2 h TO x y) ∧ IterH k1 h i1 a i ∧ IterH k2 h i2 b i) := by
  refine turn_gen (by simp) (fun i h st c hc => ?_) (fun i h h' st q => ?_) (fun A i s Q E st h => wpAny_pyIter_zip st.1 h) fun X hP hw hK hc i pins σ H s I st => ?_
  · obtain ⟨hz, hTI, ⟨x, y, hTO⟩, h1, h2⟩ := st
    have e' : c = z ∨ c = TI ∨ c = TO ∨ c = i1 ∨ c = i2 := by simpa using hc
    rcases e' with q | q | q | q | q
    · rw [q]; exact ⟨_, hz, fun v q => nomatch q⟩
    · rw [q]; exact ⟨_, hTI, fun v q => nomatch q⟩
    · rw [q]; exact ⟨_, hTO, fun v q => nomatch q⟩
    · rw [q]; exact iter_obj h1
    · rw [q]; exact iter_obj h2
  · obtain ⟨hz, hTI, ⟨x, y, hTO⟩, h1, h2⟩ := st
    exact ⟨q z (by simp) _ hz, q TI (by simp) _ hTI, ⟨x, y, q TO (by simp) _ hTO⟩, iter_keep h1 fun o r => q i1 (by simp) o r, iter_keep h2 fun o r => q i2 (by simp) o r⟩
  · subst hK
    obtain ⟨hz, hTI, hTO, h1, h2⟩ := st
    have sub : ∀ c ∈ [z, TO, i1, i2], c ∈ [z, TI, TO, i1, i2] := fun c hc => by
      have e' : c = z ∨ c = TO ∨ c = i1 ∨ c = i2 := by simpa using hc
      rcases e' with q | q | q | q <;> simp [q]
    refine ⟨fun ⟨xs, ys, x, y, hx, hy, ex, ey⟩ => ?_, fun ⟨xs, ys, hx, hy, ei⟩ => ?_⟩
    · obtain ⟨ux, rx, px, zx, lx⟩ := inv_sq I hx
      obtain ⟨uy, ry, py, zy, ly⟩ := inv_sq I hy
      obtain ⟨u1, e1, r1⟩ := rx.get ex
      obtain ⟨u2, e2, r2⟩ := ry.get ey
      obtain ⟨f1, l1⟩ := at_arr e1
      obtain ⟨f2, l2⟩ := at_arr e2
      refine ⟨_, _, _, _, _, _, WalksT.zipD2 (prog := X.prog) (w := X.w) (A := X.A) S (draws_k (prog := X.prog) (w := X.w) (A := X.A.in1) (I.ok.hd hc) k1 i1 a n1 ux.toArray) (draws_k (prog := X.prog) (w := X.w) (A := X.A.in1) (I.ok.hd hc) k2 i2 b n2 uy.toArray), Nat.lt_min.mpr ⟨l1, l2⟩, sub, ⟨hz, hTI, hTO, ⟨h1, px⟩, h2, py⟩,
        fun h' q => ⟨q.1, q.2.1, q.2.2.1, q.2.2.2.1.1, q.2.2.2.2.1⟩, fun vals hv => ?_⟩
      obtain ⟨v1, v2, g1, g2, rfl⟩ := hv
      cases g1.symm.trans f1
      cases g2.symm.trans f2
      exact ⟨[x, y], .cons r1 (.cons r2 .nil), by show 2 ≤ sizeLine; decide, fun T hT => ⟨T, x, y, rfl, hT, rfl, fun l hl => by rw [sq_inj I hl hx]; exact ex, fun l hl => by rw [sq_inj I hl hy]; exact ey⟩⟩
    · obtain ⟨ux, rx, px, zx, lx⟩ := inv_sq I hx
      obtain ⟨uy, ry, py, zy, ly⟩ := inv_sq I hy
      have en : min ux.toArray.size uy.toArray.size = i := by rw [List.size_toArray, List.size_toArray, ← rx.length, ← ry.length, ei]
      have W := WalksT.zipD2 (prog := X.prog) (w := X.w) (A := X.A) S (draws_k (prog := X.prog) (w := X.w) (A := X.A.in1) (I.ok.hd hc) k1 i1 a n1 ux.toArray) (draws_k (prog := X.prog) (w := X.w) (A := X.A.in1) (I.ok.hd hc) k2 i2 b n2 uy.toArray)
      rw [en] at W
      exact ⟨_, _, _, _, _, W, sub, hz, hTI, hTO, ⟨h1, px⟩, h2, py⟩
def iZip2 (K : PySem.W.Frag) (ta : TA) : TI := fun σ H R => ta σ H fun vs H1 => ∃ (k1 k2 : Bool) (a b : Addr) (xs ys : List V), vs = [.ref a, .ref b] ∧ SqK k1 K H1 a xs ∧ SqK k2 K H1 b ys ∧ R (ItZ2 k1 k2 K a b) H1
theorem pi_zip2 {X : Cx} {e e2 : Expr} {ta : TA} {p pos tpos : Pos} {elts : List Expr} {kk : Nat} (hg : Gl X "zip") (hm : X.mg "zip" = none) (ha : PA X [e, e2] ta)
    (hs : starEach [e, e2] X.env = (false, eval e X.env) :: starEach [e2] X.env := by rfl) (hpl : (backTo pos (starEach [e2] X.env)).any (·.1) = false := by rfl) :
    PI X (.Tuple elts kk tpos) (.Call (.Name "zip" p) [e, e2] [] pos) (iZip2 X.K ta) := by
  refine ⟨fun pins s σ H R I h => ?_⟩
  refine Call_ (ld_blt I hg hm PyProof.Rows.boot_zip (PyProof.Rows.callWith_type1 (thn (ha.run pos pins s σ H _ I h) fun us s1 ⟨vs, H1, I1, r1, q1⟩ => ?_) hs hpl))
  obtain ⟨k1, k2, a, b, xs, ys, ex, hqx, hqy, q⟩ := q1
  subst ex
  cases r1 with
  | cons r rr =>
    cases rr with
    | cons r' rr =>
      cases rr
      cases r
      cases r'
      obtain ⟨ux, rx, px, zx, lx⟩ := inv_sq I1 hqx
      obtain ⟨uy, ry, py, zy, ly⟩ := inv_sq I1 hqy
      refine zip_begins2 (beg_k k1 a ux.toArray) (beg_k k2 b uy.toArray) px py fun h' hz hTI hTO h1 h2 hsz hk => wpAny_pyIter_zip hz ?_
      have I2 : Inv X pins σ H1 { s1 with heap := h' } := I1.kept (t' := s1.toks) hk
      refine ⟨s1.heap.objs.size + 4, [s1.heap.objs.size + 4, s1.heap.objs.size + 2, s1.heap.objs.size + 3, s1.heap.objs.size, s1.heap.objs.size + 1], _, _, H1, rfl, I2,
        turn_zip2 k1 k2 (zip_sep2 (N := s1.heap.objs.size) (fp1 := [a]) (fp2 := [b]) (fun c hc => by rw [List.mem_singleton.mp hc]; exact lx) fun c hc => by rw [List.mem_singleton.mp hc]; exact ly) (Nat.ne_of_lt lx) (Nat.ne_of_lt (Nat.lt_succ_of_lt ly)),
        ⟨hz, hTI, ⟨_, _, hTO⟩, beg_iter h1, beg_iter h2⟩, fresh_fp I1 fun c hc => ?_, q⟩
      have e' : c = s1.heap.objs.size + 4 ∨ c = s1.heap.objs.size + 2 ∨ c = s1.heap.objs.size + 3 ∨ c = s1.heap.objs.size ∨ c = s1.heap.objs.size + 1 := by simpa using hc
      rcases e' with z | z | z | z | z <;> rw [z] <;> first | exact Nat.le_add_right _ _ | exact Nat.le_refl _
theorem walk_zip2 {k1 k2 : Bool} {K : PySem.W.Frag} {a b : Addr} {xs ys : List V} {n : Nat} (hn : n = min xs.length ys.length) : Walk (ItZ2 k1 k2 K a b) n (fun H => SqK k1 K H a xs ∧ SqK k2 K H b ys) (YTup fun i => xs[i]?.bind fun x => ys[i]?.map fun y => [x, y]) := by
  subst hn
  refine ⟨fun i H hi q => ?_, fun H q => ⟨xs, ys, q.1, q.2, rfl⟩, fun i H v H' hi q y => ?_⟩
  · obtain ⟨h1, h2⟩ := Nat.lt_min.mp hi
    exact ⟨xs, ys, xs[i], ys[i], q.1, q.2, List.getElem?_eq_getElem h1, List.getElem?_eq_getElem h2⟩
  · obtain ⟨T, x, y, h1, h2, h3, h4, h5⟩ := y
    exact ⟨T, _, h1, h2, h3, by show Option.bind (xs[i]?) _ = _; rw [h4 xs q.1, Option.bind_some, h5 ys q.2]; rfl⟩
/-! ### zip of three -/
def ItZ3 (k1 k2 k3 : Bool) (K : PySem.W.Frag) (a b c : Addr) : It :=
  ⟨fun i H => ∃ xs ys zs x y z, SqK k1 K H a xs ∧ SqK k2 K H b ys ∧ SqK k3 K H c zs ∧ xs[i]? = some x ∧ ys[i]? = some y ∧ zs[i]? = some z,
    fun i H v H' => ∃ T x y z, v = .ref T ∧ H T = none ∧ H' = upd H T (.tup [x, y, z]) ∧ (∀ xs, SqK k1 K H a xs → xs[i]? = some x) ∧ (∀ ys, SqK k2 K H b ys → ys[i]? = some y) ∧ ∀ zs, SqK k3 K H c zs → zs[i]? = some z,
    fun i H => ∃ xs ys zs, SqK k1 K H a xs ∧ SqK k2 K H b ys ∧ SqK k3 K H c zs ∧ i = min (min xs.length ys.length) zs.length⟩
theorem turn_zip3 {P : Program} {w : World} {K : PySem.W.Frag} {elts : List Expr} {kk : Nat} {tpos : Pos} (k1 k2 k3 : Bool) {a b c z TI TO i1 i2 i3 : Addr} (S : ZipSep3 z TI TO i1 i2 i3 [i1, a] [i2, b] [i3, c]) (n1 : a ≠ i1) (n2 : b ≠ i2) (n3 : c ≠ i3) :
    Turn P w K (.Tuple elts kk tpos) (ItZ3 k1 k2 k3 K a b c) [z, TI, TO, i1, i2, i3] z
      (fun i h => IsZip h z TI TO .none ∧ IsTupOf3 h TI (.ref i1) (.ref i2) (.ref i3) ∧ (∃ x y u, IsTupOf3 h TO x y u) ∧ IterH k1 h i1 a i ∧ IterH k2 h i2 b i ∧ IterH k3 h i3 c i) := by
  refine turn_gen (by simp) (fun i h st d hd => ?_) (fun i h h' st q => ?_) (fun A i s Q E st h => wpAny_pyIter_zip st.1 h) fun X hP hw hK hc i pins σ H s I st => ?_
  · obtain ⟨hz, hTI, ⟨x, y, u, hTO⟩, h1, h2, h3⟩ := st
    have e' : d = z ∨ d = TI ∨ d = TO ∨ d = i1 ∨ d = i2 ∨ d = i3 := by simpa using hd
    rcases e' with q | q | q | q | q | q
    · rw [q]; exact ⟨_, hz, fun v q => nomatch q⟩
    · rw [q]; exact ⟨_, hTI, fun v q => nomatch q⟩
    · rw [q]; exact ⟨_, hTO, fun v q => nomatch q⟩
    · rw [q]; exact iter_obj h1
    · rw [q]; exact iter_obj h2
    · rw [q]; exact iter_obj h3
  · obtain ⟨hz, hTI, ⟨x, y, u, hTO⟩, h1, h2, h3⟩ := st
    exact ⟨q z (by simp) _ hz, q TI (by simp) _ hTI, ⟨x, y, u, q TO (by simp) _ hTO⟩, iter_keep h1 fun o r => q i1 (by simp) o r, iter_keep h2 fun o r => q i2 (by simp) o r, iter_keep h3 fun o r => q i3 (by simp) o r⟩
  · subst hK
    obtain ⟨hz, hTI, hTO, h1, h2, h3⟩ := st
    have sub : ∀ c ∈ [z, TO, i1, i2, i3], c ∈ [z, TI, TO, i1, i2, i3] := fun c hc => by
      have e' : c = z ∨ c = TO ∨ c = i1 ∨ c = i2 ∨ c = i3 := by simpa using hc
      rcases e' with q | q | q | q | q <;> simp [q]
    refine ⟨fun ⟨xs, ys, zs, x, y, v, hx, hy, hv, ex, ey, ev⟩ => ?_, fun ⟨xs, ys, zs, hx, hy, hv, ei⟩ => ?_⟩
    · obtain ⟨ux, rx, px, zx, lx⟩ := inv_sq I hx
      obtain ⟨uy, ry, py, zy, ly⟩ := inv_sq I hy
      obtain ⟨uv, rv, pv, zv, lv⟩ := inv_sq I hv
      obtain ⟨u1, e1, r1⟩ := rx.get ex
      obtain ⟨u2, e2, r2⟩ := ry.get ey
      obtain ⟨u3, e3, r3⟩ := rv.get ev
      obtain ⟨f1, l1⟩ := at_arr e1
      obtain ⟨f2, l2⟩ := at_arr e2
      obtain ⟨f3, l3⟩ := at_arr e3
      refine ⟨_, _, _, _, _, _, WalksT.zipD3 (prog := X.prog) (w := X.w) (A := X.A) S (draws_k (prog := X.prog) (w := X.w) (A := X.A.in1) (I.ok.hd hc) k1 i1 a n1 ux.toArray) (draws_k (prog := X.prog) (w := X.w) (A := X.A.in1) (I.ok.hd hc) k2 i2 b n2 uy.toArray) (draws_k (prog := X.prog) (w := X.w) (A := X.A.in1) (I.ok.hd hc) k3 i3 c n3 uv.toArray), Nat.lt_min.mpr ⟨Nat.lt_min.mpr ⟨l1, l2⟩, l3⟩, sub,
        ⟨hz, hTI, hTO, ⟨h1, px⟩, ⟨h2, py⟩, h3, pv⟩, fun h' q => ⟨q.1, q.2.1, q.2.2.1, q.2.2.2.1.1, q.2.2.2.2.1.1, q.2.2.2.2.2.1⟩, fun vals hv => ?_⟩
      obtain ⟨v1, v2, v3, g1, g2, g3, rfl⟩ := hv
      cases g1.symm.trans f1
      cases g2.symm.trans f2
      cases g3.symm.trans f3
      exact ⟨[x, y, v], .cons r1 (.cons r2 (.cons r3 .nil)), by show 3 ≤ sizeLine; decide, fun T hT => ⟨T, x, y, v, rfl, hT, rfl, fun l hl => by rw [sq_inj I hl hx]; exact ex, fun l hl => by rw [sq_inj I hl hy]; exact ey, fun l hl => by rw [sq_inj I hl ‹SqK k3 X.K H c zs›]; exact ev⟩⟩
    · obtain ⟨ux, rx, px, zx, lx⟩ := inv_sq I hx
      obtain ⟨uy, ry, py, zy, ly⟩ := inv_sq I hy
      obtain ⟨uv, rv, pv, zv, lv⟩ := inv_sq I hv
      have en : min (min ux.toArray.size uy.toArray.size) uv.toArray.size = i := by rw [List.size_toArray, List.size_toArray, List.size_toArray, ← rx.length, ← ry.length, ← rv.length, ei]
      have W := WalksT.zipD3 (prog := X.prog) (w := X.w) (A := X.A) S (draws_k (prog := X.prog) (w := X.w) (A := X.A.in1) (I.ok.hd hc) k1 i1 a n1 ux.toArray) (draws_k (prog := X.prog) (w := X.w) (A := X.A.in1) (I.ok.hd hc) k2 i2 b n2 uy.toArray) (draws_k (prog := X.prog) (w := X.w) (A := X.A.in1) (I.ok.hd hc) k3 i3 c n3 uv.toArray)
      rw [en] at W
      exact ⟨_, _, _, _, _, W, sub, hz, hTI, hTO, ⟨h1, px⟩, ⟨h2, py⟩, h3, pv⟩
def iZip3 (K : PySem.W.Frag) (ta : TA) : TI := fun σ H R => ta σ H fun vs H1 => ∃ (k1 k2 k3 : Bool) (a b c : Addr) (xs ys zs : List V), vs = [.ref a, .ref b, .ref c] ∧ SqK k1 K H1 a xs ∧ SqK k2 K H1 b ys ∧ SqK k3 K H1 c zs ∧ R (ItZ3 k1 k2 k3 K a b c) H1
theorem pi_zip3 {X : Cx} {e e2 e3 : Expr} {ta : TA} {p pos tpos : Pos} {elts : List Expr} {kk : Nat} (hg : Gl X "zip") (hm : X.mg "zip" = none) (ha : PA X [e, e2, e3] ta)
    (hs : starEach [e, e2, e3] X.env = (false, eval e X.env) :: starEach [e2, e3] X.env := by rfl) (hpl : (backTo pos (starEach [e2, e3] X.env)).any (·.1) = false := by rfl) :
    PI X (.Tuple elts kk tpos) (.Call (.Name "zip" p) [e, e2, e3] [] pos) (iZip3 X.K ta) := by
  refine ⟨fun pins s σ H R I h => ?_⟩
  refine Call_ (ld_blt I hg hm PyProof.Rows.boot_zip (PyProof.Rows.callWith_type1 (thn (ha.run pos pins s σ H _ I h) fun us s1 ⟨vs, H1, I1, r1, q1⟩ => ?_) hs hpl))
  obtain ⟨k1, k2, k3, a, b, c, xs, ys, zs, ex, hqx, hqy, hqz, q⟩ := q1
  subst ex
  cases r1 with
  | cons r rr =>
    cases rr with
    | cons r' rr =>
      cases rr with
      | cons r'' rr =>
        cases rr
        cases r
        cases r'
        cases r''
        obtain ⟨ux, rx, px, zx, lx⟩ := inv_sq I1 hqx
        obtain ⟨uy, ry, py, zy, ly⟩ := inv_sq I1 hqy
        obtain ⟨uz, rz, pz, zz, lz⟩ := inv_sq I1 hqz
        refine zip_begins3 (beg_k k1 a ux.toArray) (beg_k k2 b uy.toArray) (beg_k k3 c uz.toArray) px py pz fun h' hz hTI hTO h1 h2 h3 hsz hk => wpAny_pyIter_zip hz ?_
        have I2 : Inv X pins σ H1 { s1 with heap := h' } := I1.kept (t' := s1.toks) hk
        refine ⟨s1.heap.objs.size + 5, [s1.heap.objs.size + 5, s1.heap.objs.size + 3, s1.heap.objs.size + 4, s1.heap.objs.size, s1.heap.objs.size + 1, s1.heap.objs.size + 2], _, _, H1, rfl, I2,
          turn_zip3 k1 k2 k3 (zip_sep3 (N := s1.heap.objs.size) (fp1 := [a]) (fp2 := [b]) (fp3 := [c]) (fun d hd => by rw [List.mem_singleton.mp hd]; exact lx) (fun d hd => by rw [List.mem_singleton.mp hd]; exact ly) fun d hd => by rw [List.mem_singleton.mp hd]; exact lz)
            (Nat.ne_of_lt lx) (Nat.ne_of_lt (Nat.lt_succ_of_lt ly)) (Nat.ne_of_lt (Nat.lt_succ_of_lt (Nat.lt_succ_of_lt lz))),
          ⟨hz, hTI, ⟨_, _, _, hTO⟩, beg_iter h1, beg_iter h2, beg_iter h3⟩, fresh_fp I1 fun d hd => ?_, q⟩
        have e' : d = s1.heap.objs.size + 5 ∨ d = s1.heap.objs.size + 3 ∨ d = s1.heap.objs.size + 4 ∨ d = s1.heap.objs.size ∨ d = s1.heap.objs.size + 1 ∨ d = s1.heap.objs.size + 2 := by simpa using hd
        rcases e' with z | z | z | z | z | z <;> rw [z] <;> first | exact Nat.le_add_right _ _ | exact Nat.le_refl _
theorem walk_zip3 {k1 k2 k3 : Bool} {K : PySem.W.Frag} {a b c : Addr} {xs ys zs : List V} {n : Nat} (hn : n = min (min xs.length ys.length) zs.length) :
    Walk (ItZ3 k1 k2 k3 K a b c) n (fun H => SqK k1 K H a xs ∧ SqK k2 K H b ys ∧ SqK k3 K H c zs) (YTup fun i => xs[i]?.bind fun x => ys[i]?.bind fun y => zs[i]?.map fun z => [x, y, z]) := by
  subst hn
  refine ⟨fun i H hi q => ?_, fun H q => ⟨xs, ys, zs, q.1, q.2.1, q.2.2, rfl⟩, fun i H v H' hi q y => ?_⟩
  · obtain ⟨h12, h3⟩ := Nat.lt_min.mp hi
    obtain ⟨h1, h2⟩ := Nat.lt_min.mp h12
    exact ⟨xs, ys, zs, xs[i], ys[i], zs[i], q.1, q.2.1, q.2.2, List.getElem?_eq_getElem h1, List.getElem?_eq_getElem h2, List.getElem?_eq_getElem h3⟩
  · obtain ⟨T, x, y, z, h1, h2, h3, h4, h5, h6⟩ := y
    exact ⟨T, _, h1, h2, h3, by show Option.bind (xs[i]?) _ = _; rw [h4 xs q.1, Option.bind_some, h5 ys q.2.1, Option.bind_some, h6 zs q.2.2]; rfl⟩
end K27

set_option Elab.async false
set_option linter.all false
set_option maxRecDepth 100000
set_option maxHeartbeats 4000000
/-! KC: calls and operators on tuples that the layer lacks. -/
namespace K27
open PySem PySem.Spec PyProof.Rows L2
/-- a tuple of whole numbers -/
def RowAt (H : Hp) (v : V) (r : List Int) : Prop := ∃ p, v = .ref p ∧ H p = some (.tup (r.map V.int))
section
variable {X : Cx}
/-- sum(t) of a tuple of whole numbers -/
def rSumT (K : PySem.W.Frag) : List V → Hp → VK → Prop := fun vs H Q => ∃ (a : Addr) (ns : List Int), vs = [V.ref a] ∧ SqT K H a (ns.map V.int) ∧ Q (.int ns.sum) H
theorem cr_sumT (hc : X.calm = true) : CallR X (.builtin "sum") (rSumT X.K) := by
  intro pins s σ H vs us Q I r h
  obtain ⟨a, ns, rfl, hs, q⟩ := h
  obtain ⟨its, rv, ht, _⟩ := I.tuple hs
  rw [Vals.ref1 r]
  obtain ⟨xs, ex⟩ := rv.ints.allInts.items
  have hn : numsOf (intItems xs).toList = ns := by
    rw [← ex]
    exact rv.ints.numsOf
  rw [nums_intItems] at hn
  have ht' : s.heap.IsTuple a (intItems xs) := by
    rw [← ex]
    exact ht
  refine PySem.W.ktm_sumG (I.ok.hd hc) ht' fun h' tk t' hk => ?_
  rw [preSum_eq, List.take_of_length_le (by simp), hn]
  exact ⟨.int _, H, I.kept hk, ⟨_, rfl⟩, q⟩
/-- sum of either -/
def rSumQ (K : PySem.W.Frag) : List V → Hp → VK → Prop := fun vs H Q => rSum K vs H Q ∨ rSumT K vs H Q
theorem cr_sumQ (hc : X.calm = true) : CallR X (.builtin "sum") (rSumQ X.K) := (cr_sum hc).or (cr_sumT hc)
/-- t.count(k) of a tuple of whole numbers -/
def rCntT (K : PySem.W.Frag) : V → List V → Hp → VK → Prop := fun x xs H Q => ∃ (p : Addr) (ns : List Int) (k : Int), x = .ref p ∧ xs = [.int k] ∧ SqT K H p (ns.map V.int) ∧ Q (.int (ns.count k : Nat)) H
theorem mt_tcount : MtR X "tuple.count" (rCntT X.K) := by
  intro pins s σ H x xs v us Q I rx rxs h
  obtain ⟨p, ns, k, rfl, rfl, hs, q⟩ := h
  cases rx
  obtain ⟨u, rfl, ru⟩ := rxs.one
  obtain ⟨t, rfl⟩ := ru
  obtain ⟨its, rv, ⟨⟨cls, dd, data, sl⟩, ho, hc, n, hd⟩, _⟩ := I.tuple hs
  simp only at hc hd
  subst hc hd
  have hi := ints_of_vals rv
  refine call_meets PySem.F.slot_tuple_count ⟨_, ho, rfl⟩ PySem.F.entry_tuple_count (PySem.F.args_tuple_count_2 _ _)
    (SeqAt.tuple_countAt p its.toArray n dd sl (.int k t) (eqk k)) ⟨ho, fun y hy => (eqk_gives hi y (by simpa using hy)).at _ _, ?_⟩
  refine ⟨.int (ns.count k : Nat), H, I.tok _, ⟨s.toks, ?_⟩, q⟩
  show Value.int ((its.countP (eqk k) : Nat) : Int) s.toks = Value.int ((ns.count k : Nat) : Int) s.toks
  rw [eqk_count hi]
/-- xs[i] of a list or a tuple -/
def rIxQ (K : PySem.W.Frag) : R2 := fun x y H Q => ∃ k p xs i v, x = .ref p ∧ y = .int i ∧ SqK k K H p xs ∧ atI xs i = some v ∧ Q v H
theorem ix_q : IxR X (rIxQ X.K) := by
  intro value slice pins s σ H x y v u Q I rx ry h hsub
  obtain ⟨k, p, xs, i, w', ex, ey, hs, ha, q⟩ := h
  cases k with
  | true => exact ix_list value slice pins s σ H x y v u Q I rx ry ⟨p, xs, i, w', ex, ey, hs, ha, q⟩ hsub
  | false => exact ix_tup value slice pins s σ H x y v u Q I rx ry ⟨p, xs, i, w', ex, ey, hs, ha, q⟩ hsub
/-- sorted(xs) of rows that are in order already -/
def rSortRows (K : PySem.W.Frag) : List V → Hp → VK → Prop := fun vs H Q => ∃ (a : Addr) (xs : List V) (rows : List (List Int)), vs = [V.ref a] ∧ SqL K H a xs ∧ Paired (RowAt H) xs rows ∧ (∀ r ∈ rows, r ≠ []) ∧ rows.Pairwise (fun p q => p ≤ q) ∧
  ∀ (p : Addr) (ys : List V), H p = none → Paired (RowAt H) ys rows → Q (.ref p) (upd H p (.lst ys))
theorem le_rows : (PySem.W.dataLe false fun r : List Int => PyData.tuple (r.map PyData.int)) = fun p q => decide (p ≤ q) := by
  funext p q
  show (!PySem.W.dataLt (.tuple (q.map .int)) (.tuple (p.map .int))) = _
  rw [PySem.W.dataLt_tuple]
  show (!PySem.W.rowLt (q.map .int) (p.map .int)) = _
  rw [PySem.W.dataLt_ints]
  by_cases h : q < p
  · have h' : ¬ p ≤ q := fun r => List.not_lt.mpr r h
    simp [h, h']
  · have h' : p ≤ q := List.not_lt.mp h
    simp [h, h']
theorem each_of {R : Value → List Int → Prop} {H : Hp} (hR : ∀ v u r, RelV v u → RowAt H v r → R u r) : ∀ {xs : List V} {us : List Value} {rows : List (List Int)}, Vals xs us → Paired (RowAt H) xs rows → PySem.W.EachIs R us rows
  | _, _, _, .nil, .nil => .nil
  | _, _, _, .cons a t, .cons b u => .cons (hR _ _ _ a b) (each_of hR t u)
theorem of_each {H : Hp} : ∀ {us : List Value} {rows : List (List Int)}, PySem.W.EachIs (fun u r => ∃ p, u = Value.ref p ∧ H p = some (.tup (r.map V.int))) us rows → ∃ xs : List V, Vals xs us ∧ Paired (RowAt H) xs rows
  | _, _, .nil => ⟨[], .nil, .nil⟩
  | _, _, .cons a t => by
    obtain ⟨p, rfl, hp⟩ := a
    obtain ⟨xs, h1, h2⟩ := of_each t
    exact ⟨.ref p :: xs, .cons rfl h1, .cons ⟨p, rfl, hp⟩ h2⟩
theorem dp_row {K : PySem.W.Frag} {H : Hp} : ∀ r : List Int, DpAll K H (r.map V.int) (r.map PyData.int)
  | [] => .nil
  | n :: r => .cons (.int n) (dp_row r)
theorem depth_row : ∀ r : List Int, PyData.depthAll (r.map PyData.int) ≤ 1
  | [] => by simp [PyData.depthAll]
  | n :: r => by
    have := depth_row r
    simp only [List.map_cons, PyData.depthAll, PyData.depth]
    omega
theorem cr_sortedRows (hu : X.A.units + 64 < cLine) : CallR X (.builtin "sorted") (rSortRows X.K) := by
  intro pins s σ H vs us Q I r h
  obtain ⟨a, xs, rows, rfl, hs, hr, hne, hpw, q⟩ := h
  obtain ⟨its, rv, hl, hz⟩ := I.list hs
  rw [Vals.ref1 r]
  have hlen : rows.length = xs.length := (Paired.length hr).symm
  have e1 := each_of (R := fun u r => ∃ p, u = Value.ref p ∧ H p = some (.tup (r.map V.int))) (fun v u r a b => by
    obtain ⟨p, rfl, hp⟩ := b
    exact ⟨p, a, hp⟩) rv hr
  have e2 := each_of (R := fun u r => ∃ as, Reads s.heap u (PyData.tuple (r.map PyData.int)) as) (fun v u r a b => by
    obtain ⟨p, rfl, hp⟩ := b
    exact Dp.reads I _ _ _ (.tup (SqT.of hp) (dp_row r)) a) rv hr
  refine PySem.W.sorted_data hl.isList e1 e2 (PySem.W.AllAlike.of fun b b' => by
      show PySem.W.alike (.tuple _) (.tuple _) = true
      rw [PySem.W.alike]
      exact PySem.W.alike_ints b b') (.inl fun d hd => ?_) (by rw [hlen]; exact hz) (fun b _ => ?_) fun out ho eo => ?_
  · obtain ⟨b, hb, rfl⟩ := List.mem_map.mp hd
    cases b with
    | nil => exact absurd rfl (hne _ hb)
    | cons n b => exact ⟨_, _, rfl⟩
  · have := depth_row b
    have e : (PyData.tuple (b.map PyData.int)).depth ≤ 3 := by
      simp only [PyData.depth]
      omega
    omega
  · rw [le_rows, List.mergeSort_of_pairwise (by simpa using hpw)] at eo
    obtain ⟨ys, h1, h2⟩ := of_each eo
    obtain ⟨ep, he'⟩ := PyProof.Rows.sortedAll_at s.heap its (List.toArray out)
    have hz' : ys.length ≤ sizeLine := by rw [Paired.length h2, hlen]; exact hz
    exact ⟨.ref _, upd H (s.heap.objs.size + 1) (.lst ys), I.laid (t' := s.toks) (fun _ _ => PyProof.Rows.sortedAll_old) (Nat.le_succ _) ⟨hz', out, ep, h1, he'⟩, rfl, q _ _ (I.hok.fresh (Nat.le_succ _)) h2⟩
/-! ### (x,) * n for any small n -/
theorem tmul_one (l : Addr) (items : Array Value) (n : Nat) (dd : Option Addr) (sl : Array (Option Value)) (u : Tok) :
    Meets (Builtin.«tuple.__mul__» ⟨[.ref l, .int 1 u], []⟩) (fun _ R s => s.heap.get? l = some { cls := .type "tuple", dict := dd, data := .seq items n, slots := sl } ∧ R (.ok (.ret (.ref l))) s) :=
  .of_wp fun prog w A R s h => by
    obtain ⟨hp, g, d, tk, os⟩ := s
    obtain ⟨hl, h⟩ := h
    have f1 := AutoSeq1.idx_int
    have c0 : (decide ((1 : Int) < -(2 ^ 63)) || decide ((1 : Int) ≥ 2 ^ 63)) = false := by decide
    have c1 : (items.isEmpty || (1 : Int) == 1) = true := by simp
    wp_walk using wpAny_loadPart' hl
    repeat (first
      | (refine wpAny_ite_false (decide_eq_false (by rw [c0]; exact Bool.false_ne_true)) ?_; wp_walk using wpAny_loadPart' hl)
      | (refine wpAny_ite_true (decide_eq_true c1) ?_; wp_walk using wpAny_loadPart' hl))
    exact ⟨_, rfl, h⟩
theorem tmul_zero (l : Addr) (items : Array Value) (n : Nat) (dd : Option Addr) (sl : Array (Option Value)) (u : Tok) (hne : items.isEmpty = false) :
    Meets (Builtin.«tuple.__mul__» ⟨[.ref l, .int 0 u], []⟩) (fun _ R s => s.heap.get? l = some { cls := .type "tuple", dict := dd, data := .seq items n, slots := sl } ∧
      R (.ok (.ret (Value.ref s.heap.objs.size))) { s with heap := s.heap.push { cls := Value.type "tuple", data := Data.seq #[] }, toks := s.toks }) :=
  .of_wp fun prog w A R s h => by
    obtain ⟨hp, g, d, tk, os⟩ := s
    obtain ⟨hl, h⟩ := h
    have f1 := AutoSeq1.idx_int
    have c0 : (decide ((0 : Int) < -(2 ^ 63)) || decide ((0 : Int) ≥ 2 ^ 63)) = false := by decide
    have c1 : (items.isEmpty || (0 : Int) == 1) = false := by rw [hne]; decide
    have c2 : (decide ((0 : Int) ≤ 0) || items.isEmpty) = true := by simp
    wp_walk using wpAny_loadPart' hl
    repeat (first
      | (refine wpAny_ite_false (decide_eq_false (by rw [c0]; exact Bool.false_ne_true)) ?_; wp_walk using wpAny_loadPart' hl)
      | (refine wpAny_ite_false (decide_eq_false (by rw [c1]; exact Bool.false_ne_true)) ?_; wp_walk using wpAny_loadPart' hl)
      | (refine wpAny_ite_true (decide_eq_true c2) ?_; wp_walk using wpAny_loadPart' hl))
    exact ⟨_, rfl, h⟩
/-- t * k for 0 ≤ k ≤ 1000: t itself where k is 1, else a new tuple -/
def rRepS (K : PySem.W.Frag) : R2 := fun x y H Q => ∃ (l : Addr) (k : Nat) (xs : List V), x = .ref l ∧ y = .int (k : Int) ∧ SqT K H l xs ∧ xs ≠ [] ∧ k ≤ 1000 ∧ xs.length ≤ 1000 ∧ (k = 1 → Q (.ref l) H) ∧
  (k ≠ 1 → ∀ p, H p = none → Q (.ref p) (upd H p (.tup (List.replicate k xs).flatten)))
theorem op_repS : OpR X (binaryOp .Mult) (rRepS X.K) := by
  intro pins s σ H x y v u Q I rx ry h
  obtain ⟨l, k, xs, rfl, rfl, hT, hne, h2, hz, q1, q2⟩ := h
  by_cases hk : 2 ≤ k
  · exact op_repT pins s σ H _ _ v u Q I rx ry ⟨l, (k : Int), xs, rfl, rfl, hT, hne, by omega, by omega, hz, fun p hp => q2 (by omega) p hp⟩
  · cases rx
    obtain ⟨t, rfl⟩ := ry
    obtain ⟨its, r, ⟨⟨cls, dd, data, sl⟩, ho, hc, n, hd⟩, hs⟩ := I.tuple hT
    simp only at hc hd
    subst hc hd
    have hi : its.toArray.isEmpty = false := by
      cases its with
      | nil =>
        cases r
        exact absurd rfl hne
      | cons a b => rfl
    refine wpAny_binaryOp_repeat_ref (T := "tuple") (U := "int") (by decide) ⟨_, ho, rfl⟩ (fun s' => typeIs_int s' _ t) noFill_tuple_mul F.fills_int_mul F.slot_int_rmul repeat_tuple F.slot_int_index.lookup
      (call_meets F.slot_int_rmul (typeIs_int s _ t) F.entry_int_rmul (F.args_int_rmul_2 _ _) (int_rmul_tuple _ t l its.toArray n dd sl) ⟨ho, rfl, ⟨_, ho, rfl⟩, ?_⟩)
    have hk01 : k = 0 ∨ k = 1 := by omega
    rcases hk01 with rfl | rfl
    · refine call_meets F.slot_tuple_mul ⟨_, ho, rfl⟩ F.entry_tuple_mul (F.args_tuple_mul_2 _ _) (tmul_zero l its.toArray n dd sl t hi) ⟨ho, ?_⟩
      refine ⟨.ref s.heap.objs.size, _, I.laid (t' := s.toks) (o := .tup []) (fun b ob q => Heap.get?_push_of_some _ q) (Nat.le_refl _) ?_, rfl, q2 (by decide) _ (I.hok.fresh (Nat.le_refl _))⟩
      exact ⟨Nat.zero_le _, [], .nil, IsTup.new _ _⟩
    · exact call_meets F.slot_tuple_mul ⟨_, ho, rfl⟩ F.entry_tuple_mul (F.args_tuple_mul_2 _ _) (tmul_one l its.toArray n dd sl t) ⟨ho, .ref l, H, I.tok _, rfl, q1 rfl⟩
end
end K27

set_option Elab.async false
set_option linter.all false
set_option maxRecDepth 100000
set_option maxHeartbeats 4000000
/-! KD: the text by places, what stands behind the top, how a def is called, comprehensions by what they fill. -/
namespace K27
open PySem PySem.Spec PyProof.Rows L2
open Evl (Ex)
def topS (i : Nat) : Stmt := PySem.Challenge.pw_ringclaims_k27_whole_kinds_by_all_openin.main.body.getD i (.Pass ⟨0, 0, 0, 0⟩)
/-! ### what the top leaves -/
structure Txt (K : PySem.W.Frag) (mg : Str → Option Value) : Prop where
  b_len : mg "len" = none
  b_sum : mg "sum" = none
  b_max : mg "max" = none
  b_min : mg "min" = none
  b_any : mg "any" = none
  b_all : mg "all" = none
  b_isinstance : mg "isinstance" = none
  b_abs : mg "abs" = none
  b_sorted : mg "sorted" = none
  b_zip : mg "zip" = none
  b_enumerate : mg "enumerate" = none
  b_range : mg "range" = none
  b_int : mg "int" = none
  b_bool : mg "bool" = none
  b_list : mg "list" = none
  b_tuple : mg "tuple" = none
  c_MOST_KINDS : ∃ t, mg "MOST_KINDS" = some (.int 12 t)
  c_MOST_FULL : ∃ t, mg "MOST_FULL" = some (.int 2000 t)
  c_MOST_FULL_CELLS : ∃ t, mg "MOST_FULL_CELLS" = some (.int 60 t)
  c_MOST_FULL_KINDS : ∃ t, mg "MOST_FULL_KINDS" = some (.int 4 t)
  c_MOST_CELLS : ∃ t, mg "MOST_CELLS" = some (.int 1000000000000000000000000000000 t)
  c_MOST_COUNT : ∃ t, mg "MOST_COUNT" = some (.int 1000000000 t)
/-- a def that stands: its text, where the module holds it, how its arguments bind -/
structure Own (K : PySem.W.Frag) (mg : Str → Option Value) (x : Str) (st : Stmt) (ps : List Str) : Prop where
  ex : ∃ (f : Addr) (fd : FuncData), Fun K x x st f fd ∧ mg x = some (.ref f) ∧ Binds K fd ps []
/-- a def that keeps its promise -/
structure Cal (P : Program) (w : World) (K : PySem.W.Frag) (mg : Str → Option Value) (base : Heap) (CX : CXT) (k : Nat) (x : Str) (ps : List Str) (sp : Sp) : Prop where
  ex : ∃ (f : Addr) (fd : FuncData), FnOk P w K mg base CX k f fd ps sp ∧ mg x = some (.ref f) ∧ PySem.W.keepIn K (.ref f) = true ∧ Binds K fd ps []
theorem Own.cal {P : Program} {w : World} {K : PySem.W.Frag} {mg : Str → Option Value} {base : Heap} {CX : CXT} {k : Nat} {x : Str} {st : Stmt} {ps : List Str} {sp : Sp} (o : Own K mg x st ps)
    (h : ∀ (f : Addr) (fd : FuncData), Fun K x x st f fd → FnOk P w K mg base CX k f fd ps sp) : Cal P w K mg base CX k x ps sp :=
  let ⟨f, fd, F, g, b⟩ := o.ex
  ⟨f, fd, h f fd F, g, F.kp, b⟩
theorem pe_cal {X : Cx} {k : Nat} {x : Str} {ps : List Str} {sp : Sp} {e : Expr} {es : List Expr} {t : TA} {p pos : Pos} (C : Cal X.prog X.w X.K X.mg X.base CX0 k x ps sp) (hr : Room k X.A) (ha : PA X (e :: es) t) (hg : Gl X x := by rfl)
    (he : starEach (e :: es) X.env = (false, eval e X.env) :: starEach es X.env := by rfl) (hpl : (backTo pos (starEach es X.env)).any (·.1) = false := by rfl) (hdb : (x == ("__debug__" : Str)) = false := by decide) : PE X (.Call (.Name x p) (e :: es) [] pos) (tCall sp [] E0 t) := by
  obtain ⟨f, fd, F, g, kp, b⟩ := C.ex
  exact pe_call F hr hg g kp b .nil pass0 ha hdb he hpl
/-! ### heaps: what may change -/
/-- all is kept but what stands at the places S -/
def ExB (S : Addr → Prop) (H H' : Hp) : Prop := ∀ a o, ¬ S a → H a = some o → H' a = some o
abbrev S0 : Addr → Prop := fun _ => False
theorem ExB.refl {S : Addr → Prop} (H : Hp) : ExB S H H := fun _ _ _ h => h
theorem ExB.trans {S : Addr → Prop} {H H1 H2 : Hp} (a : ExB S H H1) (b : ExB S H1 H2) : ExB S H H2 := fun x o n h => b x o n (a x o n h)
theorem ExB.of {S : Addr → Prop} {H H' : Hp} (e : Ex H H') : ExB S H H' := fun a o _ h => e a o h
theorem ExB.ex {H H' : Hp} (e : ExB S0 H H') : Ex H H' := fun a o h => e a o (fun z => z) h
theorem ExB.new {S : Addr → Prop} {H H' : Hp} {p : Addr} {o : HO} (e : ExB S H H') (h : H p = none) : ExB S H (upd H' p o) := fun a u n ha => by
  rw [upd_ne (ne_of_none ha h)]
  exact e a u n ha
/-- tuples stay, known things stay -/
def StayO (o : HO) : Prop := (∃ xs, o = .tup xs) ∨ ∃ ob u, o = .frz ob u
def Tups (H H' : Hp) : Prop := ∀ p o, StayO o → H p = some o → H' p = some o
theorem Tups.of {H H' : Hp} (e : Ex H H') : Tups H H' := fun p o _ h => e p _ h
theorem Tups.tup {H H' : Hp} {p : Addr} {xs : List V} (t : Tups H H') (h : H p = some (.tup xs)) : H' p = some (.tup xs) := t p _ (.inl ⟨_, rfl⟩) h
theorem Tups.frz {H H' : Hp} {p : Addr} {o : Obj} {u : HO} (t : Tups H H') (h : H p = some (.frz o u)) : H' p = some (.frz o u) := t p _ (.inr ⟨_, _, rfl⟩) h
theorem Tups.trans {H H1 H2 : Hp} (a : Tups H H1) (b : Tups H1 H2) : Tups H H2 := fun p xs k h => b p xs k (a p xs k h)
theorem Tups.lst {H : Hp} {D : Addr} {xs ys : List V} (h : H D = some (.lst xs)) : Tups H (upd H D (.lst ys)) := fun p o k e => by
  rw [upd_ne (ne_of e h (by
    intro z
    subst z
    rcases k with ⟨_, k⟩ | ⟨_, _, k⟩ <;> cases k))]
  exact e
/-- a relation of a value and a datum that leans on tuples alone -/
def TMono {α : Type} (R : Hp → V → α → Prop) : Prop := ∀ H H' v a, Tups H H' → R H v a → R H' v a
theorem Paired.up {α : Type} {R : Hp → V → α → Prop} (hR : TMono R) {H H' : Hp} (t : Tups H H') {xs : List V} {zs : List α} (h : Paired (R H) xs zs) : Paired (R H') xs zs := Paired.mapP h fun a b r => hR H H' a b t r
theorem Paired.snoc {α : Type} {F : V → α → Prop} : ∀ {xs : List V} {zs : List α} {x : V} {z : α}, Paired F xs zs → F x z → Paired F (xs ++ [x]) (zs ++ [z])
  | _, _, _, _, .nil, h => .cons h .nil
  | _, _, _, _, .cons a t, h => .cons a (Paired.snoc t h)
def RInt : Hp → V → Int → Prop := fun _ v i => v = .int i
def RBl : Hp → V → Bool → Prop := fun _ v b => v = .bl b
theorem tm_int : TMono RInt := fun _ _ _ _ _ h => h
theorem tm_bl : TMono RBl := fun _ _ _ _ _ h => h
theorem tm_row : TMono RowAt := fun H H' v a t ⟨p, e, h⟩ => ⟨p, e, t.tup h⟩
theorem pair_int {H : Hp} : ∀ {xs : List V} {ns : List Int}, Paired (RInt H) xs ns → xs = ns.map V.int
  | _, _, .nil => rfl
  | _, _, .cons a t => by
    have a' : _ = V.int _ := a
    rw [a', pair_int t]
    rfl
theorem pair_bl {H : Hp} : ∀ {xs : List V} {bs : List Bool}, Paired (RBl H) xs bs → xs = bs.map V.bl
  | _, _, .nil => rfl
  | _, _, .cons a t => by
    have a' : _ = V.bl _ := a
    rw [a', pair_bl t]
    rfl
/-! ### comprehensions -/
theorem lc_fill {J : It} {n : Nat} {G : Hp → Prop} {Y : Nat → Hp → V → Hp → Prop} (w : Walk J n G Y) {σ : L2.St} {H1 : Hp} {g : TG} {tt : TT} {te : TE} {vs : List Nat} {D : Addr} {Qd : Hp → Prop} {α : Type} (hDn : H1 D = none) (S : Addr → Prop) (R : Hp → V → α → Prop) (hR : TMono R)
    (I : Nat → List α → Hp → Prop) (hS : ∀ a, S a → H1 a ≠ none) (h0 : I 0 [] H1) (hD : ∀ D ys i zs H, H1 D = none → I i zs H → I i zs (upd H D (.lst ys))) (hG : ∀ i zs H, i ≤ n → I i zs H → G H) (sz : n ≤ 100000) (hlen : ∀ i zs H, I i zs H → zs.length ≤ i)
    (tups : ∀ i zs H H', ExB S H H' → ExB S H1 H → I i zs H → Tups H H')
    (turn : ∀ i zs x H H' (K1 : VK) (K2 : Hp → Prop), i < n → I i zs H → ExB S H1 H → Y i H x H' → (∀ y H4 a, R H4 y a → ExB S H H4 → I (i + 1) (zs ++ [a]) H4 → K1 y H4) → (∀ H3, ExB S H H3 → I (i + 1) zs H3 → K2 H3) →
      g x (wipe σ vs) H' fun σ2 H2 => wipe σ2 vs = wipe σ vs ∧ tt σ2 H2 fun b H3 => if b = true then te σ2 H3 K1 else K2 H3)
    (done : ∀ H2 xs zs, ExB S H1 H2 → H2 D = some (.lst xs) → Paired (R H2) xs zs → I n zs H2 → Qd H2) :
    ∃ W : Nat → Nat → Hp → Prop, (∃ m, W 0 m (upd H1 D (.lst []))) ∧ ∀ i m H, W i m H →
      (J.stop i H ∧ Qd H) ∨ (J.go i H ∧ ∃ Nx : Hp → Prop, (∀ H', Nx H' → ∃ m', m' < m ∧ W (i + 1) m' H') ∧ ∀ x H', J.yld i H x H' → g x (wipe σ vs) H' fun σ2 H2 => wipe σ2 vs = wipe σ vs ∧ tt σ2 H2 fun b H3 =>
        if b = true then te σ2 H3 fun y H4 => ∃ acc, H4 D = some (.lst acc) ∧ acc.length < sizeLine ∧ Nx (upd H4 D (.lst (acc ++ [y]))) else Nx H3) := by
  have nS : ¬ S D := fun z => hS D z hDn
  refine lc_it w (Qd := Qd) (fun i H => ExB S H1 H ∧ ∃ zs acc, I i zs H ∧ H D = some (.lst acc) ∧ Paired (R H) acc zs) ⟨(ExB.refl _).new hDn, [], [], hD D [] 0 [] H1 hDn h0, upd_same, .nil⟩ (fun i H hi ⟨_, zs, acc, p, _⟩ => hG i zs H hi p) (fun i x H H' hi ⟨eb, zs, acc, p, hacc, hr⟩ y => ?_) fun H ⟨eb, zs, acc, p, hacc, hr⟩ => done H acc zs eb hacc hr p
  refine turn i zs x H H' _ _ hi p eb y (fun y H4 a ra e4 p4 => ?_) fun H3 e3 p3 => ?_
  · have h4 := e4 D _ nS hacc
    have t4 := tups i zs H H4 e4 eb p
    have la : acc.length < sizeLine := by
      have z1 := Paired.length hr
      have z2 := hlen i zs H p
      exact Nat.lt_of_le_of_lt (by omega) (show 100000 < sizeLine by decide)
    exact ⟨acc, h4, la, (eb.trans e4).new hDn, zs ++ [a], acc ++ [y], hD D _ _ _ _ hDn p4, upd_same, Paired.up hR (Tups.lst h4) (Paired.snoc (Paired.up hR t4 hr) ra)⟩
  · exact ⟨eb.trans e3, zs, acc, p3, e3 D _ nS hacc, Paired.up hR (tups i zs H H3 e3 eb p) hr⟩
/-- a comprehension without a test whose turns change nothing that stands: it fills the list ms -/
theorem lc_pure {J : It} {n : Nat} {G : Hp → Prop} {Y : Nat → Hp → V → Hp → Prop} (w : Walk J n G Y) {σ : L2.St} {H1 : Hp} {g : TG} {te : TE} {vs : List Nat} {D : Addr} {Qd : Hp → Prop} {α : Type} {R : Hp → V → α → Prop} (hDn : H1 D = none) (hR : TMono R) (ms : List α) (hn : ms.length = n)
    (hG : ∀ H, Ex H1 H → G H) (sz : n ≤ 100000)
    (turn : ∀ i m x H H' (K1 : VK), ms[i]? = some m → Ex H1 H → Y i H x H' → (∀ y H4, Ex H H4 → R H4 y m → K1 y H4) → g x (wipe σ vs) H' fun σ2 H2 => wipe σ2 vs = wipe σ vs ∧ te σ2 H2 K1)
    (mono : ∀ x σ H (A B : L2.St → Hp → Prop), (∀ σ2 H2, A σ2 H2 → B σ2 H2) → g x σ H A → g x σ H B)
    (done : ∀ H2 xs, Ex H1 H2 → H2 D = some (.lst xs) → Paired (R H2) xs ms → Qd H2) :
    ∃ W : Nat → Nat → Hp → Prop, (∃ m, W 0 m (upd H1 D (.lst []))) ∧ ∀ i m H, W i m H →
      (J.stop i H ∧ Qd H) ∨ (J.go i H ∧ ∃ Nx : Hp → Prop, (∀ H', Nx H' → ∃ m', m' < m ∧ W (i + 1) m' H') ∧ ∀ x H', J.yld i H x H' → g x (wipe σ vs) H' fun σ2 H2 => wipe σ2 vs = wipe σ vs ∧ tYes σ2 H2 fun b H3 =>
        if b = true then te σ2 H3 fun y H4 => ∃ acc, H4 D = some (.lst acc) ∧ acc.length < sizeLine ∧ Nx (upd H4 D (.lst (acc ++ [y]))) else Nx H3) :=
  lc_fill w hDn S0 R hR (fun i zs H => Ex H1 H ∧ zs = ms.take i) (fun _ z => z.elim) ⟨Ex.refl _, rfl⟩ (fun D ys i zs H hD ⟨e, q⟩ => ⟨Ex.mut e hD, q⟩) (fun i zs H _ p => hG H p.1) sz (fun i zs H p => by
      rw [p.2]
      exact Nat.le_trans (List.length_take_le _ _) (Nat.le_refl _)) (fun _ _ H H' e _ _ => Tups.of e.ex)
    (fun i zs x H H' K1 K2 hi p eb y k1 _ => by
      obtain ⟨ex, rfl⟩ := p
      have hm : ms[i]? = some (ms[i]'(by omega)) := List.getElem?_eq_getElem (by omega)
      refine mono x _ H' _ _ (fun σ2 H2 q => ⟨q.1, (iteT q.2 : if true = true then te σ2 H2 K1 else K2 H2)⟩) (turn i _ x H H' K1 hm ex y fun y H4 e4 r => k1 y H4 _ r (ExB.of e4) ⟨ex.trans e4, ?_⟩)
      rw [List.take_add_one, hm]
      rfl)
    (fun H2 xs zs eb hx hp p => done H2 xs p.1 hx (by
      have z := p.2
      rw [List.take_of_length_le (by omega)] at z
      rw [← z]
      exact hp))
theorem mono_name {i : Nat} (x : V) (σ : L2.St) (H : Hp) (A B : L2.St → Hp → Prop) (h : ∀ σ2 H2, A σ2 H2 → B σ2 H2) (q : gName i x σ H A) : gName i x σ H B := h _ _ q
theorem mono_tup {K : PySem.W.Frag} {n : Nat} {t : TGs} (ht : ∀ xs σ H (A B : L2.St → Hp → Prop), (∀ σ2 H2, A σ2 H2 → B σ2 H2) → t xs σ H A → t xs σ H B) (x : V) (σ : L2.St) (H : Hp) (A B : L2.St → Hp → Prop) (h : ∀ σ2 H2, A σ2 H2 → B σ2 H2) (q : gTup K n t x σ H A) : gTup K n t x σ H B := by
  obtain ⟨a, xs, e, hq, hl, hw⟩ := q
  exact ⟨a, xs, e, hq, hl, ht xs σ H A B h hw⟩
theorem mono_nil (xs : List V) (σ : L2.St) (H : Hp) (A B : L2.St → Hp → Prop) (h : ∀ σ2 H2, A σ2 H2 → B σ2 H2) (q : gNil xs σ H A) : gNil xs σ H B := ⟨q.1, h _ _ q.2⟩
theorem mono_cons {t : TG} {u : TGs} (ht : ∀ x σ H (A B : L2.St → Hp → Prop), (∀ σ2 H2, A σ2 H2 → B σ2 H2) → t x σ H A → t x σ H B) (hu : ∀ xs σ H (A B : L2.St → Hp → Prop), (∀ σ2 H2, A σ2 H2 → B σ2 H2) → u xs σ H A → u xs σ H B)
    (xs : List V) (σ : L2.St) (H : Hp) (A B : L2.St → Hp → Prop) (h : ∀ σ2 H2, A σ2 H2 → B σ2 H2) (q : gCons t u xs σ H A) : gCons t u xs σ H B := by
  obtain ⟨v, r, e, hw⟩ := q
  exact ⟨v, r, e, ht v σ H _ _ (fun σ2 H2 z => hu r σ2 H2 A B h z) hw⟩
/-- a pair, a triple opened into names -/
theorem mono_t2 {K : PySem.W.Frag} {i j : Nat} (x : V) (σ : L2.St) (H : Hp) (A B : L2.St → Hp → Prop) (h : ∀ σ2 H2, A σ2 H2 → B σ2 H2) (q : gTup K 2 (gCons (gName i) (gCons (gName j) gNil)) x σ H A) : gTup K 2 (gCons (gName i) (gCons (gName j) gNil)) x σ H B :=
  mono_tup (mono_cons mono_name (mono_cons mono_name mono_nil)) x σ H A B h q
theorem mono_t3 {K : PySem.W.Frag} {i j k : Nat} (x : V) (σ : L2.St) (H : Hp) (A B : L2.St → Hp → Prop) (h : ∀ σ2 H2, A σ2 H2 → B σ2 H2) (q : gTup K 3 (gCons (gName i) (gCons (gName j) (gCons (gName k) gNil))) x σ H A) : gTup K 3 (gCons (gName i) (gCons (gName j) (gCons (gName k) gNil))) x σ H B :=
  mono_tup (mono_cons mono_name (mono_cons mono_name (mono_cons mono_name mono_nil))) x σ H A B h q
theorem get_t2 {K : PySem.W.Frag} {i j : Nat} {T : Addr} {x y : V} {σ : L2.St} {H : Hp} {A : L2.St → Hp → Prop} (h : H T = some (.tup [x, y])) (q : A ((σ.set i (some x)).set j (some y)) H) : gTup K 2 (gCons (gName i) (gCons (gName j) gNil)) (.ref T) σ H A :=
  ⟨T, [x, y], rfl, SqT.of h, rfl, x, [y], rfl, y, [], rfl, rfl, q⟩
theorem get_t3 {K : PySem.W.Frag} {i j k : Nat} {T : Addr} {x y z : V} {σ : L2.St} {H : Hp} {A : L2.St → Hp → Prop} (h : H T = some (.tup [x, y, z])) (q : A (((σ.set i (some x)).set j (some y)).set k (some z)) H) :
    gTup K 3 (gCons (gName i) (gCons (gName j) (gCons (gName k) gNil))) (.ref T) σ H A :=
  ⟨T, [x, y, z], rfl, SqT.of h, rfl, x, [y, z], rfl, y, [z], rfl, z, [], rfl, rfl, q⟩
/-! ### what an enumerate, a zip gave -/
theorem enum_got {xs : List V} {i : Nat} {vs : List V} (h : (fun i => xs[i]?.map fun x => [V.int ((i : Nat) : Int), x]) i = some vs) : ∃ x, xs[i]? = some x ∧ vs = [.int (i : Int), x] := by
  have h : (xs[i]?.map fun x => [V.int ((i : Nat) : Int), x]) = some vs := h
  cases e : xs[i]? with
  | none =>
    rw [e] at h
    cases h
  | some x =>
    rw [e] at h
    exact ⟨x, rfl, (Option.some.inj h).symm⟩
theorem zip2_got {xs ys : List V} {i : Nat} {vs : List V} (h : (fun i => xs[i]?.bind fun x => ys[i]?.map fun y => [x, y]) i = some vs) : ∃ x y, xs[i]? = some x ∧ ys[i]? = some y ∧ vs = [x, y] := by
  have h : (xs[i]?.bind fun x => ys[i]?.map fun y => [x, y]) = some vs := h
  cases e : xs[i]? with
  | none =>
    rw [e] at h
    cases h
  | some x =>
    rw [e, Option.bind_some] at h
    cases e2 : ys[i]? with
    | none =>
      rw [e2] at h
      cases h
    | some y =>
      rw [e2] at h
      exact ⟨x, y, rfl, rfl, (Option.some.inj h).symm⟩
theorem zip3_got {xs ys zs : List V} {i : Nat} {vs : List V} (h : (fun i => xs[i]?.bind fun x => ys[i]?.bind fun y => zs[i]?.map fun z => [x, y, z]) i = some vs) :
    ∃ x y z, xs[i]? = some x ∧ ys[i]? = some y ∧ zs[i]? = some z ∧ vs = [x, y, z] := by
  have h : (xs[i]?.bind fun x => ys[i]?.bind fun y => zs[i]?.map fun z => [x, y, z]) = some vs := h
  cases e : xs[i]? with
  | none =>
    rw [e] at h
    cases h
  | some x =>
    rw [e, Option.bind_some] at h
    cases e2 : ys[i]? with
    | none =>
      rw [e2] at h
      cases h
    | some y =>
      rw [e2, Option.bind_some] at h
      cases e3 : zs[i]? with
      | none =>
        rw [e3] at h
        cases h
      | some z =>
        rw [e3] at h
        exact ⟨x, y, z, rfl, rfl, rfl, (Option.some.inj h).symm⟩
theorem map_got {α β : Type} {f : α → β} {ns : List α} {i : Nat} {x : β} (h : (ns.map f)[i]? = some x) : ∃ c, ns[i]? = some c ∧ x = f c := by
  rw [List.getElem?_map] at h
  cases e : ns[i]? with
  | none =>
    rw [e] at h
    cases h
  | some c =>
    rw [e] at h
    exact ⟨c, rfl, (Option.some.inj h).symm⟩
/-! ### data -/
structure Kd where
  w : Int
  b : Int
  f : Int
def KindAt : Hp → V → Kd → Prop := fun H v k => ∃ p, v = .ref p ∧ H p = some (.tup [.int k.w, .int k.b, .int k.f])
theorem tm_kind : TMono KindAt := fun H H' v a t ⟨p, e, h⟩ => ⟨p, e, t.tup h⟩
theorem SqK.up {k : Bool} {K : PySem.W.Frag} {H H' : Hp} {a : Addr} {xs : List V} (e : Ex H H') (h : SqK k K H a xs) : SqK k K H' a xs := by
  cases k with
  | true => exact Evl.ex_l e h
  | false => exact Evl.ex_t e h
/-- a tracked list (k = true) or tuple (k = false) -/
def Tk (k : Bool) (H : Hp) (a : Addr) (xs : List V) : Prop := match k with
  | true => H a = some (.lst xs)
  | false => H a = some (.tup xs)
theorem Tk.sq {k : Bool} {K : PySem.W.Frag} {H : Hp} {a : Addr} {xs : List V} (h : Tk k H a xs) : SqK k K H a xs := by
  cases k with
  | true => exact SqL.of h
  | false => exact SqT.of h
theorem Tk.up {k : Bool} {H H' : Hp} {a : Addr} {xs : List V} (e : Ex H H') (h : Tk k H a xs) : Tk k H' a xs := by
  cases k with
  | true => exact e _ _ h
  | false => exact e _ _ h
theorem Tk.lt {k : Bool} {K : PySem.W.Frag} {H : Hp} {a : Addr} {xs : List V} (h : Tk k H a xs) : SqL K H a xs ∨ SqT K H a xs := by
  cases k with
  | true => exact .inl (SqL.of h)
  | false => exact .inr (SqT.of h)
theorem Tk.some {k : Bool} {H : Hp} {a : Addr} {xs : List V} (h : Tk k H a xs) : H a ≠ none := by
  cases k with
  | true =>
    rw [show H a = _ from h]
    exact fun z => nomatch z
  | false =>
    rw [show H a = _ from h]
    exact fun z => nomatch z
def tyK (k : Bool) : String := match k with
  | true => "list"
  | false => "tuple"
theorem Tk.ty {k : Bool} {K : PySem.W.Frag} {H : Hp} {a : Addr} {xs : List V} (h : Tk k H a xs) : TyX K H (.ref a) (.type (tyK k)) := by
  cases k with
  | true => exact .base (.lst h)
  | false => exact .base (.tup h)
/-- isinstance(.., (list, tuple)) of such -/
theorem kit_lt (k : Bool) (K : PySem.W.Frag) : PySem.W.kitAny K (.type (tyK k)) [.type "list", .type "tuple"] = Option.some true := by
  cases k with
  | true => exact kitAny_cons (b := true) (kit_ty (by decide +kernel)) (fun z => nomatch z) fun _ => rfl
  | false => exact kitAny_cons (b := false) (kit_ty (by decide +kernel)) (fun _ => kitAny_cons (b := true) (kit_ty (by decide +kernel)) (fun z => nomatch z) fun _ => rfl) fun z => nomatch z
/-- a book: a list or a tuple of kinds -/
def BookAt (H : Hp) (k : Bool) (a : Addr) (bk : List Kd) : Prop := ∃ xs, Tk k H a xs ∧ Paired (KindAt H) xs bk
theorem BookAt.up {k : Bool} {H H' : Hp} {a : Addr} {bk : List Kd} (e : Ex H H') (h : BookAt H k a bk) : BookAt H' k a bk :=
  let ⟨xs, h1, h2⟩ := h
  ⟨xs, h1.up e, Paired.up tm_kind (Tups.of e) h2⟩
abbrev IntsAt (H : Hp) (k : Bool) (a : Addr) (ns : List Int) : Prop := Tk k H a (ns.map V.int)
theorem KindAt.up {H H' : Hp} {v : V} {k : Kd} (e : Ex H H') (h : KindAt H v k) : KindAt H' v k := tm_kind H H' v k (Tups.of e) h
theorem paired_len {α β : Type} {F : α → β → Prop} {xs : List α} {ys : List β} (h : Paired F xs ys) : xs.length = ys.length := Paired.length h
theorem paired_at {α β : Type} {F : α → β → Prop} : ∀ {xs : List α} {ys : List β} {i : Nat} {x : α}, Paired F xs ys → xs[i]? = some x → ∃ y, ys[i]? = some y ∧ F x y
  | _, _, _, _, .nil, e => by simp at e
  | _, _, 0, _, .cons r _, e => by
    simp at e
    subst e
    exact ⟨_, rfl, r⟩
  | _, _, i + 1, x, .cons _ t, e => by
    obtain ⟨y, h1, h2⟩ := paired_at (i := i) (x := x) t (by simpa using e)
    exact ⟨y, by simpa using h1, h2⟩
theorem paired_at' {α β : Type} {F : α → β → Prop} : ∀ {xs : List α} {ys : List β} {i : Nat} {y : β}, Paired F xs ys → ys[i]? = some y → ∃ x, xs[i]? = some x ∧ F x y
  | _, _, _, _, .nil, e => by simp at e
  | _, _, 0, _, .cons r _, e => by
    simp at e
    subst e
    exact ⟨_, rfl, r⟩
  | _, _, i + 1, x, .cons _ t, e => by
    obtain ⟨y, h1, h2⟩ := paired_at' (i := i) (y := x) t (by simpa using e)
    exact ⟨y, by simpa using h1, h2⟩
structure GoodK (k : Kd) : Prop where
  w1 : 1 ≤ k.w
  b1 : 1 ≤ k.b
  f1 : 1 ≤ k.f
  w2 : k.w ≤ 1000000000000000000000000000000
  b2 : k.b ≤ 1000000000000000000000000000000
  f2 : k.f ≤ 1000000000000000000000000000000
  bw : k.b < k.w
  fw : k.f < k.w
  le : k.w ≤ k.f + k.b
structure GoodB (bk : List Kd) : Prop where
  one : 1 ≤ bk.length
  most : bk.length ≤ 12
  all : ∀ k ∈ bk, GoodK k
/-- counts for a book -/
structure GoodC (bk : List Kd) (cs : List Int) : Prop where
  len : cs.length = bk.length
  pos : ∀ c ∈ cs, 0 ≤ c
  most : ∀ c ∈ cs, c ≤ 1000000000
end K27

set_option Elab.async false
set_option linter.all false
set_option maxRecDepth 100000
set_option maxHeartbeats 4000000
/-! KF: is_integer, is_within, is_kind, check_kinds, are_counts, check_book, check_cells, aside. -/
namespace K27
open PySem PySem.Spec PyProof.Rows L2
open Evl (Ex)
section
variable {P : Program} {w : World} {K : PySem.W.Frag} {mg : Str → Option Value} {base : Heap}
/-! ### is_integer -/
abbrev s_is_integer : Stmt := topS 8
theorem sc_is_integer : FnScope ["thing"] ["thing"] (defScope s_is_integer) := ⟨rfl, rfl, rfl, by decide +kernel, rfl, by decide +kernel, by decide +kernel⟩
def isI : V → Bool
  | .int _ => true
  | _ => false
/-- an int or a bool -/
def IB (v : V) : Prop := (∃ i, v = .int i) ∨ ∃ b, v = .bl b
def sp_is_integer : Sp := fun vs H Q _ => ∃ v, vs = [v] ∧ IB v ∧ ∀ H', Ex H H' → Q (.bl (isI v)) H'
theorem ok_is_integer (T : Txt K mg) (o : Own K mg "is_integer" s_is_integer ["thing"]) : Cal P w K mg base CX0 1 "is_integer" ["thing"] sp_is_integer := o.cal fun f fd F => by
  refine F.ok sc_is_integer (fun vs H Q E h => ?_) (fun cdv A outer s H vs Q E hr h => ?_)
  · obtain ⟨v, rfl, _⟩ := h
    rfl
  · obtain ⟨v, rfl, hv, q⟩ := h
    refine ⟨_, (pss_one (ps_ret (pe_and (pe_callB (r := rIsi K) call_isi (by rfl) T.b_isinstance (by decide +kernel) (pa_cons (pv 0) (pa_cons (pe_bltn (v := .ty "int") (by rfl) T.b_int (by decide +kernel) rfl) pa_nil))) (pe_one (pe_not (pe_callB (r := rIsi K) call_isi (by rfl) T.b_isinstance (by decide +kernel) (pa_cons (pv 0) (pa_cons (pe_bltn (v := .ty "bool") (by rfl) T.b_bool (by decide +kernel) rfl) pa_nil)))))))), ?_⟩
    rcases hv with ⟨i, rfl⟩ | ⟨b, rfl⟩
    · refine ⟨_, rfl, _, _, _, _, true, rfl, .ty "int", .base (.int i), kit_ty (by decide +kernel), true, rfl, iteT ?_⟩
      exact ⟨_, rfl, _, _, _, _, false, rfl, .ty "bool", .base (.int i), kit_ty (by decide +kernel), false, rfl, q _ (Ex.refl _)⟩
    · refine ⟨_, rfl, _, _, _, _, true, rfl, .ty "int", .base (.bl b), kit_ty (by decide +kernel), true, rfl, iteT ?_⟩
      exact ⟨_, rfl, _, _, _, _, true, rfl, .ty "bool", .base (.bl b), kit_ty (by decide +kernel), true, rfl, q _ (Ex.refl _)⟩
/-! ### is_within -/
abbrev s_is_within : Stmt := topS 9
theorem sc_is_within : FnScope ["thing", "least", "most"] ["thing", "least", "most"] (defScope s_is_within) := ⟨rfl, rfl, rfl, by decide +kernel, rfl, by decide +kernel, by decide +kernel⟩
def within (v : V) (lo hi : Int) : Bool := match v with
  | .int i => decide (lo ≤ i) && decide (i ≤ hi)
  | _ => false
def sp_is_within : Sp := fun vs H Q _ => ∃ v lo hi, vs = [v, .int lo, .int hi] ∧ IB v ∧ ∀ H', Ex H H' → Q (.bl (within v lo hi)) H'
theorem ok_is_within (T : Txt K mg) (c_is_integer : Cal P w K mg base CX0 1 "is_integer" ["thing"] sp_is_integer) (o : Own K mg "is_within" s_is_within ["thing", "least", "most"]) : Cal P w K mg base CX0 2 "is_within" ["thing", "least", "most"] sp_is_within := o.cal fun f fd F => by
  refine F.ok sc_is_within (fun vs H Q E h => ?_) (fun cdv A outer s H vs Q E hr h => ?_)
  · obtain ⟨v, lo, hi, rfl, _⟩ := h
    rfl
  · obtain ⟨v, lo, hi, rfl, hv, q⟩ := h
    have hr_is_integer : Room 1 _ := hr
    refine ⟨_, (pss_one (ps_ret (pe_and (pe_cal c_is_integer hr_is_integer (pa_cons (pv 0) pa_nil)) (pe_one (pe_chain op_le op_le (pv 1) (pv 0) (pv 2)))))), ?_⟩
    refine ⟨_, rfl, v, rfl, hv, fun H1 e1 => ⟨_, rfl, ?_⟩⟩
    rcases hv with ⟨i, rfl⟩ | ⟨b, rfl⟩
    · refine iteT ⟨_, rfl, _, rfl, _, _, rfl, rfl, _, rfl, ?_⟩
      have z : Q (.bl (decide (lo ≤ i) && decide (i ≤ hi))) H1 := q H1 e1
      cases e : decide (lo ≤ i) with
      | true =>
        rw [e, Bool.true_and] at z
        exact iteT ⟨_, rfl, _, _, rfl, rfl, z⟩
      | false =>
        rw [e, Bool.false_and] at z
        exact iteF z
    · exact iteF (q H1 e1)
/-! ### aside -/
abbrev s_aside : Stmt := topS 22
theorem sc_aside : FnScope ["kind"] ["kind"] (defScope s_aside) := ⟨rfl, rfl, rfl, by decide +kernel, rfl, by decide +kernel, by decide +kernel⟩
def aside (k : Kd) : Int := if k.f > k.b then k.f else k.b
def sp_aside : Sp := fun vs H Q _ => ∃ v k, vs = [v] ∧ KindAt H v k ∧ ∀ H', Ex H H' → Q (.int (aside k)) H'
theorem ok_aside (T : Txt K mg) (o : Own K mg "aside" s_aside ["kind"]) : Cal P w K mg base CX0 1 "aside" ["kind"] sp_aside := o.cal fun f fd F => by
  refine F.ok sc_aside (fun vs H Q E h => ?_) (fun cdv A outer s H vs Q E hr h => ?_)
  · obtain ⟨v, k, rfl, _⟩ := h
    rfl
  · obtain ⟨v, k, rfl, ⟨p, rfl, hp⟩, q⟩ := h
    refine ⟨_, (pss_one (ps_ret (pe_callB (call_max2 rfl) (by rfl) T.b_max (by decide +kernel) (pa_cons (pe_ix (r := rIxQ K) ix_q (pv 0) pe_int (fun _ _ => rfl)) (pa_cons (pe_ix (r := rIxQ K) ix_q (pv 0) pe_int (fun _ _ => rfl)) pa_nil))))), ?_⟩
    refine ⟨_, rfl, false, p, _, _, _, rfl, rfl, SqT.of hp, atI_nat (j := 1) rfl, _, rfl, false, p, _, _, _, rfl, rfl, SqT.of hp, atI_nat (j := 2) rfl, _, _, rfl, ?_⟩
    exact q _ (Ex.refl _)
/-! ### is_kind -/
abbrev s_is_kind : Stmt := topS 17
theorem sc_is_kind : FnScope ["thing", "whole", "behind", "first", "item"] ["thing"] (defScope s_is_kind) := ⟨rfl, rfl, rfl, by decide +kernel, rfl, by decide +kernel, by decide +kernel⟩
theorem within_yes {i lo hi : Int} (h1 : lo ≤ i) (h2 : i ≤ hi) : within (.int i) lo hi = true := by
  show (decide (lo ≤ i) && decide (i ≤ hi)) = true
  rw [decide_eq_true h1, decide_eq_true h2]
  rfl
def sp_is_kind : Sp := fun vs H Q _ => ∃ v k, vs = [v] ∧ KindAt H v k ∧ GoodK k ∧ ∀ H', Ex H H' → Q (.bl true) H'
theorem ok_is_kind (T : Txt K mg) (c_is_within : Cal P w K mg base CX0 2 "is_within" ["thing", "least", "most"] sp_is_within) (o : Own K mg "is_kind" s_is_kind ["thing"]) : Cal P w K mg base CX0 3 "is_kind" ["thing"] sp_is_kind := o.cal fun f fd F => by
  refine F.ok sc_is_kind (fun vs H Q E h => ?_) (fun cdv A outer s H vs Q E hr h => ?_)
  · obtain ⟨v, k, rfl, _⟩ := h
    rfl
  · obtain ⟨v, k, rfl, ⟨p, rfl, hp⟩, g, q⟩ := h
    have hr_is_within : Room 2 _ := hr
    refine ⟨_, (pss_cons (ps_if (PW.pt (pw_or (pt_not (pt_val (pe_callB (r := rIsi K) call_isi (by rfl) T.b_isinstance (by decide +kernel) (pa_cons (pv 0) (pa_cons (pe_bltn (v := .ty "tuple") (by rfl) T.b_tuple (by decide +kernel) rfl) pa_nil))))) (pw_or (pt_cmpR op_ne (pe_callB (r := Evl.rLenS K) call_len_seq (by rfl) T.b_len (by decide +kernel) (pa_cons (pv 0) pa_nil)) pe_int (nomark _)) (pw_or1 (pt_not (pt_val (pe_callB (r := rAll K) (cr_all rfl) (by rfl) T.b_all (by decide +kernel) (pa_cons (pe_lc (own := [("item", 4)]) (g := gName 4) (tt := tYes) rfl sc_is_kind.nd (pi_seq (pv 0)) (blkOk_by (N := ["thing", "whole", "behind", "first", "item"]) (sc := defScope s_is_kind) (by decide +kernel)) (fun _ _ _ _ _ => (pg_name (i := 4) sc_is_kind.nd rfl (Or.inl rfl))) (fun _ _ _ _ _ => pts_nil) (fun _ _ _ _ _ => (pe_cal c_is_within hr_is_within (pa_cons (pv 4) (pa_cons pe_int (pa_cons (pe_glob (v := .int (1000000000000000000000000000000)) (by rfl) T.c_MOST_CELLS.choose_spec ⟨_, rfl⟩) pa_nil)))))) pa_nil))))))))
        (pss_one (ps_ret pe_bl)) pss_nil)
      (pss_cons (ps_asg (pv 0) (pg_tup rfl (pgs_cons (pg_name (i := 1) sc_is_kind.nd rfl (Or.inl rfl)) (pgs_cons (pg_name (i := 2) sc_is_kind.nd rfl (Or.inl rfl)) (pgs_cons (pg_name (i := 3) sc_is_kind.nd rfl (Or.inl rfl)) pgs_nil)))))
      (pss_one (ps_ret (pe_chain op_lt op_le (pe_callB (call_max2 rfl) (by rfl) T.b_max (by decide +kernel) (pa_cons (pv 3) (pa_cons (pv 2) pa_nil))) (pv 1) (pe_op op_add (pv 3) (pv 2))))))), ?_⟩
    -- isinstance, len
    refine ⟨_, rfl, _, _, _, _, true, rfl, .ty "tuple", .base (.tup hp), kit_ty (by decide +kernel), true, rfl, iteF ?_⟩
    refine ⟨_, rfl, p, _, rfl, .inr (SqT.of hp), rfl, _, rfl, iteNS (by rfl) ?_⟩
    -- all(..)
    refine ⟨_, rfl, false, p, _, rfl, SqT.of hp, fun D hD => lc_pure (walk_seq (k := false) (a := p) (xs := [V.int k.w, V.int k.b, V.int k.f])) hD tm_bl [true, true, true] rfl (fun H' e => SqT.of (e _ _ hp)) (by show 3 ≤ 100000; decide) (fun i m x H2 H3 K1 hm e2 y k1 => ?_) mono_name fun H2 xs e2 hx hp2 => ?_⟩
    · obtain ⟨rfl, ex⟩ := y
      refine ⟨rfl, ?_⟩
      have hw : ∃ n, x = .int n ∧ 1 ≤ n ∧ n ≤ 1000000000000000000000000000000 ∧ m = true := by
        match i, hm, ex with
        | 0, hm, ex => exact ⟨_, (Option.some.inj ex).symm, g.w1, g.w2, (Option.some.inj hm).symm⟩
        | 1, hm, ex => exact ⟨_, (Option.some.inj ex).symm, g.b1, g.b2, (Option.some.inj hm).symm⟩
        | 2, hm, ex => exact ⟨_, (Option.some.inj ex).symm, g.f1, g.f2, (Option.some.inj hm).symm⟩
        | i + 3, hm, ex => simp at hm
      obtain ⟨n, rfl, h1, h2, rfl⟩ := hw
      refine ⟨_, rfl, _, 1, _, rfl, .inl ⟨n, rfl⟩, fun H4 e4 => ?_⟩
      rw [within_yes h1 h2]
      exact k1 _ _ e4 rfl
    · rw [pair_bl hp2] at hx
      refine ⟨D, [true, true, true], rfl, SqL.of hx, true, rfl, iteF ?_⟩
      -- whole, behind, first = thing
      refine ⟨_, rfl, p, _, rfl, SqT.of (e2 _ _ hp), rfl, _, _, rfl, _, _, rfl, _, _, rfl, rfl, ?_⟩
      -- max(first, behind) < whole <= first + behind
      refine ⟨_, rfl, _, rfl, _, _, rfl, _, rfl, _, _, rfl, rfl, _, rfl, ?_⟩
      have h1 : (if k.b > k.f then k.b else k.f) < k.w := by
        have := g.bw
        have := g.fw
        split <;> omega
      show if decide ((if k.b > k.f then k.b else k.f) < k.w) = true then _ else _
      rw [decide_eq_true h1]
      refine iteT ⟨_, rfl, _, rfl, _, _, rfl, rfl, _, _, rfl, rfl, ?_⟩
      have z := q H2 e2
      show Q (.bl (decide (k.w ≤ k.f + k.b))) H2
      rw [decide_eq_true g.le]
      exact z
/-! ### check_kinds -/
abbrev s_check_kinds : Stmt := topS 18
theorem sc_check_kinds : FnScope ["book", "number", "kind"] ["book"] (defScope s_check_kinds) := ⟨rfl, rfl, rfl, by decide +kernel, rfl, by decide +kernel, by decide +kernel⟩
def sp_check_kinds : Sp := fun vs H Q _ => ∃ kk a bk, vs = [.ref a] ∧ BookAt H kk a bk ∧ GoodB bk ∧ ∀ H', Ex H H' → Q .non H'
theorem ok_check_kinds (T : Txt K mg) (c_is_kind : Cal P w K mg base CX0 3 "is_kind" ["thing"] sp_is_kind) (o : Own K mg "check_kinds" s_check_kinds ["book"]) : Cal P w K mg base CX0 4 "check_kinds" ["book"] sp_check_kinds := o.cal fun f fd F => by
  refine F.ok sc_check_kinds (fun vs H Q E h => ?_) (fun cdv A outer s H vs Q E hr h => ?_)
  · obtain ⟨kk, a, bk, rfl, _⟩ := h
    rfl
  · obtain ⟨kk, a, bk, rfl, hB, g, q⟩ := h
    have hr_is_kind : Room 3 _ := hr
    refine ⟨_, (pss_cons (ps_if (PW.pt (pw_or (pt_not (pt_val (pe_callB (r := rIsiT K) call_isiT (by rfl) T.b_isinstance (by decide +kernel) (pa_cons (pv 0) (pa_cons (pe_tup (pa_cons (pe_bltn (v := .ty "list") (by rfl) T.b_list (by decide +kernel) rfl) (pa_cons (pe_bltn (v := .ty "tuple") (by rfl) T.b_tuple (by decide +kernel) rfl) pa_nil))) pa_nil))))) (pw_or1 (pt_not (pt_chain op_le op_le pe_int (pe_callB (r := Evl.rLenS K) call_len_seq (by rfl) T.b_len (by decide +kernel) (pa_cons (pv 0) pa_nil)) (pe_glob (v := .int (12)) (by rfl) T.c_MOST_KINDS.choose_spec ⟨_, rfl⟩))))))
        (pss_one ps_never) pss_nil)
      (pss_one (ps_for PassesOwn.never rfl (pi_enumQ (by rfl) T.b_enumerate (pa_cons (pv 0) pa_nil)) (pg_tup rfl (pgs_cons (pg_name (i := 1) sc_check_kinds.nd rfl (Or.inl rfl)) (pgs_cons (pg_name (i := 2) sc_check_kinds.nd rfl (Or.inl rfl)) pgs_nil)))
        (pss_one (ps_if (pt_not (pt_val (pe_cal c_is_kind hr_is_kind (pa_cons (pv 2) pa_nil))))
          (pss_one ps_never) pss_nil))))), ?_⟩
    obtain ⟨xs, hx, hp⟩ := id hB
    have lx := paired_len hp
    -- isinstance(book, (list, tuple))
    refine ⟨_, rfl, by show 2 ≤ sizeLine; decide, fun p np => ?_⟩
    have e1 : Ex H (upd H p (.tup [.ty "list", .ty "tuple"])) := Ex.new np
    refine ⟨_, p, _, _, _, true, rfl, upd_same, .cons (.ty _) (.cons (.ty _) .nil), (hx.up e1).ty, kit_lt kk K, true, rfl, iteF ?_⟩
    -- 1 <= len(book) <= 12
    have g1 := g.one
    have g2 := g.most
    refine ⟨_, rfl, a, xs, rfl, (hx.up e1).lt, _, _, rfl, rfl, _, rfl, ?_⟩
    have d1 : decide ((1 : Int) ≤ (xs.length : Int)) = true := decide_eq_true (by omega)
    have d2 : decide ((xs.length : Int) ≤ 12) = true := decide_eq_true (by omega)
    rw [d1]
    refine iteT ⟨_, _, rfl, rfl, _, rfl, ?_⟩
    rw [d2]
    refine iteF ?_
    -- the loop
    refine ⟨_, rfl, kk, a, xs, rfl, (hx.up e1).sq, for_it (walk_enumQ (k := kk) (a := a) (xs := xs)) (fun i σ H' => ∃ y1 y2, σ = [some (.ref a), y1, y2] ∧ Ex H H') ⟨_, _, rfl, e1⟩ (fun i σ H' _ ⟨_, _, _, e⟩ => (hx.up e).sq) ?_ ?_⟩
    · rintro i x σ H1 H2 hi ⟨y1, y2, rfl, e2⟩ ⟨T0, vs, rfl, hT, rfl, hv⟩
      obtain ⟨v, hv1, rfl⟩ := enum_got hv
      obtain ⟨k, hk, hkv⟩ := paired_at hp hv1
      have e3 : Ex H (upd H1 T0 (.tup [.int (i : Nat), v])) := e2.trans (Ex.new hT)
      refine get_t2 upd_same ?_
      refine ⟨_, rfl, v, k, rfl, hkv.up e3, g.all k (List.mem_of_getElem? hk), fun H3 e4 => ?_⟩
      exact ⟨true, rfl, iteF ⟨_, _, rfl, e3.trans e4⟩⟩
    · rintro σ H1 ⟨y1, y2, rfl, e2⟩
      exact q _ e2
/-! ### are_counts -/
abbrev s_are_counts : Stmt := topS 20
theorem sc_are_counts : FnScope ["book", "thing", "item"] ["book", "thing"] (defScope s_are_counts) := ⟨rfl, rfl, rfl, by decide +kernel, rfl, by decide +kernel, by decide +kernel⟩
def sp_are_counts : Sp := fun vs H Q _ => ∃ kk a bk kt b ns, vs = [.ref a, .ref b] ∧ BookAt H kk a bk ∧ IntsAt H kt b ns ∧ ns.length ≤ 100000 ∧ ∀ H', Ex H H' → Q (.bl (decide (ns.length = bk.length) && ns.all fun c => within (.int c) 0 1000000000)) H'
theorem ok_are_counts (T : Txt K mg) (c_is_within : Cal P w K mg base CX0 2 "is_within" ["thing", "least", "most"] sp_is_within) (o : Own K mg "are_counts" s_are_counts ["book", "thing"]) : Cal P w K mg base CX0 3 "are_counts" ["book", "thing"] sp_are_counts := o.cal fun f fd F => by
  refine F.ok sc_are_counts (fun vs H Q E h => ?_) (fun cdv A outer s H vs Q E hr h => ?_)
  · obtain ⟨kk, a, bk, kt, b, ns, rfl, _⟩ := h
    rfl
  · obtain ⟨kk, a, bk, kt, b, ns, rfl, ⟨xs, hx, hp⟩, hc, hz, q⟩ := h
    have hr_is_within : Room 2 _ := hr
    refine ⟨_, (pss_cons (ps_if (PW.pt (pw_or (pt_not (pt_val (pe_callB (r := rIsiT K) call_isiT (by rfl) T.b_isinstance (by decide +kernel) (pa_cons (pv 1) (pa_cons (pe_tup (pa_cons (pe_bltn (v := .ty "list") (by rfl) T.b_list (by decide +kernel) rfl) (pa_cons (pe_bltn (v := .ty "tuple") (by rfl) T.b_tuple (by decide +kernel) rfl) pa_nil))) pa_nil))))) (pw_or1 (pt_cmpR op_ne (pe_callB (r := Evl.rLenS K) call_len_seq (by rfl) T.b_len (by decide +kernel) (pa_cons (pv 1) pa_nil)) (pe_callB (r := Evl.rLenS K) call_len_seq (by rfl) T.b_len (by decide +kernel) (pa_cons (pv 0) pa_nil)) (nomark _)))))
        (pss_one (ps_ret pe_bl)) pss_nil)
      (pss_one (ps_ret (pe_callB (r := rAll K) (cr_all rfl) (by rfl) T.b_all (by decide +kernel) (pa_cons (pe_lc (own := [("item", 2)]) (g := gName 2) (tt := tYes) rfl sc_are_counts.nd (pi_seq (pv 1)) (blkOk_by (N := ["book", "thing", "item"]) (sc := defScope s_are_counts) (by decide +kernel)) (fun _ _ _ _ _ => (pg_name (i := 2) sc_are_counts.nd rfl (Or.inl rfl))) (fun _ _ _ _ _ => pts_nil) (fun _ _ _ _ _ => (pe_cal c_is_within hr_is_within (pa_cons (pv 2) (pa_cons pe_int (pa_cons (pe_glob (v := .int (1000000000)) (by rfl) T.c_MOST_COUNT.choose_spec ⟨_, rfl⟩) pa_nil)))))) pa_nil))))), ?_⟩
    have lx := paired_len hp
    refine ⟨_, rfl, by show 2 ≤ sizeLine; decide, fun p np => ?_⟩
    have e1 : Ex H (upd H p (.tup [.ty "list", .ty "tuple"])) := Ex.new np
    refine ⟨_, p, _, _, _, true, rfl, upd_same, .cons (.ty _) (.cons (.ty _) .nil), (hc.up e1).ty, kit_lt kt K, true, rfl, iteF ?_⟩
    refine ⟨_, rfl, b, _, rfl, (hc.up e1).lt, _, rfl, a, _, rfl, (hx.up e1).lt, rfl, _, rfl, ?_⟩
    have el : ((ns.map V.int).length : Int) = (ns.length : Int) := by rw [List.length_map]
    by_cases hl : ns.length = bk.length
    · rw [decide_eq_true hl] at q
      refine iteNS (by rw [el, hl, lx]) ?_
      refine ⟨_, rfl, kt, b, _, rfl, (hc.up e1).sq, fun D hD => lc_pure (walk_seq (k := kt) (a := b) (xs := ns.map V.int)) hD tm_bl (ns.map fun c => within (.int c) 0 1000000000) (by rw [List.length_map, List.length_map]) (fun H' e => ((hc.up e1).up e).sq) (by rw [List.length_map]; exact hz) (fun i m x H2 H3 K1 hm e2 y k1 => ?_) mono_name fun H2 xs2 e2 hx2 hp2 => ?_⟩
      · obtain ⟨rfl, ex⟩ := y
        refine ⟨rfl, ?_⟩
        rw [List.getElem?_map] at hm ex
        cases hn : ns[i]? with
        | none =>
          rw [hn] at hm
          cases hm
        | some c =>
          rw [hn] at hm ex
          obtain rfl := Option.some.inj ex
          obtain rfl := Option.some.inj hm
          exact ⟨_, rfl, _, 0, _, rfl, .inl ⟨c, rfl⟩, fun H4 e4 => k1 _ _ e4 rfl⟩
      · rw [pair_bl hp2] at hx2
        refine ⟨D, _, rfl, SqL.of hx2, ?_⟩
        have z := q H2 (e1.trans e2)
        rw [Bool.true_and] at z
        rw [List.all_map]
        exact z
    · rw [decide_eq_false hl] at q
      have hne : ¬ (V.int ((ns.map V.int).length : Int) = V.int (xs.length : Int)) := fun z => hl (by
        have := V.int.inj z
        rw [el] at this
        omega)
      rw [decide_eq_false hne]
      exact iteT (q _ e1)
/-! ### check_book -/
abbrev s_check_book : Stmt := topS 19
theorem sc_check_book : FnScope ["book", "counts"] ["book", "counts"] (defScope s_check_book) := ⟨rfl, rfl, rfl, by decide +kernel, rfl, by decide +kernel, by decide +kernel⟩
def sp_check_book : Sp := fun vs H Q _ => ∃ kk a bk kt b cs, vs = [.ref a, .ref b] ∧ BookAt H kk a bk ∧ GoodB bk ∧ IntsAt H kt b cs ∧ GoodC bk cs ∧ ∀ H', Ex H H' → Q .non H'
theorem ok_check_book (T : Txt K mg) (c_check_kinds : Cal P w K mg base CX0 4 "check_kinds" ["book"] sp_check_kinds) (c_are_counts : Cal P w K mg base CX0 3 "are_counts" ["book", "thing"] sp_are_counts) (o : Own K mg "check_book" s_check_book ["book", "counts"]) : Cal P w K mg base CX0 5 "check_book" ["book", "counts"] sp_check_book := o.cal fun f fd F => by
  refine F.ok sc_check_book (fun vs H Q E h => ?_) (fun cdv A outer s H vs Q E hr h => ?_)
  · obtain ⟨kk, a, bk, kt, b, ns, rfl, _⟩ := h
    rfl
  · obtain ⟨kk, a, bk, kt, b, cs, rfl, hB, g, hc, gc, q⟩ := h
    have hr_check_kinds : Room 4 _ := hr
    have hr_are_counts : Room 3 _ := hr.mono (by decide)
    refine ⟨_, (pss_cons (ps_expr (pe_cal c_check_kinds hr_check_kinds (pa_cons (pv 0) pa_nil)))
      (pss_one (ps_if (pt_not (pt_val (pe_cal c_are_counts hr_are_counts (pa_cons (pv 0) (pa_cons (pv 1) pa_nil)))))
        (pss_one ps_never) pss_nil))), ?_⟩
    refine ⟨_, rfl, kk, a, bk, rfl, hB, g, fun H1 e1 => ?_⟩
    refine ⟨_, rfl, _, rfl, kk, a, bk, kt, b, cs, rfl, hB.up e1, hc.up e1, by have := g.most; have := gc.len; omega, fun H2 e2 => ⟨_, rfl, ?_⟩⟩
    have hy : (decide (cs.length = bk.length) && cs.all fun c => within (.int c) 0 1000000000) = true := by
      rw [decide_eq_true gc.len, Bool.true_and, List.all_eq_true]
      exact fun c hc => within_yes (gc.pos c hc) (gc.most c hc)
    rw [hy]
    exact iteF (q _ (e1.trans e2))
/-! ### check_cells -/
abbrev s_check_cells : Stmt := topS 21
theorem sc_check_cells : FnScope ["thing"] ["thing"] (defScope s_check_cells) := ⟨rfl, rfl, rfl, by decide +kernel, rfl, by decide +kernel, by decide +kernel⟩
def sp_check_cells : Sp := fun vs H Q _ => ∃ n, vs = [.int n] ∧ 1 ≤ n ∧ n ≤ 1000000000000000000000000000000 ∧ ∀ H', Ex H H' → Q .non H'
theorem ok_check_cells (T : Txt K mg) (c_is_within : Cal P w K mg base CX0 2 "is_within" ["thing", "least", "most"] sp_is_within) (o : Own K mg "check_cells" s_check_cells ["thing"]) : Cal P w K mg base CX0 3 "check_cells" ["thing"] sp_check_cells := o.cal fun f fd F => by
  refine F.ok sc_check_cells (fun vs H Q E h => ?_) (fun cdv A outer s H vs Q E hr h => ?_)
  · obtain ⟨n, rfl, _⟩ := h
    rfl
  · obtain ⟨n, rfl, h1, h2, q⟩ := h
    have hr_is_within : Room 2 _ := hr
    refine ⟨_, (pss_one (ps_if (pt_not (pt_val (pe_cal c_is_within hr_is_within (pa_cons (pv 0) (pa_cons pe_int (pa_cons (pe_glob (v := .int (1000000000000000000000000000000)) (by rfl) T.c_MOST_CELLS.choose_spec ⟨_, rfl⟩) pa_nil))))))
        (pss_one ps_never) pss_nil)), ?_⟩
    refine ⟨_, rfl, _, 1, _, rfl, .inl ⟨n, rfl⟩, fun H1 e1 => ⟨_, rfl, ?_⟩⟩
    rw [within_yes h1 h2]
    exact iteF (q _ e1)
end
end K27

set_option Elab.async false
set_option linter.all false
set_option maxRecDepth 100000
set_option maxHeartbeats 4000000
/-! KM: the plain law of loads: no program here. -/
namespace K27
theorem aside_le (k : Kd) : k.b ≤ aside k ∧ k.f ≤ aside k ∧ (aside k = k.b ∨ aside k = k.f) := by
  unfold aside
  split <;> omega
theorem aside_pos {k : Kd} (g : GoodK k) : 1 ≤ aside k ∧ aside k < k.w := by
  have := aside_le k
  have := g.b1
  have := g.bw
  have := g.fw
  omega
/-- what all deeds add -/
def every (bk : List Kd) (cs : List Int) : Int := (List.zipWith (fun k c => c * aside k) bk cs).sum
def loadOf (bk : List Kd) (cs : List Int) (k : Kd) : Int := every bk cs - aside k + k.w
theorem every_nn : ∀ (bk : List Kd) (cs : List Int), (∀ k ∈ bk, GoodK k) → (∀ c ∈ cs, 0 ≤ c) → 0 ≤ every bk cs
  | [], cs, _, _ => by simp [every]
  | k :: bk, [], _, _ => by simp [every]
  | k :: bk, c :: cs, g, h => by
    have ih := every_nn bk cs (fun x hx => g x (List.mem_cons_of_mem _ hx)) fun x hx => h x (List.mem_cons_of_mem _ hx)
    have h1 := (aside_pos (g k List.mem_cons_self)).1
    have h2 := h c List.mem_cons_self
    have h3 : 0 ≤ c * aside k := Int.mul_nonneg h2 (by omega)
    show 0 ≤ (c * aside k :: List.zipWith _ bk cs).sum
    rw [List.sum_cons]
    unfold every at ih
    omega
theorem every_ge : ∀ (bk : List Kd) (cs : List Int) (j : Nat) (k : Kd) (c : Int), (∀ k ∈ bk, GoodK k) → (∀ c ∈ cs, 0 ≤ c) → bk[j]? = some k → cs[j]? = some c → c * aside k ≤ every bk cs
  | [], cs, j, k, c, _, _, h, _ => by simp at h
  | k :: bk, [], j, _, c, _, _, _, h => by simp at h
  | k :: bk, c :: cs, 0, k', c', g, h, hk, hc => by
    have ih := every_nn bk cs (fun x hx => g x (List.mem_cons_of_mem _ hx)) fun x hx => h x (List.mem_cons_of_mem _ hx)
    obtain rfl : k = k' := Option.some.inj hk
    obtain rfl : c = c' := Option.some.inj hc
    show _ ≤ (c * aside k :: List.zipWith _ bk cs).sum
    rw [List.sum_cons]
    unfold every at ih
    omega
  | k :: bk, c :: cs, j + 1, k', c', g, h, hk, hc => by
    have ih := every_ge bk cs j k' c' (fun x hx => g x (List.mem_cons_of_mem _ hx)) (fun x hx => h x (List.mem_cons_of_mem _ hx)) hk hc
    have h1 := (aside_pos (g k List.mem_cons_self)).1
    have h2 := h c List.mem_cons_self
    have h3 : 0 ≤ c * aside k := Int.mul_nonneg h2 (by omega)
    show _ ≤ (c * aside k :: List.zipWith _ bk cs).sum
    rw [List.sum_cons]
    unfold every at ih
    omega
theorem load_pos {bk : List Kd} {cs : List Int} {j : Nat} {k : Kd} {c : Int} (g : ∀ k ∈ bk, GoodK k) (h : ∀ c ∈ cs, 0 ≤ c) (hk : bk[j]? = some k) (hc : cs[j]? = some c) (hp : 0 < c) : 1 ≤ loadOf bk cs k := by
  have h1 := every_ge bk cs j k c g h hk hc
  have gk := g k (List.mem_of_getElem? hk)
  have h2 := (aside_pos gk).1
  have h3 : 1 * aside k ≤ c * aside k := Int.mul_le_mul_of_nonneg_right (by omega) (by omega)
  have h4 := gk.w1
  unfold loadOf
  omega
/-- behind i kinds: the greatest load so far, whose it is -/
structure RawAt (bk : List Kd) (cs : List Int) (i : Nat) (m : Int) (o : Option Nat) : Prop where
  nn : 0 ≤ m
  up : ∀ (j : Nat) k c, j < i → bk[j]? = some k → cs[j]? = some c → 0 < c → loadOf bk cs k ≤ m
  no : o = none → m = 0 ∧ ∀ (j : Nat) c, j < i → j < bk.length → cs[j]? = some c → ¬ 0 < c
  yes : ∀ n, o = some n → n < i ∧ ∃ k c, bk[n]? = some k ∧ cs[n]? = some c ∧ 0 < c ∧ m = loadOf bk cs k
theorem raw_start (bk : List Kd) (cs : List Int) : RawAt bk cs 0 0 none :=
  ⟨Int.le_refl _, fun j k c h => absurd h (Nat.not_lt_zero _), fun _ => ⟨rfl, fun j c h => absurd h (Nat.not_lt_zero _)⟩, (fun n h => nomatch h)⟩
theorem raw_skip {bk : List Kd} {cs : List Int} {i : Nat} {m : Int} {o : Option Nat} {k : Kd} {c : Int} (g : ∀ k ∈ bk, GoodK k) (h : ∀ c ∈ cs, 0 ≤ c) (hk : bk[i]? = some k) (hc : cs[i]? = some c) (r : RawAt bk cs i m o) (hs : ¬ 0 < c ∨ ¬ m < loadOf bk cs k) :
    RawAt bk cs (i + 1) m o := by
  refine ⟨r.nn, fun j k' c' hj h1 h2 h3 => ?_, fun e => ⟨(r.no e).1, fun j c' hj hb h2 h3 => ?_⟩, fun n e => ?_⟩
  · by_cases e : j = i
    · subst e
      obtain rfl := Option.some.inj (hk.symm.trans h1)
      obtain rfl := Option.some.inj (hc.symm.trans h2)
      rcases hs with z | z
      · exact absurd h3 z
      · omega
    · exact r.up j k' c' (by omega) h1 h2 h3
  · by_cases e2 : j = i
    · subst e2
      obtain rfl := Option.some.inj (hc.symm.trans h2)
      rcases hs with z | z
      · exact z h3
      · have := load_pos g h hk hc h3
        have := (r.no e).1
        omega
    · exact (r.no e).2 j c' (by omega) hb h2 h3
  · obtain ⟨h1, h2⟩ := r.yes n e
    exact ⟨by omega, h2⟩
theorem raw_take {bk : List Kd} {cs : List Int} {i : Nat} {m : Int} {o : Option Nat} {k : Kd} {c : Int} (hk : bk[i]? = some k) (hc : cs[i]? = some c) (r : RawAt bk cs i m o) (h1 : 0 < c) (h2 : m < loadOf bk cs k) :
    RawAt bk cs (i + 1) (loadOf bk cs k) (some i) := by
  have nn := r.nn
  refine ⟨by omega, fun j k' c' hj e1 e2 e3 => ?_, (fun e => nomatch e), fun n e => ?_⟩
  · by_cases e : j = i
    · subst e
      obtain rfl := Option.some.inj (hk.symm.trans e1)
      exact Int.le_refl _
    · have := r.up j k' c' (by omega) e1 e2 e3
      omega
  · obtain rfl := Option.some.inj e
    exact ⟨Nat.lt_succ_self _, k, c, hk, hc, h1, rfl⟩
/-- the fact of kinds, by its marks -/
structure IsFact (bk : List Kd) (cs : List Int) (m : Int) : Prop where
  nn : 0 ≤ m
  up : ∀ (j : Nat) k c, bk[j]? = some k → cs[j]? = some c → 0 < c → loadOf bk cs k ≤ m
  at0 : m = 0 ∨ ∃ (j : Nat) (k : Kd) (c : Int), bk[j]? = some k ∧ cs[j]? = some c ∧ 0 < c ∧ m = loadOf bk cs k
theorem IsFact.eq {bk : List Kd} {cs : List Int} {m m' : Int} (a : IsFact bk cs m) (b : IsFact bk cs m') : m = m' := by
  have h : ∀ {x y : Int}, IsFact bk cs x → IsFact bk cs y → x ≤ y := fun {x y} a b => by
    rcases a.at0 with z | ⟨j, k, c, h1, h2, h3, h4⟩
    · rw [z]
      exact b.nn
    · rw [h4]
      exact b.up j k c h1 h2 h3
  have := h a b
  have := h b a
  omega
theorem RawAt.isFact {bk : List Kd} {cs : List Int} {m : Int} {o : Option Nat} (r : RawAt bk cs bk.length m o) : IsFact bk cs m :=
  ⟨r.nn, fun j k c h1 h2 h3 => r.up j k c (List.getElem?_eq_some_iff.mp h1).1 h1 h2 h3, by
    cases o with
    | none => exact .inl (r.no rfl).1
    | some n =>
      obtain ⟨_, k, c, h⟩ := r.yes n rfl
      exact .inr ⟨n, k, c, h⟩⟩
/-- it, reckoned -/
def fact (bk : List Kd) (cs : List Int) : Int := ((bk.zip cs).map fun p => if 0 < p.2 then loadOf bk cs p.1 else 0).foldl max 0
theorem foldl_max (l : List Int) : ∀ a : Int, a ≤ l.foldl max a ∧ (∀ x ∈ l, x ≤ l.foldl max a) ∧ (l.foldl max a = a ∨ l.foldl max a ∈ l) := by
  induction l with
  | nil => intro a; exact ⟨Int.le_refl _, fun x hx => by simp at hx, .inl rfl⟩
  | cons y l ih =>
    intro a
    obtain ⟨h1, h2, h3⟩ := ih (max a y)
    rw [List.foldl_cons]
    refine ⟨by omega, fun x hx => ?_, ?_⟩
    · rcases List.mem_cons.mp hx with e | hx
      · rw [e]
        omega
      · exact h2 x hx
    · rcases h3 with e | e
      · rw [e]
        by_cases z : a ≤ y
        · exact .inr (by rw [show max a y = y by omega]; exact List.mem_cons_self)
        · exact .inl (by omega)
      · exact .inr (List.mem_cons_of_mem _ e)
theorem zip_at {bk : List Kd} {cs : List Int} {j : Nat} {k : Kd} {c : Int} (h1 : bk[j]? = some k) (h2 : cs[j]? = some c) : (k, c) ∈ bk.zip cs := by
  refine List.mem_iff_getElem?.mpr ⟨j, ?_⟩
  rw [List.getElem?_zip_eq_some]
  exact ⟨h1, h2⟩
theorem fact_is (bk : List Kd) (cs : List Int) : IsFact bk cs (fact bk cs) := by
  obtain ⟨h1, h2, h3⟩ := foldl_max ((bk.zip cs).map fun p : Kd × Int => if 0 < p.2 then loadOf bk cs p.1 else 0) 0
  refine ⟨h1, fun j k c e1 e2 e3 => ?_, ?_⟩
  · have := h2 (if 0 < c then loadOf bk cs k else 0) (List.mem_map.mpr ⟨(k, c), zip_at e1 e2, rfl⟩)
    rw [if_pos e3] at this
    exact this
  · rcases h3 with e | e
    · exact .inl e
    · obtain ⟨p, hp, ep⟩ := List.mem_map.mp e
      by_cases z : 0 < p.2
      · rw [if_pos z] at ep
        obtain ⟨j, hj⟩ := List.mem_iff_getElem?.mp hp
        rw [List.getElem?_zip_eq_some] at hj
        exact .inr ⟨j, p.1, p.2, hj.1, hj.2, z, ep.symm⟩
      · rw [if_neg z] at ep
        exact .inl ep.symm
theorem RawAt.eq {bk : List Kd} {cs : List Int} {m : Int} {o : Option Nat} (r : RawAt bk cs bk.length m o) : m = fact bk cs := r.isFact.eq (fact_is bk cs)
end K27

set_option Elab.async false
set_option linter.all false
set_option maxRecDepth 100000
set_option maxHeartbeats 4000000
/-! KG: raw_load, greatest_load. -/
namespace K27
open PySem PySem.Spec PyProof.Rows L2
open Evl (Ex)
section
variable {P : Program} {w : World} {K : PySem.W.Frag} {mg : Str → Option Value} {base : Heap}
/-! ### raw_load -/
abbrev s_raw_load : Stmt := topS 23
theorem sc_raw_load : FnScope ["book", "counts", "every", "found", "number", "kind", "many"] ["book", "counts"] (defScope s_raw_load) := ⟨rfl, rfl, rfl, by decide +kernel, rfl, by decide +kernel, by decide +kernel⟩
def oV : Option Nat → V
  | none => .non
  | some n => .int (n : Int)
/-- whole counts for a book, none below nought -/
structure Nice (bk : List Kd) (cs : List Int) : Prop where
  good : ∀ k ∈ bk, GoodK k
  short : bk.length ≤ 1000
  len : cs.length = bk.length
  pos : ∀ c ∈ cs, 0 ≤ c
  most : ∀ c ∈ cs, c < 18446744073709551616
theorem GoodC.nice {bk : List Kd} {cs : List Int} (g : GoodB bk) (c : GoodC bk cs) : Nice bk cs :=
  ⟨g.all, by have := g.most; omega, c.len, c.pos, fun x hx => by have := c.most x hx; omega⟩
def sp_raw_load : Sp := fun vs H Q _ => ∃ kk a bk kt b cs, vs = [.ref a, .ref b] ∧ BookAt H kk a bk ∧ IntsAt H kt b cs ∧ Nice bk cs ∧ ∀ H' p m o, Ex H H' → H' p = some (.tup [.int m, oV o]) → RawAt bk cs bk.length m o → Q (.ref p) H'
theorem ok_raw_load (T : Txt K mg) (c_aside : Cal P w K mg base CX0 1 "aside" ["kind"] sp_aside) (o : Own K mg "raw_load" s_raw_load ["book", "counts"]) : Cal P w K mg base CX0 2 "raw_load" ["book", "counts"] sp_raw_load := o.cal fun f fd F => by
  refine F.ok sc_raw_load (fun vs H Q E h => ?_) (fun cdv A outer s H vs Q E hr h => ?_)
  · obtain ⟨kk, a, bk, kt, b, cs, rfl, _⟩ := h
    rfl
  · obtain ⟨kk, a, bk, kt, b, cs, rfl, hB, hc, g, q⟩ := h
    have hr_aside : Room 1 _ := hr
    obtain ⟨xs, hx, hp⟩ := id hB
    have lx := paired_len hp
    have lc := g.len
    refine ⟨_, (pss_cons (ps_set (i := 2) sc_raw_load.nd rfl (Or.inl rfl) (pe_callB (r := rSum K) (cr_sum rfl) (by rfl) T.b_sum (by decide +kernel) (pa_cons (pe_lc (own := [("kind", 5), ("many", 6)]) (g := gTup K 2 (gCons (gName 5) (gCons (gName 6) gNil))) (tt := tYes) rfl sc_raw_load.nd (pi_zip2 (by rfl) T.b_zip (pa_cons (pv 0) (pa_cons (pv 1) pa_nil))) (blkOk_by (N := ["book", "counts", "every", "found", "number", "kind", "many"]) (sc := defScope s_raw_load) (by decide +kernel)) (fun _ _ _ _ _ => (pg_tup rfl (pgs_cons (pg_name (i := 5) sc_raw_load.nd rfl (Or.inl rfl)) (pgs_cons (pg_name (i := 6) sc_raw_load.nd rfl (Or.inl rfl)) pgs_nil)))) (fun _ _ _ _ _ => pts_nil) (fun _ _ _ _ _ => (pe_op op_mul (pv 6) (pe_cal c_aside hr_aside (pa_cons (pv 5) pa_nil))))) pa_nil)))
      (pss_cons (ps_set (i := 3) sc_raw_load.nd rfl (Or.inl rfl) (pe_tup (pa_cons pe_int (pa_cons pe_non pa_nil))))
      (pss_cons (ps_for PassesOwn.never rfl (pi_enumQ (by rfl) T.b_enumerate (pa_cons (pv 0) pa_nil)) (pg_tup rfl (pgs_cons (pg_name (i := 4) sc_raw_load.nd rfl (Or.inl rfl)) (pgs_cons (pg_name (i := 5) sc_raw_load.nd rfl (Or.inl rfl)) pgs_nil)))
        (pss_one (ps_if (PW.pt (pw_and (pt_cmpR op_gt (pe_ix (r := rIxQ K) ix_q (pv 1) (pv 4) (fun _ _ => rfl)) pe_int (nomark _)) (pw_and1 (pt_cmpR op_gt (pe_op op_add (pe_op op_sub (pv 2) (pe_cal c_aside hr_aside (pa_cons (pv 5) pa_nil))) (pe_ix (r := rIxQ K) ix_q (pv 5) pe_int (fun _ _ => rfl))) (pe_ix (r := rIxQ K) ix_q (pv 3) pe_int (fun _ _ => rfl)) (nomark _)))))
          (pss_one (ps_set (i := 3) sc_raw_load.nd rfl (Or.inl rfl) (pe_tup (pa_cons (pe_op op_add (pe_op op_sub (pv 2) (pe_cal c_aside hr_aside (pa_cons (pv 5) pa_nil))) (pe_ix (r := rIxQ K) ix_q (pv 5) pe_int (fun _ _ => rfl))) (pa_cons (pv 4) pa_nil))))) pss_nil)))
      (pss_one (ps_ret (pv 3)))))), ?_⟩
    -- every = sum([..])
    refine ⟨_, rfl, _, rfl, kk, kt, a, b, xs, _, rfl, hx.sq, hc.sq, fun D hD => lc_pure (walk_zip2 (k1 := kk) (k2 := kt) (a := a) (b := b) (xs := xs) (ys := cs.map V.int) (n := bk.length) (by rw [List.length_map]; omega)) hD tm_int (List.zipWith (fun k c => c * aside k) bk cs) (by rw [List.length_zipWith]; omega)
      (fun H' e => ⟨(hx.up e).sq, (hc.up e).sq⟩) (by have := g.short; omega) (fun i m x H2 H3 K1 hm e2 y k1 => ?_) mono_t2 fun H2 xs2 e2 hx2 hp2 => ?_⟩
    · obtain ⟨T0, vs, rfl, hT, rfl, hv⟩ := y
      obtain ⟨v, cv, h1, h2, rfl⟩ := zip2_got hv
      obtain ⟨k, hk, hkv⟩ := paired_at hp h1
      obtain ⟨c, hc1, rfl⟩ := map_got h2
      have e3 : Ex H2 (upd H2 T0 (.tup [v, .int c])) := Ex.new hT
      refine get_t2 upd_same ⟨rfl, ?_⟩
      refine ⟨_, rfl, _, rfl, v, k, rfl, (hkv.up e2).up e3, fun H4 e4 => ⟨_, _, rfl, rfl, .inl ?_, ?_⟩⟩
      · have h3 := g.pos c (List.mem_of_getElem? hc1)
        have h4 := g.most c (List.mem_of_getElem? hc1)
        exact ⟨by omega, by omega⟩
      · refine k1 _ _ (e3.trans e4) ?_
        rw [List.getElem?_zipWith, hk, hc1] at hm
        obtain rfl := Option.some.inj hm
        rfl
    · rw [pair_int hp2] at hx2
      refine ⟨D, _, rfl, SqL.of hx2, ?_⟩
      -- found = (0, None)
      refine ⟨by show 2 ≤ sizeLine; decide, fun p0 np0 => ?_⟩
      have e3 : Ex H (upd H2 p0 (.tup [.int 0, .non])) := e2.trans (Ex.new np0)
      -- the loop
      refine ⟨_, rfl, kk, a, xs, rfl, (hx.up e3).sq, for_it (walk_enumQ (k := kk) (a := a) (xs := xs)) (fun i σ H' => ∃ y4 y5 p m o, σ = [some (.ref a), some (.ref b), some (.int (every bk cs)), some (.ref p), y4, y5, none] ∧ Ex H H' ∧ H' p = some (.tup [.int m, oV o]) ∧ RawAt bk cs i m o)
        ⟨_, _, p0, 0, none, rfl, e3, upd_same, raw_start bk cs⟩ (fun i σ H' _ ⟨_, _, _, _, _, _, e, _⟩ => (hx.up e).sq) ?_ ?_⟩
      · rintro i x σ H3 H4 hi ⟨y4, y5, p, m, o, rfl, e4, hpm, r⟩ ⟨T0, vs, rfl, hT, rfl, hv⟩
        obtain ⟨v, hv1, rfl⟩ := enum_got hv
        obtain ⟨k, hk, hkv⟩ := paired_at hp hv1
        obtain ⟨c, hc1⟩ : ∃ c, cs[i]? = some c := ⟨_, List.getElem?_eq_getElem (by omega)⟩
        have hcv : (cs.map V.int)[i]? = some (.int c) := by
          rw [List.getElem?_map, hc1]
          rfl
        have e5 : Ex H3 (upd H3 T0 (.tup [.int (i : Nat), v])) := Ex.new hT
        have e6 := e4.trans e5
        refine get_t2 upd_same ?_
        refine ⟨_, rfl, _, rfl, kt, b, _, _, _, rfl, rfl, (hc.up e6).sq, atI_nat hcv, _, _, rfl, rfl, _, rfl, ?_⟩
        by_cases hpos : 0 < c
        · rw [decide_eq_true hpos]
          obtain ⟨pk, rfl, hpk⟩ := hkv
          refine iteT ⟨_, rfl, _, rfl, _, k, rfl, ⟨pk, rfl, e6 _ _ hpk⟩, fun H5 e7 => ⟨_, _, rfl, rfl, _, rfl, false, pk, _, _, _, rfl, rfl, SqT.of (e7 _ _ (e6 _ _ hpk)), atI_nat (j := 0) rfl, _, _, rfl, rfl, _, rfl, false, p, _, _, _, rfl, rfl, SqT.of (e7 _ _ (e5 _ _ hpm)), atI_nat (j := 0) rfl, _, _, rfl, rfl, _, rfl, ?_⟩⟩
          by_cases hm : m < loadOf bk cs k
          · rw [show decide (m < every bk cs - aside k + k.w) = true from decide_eq_true hm]
            refine iteT ⟨_, rfl, _, rfl, _, k, rfl, ⟨pk, rfl, e7 _ _ (e6 _ _ hpk)⟩, fun H6 e8 => ⟨_, _, rfl, rfl, _, rfl, false, pk, _, _, _, rfl, rfl, SqT.of (e8 _ _ (e7 _ _ (e6 _ _ hpk))), atI_nat (j := 0) rfl, _, _, rfl, rfl, _, rfl, by show 2 ≤ sizeLine; decide, fun p2 np2 => ?_⟩⟩
            exact ⟨_, _, p2, loadOf bk cs k, some i, rfl, ((e6.trans e7).trans e8).trans (Ex.new np2), upd_same, raw_take hk hc1 r hpos hm⟩
          · rw [show decide (m < every bk cs - aside k + k.w) = false from decide_eq_false hm]
            exact iteF ⟨_, _, p, m, o, rfl, e6.trans e7, e7 _ _ (e5 _ _ hpm), raw_skip g.good g.pos hk hc1 r (.inr hm)⟩
        · rw [decide_eq_false hpos]
          exact iteF (iteF ⟨_, _, p, m, o, rfl, e6, e5 _ _ hpm, raw_skip g.good g.pos hk hc1 r (.inl hpos)⟩)
      · rintro σ H3 ⟨y4, y5, p, m, o, rfl, e4, hpm, r⟩
        rw [lx] at r
        exact ⟨_, rfl, q H3 p m o e4 hpm r⟩
/-! ### greatest_load -/
abbrev s_greatest_load : Stmt := topS 24
theorem sc_greatest_load : FnScope ["book", "counts"] ["book", "counts"] (defScope s_greatest_load) := ⟨rfl, rfl, rfl, by decide +kernel, rfl, by decide +kernel, by decide +kernel⟩
def sp_greatest_load : Sp := fun vs H Q _ => ∃ kk a bk kt b cs, vs = [.ref a, .ref b] ∧ BookAt H kk a bk ∧ GoodB bk ∧ IntsAt H kt b cs ∧ GoodC bk cs ∧ ∀ H', Ex H H' → Q (.int (fact bk cs)) H'
theorem ok_greatest_load (T : Txt K mg) (c_check_book : Cal P w K mg base CX0 5 "check_book" ["book", "counts"] sp_check_book) (c_raw_load : Cal P w K mg base CX0 2 "raw_load" ["book", "counts"] sp_raw_load)
    (o : Own K mg "greatest_load" s_greatest_load ["book", "counts"]) : Cal P w K mg base CX0 6 "greatest_load" ["book", "counts"] sp_greatest_load := o.cal fun f fd F => by
  refine F.ok sc_greatest_load (fun vs H Q E h => ?_) (fun cdv A outer s H vs Q E hr h => ?_)
  · obtain ⟨kk, a, bk, kt, b, cs, rfl, _⟩ := h
    rfl
  · obtain ⟨kk, a, bk, kt, b, cs, rfl, hB, g, hc, gc, q⟩ := h
    have hr_check_book : Room 5 _ := hr
    have hr_raw_load : Room 2 _ := hr.mono (by decide)
    refine ⟨_, (pss_cons (ps_expr (pe_cal c_check_book hr_check_book (pa_cons (pv 0) (pa_cons (pv 1) pa_nil))))
      (pss_one (ps_ret (pe_ix (r := rIxQ K) ix_q (pe_cal c_raw_load hr_raw_load (pa_cons (pv 0) (pa_cons (pv 1) pa_nil))) pe_int (fun _ _ => rfl))))), ?_⟩
    refine ⟨_, rfl, _, rfl, kk, a, bk, kt, b, cs, rfl, hB, g, hc, gc, fun H1 e1 => ?_⟩
    refine ⟨_, rfl, _, rfl, kk, a, bk, kt, b, cs, rfl, hB.up e1, hc.up e1, gc.nice g, fun H2 p m o e2 hp r => ?_⟩
    refine ⟨false, p, _, _, _, rfl, rfl, SqT.of hp, atI_nat (j := 0) rfl, ?_⟩
    rw [r.eq]
    exact q H2 (e1.trans e2)
end
end K27

set_option Elab.async false
set_option linter.all false
set_option maxRecDepth 100000
set_option maxHeartbeats 4000000
/-! KN: the plain law of the worst opening, of one more: no program here. -/
namespace K27
/-- d more at the place n -/
def addAt (d : Int) : Nat → List Int → List Int
  | _, [] => []
  | 0, c :: cs => (c + d) :: cs
  | n + 1, c :: cs => c :: addAt d n cs
theorem addAt_len (d : Int) : ∀ (n : Nat) (cs : List Int), (addAt d n cs).length = cs.length
  | _, [] => by cases ‹Nat› <;> rfl
  | 0, c :: cs => rfl
  | n + 1, c :: cs => by
    show (addAt d n cs).length + 1 = cs.length + 1
    rw [addAt_len d n cs]
theorem addAt_at (d : Int) : ∀ (n : Nat) (cs : List Int) (i : Nat) (c : Int), cs[i]? = some c → (addAt d n cs)[i]? = some (if i = n then c + d else c)
  | n, [], i, c, h => by simp at h
  | 0, a :: cs, 0, c, h => by
    obtain rfl := Option.some.inj h
    rfl
  | 0, a :: cs, i + 1, c, h => by
    rw [if_neg (by omega)]
    exact h
  | n + 1, a :: cs, 0, c, h => by
    rw [if_neg (by omega)]
    exact h
  | n + 1, a :: cs, i + 1, c, h => by
    have ih := addAt_at d n cs i c h
    show (addAt d n cs)[i]? = _
    rw [ih]
    by_cases e : i = n
    · rw [if_pos e, if_pos (by omega)]
    · rw [if_neg e, if_neg (by omega)]
theorem addAt_every (d : Int) : ∀ (n : Nat) (bk : List Kd) (cs : List Int) (k : Kd), cs.length = bk.length → bk[n]? = some k → every bk (addAt d n cs) = every bk cs + d * aside k
  | n, [], cs, k, _, h => by simp at h
  | n, k' :: bk, [], k, hl, _ => by simp at hl
  | 0, k' :: bk, c :: cs, k, hl, h => by
    obtain rfl := Option.some.inj h
    show ((c + d) * aside k' :: List.zipWith _ bk cs).sum = (c * aside k' :: List.zipWith _ bk cs).sum + d * aside k'
    rw [List.sum_cons, List.sum_cons, Int.add_mul]
    omega
  | n + 1, k' :: bk, c :: cs, k, hl, h => by
    have ih := addAt_every d n bk cs k (by simpa using hl) h
    show (c * aside k' :: List.zipWith _ bk (addAt d n cs)).sum = (c * aside k' :: List.zipWith _ bk cs).sum + d * aside k
    rw [List.sum_cons, List.sum_cons]
    unfold every at ih
    omega
theorem addAt_mem {d : Int} {P : Int → Prop} (hP : ∀ c, P c → P (c + d)) : ∀ (n : Nat) (cs : List Int), (∀ c ∈ cs, P c) → ∀ c ∈ addAt d n cs, P c
  | n, [], _, c, h => by
    cases n <;> simp [addAt] at h
  | 0, a :: cs, hc, c, h => by
    rcases List.mem_cons.mp h with e | h
    · rw [e]
      exact hP a (hc a List.mem_cons_self)
    · exact hc c (List.mem_cons_of_mem _ h)
  | n + 1, a :: cs, hc, c, h => by
    rcases List.mem_cons.mp h with e | h
    · rw [e]
      exact hc a List.mem_cons_self
    · exact addAt_mem hP n cs (fun x hx => hc x (List.mem_cons_of_mem _ hx)) c h
/-- elders' and youngers' shares -/
def oldOf (bk : List Kd) (es : List Int) : Int := (List.zipWith (fun k e => e * k.b) bk es).sum
def newOf (bk : List Kd) (ys : List Int) : Int := (List.zipWith (fun k y => y * k.f) bk ys).sum
/-- a triple with the greatest load -/
structure Worst (bk : List Kd) (cs : List Int) (n : Nat) (es ys : List Int) : Prop where
  lt : n < bk.length
  le : es.length = bk.length
  ly : ys.length = bk.length
  pe : ∀ x ∈ es, 0 ≤ x
  py : ∀ x ∈ ys, 0 ≤ x
  sum : ∀ (i : Nat) e y c, es[i]? = some e → ys[i]? = some y → cs[i]? = some c → (if i = n then 1 else 0) + e + y = c
  load : ∀ k, bk[n]? = some k → k.w + oldOf bk es + newOf bk ys = fact bk cs
def eldersOf (bk : List Kd) (left : List Int) : List Int := List.zipWith (fun k c => if k.f ≤ k.b then c else 0) bk left
theorem shares : ∀ (bk : List Kd) (left : List Int), left.length = bk.length → oldOf bk (eldersOf bk left) + newOf bk (List.zipWith (fun c e => c - e) left (eldersOf bk left)) = every bk left
  | [], [], _ => rfl
  | [], _ :: _, h => by simp at h
  | _ :: _, [], h => by simp at h
  | k :: bk, c :: left, h => by
    have ih := shares bk left (by simpa using h)
    unfold eldersOf oldOf newOf every at *
    simp only [List.zipWith_cons_cons, List.sum_cons]
    have e : (if k.f ≤ k.b then c else 0) * k.b + (c - (if k.f ≤ k.b then c else 0)) * k.f = c * aside k := by
      unfold aside
      by_cases z : k.f ≤ k.b
      · rw [if_pos z, if_neg (by omega), Int.sub_self, Int.zero_mul, Int.add_zero]
      · rw [if_neg z, if_pos (by omega), Int.zero_mul, Int.sub_zero, Int.zero_add]
    omega
theorem elders_len {bk : List Kd} {left : List Int} (h : left.length = bk.length) : (eldersOf bk left).length = bk.length := by
  unfold eldersOf
  rw [List.length_zipWith]
  omega
/-- what worst_opening gives is such a triple -/
theorem worst_of {bk : List Kd} {cs : List Int} {n : Nat} {m : Int} (hl : cs.length = bk.length) (hp : ∀ c ∈ cs, 0 ≤ c) (r : RawAt bk cs bk.length m (some n)) :
    Worst bk cs n (eldersOf bk (addAt (-1) n cs)) (List.zipWith (fun c e => c - e) (addAt (-1) n cs) (eldersOf bk (addAt (-1) n cs))) := by
  obtain ⟨hn, k, c, hk, hc, hpos, hm⟩ := r.yes n rfl
  have hal : (addAt (-1) n cs).length = bk.length := by rw [addAt_len, hl]
  have hlen := elders_len hal
  have left_nn : ∀ (i : Nat) x, (addAt (-1) n cs)[i]? = some x → 0 ≤ x := fun i x hx => by
    have hi : i < cs.length := by
      have := (List.getElem?_eq_some_iff.mp hx).1
      rw [addAt_len] at this
      exact this
    have h1 := addAt_at (-1) n cs i _ (List.getElem?_eq_getElem hi)
    rw [hx] at h1
    have e := Option.some.inj h1
    by_cases z : i = n
    · subst z
      rw [if_pos rfl] at e
      have h2 := (List.getElem?_eq_getElem hi).symm.trans hc
      have h3 := Option.some.inj h2
      omega
    · rw [if_neg z] at e
      have := hp _ (List.getElem_mem hi)
      omega
  refine ⟨hn, hlen, by rw [List.length_zipWith]; omega, fun x hx => ?_, fun x hx => ?_, fun i e y c' he hy hc' => ?_, fun k' hk' => ?_⟩
  · obtain ⟨i, hi⟩ := List.mem_iff_getElem?.mp hx
    unfold eldersOf at hi
    rw [List.getElem?_zipWith] at hi
    cases e1 : bk[i]? with
    | none => rw [e1] at hi; simp at hi
    | some k1 =>
      cases e2 : (addAt (-1) n cs)[i]? with
      | none => rw [e1, e2] at hi; simp at hi
      | some c1 =>
        rw [e1, e2] at hi
        have := left_nn i c1 e2
        have e := Option.some.inj hi
        by_cases z : k1.f ≤ k1.b
        · rw [if_pos z] at e
          omega
        · rw [if_neg z] at e
          omega
  · obtain ⟨i, hi⟩ := List.mem_iff_getElem?.mp hx
    unfold eldersOf at hi
    rw [List.getElem?_zipWith, List.getElem?_zipWith] at hi
    cases e1 : bk[i]? with
    | none => cases e2 : (addAt (-1) n cs)[i]? <;> rw [e1, e2] at hi <;> simp at hi
    | some k1 =>
      cases e2 : (addAt (-1) n cs)[i]? with
      | none => rw [e1, e2] at hi; simp at hi
      | some c1 =>
        rw [e1, e2] at hi
        have := left_nn i c1 e2
        have e := Option.some.inj hi
        by_cases z : k1.f ≤ k1.b
        · rw [if_pos z] at e
          omega
        · rw [if_neg z] at e
          omega
  · have h1 := addAt_at (-1) n cs i c' hc'
    rw [List.getElem?_zipWith, h1, he] at hy
    have e3 := Option.some.inj hy
    by_cases z : i = n
    · rw [if_pos z] at e3 ⊢
      omega
    · rw [if_neg z] at e3 ⊢
      omega
  · obtain rfl := Option.some.inj (hk.symm.trans hk')
    have h1 := shares bk (addAt (-1) n cs) hal
    have h2 := addAt_every (-1) n bk cs k hl hk
    have h3 := r.eq
    unfold loadOf at hm
    omega
theorem worst_small {bk : List Kd} {cs : List Int} {n : Nat} {es ys : List Int} (w : Worst bk cs n es ys) (hl : cs.length = bk.length) {B : Int} (hb : ∀ c ∈ cs, c ≤ B) : (∀ e ∈ es, e ≤ B) ∧ ∀ y ∈ ys, y ≤ B := by
  have key : ∀ (i : Nat), i < bk.length → ∃ e y c, es[i]? = some e ∧ ys[i]? = some y ∧ cs[i]? = some c := fun i hi => by
    have := w.le
    have := w.ly
    exact ⟨_, _, _, List.getElem?_eq_getElem (by omega), List.getElem?_eq_getElem (by omega), List.getElem?_eq_getElem (by omega)⟩
  refine ⟨fun e he => ?_, fun y hy => ?_⟩
  · obtain ⟨i, hi⟩ := List.mem_iff_getElem?.mp he
    have hlt := (List.getElem?_eq_some_iff.mp hi).1
    obtain ⟨e', y, c, h1, h2, h3⟩ := key i (by have := w.le; omega)
    obtain rfl := Option.some.inj (hi.symm.trans h1)
    have a1 := w.sum i e y c h1 h2 h3
    have a2 := w.py y (List.mem_of_getElem? h2)
    have a3 := hb c (List.mem_of_getElem? h3)
    split at a1 <;> omega
  · obtain ⟨i, hi⟩ := List.mem_iff_getElem?.mp hy
    have hlt := (List.getElem?_eq_some_iff.mp hi).1
    obtain ⟨e, y', c, h1, h2, h3⟩ := key i (by have := w.ly; omega)
    obtain rfl := Option.some.inj (hi.symm.trans h2)
    have a1 := w.sum i e y c h1 h2 h3
    have a2 := w.pe e (List.mem_of_getElem? h1)
    have a3 := hb c (List.mem_of_getElem? h3)
    split at a1 <;> omega
/-! ### how many more -/
def moreF (bk : List Kd) (cs : List Int) (n : Nat) (k : Kd) (cells : Int) : Int :=
  if cells < fact bk cs then -1 else if cells < fact bk (addAt 1 n cs) then 0 else 1 + (cells - fact bk (addAt 1 n cs)) / aside k
end K27

set_option Elab.async false
set_option linter.all false
set_option maxRecDepth 100000
set_option maxHeartbeats 4000000
/-! KH: worst_opening, with_more, most_more. -/
namespace K27
open PySem PySem.Spec PyProof.Rows L2
open Evl (Ex)
section
variable {P : Program} {w : World} {K : PySem.W.Frag} {mg : Str → Option Value} {base : Heap}
/-! ### worst_opening -/
abbrev s_worst_opening : Stmt := topS 25
theorem sc_worst_opening : FnScope ["book", "counts", "number", "left", "elders", "at", "many", "kind", "elder"] ["book", "counts"] (defScope s_worst_opening) := ⟨rfl, rfl, rfl, by decide +kernel, rfl, by decide +kernel, by decide +kernel⟩
/-- a triple with the greatest load, or nothing where no deed is -/
def WOut (bk : List Kd) (cs : List Int) (H : Hp) (v : V) : Prop := (v = .non ∧ ∀ (j : Nat) c, cs[j]? = some c → ¬ 0 < c) ∨
  ∃ (n : Nat) (es ys : List Int) (p pe py : Addr), v = .ref p ∧ H p = some (.tup [.int (n : Int), .ref pe, .ref py]) ∧ H pe = some (.tup (es.map V.int)) ∧ H py = some (.tup (ys.map V.int)) ∧ Worst bk cs n es ys
def sp_worst_opening : Sp := fun vs H Q _ => ∃ kk a bk kt b cs, vs = [.ref a, .ref b] ∧ BookAt H kk a bk ∧ GoodB bk ∧ IntsAt H kt b cs ∧ GoodC bk cs ∧ ∀ H' v, Ex H H' → WOut bk cs H' v → Q v H'
theorem dec_intV {i j : Int} : decide (V.int i = V.int j) = decide (i = j) := by
  by_cases h : i = j
  · rw [decide_eq_true h, decide_eq_true (congrArg V.int h)]
  · rw [decide_eq_false h, decide_eq_false fun z => h (V.int.inj z)]
theorem int_map_at {ns : List Int} {i : Nat} {c : Int} (h : ns[i]? = some c) : (ns.map V.int)[i]? = some (.int c) := by
  rw [List.getElem?_map, h]
  rfl
theorem ok_worst_opening (T : Txt K mg) (c_check_book : Cal P w K mg base CX0 5 "check_book" ["book", "counts"] sp_check_book) (c_raw_load : Cal P w K mg base CX0 2 "raw_load" ["book", "counts"] sp_raw_load)
    (o : Own K mg "worst_opening" s_worst_opening ["book", "counts"]) : Cal P w K mg base CX0 6 "worst_opening" ["book", "counts"] sp_worst_opening := o.cal fun f fd F => by
  refine F.ok sc_worst_opening (fun vs H Q E h => ?_) (fun cdv A outer s H vs Q E hr h => ?_)
  · obtain ⟨kk, a, bk, kt, b, cs, rfl, _⟩ := h
    rfl
  · obtain ⟨kk, a, bk, kt, b, cs, rfl, hB, g, hc, gc, q⟩ := h
    have hr_check_book : Room 5 _ := hr
    have hr_raw_load : Room 2 _ := hr.mono (by decide)
    refine ⟨_, (pss_cons (ps_expr (pe_cal c_check_book hr_check_book (pa_cons (pv 0) (pa_cons (pv 1) pa_nil))))
      (pss_cons (ps_set (i := 2) sc_worst_opening.nd rfl (Or.inr rfl) (pe_ix (r := rIxQ K) ix_q (pe_cal c_raw_load hr_raw_load (pa_cons (pv 0) (pa_cons (pv 1) pa_nil))) pe_int (fun _ _ => rfl)))
      (pss_cons (ps_if (pt_cmpR op_isN (pv 2) pe_non (nomark _))
        (pss_one (ps_ret pe_non)) pss_nil)
      (pss_cons (ps_setLc (i := 3) (own := [("at", 5), ("many", 6)]) (g := gTup K 2 (gCons (gName 5) (gCons (gName 6) gNil))) (tt := tYes) rfl sc_worst_opening.nd rfl rfl (sw_true rfl rfl rfl (by decide +kernel)) (pi_enumQ (by rfl) T.b_enumerate (pa_cons (pv 1) pa_nil)) (blkOk_by (N := ["book", "counts", "number", "left", "elders", "at", "many", "kind", "elder"]) (sc := defScope s_worst_opening) (by decide +kernel)) (fun _ _ _ _ _ => (pg_tup rfl (pgs_cons (pg_name (i := 5) sc_worst_opening.nd rfl (Or.inl rfl)) (pgs_cons (pg_name (i := 6) sc_worst_opening.nd rfl (Or.inl rfl)) pgs_nil)))) (fun _ _ _ _ _ => pts_nil) (fun _ _ _ _ _ => (pe_ifExp (pt_cmpR op_eq (pv 5) (pv 2) (nomark _)) (pe_op op_sub (pv 6) pe_int) (pv 6))))
      (pss_cons (ps_setLc (i := 4) (own := [("kind", 7), ("many", 6)]) (g := gTup K 2 (gCons (gName 7) (gCons (gName 6) gNil))) (tt := tYes) rfl sc_worst_opening.nd rfl rfl (sw_true rfl rfl rfl (by decide +kernel)) (pi_zip2 (by rfl) T.b_zip (pa_cons (pv 0) (pa_cons (pv 3) pa_nil))) (blkOk_by (N := ["book", "counts", "number", "left", "elders", "at", "many", "kind", "elder"]) (sc := defScope s_worst_opening) (by decide +kernel)) (fun _ _ _ _ _ => (pg_tup rfl (pgs_cons (pg_name (i := 7) sc_worst_opening.nd rfl (Or.inl rfl)) (pgs_cons (pg_name (i := 6) sc_worst_opening.nd rfl (Or.inl rfl)) pgs_nil)))) (fun _ _ _ _ _ => pts_nil) (fun _ _ _ _ _ => (pe_ifExp (pt_cmpR op_ge (pe_ix (r := rIxQ K) ix_q (pv 7) pe_int (fun _ _ => rfl)) (pe_ix (r := rIxQ K) ix_q (pv 7) pe_int (fun _ _ => rfl)) (nomark _)) (pv 6) pe_int)))
      (pss_one (ps_ret (pe_tup (pa_cons (pv 2) (pa_cons (pe_callTy call_tuple_of (by rfl) T.b_tuple (by decide +kernel) (pa_cons (pv 4) pa_nil)) (pa_cons (pe_callTy call_tuple_of (by rfl) T.b_tuple (by decide +kernel) (pa_cons (pe_lc (own := [("many", 6), ("elder", 8)]) (g := gTup K 2 (gCons (gName 6) (gCons (gName 8) gNil))) (tt := tYes) rfl sc_worst_opening.nd (pi_zip2 (by rfl) T.b_zip (pa_cons (pv 3) (pa_cons (pv 4) pa_nil))) (blkOk_by (N := ["book", "counts", "number", "left", "elders", "at", "many", "kind", "elder"]) (sc := defScope s_worst_opening) (by decide +kernel)) (fun _ _ _ _ _ => (pg_tup rfl (pgs_cons (pg_name (i := 6) sc_worst_opening.nd rfl (Or.inl rfl)) (pgs_cons (pg_name (i := 8) sc_worst_opening.nd rfl (Or.inl rfl)) pgs_nil)))) (fun _ _ _ _ _ => pts_nil) (fun _ _ _ _ _ => (pe_op op_sub (pv 6) (pv 8)))) pa_nil)) pa_nil))))))))))), ?_⟩
    refine ⟨_, rfl, _, rfl, kk, a, bk, kt, b, cs, rfl, hB, g, hc, gc, fun H1 e1 => ?_⟩
    refine ⟨_, rfl, _, rfl, kk, a, bk, kt, b, cs, rfl, hB.up e1, hc.up e1, gc.nice g, fun H2 p m o e2 hp r => ?_⟩
    refine ⟨false, p, _, _, _, rfl, rfl, SqT.of hp, atI_nat (j := 1) rfl, ?_⟩
    refine ⟨_, rfl, rfl, _, rfl, ?_⟩
    have e12 := e1.trans e2
    cases o with
    | none =>
      refine iteT (q H2 _ e12 (.inl ⟨rfl, fun j c hj => ?_⟩))
      have hj2 := (List.getElem?_eq_some_iff.mp hj).1
      have := gc.len
      exact (r.no rfl).2 j c (by omega) (by omega) hj
    | some n =>
      obtain ⟨xs, hx, hpk⟩ := id hB
      have lx := paired_len hpk
      have lc := gc.len
      have lb := g.most
      have hal : (addAt (-1) n cs).length = bk.length := by rw [addAt_len, lc]
      refine iteF ?_
      -- left
      refine ⟨_, rfl, kt, b, _, rfl, (hc.up e12).sq, fun D hD => lc_pure (walk_enumQ (k := kt) (a := b) (xs := cs.map V.int)) hD tm_int (addAt (-1) n cs) (by rw [List.length_map, addAt_len]) (fun H' e => (hc.up (e12.trans e)).sq) (by rw [List.length_map]; omega)
        (fun i m' x H3 H4 K1 hm e3 y k1 => ?_) mono_t2 fun H3 xs3 e3 hx3 hp3 => ?_⟩
      · obtain ⟨T0, vs, rfl, hT, rfl, hv⟩ := y
        obtain ⟨v, h1, rfl⟩ := enum_got hv
        obtain ⟨c, hc1, rfl⟩ := map_got h1
        have h2 := addAt_at (-1) n cs i c hc1
        rw [hm] at h2
        obtain rfl := Option.some.inj h2
        refine get_t2 upd_same ⟨rfl, ?_⟩
        refine ⟨_, rfl, _, rfl, rfl, _, rfl, ?_⟩
        have e4 : Ex H3 (upd H3 T0 (.tup [.int (i : Nat), .int c])) := Ex.new hT
        by_cases hi : i = n
        · subst hi
          rw [show decide (V.int ((i : Nat) : Int) = oV (some i)) = true from decide_eq_true rfl]
          refine iteT ⟨_, rfl, _, _, rfl, rfl, k1 _ _ e4 ?_⟩
          rw [if_pos rfl]
          rfl
        · rw [show decide (V.int ((i : Nat) : Int) = oV (some n)) = false from decide_eq_false fun z => hi (by
            have z' : (i : Int) = (n : Int) := V.int.inj z
            omega)]
          refine iteF ⟨_, rfl, k1 _ _ e4 ?_⟩
          rw [if_neg hi]
          rfl
      · rw [pair_int hp3] at hx3
        have e13 := e12.trans e3
        -- elders
        refine ⟨_, rfl, _, rfl, kk, true, a, D, xs, _, rfl, (hx.up e13).sq, SqL.of hx3, fun D2 hD2 => lc_pure (walk_zip2 (k1 := kk) (k2 := true) (a := a) (b := D) (xs := xs) (ys := (addAt (-1) n cs).map V.int) (n := bk.length) (by rw [List.length_map]; omega)) hD2 tm_int (eldersOf bk (addAt (-1) n cs)) (elders_len hal)
          (fun H' e => ⟨(hx.up (e13.trans e)).sq, SqL.of (e _ _ hx3)⟩) (by omega) (fun i m' x H4 H5 K1 hm e4 y k1 => ?_) mono_t2 fun H4 xs4 e4 hx4 hp4 => ?_⟩
        · obtain ⟨T0, vs, rfl, hT, rfl, hv⟩ := y
          obtain ⟨v, cv, h1, h2, rfl⟩ := zip2_got hv
          obtain ⟨k, hk, pk, rfl, hkp⟩ := paired_at hpk h1
          obtain ⟨c, hc1, rfl⟩ := map_got h2
          have e5 : Ex H4 (upd H4 T0 (.tup [.ref pk, .int c])) := Ex.new hT
          have hk5 := e5 _ _ (e4 _ _ (e13 _ _ hkp))
          have hm2 : m' = if k.f ≤ k.b then c else 0 := by
            unfold eldersOf at hm
            rw [List.getElem?_zipWith, hk, hc1] at hm
            exact (Option.some.inj hm).symm
          refine get_t2 upd_same ⟨rfl, ?_⟩
          refine ⟨_, rfl, false, pk, _, _, _, rfl, rfl, SqT.of hk5, atI_nat (j := 1) rfl, _, rfl, false, pk, _, _, _, rfl, rfl, SqT.of hk5, atI_nat (j := 2) rfl, _, _, rfl, rfl, _, rfl, ?_⟩
          by_cases hi : k.f ≤ k.b
          · rw [decide_eq_true hi]
            refine iteT ⟨_, rfl, k1 _ _ e5 ?_⟩
            rw [hm2, if_pos hi]
            rfl
          · rw [decide_eq_false hi]
            refine iteF (k1 _ _ e5 ?_)
            rw [hm2, if_neg hi]
            rfl
        · rw [pair_int hp4] at hx4
          have hx3' := e4 _ _ hx3
          have el := elders_len hal
          -- (number, tuple(elders), tuple([..]))
          refine ⟨_, rfl, _, rfl, D2, _, rfl, .inl ⟨SqL.of hx4, fun p1 np1 => ?_⟩⟩
          have e5 : Ex H4 (upd H4 p1 (.tup ((eldersOf bk (addAt (-1) n cs)).map V.int))) := Ex.new np1
          refine ⟨_, rfl, _, rfl, true, true, D, D2, _, _, rfl, SqL.of (e5 _ _ hx3'), SqL.of (e5 _ _ hx4), fun D3 hD3 => lc_pure (walk_zip2 (k1 := true) (k2 := true) (a := D) (b := D2) (xs := (addAt (-1) n cs).map V.int) (ys := (eldersOf bk (addAt (-1) n cs)).map V.int) (n := bk.length) (by rw [List.length_map, List.length_map]; omega)) hD3 tm_int
            (List.zipWith (fun c e => c - e) (addAt (-1) n cs) (eldersOf bk (addAt (-1) n cs))) (by rw [List.length_zipWith]; omega) (fun H' e => ⟨SqL.of (e _ _ (e5 _ _ hx3')), SqL.of (e _ _ (e5 _ _ hx4))⟩) (by omega) (fun i m' x H5 H6 K1 hm e6 y k1 => ?_) mono_t2 fun H5 xs5 e6 hx5 hp5 => ?_⟩
          · obtain ⟨T0, vs, rfl, hT, rfl, hv⟩ := y
            obtain ⟨cv, ev, h1, h2, rfl⟩ := zip2_got hv
            obtain ⟨c, hc1, rfl⟩ := map_got h1
            obtain ⟨e', he1, rfl⟩ := map_got h2
            refine get_t2 upd_same ⟨rfl, ?_⟩
            refine ⟨_, rfl, _, rfl, _, _, rfl, rfl, k1 _ _ (Ex.new hT) ?_⟩
            rw [List.getElem?_zipWith, hc1, he1] at hm
            obtain rfl := Option.some.inj hm
            rfl
          · rw [pair_int hp5] at hx5
            refine ⟨D3, _, rfl, .inl ⟨SqL.of hx5, fun p2 np2 => ?_⟩⟩
            have e7 := Ex.new (o := .tup ((List.zipWith (fun c e => c - e) (addAt (-1) n cs) (eldersOf bk (addAt (-1) n cs))).map V.int)) np2
            refine ⟨by show 3 ≤ sizeLine; decide, fun p3 np3 => ?_⟩
            have e8 := Ex.new (o := .tup [.int (n : Int), .ref p1, .ref p2]) np3
            refine q _ _ ((((e13.trans e4).trans e5).trans e6).trans (e7.trans e8)) (.inr ⟨n, _, _, p3, p1, p2, rfl, upd_same, ?_, ?_, worst_of lc gc.pos r⟩)
            · exact e8 _ _ (e7 _ _ (e6 _ _ upd_same))
            · exact e8 _ _ upd_same
/-! ### with_more -/
abbrev s_with_more : Stmt := topS 27
theorem sc_with_more : FnScope ["counts", "kind", "many", "at", "old"] ["counts", "kind", "many"] (defScope s_with_more) := ⟨rfl, rfl, rfl, by decide +kernel, rfl, by decide +kernel, by decide +kernel⟩
def sp_with_more : Sp := fun vs H Q _ => ∃ (kt : Bool) (b : Addr) (cs : List Int) (n : Nat) (m : Int), vs = [.ref b, .int (n : Int), .int m] ∧ IntsAt H kt b cs ∧ cs.length ≤ 1000 ∧ ∀ H' p, Ex H H' → H' p = some (.tup ((addAt m n cs).map V.int)) → Q (.ref p) H'
theorem ok_with_more (T : Txt K mg) (o : Own K mg "with_more" s_with_more ["counts", "kind", "many"]) : Cal P w K mg base CX0 1 "with_more" ["counts", "kind", "many"] sp_with_more := o.cal fun f fd F => by
  refine F.ok sc_with_more (fun vs H Q E h => ?_) (fun cdv A outer s H vs Q E hr h => ?_)
  · obtain ⟨kt, b, cs, n, m, rfl, _⟩ := h
    rfl
  · obtain ⟨kt, b, cs, n, m, rfl, hc, hl, q⟩ := h
    refine ⟨_, (pss_one (ps_ret (pe_callTy call_tuple_of (by rfl) T.b_tuple (by decide +kernel) (pa_cons (pe_lc (own := [("at", 3), ("old", 4)]) (g := gTup K 2 (gCons (gName 3) (gCons (gName 4) gNil))) (tt := tYes) rfl sc_with_more.nd (pi_enumQ (by rfl) T.b_enumerate (pa_cons (pv 0) pa_nil)) (blkOk_by (N := ["counts", "kind", "many", "at", "old"]) (sc := defScope s_with_more) (by decide +kernel)) (fun _ _ _ _ _ => (pg_tup rfl (pgs_cons (pg_name (i := 3) sc_with_more.nd rfl (Or.inl rfl)) (pgs_cons (pg_name (i := 4) sc_with_more.nd rfl (Or.inl rfl)) pgs_nil)))) (fun _ _ _ _ _ => pts_nil) (fun _ _ _ _ _ => (pe_ifExp (pt_cmpR op_eq (pv 3) (pv 1) (nomark _)) (pe_op op_add (pv 4) (pv 2)) (pv 4)))) pa_nil)))), ?_⟩
    refine ⟨_, rfl, kt, b, _, rfl, hc.sq, fun D hD => lc_pure (walk_enumQ (k := kt) (a := b) (xs := cs.map V.int)) hD tm_int (addAt m n cs) (by rw [List.length_map, addAt_len]) (fun H' e => (hc.up e).sq) (by rw [List.length_map]; omega) (fun i m' x H3 H4 K1 hm e3 y k1 => ?_) mono_t2 fun H3 xs3 e3 hx3 hp3 => ?_⟩
    · obtain ⟨T0, vs, rfl, hT, rfl, hv⟩ := y
      obtain ⟨v, h1, rfl⟩ := enum_got hv
      obtain ⟨c, hc1, rfl⟩ := map_got h1
      have h2 := addAt_at m n cs i c hc1
      rw [hm] at h2
      obtain rfl := Option.some.inj h2
      refine get_t2 upd_same ⟨rfl, ?_⟩
      refine ⟨_, rfl, _, rfl, rfl, _, rfl, ?_⟩
      have e4 : Ex H3 (upd H3 T0 (.tup [.int (i : Nat), .int c])) := Ex.new hT
      by_cases hi : i = n
      · subst hi
        rw [decide_eq_true rfl]
        refine iteT ⟨_, rfl, _, rfl, _, _, rfl, rfl, k1 _ _ e4 ?_⟩
        rw [if_pos rfl]
        rfl
      · rw [show decide (V.int ((i : Nat) : Int) = V.int (n : Int)) = false from decide_eq_false fun z => hi (by
          have z' : (i : Int) = (n : Int) := V.int.inj z
          omega)]
        refine iteF ⟨_, rfl, k1 _ _ e4 ?_⟩
        rw [if_neg hi]
        rfl
    · rw [pair_int hp3] at hx3
      exact ⟨D, _, rfl, .inl ⟨SqL.of hx3, fun p np => q _ p (e3.trans (Ex.new np)) upd_same⟩⟩
/-! ### most_more -/
abbrev s_most_more : Stmt := topS 28
theorem sc_most_more : FnScope ["book", "counts", "kind", "cells", "first"] ["book", "counts", "kind", "cells"] (defScope s_most_more) := ⟨rfl, rfl, rfl, by decide +kernel, rfl, by decide +kernel, by decide +kernel⟩
def sp_most_more : Sp := fun vs H Q _ => ∃ (kk : Bool) (a : Addr) (bk : List Kd) (kt : Bool) (b : Addr) (cs : List Int) (n : Nat) (k : Kd) (cells : Int), vs = [.ref a, .ref b, .int (n : Int), .int cells] ∧ BookAt H kk a bk ∧ GoodB bk ∧ IntsAt H kt b cs ∧ GoodC bk cs ∧ bk[n]? = some k ∧ aside k < 1073741824 ∧ 1 ≤ cells ∧ cells ≤ 1000000000000000000000000000000 ∧
  ∀ H', Ex H H' → Q (.int (moreF bk cs n k cells)) H'
theorem nice_more {bk : List Kd} {cs : List Int} {n : Nat} (g : GoodB bk) (gc : GoodC bk cs) : Nice bk (addAt 1 n cs) := by
  refine ⟨g.all, by have := g.most; omega, by rw [addAt_len, gc.len], addAt_mem (P := fun c => 0 ≤ c) (fun c h => by omega) n cs gc.pos, fun c hc => ?_⟩
  obtain ⟨i, hi⟩ := List.mem_iff_getElem?.mp hc
  have hl := (List.getElem?_eq_some_iff.mp hi).1
  rw [addAt_len] at hl
  have h1 := addAt_at 1 n cs i _ (List.getElem?_eq_getElem hl)
  rw [hi] at h1
  have h2 := gc.most _ (List.getElem_mem hl)
  have h3 := Option.some.inj h1
  split at h3 <;> omega
theorem ok_most_more (T : Txt K mg) (c_check_book : Cal P w K mg base CX0 5 "check_book" ["book", "counts"] sp_check_book) (c_is_within : Cal P w K mg base CX0 2 "is_within" ["thing", "least", "most"] sp_is_within) (c_check_cells : Cal P w K mg base CX0 3 "check_cells" ["thing"] sp_check_cells)
    (c_raw_load : Cal P w K mg base CX0 2 "raw_load" ["book", "counts"] sp_raw_load) (c_with_more : Cal P w K mg base CX0 1 "with_more" ["counts", "kind", "many"] sp_with_more) (c_aside : Cal P w K mg base CX0 1 "aside" ["kind"] sp_aside)
    (o : Own K mg "most_more" s_most_more ["book", "counts", "kind", "cells"]) : Cal P w K mg base CX0 6 "most_more" ["book", "counts", "kind", "cells"] sp_most_more := o.cal fun f fd F => by
  refine F.ok sc_most_more (fun vs H Q E h => ?_) (fun cdv A outer s H vs Q E hr h => ?_)
  · obtain ⟨kk, a, bk, kt, b, cs, n, k, cells, rfl, _⟩ := h
    rfl
  · obtain ⟨kk, a, bk, kt, b, cs, n, k, cells, rfl, hB, g, hc, gc, hk, ha, h1, h2, q⟩ := h
    have hr_check_book : Room 5 _ := hr
    have hr_is_within : Room 2 _ := hr.mono (by decide)
    have hr_check_cells : Room 3 _ := hr.mono (by decide)
    have hr_raw_load : Room 2 _ := hr.mono (by decide)
    have hr_with_more : Room 1 _ := hr.mono (by decide)
    have hr_aside : Room 1 _ := hr.mono (by decide)
    obtain ⟨xs, hx, hpk⟩ := id hB
    have lx := paired_len hpk
    have hn := (List.getElem?_eq_some_iff.mp hk).1
    refine ⟨_, (pss_cons (ps_expr (pe_cal c_check_book hr_check_book (pa_cons (pv 0) (pa_cons (pv 1) pa_nil))))
      (pss_cons (ps_if (pt_not (pt_val (pe_cal c_is_within hr_is_within (pa_cons (pv 2) (pa_cons pe_int (pa_cons (pe_op op_sub (pe_callB (r := Evl.rLenS K) call_len_seq (by rfl) T.b_len (by decide +kernel) (pa_cons (pv 0) pa_nil)) pe_int) pa_nil))))))
        (pss_one ps_never) pss_nil)
      (pss_cons (ps_expr (pe_cal c_check_cells hr_check_cells (pa_cons (pv 3) pa_nil)))
      (pss_cons (ps_if (pt_cmpR op_gt (pe_ix (r := rIxQ K) ix_q (pe_cal c_raw_load hr_raw_load (pa_cons (pv 0) (pa_cons (pv 1) pa_nil))) pe_int (fun _ _ => rfl)) (pv 3) (nomark _))
        (pss_one (ps_ret (pe_un un_neg pe_int))) pss_nil)
      (pss_cons (ps_set (i := 4) sc_most_more.nd rfl (Or.inl rfl) (pe_ix (r := rIxQ K) ix_q (pe_cal c_raw_load hr_raw_load (pa_cons (pv 0) (pa_cons (pe_cal c_with_more hr_with_more (pa_cons (pv 1) (pa_cons (pv 2) (pa_cons pe_int pa_nil)))) pa_nil))) pe_int (fun _ _ => rfl)))
      (pss_cons (ps_if (pt_cmpR op_gt (pv 4) (pv 3) (nomark _))
        (pss_one (ps_ret pe_int)) pss_nil)
      (pss_one (ps_ret (pe_op op_add pe_int (pe_op op_fdiv (pe_op op_sub (pv 3) (pv 4)) (pe_cal c_aside hr_aside (pa_cons (pe_ix (r := rIxQ K) ix_q (pv 0) (pv 2) (fun _ _ => rfl)) pa_nil)))))))))))), ?_⟩
    refine ⟨_, rfl, _, rfl, kk, a, bk, kt, b, cs, rfl, hB, g, hc, gc, fun H1 e1 => ?_⟩
    -- is_within(kind, 0, len(book) - 1)
    refine ⟨_, rfl, _, rfl, a, xs, rfl, (hx.up e1).lt, _, _, rfl, rfl, _, 0, _, rfl, .inl ⟨_, rfl⟩, fun H2 e2 => ⟨_, rfl, ?_⟩⟩
    rw [within_yes (by omega) (by omega)]
    refine iteF ?_
    refine ⟨_, rfl, cells, rfl, h1, h2, fun H3 e3 => ?_⟩
    have e13 := (e1.trans e2).trans e3
    refine ⟨_, rfl, _, rfl, kk, a, bk, kt, b, cs, rfl, hB.up e13, hc.up e13, gc.nice g, fun H4 p m o e4 hp r => ?_⟩
    refine ⟨false, p, _, _, _, rfl, rfl, SqT.of hp, atI_nat (j := 0) rfl, _, rfl, _, _, rfl, rfl, _, rfl, ?_⟩
    have e14 := e13.trans e4
    rw [r.eq]
    unfold moreF at q
    by_cases hm : cells < fact bk cs
    · rw [decide_eq_true hm]
      rw [if_pos hm] at q
      exact iteT ⟨_, rfl, q _ e14⟩
    · rw [decide_eq_false hm]
      rw [if_neg hm] at q
      refine iteF ?_
      refine ⟨_, rfl, _, rfl, _, rfl, kt, b, cs, n, 1, rfl, hc.up e14, by have := gc.len; have := g.most; omega, fun H5 p5 e5 hp5 => ?_⟩
      have e15 := e14.trans e5
      refine ⟨kk, a, bk, false, p5, _, rfl, hB.up e15, hp5, nice_more g gc, fun H6 p6 m6 o6 e6 hp6 r6 => ?_⟩
      have e16 := e15.trans e6
      refine ⟨false, p6, _, _, _, rfl, rfl, SqT.of hp6, atI_nat (j := 0) rfl, ?_⟩
      rw [r6.eq]
      refine ⟨_, rfl, _, rfl, _, _, rfl, rfl, _, rfl, ?_⟩
      by_cases hm2 : cells < fact bk (addAt 1 n cs)
      · rw [decide_eq_true hm2]
        rw [if_pos hm2] at q
        exact iteT (q _ e16)
      · rw [decide_eq_false hm2]
        rw [if_neg hm2] at q
        obtain ⟨v, hv, hkv⟩ := paired_at' hpk hk
        have hap := (aside_pos (g.all k (List.mem_of_getElem? hk))).1
        refine iteF ⟨_, rfl, _, rfl, _, _, rfl, rfl, _, rfl, _, rfl, kk, a, _, _, _, rfl, rfl, (hx.up e16).sq, atI_nat hv, v, k, rfl, hkv.up e16, fun H7 e7 => ⟨_, _, rfl, rfl, ⟨by omega, ha⟩, _, _, rfl, rfl, q _ (e16.trans e7)⟩⟩
end
end K27

set_option Elab.async false
set_option linter.all false
set_option maxRecDepth 100000
set_option maxHeartbeats 8000000
/-! KI: is_worst. -/
namespace K27
open PySem PySem.Spec PyProof.Rows L2
open Evl (Ex)
/-! ### what is handed to is_worst -/
inductive Thing where
  | non
  | lst
  | two
  | tri (v : V) (k1 : Bool) (es ys : List Int)
def ThingAt (H : Hp) (v : V) : Thing → Prop
  | .non => v = .non
  | .lst => ∃ p xs, v = .ref p ∧ H p = some (.lst xs)
  | .two => ∃ p x y, v = .ref p ∧ H p = some (.tup [x, y])
  | .tri u k1 es ys => ∃ p pe py, v = .ref p ∧ H p = some (.tup [u, .ref pe, .ref py]) ∧ IB u ∧ IntsAt H k1 pe es ∧ IntsAt H false py ys ∧ es.length ≤ 1000 ∧ ys.length ≤ 1000
theorem ThingAt.up {H H' : Hp} {v : V} {t : Thing} (e : Ex H H') (h : ThingAt H v t) : ThingAt H' v t := by
  cases t with
  | non => exact h
  | lst =>
    obtain ⟨p, xs, h1, h2⟩ := h
    exact ⟨p, xs, h1, e _ _ h2⟩
  | two =>
    obtain ⟨p, x, y, h1, h2⟩ := h
    exact ⟨p, x, y, h1, e _ _ h2⟩
  | tri u k1 es ys =>
    obtain ⟨p, pe, py, h1, h2, h3, h4, h5, h6⟩ := h
    exact ⟨p, pe, py, h1, e _ _ h2, h3, h4.up e, h5.up e, h6⟩
def WT (bk : List Kd) (cs : List Int) : Thing → Prop
  | .tri (.int n) false es ys => ∃ m : Nat, n = (m : Int) ∧ Worst bk cs m es ys
  | _ => False
theorem iteNT {c A B : Prop} [Decidable c] (hc : ¬ c) (h : A) : if (!decide c) = true then A else B := by
  rw [decide_eq_false hc]
  exact iteT h
theorem shaped_ints (ns : List Int) : SeqAt.shaped (.list (ns.map PyData.int)) = true := by
  have h1 : ∀ l : List Int, PyData.canLayAll0 (l.map PyData.int) = true := by
    intro l
    induction l with
    | nil => rfl
    | cons a l ih =>
      show (PyData.canLay0 (.int a) && PyData.canLayAll0 (l.map PyData.int)) = true
      rw [ih]
      rfl
  have h2 := depth_row ns
  show (PyData.canLay0 _ && decide _) = true
  have h3 : PyData.canLay0 (.list (ns.map PyData.int)) = true := h1 ns
  rw [h3, Bool.true_and]
  refine decide_eq_true ?_
  simp only [PyData.depth]
  omega
theorem eqv_ints (ns ms : List Int) : PyData.eqv (.list (ns.map PyData.int)) (.list (ms.map PyData.int)) = decide (ns = ms) := by
  show PyData.eqvAll _ _ = _
  exact PySem.W.ked_eqvAll ns ms
/-- the sums that are held against the counts -/
def ownOf (n len : Nat) : List Int := (List.range len).map fun i => if i = n then 1 else 0
def sum3 (os es ys : List Int) : List Int := List.zipWith (fun x y => x + y) (List.zipWith (fun x y => x + y) os es) ys
theorem ownOf_at {n len i : Nat} (h : i < len) : (ownOf n len)[i]? = some (if i = n then 1 else 0) := by
  unfold ownOf
  rw [List.getElem?_map, List.getElem?_range h]
  rfl
theorem ownOf_len (n len : Nat) : (ownOf n len).length = len := by
  unfold ownOf
  rw [List.length_map, List.length_range]
theorem sum3_len {os es ys : List Int} (h1 : os.length = es.length) (h2 : es.length = ys.length) : (sum3 os es ys).length = ys.length := by
  unfold sum3
  rw [List.length_zipWith, List.length_zipWith]
  omega
theorem sum3_at {os es ys : List Int} {i : Nat} {o e y : Int} (h1 : os[i]? = some o) (h2 : es[i]? = some e) (h3 : ys[i]? = some y) : (sum3 os es ys)[i]? = some (o + e + y) := by
  unfold sum3
  rw [List.getElem?_zipWith, List.getElem?_zipWith, h1, h2, h3]
theorem sum3_iff {bk : List Kd} {cs es ys : List Int} {n : Nat} (hc : cs.length = bk.length) (he : es.length = bk.length) (hy : ys.length = bk.length) :
    sum3 (ownOf n bk.length) es ys = cs ↔ ∀ (i : Nat) e y c, es[i]? = some e → ys[i]? = some y → cs[i]? = some c → (if i = n then 1 else 0) + e + y = c := by
  have hl : (sum3 (ownOf n bk.length) es ys).length = bk.length := by rw [sum3_len (by rw [ownOf_len, he]) (by omega), hy]
  constructor
  · intro h i e y c h1 h2 h3
    have hi := (List.getElem?_eq_some_iff.mp h3).1
    have h4 := sum3_at (ownOf_at (n := n) (show i < bk.length by omega)) h1 h2
    rw [h, h3] at h4
    exact (Option.some.inj h4).symm
  · intro h
    refine List.ext_getElem? fun i => ?_
    by_cases hi : i < bk.length
    · have h1 : es[i]? = some (es[i]'(by omega)) := List.getElem?_eq_getElem _
      have h2 : ys[i]? = some (ys[i]'(by omega)) := List.getElem?_eq_getElem _
      have h3 : cs[i]? = some (cs[i]'(by omega)) := List.getElem?_eq_getElem _
      rw [sum3_at (ownOf_at hi) h1 h2, h3, h i _ _ _ h1 h2 h3]
    · rw [List.getElem?_eq_none (by omega), List.getElem?_eq_none (by omega)]
def okc (bk : List Kd) (ns : List Int) : Bool := decide (ns.length = bk.length) && ns.all fun c => within (.int c) 0 1000000000
theorem okc_iff {bk : List Kd} {ns : List Int} : okc bk ns = true ↔ ns.length = bk.length ∧ ∀ c ∈ ns, 0 ≤ c ∧ c ≤ 1000000000 := by
  unfold okc
  rw [Bool.and_eq_true, decide_eq_true_iff, List.all_eq_true]
  constructor
  · rintro ⟨h1, h2⟩
    refine ⟨h1, fun c hc => ?_⟩
    have h3 : (decide ((0 : Int) ≤ c) && decide (c ≤ 1000000000)) = true := h2 c hc
    rw [Bool.and_eq_true, decide_eq_true_iff, decide_eq_true_iff] at h3
    exact h3
  · rintro ⟨h1, h2⟩
    exact ⟨h1, fun c hc => within_yes (h2 c hc).1 (h2 c hc).2⟩
section
variable {P : Program} {w : World} {K : PySem.W.Frag} {mg : Str → Option Value} {base : Heap}
abbrev s_is_worst : Stmt := topS 26
theorem sc_is_worst : FnScope ["book", "counts", "thing", "own", "found", "lot", "at", "one", "elder", "younger", "kind"] ["book", "counts", "thing"] (defScope s_is_worst) := ⟨rfl, rfl, rfl, by decide +kernel, rfl, by decide +kernel, by decide +kernel⟩
def sp_is_worst : Sp := fun vs H Q _ => ∃ kk a bk kt b cs v t, vs = [.ref a, .ref b, v] ∧ BookAt H kk a bk ∧ GoodB bk ∧ IntsAt H kt b cs ∧ GoodC bk cs ∧ ThingAt H v t ∧ ∀ H' r, Ex H H' → (r = true ↔ WT bk cs t) → Q (.bl r) H'
theorem ok_is_worst (T : Txt K mg) (c_check_book : Cal P w K mg base CX0 5 "check_book" ["book", "counts"] sp_check_book) (c_is_within : Cal P w K mg base CX0 2 "is_within" ["thing", "least", "most"] sp_is_within)
    (c_are_counts : Cal P w K mg base CX0 3 "are_counts" ["book", "thing"] sp_are_counts) (c_raw_load : Cal P w K mg base CX0 2 "raw_load" ["book", "counts"] sp_raw_load)
    (o : Own K mg "is_worst" s_is_worst ["book", "counts", "thing"]) : Cal P w K mg base CX0 6 "is_worst" ["book", "counts", "thing"] sp_is_worst := o.cal fun f fd F => by
  refine F.ok sc_is_worst (fun vs H Q E h => ?_) (fun cdv A outer s H vs Q E hr h => ?_)
  · obtain ⟨kk, a, bk, kt, b, cs, v, t, rfl, _⟩ := h
    rfl
  · obtain ⟨kk, a, bk, kt, b, cs, v, t, rfl, hB, g, hc, gc, ht, q⟩ := h
    have hr_check_book : Room 5 _ := hr
    have hr_is_within : Room 2 _ := hr.mono (by decide)
    have hr_are_counts : Room 3 _ := hr.mono (by decide)
    have hr_raw_load : Room 2 _ := hr.mono (by decide)
    obtain ⟨xs, hx, hpk⟩ := id hB
    have lx := paired_len hpk
    have lc := gc.len
    have lb := g.most
    have lb1 := g.one
    refine ⟨_, (pss_cons (ps_expr (pe_cal c_check_book hr_check_book (pa_cons (pv 0) (pa_cons (pv 1) pa_nil))))
      (pss_cons (ps_if (PW.pt (pw_or (pt_not (pt_val (pe_callB (r := rIsi K) call_isi (by rfl) T.b_isinstance (by decide +kernel) (pa_cons (pv 2) (pa_cons (pe_bltn (v := .ty "tuple") (by rfl) T.b_tuple (by decide +kernel) rfl) pa_nil))))) (pw_or (pt_cmpR op_ne (pe_callB (r := Evl.rLenS K) call_len_seq (by rfl) T.b_len (by decide +kernel) (pa_cons (pv 2) pa_nil)) pe_int (nomark _)) (pw_or1 (pt_not (pt_val (pe_cal c_is_within hr_is_within (pa_cons (pe_ix (r := rIxQ K) ix_q (pv 2) pe_int (fun _ _ => rfl)) (pa_cons pe_int (pa_cons (pe_op op_sub (pe_callB (r := Evl.rLenS K) call_len_seq (by rfl) T.b_len (by decide +kernel) (pa_cons (pv 0) pa_nil)) pe_int) pa_nil))))))))))
        (pss_one (ps_ret pe_bl)) pss_nil)
      (pss_cons (ps_if (pt_not (pt_val (pe_callB (r := rAll K) (cr_all rfl) (by rfl) T.b_all (by decide +kernel) (pa_cons (pe_lc (own := [("lot", 5)]) (g := gName 5) (tt := tYes) rfl sc_is_worst.nd (pi_seq (pe_slice (r := rSlA K) sl_tupA (pv 2) (po_some pe_int) po_none)) (blkOk_by (N := ["book", "counts", "thing", "own", "found", "lot", "at", "one", "elder", "younger", "kind"]) (sc := defScope s_is_worst) (by decide +kernel)) (fun _ _ _ _ _ => (pg_name (i := 5) sc_is_worst.nd rfl (Or.inl rfl))) (fun _ _ _ _ _ => pts_nil) (fun _ _ _ _ _ => (pe_and (pe_callB (r := rIsi K) call_isi (by rfl) T.b_isinstance (by decide +kernel) (pa_cons (pv 5) (pa_cons (pe_bltn (v := .ty "tuple") (by rfl) T.b_tuple (by decide +kernel) rfl) pa_nil))) (pe_one (pe_cal c_are_counts hr_are_counts (pa_cons (pv 0) (pa_cons (pv 5) pa_nil))))))) pa_nil))))
        (pss_one (ps_ret pe_bl)) pss_nil)
      (pss_cons (ps_setLc (i := 3) (own := [("at", 6)]) (g := gName 6) (tt := tYes) rfl sc_is_worst.nd rfl rfl (sw_true rfl rfl rfl (by decide +kernel)) (pi_range1 (by rfl) T.b_range (pa_cons (pe_callB (r := Evl.rLenS K) call_len_seq (by rfl) T.b_len (by decide +kernel) (pa_cons (pv 0) pa_nil)) pa_nil)) (blkOk_by (N := ["book", "counts", "thing", "own", "found", "lot", "at", "one", "elder", "younger", "kind"]) (sc := defScope s_is_worst) (by decide +kernel)) (fun _ _ _ _ _ => (pg_name (i := 6) sc_is_worst.nd rfl (Or.inl rfl))) (fun _ _ _ _ _ => pts_nil) (fun _ _ _ _ _ => (pe_ifExp (pt_cmpR op_eq (pv 6) (pe_ix (r := rIxQ K) ix_q (pv 2) pe_int (fun _ _ => rfl)) (nomark _)) pe_int pe_int)))
      (pss_cons (ps_if (pt_cmpR (r := rNeD K) (op_neD hr.units) (pe_lc (own := [("one", 7), ("elder", 8), ("younger", 9)]) (g := gTup K 3 (gCons (gName 7) (gCons (gName 8) (gCons (gName 9) gNil)))) (tt := tYes) rfl sc_is_worst.nd (pi_zip3 (by rfl) T.b_zip (pa_cons (pv 3) (pa_cons (pe_ix (r := rIxQ K) ix_q (pv 2) pe_int (fun _ _ => rfl)) (pa_cons (pe_ix (r := rIxQ K) ix_q (pv 2) pe_int (fun _ _ => rfl)) pa_nil)))) (blkOk_by (N := ["book", "counts", "thing", "own", "found", "lot", "at", "one", "elder", "younger", "kind"]) (sc := defScope s_is_worst) (by decide +kernel)) (fun _ _ _ _ _ => (pg_tup rfl (pgs_cons (pg_name (i := 7) sc_is_worst.nd rfl (Or.inl rfl)) (pgs_cons (pg_name (i := 8) sc_is_worst.nd rfl (Or.inl rfl)) (pgs_cons (pg_name (i := 9) sc_is_worst.nd rfl (Or.inl rfl)) pgs_nil))))) (fun _ _ _ _ _ => pts_nil) (fun _ _ _ _ _ => (pe_op op_add (pe_op op_add (pv 7) (pv 8)) (pv 9)))) (pe_callTy (r := Evl.rListS K) call_list_of (by rfl) T.b_list (by decide +kernel) (pa_cons (pv 1) pa_nil)) (nomark _))
        (pss_one (ps_ret pe_bl)) pss_nil)
      (pss_cons (ps_set (i := 4) sc_is_worst.nd rfl (Or.inl rfl) (pe_op op_add (pe_ix (r := rIxQ K) ix_q (pe_ix (r := rIxQ K) ix_q (pv 0) (pe_ix (r := rIxQ K) ix_q (pv 2) pe_int (fun _ _ => rfl)) (fun _ _ => rfl)) pe_int (fun _ _ => rfl)) (pe_callB (r := rSum K) (cr_sum rfl) (by rfl) T.b_sum (by decide +kernel) (pa_cons (pe_lc (own := [("kind", 10), ("elder", 8)]) (g := gTup K 2 (gCons (gName 10) (gCons (gName 8) gNil))) (tt := tYes) rfl sc_is_worst.nd (pi_zip2 (by rfl) T.b_zip (pa_cons (pv 0) (pa_cons (pe_ix (r := rIxQ K) ix_q (pv 2) pe_int (fun _ _ => rfl)) pa_nil))) (blkOk_by (N := ["book", "counts", "thing", "own", "found", "lot", "at", "one", "elder", "younger", "kind"]) (sc := defScope s_is_worst) (by decide +kernel)) (fun _ _ _ _ _ => (pg_tup rfl (pgs_cons (pg_name (i := 10) sc_is_worst.nd rfl (Or.inl rfl)) (pgs_cons (pg_name (i := 8) sc_is_worst.nd rfl (Or.inl rfl)) pgs_nil)))) (fun _ _ _ _ _ => pts_nil) (fun _ _ _ _ _ => (pe_op op_mul (pv 8) (pe_ix (r := rIxQ K) ix_q (pv 10) pe_int (fun _ _ => rfl))))) pa_nil))))
      (pss_one (ps_ret (pe_cmpR op_eq (pe_op op_add (pv 4) (pe_callB (r := rSum K) (cr_sum rfl) (by rfl) T.b_sum (by decide +kernel) (pa_cons (pe_lc (own := [("kind", 10), ("younger", 9)]) (g := gTup K 2 (gCons (gName 10) (gCons (gName 9) gNil))) (tt := tYes) rfl sc_is_worst.nd (pi_zip2 (by rfl) T.b_zip (pa_cons (pv 0) (pa_cons (pe_ix (r := rIxQ K) ix_q (pv 2) pe_int (fun _ _ => rfl)) pa_nil))) (blkOk_by (N := ["book", "counts", "thing", "own", "found", "lot", "at", "one", "elder", "younger", "kind"]) (sc := defScope s_is_worst) (by decide +kernel)) (fun _ _ _ _ _ => (pg_tup rfl (pgs_cons (pg_name (i := 10) sc_is_worst.nd rfl (Or.inl rfl)) (pgs_cons (pg_name (i := 9) sc_is_worst.nd rfl (Or.inl rfl)) pgs_nil)))) (fun _ _ _ _ _ => pts_nil) (fun _ _ _ _ _ => (pe_op op_mul (pv 9) (pe_ix (r := rIxQ K) ix_q (pv 10) pe_int (fun _ _ => rfl))))) pa_nil))) (pe_ix (r := rIxQ K) ix_q (pe_cal c_raw_load hr_raw_load (pa_cons (pv 0) (pa_cons (pv 1) pa_nil))) pe_int (fun _ _ => rfl)) (nomark _)))))))))), ?_⟩
    refine ⟨_, rfl, _, rfl, kk, a, bk, kt, b, cs, rfl, hB, g, hc, gc, fun H1 e1 => ?_⟩
    have ht1 := ht.up e1
    have nof : ∀ H', Ex H H' → ¬ WT bk cs t → Q (.bl false) H' := fun H' e n => q H' false e ⟨(fun z => nomatch z), fun z => absurd z n⟩
    cases t with
    | non =>
      obtain rfl : v = .non := ht1
      exact ⟨_, rfl, _, _, _, _, false, rfl, .ty "tuple", .base .non, kit_ty (by decide +kernel), false, rfl, iteT (iteT (nof _ e1 fun z => z))⟩
    | lst =>
      obtain ⟨p, ys, rfl, hp⟩ := ht1
      exact ⟨_, rfl, _, _, _, _, false, rfl, .ty "tuple", .base (.lst hp), kit_ty (by decide +kernel), false, rfl, iteT (iteT (nof _ e1 fun z => z))⟩
    | two =>
      obtain ⟨p, x, y, rfl, hp⟩ := ht1
      exact ⟨_, rfl, _, _, _, _, true, rfl, .ty "tuple", .base (.tup hp), kit_ty (by decide +kernel), true, rfl, iteF ⟨_, rfl, p, _, rfl, .inr (SqT.of hp), rfl, _, rfl, iteNT (by intro z; cases z) (iteT (nof _ e1 fun z => z))⟩⟩
    | tri u k1 es ys =>
      obtain ⟨p, pe, py, rfl, hp, hu, he, hy, le, ly⟩ := ht1
      refine ⟨_, rfl, _, _, _, _, true, rfl, .ty "tuple", .base (.tup hp), kit_ty (by decide +kernel), true, rfl, iteF ⟨_, rfl, p, _, rfl, .inr (SqT.of hp), rfl, _, rfl, iteNS (by rfl) ?_⟩⟩
      refine ⟨_, rfl, false, p, _, _, _, rfl, rfl, SqT.of hp, atI_nat (j := 0) rfl, _, rfl, a, xs, rfl, (hx.up e1).lt, _, _, rfl, rfl, u, 0, _, rfl, hu, fun H2 e2 => ⟨_, rfl, ?_⟩⟩
      have e12 := e1.trans e2
      cases hw : within u 0 ((xs.length : Int) - 1) with
      | false =>
        refine iteT (nof _ e12 ?_)
        intro z
        cases u with
        | int n =>
          cases k1 with
          | true => exact z
          | false =>
            obtain ⟨m, rfl, wz⟩ := z
            have := wz.lt
            rw [within_yes (by omega) (by omega)] at hw
            cases hw
        | _ => exact z
      | true =>
        obtain ⟨n, rfl, hn⟩ : ∃ n : Nat, u = .int (n : Int) ∧ n < bk.length := by
          rcases hu with ⟨i, rfl⟩ | ⟨i, rfl⟩
          · have hw2 : (decide ((0 : Int) ≤ i) && decide (i ≤ (xs.length : Int) - 1)) = true := hw
            rw [Bool.and_eq_true, decide_eq_true_iff, decide_eq_true_iff] at hw2
            exact ⟨i.toNat, by rw [Int.toNat_of_nonneg hw2.1], by omega⟩
          · cases hw
        refine iteF ?_
        have hp2 := e2 _ _ hp
        -- all(.. for lot in thing[1:])
        refine ⟨_, rfl, 1, rfl, p, _, rfl, SqT.of hp2, fun z => absurd z.1 (by show ¬ HT.sIx 3 0 (some 1) = 0; decide), fun _ p3 np3 => ?_⟩
        have e3 := Ex.new (o := .tup (cutV [V.int (n : Int), .ref pe, .ref py] (some 1) none)) np3
        have e13 := e12.trans e3
        have e23 := e2.trans e3
        have h3 : upd H2 p3 (.tup (cutV [V.int (n : Int), .ref pe, .ref py] (some 1) none)) p3 = some (.tup [.ref pe, .ref py]) := upd_same
        refine ⟨false, p3, [.ref pe, .ref py], rfl, SqT.of h3, fun D hD => lc_pure (walk_seq (k := false) (a := p3) (xs := [V.ref pe, V.ref py])) hD tm_bl [!k1 && okc bk es, okc bk ys] rfl (fun H' e => SqT.of (e _ _ h3)) (by show 2 ≤ 100000; decide) (fun i m x H4 H5 K1 hm e4 y k => ?_) mono_name fun H4 xs4 e4 hx4 hp4 => ?_⟩
        · obtain ⟨rfl, ex⟩ := y
          refine ⟨rfl, ?_⟩
          have go : ∀ (kq : Bool) (pq : Addr) (ns : List Int), x = .ref pq → m = (!kq && okc bk ns) → IntsAt H1 kq pq ns → ns.length ≤ 1000 → tAndV (tCB (rIsi K) (tCons (tVar 5) (tCons (tC (.ty "tuple")) tNil))) (tCall sp_are_counts [] E0 (tCons (tVar 0) (tCons (tVar 5) tNil))) ([some (.ref a), some (.ref b), some (.ref p), none, none, some x, none, none, none, none, none] : L2.St) H5 K1 := by
            rintro kq pq ns rfl hmq hq lq
            have hq4 := (hq.up e23).up e4
            cases kq with
            | true =>
              refine ⟨_, rfl, _, _, _, _, false, rfl, .ty "tuple", .base (.lst hq4), kit_ty (by decide +kernel), false, rfl, iteF ?_⟩
              exact k _ _ (Ex.refl _) (by rw [hmq]; rfl)
            | false =>
              refine ⟨_, rfl, _, _, _, _, true, rfl, .ty "tuple", .base (.tup hq4), kit_ty (by decide +kernel), true, rfl, iteT ?_⟩
              refine ⟨_, rfl, _, rfl, kk, a, bk, false, pq, ns, rfl, (hB.up e13).up e4, hq4, by omega, fun H6 e6 => ?_⟩
              exact k _ _ e6 (by rw [hmq]; rfl)
          match i, hm, ex with
          | 0, hm, ex => exact go k1 pe es (Option.some.inj ex).symm (Option.some.inj hm).symm he le
          | 1, hm, ex => exact go false py ys (Option.some.inj ex).symm (by rw [Bool.not_false, Bool.true_and]; exact (Option.some.inj hm).symm) hy ly
          | i + 2, hm, ex => simp at hm
        · rw [pair_bl hp4] at hx4
          have e14 := e13.trans e4
          refine ⟨D, [!k1 && okc bk es, okc bk ys], rfl, SqL.of hx4, _, rfl, ?_⟩
          cases hall : (!k1 && okc bk es) && okc bk ys with
          | false =>
            have ha : ([!k1 && okc bk es, okc bk ys].all id) = false := by
              show ((!k1 && okc bk es) && (okc bk ys && true)) = false
              rw [Bool.and_true]
              exact hall
            rw [ha]
            refine iteT (nof _ e14 ?_)
            intro z
            cases k1 with
            | true => exact z
            | false =>
              obtain ⟨m, em, wz⟩ := z
              have sm := worst_small wz lc gc.most
              have o1 : okc bk es = true := okc_iff.mpr ⟨wz.le, fun c hc => ⟨wz.pe c hc, sm.1 c hc⟩⟩
              have o2 : okc bk ys = true := okc_iff.mpr ⟨wz.ly, fun c hc => ⟨wz.py c hc, sm.2 c hc⟩⟩
              rw [o1, o2] at hall
              cases hall
          | true =>
            have ha : ([!k1 && okc bk es, okc bk ys].all id) = true := by
              show ((!k1 && okc bk es) && (okc bk ys && true)) = true
              rw [Bool.and_true]
              exact hall
            rw [ha]
            rw [Bool.and_eq_true, Bool.and_eq_true] at hall
            obtain ⟨⟨hk1, oe⟩, oy⟩ := hall
            obtain rfl : k1 = false := by
              cases k1 with
              | true => cases hk1
              | false => rfl
            obtain ⟨le2, pe2⟩ := okc_iff.mp oe
            obtain ⟨ly2, py2⟩ := okc_iff.mp oy
            refine iteF ?_
            have up4 : Ex H1 H4 := (e2.trans e3).trans e4
            have hp5 := up4 _ _ hp
            -- own
            refine ⟨_, rfl, a, xs, rfl, (hx.up e14).lt, _, rfl, by omega, by omega, fun D2 hD2 => lc_pure (walk_range (lo := 0) (n := ((xs.length : Nat) : Int).toNat)) hD2 tm_int (ownOf n bk.length) (by rw [ownOf_len]; omega) (fun _ _ => trivial) (by omega) (fun i m x H5 H6 K1 hm e5 y k => ?_) mono_name fun H5 xs5 e5 hx5 hp6 => ?_⟩
            · obtain ⟨rfl, rfl⟩ := y
              refine ⟨rfl, ?_⟩
              have hi : i < bk.length := by
                have := (List.getElem?_eq_some_iff.mp hm).1
                rw [ownOf_len] at this
                exact this
              rw [ownOf_at hi] at hm
              obtain rfl := Option.some.inj hm
              refine ⟨_, rfl, _, rfl, false, p, _, _, _, rfl, rfl, SqT.of (e5 _ _ hp5), atI_nat (j := 0) rfl, rfl, _, rfl, ?_⟩
              by_cases hin : i = n
              · rw [show decide (V.int (0 + (i : Int)) = V.int (n : Int)) = true from decide_eq_true (by rw [Int.zero_add, hin])]
                rw [if_pos hin] at k
                exact iteT (k _ _ (Ex.refl _) rfl)
              · rw [show decide (V.int (0 + (i : Int)) = V.int (n : Int)) = false from decide_eq_false fun z => hin (by
                  have z' := V.int.inj z
                  omega)]
                rw [if_neg hin] at k
                exact iteF (k _ _ (Ex.refl _) rfl)
            · rw [pair_int hp6] at hx5
              have e15 := e14.trans e5
              have up5 := up4.trans e5
              have hp7 := up5 _ _ hp
              have lo : (ownOf n bk.length).length = bk.length := ownOf_len _ _
              have l3 : (sum3 (ownOf n bk.length) es ys).length = bk.length := by rw [sum3_len (by omega) (by omega), ly2]
              -- [one + elder + younger ..] != list(counts)
              refine ⟨_, rfl, _, rfl, false, p, _, _, _, rfl, rfl, SqT.of hp7, atI_nat (j := 1) rfl, _, rfl, false, p, _, _, _, rfl, rfl, SqT.of hp7, atI_nat (j := 2) rfl, true, false, false, D2, pe, py, _, _, _, rfl, SqL.of hx5, (he.up up5).sq, (hy.up up5).sq,
                fun D3 hD3 => lc_pure (walk_zip3 (k1 := true) (k2 := false) (k3 := false) (a := D2) (b := pe) (c := py) (xs := (ownOf n bk.length).map V.int) (ys := es.map V.int) (zs := ys.map V.int) (n := bk.length) (by rw [List.length_map, List.length_map, List.length_map]; omega)) hD3 tm_int (sum3 (ownOf n bk.length) es ys) l3
                  (fun H' e => ⟨SqL.of (e _ _ hx5), ((he.up up5).up e).sq, ((hy.up up5).up e).sq⟩) (by omega) (fun i m x H6 H7 K1 hm e6 y k => ?_) mono_t3 fun H6 xs6 e6 hx6 hp8 => ?_⟩
              · obtain ⟨T0, vs, rfl, hT, rfl, hv⟩ := y
                obtain ⟨v1, v2, v3, h1, h2, h4, rfl⟩ := zip3_got hv
                obtain ⟨c1, g1, rfl⟩ := map_got h1
                obtain ⟨c2, g2, rfl⟩ := map_got h2
                obtain ⟨c3, g3, rfl⟩ := map_got h4
                refine get_t3 upd_same ⟨rfl, ?_⟩
                rw [sum3_at g1 g2 g3] at hm
                obtain rfl := Option.some.inj hm
                exact ⟨_, rfl, _, rfl, _, _, rfl, rfl, _, rfl, _, _, rfl, rfl, k _ _ (Ex.new hT) rfl⟩
              · rw [pair_int hp8] at hx6
                have e16 := e15.trans e6
                have up6 := up5.trans e6
                refine ⟨_, rfl, b, _, rfl, (hc.up e16).lt, fun l nl => ?_⟩
                have e7 := Ex.new (o := .lst (cs.map V.int)) nl
                refine ⟨.list ((sum3 (ownOf n bk.length) es ys).map .int), .list (cs.map .int), .lst (SqL.of (e7 _ _ hx6)) (dp_row _), .lst (SqL.of upd_same) (dp_row _), shaped_ints _, shaped_ints _, _, rfl, ?_⟩
                rw [eqv_ints]
                have e17 := e16.trans e7
                have up7 := up6.trans e7
                by_cases hs : sum3 (ownOf n bk.length) es ys = cs
                · refine iteNS hs ?_
                  have hsum := (sum3_iff lc le2 ly2).mp hs
                  obtain ⟨k, hk⟩ : ∃ k, bk[n]? = some k := ⟨_, List.getElem?_eq_getElem hn⟩
                  obtain ⟨vk, hvk, pk, rfl, hpk2⟩ := paired_at' hpk hk
                  have hp8' := up7 _ _ hp
                  -- found
                  refine ⟨_, rfl, _, rfl, false, p, _, _, _, rfl, rfl, SqT.of hp8', atI_nat (j := 0) rfl, kk, a, _, _, _, rfl, rfl, (hx.up e17).sq, atI_nat hvk, false, pk, _, _, _, rfl, rfl, SqT.of (e17 _ _ hpk2), atI_nat (j := 0) rfl, ?_⟩
                  refine ⟨_, rfl, _, rfl, false, p, _, _, _, rfl, rfl, SqT.of hp8', atI_nat (j := 1) rfl, kk, false, a, pe, xs, _, rfl, (hx.up e17).sq, (he.up up7).sq,
                    fun D4 hD4 => lc_pure (walk_zip2 (k1 := kk) (k2 := false) (a := a) (b := pe) (xs := xs) (ys := es.map V.int) (n := bk.length) (by rw [List.length_map]; omega)) hD4 tm_int (List.zipWith (fun k e => e * k.b) bk es) (by rw [List.length_zipWith]; omega)
                      (fun H' e => ⟨(hx.up (e17.trans e)).sq, ((he.up up7).up e).sq⟩) (by omega) (fun i m x H8 H9 K1 hm e8 y k' => ?_) mono_t2 fun H8 xs8 e8 hx8 hp9 => ?_⟩
                  · obtain ⟨T0, vs, rfl, hT, rfl, hv⟩ := y
                    obtain ⟨v1, v2, h1, h2, rfl⟩ := zip2_got hv
                    obtain ⟨k2, hk2, pk2, rfl, hpk3⟩ := paired_at hpk h1
                    obtain ⟨c2, g2, rfl⟩ := map_got h2
                    have e9 : Ex H8 (upd H8 T0 (.tup [.ref pk2, .int c2])) := Ex.new hT
                    rw [List.getElem?_zipWith, hk2, g2] at hm
                    obtain rfl := Option.some.inj hm
                    have hb2 := pe2 c2 (List.mem_of_getElem? g2)
                    refine get_t2 upd_same ⟨rfl, ?_⟩
                    exact ⟨_, rfl, _, rfl, false, pk2, _, _, _, rfl, rfl, SqT.of (e9 _ _ (e8 _ _ (e17 _ _ hpk3))), atI_nat (j := 1) rfl, _, _, rfl, rfl, .inl ⟨by omega, by omega⟩, k' _ _ e9 rfl⟩
                  · rw [pair_int hp9] at hx8
                    have e18 := e17.trans e8
                    have up8 := up7.trans e8
                    refine ⟨D4, _, rfl, SqL.of hx8, _, _, rfl, rfl, ?_⟩
                    -- found + sum(..) == raw_load(..)[0]
                    refine ⟨_, rfl, _, rfl, _, rfl, false, p, _, _, _, rfl, rfl, SqT.of (up8 _ _ hp), atI_nat (j := 2) rfl, kk, false, a, py, xs, _, rfl, (hx.up e18).sq, (hy.up up8).sq,
                      fun D5 hD5 => lc_pure (walk_zip2 (k1 := kk) (k2 := false) (a := a) (b := py) (xs := xs) (ys := ys.map V.int) (n := bk.length) (by rw [List.length_map]; omega)) hD5 tm_int (List.zipWith (fun k e => e * k.f) bk ys) (by rw [List.length_zipWith]; omega)
                        (fun H' e => ⟨(hx.up (e18.trans e)).sq, ((hy.up up8).up e).sq⟩) (by omega) (fun i m x H9 H10 K1 hm e9 y k' => ?_) mono_t2 fun H9 xs9 e9 hx9 hp10 => ?_⟩
                    · obtain ⟨T0, vs, rfl, hT, rfl, hv⟩ := y
                      obtain ⟨v1, v2, h1, h2, rfl⟩ := zip2_got hv
                      obtain ⟨k2, hk2, pk2, rfl, hpk3⟩ := paired_at hpk h1
                      obtain ⟨c2, g2, rfl⟩ := map_got h2
                      have e10 : Ex H9 (upd H9 T0 (.tup [.ref pk2, .int c2])) := Ex.new hT
                      rw [List.getElem?_zipWith, hk2, g2] at hm
                      obtain rfl := Option.some.inj hm
                      have hb2 := py2 c2 (List.mem_of_getElem? g2)
                      refine get_t2 upd_same ⟨rfl, ?_⟩
                      exact ⟨_, rfl, _, rfl, false, pk2, _, _, _, rfl, rfl, SqT.of (e10 _ _ (e9 _ _ (e18 _ _ hpk3))), atI_nat (j := 2) rfl, _, _, rfl, rfl, .inl ⟨by omega, by omega⟩, k' _ _ e10 rfl⟩
                    · rw [pair_int hp10] at hx9
                      have e19 := e18.trans e9
                      refine ⟨D5, _, rfl, SqL.of hx9, _, _, rfl, rfl, _, rfl, _, rfl, kk, a, bk, kt, b, cs, rfl, hB.up e19, hc.up e19, gc.nice g, fun H10 p10 m10 o10 e10 hp11 r => ?_⟩
                      refine ⟨false, p10, _, _, _, rfl, rfl, SqT.of hp11, atI_nat (j := 0) rfl, rfl, ?_⟩
                      rw [r.eq]
                      refine q _ _ (e19.trans e10) ?_
                      rw [dec_intV, decide_eq_true_iff]
                      constructor
                      · intro z
                        exact ⟨n, rfl, hn, le2, ly2, fun c hc => (pe2 c hc).1, fun c hc => (py2 c hc).1, hsum, fun k' hk' => by
                          obtain rfl := Option.some.inj (hk.symm.trans hk')
                          exact z⟩
                      · rintro ⟨m, em, wz⟩
                        have enm : n = m := by omega
                        subst enm
                        exact wz.load k hk
                · refine iteNT hs (nof _ e17 ?_)
                  rintro ⟨m, em, wz⟩
                  have enm : n = m := by omega
                  subst enm
                  exact hs ((sum3_iff lc le2 ly2).mpr wz.sum)
end
end K27

set_option Elab.async false
set_option linter.all false
set_option maxRecDepth 100000
set_option maxHeartbeats 8000000
/-! KJ: the law's own fact of kinds, its own judge, its own counts with more. -/
namespace K27
open PySem PySem.Spec PyProof.Rows L2
open Evl (Ex)
/-! ### the fact, as the law reckons it -/
structure Fits (bk : List Kd) (cs : List Int) : Prop where
  good : ∀ k ∈ bk, GoodK k
  short : bk.length ≤ 1000
  len : cs.length = bk.length
  pos : ∀ c ∈ cs, 0 ≤ c
  fit : (∀ c ∈ cs, c < 18446744073709551616) ∨ ∀ k ∈ bk, aside k < 18446744073709551616
theorem Nice.fits {bk : List Kd} {cs : List Int} (n : Nice bk cs) : Fits bk cs := ⟨n.good, n.short, n.len, n.pos, .inl n.most⟩
theorem every_swap : ∀ (bk : List Kd) (cs : List Int), (List.zipWith (fun c x => c * x) cs (bk.map aside)).sum = every bk cs
  | [], cs => by
    cases cs <;> simp [every]
  | k :: bk, [] => by simp [every]
  | k :: bk, c :: cs => by
    have ih := every_swap bk cs
    show (c * aside k :: List.zipWith _ cs (bk.map aside)).sum = (c * aside k :: List.zipWith _ bk cs).sum
    rw [List.sum_cons, List.sum_cons, ih]
    rfl
def posAt (cs : List Int) (i : Nat) : Bool := match cs[i]? with
  | some c => decide (0 < c)
  | none => false
def loadAt (bk : List Kd) (cs : List Int) (i : Nat) : Int := match bk[i]? with
  | some k => loadOf bk cs k
  | none => 0
theorem fact_of_max {bk : List Kd} {cs : List Int} {m : Int} (hl : cs.length = bk.length) (hm : m ∈ 0 :: ((List.range bk.length).filter (posAt cs)).map (loadAt bk cs)) (hy : ∀ y ∈ 0 :: ((List.range bk.length).filter (posAt cs)).map (loadAt bk cs), y ≤ m) : m = fact bk cs := by
  refine IsFact.eq ⟨hy 0 List.mem_cons_self, fun j k c h1 h2 h3 => ?_, ?_⟩ (fact_is bk cs)
  · refine hy _ (List.mem_cons_of_mem _ (List.mem_map.mpr ⟨j, List.mem_filter.mpr ⟨List.mem_range.mpr (List.getElem?_eq_some_iff.mp h1).1, ?_⟩, ?_⟩))
    · unfold posAt
      rw [h2]
      exact decide_eq_true h3
    · unfold loadAt
      rw [h1]
  · rcases List.mem_cons.mp hm with e | e
    · exact .inl e
    · obtain ⟨j, hj, ej⟩ := List.mem_map.mp e
      obtain ⟨hj1, hj2⟩ := List.mem_filter.mp hj
      have hlt := List.mem_range.mp hj1
      have h1 : bk[j]? = some (bk[j]) := List.getElem?_eq_getElem hlt
      have h2 : cs[j]? = some (cs[j]'(by omega)) := List.getElem?_eq_getElem _
      unfold posAt at hj2
      rw [h2] at hj2
      unfold loadAt at ej
      rw [h1] at ej
      exact .inr ⟨j, _, _, h1, h2, of_decide_eq_true hj2, ej.symm⟩
def RNat : Hp → V → Nat → Prop := fun _ v n => v = .int (n : Int)
theorem tm_nat : TMono RNat := fun _ _ _ _ _ h => h
theorem pair_nat {H : Hp} : ∀ {xs : List V} {ns : List Nat}, Paired (RNat H) xs ns → xs = ns.map fun n : Nat => V.int (n : Int)
  | _, _, .nil => rfl
  | _, _, .cons a t => by
    have a' : _ = V.int _ := a
    rw [a', pair_nat t]
    rfl
section
variable {P : Program} {w : World} {K : PySem.W.Frag} {mg : Str → Option Value} {base : Heap}
abbrev s_l_by_fact : Stmt := topS 37
theorem sc_l_by_fact : FnScope ["_law_book", "_law_counts", "_law_asides", "_law_every", "_law_some", "_law_whole", "_law_behind", "_law_first", "_law_many", "_law_aside", "_law_at"] ["_law_book", "_law_counts"] (defScope s_l_by_fact) := ⟨rfl, rfl, rfl, by decide +kernel, rfl, by decide +kernel, by decide +kernel⟩
def sp_l_by_fact : Sp := fun vs H Q _ => ∃ kk a bk kt b cs, vs = [.ref a, .ref b] ∧ BookAt H kk a bk ∧ IntsAt H kt b cs ∧ Fits bk cs ∧ ∀ H', Ex H H' → Q (.int (fact bk cs)) H'
theorem ok_l_by_fact (T : Txt K mg) (o : Own K mg "_law_by_fact" s_l_by_fact ["_law_book", "_law_counts"]) : Cal P w K mg base CX0 1 "_law_by_fact" ["_law_book", "_law_counts"] sp_l_by_fact := o.cal fun f fd F => by
  refine F.ok sc_l_by_fact (fun vs H Q E h => ?_) (fun cdv A outer s H vs Q E hr h => ?_)
  · obtain ⟨kk, a, bk, kt, b, cs, rfl, _⟩ := h
    rfl
  · obtain ⟨kk, a, bk, kt, b, cs, rfl, hB, hc, g, q⟩ := h
    obtain ⟨xs, hx, hpk⟩ := id hB
    have lx := paired_len hpk
    have lc := g.len
    have lb := g.short
    refine ⟨_, (pss_cons (ps_set (i := 2) sc_l_by_fact.nd rfl (Or.inr rfl) (pe_lc (own := [("_law_whole", 5), ("_law_behind", 6), ("_law_first", 7)]) (g := gTup K 3 (gCons (gName 5) (gCons (gName 6) (gCons (gName 7) gNil)))) (tt := tYes) rfl sc_l_by_fact.nd (pi_seq (pv 0)) (blkOk_by (N := ["_law_book", "_law_counts", "_law_asides", "_law_every", "_law_some", "_law_whole", "_law_behind", "_law_first", "_law_many", "_law_aside", "_law_at"]) (sc := defScope s_l_by_fact) (by decide +kernel)) (fun _ _ _ _ _ => (pg_tup rfl (pgs_cons (pg_name (i := 5) sc_l_by_fact.nd rfl (Or.inl rfl)) (pgs_cons (pg_name (i := 6) sc_l_by_fact.nd rfl (Or.inl rfl)) (pgs_cons (pg_name (i := 7) sc_l_by_fact.nd rfl (Or.inl rfl)) pgs_nil))))) (fun _ _ _ _ _ => pts_nil) (fun _ _ _ _ _ => (pe_callB (call_max2 rfl) (by rfl) T.b_max (by decide +kernel) (pa_cons (pv 6) (pa_cons (pv 7) pa_nil))))))
      (pss_cons (ps_set (i := 3) sc_l_by_fact.nd rfl (Or.inr rfl) (pe_callB (r := rSum K) (cr_sum rfl) (by rfl) T.b_sum (by decide +kernel) (pa_cons (pe_lc (own := [("_law_many", 8), ("_law_aside", 9)]) (g := gTup K 2 (gCons (gName 8) (gCons (gName 9) gNil))) (tt := tYes) rfl sc_l_by_fact.nd (pi_zip2 (by rfl) T.b_zip (pa_cons (pv 1) (pa_cons (pv 2) pa_nil))) (blkOk_by (N := ["_law_book", "_law_counts", "_law_asides", "_law_every", "_law_some", "_law_whole", "_law_behind", "_law_first", "_law_many", "_law_aside", "_law_at"]) (sc := defScope s_l_by_fact) (by decide +kernel)) (fun _ _ _ _ _ => (pg_tup rfl (pgs_cons (pg_name (i := 8) sc_l_by_fact.nd rfl (Or.inl rfl)) (pgs_cons (pg_name (i := 9) sc_l_by_fact.nd rfl (Or.inl rfl)) pgs_nil)))) (fun _ _ _ _ _ => pts_nil) (fun _ _ _ _ _ => (pe_op op_mul (pv 8) (pv 9)))) pa_nil)))
      (pss_cons (ps_setLc (i := 4) (own := [("_law_at", 10)]) (g := gName 10) (tt := _) rfl sc_l_by_fact.nd rfl rfl (sw_true rfl rfl rfl (by decide +kernel)) (pi_range1 (by rfl) T.b_range (pa_cons (pe_callB (r := Evl.rLenS K) call_len_seq (by rfl) T.b_len (by decide +kernel) (pa_cons (pv 0) pa_nil)) pa_nil)) (blkOk_by (N := ["_law_book", "_law_counts", "_law_asides", "_law_every", "_law_some", "_law_whole", "_law_behind", "_law_first", "_law_many", "_law_aside", "_law_at"]) (sc := defScope s_l_by_fact) (by decide +kernel)) (fun _ _ _ _ _ => (pg_name (i := 10) sc_l_by_fact.nd rfl (Or.inl rfl))) (fun _ _ _ _ _ => pts_one (pt_cmpR op_gt (pe_ix (r := rIxQ K) ix_q (pv 1) (pv 10) (fun _ _ => rfl)) pe_int (nomark _))) (fun _ _ _ _ _ => (pv 10)))
      (pss_one (ps_ret (pe_callB (r := rMax K) (cr_max rfl) (by rfl) T.b_max (by decide +kernel) (pa_cons (pe_op op_cat (pe_lst (pa_cons pe_int pa_nil)) (pe_lc (own := [("_law_at", 10)]) (g := gName 10) (tt := tYes) rfl sc_l_by_fact.nd (pi_seq (pv 4)) (blkOk_by (N := ["_law_book", "_law_counts", "_law_asides", "_law_every", "_law_some", "_law_whole", "_law_behind", "_law_first", "_law_many", "_law_aside", "_law_at"]) (sc := defScope s_l_by_fact) (by decide +kernel)) (fun _ _ _ _ _ => (pg_name (i := 10) sc_l_by_fact.nd rfl (Or.inl rfl))) (fun _ _ _ _ _ => pts_nil) (fun _ _ _ _ _ => (pe_op op_add (pe_op op_sub (pv 3) (pe_ix (r := rIxQ K) ix_q (pv 2) (pv 10) (fun _ _ => rfl))) (pe_ix (r := rIxQ K) ix_q (pe_ix (r := rIxQ K) ix_q (pv 0) (pv 10) (fun _ _ => rfl)) pe_int (fun _ _ => rfl)))))) pa_nil))))))), ?_⟩
    -- asides
    refine ⟨_, rfl, kk, a, xs, rfl, hx.sq, fun D hD => lc_pure (walk_seq (k := kk) (a := a) (xs := xs)) hD tm_int (bk.map aside) (by rw [List.length_map]; omega) (fun H' e => (hx.up e).sq) (by omega) (fun i m x H2 H3 K1 hm e2 y k1 => ?_) mono_t3 fun H1 xs1 e1 hx1 hp1 => ?_⟩
    · obtain ⟨eh, ex⟩ := y
      subst eh
      obtain ⟨k, hk, pk, rfl, hkp⟩ := paired_at hpk ex
      refine get_t3 (e2 _ _ hkp) ⟨rfl, ?_⟩
      refine ⟨_, rfl, _, rfl, _, _, rfl, k1 _ _ (Ex.refl _) ?_⟩
      rw [List.getElem?_map, hk] at hm
      obtain rfl := Option.some.inj hm
      rfl
    · rw [pair_int hp1] at hx1
      have la : (bk.map aside).length = bk.length := List.length_map _
      -- every
      refine ⟨_, rfl, _, rfl, kt, true, b, D, _, _, rfl, (hc.up e1).sq, SqL.of hx1, fun D2 hD2 => lc_pure (walk_zip2 (k1 := kt) (k2 := true) (a := b) (b := D) (xs := cs.map V.int) (ys := (bk.map aside).map V.int) (n := bk.length) (by rw [List.length_map, List.length_map]; omega)) hD2 tm_int (List.zipWith (fun c x => c * x) cs (bk.map aside)) (by rw [List.length_zipWith]; omega)
        (fun H' e => ⟨((hc.up e1).up e).sq, SqL.of (e _ _ hx1)⟩) (by omega) (fun i m x H3 H4 K1 hm e2 y k1 => ?_) mono_t2 fun H2 xs2 e2 hx2 hp2 => ?_⟩
      · obtain ⟨T0, vs, rfl, hT, rfl, hv⟩ := y
        obtain ⟨v1, v2, h1, h2, rfl⟩ := zip2_got hv
        obtain ⟨c, g1, rfl⟩ := map_got h1
        obtain ⟨d, g2, rfl⟩ := map_got h2
        obtain ⟨k, g3, rfl⟩ := map_got g2
        rw [List.getElem?_zipWith, g1, g2] at hm
        obtain rfl := Option.some.inj hm
        refine get_t2 upd_same ⟨rfl, ?_⟩
        refine ⟨_, rfl, _, rfl, _, _, rfl, rfl, ?_, k1 _ _ (Ex.new hT) rfl⟩
        rcases g.fit with z | z
        · have z1 := z c (List.mem_of_getElem? g1)
          have z2 := g.pos c (List.mem_of_getElem? g1)
          exact .inl ⟨by omega, by omega⟩
        · have z1 := z k (List.mem_of_getElem? g3)
          have z2 := (aside_pos (g.good k (List.mem_of_getElem? g3))).1
          exact .inr ⟨by omega, by omega⟩
      · rw [pair_int hp2] at hx2
        have e12 := e1.trans e2
        refine ⟨D2, _, rfl, SqL.of hx2, ?_⟩
        rw [every_swap]
        -- some
        refine ⟨_, rfl, a, xs, rfl, (hx.up e12).lt, _, rfl, by omega, by omega, fun D3 hD3 => lc_fill (walk_range (lo := 0) (n := ((xs.length : Nat) : Int).toNat)) hD3 S0 RNat tm_nat (fun i zs H' => Ex H2 H' ∧ zs = (List.range i).filter (posAt cs)) (fun _ z => z.elim) ⟨Ex.refl _, rfl⟩ (fun D4 ys i zs H' hD4 ⟨e, z⟩ => ⟨Ex.mut e hD4, z⟩) (fun _ _ _ _ _ => trivial) (by omega)
          (fun i zs H' ⟨_, z⟩ => by rw [z]; exact Nat.le_trans (List.length_filter_le _ _) (by rw [List.length_range]; exact Nat.le_refl _)) (fun _ _ H' H'' e _ _ => Tups.of e.ex) (fun i zs x H3 H4 K1 K2 hi p eb y k1 k2 => ?_) fun H3 xs3 zs eb hx3 hp3 p => ?_⟩
        · obtain ⟨e3, rfl⟩ := p
          obtain ⟨eh, rfl⟩ := y
          subst eh
          have hib : i < bk.length := by omega
          obtain ⟨c, hc1⟩ : ∃ c, cs[i]? = some c := ⟨_, List.getElem?_eq_getElem (by omega)⟩
          refine ⟨rfl, ?_⟩
          refine ⟨_, rfl, _, rfl, kt, b, _, _, _, rfl, rfl, ((hc.up e12).up e3).sq, by rw [Int.zero_add]; exact atI_nat (int_map_at hc1), _, _, rfl, rfl, _, rfl, ?_⟩
          have ep : posAt cs i = decide (0 < c) := by
            unfold posAt
            rw [hc1]
          by_cases hp : 0 < c
          · rw [decide_eq_true hp]
            refine iteT ⟨_, rfl, k1 _ _ i (by show V.int (0 + (i : Int)) = V.int (i : Int); rw [Int.zero_add]) (ExB.refl _) ⟨e3, ?_⟩⟩
            rw [List.range_succ, List.filter_append, List.filter_cons, if_pos (by rw [ep]; exact decide_eq_true hp)]
            rfl
          · rw [decide_eq_false hp]
            refine iteF (k2 _ (ExB.refl _) ⟨e3, ?_⟩)
            rw [List.range_succ, List.filter_append, List.filter_cons, if_neg (by rw [ep, decide_eq_false hp]; decide)]
            show _ = _ ++ []
            rw [List.append_nil]
        · obtain ⟨e3, rfl⟩ := p
          rw [pair_nat hp3] at hx3
          have en : ((xs.length : Nat) : Int).toNat = bk.length := by omega
          rw [en] at hx3
          have e13 := e12.trans e3
          have hx1' := e3 _ _ (e2 _ _ hx1)
          -- max([0] + [..])
          refine ⟨by show 1 ≤ sizeLine; decide, fun p0 np0 => ?_⟩
          have e4 := Ex.new (o := .lst [V.int 0]) np0
          have e14 := e13.trans e4
          refine ⟨_, rfl, true, D3, _, rfl, SqL.of (e4 _ _ hx3), fun D4 hD4 => lc_pure (walk_seq (k := true) (a := D3) (xs := ((List.range bk.length).filter (posAt cs)).map fun n : Nat => V.int (n : Int))) hD4 tm_int (((List.range bk.length).filter (posAt cs)).map (loadAt bk cs)) (by rw [List.length_map, List.length_map])
            (fun H' e => SqL.of (e _ _ (e4 _ _ hx3))) (by rw [List.length_map]; exact Nat.le_trans (List.length_filter_le _ _) (by rw [List.length_range]; omega)) (fun i m x H5 H6 K1 hm e5 y k1 => ?_) mono_name fun H5 xs5 e5 hx5 hp5 => ?_⟩
          · obtain ⟨eh, ex⟩ := y
            subst eh
            obtain ⟨n, hn, rfl⟩ := map_got ex
            have hmem := List.mem_filter.mp (List.mem_of_getElem? hn)
            have hnb := List.mem_range.mp hmem.1
            obtain ⟨k, hk⟩ : ∃ k, bk[n]? = some k := ⟨_, List.getElem?_eq_getElem hnb⟩
            obtain ⟨vk, hvk, pk, rfl, hpk2⟩ := paired_at' hpk hk
            rw [List.getElem?_map, hn] at hm
            have em : loadAt bk cs n = m := Option.some.inj hm
            unfold loadAt at em
            rw [hk] at em
            have hka : ((bk.map aside).map V.int)[n]? = some (.int (aside k)) := by
              rw [List.getElem?_map, List.getElem?_map, hk]
              rfl
            refine ⟨rfl, _, rfl, _, rfl, _, rfl, true, D, _, _, _, rfl, rfl, SqL.of (e5 _ _ (e4 _ _ hx1')), atI_nat hka, _, _, rfl, rfl, _, rfl, _, rfl, kk, a, _, _, _, rfl, rfl, ((hx.up e14).up e5).sq, atI_nat hvk, false, pk, _, _, _, rfl, rfl, SqT.of (e5 _ _ (e14 _ _ hpk2)), atI_nat (j := 0) rfl, _, _, rfl, rfl, k1 _ _ (Ex.refl _) ?_⟩
            rw [← em]
            rfl
          · rw [pair_int hp5] at hx5
            have e15 := e14.trans e5
            have hlen : (((List.range bk.length).filter (posAt cs)).map (loadAt bk cs)).length ≤ bk.length := by
              rw [List.length_map]
              exact Nat.le_trans (List.length_filter_le _ _) (by rw [List.length_range]; exact Nat.le_refl _)
            refine ⟨p0, D4, _, _, rfl, rfl, e5 _ _ upd_same, hx5, ?_, fun p1 np1 => ?_⟩
            · rw [List.length_map]
              exact Nat.le_trans (Nat.add_le_add_left hlen _) (Nat.le_trans (show 1 + bk.length ≤ 100000 by omega) (by decide))
            · refine ⟨p1, 0 :: ((List.range bk.length).filter (posAt cs)).map (loadAt bk cs), rfl, SqL.of upd_same, Nat.succ_pos _, fun m hm hy => ?_⟩
              rw [fact_of_max lc hm hy]
              exact q _ (e15.trans (Ex.new np1))
/-! ### counts with so many more -/
abbrev s_l_with : Stmt := topS 41
theorem sc_l_with : FnScope ["_law_counts", "_law_kind_here", "_law_more", "_law_at", "_law_many"] ["_law_counts", "_law_kind_here", "_law_more"] (defScope s_l_with) := ⟨rfl, rfl, rfl, by decide +kernel, rfl, by decide +kernel, by decide +kernel⟩
def sp_l_with : Sp := fun vs H Q _ => ∃ (kt : Bool) (b : Addr) (cs : List Int) (n : Nat) (m : Int), vs = [.ref b, .int (n : Int), .int m] ∧ IntsAt H kt b cs ∧ cs.length ≤ 1000 ∧ ∀ H' p, Ex H H' → H' p = some (.lst ((addAt m n cs).map V.int)) → Q (.ref p) H'
theorem ok_l_with (T : Txt K mg) (o : Own K mg "_law_with" s_l_with ["_law_counts", "_law_kind_here", "_law_more"]) : Cal P w K mg base CX0 1 "_law_with" ["_law_counts", "_law_kind_here", "_law_more"] sp_l_with := o.cal fun f fd F => by
  refine F.ok sc_l_with (fun vs H Q E h => ?_) (fun cdv A outer s H vs Q E hr h => ?_)
  · obtain ⟨kt, b, cs, n, m, rfl, _⟩ := h
    rfl
  · obtain ⟨kt, b, cs, n, m, rfl, hc, hl, q⟩ := h
    refine ⟨_, (pss_one (ps_ret (pe_lc (own := [("_law_at", 3), ("_law_many", 4)]) (g := gTup K 2 (gCons (gName 3) (gCons (gName 4) gNil))) (tt := tYes) rfl sc_l_with.nd (pi_enumQ (by rfl) T.b_enumerate (pa_cons (pv 0) pa_nil)) (blkOk_by (N := ["_law_counts", "_law_kind_here", "_law_more", "_law_at", "_law_many"]) (sc := defScope s_l_with) (by decide +kernel)) (fun _ _ _ _ _ => (pg_tup rfl (pgs_cons (pg_name (i := 3) sc_l_with.nd rfl (Or.inl rfl)) (pgs_cons (pg_name (i := 4) sc_l_with.nd rfl (Or.inl rfl)) pgs_nil)))) (fun _ _ _ _ _ => pts_nil) (fun _ _ _ _ _ => (pe_op op_add (pv 4) (pe_op op_mul (pv 2) (pe_callTy call_int1 (by rfl) T.b_int (by decide +kernel) (pa_cons (pe_cmpR op_eq (pv 3) (pv 1) (nomark _)) pa_nil)))))))), ?_⟩
    refine ⟨_, rfl, kt, b, _, rfl, hc.sq, fun D hD => lc_pure (walk_enumQ (k := kt) (a := b) (xs := cs.map V.int)) hD tm_int (addAt m n cs) (by rw [List.length_map, addAt_len]) (fun H' e => (hc.up e).sq) (by rw [List.length_map]; omega) (fun i m' x H3 H4 K1 hm e3 y k1 => ?_) mono_t2 fun H3 xs3 e3 hx3 hp3 => ?_⟩
    · obtain ⟨T0, vs, rfl, hT, rfl, hv⟩ := y
      obtain ⟨v, h1, rfl⟩ := enum_got hv
      obtain ⟨c, hc1, rfl⟩ := map_got h1
      have h2 := addAt_at m n cs i c hc1
      rw [hm] at h2
      obtain rfl := Option.some.inj h2
      refine get_t2 upd_same ⟨rfl, ?_⟩
      have e4 : Ex H3 (upd H3 T0 (.tup [.int (i : Nat), .int c])) := Ex.new hT
      refine ⟨_, rfl, _, rfl, _, rfl, _, rfl, rfl, .inr ⟨_, rfl, ?_⟩⟩
      by_cases hi : i = n
      · subst hi
        rw [show decide (V.int ((i : Nat) : Int) = V.int ((i : Nat) : Int)) = true from decide_eq_true rfl]
        refine ⟨_, _, rfl, rfl, .inr ⟨by decide, by decide⟩, _, _, rfl, rfl, k1 _ _ e4 ?_⟩
        show V.int (c + m * 1) = _
        rw [Int.mul_one, if_pos rfl]
      · rw [show decide (V.int ((i : Nat) : Int) = V.int (n : Int)) = false from decide_eq_false fun z => hi (by
          have z' := V.int.inj z
          omega)]
        refine ⟨_, _, rfl, rfl, .inr ⟨by decide, by decide⟩, _, _, rfl, rfl, k1 _ _ e4 ?_⟩
        rw [if_neg hi]
        show V.int (c + m * 0) = _
        rw [Int.mul_zero, Int.add_zero]
    · rw [pair_int hp3] at hx3
      exact q _ D e3 hx3
end
end K27

set_option Elab.async false
set_option linter.all false
set_option maxRecDepth 100000
set_option maxHeartbeats 8000000
/-! KK: the law's own judge of a worst opening. -/
namespace K27
open PySem PySem.Spec PyProof.Rows L2
open Evl (Ex)
theorem GoodC.fits {bk : List Kd} {cs : List Int} (g : GoodB bk) (c : GoodC bk cs) : Fits bk cs := (c.nice g).fits
/-- the shares, place by place -/
def shareAt (bk : List Kd) (es ys : List Int) (i : Nat) : Int := match bk[i]?, es[i]?, ys[i]? with
  | some k, some e, some y => e * k.b + y * k.f
  | _, _, _ => 0
theorem share_sum : ∀ (bk : List Kd) (es ys : List Int), es.length = bk.length → ys.length = bk.length → ((List.range bk.length).map (shareAt bk es ys)).sum = oldOf bk es + newOf bk ys
  | [], es, ys, h1, h2 => by
    have e1 : es = [] := List.eq_nil_of_length_eq_zero h1
    have e2 : ys = [] := List.eq_nil_of_length_eq_zero h2
    subst e1 e2
    rfl
  | k :: bk, [], ys, h1, _ => by simp at h1
  | k :: bk, e :: es, [], _, h2 => by simp at h2
  | k :: bk, e :: es, y :: ys, h1, h2 => by
    have ih := share_sum bk es ys (by simpa using h1) (by simpa using h2)
    have e1 : (List.range (bk.length + 1)).map (shareAt (k :: bk) (e :: es) (y :: ys)) = (e * k.b + y * k.f) :: (List.range bk.length).map (shareAt bk es ys) := by
      rw [List.range_succ_eq_map, List.map_cons, List.map_map]
      rfl
    rw [List.length_cons, e1, List.sum_cons, ih]
    unfold oldOf newOf
    rw [List.zipWith_cons_cons, List.zipWith_cons_cons, List.sum_cons, List.sum_cons]
    omega
section
variable {P : Program} {w : World} {K : PySem.W.Frag} {mg : Str → Option Value} {base : Heap}
abbrev s_l_is_worst : Stmt := topS 38
theorem sc_l_is_worst : FnScope ["_law_book", "_law_counts", "_law_thing", "_law_kind_here", "_law_elders", "_law_youngers", "_law_lot", "_law_at", "_law_found", "_law_one"] ["_law_book", "_law_counts", "_law_thing"] (defScope s_l_is_worst) := ⟨rfl, rfl, rfl, by decide +kernel, rfl, by decide +kernel, by decide +kernel⟩
def sp_l_is_worst : Sp := fun vs H Q _ => ∃ kk a bk kt b cs v t, vs = [.ref a, .ref b, v] ∧ BookAt H kk a bk ∧ GoodB bk ∧ IntsAt H kt b cs ∧ GoodC bk cs ∧ ThingAt H v t ∧ ∀ H' r, Ex H H' → (r = true ↔ WT bk cs t) → Q (.bl r) H'
theorem ok_l_is_worst (T : Txt K mg) (c_l_by_fact : Cal P w K mg base CX0 1 "_law_by_fact" ["_law_book", "_law_counts"] sp_l_by_fact)
    (o : Own K mg "_law_is_worst" s_l_is_worst ["_law_book", "_law_counts", "_law_thing"]) : Cal P w K mg base CX0 2 "_law_is_worst" ["_law_book", "_law_counts", "_law_thing"] sp_l_is_worst := o.cal fun f fd F => by
  refine F.ok sc_l_is_worst (fun vs H Q E h => ?_) (fun cdv A outer s H vs Q E hr h => ?_)
  · obtain ⟨kk, a, bk, kt, b, cs, v, t, rfl, _⟩ := h
    rfl
  · obtain ⟨kk, a, bk, kt, b, cs, v, t, rfl, hB, g, hc, gc, ht, q⟩ := h
    have hr_l_by_fact : Room 1 _ := hr
    obtain ⟨xs, hx, hpk⟩ := id hB
    have lx := paired_len hpk
    have lc := gc.len
    have lb := g.most
    have lb1 := g.one
    refine ⟨_, (pss_cons (ps_if (PW.pt (pw_or (pt_not (pt_val (pe_callB (r := rIsi K) call_isi (by rfl) T.b_isinstance (by decide +kernel) (pa_cons (pv 2) (pa_cons (pe_bltn (v := .ty "tuple") (by rfl) T.b_tuple (by decide +kernel) rfl) pa_nil))))) (pw_or (pt_cmpR op_ne (pe_callB (r := Evl.rLenS K) call_len_seq (by rfl) T.b_len (by decide +kernel) (pa_cons (pv 2) pa_nil)) pe_int (nomark _)) (pw_or (pt_val (pe_callB (r := rIsi K) call_isi (by rfl) T.b_isinstance (by decide +kernel) (pa_cons (pe_ix (r := rIxQ K) ix_q (pv 2) pe_int (fun _ _ => rfl)) (pa_cons (pe_bltn (v := .ty "bool") (by rfl) T.b_bool (by decide +kernel) rfl) pa_nil)))) (pw_or1 (pt_not (pt_val (pe_callB (r := rIsi K) call_isi (by rfl) T.b_isinstance (by decide +kernel) (pa_cons (pe_ix (r := rIxQ K) ix_q (pv 2) pe_int (fun _ _ => rfl)) (pa_cons (pe_bltn (v := .ty "int") (by rfl) T.b_int (by decide +kernel) rfl) pa_nil))))))))))
        (pss_one (ps_ret pe_bl)) pss_nil)
      (pss_cons (ps_asg (pv 2) (pg_tup rfl (pgs_cons (pg_name (i := 3) sc_l_is_worst.nd rfl (Or.inl rfl)) (pgs_cons (pg_name (i := 4) sc_l_is_worst.nd rfl (Or.inr rfl)) (pgs_cons (pg_name (i := 5) sc_l_is_worst.nd rfl (Or.inr rfl)) pgs_nil)))))
      (pss_cons (ps_if (pt_not (pt_chain op_le op_lt pe_int (pv 3) (pe_callB (r := Evl.rLenS K) call_len_seq (by rfl) T.b_len (by decide +kernel) (pa_cons (pv 0) pa_nil))))
        (pss_one (ps_ret pe_bl)) pss_nil)
      (pss_cons (ps_for PassesOwn.never rfl (pi_seq (pe_lst (pa_cons (pv 4) (pa_cons (pv 5) pa_nil)))) (pg_name (i := 6) sc_l_is_worst.nd rfl (Or.inl rfl))
        (pss_cons (ps_if (PW.pt (pw_or (pt_not (pt_val (pe_callB (r := rIsi K) call_isi (by rfl) T.b_isinstance (by decide +kernel) (pa_cons (pv 6) (pa_cons (pe_bltn (v := .ty "tuple") (by rfl) T.b_tuple (by decide +kernel) rfl) pa_nil))))) (pw_or1 (pt_cmpR op_ne (pe_callB (r := Evl.rLenS K) call_len_seq (by rfl) T.b_len (by decide +kernel) (pa_cons (pv 6) pa_nil)) (pe_callB (r := Evl.rLenS K) call_len_seq (by rfl) T.b_len (by decide +kernel) (pa_cons (pv 0) pa_nil)) (nomark _)))))
          (pss_one (ps_ret pe_bl)) pss_nil)
        (pss_one (ps_if (pt_not (pt_val (pe_callB (r := rAll K) (cr_all rfl) (by rfl) T.b_all (by decide +kernel) (pa_cons (pe_lc (own := [("_law_one", 9)]) (g := gName 9) (tt := tYes) rfl sc_l_is_worst.nd (pi_seq (pv 6)) (blkOk_by (N := ["_law_book", "_law_counts", "_law_thing", "_law_kind_here", "_law_elders", "_law_youngers", "_law_lot", "_law_at", "_law_found", "_law_one"]) (sc := defScope s_l_is_worst) (by decide +kernel)) (fun _ _ _ _ _ => (pg_name (i := 9) sc_l_is_worst.nd rfl (Or.inl rfl))) (fun _ _ _ _ _ => pts_nil) (fun _ _ _ _ _ => (pe_and (pe_callB (r := rIsi K) call_isi (by rfl) T.b_isinstance (by decide +kernel) (pa_cons (pv 9) (pa_cons (pe_bltn (v := .ty "int") (by rfl) T.b_int (by decide +kernel) rfl) pa_nil))) (pe_and (pe_not (pe_callB (r := rIsi K) call_isi (by rfl) T.b_isinstance (by decide +kernel) (pa_cons (pv 9) (pa_cons (pe_bltn (v := .ty "bool") (by rfl) T.b_bool (by decide +kernel) rfl) pa_nil)))) (pe_one (pe_cmpR op_ge (pv 9) pe_int (nomark _))))))) pa_nil))))
          (pss_one (ps_ret pe_bl)) pss_nil))))
      (pss_cons (ps_for PassesOwn.never rfl (pi_range1 (by rfl) T.b_range (pa_cons (pe_callB (r := Evl.rLenS K) call_len_seq (by rfl) T.b_len (by decide +kernel) (pa_cons (pv 0) pa_nil)) pa_nil)) (pg_name (i := 7) sc_l_is_worst.nd rfl (Or.inl rfl))
        (pss_one (ps_if (pt_cmpR op_ne (pe_op op_add (pe_op op_add (pe_ix (r := rIxQ K) ix_q (pv 4) (pv 7) (fun _ _ => rfl)) (pe_ix (r := rIxQ K) ix_q (pv 5) (pv 7) (fun _ _ => rfl))) (pe_callTy call_int1 (by rfl) T.b_int (by decide +kernel) (pa_cons (pe_cmpR op_eq (pv 7) (pv 3) (nomark _)) pa_nil))) (pe_ix (r := rIxQ K) ix_q (pv 1) (pv 7) (fun _ _ => rfl)) (nomark _))
          (pss_one (ps_ret pe_bl)) pss_nil)))
      (pss_cons (ps_set (i := 8) sc_l_is_worst.nd rfl (Or.inl rfl) (pe_op op_add (pe_ix (r := rIxQ K) ix_q (pe_ix (r := rIxQ K) ix_q (pv 0) (pv 3) (fun _ _ => rfl)) pe_int (fun _ _ => rfl)) (pe_callB (r := rSum K) (cr_sum rfl) (by rfl) T.b_sum (by decide +kernel) (pa_cons (pe_lc (own := [("_law_at", 7)]) (g := gName 7) (tt := tYes) rfl sc_l_is_worst.nd (pi_range1 (by rfl) T.b_range (pa_cons (pe_callB (r := Evl.rLenS K) call_len_seq (by rfl) T.b_len (by decide +kernel) (pa_cons (pv 0) pa_nil)) pa_nil)) (blkOk_by (N := ["_law_book", "_law_counts", "_law_thing", "_law_kind_here", "_law_elders", "_law_youngers", "_law_lot", "_law_at", "_law_found", "_law_one"]) (sc := defScope s_l_is_worst) (by decide +kernel)) (fun _ _ _ _ _ => (pg_name (i := 7) sc_l_is_worst.nd rfl (Or.inl rfl))) (fun _ _ _ _ _ => pts_nil) (fun _ _ _ _ _ => (pe_op op_add (pe_op op_mul (pe_ix (r := rIxQ K) ix_q (pv 4) (pv 7) (fun _ _ => rfl)) (pe_ix (r := rIxQ K) ix_q (pe_ix (r := rIxQ K) ix_q (pv 0) (pv 7) (fun _ _ => rfl)) pe_int (fun _ _ => rfl))) (pe_op op_mul (pe_ix (r := rIxQ K) ix_q (pv 5) (pv 7) (fun _ _ => rfl)) (pe_ix (r := rIxQ K) ix_q (pe_ix (r := rIxQ K) ix_q (pv 0) (pv 7) (fun _ _ => rfl)) pe_int (fun _ _ => rfl)))))) pa_nil))))
      (pss_one (ps_ret (pe_cmpR op_eq (pv 8) (pe_cal c_l_by_fact hr_l_by_fact (pa_cons (pv 0) (pa_cons (pv 1) pa_nil))) (nomark _)))))))))), ?_⟩
    have nof : ∀ H', Ex H H' → ¬ WT bk cs t → Q (.bl false) H' := fun H' e n => q H' false e ⟨(fun z => nomatch z), fun z => absurd z n⟩
    have e0 := Ex.refl H
    cases t with
    | non =>
      obtain rfl : v = .non := ht
      exact ⟨_, rfl, _, _, _, _, false, rfl, .ty "tuple", .base .non, kit_ty (by decide +kernel), false, rfl, iteT (iteT (nof _ e0 fun z => z))⟩
    | lst =>
      obtain ⟨p, ys, rfl, hp⟩ := ht
      exact ⟨_, rfl, _, _, _, _, false, rfl, .ty "tuple", .base (.lst hp), kit_ty (by decide +kernel), false, rfl, iteT (iteT (nof _ e0 fun z => z))⟩
    | two =>
      obtain ⟨p, x, y, rfl, hp⟩ := ht
      exact ⟨_, rfl, _, _, _, _, true, rfl, .ty "tuple", .base (.tup hp), kit_ty (by decide +kernel), true, rfl, iteF ⟨_, rfl, p, _, rfl, .inr (SqT.of hp), rfl, _, rfl, iteNT (by intro z; cases z) (iteT (nof _ e0 fun z => z))⟩⟩
    | tri u k1 es ys =>
      obtain ⟨p, pe, py, rfl, hp, hu, he, hy, le, ly⟩ := ht
      refine ⟨_, rfl, _, _, _, _, true, rfl, .ty "tuple", .base (.tup hp), kit_ty (by decide +kernel), true, rfl, iteF ⟨_, rfl, p, _, rfl, .inr (SqT.of hp), rfl, _, rfl, iteNS (by rfl) ?_⟩⟩
      rcases hu with ⟨n, rfl⟩ | ⟨z, rfl⟩
      · refine ⟨_, rfl, false, p, _, _, _, rfl, rfl, SqT.of hp, atI_nat (j := 0) rfl, _, _, _, _, false, rfl, .ty "bool", .base (.int n), kit_ty (by decide +kernel), false, rfl, iteF ?_⟩
        refine ⟨_, rfl, false, p, _, _, _, rfl, rfl, SqT.of hp, atI_nat (j := 0) rfl, _, _, _, _, true, rfl, .ty "int", .base (.int n), kit_ty (by decide +kernel), true, rfl, iteF ?_⟩
        -- the three names
        refine ⟨_, rfl, p, _, rfl, SqT.of hp, rfl, _, _, rfl, _, _, rfl, _, _, rfl, rfl, ?_⟩
        -- 0 <= kind < len(book)
        refine ⟨_, rfl, _, _, rfl, rfl, _, rfl, ?_⟩
        by_cases h0 : 0 ≤ n
        · rw [decide_eq_true h0]
          refine iteT ⟨_, rfl, a, xs, rfl, hx.lt, _, _, rfl, rfl, _, rfl, ?_⟩
          by_cases h1 : n < (xs.length : Int)
          · rw [decide_eq_true h1]
            refine iteF ?_
            obtain ⟨m, rfl⟩ : ∃ m : Nat, n = (m : Int) := ⟨n.toNat, (Int.toNat_of_nonneg h0).symm⟩
            have hm : m < bk.length := by omega
            -- for lot in [elders, youngers]
            refine ⟨_, rfl, _, rfl, by show 2 ≤ sizeLine; decide, fun p2 np2 => ?_⟩
            have e1 := Ex.new (o := .lst [V.ref pe, V.ref py]) np2
            refine ⟨true, p2, [.ref pe, .ref py], rfl, SqL.of upd_same, for_it (walk_seq (k := true) (a := p2) (xs := [V.ref pe, V.ref py])) (fun i σ H' => ∃ y6, σ = [some (.ref a), some (.ref b), some (.ref p), some (.int (m : Int)), some (.ref pe), some (.ref py), y6, none, none, none] ∧ Ex (upd H p2 (.lst [V.ref pe, V.ref py])) H' ∧
              (1 ≤ i → k1 = false ∧ es.length = bk.length ∧ ∀ c ∈ es, 0 ≤ c) ∧ (2 ≤ i → ys.length = bk.length ∧ ∀ c ∈ ys, 0 ≤ c)) ⟨_, rfl, Ex.refl _, fun z => absurd z (by decide), fun z => absurd z (by decide)⟩ (fun i σ H' _ ⟨_, _, e, _⟩ => SqL.of (e _ _ upd_same)) ?_ ?_⟩
            · rintro i x σ H1 H2 hi ⟨y6, rfl, e2, d1, d2⟩ ⟨eh, ex⟩
              subst eh
              have e12 := e1.trans e2
              -- one lot
              have go : ∀ (kq : Bool) (pq : Addr) (ns : List Int) (D : Ends), x = .ref pq → IntsAt H kq pq ns → ns.length ≤ 1000 → (∀ H', Ex H H' → ¬ (kq = false ∧ ns.length = bk.length ∧ ∀ c ∈ ns, 0 ≤ c) → D.rt (.bl false) H') →
                  (∀ H', Ex H2 H' → kq = false → ns.length = bk.length → (∀ c ∈ ns, 0 ≤ c) → D.nx [some (.ref a), some (.ref b), some (.ref p), some (.int (m : Int)), some (.ref pe), some (.ref py), some x, none, none, none] H') →
                  (tSeq (tIfS (tOr (tNot (tB (tCB (rIsi K) (tCons (tVar 6) (tCons (tC (.ty "tuple")) tNil))))) (tTest (tOp rNe (tCB (Evl.rLenS K) (tCons (tVar 6) tNil)) (tCB (Evl.rLenS K) (tCons (tVar 0) tNil))))) (tRet (tC (.bl false))) tNext)
                    (tIfS (tNot (tB (tCB (rAll K) (tCons (tLc (iSeq K (tVar 6)) (gName 9) tYes (tAndV (tCB (rIsi K) (tCons (tVar 9) (tCons (tC (.ty "int")) tNil))) (tAndV (tNotV (tCB (rIsi K) (tCons (tVar 9) (tCons (tC (.ty "bool")) tNil)))) (tOp (rI0 fun i j => .bl (decide (j ≤ i))) (tVar 9) (tC (.int 0))))) [9]) tNil)))) (tRet (tC (.bl false))) tNext))
                    D [some (.ref a), some (.ref b), some (.ref p), some (.int (m : Int)), some (.ref pe), some (.ref py), some x, none, none, none] H2 := by
                rintro kq pq ns D rfl hq lq no yes
                have hq2 := hq.up e12
                cases kq with
                | true => exact ⟨_, rfl, _, _, _, _, false, rfl, .ty "tuple", .base (.lst hq2), kit_ty (by decide +kernel), false, rfl, iteT (iteT (no _ e12 fun z => nomatch z.1))⟩
                | false =>
                  refine ⟨_, rfl, _, _, _, _, true, rfl, .ty "tuple", .base (.tup hq2), kit_ty (by decide +kernel), true, rfl, iteF ⟨_, rfl, pq, _, rfl, hq2.lt, _, rfl, a, _, rfl, (hx.up e12).lt, rfl, _, rfl, ?_⟩⟩
                  by_cases hl : ns.length = bk.length
                  · refine iteNS (by rw [List.length_map, hl, lx]) ?_
                    refine ⟨_, rfl, false, pq, _, rfl, hq2.sq, fun D2 hD2 => lc_pure (walk_seq (k := false) (a := pq) (xs := ns.map V.int)) hD2 tm_bl (ns.map fun c => decide (0 ≤ c)) (by rw [List.length_map, List.length_map]) (fun H' e => (hq2.up e).sq) (by rw [List.length_map]; omega) (fun j d x' H4 H5 K2 hd e4 y k => ?_) mono_name fun H4 xs4 e4 hx4 hp4 => ?_⟩
                    · obtain ⟨eh, ex'⟩ := y
                      subst eh
                      obtain ⟨c, hc1, rfl⟩ := map_got ex'
                      rw [List.getElem?_map, hc1] at hd
                      obtain rfl := Option.some.inj hd
                      refine ⟨rfl, _, rfl, _, _, _, _, true, rfl, .ty "int", .base (.int c), kit_ty (by decide +kernel), true, rfl, iteT ?_⟩
                      exact ⟨_, rfl, _, _, _, _, false, rfl, .ty "bool", .base (.int c), kit_ty (by decide +kernel), false, rfl, true, rfl, iteT ⟨_, rfl, _, _, rfl, rfl, k _ _ (Ex.refl _) rfl⟩⟩
                    · rw [pair_bl hp4] at hx4
                      refine ⟨D2, _, rfl, SqL.of hx4, _, rfl, ?_⟩
                      cases hall : (ns.map fun c => decide (0 ≤ c)).all id with
                      | true =>
                        rw [List.all_map, List.all_eq_true] at hall
                        exact iteF (yes _ e4 rfl hl fun c hc => of_decide_eq_true (hall c hc))
                      | false =>
                        refine iteT (no _ (e12.trans e4) fun z => ?_)
                        have : (ns.map fun c => decide (0 ≤ c)).all id = true := by
                          rw [List.all_map, List.all_eq_true]
                          exact fun c hc => decide_eq_true (z.2.2 c hc)
                        rw [this] at hall
                        cases hall
                  · refine iteNT (fun z => hl (by
                      have z' := V.int.inj z
                      rw [List.length_map] at z'
                      omega)) ?_
                    exact no _ e12 fun z => hl z.2.1
              match i, hi, d1, d2, ex with
              | 0, _, _, _, ex =>
                refine go k1 pe es _ (Option.some.inj ex).symm he le (fun H' e n => nof H' e fun z => ?_) fun H' e z1 z2 z3 => ⟨_, rfl, e2.trans e, fun _ => ⟨z1, z2, z3⟩, fun z => absurd z (by decide)⟩
                cases k1 with
                | true => exact z
                | false =>
                  obtain ⟨m', _, wz⟩ := z
                  exact n ⟨rfl, wz.le, wz.pe⟩
              | 1, _, d1, _, ex =>
                refine go false py ys _ (Option.some.inj ex).symm hy ly (fun H' e n => nof H' e fun z => ?_) fun H' e z1 z2 z3 => ⟨_, rfl, e2.trans e, fun _ => d1 (Nat.le_refl _), fun _ => ⟨z2, z3⟩⟩
                cases k1 with
                | true => exact z
                | false =>
                  obtain ⟨m', _, wz⟩ := z
                  exact n ⟨rfl, wz.ly, wz.py⟩
              | i + 2, hi, _, _, _ => exact absurd hi (by show ¬ i + 2 < 2; omega)
            · rintro σ H1 ⟨y6, rfl, e2, d1, d2⟩
              obtain ⟨rfl, le2, pe2⟩ := d1 (show 1 ≤ 2 by decide)
              obtain ⟨ly2, py2⟩ := d2 (show 2 ≤ 2 by decide)
              have e12 := e1.trans e2
              -- for at in range(len(book))
              refine ⟨_, rfl, a, xs, rfl, (hx.up e12).lt, _, rfl, by omega, by omega, for_it (walk_range (lo := 0) (n := ((xs.length : Nat) : Int).toNat)) (fun i σ H' => ∃ y7, σ = [some (.ref a), some (.ref b), some (.ref p), some (.int (m : Int)), some (.ref pe), some (.ref py), y6, y7, none, none] ∧ Ex H1 H' ∧
                ∀ (j : Nat), j < i → ∀ e y c, es[j]? = some e → ys[j]? = some y → cs[j]? = some c → (if j = m then 1 else 0) + e + y = c) ⟨_, rfl, Ex.refl _, fun j z => absurd z (Nat.not_lt_zero _)⟩ (fun _ _ _ _ _ => trivial) ?_ ?_⟩
              · rintro i x σ H2 H3 hi ⟨y7, rfl, e3, ds⟩ ⟨eh, rfl⟩
                subst eh
                have e13 := e12.trans e3
                have hib : i < bk.length := by omega
                obtain ⟨e, h1⟩ : ∃ e, es[i]? = some e := ⟨_, List.getElem?_eq_getElem (by omega)⟩
                obtain ⟨y, h2⟩ : ∃ y, ys[i]? = some y := ⟨_, List.getElem?_eq_getElem (by omega)⟩
                obtain ⟨c, h3⟩ : ∃ c, cs[i]? = some c := ⟨_, List.getElem?_eq_getElem (by omega)⟩
                have z0 : (0 : Int) + (i : Int) = (i : Int) := Int.zero_add _
                refine ⟨_, rfl, _, rfl, false, pe, _, _, _, rfl, rfl, (he.up e13).sq, by rw [z0]; exact atI_nat (int_map_at h1), _, rfl, _, rfl, false, py, _, _, _, rfl, rfl, (hy.up e13).sq, by rw [z0]; exact atI_nat (int_map_at h2), _, _, rfl, rfl, ?_⟩
                refine ⟨_, rfl, _, rfl, rfl, .inr ⟨_, rfl, _, _, rfl, rfl, _, rfl, _, rfl, kt, b, _, _, _, rfl, rfl, (hc.up e13).sq, by rw [z0]; exact atI_nat (int_map_at h3), rfl, _, rfl, ?_⟩⟩
                have key : (e + y + (if decide (V.int (0 + (i : Int)) = V.int (m : Int)) = true then 1 else 0) = c) ↔ (if i = m then 1 else 0) + e + y = c := by
                  by_cases him : i = m
                  · rw [if_pos (decide_eq_true (by rw [z0, him])), if_pos him]
                    omega
                  · rw [if_neg (by
                      rw [decide_eq_false fun z => him (by
                        have z' := V.int.inj z
                        omega)]
                      decide), if_neg him]
                    omega
                by_cases hs : (if i = m then 1 else 0) + e + y = c
                · refine iteNS (congrArg V.int (key.mpr hs)) ⟨_, rfl, e3, fun j hj e' y' c' g1 g2 g3 => ?_⟩
                  by_cases hji : j = i
                  · subst hji
                    obtain rfl := Option.some.inj (h1.symm.trans g1)
                    obtain rfl := Option.some.inj (h2.symm.trans g2)
                    obtain rfl := Option.some.inj (h3.symm.trans g3)
                    exact hs
                  · exact ds j (by omega) e' y' c' g1 g2 g3
                · refine iteNT (fun z => hs (key.mp (V.int.inj z))) (nof _ e13 ?_)
                  rintro ⟨m', em, wz⟩
                  have enm : m = m' := by omega
                  subst enm
                  exact hs (wz.sum i e y c h1 h2 h3)
              · rintro σ H2 ⟨y7, rfl, e3, ds⟩
                have e13 := e12.trans e3
                have hsum : ∀ (i : Nat) e y c, es[i]? = some e → ys[i]? = some y → cs[i]? = some c → (if i = m then 1 else 0) + e + y = c := fun i e y c h1 h2 h3 => ds i (by
                  have := (List.getElem?_eq_some_iff.mp h1).1
                  omega) e y c h1 h2 h3
                have small : ∀ (i : Nat) e y, es[i]? = some e → ys[i]? = some y → e ≤ 1000000000 ∧ y ≤ 1000000000 := fun i e y h1 h2 => by
                  have hi := (List.getElem?_eq_some_iff.mp h1).1
                  obtain ⟨c, h3⟩ : ∃ c, cs[i]? = some c := ⟨_, List.getElem?_eq_getElem (by omega)⟩
                  have a1 := hsum i e y c h1 h2 h3
                  have a2 := gc.most c (List.mem_of_getElem? h3)
                  have a3 := pe2 e (List.mem_of_getElem? h1)
                  have a4 := py2 y (List.mem_of_getElem? h2)
                  split at a1 <;> omega
                obtain ⟨k, hk⟩ : ∃ k, bk[m]? = some k := ⟨_, List.getElem?_eq_getElem hm⟩
                obtain ⟨vk, hvk, pk, rfl, hpk2⟩ := paired_at' hpk hk
                -- found
                refine ⟨_, rfl, _, rfl, kk, a, _, _, _, rfl, rfl, (hx.up e13).sq, atI_nat hvk, false, pk, _, _, _, rfl, rfl, SqT.of (e13 _ _ hpk2), atI_nat (j := 0) rfl, ?_⟩
                refine ⟨_, rfl, a, xs, rfl, (hx.up e13).lt, _, rfl, by omega, by omega, fun D hD => lc_pure (walk_range (lo := 0) (n := ((xs.length : Nat) : Int).toNat)) hD tm_int ((List.range bk.length).map (shareAt bk es ys)) (by rw [List.length_map, List.length_range]; omega) (fun _ _ => trivial) (by omega) (fun i d x H5 H6 K1 hd e5 y k' => ?_) mono_name fun H5 xs5 e5 hx5 hp6 => ?_⟩
                · obtain ⟨eh, rfl⟩ := y
                  subst eh
                  have hib : i < bk.length := by
                    have := (List.getElem?_eq_some_iff.mp hd).1
                    rw [List.length_map, List.length_range] at this
                    exact this
                  obtain ⟨e, h1⟩ : ∃ e, es[i]? = some e := ⟨_, List.getElem?_eq_getElem (by omega)⟩
                  obtain ⟨y, h2⟩ : ∃ y, ys[i]? = some y := ⟨_, List.getElem?_eq_getElem (by omega)⟩
                  obtain ⟨k2, hk2⟩ : ∃ k, bk[i]? = some k := ⟨_, List.getElem?_eq_getElem hib⟩
                  obtain ⟨vk2, hvk2, pk2, rfl, hpk3⟩ := paired_at' hpk hk2
                  have e15 := e13.trans e5
                  have z0 : (0 : Int) + (i : Int) = (i : Int) := Int.zero_add _
                  rw [List.getElem?_map, List.getElem?_range hib] at hd
                  have ed : shareAt bk es ys i = d := Option.some.inj hd
                  unfold shareAt at ed
                  rw [hk2, h1, h2] at ed
                  have ed : e * k2.b + y * k2.f = d := ed
                  have sm := small i e y h1 h2
                  have a3 := pe2 e (List.mem_of_getElem? h1)
                  have a4 := py2 y (List.mem_of_getElem? h2)
                  refine ⟨rfl, _, rfl, _, rfl, false, pe, _, _, _, rfl, rfl, (he.up e15).sq, by rw [z0]; exact atI_nat (int_map_at h1), _, rfl, _, rfl, kk, a, _, _, _, rfl, rfl, (hx.up e15).sq, by rw [z0]; exact atI_nat hvk2, false, pk2, _, _, _, rfl, rfl, SqT.of (e15 _ _ hpk3), atI_nat (j := 1) rfl, _, _, rfl, rfl, .inl ⟨by omega, by omega⟩, ?_⟩
                  refine ⟨_, rfl, _, rfl, false, py, _, _, _, rfl, rfl, (hy.up e15).sq, by rw [z0]; exact atI_nat (int_map_at h2), _, rfl, _, rfl, kk, a, _, _, _, rfl, rfl, (hx.up e15).sq, by rw [z0]; exact atI_nat hvk2, false, pk2, _, _, _, rfl, rfl, SqT.of (e15 _ _ hpk3), atI_nat (j := 2) rfl, _, _, rfl, rfl, .inl ⟨by omega, by omega⟩, ?_⟩
                  exact ⟨_, _, rfl, rfl, k' _ _ (Ex.refl _) (congrArg V.int ed)⟩
                · rw [pair_int hp6] at hx5
                  have e15 := e13.trans e5
                  refine ⟨D, _, rfl, SqL.of hx5, _, _, rfl, rfl, ?_⟩
                  refine ⟨_, rfl, _, rfl, _, rfl, kk, a, bk, kt, b, cs, rfl, hB.up e15, hc.up e15, gc.fits g, fun H6 e6 => ⟨rfl, ?_⟩⟩
                  refine q _ _ (e15.trans e6) ?_
                  rw [dec_intV, decide_eq_true_iff, share_sum bk es ys le2 ly2]
                  constructor
                  · intro z
                    exact ⟨m, rfl, hm, le2, ly2, pe2, py2, hsum, fun k' hk' => by
                      obtain rfl := Option.some.inj (hk.symm.trans hk')
                      omega⟩
                  · rintro ⟨m', em, wz⟩
                    have enm : m = m' := by omega
                    subst enm
                    have := wz.load k hk
                    omega
          · rw [decide_eq_false h1]
            refine iteT (nof _ e0 fun z => ?_)
            cases k1 with
            | true => exact z
            | false =>
              obtain ⟨m', em, wz⟩ := z
              have := wz.lt
              omega
        · rw [decide_eq_false h0]
          refine iteF ⟨false, rfl, iteT (nof _ e0 fun z => ?_)⟩
          cases k1 with
          | true => exact z
          | false =>
            obtain ⟨m', em, wz⟩ := z
            omega
      · exact ⟨_, rfl, false, p, _, _, _, rfl, rfl, SqT.of hp, atI_nat (j := 0) rfl, _, _, _, _, true, rfl, .ty "bool", .base (.bl z), kit_ty (by decide +kernel), true, rfl, iteT (iteT (nof _ e0 fun z => z))⟩
end
end K27

set_option Elab.async false
set_option linter.all false
set_option maxRecDepth 100000
set_option maxHeartbeats 4000000
/-! KL: tuples whose object is known (their methods may be called); comprehensions with a test; _law_orders. -/
namespace K27
open PySem PySem.Spec PyProof.Rows L2
open Evl (Ex)
section
variable {X : Cx} {es : List Expr} {t : TA} {pos : Pos}
/-- a tuple display; its object is known -/
def tTupF (t : TA) : TE := fun σ H Q => t σ H fun xs H1 => xs.length ≤ sizeLine ∧ ∀ p o, H1 p = none → o.dict = none → Q (.ref p) (upd H1 p (.frz o (.tup xs)))
theorem pe_tupF {x1} (h : PA X es t) : PE X (.Tuple es x1 pos) (tTupF t) := by
  refine ⟨fun pins s σ H Q I hq => ?_⟩
  refine wpAny_Tuple_spliced (thn (h.run pos pins s σ H _ I hq) fun us s1 ⟨xs, H1, I1, r, z, q⟩ => ⟨by rw [← r.length]; exact z, ?_⟩)
  have hf : H1 s1.heap.objs.size = none := I1.hok.fresh (Nat.le_refl _)
  have hn : (s1.heap.push ({ cls := .type "tuple", data := .seq us.toArray } : Obj)).get? s1.heap.objs.size = some _ := Heap.get?_push_size _ rfl
  exact ⟨.ref s1.heap.objs.size, _, I1.laid (t' := s1.toks) (o := .frz _ (.tup xs)) (fun b u e => Heap.get?_push_of_some _ e) (Nat.le_refl _) ⟨hn, z, us, r, _, hn, rfl, _, rfl⟩, rfl, q _ _ hf rfl⟩
/-- t + u; the new one's object is known -/
def rCatF (K : PySem.W.Frag) : R2 := fun x y H Q => ∃ a b xs ys, x = .ref a ∧ y = .ref b ∧ SqT K H a xs ∧ SqT K H b ys ∧ xs.length + ys.length ≤ sizeLine ∧
  (xs = [] → Q (.ref b) H) ∧ (xs ≠ [] → ys = [] → Q (.ref a) H) ∧ (xs ≠ [] → ys ≠ [] → ∀ p o, H p = none → o.dict = none → Q (.ref p) (upd H p (.frz o (.tup (xs ++ ys)))))
theorem op_catF : OpR X (binaryOp .Add) (rCatF X.K) := by
  intro pins s σ H x y v u Q I rx ry h
  obtain ⟨a, b, xs, ys, rfl, rfl, ha, hb, hz, q0, q1, q2⟩ := h
  cases rx
  cases ry
  obtain ⟨its, r1, p1, _⟩ := I.tuple ha
  obtain ⟨its2, r2, p2, _⟩ := I.tuple hb
  by_cases hx : xs = []
  · subst hx
    cases r1
    exact cat_tup0 p1 p2 ⟨.ref b, H, I, rfl, q0 rfl⟩
  · refine HT.cat_tup p1 p2 (fun z => hx (r1.nil_iff.mp z)) (fun z => ⟨.ref a, H, I, rfl, q1 hx (r2.nil_iff.mp z)⟩) (fun z => ?_) (by rw [← r1.length, ← r2.length]; exact hz)
    have hn : (s.heap.push ({ cls := .type "tuple", data := .seq (its ++ its2).toArray } : Obj)).get? s.heap.objs.size = some _ := Heap.get?_push_size _ rfl
    exact ⟨.ref s.heap.objs.size, _, I.laid (t' := s.toks) (o := .frz _ (.tup (xs ++ ys))) (fun b ob q => Heap.get?_push_of_some _ q) (Nat.le_refl _) ⟨hn, by rw [List.length_append]; exact hz, _, r1.append r2, _, hn, rfl, _, rfl⟩, rfl,
      q2 hx (fun w => z (r2.nil_iff.mpr w)) _ _ (I.hok.fresh (Nat.le_refl _)) rfl⟩
variable {o e : Expr} {to : TE} {name : Str} {apos cpos : Pos} {id : String} {r : V → List V → Hp → VK → Prop}
def tBMF (r : V → List V → Hp → VK → Prop) (to : TE) (t : TA) : TE := fun σ H Q => to σ H fun x H1 => (∃ p ob xs, x = .ref p ∧ H1 p = some (.frz ob (.tup xs)) ∧ ob.dict = none) ∧ t σ H1 fun xs H2 => r x xs H2 Q
/-- a method of a tuple whose object is known -/
theorem pe_bmF (pa : PlainAttrs "tuple") (slot : Slot "tuple" name id) (hty : typeOf (.builtin id) = pure (.type "method_descriptor")) (hm : MtR X id r) (ho : PE X o to) (ha : PA X (e :: es) t)
    (hbase : attributeBase o name X.env (eval o X.env) = eval o X.env := by rfl)
    (hfew : ((backTo cpos (starEach (e :: es) X.env)).all (fun x => !x.1) && (backToKw cpos (keywordEach [] X.env)).all (fun x => x.1.isSome)
      && decide ((e :: es).length + ([] : List Keyword).length + (if ([] : List Keyword).isEmpty then 0 else 1) < 30)) = true := by rfl)
    (hline : (apos.endLine == cpos.line) = true := by rfl) (hs : starEach (e :: es) X.env = (false, eval e X.env) :: starEach es X.env := by rfl) (hplain : (backTo cpos (starEach es X.env)).any (·.1) = false := by rfl) :
    PE X (.Call (.Attribute o name apos) (e :: es) [] cpos) (tBMF r to t) := by
  refine ⟨fun pins s σ H Q I h => ?_⟩
  refine wpAny_Call_method_late hbase hfew hline rfl (thn (ho.run pins s σ H _ I h) fun v s1 ⟨x, H1, I1, r1, ⟨p, ob, ws, ex, hp, hd⟩, q1⟩ => ?_)
  subst ex
  cases r1
  obtain ⟨e1, _, _, _, ⟨ob2, e2, hc, _⟩⟩ := I1.hok p _ hp
  have eo : ob2 = ob := Option.some.inj (e2.symm.trans e1)
  subst eo
  refine ⟨"tuple", id, pa, slot, hty, ⟨ob2, e1, hc⟩, fun a z => ?_, ?_⟩
  · cases z
    exact ⟨ob2, e1, hd⟩
  · have hA := ha.run cpos pins s1 σ H1 _ I1 q1
    rw [hs] at hA ⊢
    exact Calls.callWith_builtin (by show (false || (backTo cpos (starEach es X.env)).any (·.1)) = false; rw [hplain] <;> rfl) (Calls.evalArgs_plain (thn hA fun us s2 ⟨vs, H2, I2, r2, q2⟩ => hm pins s2 σ H2 (.ref p) vs _ us Q I2 rfl r2 q2))
end
/-- a tuple of whole numbers whose object is known -/
def RowF (H : Hp) (v : V) (r : List Int) : Prop := ∃ p o, v = .ref p ∧ H p = some (.frz o (.tup (r.map V.int))) ∧ o.dict = none
theorem tm_rowF : TMono RowF := fun H H' v a t ⟨p, o, e, h, d⟩ => ⟨p, o, e, t.frz h, d⟩
theorem RowF.sq {K : PySem.W.Frag} {H : Hp} {p : Addr} {o : Obj} {xs : List V} (h : H p = some (.frz o (.tup xs))) : SqT K H p xs := .inl (.inr ⟨o, h⟩)
/-! ### a comprehension whose turns change nothing that stands: it fills what os picks -/
theorem lc_sel {J : It} {n : Nat} {G : Hp → Prop} {Y : Nat → Hp → V → Hp → Prop} (w : Walk J n G Y) {σ : L2.St} {H1 : Hp} {g : TG} {tt : TT} {te : TE} {vs : List Nat} {D : Addr} {Qd : Hp → Prop} {α : Type} {R : Hp → V → α → Prop} (hDn : H1 D = none) (hR : TMono R) (os : Nat → Option α)
    (hG : ∀ H, Ex H1 H → G H) (sz : n ≤ 100000)
    (turn : ∀ i x H H' (K1 : VK) (K2 : Hp → Prop), i < n → Ex H1 H → Y i H x H' → (∀ m, os i = some m → ∀ y H4, Ex H H4 → R H4 y m → K1 y H4) → (os i = none → ∀ H3, Ex H H3 → K2 H3) →
      g x (wipe σ vs) H' fun σ2 H2 => wipe σ2 vs = wipe σ vs ∧ tt σ2 H2 fun b H3 => if b = true then te σ2 H3 K1 else K2 H3)
    (done : ∀ H2 xs, Ex H1 H2 → H2 D = some (.lst xs) → Paired (R H2) xs ((List.range n).filterMap os) → Qd H2) :
    ∃ W : Nat → Nat → Hp → Prop, (∃ m, W 0 m (upd H1 D (.lst []))) ∧ ∀ i m H, W i m H →
      (J.stop i H ∧ Qd H) ∨ (J.go i H ∧ ∃ Nx : Hp → Prop, (∀ H', Nx H' → ∃ m', m' < m ∧ W (i + 1) m' H') ∧ ∀ x H', J.yld i H x H' → g x (wipe σ vs) H' fun σ2 H2 => wipe σ2 vs = wipe σ vs ∧ tt σ2 H2 fun b H3 =>
        if b = true then te σ2 H3 fun y H4 => ∃ acc, H4 D = some (.lst acc) ∧ acc.length < sizeLine ∧ Nx (upd H4 D (.lst (acc ++ [y]))) else Nx H3) :=
  lc_fill w hDn S0 R hR (fun i zs H => Ex H1 H ∧ zs = (List.range i).filterMap os) (fun _ z => z.elim) ⟨Ex.refl _, rfl⟩ (fun D ys i zs H hD ⟨e, q⟩ => ⟨Ex.mut e hD, q⟩) (fun i zs H _ p => hG H p.1) sz (fun i zs H p => by
      rw [p.2]
      exact Nat.le_trans (List.length_filterMap_le _ _) (by rw [List.length_range]; exact Nat.le_refl _)) (fun _ _ H H' e _ _ => Tups.of e.ex)
    (fun i zs x H H' K1 K2 hi p eb y k1 k2 => by
      obtain ⟨ex, rfl⟩ := p
      refine turn i x H H' K1 K2 hi ex y (fun m hm y H4 e4 r => k1 y H4 m r (ExB.of e4) ⟨ex.trans e4, ?_⟩) fun hm H3 e3 => k2 H3 (ExB.of e3) ⟨ex.trans e3, ?_⟩
      · rw [List.range_succ, List.filterMap_append, List.filterMap_cons, hm]
        rfl
      · rw [List.range_succ, List.filterMap_append, List.filterMap_cons, hm]
        show _ = _ ++ []
        rw [List.append_nil])
    (fun H2 xs zs eb hx hp p => done H2 xs p.1 hx (by
      rw [← p.2]
      exact hp))
theorem Paired.cat {α : Type} {F : V → α → Prop} : ∀ {xs : List V} {zs : List α} {ys : List V} {ws : List α}, Paired F xs zs → Paired F ys ws → Paired F (xs ++ ys) (zs ++ ws)
  | _, _, _, _, .nil, h => h
  | _, _, _, _, .cons a t, h => .cons a (Paired.cat t h)
theorem take_flatMap {α β : Type} (f : α → List β) {rs : List α} {i : Nat} {r : α} (h : rs[i]? = some r) : (rs.take (i + 1)).flatMap f = (rs.take i).flatMap f ++ f r := by
  rw [List.take_add_one, h, List.flatMap_append]
  show _ ++ (f r ++ []) = _
  rw [List.append_nil]
theorem walk_r0 {N n : Nat} (hN : N = n) : Walk (Itr 0 N) n (fun _ => True) (YFn fun i => .int ((i : Nat) : Int)) := by
  subst hN
  exact ⟨fun _ _ hi _ => hi, fun _ _ => Nat.le_refl _, fun i H x H' _ _ y => ⟨y.1, by
    rw [y.2]
    show V.int (0 + (i : Int)) = _
    rw [Int.zero_add]⟩⟩
/-! ### the orders -/
def nextAt (cs : List Int) (r : List Int) (k : Nat) : Option (List Int) := if ((r.count (k : Int) : Nat) : Int) < cs.getD k 0 then some (r ++ [(k : Int)]) else none
def nextOf (cs : List Int) (r : List Int) : List (List Int) := (List.range cs.length).filterMap (nextAt cs r)
def ordersAt (cs : List Int) : Nat → List (List Int)
  | 0 => [[]]
  | i + 1 => (ordersAt cs i).flatMap (nextOf cs)
def ordersOf (cs : List Int) : List (List Int) := ordersAt cs cs.sum.toNat
theorem flatMap_len {α β : Type} {f : α → List β} {n : Nat} (h : ∀ x, (f x).length ≤ n) : ∀ l : List α, (l.flatMap f).length ≤ n * l.length
  | [] => by simp
  | a :: l => by
    rw [List.flatMap_cons, List.length_append, List.length_cons, Nat.mul_succ]
    have := flatMap_len h l
    have := h a
    omega
theorem next_len (cs r : List Int) : (nextOf cs r).length ≤ cs.length := Nat.le_trans (List.length_filterMap_le _ _) (by rw [List.length_range]; exact Nat.le_refl _)
theorem orders_len {cs : List Int} (h : cs.length ≤ 3) : ∀ i, i ≤ 4 → (ordersAt cs i).length ≤ 3 ^ i
  | 0, _ => show 1 ≤ 1 from Nat.le_refl _
  | i + 1, hi => by
    have h1 := orders_len h i (by omega)
    have h2 := flatMap_len (fun x => Nat.le_trans (next_len cs x) h) (ordersAt cs i)
    show ((ordersAt cs i).flatMap (nextOf cs)).length ≤ _
    rw [Nat.pow_succ]
    omega
theorem row_len {cs : List Int} : ∀ (i : Nat) (r : List Int), r ∈ ordersAt cs i → r.length = i
  | 0, r, h => by
    rw [show ordersAt cs 0 = [[]] from rfl, List.mem_singleton] at h
    rw [h]
    rfl
  | i + 1, r, h => by
    obtain ⟨r', h1, h2⟩ := List.mem_flatMap.mp (show r ∈ (ordersAt cs i).flatMap (nextOf cs) from h)
    obtain ⟨k, _, h3⟩ := List.mem_filterMap.mp h2
    unfold nextAt at h3
    split at h3
    · obtain rfl := Option.some.inj h3
      rw [List.length_append, row_len i r' h1]
      rfl
    · cases h3
section
variable {P : Program} {w : World} {K : PySem.W.Frag} {mg : Str → Option Value} {base : Heap}
abbrev s_l_orders : Stmt := topS 35
theorem sc_l_orders : FnScope ["_law_counts", "_law_found", "_law_turn", "_law_later", "_law_order", "_law_kind_here"] ["_law_counts"] (defScope s_l_orders) := ⟨rfl, rfl, rfl, by decide +kernel, rfl, by decide +kernel, by decide +kernel⟩
def sp_l_orders : Sp := fun vs H Q _ => ∃ b cs, vs = [.ref b] ∧ H b = some (.lst (cs.map V.int)) ∧ cs.length ≤ 3 ∧ (∀ c ∈ cs, 0 ≤ c) ∧ cs.sum ≤ 4 ∧ ∀ H' p xs, Ex H H' → H' p = some (.lst xs) → Paired (RowF H') xs (ordersOf cs) → Q (.ref p) H'
theorem ok_l_orders (T : Txt K mg) (o : Own K mg "_law_orders" s_l_orders ["_law_counts"]) : Cal P w K mg base CX0 1 "_law_orders" ["_law_counts"] sp_l_orders := o.cal fun f fd F => by
  refine F.ok sc_l_orders (fun vs H Q E h => ?_) (fun cdv A outer s H vs Q E hr h => ?_)
  · obtain ⟨b, cs, rfl, _⟩ := h
    rfl
  · obtain ⟨b, cs, rfl, hc, hl, hpos, hsum, q⟩ := h
    have hs0 : 0 ≤ cs.sum := by
      clear hsum hl hc q
      induction cs with
      | nil => exact Int.le_refl _
      | cons c cs ih =>
        have h1 := hpos c (List.mem_cons_self ..)
        have h2 := ih fun c hc => hpos c (List.mem_cons_of_mem _ hc)
        rw [List.sum_cons]
        omega
    refine ⟨_, (pss_cons (ps_set (i := 1) sc_l_orders.nd rfl (Or.inl rfl) (pe_lst (pa_cons (pe_tupF pa_nil) pa_nil)))
      (pss_cons (ps_for PassesOwn.never rfl (pi_range1 (by rfl) T.b_range (pa_cons (pe_callB (r := rSum K) (cr_sum rfl) (by rfl) T.b_sum (by decide +kernel) (pa_cons (pv 0) pa_nil)) pa_nil)) (pg_name (i := 2) sc_l_orders.nd rfl (Or.inl rfl))
        (pss_cons (ps_set (i := 3) sc_l_orders.nd rfl (Or.inl rfl) (pe_lst pa_nil))
        (pss_cons (ps_for PassesOwn.never rfl (pi_seq (pv 1)) (pg_name (i := 4) sc_l_orders.nd rfl (Or.inr rfl))
          (pss_one (ps_expr (pe_bm PySem.F.plainAttrs_list PySem.F.slot_list_extend PySem.F.type_list_extend mt_extend (pv 3) (pa_cons (pe_lc (own := [("_law_kind_here", 5)]) (g := gName 5) (tt := _) rfl sc_l_orders.nd (pi_range1 (by rfl) T.b_range (pa_cons (pe_callB (r := Evl.rLenS K) call_len_seq (by rfl) T.b_len (by decide +kernel) (pa_cons (pv 0) pa_nil)) pa_nil)) (blkOk_by (N := ["_law_counts", "_law_found", "_law_turn", "_law_later", "_law_order", "_law_kind_here"]) (sc := defScope s_l_orders) (by decide +kernel)) (fun _ _ _ _ _ => (pg_name (i := 5) sc_l_orders.nd rfl (Or.inl rfl))) (fun _ _ _ _ _ => pts_one (pt_cmpR op_lt (pe_bmF (r := rCntT K) PySem.F.plainAttrs_tuple PySem.F.slot_tuple_count PySem.F.type_tuple_count mt_tcount (pv 4) (pa_cons (pv 5) pa_nil)) (pe_ix (r := rIxQ K) ix_q (pv 0) (pv 5) (fun _ _ => rfl)) (nomark _))) (fun _ _ _ _ _ => (pe_op (r := rCatF K) op_catF (pv 4) (pe_tupF (pa_cons (pv 5) pa_nil))))) pa_nil)))))
        (pss_one (ps_set (i := 1) sc_l_orders.nd rfl (Or.inl rfl) (pv 3))))))
      (pss_one (ps_ret (pv 1))))), ?_⟩
    refine ⟨Nat.zero_le _, fun p0 o0 hp0 hd0 => ⟨by show 1 ≤ sizeLine; decide, fun F0 hF0 => ?_⟩⟩
    have e0 : Ex H (upd (upd H p0 (.frz o0 (.tup []))) F0 (.lst [V.ref p0])) := (Ex.new hp0).trans (Ex.new hF0)
    have r0 : Paired (RowF (upd (upd H p0 (.frz o0 (.tup []))) F0 (.lst [V.ref p0]))) [V.ref p0] (ordersAt cs 0) := .cons ⟨p0, o0, rfl, Ex.new hF0 _ _ upd_same, hd0⟩ .nil
    refine ⟨_, rfl, b, cs, rfl, SqL.of (e0 _ _ hc), _, rfl, ?_⟩
    have cn : cs.sum.toNat ≤ 4 := by omega
    refine ⟨by omega, by omega, for_it (walk_range (lo := 0) (n := cs.sum.toNat)) (fun i σ H' => ∃ F xs y2 y3 y4, σ = [some (.ref b), some (.ref F), y2, y3, y4, none] ∧ Ex H H' ∧ H' F = some (.lst xs) ∧ Paired (RowF H') xs (ordersAt cs i)) ⟨F0, _, none, none, none, rfl, e0, upd_same, r0⟩ (fun _ _ _ _ _ => trivial) ?_ ?_⟩
    · rintro i x σ H0 H1 hi ⟨F, xs, y2, y3, y4, rfl, e1, hF, hR⟩ ⟨eh, rfl⟩
      subst eh
      have lx := paired_len hR
      have lo := orders_len hl i (by omega)
      have l81 : 3 ^ i ≤ 81 := Nat.pow_le_pow_right (n := 3) (by decide) (show i ≤ 4 by omega)
      refine ⟨Nat.zero_le _, fun D0 hD0 => ?_⟩
      have e2 : Ex H1 (upd H1 D0 (.lst [])) := Ex.new hD0
      refine ⟨_, rfl, true, F, xs, rfl, SqL.of (e2 _ _ hF), for_it (walk_seq (k := true) (a := F) (xs := xs)) (fun j σ H' => ∃ acc y4, σ = [some (.ref b), some (.ref F), some (.int (0 + (i : Int))), some (.ref D0), y4, none] ∧ Ex H1 H' ∧ H' D0 = some (.lst acc) ∧ Paired (RowF H') acc (((ordersAt cs i).take j).flatMap (nextOf cs)))
        ⟨[], y4, rfl, e2, upd_same, .nil⟩ (fun j σ H' _ ⟨_, _, _, e, _⟩ => SqL.of (e _ _ hF)) ?_ ?_⟩
      · rintro j x σ H3 H2 hj ⟨acc, y4, rfl, e3, hacc, hra⟩ ⟨eh, ex⟩
        subst eh
        obtain ⟨r, hr1, pr, orr, rfl, hpr, hdr⟩ := paired_at hR ex
        have lr := row_len i r (List.mem_of_getElem? hr1)
        have hc2 := e3 _ _ (e1 _ _ hc)
        refine ⟨_, rfl, .inl ⟨rfl, _, SqL.of hacc⟩, _, rfl, b, _, rfl, .inl (SqL.of hc2), _, rfl, by rw [List.length_map]; omega, by rw [List.length_map]; omega, fun D1 hD1 => lc_sel (walk_r0 (n := cs.length) (by rw [List.length_map]; omega)) hD1 tm_rowF (nextAt cs r) (fun _ _ => trivial) (by omega)
          (fun k x H4 H5 K1 K2 hk e4 y k1 k2 => ?_) fun H4 xs4 e4 hx4 hp4 => ?_⟩
        · obtain ⟨eh, rfl⟩ := y
          subst eh
          obtain ⟨c, hk1⟩ : ∃ c, cs[k]? = some c := ⟨_, List.getElem?_eq_getElem hk⟩
          have hp5 := e4 _ _ (e3 _ _ hpr)
          refine ⟨rfl, _, rfl, ⟨_, _, _, rfl, hp5, hdr⟩, _, rfl, pr, r, k, rfl, rfl, RowF.sq hp5, _, rfl, _, rfl, true, b, _, _, _, rfl, rfl, SqL.of (e4 _ _ hc2), atI_nat (int_map_at hk1), _, _, rfl, rfl, _, rfl, ?_⟩
          have eo : nextAt cs r k = if ((r.count (k : Int) : Nat) : Int) < c then some (r ++ [(k : Int)]) else none := by
            unfold nextAt
            rw [List.getD_eq_getElem?_getD, hk1]
            rfl
          by_cases hlt : ((r.count (k : Int) : Nat) : Int) < c
          · rw [if_pos hlt] at eo
            rw [decide_eq_true hlt]
            refine iteT ⟨_, rfl, _, rfl, by show 1 ≤ sizeLine; decide, fun p1 o1 hp1 hd1 => ?_⟩
            have e5 := Ex.new (o := .frz o1 (.tup [V.int (k : Int)])) hp1
            refine ⟨pr, p1, _, _, rfl, rfl, RowF.sq (e5 _ _ hp5), RowF.sq upd_same, ?_, fun hnil => ?_, fun _ z => (List.cons_ne_nil _ _ z).elim, fun _ _ p2 o2 hp2 hd2 => ?_⟩
            · rw [List.length_map, lr]
              exact Nat.le_trans (show i + 1 ≤ 5 by omega) (by decide)
            · have hnr : r = [] := List.map_eq_nil_iff.mp hnil
              subst hnr
              exact k1 _ eo _ _ e5 ⟨p1, o1, rfl, upd_same, hd1⟩
            · refine k1 _ eo _ _ (e5.trans (Ex.new hp2)) ⟨p2, o2, rfl, ?_, hd2⟩
              rw [upd_same, List.map_append]
              rfl
          · rw [if_neg hlt] at eo
            rw [decide_eq_false hlt]
            exact iteF (k2 eo _ (Ex.refl _))
        · have hacc4 := e4 _ _ hacc
          have nx := take_flatMap (nextOf cs) hr1
          have ltot : (((ordersAt cs i).take j).flatMap (nextOf cs)).length ≤ 3 * 81 := Nat.le_trans (flatMap_len (fun x => Nat.le_trans (next_len cs x) hl) _) (Nat.mul_le_mul_left _ (Nat.le_trans (List.length_take_le' _ _) (by omega)))
          have l4 := paired_len hp4
          have l5 := next_len cs r
          have l6 := paired_len hra
          have l4' : xs4.length = (nextOf cs r).length := l4
          refine ⟨D0, D1, acc, xs4, rfl, rfl, hacc4, hx4, Nat.le_trans (show acc.length + xs4.length ≤ 1000 by omega) (by decide), ?_⟩
          refine ⟨_, _, rfl, (e3.trans e4).mut hD0, upd_same, ?_⟩
          rw [nx]
          exact Paired.up tm_rowF (Tups.lst hacc4) (Paired.cat (Paired.up tm_rowF (Tups.of e4) hra) hp4)
      · rintro σ H2 ⟨acc, y4, rfl, e3, hacc, hra⟩
        rw [List.take_of_length_le (by omega)] at hra
        exact ⟨_, rfl, D0, acc, _, _, _, rfl, e1.trans e3, hacc, hra⟩
    · rintro σ H1 ⟨F, xs, y2, y3, y4, rfl, e1, hF, hR⟩
      exact ⟨_, rfl, q _ _ _ e1 hF hR⟩
end
end K27

set_option Elab.async false
set_option linter.all false
set_option maxRecDepth 100000
set_option maxHeartbeats 4000000
/-! KP: _law_worst: the greatest sum over the rows of one order. -/
namespace K27
open PySem PySem.Spec PyProof.Rows L2
open Evl (Ex)
theorem cut_from {xs : List V} {n : Nat} (h : n ≤ xs.length) : cutV xs (some (n : Int)) none = xs.drop n := by
  unfold cutV
  rw [HT.sIx_nat, HT.sIx_none, Nat.min_eq_left h, List.take_of_length_le (by rw [List.length_drop]; exact Nat.le_refl _)]
theorem cut_to (xs : List V) (n : Nat) : cutV xs none (some (n : Int)) = xs.take n := by
  unfold cutV
  rw [HT.sIx_nat, HT.sIx_none, Nat.sub_zero, List.drop_zero]
  by_cases h : n ≤ xs.length
  · rw [Nat.min_eq_left h]
  · rw [Nat.min_eq_right (by omega), List.take_of_length_le (Nat.le_refl _), List.take_of_length_le (by omega)]
theorem getD_at {α : Type} {xs : List α} {i : Nat} {x d : α} (h : xs[i]? = some x) : xs.getD i d = x := by
  rw [List.getD_eq_getElem?_getD, h]
  rfl
/-! ### the rows of an order, what each gives -/
def noKd : Kd := ⟨0, 0, 0⟩
def firstsOf (k : Kd) : List Int := [1, k.f, k.f / 2 + 1]
def rowsAt (ks : List Kd) : Nat → List (List Int)
  | 0 => [[]]
  | i + 1 => (rowsAt ks i).flatMap fun r => (firstsOf (ks.getD i noKd)).map fun x => r ++ [x]
def restsOf (ks : List Kd) (r : List Int) : List Int := List.zipWith (fun k x => if k.w - x < k.b then k.w - x else k.b) ks r
def valAt (ks : List Kd) (r : List Int) (n : Nat) : Int := (r.drop n).sum + ((restsOf ks r).take (n + 1)).sum
/-- m is the greatest of 0 and all sums -/
structure WorstIs (ks : List Kd) (m : Int) : Prop where
  zero : 0 ≤ m
  got : m = 0 ∨ ∃ r ∈ rowsAt ks ks.length, ∃ n, n < r.length ∧ m = valAt ks r n
  top : ∀ r ∈ rowsAt ks ks.length, ∀ n, n < r.length → valAt ks r n ≤ m
theorem rowsAt_len (ks : List Kd) : ∀ i, (rowsAt ks i).length ≤ 3 ^ i
  | 0 => show 1 ≤ 1 from Nat.le_refl _
  | i + 1 => by
    have h1 := rowsAt_len ks i
    have h2 := flatMap_len (f := fun r : List Int => (firstsOf (ks.getD i noKd)).map fun x => r ++ [x]) (n := 3) (fun x => by rw [List.length_map]; exact Nat.le_refl _) (rowsAt ks i)
    show ((rowsAt ks i).flatMap _).length ≤ _
    rw [Nat.pow_succ]
    omega
theorem rowAt_len {ks : List Kd} : ∀ (i : Nat) (r : List Int), r ∈ rowsAt ks i → r.length = i
  | 0, r, h => by
    rw [show rowsAt ks 0 = [[]] from rfl, List.mem_singleton] at h
    rw [h]
    rfl
  | i + 1, r, h => by
    obtain ⟨r', h1, h2⟩ := List.mem_flatMap.mp (show r ∈ (rowsAt ks i).flatMap _ from h)
    obtain ⟨x, _, rfl⟩ := List.mem_map.mp h2
    rw [List.length_append, rowAt_len i r' h1]
    rfl
/-- the order's numbers mean the kinds ks -/
structure OrdOf (bk : List Kd) (ord : List Int) (ks : List Kd) : Prop where
  len : ks.length = ord.length
  at' : ∀ (i : Nat) z, ord[i]? = some z → ∃ (n : Nat) (k : Kd), z = (n : Int) ∧ bk[n]? = some k ∧ ks[i]? = some k
section
variable {P : Program} {w : World} {K : PySem.W.Frag} {mg : Str → Option Value} {base : Heap}
abbrev s_l_worst : Stmt := topS 36
theorem sc_l_worst : FnScope ["_law_book", "_law_order", "_law_rows", "_law_kind_here", "_law_later", "_law_row", "_law_found", "_law_rests", "_law_first", "_law_at"] ["_law_book", "_law_order"] (defScope s_l_worst) := ⟨rfl, rfl, rfl, by decide +kernel, rfl, by decide +kernel, by decide +kernel⟩
def sp_l_worst : Sp := fun vs H Q _ => ∃ kk a bk p ord ks, vs = [.ref a, .ref p] ∧ BookAt H kk a bk ∧ SqT K H p (ord.map V.int) ∧ OrdOf bk ord ks ∧ ord.length ≤ 4 ∧ ∀ H' m, Ex H H' → WorstIs ks m → Q (.int m) H'
theorem ok_l_worst (T : Txt K mg) (o : Own K mg "_law_worst" s_l_worst ["_law_book", "_law_order"]) : Cal P w K mg base CX0 1 "_law_worst" ["_law_book", "_law_order"] (sp_l_worst (K := K)) := o.cal fun f fd F => by
  refine F.ok sc_l_worst (fun vs H Q E h => ?_) (fun cdv A outer s H vs Q E hr h => ?_)
  · obtain ⟨kk, a, bk, p, ord, ks, rfl, _⟩ := h
    rfl
  · obtain ⟨kk, a, bk, p, ord, ks, rfl, hB, hp, hO, l4, q⟩ := h
    obtain ⟨xs, hx, hpk⟩ := id hB
    have lo := hO.len
    refine ⟨_, (pss_cons (ps_set (i := 2) sc_l_worst.nd rfl (Or.inl rfl) (pe_lst (pa_cons (pe_tup pa_nil) pa_nil)))
      (pss_cons (ps_for PassesOwn.never rfl (pi_seq (pv 1)) (pg_name (i := 3) sc_l_worst.nd rfl (Or.inl rfl))
        (pss_cons (ps_set (i := 4) sc_l_worst.nd rfl (Or.inl rfl) (pe_lst pa_nil))
        (pss_cons (ps_for PassesOwn.never rfl (pi_seq (pv 2)) (pg_name (i := 5) sc_l_worst.nd rfl (Or.inr rfl))
          (pss_one (ps_expr (pe_bm PySem.F.plainAttrs_list PySem.F.slot_list_extend PySem.F.type_list_extend mt_extend (pv 4) (pa_cons (pe_lc (own := [("_law_first", 8)]) (g := gName 8) (tt := tYes) rfl sc_l_worst.nd (pi_seq (pe_lst (pa_cons pe_int (pa_cons (pe_ix (r := rIxQ K) ix_q (pe_ix (r := rIxQ K) ix_q (pv 0) (pv 3) (fun _ _ => rfl)) pe_int (fun _ _ => rfl)) (pa_cons (pe_op op_add (pe_op op_fdiv (pe_ix (r := rIxQ K) ix_q (pe_ix (r := rIxQ K) ix_q (pv 0) (pv 3) (fun _ _ => rfl)) pe_int (fun _ _ => rfl)) pe_int) pe_int) pa_nil))))) (blkOk_by (N := ["_law_book", "_law_order", "_law_rows", "_law_kind_here", "_law_later", "_law_row", "_law_found", "_law_rests", "_law_first", "_law_at"]) (sc := defScope s_l_worst) (by decide +kernel)) (fun _ _ _ _ _ => (pg_name (i := 8) sc_l_worst.nd rfl (Or.inl rfl))) (fun _ _ _ _ _ => pts_nil) (fun _ _ _ _ _ => (pe_op (r := rCatA K) op_catA (pv 5) (pe_tup (pa_cons (pv 8) pa_nil))))) pa_nil)))))
        (pss_one (ps_set (i := 2) sc_l_worst.nd rfl (Or.inl rfl) (pv 4))))))
      (pss_cons (ps_set (i := 6) sc_l_worst.nd rfl (Or.inl rfl) pe_int)
      (pss_cons (ps_for PassesOwn.never rfl (pi_seq (pv 2)) (pg_name (i := 5) sc_l_worst.nd rfl (Or.inr rfl))
        (pss_cons (ps_set (i := 7) sc_l_worst.nd rfl (Or.inr rfl) (pe_lc (own := [("_law_kind_here", 3), ("_law_first", 8)]) (g := gTup K 2 (gCons (gName 3) (gCons (gName 8) gNil))) (tt := tYes) rfl sc_l_worst.nd (pi_zip2 (by rfl) T.b_zip (pa_cons (pv 1) (pa_cons (pv 5) pa_nil))) (blkOk_by (N := ["_law_book", "_law_order", "_law_rows", "_law_kind_here", "_law_later", "_law_row", "_law_found", "_law_rests", "_law_first", "_law_at"]) (sc := defScope s_l_worst) (by decide +kernel)) (fun _ _ _ _ _ => (pg_tup rfl (pgs_cons (pg_name (i := 3) sc_l_worst.nd rfl (Or.inl rfl)) (pgs_cons (pg_name (i := 8) sc_l_worst.nd rfl (Or.inl rfl)) pgs_nil)))) (fun _ _ _ _ _ => pts_nil) (fun _ _ _ _ _ => (pe_callB (call_min2 rfl) (by rfl) T.b_min (by decide +kernel) (pa_cons (pe_ix (r := rIxQ K) ix_q (pe_ix (r := rIxQ K) ix_q (pv 0) (pv 3) (fun _ _ => rfl)) pe_int (fun _ _ => rfl)) (pa_cons (pe_op op_sub (pe_ix (r := rIxQ K) ix_q (pe_ix (r := rIxQ K) ix_q (pv 0) (pv 3) (fun _ _ => rfl)) pe_int (fun _ _ => rfl)) (pv 8)) pa_nil))))))
        (pss_one (ps_set (i := 6) sc_l_worst.nd rfl (Or.inl rfl) (pe_callB (r := rMax K) (cr_max rfl) (by rfl) T.b_max (by decide +kernel) (pa_cons (pe_op op_cat (pe_lst (pa_cons (pv 6) pa_nil)) (pe_lc (own := [("_law_at", 9)]) (g := gName 9) (tt := tYes) rfl sc_l_worst.nd (pi_range1 (by rfl) T.b_range (pa_cons (pe_callB (r := Evl.rLenS K) call_len_seq (by rfl) T.b_len (by decide +kernel) (pa_cons (pv 5) pa_nil)) pa_nil)) (blkOk_by (N := ["_law_book", "_law_order", "_law_rows", "_law_kind_here", "_law_later", "_law_row", "_law_found", "_law_rests", "_law_first", "_law_at"]) (sc := defScope s_l_worst) (by decide +kernel)) (fun _ _ _ _ _ => (pg_name (i := 9) sc_l_worst.nd rfl (Or.inl rfl))) (fun _ _ _ _ _ => pts_nil) (fun _ _ _ _ _ => (pe_op op_add (pe_callB (r := rSumT K) (cr_sumT rfl) (by rfl) T.b_sum (by decide +kernel) (pa_cons (pe_slice (r := rSlA K) sl_tupA (pv 5) (po_some (pv 9)) po_none) pa_nil)) (pe_callB (r := rSum K) (cr_sum rfl) (by rfl) T.b_sum (by decide +kernel) (pa_cons (pe_slice (r := rSlL K) sl_list (pv 7) po_none (po_some (pe_op op_add (pv 9) pe_int))) pa_nil)))))) pa_nil))))))
      (pss_one (ps_ret (pv 6))))))), ?_⟩
    refine ⟨Nat.zero_le _, fun p0 hp0 => ⟨by show 1 ≤ sizeLine; decide, fun F0 hF0 => ?_⟩⟩
    have e0 : Ex H (upd (upd H p0 (.tup [])) F0 (.lst [V.ref p0])) := (Ex.new hp0).trans (Ex.new hF0)
    have r0 : Paired (RowAt (upd (upd H p0 (.tup [])) F0 (.lst [V.ref p0]))) [V.ref p0] (rowsAt ks 0) := .cons ⟨p0, rfl, Ex.new hF0 _ _ upd_same⟩ .nil
    refine ⟨_, rfl, false, p, ord.map V.int, rfl, Evl.ex_t e0 hp, for_it (walk_seq (k := false) (a := p) (xs := ord.map V.int)) (fun i σ H' => ∃ F rs y3 y4 y5, σ = [some (.ref a), some (.ref p), some (.ref F), y3, y4, y5, none, none, none, none] ∧ Ex H H' ∧ H' F = some (.lst rs) ∧ Paired (RowAt H') rs (rowsAt ks i)) ⟨F0, _, none, none, none, rfl, e0, upd_same, r0⟩ (fun i σ H' _ ⟨_, _, _, _, _, _, e, _⟩ => Evl.ex_t e hp) ?_ ?_⟩
    · rintro i x σ H0 H1 hi ⟨F, rs, y3, y4, y5, rfl, e1, hF, hR⟩ ⟨eh, ex⟩
      subst eh
      obtain ⟨z, hz, rfl⟩ := map_got ex
      obtain ⟨n, k, rfl, hbk, hks⟩ := hO.at' i z hz
      obtain ⟨vk, hvk, pk, rfl, hkp⟩ := paired_at' hpk hbk
      have i4 : i < 4 := by
        have := (List.getElem?_eq_some_iff.mp hz).1
        omega
      have lx := paired_len hR
      have lr := rowsAt_len ks i
      have l81 : 3 ^ i ≤ 27 := Nat.pow_le_pow_right (n := 3) (by decide) (show i ≤ 3 by omega)
      have ek : ks.getD i noKd = k := getD_at hks
      refine ⟨Nat.zero_le _, fun D0 hD0 => ?_⟩
      have e2 : Ex H1 (upd H1 D0 (.lst [])) := Ex.new hD0
      refine ⟨_, rfl, true, F, rs, rfl, SqL.of (e2 _ _ hF), for_it (walk_seq (k := true) (a := F) (xs := rs)) (fun j σ H' => ∃ acc y5, σ = [some (.ref a), some (.ref p), some (.ref F), some (.int (n : Int)), some (.ref D0), y5, none, none, none, none] ∧ Ex H1 H' ∧ H' D0 = some (.lst acc) ∧ Paired (RowAt H') acc (((rowsAt ks i).take j).flatMap fun r => (firstsOf k).map fun x => r ++ [x]))
        ⟨[], y5, rfl, e2, upd_same, .nil⟩ (fun j σ H' _ ⟨_, _, _, e, _⟩ => SqL.of (e _ _ hF)) ?_ ?_⟩
      · rintro j x σ H3 H2 hj ⟨acc, y5, rfl, e3, hacc, hra⟩ ⟨eh, ex⟩
        subst eh
        obtain ⟨r, hr1, pr, rfl, hpr⟩ := paired_at hR ex
        have lrr := rowAt_len i r (List.mem_of_getElem? hr1)
        have hx2 := hx.up (e1.trans e3)
        have hk2 := e3 _ _ (e1 _ _ hkp)
        -- [1, f, f // 2 + 1]
        refine ⟨_, rfl, .inl ⟨rfl, _, SqL.of hacc⟩, ?_⟩
        refine ⟨_, rfl, _, rfl, kk, a, _, _, _, rfl, rfl, hx2.sq, atI_nat hvk, false, pk, _, _, _, rfl, rfl, SqT.of hk2, atI_nat (j := 2) rfl, _, rfl, _, rfl, kk, a, _, _, _, rfl, rfl, hx2.sq, atI_nat hvk, false, pk, _, _, _, rfl, rfl, SqT.of hk2, atI_nat (j := 2) rfl, k.f, 2, rfl, rfl, ⟨by decide, by decide⟩, _, _, rfl, rfl, by show 3 ≤ sizeLine; decide, fun p3 hp3 => ?_⟩
        have e4 : Ex H2 (upd H2 p3 (.lst ((firstsOf k).map V.int))) := Ex.new hp3
        refine ⟨true, p3, (firstsOf k).map V.int, rfl, SqL.of upd_same, fun D1 hD1 => lc_pure (walk_seq (k := true) (a := p3) (xs := (firstsOf k).map V.int)) hD1 tm_row ((firstsOf k).map fun x => r ++ [x]) (by rw [List.length_map, List.length_map]) (fun H' e => SqL.of (e _ _ upd_same)) (by show 3 ≤ 100000; decide)
          (fun t m x H5 H6 K1 hm e5 y k1 => ?_) mono_name fun H4 xs4 e5 hx4 hp4 => ?_⟩
        · obtain ⟨eh, ex⟩ := y
          subst eh
          obtain ⟨c, hc1, rfl⟩ := map_got ex
          rw [List.getElem?_map, hc1] at hm
          obtain rfl := Option.some.inj hm
          have hp6 := e5 _ _ (e4 _ _ (e3 _ _ hpr))
          refine ⟨rfl, _, rfl, _, rfl, by show 1 ≤ sizeLine; decide, fun p6 hp6n => ?_⟩
          have e6 := Ex.new (o := .tup [V.int c]) hp6n
          refine ⟨pr, p6, _, _, rfl, rfl, SqT.of (e6 _ _ hp6), SqT.of upd_same, ?_, fun hnil => ?_, fun _ z => (List.cons_ne_nil _ _ z).elim, fun _ _ p7 hp7 => ?_⟩
          · rw [List.length_map, lrr]
            exact Nat.le_trans (show i + 1 ≤ 5 by omega) (by decide)
          · have hnr : r = [] := List.map_eq_nil_iff.mp hnil
            subst hnr
            exact k1 _ _ e6 ⟨p6, rfl, upd_same⟩
          · refine k1 _ _ (e6.trans (Ex.new hp7)) ⟨p7, rfl, ?_⟩
            rw [upd_same, List.map_append]
            rfl
        · have e45 := e4.trans e5
          have hacc4 := e45 _ _ hacc
          have nx := take_flatMap (fun r : List Int => (firstsOf k).map fun x => r ++ [x]) hr1
          have ltot : (((rowsAt ks i).take j).flatMap fun r : List Int => (firstsOf k).map fun x => r ++ [x]).length ≤ 3 * 27 := Nat.le_trans (flatMap_len (n := 3) (fun x => by rw [List.length_map]; exact Nat.le_refl _) _) (Nat.mul_le_mul_left _ (Nat.le_trans (List.length_take_le' _ _) (by omega)))
          have l4' : xs4.length = 3 := (paired_len hp4).trans (by rw [List.length_map]; rfl)
          have l6 := paired_len hra
          refine ⟨D0, D1, acc, xs4, rfl, rfl, hacc4, hx4, Nat.le_trans (show acc.length + xs4.length ≤ 1000 by omega) (by decide), ?_⟩
          refine ⟨_, _, rfl, (e3.trans e45).mut hD0, upd_same, ?_⟩
          rw [nx]
          exact Paired.up tm_row (Tups.lst hacc4) (Paired.cat (Paired.up tm_row (Tups.of e45) hra) hp4)
      · rintro σ H2 ⟨acc, y5, rfl, e3, hacc, hra⟩
        rw [List.take_of_length_le (by omega)] at hra
        refine ⟨_, rfl, D0, acc, _, _, _, rfl, e1.trans e3, hacc, ?_⟩
        show Paired _ _ ((rowsAt ks i).flatMap fun r => (firstsOf (ks.getD i noKd)).map fun x => r ++ [x])
        rw [ek]
        exact hra
    · rintro σ H1 ⟨F, rs, y3, y4, y5, rfl, e1, hF, hR⟩
      rw [List.length_map, ← lo] at hR
      have lx := paired_len hR
      -- found
      refine ⟨_, rfl, true, F, rs, rfl, SqL.of hF, for_it (walk_seq (k := true) (a := F) (xs := rs)) (fun j σ H' => ∃ m y3 y5 y7, σ = [some (.ref a), some (.ref p), some (.ref F), y3, y4, y5, some (.int m), y7, none, none] ∧ Ex H1 H' ∧ 0 ≤ m ∧ (m = 0 ∨ ∃ r ∈ rowsAt ks ks.length, ∃ n, n < r.length ∧ m = valAt ks r n) ∧
        ∀ r ∈ (rowsAt ks ks.length).take j, ∀ n, n < r.length → valAt ks r n ≤ m) ⟨0, _, _, none, rfl, Ex.refl _, Int.le_refl _, .inl rfl, fun r hr => nomatch hr⟩ (fun j σ H' _ ⟨_, _, _, _, _, e, _⟩ => SqL.of (e _ _ hF)) ?_ ?_⟩
      · rintro j x σ H3 H2 hj ⟨m, y3, y5, y7, rfl, e2, hm0, hmg, hmt⟩ ⟨eh, ex⟩
        subst eh
        obtain ⟨r, hr1, pr, rfl, hpr⟩ := paired_at hR ex
        have hmem := List.mem_of_getElem? hr1
        have lrr := rowAt_len _ r hmem
        have e12 := e1.trans e2
        have hr2 := e2 _ _ hpr
        -- rests
        refine ⟨_, rfl, _, rfl, false, false, p, pr, _, _, rfl, Evl.ex_t e12 hp, SqT.of hr2, fun D1 hD1 => lc_pure (walk_zip2 (k1 := false) (k2 := false) (a := p) (b := pr) (xs := ord.map V.int) (ys := r.map V.int) (n := r.length) (by rw [List.length_map, List.length_map]; omega)) hD1 tm_int (restsOf ks r) (by
            show (List.zipWith _ _ _).length = _
            rw [List.length_zipWith]
            omega)
          (fun H' e => ⟨Evl.ex_t (e12.trans e) hp, SqT.of (e _ _ hr2)⟩) (by omega) (fun t m' x H5 H6 K1 hm e5 y k1 => ?_) mono_t2 fun H4 xs4 e4 hx4 hp4 => ?_⟩
        · obtain ⟨T0, vs, rfl, hT, rfl, hv⟩ := y
          obtain ⟨v1, v2, h1, h2, rfl⟩ := zip2_got hv
          obtain ⟨z, g1, rfl⟩ := map_got h1
          obtain ⟨x, g2, rfl⟩ := map_got h2
          obtain ⟨n, k, rfl, hbk, hks⟩ := hO.at' t z g1
          obtain ⟨vk, hvk, pk, rfl, hkp⟩ := paired_at' hpk hbk
          have em : m' = if k.w - x < k.b then k.w - x else k.b := by
            unfold restsOf at hm
            rw [List.getElem?_zipWith, hks, g2] at hm
            exact (Option.some.inj hm).symm
          have e6 := Ex.new (o := .tup [V.int (n : Int), V.int x]) hT
          have e16 := (e12.trans e5).trans e6
          have hx6 := hx.up e16
          have hk6 := e16 _ _ hkp
          refine get_t2 upd_same ⟨rfl, ?_⟩
          refine ⟨_, rfl, _, rfl, kk, a, _, _, _, rfl, rfl, hx6.sq, atI_nat hvk, false, pk, _, _, _, rfl, rfl, SqT.of hk6, atI_nat (j := 1) rfl, _, rfl, _, rfl, kk, a, _, _, _, rfl, rfl, hx6.sq, atI_nat hvk, false, pk, _, _, _, rfl, rfl, SqT.of hk6, atI_nat (j := 0) rfl, _, rfl, _, _, rfl, rfl, _, _, rfl, k1 _ _ e6 ?_⟩
          rw [em]
          rfl
        · rw [pair_int hp4] at hx4
          have e14 := e12.trans e4
          have hr4 := e4 _ _ hr2
          refine ⟨_, rfl, by show 1 ≤ sizeLine; decide, fun p5 hp5 => ?_⟩
          have e5 := Ex.new (o := .lst [V.int m]) hp5
          have hr5 := e5 _ _ hr4
          have lrs : (restsOf ks r).length = r.length := by
            show (List.zipWith _ _ _).length = _
            rw [List.length_zipWith]
            omega
          refine ⟨_, rfl, pr, _, rfl, .inr (SqT.of hr5), _, rfl, by rw [List.length_map]; omega, by rw [List.length_map]; omega, fun D2 hD2 => lc_pure (walk_r0 (n := r.length) (by rw [List.length_map]; omega)) hD2 tm_int ((List.range r.length).map (valAt ks r)) (by rw [List.length_map, List.length_range]) (fun _ _ => trivial) (by omega)
            (fun t m' x H7 H6 K1 hm e6 y k1 => ?_) mono_name fun H6 xs6 e6 hx6 hp6 => ?_⟩
          · obtain ⟨eh, rfl⟩ := y
            subst eh
            have ht : t < r.length := by
              have := (List.getElem?_eq_some_iff.mp hm).1
              rw [List.length_map, List.length_range] at this
              exact this
            rw [List.getElem?_map, List.getElem?_range ht] at hm
            have em : valAt ks r t = m' := Option.some.inj hm
            have hr6 := e6 _ _ hr5
            have hx6 := e6 _ _ (e5 _ _ hx4)
            have rest : ∀ H7, Ex H6 H7 → (tOp (rI0 fun i j => .int (i + j)) (tC (.int (r.drop t).sum)) (tCB (rSum K) (tCons (tSl (rSlL K) (tVar 7) tNoPart (tPart (tOp (rI0 fun i j => .int (i + j)) (tVar 9) (tC (.int 1))))) tNil))) [some (.ref a), some (.ref p), some (.ref F), y3, y4, some (.ref pr), some (.int m), some (.ref D1), none, some (.int (t : Int))] H7 K1 := fun H7 e7 => by
              refine ⟨_, rfl, _, rfl, _, _, rfl, rfl, _, rfl, D1, _, rfl, SqL.of (e7 _ _ hx6), fun p9 hp9 => ⟨p9, (restsOf ks r).take (t + 1), rfl, ?_, _, _, rfl, rfl, k1 _ _ (e7.trans (Ex.new hp9)) ?_⟩⟩
              · rw [List.map_take, ← cut_to]
                exact SqL.of upd_same
              · rw [← em]
                rfl
            have ce := cut_from (xs := r.map V.int) (n := t) (by rw [List.length_map]; omega)
            refine ⟨rfl, _, rfl, _, rfl, _, rfl, pr, r.map V.int, rfl, SqT.of hr6, fun hw => ?_, fun _ p8 hp8 => ?_⟩
            · have ht0 : t = 0 := by
                have h1 := hw.1
                rw [HT.sIx_nat, List.length_map] at h1
                omega
              subst ht0
              exact ⟨pr, r, rfl, SqT.of hr6, rest _ (Ex.refl _)⟩
            · refine ⟨p8, r.drop t, rfl, ?_, rest _ (Ex.new hp8)⟩
              rw [List.map_drop, ← ce]
              exact SqT.of upd_same
          · rw [pair_int hp6] at hx6
            have l4' : r.length ≤ 4 := by omega
            refine ⟨p5, D2, _, _, rfl, rfl, e6 _ _ upd_same, hx6, ?_, fun p7 hp7 => ?_⟩
            · rw [List.length_map, List.length_map, List.length_range]
              exact Nat.le_trans (show 1 + r.length ≤ 5 by omega) (by decide)
            · refine ⟨p7, m :: (List.range r.length).map (valAt ks r), rfl, SqL.of upd_same, Nat.succ_pos _, fun m2 hm2 hy => ?_⟩
              refine ⟨_, _, _, _, rfl, (((e2.trans e4).trans e5).trans e6).trans (Ex.new hp7), ?_, ?_, fun r' hr' n hn => ?_⟩
              · exact Int.le_trans hm0 (hy m (List.mem_cons_self ..))
              · rcases List.mem_cons.mp hm2 with rfl | h
                · exact hmg
                · obtain ⟨n, hn, rfl⟩ := List.mem_map.mp h
                  exact .inr ⟨r, hmem, n, List.mem_range.mp hn, rfl⟩
              · rw [List.take_add_one, hr1] at hr'
                rcases List.mem_append.mp hr' with h | h
                · exact Int.le_trans (hmt r' h n hn) (hy m (List.mem_cons_self ..))
                · obtain rfl : r' = r := List.mem_singleton.mp h
                  exact hy _ (List.mem_cons_of_mem _ (List.mem_map.mpr ⟨n, List.mem_range.mpr hn, rfl⟩))
      · rintro σ H2 ⟨m, y3, y5, y7, rfl, e2, hm0, hmg, hmt⟩
        rw [List.take_of_length_le (by omega)] at hmt
        exact ⟨_, rfl, q _ _ (e1.trans e2) ⟨hm0, hmg, hmt⟩⟩
end
end K27

set_option Elab.async false
set_option linter.all false
set_option maxRecDepth 100000
set_option maxHeartbeats 4000000
/-! KQ: the plain law: the greatest sum over all orders and openings is the fact. -/
namespace K27
/-! ### rows -/
theorem rows_iff {ks : List Kd} : ∀ (i : Nat) (r : List Int), r ∈ rowsAt ks i ↔ r.length = i ∧ ∀ (j : Nat) x, r[j]? = some x → x ∈ firstsOf (ks.getD j noKd)
  | 0, r => by
    rw [show rowsAt ks 0 = [[]] from rfl, List.mem_singleton]
    constructor
    · rintro rfl
      exact ⟨rfl, fun j x h => by simp at h⟩
    · rintro ⟨h, _⟩
      exact List.length_eq_zero_iff.mp h
  | i + 1, r => by
    show r ∈ (rowsAt ks i).flatMap _ ↔ _
    rw [List.mem_flatMap]
    constructor
    · rintro ⟨r', h1, h2⟩
      obtain ⟨x, hx, rfl⟩ := List.mem_map.mp h2
      obtain ⟨l1, l2⟩ := (rows_iff i r').mp h1
      refine ⟨by rw [List.length_append, l1]; rfl, fun j y hj => ?_⟩
      by_cases hlt : j < r'.length
      · rw [List.getElem?_append_left hlt] at hj
        exact l2 j y hj
      · rw [List.getElem?_append_right (by omega)] at hj
        have hj0 : j - r'.length = 0 := by
          have := (List.getElem?_eq_some_iff.mp hj).1
          simp at this
          omega
        rw [hj0] at hj
        obtain rfl : x = y := Option.some.inj hj
        rw [show j = i by omega]
        exact hx
    · rintro ⟨l1, l2⟩
      have hi : i < r.length := by omega
      refine ⟨r.take i, (rows_iff i _).mpr ⟨by rw [List.length_take]; omega, fun j x hj => ?_⟩, List.mem_map.mpr ⟨r[i], l2 i _ (List.getElem?_eq_getElem hi), ?_⟩⟩
      · rw [List.getElem?_take] at hj
        split at hj
        · exact l2 j x hj
        · cases hj
      · have := List.take_append_getElem hi
        rw [this, List.take_of_length_le (by omega)]
theorem val_succ (k : Kd) (ks : List Kd) (x : Int) (r : List Int) (n : Nat) : valAt (k :: ks) (x :: r) (n + 1) = (if k.w - x < k.b then k.w - x else k.b) + valAt ks r n := by
  unfold valAt restsOf
  rw [List.zipWith_cons_cons, List.drop_succ_cons, List.take_succ_cons, List.sum_cons]
  omega
theorem val_zero (k : Kd) (ks : List Kd) (x : Int) (r : List Int) : valAt (k :: ks) (x :: r) 0 = x + r.sum + (if k.w - x < k.b then k.w - x else k.b) := by
  unfold valAt restsOf
  rw [List.zipWith_cons_cons, List.drop_zero, List.take_succ_cons, List.sum_cons, List.sum_cons]
  simp
theorem firsts_le {k : Kd} (g : GoodK k) {x : Int} (h : x ∈ firstsOf k) : 1 ≤ x ∧ x ≤ k.f := by
  have h1 := g.f1
  have h2 := g.w1
  unfold firstsOf at h
  simp only [List.mem_cons, List.mem_nil_iff, or_false] at h
  rcases h with rfl | rfl | rfl <;> omega
theorem row_sum_le : ∀ (ks : List Kd) (r : List Int), (∀ k ∈ ks, GoodK k) → r.length = ks.length → (∀ (j : Nat) x, r[j]? = some x → x ∈ firstsOf (ks.getD j noKd)) → r.sum ≤ (ks.map aside).sum
  | [], [], _, _, _ => Int.le_refl _
  | [], _ :: _, _, h, _ => by simp at h
  | _ :: _, [], _, h, _ => by simp at h
  | k :: ks, x :: r, g, h, hx => by
    have ih := row_sum_le ks r (fun k hk => g k (List.mem_cons_of_mem _ hk)) (by simpa using h) fun j y hj => by
      have := hx (j + 1) y hj
      simpa using this
    have h1 := firsts_le (g k List.mem_cons_self) (hx 0 x rfl)
    have h2 := aside_le k
    rw [List.sum_cons, List.map_cons, List.sum_cons]
    omega
/-- no sum is above the load of the kind that is opened at n -/
theorem val_le : ∀ (ks : List Kd) (r : List Int) (n : Nat) (k : Kd), (∀ k ∈ ks, GoodK k) → r.length = ks.length → (∀ (j : Nat) x, r[j]? = some x → x ∈ firstsOf (ks.getD j noKd)) → ks[n]? = some k → valAt ks r n ≤ (ks.map aside).sum - aside k + k.w
  | [], _, n, k, _, _, _, h => by simp at h
  | _ :: _, [], _, _, _, h, _, _ => by simp at h
  | k :: ks, x :: r, 0, k', g, h, hx, hk => by
    obtain rfl := Option.some.inj hk
    have ih := row_sum_le ks r (fun k hk => g k (List.mem_cons_of_mem _ hk)) (by simpa using h) fun j y hj => by
      have := hx (j + 1) y hj
      simpa using this
    have h1 := firsts_le (g k List.mem_cons_self) (hx 0 x rfl)
    rw [val_zero, List.map_cons, List.sum_cons]
    split <;> omega
  | k :: ks, x :: r, n + 1, k', g, h, hx, hk => by
    have ih := val_le ks r n k' (fun k hk => g k (List.mem_cons_of_mem _ hk)) (by simpa using h) (fun j y hj => by
      have := hx (j + 1) y hj
      simpa using this) hk
    have h2 := aside_le k
    rw [val_succ, List.map_cons, List.sum_cons]
    split <;> omega
/-- the opening that gives it -/
def lowRow : List Kd → Nat → List Int
  | [], _ => []
  | k :: ks, 0 => k.f :: ks.map Kd.f
  | k :: ks, n + 1 => 1 :: lowRow ks n
theorem low_len : ∀ (ks : List Kd) (n : Nat), (lowRow ks n).length = ks.length
  | [], _ => rfl
  | k :: ks, 0 => by simp [lowRow]
  | k :: ks, n + 1 => by simp [lowRow, low_len ks n]
theorem low_in : ∀ (ks : List Kd) (n : Nat) (j : Nat) x, (lowRow ks n)[j]? = some x → x ∈ firstsOf (ks.getD j noKd)
  | [], n, j, x, h => by simp [lowRow] at h
  | k :: ks, 0, 0, x, h => by
    obtain rfl := Option.some.inj h
    simp [firstsOf]
  | k :: ks, 0, j + 1, x, h => by
    have h : (ks.map Kd.f)[j]? = some x := h
    rw [List.getElem?_map] at h
    cases e : ks[j]? with
    | none =>
      rw [e] at h
      cases h
    | some k' =>
      rw [e] at h
      obtain rfl := Option.some.inj h
      rw [List.getD_cons_succ, getD_at e]
      simp [firstsOf]
  | k :: ks, n + 1, 0, x, h => by
    obtain rfl := Option.some.inj h
    simp [firstsOf]
  | k :: ks, n + 1, j + 1, x, h => by
    rw [List.getD_cons_succ]
    exact low_in ks n j x h
theorem low_val : ∀ (ks : List Kd) (n : Nat) (k : Kd), (∀ k ∈ ks, GoodK k) → ks[n]? = some k → (∀ (j : Nat) k', ks[j]? = some k' → (j < n → aside k' = k'.b) ∧ (n < j → aside k' = k'.f)) → valAt ks (lowRow ks n) n = (ks.map aside).sum - aside k + k.w
  | [], n, k, _, h, _ => by simp at h
  | k :: ks, 0, k', g, hk, h => by
    obtain rfl := Option.some.inj hk
    have e : (ks.map Kd.f).sum = (ks.map aside).sum := by
      congr 1
      refine List.map_congr_left fun k' hk' => ?_
      obtain ⟨j, hj⟩ := List.mem_iff_getElem?.mp hk'
      exact ((h (j + 1) k' hj).2 (by omega)).symm
    have g0 := g k List.mem_cons_self
    have := g0.le
    have := g0.b1
    show valAt (k :: ks) (k.f :: ks.map Kd.f) 0 = _
    rw [val_zero, e, List.map_cons, List.sum_cons]
    split <;> omega
  | k :: ks, n + 1, k', g, hk, h => by
    have ih := low_val ks n k' (fun k hk => g k (List.mem_cons_of_mem _ hk)) hk fun j k'' hj => ⟨fun hl => (h (j + 1) k'' hj).1 (by omega), fun hl => (h (j + 1) k'' hj).2 (by omega)⟩
    have h0 := (h 0 k rfl).1 (by omega)
    have := (g k List.mem_cons_self).bw
    show valAt (k :: ks) (1 :: lowRow ks n) (n + 1) = _
    rw [val_succ, ih, List.map_cons, List.sum_cons]
    split <;> omega
/-! ### orders -/
def cntOf (n : Nat) (r : List Int) : List Int := (List.range n).map fun (k : Nat) => ((r.count (k : Int) : Nat) : Int)
def ksOf (bk : List Kd) (r : List Int) : List Kd := r.map fun z => bk.getD z.toNat noKd
def InR (n : Nat) (r : List Int) : Prop := ∀ z ∈ r, ∃ k : Nat, z = (k : Int) ∧ k < n
theorem cnt_at {n : Nat} (r : List Int) {k : Nat} (h : k < n) : (cntOf n r)[k]? = some ((r.count (k : Int) : Nat) : Int) := by
  unfold cntOf
  rw [List.getElem?_map, List.getElem?_range h]
  rfl
theorem cnt_len (n : Nat) (r : List Int) : (cntOf n r).length = n := by
  unfold cntOf
  rw [List.length_map, List.length_range]
theorem cnt_snoc {n : Nat} (r : List Int) (k : Nat) : cntOf n (r ++ [(k : Int)]) = addAt 1 k (cntOf n r) := by
  refine List.ext_getElem? fun i => ?_
  by_cases hi : i < n
  · rw [cnt_at _ hi, addAt_at 1 k _ i _ (cnt_at r hi), List.count_append]
    by_cases e : i = k
    · subst e
      rw [if_pos rfl, List.count_singleton_self]
      simp
    · rw [if_neg e, List.count_singleton, if_neg (by simp; omega)]
      simp
  · rw [List.getElem?_eq_none (by rw [cnt_len]; omega), List.getElem?_eq_none (by rw [addAt_len, cnt_len]; omega)]
theorem addAt_sum (d : Int) : ∀ (n : Nat) (cs : List Int), n < cs.length → (addAt d n cs).sum = cs.sum + d
  | n, [], h => by simp at h
  | 0, c :: cs, _ => by
    show ((c + d) :: cs).sum = _
    rw [List.sum_cons, List.sum_cons]
    omega
  | n + 1, c :: cs, h => by
    have ih := addAt_sum d n cs (by simpa using h)
    show (c :: addAt d n cs).sum = _
    rw [List.sum_cons, List.sum_cons]
    omega
theorem snoc_ind {α : Type} {p : List α → Prop} (h0 : p []) (hs : ∀ l a, p l → p (l ++ [a])) (l : List α) : p l := by
  have : ∀ n, ∀ l : List α, l.length = n → p l := by
    intro n
    induction n with
    | zero =>
      intro l h
      rw [List.length_eq_zero_iff.mp h]
      exact h0
    | succ n ih =>
      intro l h
      have hne : l ≠ [] := by
        rintro rfl
        cases h
      rw [← List.dropLast_concat_getLast hne]
      exact hs _ _ (ih _ (by rw [List.length_dropLast]; omega))
  exact this _ l rfl
theorem cnt_nil (n : Nat) : ∀ x ∈ cntOf n [], x = 0 := by
  intro x h
  unfold cntOf at h
  obtain ⟨k, _, rfl⟩ := List.mem_map.mp h
  rfl
theorem sum_zero : ∀ {l : List Int}, (∀ x ∈ l, x = 0) → l.sum = 0
  | [], _ => rfl
  | a :: l, h => by
    rw [List.sum_cons, h a List.mem_cons_self, sum_zero fun x hx => h x (List.mem_cons_of_mem _ hx)]
    rfl
theorem every_zero (bk : List Kd) {cs : List Int} (h : ∀ x ∈ cs, x = 0) : every bk cs = 0 := by
  unfold every
  refine sum_zero fun x hx => ?_
  obtain ⟨i, hi⟩ := List.mem_iff_getElem?.mp hx
  rw [List.getElem?_zipWith] at hi
  cases e1 : bk[i]? with
  | none =>
    rw [e1] at hi
    simp at hi
  | some k =>
    cases e2 : cs[i]? with
    | none =>
      rw [e1, e2] at hi
      simp at hi
    | some c =>
      rw [e1, e2] at hi
      obtain rfl := Option.some.inj hi
      rw [h c (List.mem_of_getElem? e2), Int.zero_mul]
theorem cnt_sum {n : Nat} (r : List Int) : InR n r → (cntOf n r).sum = (r.length : Int) := by
  refine snoc_ind (p := fun r => InR n r → (cntOf n r).sum = (r.length : Int)) (fun _ => sum_zero (cnt_nil n)) (fun r z ih h => ?_) r
  obtain ⟨k, rfl, hk⟩ := h z (by simp)
  rw [cnt_snoc, addAt_sum 1 k _ (by rw [cnt_len]; exact hk), ih fun x hx => h x (List.mem_append_left _ hx), List.length_append]
  simp
theorem aside_sum {bk : List Kd} (r : List Int) : InR bk.length r → ((ksOf bk r).map aside).sum = every bk (cntOf bk.length r) := by
  refine snoc_ind (p := fun r => InR bk.length r → ((ksOf bk r).map aside).sum = every bk (cntOf bk.length r)) (fun _ => (every_zero bk (cnt_nil _)).symm) (fun r z ih h => ?_) r
  obtain ⟨k, rfl, hk⟩ := h z (by simp)
  have e := List.getElem?_eq_getElem hk
  rw [cnt_snoc, addAt_every 1 k bk _ _ (cnt_len _ _) e, ← ih fun x hx => h x (List.mem_append_left _ hx)]
  unfold ksOf
  rw [List.map_append, List.map_append, List.sum_append]
  show _ + [aside (bk.getD (Int.toNat (k : Int)) noKd)].sum = _
  rw [Int.toNat_natCast, getD_at e]
  simp
theorem every_le : ∀ (bk : List Kd) (cs ds : List Int), (∀ k ∈ bk, GoodK k) → cs.length = bk.length → ds.length = bk.length → (∀ (i : Nat) c d, cs[i]? = some c → ds[i]? = some d → c ≤ d) → every bk cs ≤ every bk ds
  | [], cs, ds, _, _, _, _ => by simp [every]
  | k :: bk, [], _, _, h, _, _ => by simp at h
  | k :: bk, _ :: _, [], _, _, h, _ => by simp at h
  | k :: bk, c :: cs, d :: ds, g, h1, h2, h => by
    have ih := every_le bk cs ds (fun x hx => g x (List.mem_cons_of_mem _ hx)) (by simpa using h1) (by simpa using h2) fun i c d e1 e2 => h (i + 1) c d e1 e2
    have h3 := (aside_pos (g k List.mem_cons_self)).1
    have h4 : c * aside k ≤ d * aside k := Int.mul_le_mul_of_nonneg_right (h 0 c d rfl rfl) (by omega)
    show (c * aside k :: List.zipWith _ bk cs).sum ≤ (d * aside k :: List.zipWith _ bk ds).sum
    rw [List.sum_cons, List.sum_cons]
    unfold every at ih
    omega
theorem orders_iff {cs : List Int} (hp : ∀ c ∈ cs, 0 ≤ c) : ∀ (i : Nat) (r : List Int), r ∈ ordersAt cs i ↔ r.length = i ∧ InR cs.length r ∧ ∀ (k : Nat) c, cs[k]? = some c → ((r.count (k : Int) : Nat) : Int) ≤ c
  | 0, r => by
    rw [show ordersAt cs 0 = [[]] from rfl, List.mem_singleton]
    constructor
    · rintro rfl
      exact ⟨rfl, fun z h => by simp at h, fun k c h => hp c (List.mem_of_getElem? h)⟩
    · rintro ⟨h, _⟩
      exact List.length_eq_zero_iff.mp h
  | i + 1, r => by
    show r ∈ (ordersAt cs i).flatMap _ ↔ _
    rw [List.mem_flatMap]
    constructor
    · rintro ⟨r', h1, h2⟩
      obtain ⟨k, hk, h3⟩ := List.mem_filterMap.mp h2
      obtain ⟨l1, l2, l3⟩ := (orders_iff hp i r').mp h1
      unfold nextAt at h3
      split at h3
      · rename_i hlt
        obtain rfl := Option.some.inj h3
        refine ⟨by rw [List.length_append, l1]; rfl, fun z hz => ?_, fun k' c hc => ?_⟩
        · rcases List.mem_append.mp hz with h | h
          · exact l2 z h
          · exact ⟨k, List.mem_singleton.mp h, List.mem_range.mp hk⟩
        · rw [List.count_append]
          have := l3 k' c hc
          by_cases e : k' = k
          · subst e
            rw [getD_at hc] at hlt
            rw [List.count_singleton_self]
            omega
          · rw [List.count_singleton, if_neg (by simp; omega)]
            exact this
      · cases h3
    · rintro ⟨l1, l2, l3⟩
      have hne : r ≠ [] := by
        rintro rfl
        cases l1
      have er := List.dropLast_concat_getLast hne
      obtain ⟨k, hk, hkl⟩ := l2 (r.getLast hne) (List.getLast_mem hne)
      rw [hk] at er
      have hc := List.getElem?_eq_getElem hkl
      have hcnt := l3 k _ hc
      rw [← er, List.count_append, List.count_singleton_self] at hcnt
      refine ⟨r.dropLast, (orders_iff hp i _).mpr ⟨by rw [List.length_dropLast]; omega, fun z hz => l2 z ((List.dropLast_sublist r).subset hz), fun k' c hc' => ?_⟩, List.mem_filterMap.mpr ⟨k, List.mem_range.mpr hkl, ?_⟩⟩
      · have := l3 k' c hc'
        rw [← er, List.count_append] at this
        omega
      · unfold nextAt
        rw [getD_at hc, if_pos (by omega), er]
theorem OrdOf.eq {bk : List Kd} {r : List Int} {ks : List Kd} (h : OrdOf bk r ks) : ks = ksOf bk r := by
  refine List.ext_getElem? fun i => ?_
  unfold ksOf
  rw [List.getElem?_map]
  cases e : r[i]? with
  | none =>
    rw [List.getElem?_eq_none_iff] at e
    rw [List.getElem?_eq_none (by rw [h.len]; exact e)]
    rfl
  | some z =>
    obtain ⟨n, k, rfl, h1, h2⟩ := h.at' i z e
    rw [h2]
    show _ = some (bk.getD _ noKd)
    rw [Int.toNat_natCast, getD_at h1]
theorem ord_of {bk : List Kd} {r : List Int} (h : InR bk.length r) : OrdOf bk r (ksOf bk r) := by
  refine ⟨List.length_map _, fun i z hz => ?_⟩
  obtain ⟨k, rfl, hk⟩ := h z (List.mem_of_getElem? hz)
  refine ⟨k, bk[k], rfl, List.getElem?_eq_getElem hk, ?_⟩
  unfold ksOf
  rw [List.getElem?_map, hz]
  show some (bk.getD _ noKd) = _
  rw [Int.toNat_natCast, getD_at (List.getElem?_eq_getElem hk)]
/-! ### so many of each -/
def repOf (n : Nat) (g : Nat → Nat) : List Int := (List.range n).flatMap fun k => List.replicate (g k) (k : Int)
theorem rep_mem {n : Nat} {g : Nat → Nat} {z : Int} (h : z ∈ repOf n g) : ∃ k : Nat, z = (k : Int) ∧ k < n ∧ g k ≠ 0 := by
  obtain ⟨k, hk, h⟩ := List.mem_flatMap.mp h
  obtain ⟨h1, h2⟩ := List.mem_replicate.mp h
  exact ⟨k, h2, List.mem_range.mp hk, h1⟩
theorem rep_count (g : Nat → Nat) (k : Nat) : ∀ n, (repOf n g).count (k : Int) = if k < n then g k else 0
  | 0 => by simp [repOf]
  | n + 1 => by
    have ih := rep_count g k n
    unfold repOf at ih ⊢
    rw [List.range_succ, List.flatMap_append, List.count_append, ih]
    simp only [List.flatMap_cons, List.flatMap_nil, List.append_nil, List.count_replicate]
    by_cases e : n = k
    · subst e
      simp
    · rw [show ((n : Int) == (k : Int)) = false from by simp; omega]
      by_cases h : k < n
      · rw [if_pos h, if_neg (by decide), if_pos (show k < n + 1 by omega)]
        rfl
      · rw [if_neg h, if_neg (by decide), if_neg (show ¬ k < n + 1 by omega)]
/-! ### the due -/
structure DueIs (bk : List Kd) (cs : List Int) (m : Int) : Prop where
  zero : 0 ≤ m
  got : m = 0 ∨ ∃ r ∈ ordersOf cs, WorstIs (ksOf bk r) m
  top : ∀ r ∈ ordersOf cs, ∃ m', WorstIs (ksOf bk r) m' ∧ m' ≤ m
theorem ks_good {bk : List Kd} (g : ∀ k ∈ bk, GoodK k) {r : List Int} (h : InR bk.length r) : ∀ k ∈ ksOf bk r, GoodK k := by
  intro k hk
  obtain ⟨z, hz, rfl⟩ := List.mem_map.mp hk
  obtain ⟨n, rfl, hn⟩ := h z hz
  rw [Int.toNat_natCast, getD_at (List.getElem?_eq_getElem hn)]
  exact g _ (List.getElem_mem hn)
theorem due_fact {bk : List Kd} {cs : List Int} (g : ∀ k ∈ bk, GoodK k) (hl : cs.length = bk.length) (hp : ∀ c ∈ cs, 0 ≤ c) {m : Int} (d : DueIs bk cs m) : m = fact bk cs := by
  have f := fact_is bk cs
  refine have low : ∀ (j : Nat) k c, bk[j]? = some k → cs[j]? = some c → 0 < c → loadOf bk cs k ≤ m := fun j k c hk hc hpos => ?_; ?_
  rotate_left
  refine Int.le_antisymm ?_ (by
    rcases f.at0 with h | ⟨j, k, c, h1, h2, h3, h4⟩
    · rw [h]
      exact d.zero
    · rw [h4]
      exact low j k c h1 h2 h3)
  rotate_left
  · -- an order and an opening with that load
    have hj : j < bk.length := (List.getElem?_eq_some_iff.mp hk).1
    let left : Nat → Nat := fun i => ((addAt (-1) j cs).getD i 0).toNat
    let old : Nat → Prop := fun i => (bk.getD i noKd).f ≤ (bk.getD i noKd).b
    let E := repOf bk.length fun i => if (bk.getD i noKd).f ≤ (bk.getD i noKd).b then left i else 0
    let Y := repOf bk.length fun i => if (bk.getD i noKd).f ≤ (bk.getD i noKd).b then 0 else left i
    let r := E ++ ((j : Int) :: Y)
    have hin : InR bk.length r := by
      intro z hz
      rcases List.mem_append.mp hz with h | h
      · obtain ⟨k, e, hk, _⟩ := rep_mem h
        exact ⟨k, e, hk⟩
      · rcases List.mem_cons.mp h with h | h
        · exact ⟨j, h, hj⟩
        · obtain ⟨k, e, hk, _⟩ := rep_mem h
          exact ⟨k, e, hk⟩
    have hcnt : ∀ (i : Nat) ci, cs[i]? = some ci → ((r.count (i : Int) : Nat) : Int) = ci := by
      intro i ci hi
      have hib : i < bk.length := by
        have := (List.getElem?_eq_some_iff.mp hi).1
        omega
      have hleft : (left i : Int) = if i = j then ci - 1 else ci := by
        have h1 := addAt_at (-1) j cs i ci hi
        show (((addAt (-1) j cs).getD i 0).toNat : Int) = _
        rw [getD_at h1]
        by_cases e : i = j
        · subst e
          obtain rfl := Option.some.inj (hc.symm.trans hi)
          rw [if_pos rfl, if_pos rfl]
          omega
        · rw [if_neg e, if_neg e]
          have := hp ci (List.mem_of_getElem? hi)
          omega
      show (((E ++ ((j : Int) :: Y)).count (i : Int) : Nat) : Int) = ci
      rw [List.count_append, List.count_cons, rep_count, rep_count, if_pos hib, if_pos hib]
      by_cases e : i = j
      · rw [if_pos e] at hleft
        rw [show ((j : Int) == (i : Int)) = true from by simp; omega]
        by_cases z : (bk.getD i noKd).f ≤ (bk.getD i noKd).b
        · rw [if_pos z, if_pos z, if_pos rfl]
          omega
        · rw [if_neg z, if_neg z, if_pos rfl]
          omega
      · rw [if_neg e] at hleft
        rw [show ((j : Int) == (i : Int)) = false from by simp; omega]
        by_cases z : (bk.getD i noKd).f ≤ (bk.getD i noKd).b
        · rw [if_pos z, if_pos z, if_neg (by decide)]
          omega
        · rw [if_neg z, if_neg z, if_neg (by decide)]
          omega
    have ecs : cntOf bk.length r = cs := by
      refine List.ext_getElem? fun i => ?_
      by_cases hi : i < bk.length
      · have e := List.getElem?_eq_getElem (l := cs) (i := i) (by omega)
        rw [cnt_at r hi, e, hcnt i _ e]
      · rw [List.getElem?_eq_none (by rw [cnt_len]; omega), List.getElem?_eq_none (by omega)]
    have hlen : r.length = cs.sum.toNat := by
      have := cnt_sum r hin
      rw [ecs] at this
      omega
    have hmem : r ∈ ordersOf cs := (orders_iff hp _ r).mpr ⟨hlen, by rw [hl]; exact hin, fun k c hc => by rw [hcnt k c hc]; exact Int.le_refl _⟩
    obtain ⟨m', w, hm'⟩ := d.top r hmem
    have hkj : (ksOf bk r)[E.length]? = some k := by
      have e : r[E.length]? = some (j : Int) := by
        show (E ++ ((j : Int) :: Y))[E.length]? = _
        rw [List.getElem?_append_right (Nat.le_refl _), Nat.sub_self]
        rfl
      unfold ksOf
      rw [List.getElem?_map, e]
      show some (bk.getD _ noKd) = _
      rw [Int.toNat_natCast, getD_at hk]
    have gk := ks_good g hin
    have hv := low_val (ksOf bk r) E.length k gk hkj fun i k' hi => by
      have e : ∃ z, r[i]? = some z ∧ k' = bk.getD z.toNat noKd := by
        unfold ksOf at hi
        rw [List.getElem?_map] at hi
        cases e : r[i]? with
        | none =>
          rw [e] at hi
          cases hi
        | some z =>
          rw [e] at hi
          exact ⟨z, rfl, (Option.some.inj hi).symm⟩
      obtain ⟨z, hz, rfl⟩ := e
      refine ⟨fun hlt => ?_, fun hlt => ?_⟩
      · have hz' : z ∈ E := by
          have hz2 : (E ++ ((j : Int) :: Y))[i]? = some z := hz
          rw [List.getElem?_append_left hlt] at hz2
          exact List.mem_of_getElem? hz2
        obtain ⟨n, rfl, hn, hne⟩ := rep_mem hz'
        rw [Int.toNat_natCast]
        unfold aside
        split at hne
        · split <;> omega
        · exact absurd rfl hne
      · have hz' : z ∈ Y := by
          have hz2 : (E ++ ((j : Int) :: Y))[i]? = some z := hz
          rw [List.getElem?_append_right (by omega)] at hz2
          obtain ⟨t, ht⟩ : ∃ t, i - E.length = t + 1 := ⟨i - E.length - 1, by omega⟩
          rw [ht] at hz2
          exact List.mem_of_getElem? (show Y[t]? = some z from hz2)
        obtain ⟨n, rfl, hn, hne⟩ := rep_mem hz'
        rw [Int.toNat_natCast]
        unfold aside
        split at hne
        · exact absurd rfl hne
        · split <;> omega
    have hrow := (rows_iff (ks := ksOf bk r) (ksOf bk r).length (lowRow (ksOf bk r) E.length)).mpr ⟨low_len _ _, low_in _ _⟩
    have htop := w.top _ hrow E.length (by rw [low_len]; exact (List.getElem?_eq_some_iff.mp hkj).1)
    rw [hv, aside_sum r hin, ecs] at htop
    unfold loadOf
    omega
  · rcases d.got with h | ⟨r, hr, w⟩
    · rw [h]
      exact f.nn
    · obtain ⟨l1, l2, l3⟩ := (orders_iff hp _ r).mp hr
      rw [hl] at l2
      have gk := ks_good g l2
      rcases w.got with h | ⟨row, hrow, n, hn, hm⟩
      · rw [h]
        exact f.nn
      · obtain ⟨r1, r2⟩ := (rows_iff _ _).mp hrow
        have hnk : n < (ksOf bk r).length := by omega
        have hk := List.getElem?_eq_getElem hnk
        have hle := val_le (ksOf bk r) row n _ gk r1 r2 hk
        have hnr : n < r.length := by
          have : (ksOf bk r).length = r.length := List.length_map _
          omega
        have hz := List.getElem?_eq_getElem hnr
        obtain ⟨j, ej, hj⟩ := l2 r[n] (List.getElem_mem hnr)
        have ek : (ksOf bk r)[n] = bk[j] := by
          have := (ord_of l2).at' n _ hz
          obtain ⟨j', k, e1, e2, e3⟩ := this
          have : j' = j := by omega
          subst this
          rw [hk] at e3
          rw [Option.some.inj e3]
          rw [List.getElem?_eq_getElem hj] at e2
          exact (Option.some.inj e2).symm
        have hjc : cs[j]? = some cs[j] := List.getElem?_eq_getElem (by omega)
        have hc1 := l3 j _ hjc
        have hpos : 0 < cs[j] := by
          have : 0 < r.count (j : Int) := List.count_pos_iff.mpr (by rw [← ej]; exact List.getElem_mem hnr)
          omega
        have hev := every_le bk (cntOf bk.length r) cs g (cnt_len _ _) hl fun i c d' h1 h2 => by
          have hi : i < bk.length := by
            have := (List.getElem?_eq_some_iff.mp h2).1
            omega
          rw [cnt_at r hi] at h1
          obtain rfl := Option.some.inj h1
          exact l3 i d' h2
        rw [aside_sum r l2, ek] at hle
        have hup := f.up j _ _ (List.getElem?_eq_getElem hj) hjc hpos
        unfold loadOf at hup
        omega
end K27

set_option Elab.async false
set_option linter.all false
set_option maxRecDepth 100000
set_option maxHeartbeats 4000000
/-! KR: the plain law of more deeds, of full counts: no program here. -/
namespace K27
/-! ### more deeds of one kind -/
theorem addAt_zero : ∀ (n : Nat) (cs : List Int), addAt 0 n cs = cs
  | n, [] => by cases n <;> rfl
  | 0, c :: cs => by
    show (c + 0) :: cs = _
    rw [Int.add_zero]
  | n + 1, c :: cs => by
    show c :: addAt 0 n cs = _
    rw [addAt_zero n cs]
theorem fact_add {bk : List Kd} {cs : List Int} {n : Nat} {k : Kd} {m : Int} (g : ∀ k ∈ bk, GoodK k) (hl : cs.length = bk.length) (hp : ∀ c ∈ cs, 0 ≤ c) (hk : bk[n]? = some k) (hm : 1 ≤ m) :
    fact bk (addAt m n cs) = fact bk (addAt 1 n cs) + (m - 1) * aside k := by
  have f1 := fact_is bk (addAt 1 n cs)
  have e1 := addAt_every 1 n bk cs k hl hk
  have e2 := addAt_every m n bk cs k hl hk
  have gk := g k (List.mem_of_getElem? hk)
  have ha := (aside_pos gk).1
  have hnn : 0 ≤ (m - 1) * aside k := Int.mul_nonneg (by omega) (by omega)
  have em : (m - 1) * aside k = m * aside k - 1 * aside k := Int.sub_mul _ _ _
  have hn : n < bk.length := (List.getElem?_eq_some_iff.mp hk).1
  have ld : ∀ k', loadOf bk (addAt m n cs) k' = loadOf bk (addAt 1 n cs) k' + (m - 1) * aside k := fun k' => by
    unfold loadOf
    omega
  have sgn : ∀ (j : Nat) c1 c2, (addAt 1 n cs)[j]? = some c1 → (addAt m n cs)[j]? = some c2 → (0 < c1 ↔ 0 < c2) := fun j c1 c2 h1 h2 => by
    have hj : j < cs.length := by
      have := (List.getElem?_eq_some_iff.mp h1).1
      rw [addAt_len] at this
      exact this
    have z := List.getElem?_eq_getElem hj
    have z1 := (addAt_at 1 n cs j _ z).symm.trans h1
    have z2 := (addAt_at m n cs j _ z).symm.trans h2
    have p := hp _ (List.getElem_mem hj)
    have z1 := Option.some.inj z1
    have z2 := Option.some.inj z2
    by_cases e : j = n
    · rw [if_pos e] at z1 z2
      omega
    · rw [if_neg e] at z1 z2
      omega
  have get : ∀ (d d' : Int) (j : Nat) c, (addAt d n cs)[j]? = some c → ∃ c', (addAt d' n cs)[j]? = some c' := fun d d' j c h => by
    have hj := (List.getElem?_eq_some_iff.mp h).1
    exact ⟨_, List.getElem?_eq_getElem (by rw [addAt_len] at hj ⊢; exact hj)⟩
  refine (IsFact.eq ⟨?_, fun j k' c h1 h2 h3 => ?_, ?_⟩ (fact_is bk _)).symm
  · have := f1.nn
    omega
  · obtain ⟨c1, hc1⟩ := get m 1 j c h2
    have := f1.up j k' c1 h1 hc1 ((sgn j c1 c hc1 h2).mpr h3)
    rw [ld]
    omega
  · rcases f1.at0 with z | ⟨j, k', c, h1, h2, h3, h4⟩
    · exfalso
      have hc := List.getElem?_eq_getElem (l := cs) (i := n) (by omega)
      have h5 := addAt_at 1 n cs n _ hc
      rw [if_pos rfl] at h5
      have p := hp _ (List.getElem_mem (by omega : n < cs.length))
      have h6 := f1.up n k _ hk h5 (by omega)
      have h7 := load_pos (cs := addAt 1 n cs) g (addAt_mem (P := fun c => 0 ≤ c) (fun c h => by omega) n cs hp) hk h5 (by omega)
      omega
    · obtain ⟨c2, hc2⟩ := get 1 m j c h2
      exact .inr ⟨j, k', c2, h1, hc2, (sgn j c c2 h2 hc2).mp h3, by rw [ld, h4]⟩
/-- so many more fit, one more does not -/
theorem more_law {bk : List Kd} {cs : List Int} {n : Nat} {k : Kd} {cells : Int} (g : ∀ k ∈ bk, GoodK k) (hl : cs.length = bk.length) (hp : ∀ c ∈ cs, 0 ≤ c) (hk : bk[n]? = some k) :
    (cells < fact bk cs ∧ moreF bk cs n k cells = -1) ∨ (fact bk cs ≤ cells ∧ 0 ≤ moreF bk cs n k cells ∧ fact bk (addAt (moreF bk cs n k cells) n cs) ≤ cells ∧ cells < fact bk (addAt (moreF bk cs n k cells + 1) n cs)) := by
  have gk := g k (List.mem_of_getElem? hk)
  have ha := (aside_pos gk).1
  unfold moreF
  by_cases h0 : cells < fact bk cs
  · rw [if_pos h0]
    exact .inl ⟨h0, rfl⟩
  · rw [if_neg h0]
    by_cases h1 : cells < fact bk (addAt 1 n cs)
    · rw [if_pos h1, addAt_zero]
      exact .inr ⟨by omega, Int.le_refl _, by omega, h1⟩
    · rw [if_neg h1]
      have hq : 0 ≤ (cells - fact bk (addAt 1 n cs)) / aside k := Int.ediv_nonneg (by omega) (by omega)
      have e1 := Int.mul_ediv_add_emod (cells - fact bk (addAt 1 n cs)) (aside k)
      have e2 := Int.emod_nonneg (cells - fact bk (addAt 1 n cs)) (show aside k ≠ 0 by omega)
      have e3 := Int.emod_lt_of_pos (cells - fact bk (addAt 1 n cs)) (show 0 < aside k by omega)
      rw [Int.mul_comm] at e1
      refine .inr ⟨by omega, by omega, ?_, ?_⟩
      · rw [fact_add g hl hp hk (by omega), show 1 + (cells - fact bk (addAt 1 n cs)) / aside k - 1 = (cells - fact bk (addAt 1 n cs)) / aside k by omega]
        omega
      · rw [fact_add g hl hp hk (by omega), show 1 + (cells - fact bk (addAt 1 n cs)) / aside k + 1 - 1 = (cells - fact bk (addAt 1 n cs)) / aside k + 1 by omega, Int.add_mul]
        omega
/-! ### the fact grows with the counts -/
theorem fact_mono {bk : List Kd} {cs ds : List Int} (g : ∀ k ∈ bk, GoodK k) (h1 : cs.length = bk.length) (h2 : ds.length = bk.length) (h : ∀ (i : Nat) c d, cs[i]? = some c → ds[i]? = some d → c ≤ d) : fact bk cs ≤ fact bk ds := by
  have f := fact_is bk ds
  rcases (fact_is bk cs).at0 with z | ⟨j, k, c, e1, e2, e3, e4⟩
  · rw [z]
    exact f.nn
  · have hj := (List.getElem?_eq_some_iff.mp e1).1
    have hd := List.getElem?_eq_getElem (l := ds) (i := j) (by omega)
    have := h j c _ e2 hd
    have := f.up j k _ e1 hd (by omega)
    have := every_le bk cs ds g h1 h2 h
    rw [e4]
    unfold loadOf at *
    omega
theorem fact_ge {bk : List Kd} {cs : List Int} {j : Nat} {k : Kd} {c : Int} (g : ∀ k ∈ bk, GoodK k) (hp : ∀ c ∈ cs, 0 ≤ c) (h1 : bk[j]? = some k) (h2 : cs[j]? = some c) : c ≤ fact bk cs := by
  have f := fact_is bk cs
  by_cases h : 0 < c
  · have h3 := f.up j k c h1 h2 h
    have h4 := every_ge bk cs j k c g hp h1 h2
    have ha := aside_pos (g k (List.mem_of_getElem? h1))
    have h5 : c * 1 ≤ c * aside k := Int.mul_le_mul_of_nonneg_left (by omega) (by omega)
    unfold loadOf at h3
    omega
  · have := f.nn
    omega
end K27

set_option Elab.async false
set_option linter.all false
set_option maxRecDepth 100000
set_option maxHeartbeats 4000000
/-! KS: the plain law of full counts: no program here. -/
namespace K27
def padTo (bk : List Kd) (r : List Int) : List Int := r ++ List.replicate (bk.length - r.length) 0
def isDue (bk : List Kd) (cells : Int) (r : List Int) : Bool := decide (fact bk r ≤ cells) && (List.range bk.length).all fun i => decide (cells < fact bk (addAt 1 i r))
def mostAt (bk : List Kd) (cells : Int) (r : List Int) : Int := moreF bk (padTo bk r) r.length (bk.getD r.length noKd) cells
/-- what the search finds behind the row r, m kinds left -/
def lookR (bk : List Kd) (cells : Int) : Nat → List Int → List (List Int)
  | 0, r => if (List.range bk.length).any fun i => decide (fact bk (addAt 1 i r) ≤ cells) then [] else [r]
  | m + 1, r => (List.range (mostAt bk cells r + 1 - (if m = 0 then mostAt bk cells r else 0)).toNat).flatMap fun t : Nat => lookR bk cells m (r ++ [(if m = 0 then mostAt bk cells r else 0) + (t : Int)])
/-- all rows behind r -/
def allOf (cells : Int) : Nat → List Int → List (List Int)
  | 0, r => [r]
  | m + 1, r => (List.range (cells + 1).toNat).flatMap fun t : Nat => allOf cells m (r ++ [(t : Int)])
theorem all_mem {cells : Int} : ∀ (m : Nat) (r x : List Int), x ∈ allOf cells m r → ∃ s, x = r ++ s ∧ s.length = m ∧ ∀ c ∈ s, 0 ≤ c
  | 0, r, x, h => ⟨[], by rw [List.append_nil]; exact List.mem_singleton.mp h, rfl, fun c h => by simp at h⟩
  | m + 1, r, x, h => by
    obtain ⟨t, _, h⟩ := List.mem_flatMap.mp h
    obtain ⟨s, e, l, p⟩ := all_mem m _ x h
    refine ⟨(t : Int) :: s, by rw [e, List.append_assoc]; rfl, by rw [List.length_cons, l], fun c hc => ?_⟩
    rcases List.mem_cons.mp hc with h | h
    · omega
    · exact p c h
theorem addAt_app (d x : Int) : ∀ (r s : List Int), addAt d r.length (r ++ x :: s) = r ++ (x + d) :: s
  | [], s => rfl
  | a :: r, s => by
    show a :: addAt d r.length (r ++ x :: s) = _
    rw [addAt_app d x r s]
    rfl
theorem pad_len {bk : List Kd} {r : List Int} (h : r.length ≤ bk.length) : (padTo bk r).length = bk.length := by
  unfold padTo
  rw [List.length_append, List.length_replicate]
  omega
theorem pad_nn {bk : List Kd} {r : List Int} (h : ∀ c ∈ r, 0 ≤ c) : ∀ c ∈ padTo bk r, 0 ≤ c := by
  intro c hc
  rcases List.mem_append.mp hc with z | z
  · exact h c z
  · rw [(List.mem_replicate.mp z).2]
    exact Int.le_refl _
theorem pad_add {bk : List Kd} {r : List Int} (h : r.length < bk.length) (x : Int) : addAt x r.length (padTo bk r) = padTo bk (r ++ [x]) := by
  unfold padTo
  obtain ⟨t, ht⟩ : ∃ t, bk.length - r.length = t + 1 := ⟨bk.length - r.length - 1, by omega⟩
  rw [ht, List.replicate_succ, addAt_app, List.length_append, List.append_assoc, show bk.length - (r.length + [x].length) = t by simp; omega, Int.zero_add]
  rfl
theorem pad_full {bk : List Kd} {r : List Int} (h : r.length = bk.length) : padTo bk r = r := by
  unfold padTo
  rw [h, Nat.sub_self]
  simp
/-- the row r with zeros is below what stands behind it -/
theorem pad_le {bk : List Kd} {r s : List Int} (hs : ∀ c ∈ s, 0 ≤ c) (hl : r.length + s.length = bk.length) : ∀ (i : Nat) c d, (padTo bk r)[i]? = some c → (r ++ s)[i]? = some d → c ≤ d := by
  intro i c d h1 h2
  unfold padTo at h1
  by_cases h : i < r.length
  · rw [List.getElem?_append_left h] at h1 h2
    obtain rfl := Option.some.inj (h1.symm.trans h2)
    exact Int.le_refl _
  · rw [List.getElem?_append_right (by omega)] at h1 h2
    have e := (List.mem_replicate.mp (List.mem_of_getElem? h1)).2
    have := hs d (List.mem_of_getElem? h2)
    omega
theorem flatMap_cong {α β : Type} {f g : α → List β} : ∀ {l : List α}, (∀ a ∈ l, f a = g a) → l.flatMap f = l.flatMap g
  | [], _ => rfl
  | a :: l, h => by
    rw [List.flatMap_cons, List.flatMap_cons, h a List.mem_cons_self, flatMap_cong fun x hx => h x (List.mem_cons_of_mem _ hx)]
theorem flat_window {β : Type} (f : Int → List β) (a b N : Nat) (hab : a ≤ b) (hbN : b ≤ N) (h : ∀ t : Nat, t < N → t < a ∨ b ≤ t → f (t : Int) = []) : ((List.range N).flatMap fun t : Nat => f (t : Int)) = (List.range (b - a)).flatMap fun t : Nat => f ((a : Int) + (t : Int)) := by
  have nil : ∀ (l : List Nat) (g : Nat → List β), (∀ t ∈ l, g t = []) → l.flatMap g = [] := fun l g hg => by
    rw [List.flatMap_eq_nil_iff]
    exact hg
  obtain ⟨p, rfl⟩ := Nat.exists_eq_add_of_le hab
  obtain ⟨q, rfl⟩ := Nat.exists_eq_add_of_le hbN
  rw [Nat.add_sub_cancel_left, List.range_add, List.flatMap_append, List.range_add, List.flatMap_append, nil (List.range a) _ fun t ht => ?_, List.nil_append, nil ((List.range q).map _) _ fun t ht => ?_, List.append_nil, List.flatMap_map]
  · refine congrArg (fun g => List.flatMap g (List.range p)) (funext fun t => ?_)
    show f (((a + t : Nat)) : Int) = _
    rw [Int.natCast_add]
  · obtain ⟨u, hu, rfl⟩ := List.mem_map.mp ht
    have := List.mem_range.mp hu
    exact h _ (by omega) (.inr (by omega))
  · have := List.mem_range.mp ht
    exact h t (by omega) (.inl this)
/-- what most is -/
theorem most_is {bk : List Kd} {cells : Int} {r : List Int} (g : ∀ k ∈ bk, GoodK k) (hl : r.length < bk.length) (hp : ∀ c ∈ r, 0 ≤ c) (hf : fact bk (padTo bk r) ≤ cells) :
    0 ≤ mostAt bk cells r ∧ fact bk (padTo bk (r ++ [mostAt bk cells r])) ≤ cells ∧ cells < fact bk (padTo bk (r ++ [mostAt bk cells r + 1])) ∧ mostAt bk cells r ≤ cells := by
  have hk := List.getElem?_eq_getElem hl
  have ek : bk.getD r.length noKd = bk[r.length] := getD_at hk
  have m := more_law (cells := cells) g (pad_len (Nat.le_of_lt hl)) (pad_nn hp) hk
  unfold mostAt
  rw [ek]
  rcases m with z | ⟨_, h1, h2, h3⟩
  · omega
  · rw [pad_add hl] at h2 h3
    refine ⟨h1, h2, h3, ?_⟩
    have e : (padTo bk (r ++ [moreF bk (padTo bk r) r.length bk[r.length] cells]))[r.length]? = some (moreF bk (padTo bk r) r.length bk[r.length] cells) := by
      unfold padTo
      rw [List.getElem?_append_left (by simp), List.getElem?_append_right (Nat.le_refl _), Nat.sub_self]
      rfl
    have := fact_ge g (pad_nn (r := r ++ [_]) fun c hc => by
      rcases List.mem_append.mp hc with h | h
      · exact hp c h
      · rw [List.mem_singleton.mp h]
        exact h1) hk e
    omega
theorem fact_pad_le {bk : List Kd} {r : List Int} {x y : Int} (g : ∀ k ∈ bk, GoodK k) (hl : r.length < bk.length) (h : x ≤ y) : fact bk (padTo bk (r ++ [x])) ≤ fact bk (padTo bk (r ++ [y])) := by
  have h1 : (r ++ [x]).length ≤ bk.length := by simp; omega
  have h2 : (r ++ [y]).length ≤ bk.length := by simp; omega
  refine fact_mono g (pad_len h1) (pad_len h2) fun i c d e1 e2 => ?_
  rw [← pad_add hl] at e1 e2
  have hi : i < (padTo bk r).length := by
    have := (List.getElem?_eq_some_iff.mp e1).1
    rw [addAt_len] at this
    exact this
  have z := List.getElem?_eq_getElem hi
  have z1 := Option.some.inj ((addAt_at x r.length _ i _ z).symm.trans e1)
  have z2 := Option.some.inj ((addAt_at y r.length _ i _ z).symm.trans e2)
  by_cases e : i = r.length
  · rw [if_pos e] at z1 z2
    omega
  · rw [if_neg e] at z1 z2
    omega
theorem look_is {bk : List Kd} {cells : Int} (g : ∀ k ∈ bk, GoodK k) : ∀ (m : Nat) (r : List Int), r.length + m = bk.length → (∀ c ∈ r, 0 ≤ c) → fact bk (padTo bk r) ≤ cells → lookR bk cells m r = (allOf cells m r).filter (isDue bk cells)
  | 0, r, hl, hp, hf => by
    rw [pad_full (by omega)] at hf
    show (if _ then [] else [r]) = [r].filter _
    rw [List.filter_cons, List.filter_nil]
    have e : isDue bk cells r = !(List.range bk.length).any fun i => decide (fact bk (addAt 1 i r) ≤ cells) := by
      unfold isDue
      rw [decide_eq_true hf, Bool.true_and, List.not_any_eq_all_not]
      refine congrArg (fun g => (List.range bk.length).all g) (funext fun i => ?_)
      by_cases h : fact bk (addAt 1 i r) ≤ cells
      · rw [decide_eq_true h, decide_eq_false (by omega)]
        rfl
      · rw [decide_eq_false h, decide_eq_true (by omega)]
        rfl
    rw [e]
    cases (List.range bk.length).any fun i => decide (fact bk (addAt 1 i r) ≤ cells) <;> rfl
  | m + 1, r, hl, hp, hf => by
    have hlt : r.length < bk.length := by omega
    obtain ⟨m1, m2, m3, m4⟩ := most_is g hlt hp hf
    have hcells : 0 ≤ cells := by omega
    generalize em : mostAt bk cells r = most at *
    let f : Int → List (List Int) := fun v => (allOf cells m (r ++ [v])).filter (isDue bk cells)
    have ih : ∀ v, 0 ≤ v → v ≤ most → lookR bk cells m (r ++ [v]) = f v := fun v h1 h2 => look_is g m (r ++ [v]) (by rw [List.length_append]; show r.length + 1 + m = _; omega) (fun c hc => by
      rcases List.mem_append.mp hc with h | h
      · exact hp c h
      · rw [List.mem_singleton.mp h]
        exact h1) (Int.le_trans (fact_pad_le g hlt h2) m2)
    have up : ∀ v, most < v → f v = [] := fun v hv => by
      rw [List.filter_eq_nil_iff]
      intro x hx hd
      obtain ⟨s, rfl, ls, ps⟩ := all_mem m _ x hx
      unfold isDue at hd
      rw [Bool.and_eq_true, decide_eq_true_iff] at hd
      have h1 := fact_pad_le (x := most + 1) (y := v) g hlt (by omega)
      have h2 := fact_mono g (pad_len (bk := bk) (r := r ++ [v]) (by simp; omega)) (ds := r ++ [v] ++ s) (by simp; omega) (pad_le ps (by simp; omega))
      omega
    have down : m = 0 → ∀ v, v < most → f v = [] := fun hm v hv => by
      subst hm
      rw [List.filter_eq_nil_iff]
      intro x hx hd
      have hx : x = r ++ [v] := List.mem_singleton.mp hx
      subst hx
      unfold isDue at hd
      rw [Bool.and_eq_true, decide_eq_true_iff, List.all_eq_true] at hd
      have h1 := of_decide_eq_true (hd.2 r.length (List.mem_range.mpr hlt))
      rw [addAt_app 1 v r []] at h1
      have h2 := fact_pad_le (x := v + 1) (y := most) g hlt (by omega)
      rw [pad_full (r := r ++ [v + 1]) (by simp; omega)] at h2
      omega
    show ((List.range (mostAt bk cells r + 1 - (if m = 0 then mostAt bk cells r else 0)).toNat).flatMap fun t : Nat => lookR bk cells m (r ++ [(if m = 0 then mostAt bk cells r else 0) + (t : Int)])) = ((List.range (cells + 1).toNat).flatMap fun t : Nat => allOf cells m (r ++ [(t : Int)])).filter _
    rw [em, List.filter_flatMap]
    have w := flat_window f (if m = 0 then most.toNat else 0) (most.toNat + 1) (cells + 1).toNat (by split <;> omega) (by omega) fun t ht h => by
      rcases h with h | h
      · by_cases hm : m = 0
        · rw [if_pos hm] at h
          exact down hm _ (by omega)
        · rw [if_neg hm] at h
          omega
      · exact up _ (by omega)
    refine Eq.trans ?_ w.symm
    have e1 : (most + 1 - (if m = 0 then most else 0)).toNat = most.toNat + 1 - (if m = 0 then most.toNat else 0) := by
      split <;> omega
    have e2 : (((if m = 0 then most.toNat else 0 : Nat)) : Int) = if m = 0 then most else 0 := by
      split <;> omega
    rw [e1, e2]
    refine flatMap_cong ?_
    intro t ht
    have ht := List.mem_range.mp ht
    refine ih _ ?_ ?_
    · split <;> omega
    · split at ht <;> split <;> omega
end K27

set_option Elab.async false
set_option linter.all false
set_option maxRecDepth 100000
set_option maxHeartbeats 400000
/-! KT: the plain law of full counts: order, sizes, the book of ones. -/
namespace K27
/-! ### the law's rows -/
def everyAt (cells : Int) : Nat → List (List Int)
  | 0 => [[]]
  | i + 1 => (everyAt cells i).flatMap fun r => (List.range (cells + 1).toNat).map fun t : Nat => r ++ [(t : Int)]
theorem every_all (cells : Int) : ∀ (i m : Nat), (everyAt cells i).flatMap (allOf cells m) = allOf cells (i + m) []
  | 0, m => by
    show allOf cells m [] ++ [] = _
    rw [List.append_nil, Nat.zero_add]
  | i + 1, m => by
    have ih := every_all cells i (m + 1)
    rw [show i + 1 + m = i + (m + 1) by omega, ← ih]
    show ((everyAt cells i).flatMap _).flatMap _ = _
    rw [List.flatMap_assoc]
    refine flatMap_cong fun r _ => ?_
    rw [List.flatMap_map]
    rfl
theorem every_is (cells : Int) (n : Nat) : everyAt cells n = allOf cells n [] := by
  have := every_all cells n 0
  rw [Nat.add_zero] at this
  rw [← this]
  clear this
  induction everyAt cells n with
  | nil => rfl
  | cons a l ih =>
    rw [List.flatMap_cons, ← ih]
    rfl
theorem everyAt_len (cells : Int) : ∀ i, (everyAt cells i).length ≤ (cells + 1).toNat ^ i
  | 0 => Nat.le_refl _
  | i + 1 => by
    have h1 := everyAt_len cells i
    have h2 := flatMap_len (f := fun r : List Int => (List.range (cells + 1).toNat).map fun t : Nat => r ++ [(t : Int)]) (n := (cells + 1).toNat) (fun x => by rw [List.length_map, List.length_range]; exact Nat.le_refl _) (everyAt cells i)
    refine Nat.le_trans h2 ?_
    rw [Nat.pow_succ, Nat.mul_comm]
    exact Nat.mul_le_mul_right _ h1
/-! ### the rows are in order -/
theorem app_le {a b : Int} (h : a < b) (s t : List Int) : ∀ r : List Int, r ++ a :: s ≤ r ++ b :: t
  | [] => List.cons_le_cons_iff.mpr (.inl h)
  | c :: r => List.cons_le_cons_iff.mpr (.inr ⟨rfl, app_le h s t r⟩)
theorem all_sorted (cells : Int) : ∀ (m : Nat) (r : List Int), (allOf cells m r).Pairwise (fun p q => p ≤ q)
  | 0, r => List.pairwise_singleton _ _
  | m + 1, r => by
    show List.Pairwise _ ((List.range (cells + 1).toNat).flatMap fun t : Nat => allOf cells m (r ++ [(t : Int)]))
    rw [List.pairwise_flatMap]
    refine ⟨fun t _ => all_sorted cells m _, ?_⟩
    refine List.Pairwise.imp ?_ List.pairwise_lt_range
    intro a b hab x hx y hy
    obtain ⟨s, rfl, _⟩ := all_mem m _ x hx
    obtain ⟨t, rfl, _⟩ := all_mem m _ y hy
    rw [List.append_assoc, List.append_assoc]
    exact app_le (by omega) s t r
/-! ### the book of ones -/
def oneK : Kd := ⟨2, 1, 1⟩
theorem one_good {n : Nat} : ∀ k ∈ List.replicate n oneK, GoodK k := by
  intro k hk
  rw [(List.mem_replicate.mp hk).2]
  exact ⟨by decide, by decide, by decide, by decide, by decide, by decide, by decide, by decide, by decide⟩
theorem one_every : ∀ (n : Nat) (cs : List Int), cs.length = n → every (List.replicate n oneK) cs = cs.sum
  | 0, [], _ => rfl
  | 0, _ :: _, h => by simp at h
  | n + 1, [], h => by simp at h
  | n + 1, c :: cs, h => by
    have ih := one_every n cs (by simpa using h)
    show (c * aside oneK :: List.zipWith _ (List.replicate n oneK) cs).sum = _
    rw [List.sum_cons, List.sum_cons]
    unfold every at ih
    rw [ih, show aside oneK = 1 from rfl, Int.mul_one]
theorem sum_nn : ∀ {l : List Int}, (∀ c ∈ l, 0 ≤ c) → 0 ≤ l.sum ∧ ((∀ c ∈ l, ¬ 0 < c) ∨ ∃ (j : Nat) (c : Int), l[j]? = some c ∧ 0 < c) ∧ (∀ c ∈ l, c ≤ l.sum)
  | [], _ => ⟨Int.le_refl _, .inl fun c h => by simp at h, fun c h => by simp at h⟩
  | a :: l, h => by
    have h0 := h a List.mem_cons_self
    obtain ⟨h1, h2, h3⟩ := sum_nn fun c hc => h c (List.mem_cons_of_mem _ hc)
    rw [List.sum_cons]
    refine ⟨by omega, ?_, fun c hc => ?_⟩
    · by_cases z : 0 < a
      · exact .inr ⟨0, a, rfl, z⟩
      · rcases h2 with h2 | ⟨j, c, h4, h5⟩
        · refine .inl fun c hc => ?_
          rcases List.mem_cons.mp hc with e | e
          · rw [e]
            exact z
          · exact h2 c e
        · exact .inr ⟨j + 1, c, h4, h5⟩
    · rcases List.mem_cons.mp hc with e | e
      · omega
      · have := h3 c e
        omega
theorem one_fact {n : Nat} {cs : List Int} (hl : cs.length = n) (hp : ∀ c ∈ cs, 0 ≤ c) : fact (List.replicate n oneK) cs = if cs.sum = 0 then 0 else cs.sum + 1 := by
  obtain ⟨h1, h2, h3⟩ := sum_nn hp
  refine (IsFact.eq ⟨?_, fun j k c e1 e2 e3 => ?_, ?_⟩ (fact_is _ _)).symm
  · split <;> omega
  · have ek := (List.mem_replicate.mp (List.mem_of_getElem? e1)).2
    subst ek
    have := h3 c (List.mem_of_getElem? e2)
    rw [if_neg (by omega)]
    unfold loadOf
    rw [one_every n cs hl]
    show cs.sum - 1 + 2 ≤ _
    omega
  · rcases h2 with h2 | ⟨j, c, h4, h5⟩
    · refine .inl (if_pos (sum_zero fun c hc => ?_))
      have := hp c hc
      have := h2 c hc
      omega
    · have := h3 c (List.mem_of_getElem? h4)
      have hj := (List.getElem?_eq_some_iff.mp h4).1
      refine .inr ⟨j, oneK, c, by rw [List.getElem?_replicate, if_pos (by omega)], h4, h5, ?_⟩
      rw [if_neg (by omega)]
      unfold loadOf
      rw [one_every n cs hl]
      show _ = cs.sum - 1 + 2
      omega
theorem sum_rep : ∀ m : Nat, (List.replicate m (0 : Int)).sum = 0
  | 0 => rfl
  | m + 1 => by
    rw [List.replicate_succ, List.sum_cons, sum_rep m]
    rfl
theorem one_pad {n : Nat} (r : List Int) : (padTo (List.replicate n oneK) r).sum = r.sum := by
  unfold padTo
  rw [List.sum_append, sum_rep, Int.add_zero]
theorem one_most {n : Nat} {cells : Int} {r : List Int} (hl : r.length < n) (hp : ∀ c ∈ r, 0 ≤ c) (h1 : 1 ≤ cells) (hs : r.sum ≤ cells - 1) : mostAt (List.replicate n oneK) cells r = cells - 1 - r.sum := by
  have s0 := (sum_nn hp).1
  have hl' : r.length < (List.replicate n oneK).length := by rw [List.length_replicate]; exact hl
  have hk : (List.replicate n oneK)[r.length]? = some oneK := by rw [List.getElem?_replicate, if_pos hl]
  have m := more_law (cells := cells) one_good (pad_len (Nat.le_of_lt hl')) (pad_nn hp) hk
  have key : ∀ x, 0 ≤ x → fact (List.replicate n oneK) (addAt x r.length (padTo (List.replicate n oneK) r)) = if r.sum + x = 0 then 0 else r.sum + x + 1 := fun x hx => by
    rw [pad_add hl', one_fact (by rw [pad_len (by rw [List.length_append, List.length_replicate]; show r.length + 1 ≤ n; omega), List.length_replicate]) (pad_nn fun c hc => by
      rcases List.mem_append.mp hc with h | h
      · exact hp c h
      · rw [List.mem_singleton.mp h]
        exact hx), one_pad, List.sum_append]
    simp
  have ek : (List.replicate n oneK).getD r.length noKd = oneK := getD_at hk
  unfold mostAt
  rw [ek]
  have k0 := key 0 (Int.le_refl _)
  rw [addAt_zero] at k0
  rcases m with ⟨z, _⟩ | ⟨_, z1, z2, z3⟩
  · rw [k0] at z
    split at z <;> omega
  · rw [key _ z1] at z2
    rw [key _ (by omega)] at z3
    split at z2 <;> split at z3 <;> omega
theorem look_succ (bk : List Kd) (cells : Int) (m : Nat) (r : List Int) : lookR bk cells (m + 1) r = (List.range (mostAt bk cells r + 1 - (if m = 0 then mostAt bk cells r else 0)).toNat).flatMap fun t : Nat => lookR bk cells m (r ++ [(if m = 0 then mostAt bk cells r else 0) + (t : Int)]) := rfl
theorem look_last {bk : List Kd} {cells : Int} {r : List Int} {v : Int} (h : mostAt bk cells r = v) : lookR bk cells 1 r = lookR bk cells 0 (r ++ [v]) := by
  rw [look_succ, if_pos rfl, h, show (v + 1 - v).toNat = 1 by omega, show List.range 1 = [0] from rfl, List.flatMap_cons, List.flatMap_nil, List.append_nil]
  show lookR bk cells 0 (r ++ [v + 0]) = _
  rw [Int.add_zero]
/-- how many are found -/
def cntN : Nat → Nat → Nat
  | 0, _ => 1
  | m + 1, s => ((List.range (s + 1)).map fun x => cntN m (s - x)).sum
theorem one_leaf {n : Nat} {cells : Int} {r : List Int} (hl : r.length = n) (hp : ∀ c ∈ r, 0 ≤ c) (h1 : 1 ≤ cells) (hs : r.sum = cells - 1) : lookR (List.replicate n oneK) cells 0 r = [r] := by
  show (if _ then [] else [r]) = _
  rw [if_neg]
  rw [Bool.not_eq_true, List.any_eq_false]
  intro i hi
  rw [List.length_replicate] at hi
  have hi := List.mem_range.mp hi
  rw [decide_eq_true_iff, one_fact (by rw [addAt_len, hl]) (addAt_mem (P := fun c => 0 ≤ c) (fun c h => by omega) i r hp), addAt_sum 1 i r (by omega)]
  split <;> omega
theorem one_len {n : Nat} {cells : Int} (h1 : 1 ≤ cells) : ∀ (m : Nat) (r : List Int), r.length + (m + 1) = n → (∀ c ∈ r, 0 ≤ c) → r.sum ≤ cells - 1 → (lookR (List.replicate n oneK) cells (m + 1) r).length = cntN m (cells - 1 - r.sum).toNat
  | 0, r, hl, hp, hs => by
    have em := one_most (n := n) (by omega) hp h1 hs
    rw [look_last em, one_leaf (by rw [List.length_append]; exact hl) (fun c hc => by
      rcases List.mem_append.mp hc with h | h
      · exact hp c h
      · rw [List.mem_singleton.mp h]
        omega) h1 (by rw [List.sum_append, List.sum_cons, List.sum_nil]; omega)]
    rfl
  | m + 1, r, hl, hp, hs => by
    have em := one_most (n := n) (by omega) hp h1 hs
    rw [look_succ, if_neg (by omega), em, List.length_flatMap, show (cells - 1 - r.sum + 1 - 0).toNat = (cells - 1 - r.sum).toNat + 1 by omega]
    unfold cntN
    refine congrArg List.sum (List.map_congr_left fun t ht => ?_)
    have ht := List.mem_range.mp ht
    have es : (r ++ [0 + (t : Int)]).sum = r.sum + t := by
      rw [List.sum_append, List.sum_cons, List.sum_nil]
      omega
    rw [one_len h1 m (r ++ [0 + (t : Int)]) (by rw [List.length_append, List.length_singleton]; omega) (fun c hc => by
      rcases List.mem_append.mp hc with h | h
      · exact hp c h
      · rw [List.mem_singleton.mp h]
        omega) (by rw [es]; omega), es, show (cells - 1 - (r.sum + t)).toNat = (cells - 1 - r.sum).toNat - t by omega]
theorem cnt_20 : cntN 3 20 = 1771 := by decide +kernel
theorem cnt_21 : cntN 3 21 = 2024 := by decide +kernel
theorem cnt_59 : 2000 < cntN 3 59 := by decide +kernel
theorem one_59 : lookR [oneK] 60 1 [] = [[59]] := by
  have em := one_most (n := 1) (cells := 60) (r := []) (by decide) (fun c h => by simp at h) (by decide) (by decide)
  rw [show List.replicate 1 oneK = [oneK] from rfl] at em
  have em : mostAt [oneK] 60 [] = 59 := em
  rw [look_last em]
  exact one_leaf (n := 1) (r := [59]) rfl (fun c h => by rw [List.mem_singleton.mp h]; decide) (by decide) (by decide)
end K27

set_option Elab.async false
set_option linter.all false
set_option maxRecDepth 100000
set_option maxHeartbeats 1000000
/-! KU: the hand of numbers: _law_draw, _law_kind, _law_hand. -/
namespace K27
open PySem PySem.Spec PyProof.Rows L2
open Evl (Ex)
theorem seq_gen {a b : TS} {D : Ends} {σ : L2.St} {H : Hp} (Pv : L2.St → Hp → Prop) (hb : ∀ σ H, Pv σ H → b D σ H) (ha : ∀ B : L2.St → Hp → Prop, (∀ σ H, Pv σ H → B σ H) → a { D with nx := B } σ H) : tSeq a b D σ H := ha _ hb
def handO (c : Addr) (i x2 x3 x4 : Int) : HO := .lst [.ref c, .int i, .int x2, .int x3, .int x4]
structure HandV (H : Hp) (h c : Addr) (cs : List Int) (i x2 x3 x4 : Int) : Prop where
  hd : H h = some (handO c i x2 x3 x4)
  cl : H c = some (.lst (cs.map V.int))
  nn : ∀ z ∈ cs, 0 ≤ z
  i0 : 0 ≤ i
  i1 : i ≤ cs.length
  x0 : 0 ≤ x2
def HandC (H : Hp) (h c : Addr) : Prop := ∃ (cs : List Int) (i x2 x3 x4 : Int), HandV H h c cs i x2 x3 x4
def HandAt (H : Hp) (h : Addr) : Prop := ∃ (c : Addr), HandC H h c
theorem HandV.ne {H : Hp} {h c : Addr} {cs : List Int} {i x2 x3 x4 : Int} (v : HandV H h c cs i x2 x3 x4) : c ≠ h := by
  refine ne_of v.cl v.hd fun z => ?_
  have e := HO.lst.inj z
  cases cs with
  | nil => cases e
  | cons a l =>
    have := (List.cons.inj e).1
    cases this
theorem HandV.put {H : Hp} {h c : Addr} {cs : List Int} {i x2 x3 x4 : Int} (v : HandV H h c cs i x2 x3 x4) (i' x2' x3' x4' : Int) (h0 : 0 ≤ i') (h1 : i' ≤ cs.length) (h2 : 0 ≤ x2') : HandV (upd H h (handO c i' x2' x3' x4')) h c cs i' x2' x3' x4' :=
  ⟨upd_same, by rw [upd_ne v.ne]; exact v.cl, v.nn, h0, h1, h2⟩
theorem ExB.set {H : Hp} {h : Addr} {o : HO} : ExB (· = h) H (upd H h o) := fun a u n ha => by
  rw [upd_ne n]
  exact ha
theorem HandV.up {H H' : Hp} {h c : Addr} {cs : List Int} {i x2 x3 x4 : Int} (e : Ex H H') (v : HandV H h c cs i x2 x3 x4) : HandV H' h c cs i x2 x3 x4 := ⟨e _ _ v.hd, e _ _ v.cl, v.nn, v.i0, v.i1, v.x0⟩
theorem HandC.up {H H' : Hp} {h c : Addr} (e : Ex H H') : HandC H h c → HandC H' h c := fun ⟨cs, i, x2, x3, x4, v⟩ => ⟨cs, i, x2, x3, x4, v.up e⟩
theorem HandAt.up {H H' : Hp} {h : Addr} (e : Ex H H') : HandAt H h → HandAt H' h := fun ⟨c, cs, i, x2, x3, x4, v⟩ => ⟨c, cs, i, x2, x3, x4, v.up e⟩
theorem HandAt.lst {H : Hp} {h : Addr} (v : HandAt H h) : ∃ xs, H h = some (.lst xs) := let ⟨_, _, _, _, _, _, v⟩ := v; ⟨_, v.hd⟩
/-- tuples stay where the hand alone changes -/
theorem tups_hand {H H' : Hp} {h : Addr} (v : HandAt H h) (e : ExB (· = h) H H') : Tups H H' := fun p o k hp => e p o (fun z => by
  subst z
  obtain ⟨xs, hx⟩ := v.lst
  have eo := Option.some.inj (hp.symm.trans hx)
  rcases k with ⟨_, k⟩ | ⟨_, _, k⟩ <;> (rw [eo] at k; cases k)) hp
section
variable {P : Program} {w : World} {K : PySem.W.Frag} {mg : Str → Option Value} {base : Heap}
abbrev s_l_draw : Stmt := topS 33
theorem sc_l_draw : FnScope ["_law_hand_here", "_law_many", "_law_cell", "_law_digit", "_law_number"] ["_law_hand_here", "_law_many"] (defScope s_l_draw) := ⟨rfl, rfl, rfl, by decide +kernel, rfl, by decide +kernel, by decide +kernel⟩
/-- the numbers' list stays the same one -/
def sp_l_draw2 : Sp := fun vs H Q _ => ∃ h c many, vs = [.ref h, .int many] ∧ HandC H h c ∧ 1 ≤ many ∧ many < 2 ^ 110 ∧ ∀ H' r, ExB (· = h) H H' → HandC H' h c → 0 ≤ r → r < many → Q (.int r) H'
def sp_l_draw : Sp := fun vs H Q _ => ∃ h many, vs = [.ref h, .int many] ∧ HandAt H h ∧ 1 ≤ many ∧ many < 2 ^ 110 ∧ ∀ H' r, ExB (· = h) H H' → HandAt H' h → 0 ≤ r → r < many → Q (.int r) H'
theorem Cal.imp {CX : CXT} {k : Nat} {x : Str} {ps : List Str} {sp sp' : Sp} (C : Cal P w K mg base CX k x ps sp) (h : ∀ vs H Q E, sp' vs H Q E → sp vs H Q E) : Cal P w K mg base CX k x ps sp' :=
  let ⟨f, fd, F, g, kp, b⟩ := C.ex
  ⟨f, fd, F.imp h, g, kp, b⟩
theorem ok_l_draw2 (T : Txt K mg) (o : Own K mg "_law_draw" s_l_draw ["_law_hand_here", "_law_many"]) : Cal P w K mg base CX0 1 "_law_draw" ["_law_hand_here", "_law_many"] sp_l_draw2 := o.cal fun f fd F => by
  refine F.ok sc_l_draw (fun vs H Q E h => ?_) (fun cdv A outer s H vs Q E hr h => ?_)
  · obtain ⟨h, c, many, rfl, _⟩ := h
    rfl
  · obtain ⟨h, c, many, rfl, ⟨cs, i, x2, x3, x4, v⟩, m1, m2, q⟩ := h
    refine ⟨_, (pss_cons (ps_if (PW.pt (pw_and (pt_cmpR op_eq (pe_ix (r := rIxQ K) ix_q (pv 0) pe_int (fun _ _ => rfl)) pe_int (nomark _)) (pw_and1 (pt_cmpR op_lt (pe_ix (r := rIxQ K) ix_q (pv 0) pe_int (fun _ _ => rfl)) (pe_callB (r := Evl.rLenS K) call_len_seq (by rfl) T.b_len (by decide +kernel) (pa_cons (pe_ix (r := rIxQ K) ix_q (pv 0) pe_int (fun _ _ => rfl)) pa_nil)) (nomark _)))))
        (pss_cons (ps_set (i := 2) sc_l_draw.nd rfl (Or.inl rfl) (pe_ix (r := rIxQ K) ix_q (pe_ix (r := rIxQ K) ix_q (pv 0) pe_int (fun _ _ => rfl)) (pe_ix (r := rIxQ K) ix_q (pv 0) pe_int (fun _ _ => rfl)) (fun _ _ => rfl)))
        (pss_cons (ps_asg (pe_op op_add (pe_ix (r := rIxQ K) ix_q (pv 0) pe_int (fun _ _ => rfl)) pe_int) (pg_sub (pv 0) pe_int set_list))
        (pss_cons (ps_asg (pe_op op_mod (pe_callTy call_int1 (by rfl) T.b_int (by decide +kernel) (pa_cons (pe_op op_add (pe_op op_add (pe_op op_mul (pe_ix (r := rIxQ K) ix_q (pv 0) pe_int (fun _ _ => rfl)) pe_int) (pv 2)) pe_int) pa_nil)) pe_int) (pg_sub (pv 0) pe_int set_list))
        (pss_one (ps_if (pt_cmpR op_ge (pv 2) (pe_op op_pow pe_int pe_int) (nomark _))
          (pss_one (ps_asg (pv 2) (pg_sub (pv 0) pe_int set_list))) pss_nil))))) pss_nil)
      (pss_cons (ps_if (pt_cmpR op_gt (pe_ix (r := rIxQ K) ix_q (pv 0) pe_int (fun _ _ => rfl)) pe_int (nomark _))
        (pss_cons (ps_set (i := 3) sc_l_draw.nd rfl (Or.inl rfl) (pe_op op_mod (pe_callTy call_int1 (by rfl) T.b_int (by decide +kernel) (pa_cons (pe_ix (r := rIxQ K) ix_q (pv 0) pe_int (fun _ _ => rfl)) pa_nil)) (pv 1)))
        (pss_cons (ps_asg (pe_op op_fdivW (pe_ix (r := rIxQ K) ix_q (pv 0) pe_int (fun _ _ => rfl)) (pv 1)) (pg_sub (pv 0) pe_int set_list))
        (pss_one (ps_ret (pv 3))))) pss_nil)
      (pss_cons (ps_asg (pe_op op_add (pe_ix (r := rIxQ K) ix_q (pv 0) pe_int (fun _ _ => rfl)) pe_int) (pg_sub (pv 0) pe_int set_list))
      (pss_cons (ps_set (i := 4) sc_l_draw.nd rfl (Or.inl rfl) (pe_op op_mod (pe_callTy call_int1 (by rfl) T.b_int (by decide +kernel) (pa_cons (pe_op op_mul (pe_callTy call_int1 (by rfl) T.b_int (by decide +kernel) (pa_cons (pe_op op_add (pe_ix (r := rIxQ K) ix_q (pv 0) pe_int (fun _ _ => rfl)) (pe_op op_mul pe_int (pe_ix (r := rIxQ K) ix_q (pv 0) pe_int (fun _ _ => rfl)))) pa_nil)) pe_int) pa_nil)) pe_int))
      (pss_cons (ps_set (i := 4) sc_l_draw.nd rfl (Or.inl rfl) (pe_op op_mod (pe_callTy call_int1 (by rfl) T.b_int (by decide +kernel) (pa_cons (pe_op op_mul (pv 4) (pe_op op_add (pe_op op_fdiv (pv 4) pe_int) pe_int)) pa_nil)) pe_int))
      (pss_cons (ps_set (i := 4) sc_l_draw.nd rfl (Or.inl rfl) (pe_op op_mod (pe_callTy call_int1 (by rfl) T.b_int (by decide +kernel) (pa_cons (pe_op op_mul (pv 4) (pe_op op_add (pe_op op_fdiv (pv 4) pe_int) pe_int)) pa_nil)) pe_int))
      (pss_one (ps_ret (pe_op op_mod (pe_callTy call_int1 (by rfl) T.b_int (by decide +kernel) (pa_cons (pe_op op_fdiv (pv 4) pe_int) pa_nil)) (pv 1)))))))))), ?_⟩
    refine seq_gen (fun σ H1 => ∃ y2 i x2 x3 x4, σ = [some (.ref h), some (.int many), y2, none, none] ∧ ExB (· = h) H H1 ∧ HandV H1 h c cs i x2 x3 x4) (fun σ H1 ⟨y2, i, x2, x3, x4, es, e, v⟩ => ?_) fun B hB => ?_
    · subst es
      refine ⟨_, rfl, true, h, _, _, _, rfl, rfl, SqL.of v.hd, atI_nat (j := 2) rfl, _, _, rfl, rfl, _, rfl, ?_⟩
      by_cases hx : 0 < x2
      · rw [decide_eq_true hx]
        refine iteT ?_
        refine ⟨_, rfl, true, h, _, _, _, rfl, rfl, SqL.of v.hd, atI_nat (j := 2) rfl, .inl ⟨_, rfl, _, rfl, _, _, rfl, rfl, show 0 < many by omega, ?_⟩⟩
        refine ⟨_, rfl, true, h, _, _, _, rfl, rfl, SqL.of v.hd, atI_nat (j := 2) rfl, _, rfl, _, _, rfl, rfl, wide_div (b := 110) (by omega) (by omega) (by decide) (by decide), ?_⟩
        refine ⟨_, rfl, h, _, _, _, rfl, rfl, v.hd, rfl, ?_⟩
        have v2 := v.put i (x2 / many) x3 x4 v.i0 v.i1 (Int.ediv_nonneg v.x0 (by omega))
        exact ⟨_, rfl, q _ _ (e.trans ExB.set) ⟨_, _, _, _, _, v2⟩ (Int.emod_nonneg _ (by omega)) (Int.emod_lt_of_pos _ (by omega))⟩
      · rw [decide_eq_false hx]
        refine iteF ?_
        refine ⟨_, rfl, true, h, _, _, _, rfl, rfl, SqL.of v.hd, atI_nat (j := 4) rfl, _, _, rfl, rfl, _, rfl, h, _, _, _, rfl, rfl, v.hd, rfl, ?_⟩
        have v2 := v.put i x2 x3 (x4 + 1) v.i0 v.i1 v.x0
        have e2 := e.trans (ExB.set (H := H1) (h := h) (o := handO c i x2 x3 (x4 + 1)))
        refine ⟨_, rfl, true, h, _, _, _, rfl, rfl, SqL.of v2.hd, atI_nat (j := 3) rfl, _, rfl, true, h, _, _, _, rfl, rfl, SqL.of v2.hd, atI_nat (j := 4) rfl, _, _, rfl, rfl, .inl ⟨by decide, by decide⟩, _, _, rfl, rfl, .inl ⟨_, rfl, _, _, rfl, rfl, .inr ⟨by decide, by decide⟩, .inl ⟨_, rfl, _, _, rfl, rfl, show (0 : Int) < 2147483647 by decide, ?_⟩⟩⟩
        generalize hn1 : ((x3 + 7919 * (x4 + 1)) * 48271) % 2147483647 = n1
        have b1 : 0 ≤ n1 ∧ n1 < 2147483647 := by
          rw [← hn1]
          exact ⟨Int.emod_nonneg _ (by decide), Int.emod_lt_of_pos _ (by decide)⟩
        refine ⟨_, rfl, _, rfl, _, _, rfl, rfl, ⟨by decide, by decide⟩, _, _, rfl, rfl, _, _, rfl, rfl, .inl ⟨by omega, by omega⟩, .inl ⟨_, rfl, _, _, rfl, rfl, show (0 : Int) < 2147483647 by decide, ?_⟩⟩
        generalize hn2 : (n1 * (n1 / 1009 + 69621)) % 2147483647 = n2
        have b2 : 0 ≤ n2 ∧ n2 < 2147483647 := by
          rw [← hn2]
          exact ⟨Int.emod_nonneg _ (by decide), Int.emod_lt_of_pos _ (by decide)⟩
        refine ⟨_, rfl, _, rfl, _, _, rfl, rfl, ⟨by decide, by decide⟩, _, _, rfl, rfl, _, _, rfl, rfl, .inl ⟨by omega, by omega⟩, .inl ⟨_, rfl, _, _, rfl, rfl, show (0 : Int) < 2147483399 by decide, ?_⟩⟩
        generalize hn3 : (n2 * (n2 / 2003 + 40692)) % 2147483399 = n3
        refine ⟨_, rfl, _, _, rfl, rfl, ⟨by decide, by decide⟩, .inl ⟨_, rfl, _, rfl, _, _, rfl, rfl, show 0 < many by omega, ?_⟩⟩
        exact q _ _ e2 ⟨_, _, _, _, _, v2⟩ (Int.emod_nonneg _ (by omega)) (Int.emod_lt_of_pos _ (by omega))
    · refine ⟨_, rfl, true, h, _, _, _, rfl, rfl, SqL.of v.hd, atI_nat (j := 2) rfl, rfl, _, rfl, ?_⟩
      rw [dec_intV]
      by_cases hz : x2 = 0
      · subst hz
        refine iteT ⟨_, rfl, true, h, _, _, _, rfl, rfl, SqL.of v.hd, atI_nat (j := 1) rfl, _, rfl, true, h, _, _, _, rfl, rfl, SqL.of v.hd, atI_nat (j := 0) rfl, c, _, rfl, .inl (SqL.of v.cl), _, _, rfl, rfl, _, rfl, ?_⟩
        by_cases hi : i < ((cs.map V.int).length : Int)
        · rw [decide_eq_true hi]
          refine iteT ?_
          rw [List.length_map] at hi
          obtain ⟨n, rfl⟩ : ∃ n : Nat, i = (n : Int) := ⟨i.toNat, (Int.toNat_of_nonneg v.i0).symm⟩
          obtain ⟨z, hz⟩ : ∃ z, cs[n]? = some z := ⟨_, List.getElem?_eq_getElem (by omega)⟩
          have z0 := v.nn z (List.mem_of_getElem? hz)
          -- cell
          refine ⟨_, rfl, true, h, _, _, _, rfl, rfl, SqL.of v.hd, atI_nat (j := 0) rfl, _, rfl, true, h, _, _, _, rfl, rfl, SqL.of v.hd, atI_nat (j := 1) rfl, true, c, _, _, _, rfl, rfl, SqL.of v.cl, atI_nat (int_map_at hz), ?_⟩
          -- [1]
          refine ⟨_, rfl, true, h, _, _, _, rfl, rfl, SqL.of v.hd, atI_nat (j := 1) rfl, _, _, rfl, rfl, _, rfl, h, _, _, _, rfl, rfl, v.hd, rfl, ?_⟩
          have v2 := v.put ((n : Int) + 1) 0 x3 x4 (by omega) (by omega) (Int.le_refl _)
          have e2 : ExB (· = h) H (upd H h (handO c ((n : Int) + 1) 0 x3 x4)) := ExB.set
          -- [3]
          refine ⟨_, rfl, true, h, _, _, _, rfl, rfl, SqL.of v2.hd, atI_nat (j := 3) rfl, _, _, rfl, rfl, .inr ⟨by decide, by decide⟩, _, rfl, _, _, rfl, rfl, _, _, rfl, rfl, .inl ⟨_, rfl, _, _, rfl, rfl, show (0 : Int) < 2147483629 by decide, _, rfl, h, _, _, _, rfl, rfl, v2.hd, rfl, ?_⟩⟩
          have v3 := v2.put ((n : Int) + 1) 0 ((x3 * 69621 + z + 11) % 2147483629) x4 (by omega) (by omega) (Int.le_refl _)
          have e3 := e2.trans (ExB.set (H := upd H h (handO c ((n : Int) + 1) 0 x3 x4)) (h := h) (o := handO c ((n : Int) + 1) 0 ((x3 * 69621 + z + 11) % 2147483629) x4))
          -- the great one
          refine ⟨_, rfl, _, _, rfl, rfl, ⟨by decide, by decide, by decide⟩, _, _, rfl, rfl, _, rfl, ?_⟩
          by_cases hg : (10 : Int) ^ (18 : Int).toNat ≤ z
          · rw [decide_eq_true hg]
            refine iteT ⟨_, rfl, _, rfl, h, _, _, _, rfl, rfl, v3.hd, rfl, ?_⟩
            have v4 := v3.put ((n : Int) + 1) z ((x3 * 69621 + z + 11) % 2147483629) x4 (by omega) (by omega) z0
            exact hB _ _ ⟨_, _, _, _, _, rfl, e3.trans ExB.set, v4⟩
          · rw [decide_eq_false hg]
            exact iteF (hB _ _ ⟨_, _, _, _, _, rfl, e3, v3⟩)
        · rw [decide_eq_false hi]
          exact iteF (hB _ _ ⟨_, _, _, _, _, rfl, ExB.refl _, v⟩)
      · rw [decide_eq_false hz]
        exact iteF (hB _ _ ⟨_, _, _, _, _, rfl, ExB.refl _, v⟩)
theorem ok_l_draw (T : Txt K mg) (o : Own K mg "_law_draw" s_l_draw ["_law_hand_here", "_law_many"]) : Cal P w K mg base CX0 1 "_law_draw" ["_law_hand_here", "_law_many"] sp_l_draw :=
  (ok_l_draw2 T o).imp fun vs H Q E ⟨h, many, e, ⟨c, hc⟩, m1, m2, q⟩ => ⟨h, c, many, e, hc, m1, m2, fun H' r e h' => q H' r e ⟨c, h'⟩⟩
/-! ### a kind -/
abbrev s_l_kind : Stmt := topS 34
theorem sc_l_kind : FnScope ["_law_hand_here", "_law_most", "_law_first", "_law_behind", "_law_least"] ["_law_hand_here", "_law_most"] (defScope s_l_kind) := ⟨rfl, rfl, rfl, by decide +kernel, rfl, by decide +kernel, by decide +kernel⟩
def sp_l_kind2 : Sp := fun vs H Q _ => ∃ h c most, vs = [.ref h, .int most] ∧ HandC H h c ∧ 1 ≤ most ∧ most ≤ 400000000000000000000000000000 ∧ ∀ H' v k, ExB (· = h) H H' → HandC H' h c → KindAt H' v k → GoodK k → k.b ≤ most → k.f ≤ most → Q v H'
theorem ok_l_kind2 (T : Txt K mg) (c_l_draw : Cal P w K mg base CX0 1 "_law_draw" ["_law_hand_here", "_law_many"] sp_l_draw2) (o : Own K mg "_law_kind" s_l_kind ["_law_hand_here", "_law_most"]) : Cal P w K mg base CX0 2 "_law_kind" ["_law_hand_here", "_law_most"] sp_l_kind2 := o.cal fun f fd F => by
  refine F.ok sc_l_kind (fun vs H Q E h => ?_) (fun cdv A outer s H vs Q E hr h => ?_)
  · obtain ⟨h, c, most, rfl, _⟩ := h
    rfl
  · obtain ⟨h, c, most, rfl, hh, m1, m2, q⟩ := h
    have hr_l_draw : Room 1 _ := hr
    refine ⟨_, (pss_cons (ps_par (i := 2) (j := 3) rfl sc_l_kind.nd rfl rfl (by decide) rfl rfl (pa_cons (pe_op op_add pe_int (pe_cal c_l_draw hr_l_draw (pa_cons (pv 0) (pa_cons (pv 1) pa_nil)))) (pa_cons (pe_op op_add pe_int (pe_cal c_l_draw hr_l_draw (pa_cons (pv 0) (pa_cons (pv 1) pa_nil)))) pa_nil)) rfl)
      (pss_cons (ps_set (i := 4) sc_l_kind.nd rfl (Or.inl rfl) (pe_op op_add (pe_callB (call_max2 rfl) (by rfl) T.b_max (by decide +kernel) (pa_cons (pv 2) (pa_cons (pv 3) pa_nil))) pe_int))
      (pss_one (ps_ret (pe_tup (pa_cons (pe_op op_add (pv 4) (pe_cal c_l_draw hr_l_draw (pa_cons (pv 0) (pa_cons (pe_op op_add (pe_op op_sub (pe_op op_add (pv 2) (pv 3)) (pv 4)) pe_int) pa_nil)))) (pa_cons (pv 3) (pa_cons (pv 2) pa_nil)))))))), ?_⟩
    refine ⟨_, rfl, _, rfl, h, c, most, rfl, hh, m1, by omega, fun H1 f e1 h1 f0 f1 => ?_⟩
    refine ⟨_, _, rfl, rfl, _, rfl, _, rfl, h, c, most, rfl, h1, m1, by omega, fun H2 b e2 h2 b0 b1 => ?_⟩
    refine ⟨_, _, rfl, rfl, ?_⟩
    refine ⟨_, _, rfl, ?_⟩
    refine ⟨_, rfl, _, rfl, _, _, rfl, _, _, rfl, rfl, ?_⟩
    have hm : ∀ F B : Int, 1 ≤ F → 1 ≤ B → (if B > F then B else F) + 1 ≤ F + B ∧ F < (if B > F then B else F) + 1 ∧ B < (if B > F then B else F) + 1 := fun F B h1 h2 => by split <;> omega
    obtain ⟨t1, t2, t3⟩ := hm (1 + f) (1 + b) (by omega) (by omega)
    refine ⟨_, rfl, _, rfl, _, rfl, _, rfl, _, _, rfl, rfl, _, rfl, _, _, rfl, rfl, _, _, rfl, rfl, h, c, _, rfl, h2, by omega, by omega, fun H3 r e3 h3 r0 r1 => ?_⟩
    refine ⟨_, _, rfl, rfl, _, rfl, _, rfl, by show 3 ≤ sizeLine; decide, fun p hp => ?_⟩
    exact q _ _ ⟨(if 1 + b > 1 + f then 1 + b else 1 + f) + 1 + r, 1 + b, 1 + f⟩ (((e1.trans e2).trans e3).trans (ExB.of (Ex.new hp))) (h3.up (Ex.new hp)) ⟨p, rfl, upd_same⟩ ⟨by show 1 ≤ (if 1 + b > 1 + f then 1 + b else 1 + f) + 1 + r; omega, by show 1 ≤ 1 + b; omega, by show 1 ≤ 1 + f; omega, by show (if 1 + b > 1 + f then 1 + b else 1 + f) + 1 + r ≤ _; omega, by show 1 + b ≤ _; omega, by show 1 + f ≤ _; omega, by show 1 + b < (if 1 + b > 1 + f then 1 + b else 1 + f) + 1 + r; omega, by show 1 + f < (if 1 + b > 1 + f then 1 + b else 1 + f) + 1 + r; omega, by show (if 1 + b > 1 + f then 1 + b else 1 + f) + 1 + r ≤ 1 + f + (1 + b); omega⟩ (by show 1 + b ≤ most; omega) (by show 1 + f ≤ most; omega)
/-! ### the hand of a script -/
abbrev s_l_hand : Stmt := topS 32
theorem sc_l_hand : FnScope ["_law_script", "_law_cells", "_law_cell"] ["_law_script"] (defScope s_l_hand) := ⟨rfl, rfl, rfl, by decide +kernel, rfl, by decide +kernel, by decide +kernel⟩
def sp_l_hand : Sp := fun vs H Q _ => ∃ (a : Addr) (ns : List Int), vs = [.ref a] ∧ SqL K H a (ns.map V.int) ∧ ∀ H' h, Ex H H' → HandAt H' h → H h = none → Q (.ref h) H'
theorem ok_l_hand (T : Txt K mg) (o : Own K mg "_law_hand" s_l_hand ["_law_script"]) : Cal P w K mg base CX0 1 "_law_hand" ["_law_script"] (sp_l_hand (K := K)) := o.cal fun f fd F => by
  refine F.ok sc_l_hand (fun vs H Q E h => ?_) (fun cdv A outer s H vs Q E hr h => ?_)
  · obtain ⟨a, ns, rfl, _⟩ := h
    rfl
  · obtain ⟨a, ns, rfl, ha, q⟩ := h
    refine ⟨_, (pss_cons (ps_setLc (i := 1) (own := [("_law_cell", 2)]) (g := gName 2) (tt := tYes) rfl sc_l_hand.nd rfl rfl (sw_true rfl rfl rfl (by decide +kernel)) (pi_seq (pe_slice (r := rSlL K) sl_list (pv 0) po_none (po_some pe_int))) (blkOk_by (N := ["_law_script", "_law_cells", "_law_cell"]) (sc := defScope s_l_hand) (by decide +kernel)) (fun _ _ _ _ _ => (pg_name (i := 2) sc_l_hand.nd rfl (Or.inl rfl))) (fun _ _ _ _ _ => pts_nil) (fun _ _ _ _ _ => (pe_callB call_abs (by rfl) T.b_abs (by decide +kernel) (pa_cons (pe_callTy call_int1 (by rfl) T.b_int (by decide +kernel) (pa_cons (pv 2) pa_nil)) pa_nil))))
      (pss_one (ps_ret (pe_lst (pa_cons (pv 1) (pa_cons pe_int (pa_cons pe_int (pa_cons (pe_op op_add pe_int (pe_callB (r := Evl.rLenS K) call_len_seq (by rfl) T.b_len (by decide +kernel) (pa_cons (pv 1) pa_nil))) (pa_cons pe_int pa_nil))))))))), ?_⟩
    refine ⟨_, rfl, _, rfl, a, _, rfl, ha, fun p hp => ?_⟩
    rw [show cutV (ns.map V.int) none (some (63 : Int)) = (ns.take 63).map V.int from by rw [List.map_take]; exact cut_to _ 63]
    have e0 : Ex H (upd H p (.lst ((ns.take 63).map V.int))) := Ex.new hp
    refine ⟨true, p, _, rfl, SqL.of upd_same, fun D hD => lc_pure (walk_seq (k := true) (a := p) (xs := (ns.take 63).map V.int)) hD tm_int ((ns.take 63).map fun z => if z < 0 then -z else z) (by rw [List.length_map, List.length_map]) (fun H' e => SqL.of (e _ _ upd_same)) (by rw [List.length_map, List.length_take]; omega)
      (fun i m x H2 H3 K1 hm e2 y k1 => ?_) mono_name fun H1 xs1 e1 hx1 hp1 => ?_⟩
    · obtain ⟨eh, ex⟩ := y
      subst eh
      obtain ⟨z, hz, rfl⟩ := map_got ex
      rw [List.getElem?_map, hz] at hm
      obtain rfl := Option.some.inj hm
      exact ⟨rfl, _, rfl, .inl ⟨_, rfl, _, rfl, k1 _ _ (Ex.refl _) rfl⟩⟩
    · rw [pair_int hp1] at hx1
      refine ⟨_, rfl, _, rfl, D, _, rfl, .inl (SqL.of hx1), _, _, rfl, rfl, by show 5 ≤ sizeLine; decide, fun h hh => ?_⟩
      have e2 := Ex.new (o := handO D 0 0 (1 + (((ns.take 63).map fun z => if z < 0 then -z else z).map V.int).length) 0) hh
      refine q _ h ((e0.trans e1).trans e2) ⟨D, (ns.take 63).map fun z => if z < 0 then -z else z, 0, 0, _, 0, upd_same, e2 _ _ hx1, fun z hz => ?_, Int.le_refl _, Int.natCast_nonneg _, Int.le_refl _⟩ ?_
      · obtain ⟨y, _, rfl⟩ := List.mem_map.mp hz
        split <;> omega
      · cases hn : H h with
        | none => rfl
        | some o =>
          have := (e0.trans e1) h o hn
          rw [hh] at this
          cases this
end
end K27

set_option Elab.async false
set_option linter.all false
set_option maxRecDepth 100000
set_option maxHeartbeats 1000000
/-! KV: _law_bent. -/
namespace K27
open PySem PySem.Spec PyProof.Rows L2
open Evl (Ex)
theorem catA_go {K : PySem.W.Frag} {H : Hp} {a b : Addr} {xs ys : List V} {Q : VK} (ha : H a = some (.tup xs)) (hb : H b = some (.tup ys)) (hz : xs.length + ys.length ≤ sizeLine) (q : ∀ H' p, Ex H H' → H' p = some (.tup (xs ++ ys)) → Q (.ref p) H') : rCatA K (.ref a) (.ref b) H Q := by
  refine ⟨a, b, xs, ys, rfl, rfl, SqT.of ha, SqT.of hb, hz, fun e => q _ _ (Ex.refl _) ?_, fun _ e => q _ _ (Ex.refl _) ?_, fun _ _ p hp => q _ _ (Ex.new hp) upd_same⟩
  · rw [e]
    exact hb
  · rw [e, List.append_nil]
    exact ha
theorem slA_go {K : PySem.W.Frag} {H : Hp} {a : Addr} {xs : List V} {lo hi : Option Int} {Q : VK} (ha : H a = some (.tup xs)) (q : ∀ H' p, Ex H H' → H' p = some (.tup (cutV xs lo hi)) → Q (.ref p) H') : rSlA K (.ref a) lo hi H Q := by
  refine ⟨a, xs, rfl, SqT.of ha, fun e => q _ _ (Ex.refl _) ?_, fun _ p hp => q _ _ (Ex.new hp) upd_same⟩
  unfold cutV
  rw [e.1, e.2, List.drop_zero, Nat.sub_zero, List.take_of_length_le (Nat.le_refl _)]
  exact ha
theorem ExB.get {H H' : Hp} {h p : Addr} {o : HO} (e : ExB (· = h) H H') (n : p ≠ h) (hp : H p = some o) : H' p = some o := e p o n hp
theorem HandAt.ne {H : Hp} {h p : Addr} (v : HandAt H h) (hp : H p = none) : p ≠ h := fun z => by
  subst z
  obtain ⟨xs, hx⟩ := v.lst
  rw [hp] at hx
  cases hx
section
variable {P : Program} {w : World} {K : PySem.W.Frag} {mg : Str → Option Value} {base : Heap}
abbrev tMore (K : PySem.W.Frag) (i : Nat) : TE := tOp (rCatA K) (tOp (rCatA K) (tSl (rSlA K) (tVar i) tNoPart (tPart (tVar 5))) (tTup (tCons (tOp (rI0 fun i j => .int (i + j)) (tOp (rIxQ K) (tVar i) (tVar 5))
  (tOp (rIxQ K) (tLst (tCons (tC (.int 1)) (tCons (tUn (rU fun i => .int (-i)) (tC (.int 1))) tNil))) (tCall sp_l_draw [] E0 (tCons (tVar 0) (tCons (tC (.int 2)) tNil))))) tNil)))
  (tSl (rSlA K) (tVar i) (tPart (tOp (rI0 fun i j => .int (i + j)) (tVar 5) (tC (.int 1)))) tNoPart)
theorem more_go {σ : L2.St} {H : Hp} {h i : Nat} {pq : Addr} {ns : List Int} {m : Nat} {Q : VK} (s0 : σ[0]? = some (some (.ref h))) (si : σ[i]? = some (some (.ref pq))) (s5 : σ[5]? = some (some (.int (m : Int)))) (hh : HandAt H h) (hn : H pq = some (.tup (ns.map V.int))) (hm : m < ns.length) (hl : ns.length ≤ 12)
    (q : ∀ H' p (ms : List Int), ExB (· = h) H H' → HandAt H' h → H' p = some (.tup (ms.map V.int)) → ms.length = ns.length → Q (.ref p) H') : tMore K i σ H Q := by
  refine ⟨_, si, _, s5, _, rfl, slA_go hn fun H2 pm e2 hpm => ?_⟩
  rw [cut_to, ← List.map_take] at hpm
  obtain ⟨c, hc⟩ : ∃ c, ns[m]? = some c := ⟨_, List.getElem?_eq_getElem hm⟩
  refine ⟨_, si, _, s5, false, pq, _, _, _, rfl, rfl, SqT.of (e2 _ _ hn), atI_nat (int_map_at hc), _, rfl, by show 2 ≤ sizeLine; decide, fun pl hpl => ?_⟩
  have e3 : Ex H2 (upd H2 pl (.lst [V.int 1, V.int (-1)])) := Ex.new hpl
  have hh3 := hh.up (e2.trans e3)
  have npl := (hh.up e2).ne hpl
  refine ⟨_, s0, h, 2, rfl, hh3, by decide, by decide, fun H4 r e4 hh4 r0 r1 => ?_⟩
  have e34 := (ExB.of (S := (· = h)) (e2.trans e3)).trans e4
  have tup4 : ∀ {a : Addr} {xs : List V}, H2 a = some (.tup xs) → H4 a = some (.tup xs) := fun z => (tups_hand hh3 e4).tup (e3 _ _ z)
  have hl4 : H4 pl = some (.lst [V.int 1, V.int (-1)]) := e4.get npl upd_same
  obtain ⟨d, hd⟩ : ∃ d : Int, atI [V.int 1, V.int (-1)] r = some (.int d) := by
    have : r = 0 ∨ r = 1 := by omega
    rcases this with rfl | rfl
    · exact ⟨1, rfl⟩
    · exact ⟨-1, rfl⟩
  refine ⟨true, pl, _, _, _, rfl, rfl, SqL.of hl4, hd, _, _, rfl, rfl, by show 1 ≤ sizeLine; decide, fun p5 hp5 => ?_⟩
  have e5 := Ex.new (o := .tup [V.int (c + d)]) hp5
  have lt : ((ns.take m).map V.int).length = m := by
    rw [List.length_map, List.length_take]
    omega
  refine catA_go (e5 _ _ (tup4 hpm)) upd_same (by rw [lt]; exact Nat.le_trans (show m + 1 ≤ 13 by omega) (by decide)) fun H6 p6 e6 hp6 => ?_
  refine ⟨_, si, _, s5, _, _, rfl, rfl, _, rfl, ?_⟩
  show rSlA K (.ref pq) (some ((m : Int) + 1)) none H6 fun y H2 => rCatA K (.ref p6) y H2 Q
  refine slA_go (e6 _ _ (e5 _ _ (tup4 (e2 _ _ hn)))) fun H7 p7 e7 hp7 => ?_
  rw [show cutV (ns.map V.int) (some ((m : Int) + 1)) none = (ns.drop (m + 1)).map V.int from by
    rw [List.map_drop]
    exact cut_from (n := m + 1) (by rw [List.length_map]; omega)] at hp7
  refine catA_go (e7 _ _ hp6) hp7 ?_ fun H8 p8 e8 hp8 => ?_
  · rw [List.length_append, lt, List.length_map, List.length_drop]
    exact Nat.le_trans (show m + 1 + (ns.length - (m + 1)) ≤ 13 by omega) (by decide)
  · refine q H8 p8 (ns.take m ++ [c + d] ++ ns.drop (m + 1)) (e34.trans (ExB.of (((e5.trans e6).trans e7).trans e8))) (hh4.up (((e5.trans e6).trans e7).trans e8)) ?_ ?_
    · rw [hp8, List.map_append, List.map_append]
      rfl
    · rw [List.length_append, List.length_append, List.length_take, List.length_drop]
      show min m ns.length + 1 + _ = _
      omega
abbrev s_l_bent : Stmt := topS 39
theorem sc_l_bent : FnScope ["_law_hand_here", "_law_thing", "_law_kind_here", "_law_elders", "_law_youngers", "_law_at", "_law_more", "_law_less", "_law_menu"] ["_law_hand_here", "_law_thing"] (defScope s_l_bent) := ⟨rfl, rfl, rfl, by decide +kernel, rfl, by decide +kernel, by decide +kernel⟩
def sp_l_bent : Sp := fun vs H Q _ => ∃ h p pe py n es ys, vs = [.ref h, .ref p] ∧ HandAt H h ∧ H p = some (.tup [.int n, .ref pe, .ref py]) ∧ IntsAt H false pe es ∧ IntsAt H false py ys ∧ 1 ≤ es.length ∧ es.length ≤ 12 ∧ ys.length = es.length ∧
  ∀ H' v t, ExB (· = h) H H' → HandAt H' h → ThingAt H' v t → Q v H'
theorem ok_l_bent (T : Txt K mg) (c_l_draw : Cal P w K mg base CX0 1 "_law_draw" ["_law_hand_here", "_law_many"] sp_l_draw) (o : Own K mg "_law_bent" s_l_bent ["_law_hand_here", "_law_thing"]) : Cal P w K mg base CX0 2 "_law_bent" ["_law_hand_here", "_law_thing"] sp_l_bent := o.cal fun f fd F => by
  refine F.ok sc_l_bent (fun vs H Q E h => ?_) (fun cdv A outer s H vs Q E hr h => ?_)
  · obtain ⟨h, p, pe, py, n, es, ys, rfl, _⟩ := h
    rfl
  · obtain ⟨h, p, pe, py, n, es, ys, rfl, hh, hp, he, hy, l1, l2, l3, q⟩ := h
    have hr_l_draw : Room 1 _ := hr
    refine ⟨_, (pss_cons (ps_if (pt_cmpR op_isN (pv 1) pe_non (nomark _))
        (pss_one (ps_ret (pe_ix (r := rIxQ K) ix_q (pe_lst (pa_cons pe_non (pa_cons (pe_tup pa_nil) (pa_cons (pe_tup (pa_cons pe_int (pa_cons (pe_tup (pa_cons pe_int pa_nil)) (pa_cons (pe_tup (pa_cons pe_int pa_nil)) pa_nil)))) (pa_cons pe_int pa_nil))))) (pe_cal c_l_draw hr_l_draw (pa_cons (pv 0) (pa_cons pe_int pa_nil))) (fun _ _ => rfl)))) pss_nil)
      (pss_cons (ps_asg (pv 1) (pg_tup rfl (pgs_cons (pg_name (i := 2) sc_l_bent.nd rfl (Or.inl rfl)) (pgs_cons (pg_name (i := 3) sc_l_bent.nd rfl (Or.inl rfl)) (pgs_cons (pg_name (i := 4) sc_l_bent.nd rfl (Or.inl rfl)) pgs_nil)))))
      (pss_cons (ps_set (i := 5) sc_l_bent.nd rfl (Or.inl rfl) (pe_cal c_l_draw hr_l_draw (pa_cons (pv 0) (pa_cons (pe_callB (r := Evl.rLenS K) call_len_seq (by rfl) T.b_len (by decide +kernel) (pa_cons (pv 3) pa_nil)) pa_nil))))
      (pss_cons (ps_set (i := 6) sc_l_bent.nd rfl (Or.inl rfl) (pe_op (r := rCatA K) op_catA (pe_op (r := rCatA K) op_catA (pe_slice (r := rSlA K) sl_tupA (pv 3) po_none (po_some (pv 5))) (pe_tup (pa_cons (pe_op op_add (pe_ix (r := rIxQ K) ix_q (pv 3) (pv 5) (fun _ _ => rfl)) (pe_ix (r := rIxQ K) ix_q (pe_lst (pa_cons pe_int (pa_cons (pe_un un_neg pe_int) pa_nil))) (pe_cal c_l_draw hr_l_draw (pa_cons (pv 0) (pa_cons pe_int pa_nil))) (fun _ _ => rfl))) pa_nil))) (pe_slice (r := rSlA K) sl_tupA (pv 3) (po_some (pe_op op_add (pv 5) pe_int)) po_none)))
      (pss_cons (ps_set (i := 7) sc_l_bent.nd rfl (Or.inl rfl) (pe_op (r := rCatA K) op_catA (pe_op (r := rCatA K) op_catA (pe_slice (r := rSlA K) sl_tupA (pv 4) po_none (po_some (pv 5))) (pe_tup (pa_cons (pe_op op_add (pe_ix (r := rIxQ K) ix_q (pv 4) (pv 5) (fun _ _ => rfl)) (pe_ix (r := rIxQ K) ix_q (pe_lst (pa_cons pe_int (pa_cons (pe_un un_neg pe_int) pa_nil))) (pe_cal c_l_draw hr_l_draw (pa_cons (pv 0) (pa_cons pe_int pa_nil))) (fun _ _ => rfl))) pa_nil))) (pe_slice (r := rSlA K) sl_tupA (pv 4) (po_some (pe_op op_add (pv 5) pe_int)) po_none)))
      (pss_cons (ps_set (i := 8) sc_l_bent.nd rfl (Or.inl rfl) (pe_lst (pa_cons (pe_tup (pa_cons (pv 2) (pa_cons (pv 6) (pa_cons (pv 7) pa_nil)))) (pa_cons (pe_tup (pa_cons (pv 2) (pa_cons (pv 4) (pa_cons (pv 3) pa_nil)))) (pa_cons (pe_tup (pa_cons (pv 2) (pa_cons (pv 6) (pa_cons (pv 4) pa_nil)))) (pa_cons (pe_tup (pa_cons (pv 5) (pa_cons (pv 3) (pa_cons (pv 4) pa_nil)))) (pa_cons (pe_slice (r := rSlA K) sl_tupA (pv 1) po_none (po_some pe_int)) pa_nil)))))))
      (pss_cons (ps_set (i := 8) sc_l_bent.nd rfl (Or.inl rfl) (pe_op op_cat (pv 8) (pe_lst (pa_cons (pe_callTy (r := Evl.rListS K) call_list_of (by rfl) T.b_list (by decide +kernel) (pa_cons (pv 1) pa_nil)) (pa_cons (pe_tup (pa_cons (pv 2) (pa_cons (pe_callTy (r := Evl.rListS K) call_list_of (by rfl) T.b_list (by decide +kernel) (pa_cons (pv 3) pa_nil)) (pa_cons (pv 4) pa_nil)))) (pa_cons (pe_tup (pa_cons pe_bl (pa_cons (pv 3) (pa_cons (pv 4) pa_nil)))) (pa_cons pe_non (pa_cons (pe_tup (pa_cons (pv 2) (pa_cons (pe_tup pa_nil) (pa_cons (pe_tup pa_nil) pa_nil)))) pa_nil))))))))
      (pss_one (ps_ret (pe_ix (r := rIxQ K) ix_q (pv 8) (pe_cal c_l_draw hr_l_draw (pa_cons (pv 0) (pa_cons pe_int pa_nil))) (fun _ _ => rfl))))))))))), ?_⟩
    refine ⟨_, rfl, rfl, _, rfl, iteF ?_⟩
    refine ⟨_, rfl, p, _, rfl, SqT.of hp, rfl, _, _, rfl, _, _, rfl, _, _, rfl, rfl, ?_⟩
    refine ⟨_, rfl, _, rfl, pe, _, rfl, he.lt, h, _, rfl, hh, by rw [List.length_map]; omega, by rw [List.length_map]; omega, fun H1 at' e1 h1 a0 a1 => ?_⟩
    rw [List.length_map] at a1
    obtain ⟨m, rfl⟩ : ∃ m : Nat, at' = (m : Int) := ⟨at'.toNat, (Int.toNat_of_nonneg a0).symm⟩
    have tup1 : ∀ {H' : Hp} {a : Addr} {xs : List V}, ExB (· = h) H H' → H a = some (.tup xs) → H' a = some (.tup xs) := fun e h' => (tups_hand hh e).tup h'
    refine more_go (i := 3) (pq := pe) (ns := es) (m := m) rfl rfl rfl h1 (tup1 e1 he) (by omega) l2 fun H2 pm ms e2 h2 hm lm => ?_
    have e12 := e1.trans e2
    refine more_go (i := 4) (pq := py) (ns := ys) (m := m) rfl rfl rfl h2 (tup1 e12 hy) (by omega) (by omega) fun H3 pl ls e3 h3 hl ll => ?_
    have e13 := e12.trans e3
    have hm3 := (tups_hand h2 e3).tup hm
    have he3 := tup1 e13 he
    have hy3 := tup1 e13 hy
    have hp3 := tup1 e13 hp
    have z3 : 3 ≤ sizeLine := by decide
    -- the first five
    refine ⟨_, rfl, _, rfl, _, rfl, z3, fun p0 n0 => ?_⟩
    have f0 := Ex.new (o := .tup [V.int n, .ref pm, .ref pl]) n0
    refine ⟨_, rfl, _, rfl, _, rfl, z3, fun p1 n1 => ?_⟩
    have f1 := f0.trans (Ex.new (o := .tup [V.int n, .ref py, .ref pe]) n1)
    have g0 := Ex.new (o := .tup [V.int n, .ref py, .ref pe]) n1 p0 _ upd_same
    refine ⟨_, rfl, _, rfl, _, rfl, z3, fun p2 n2 => ?_⟩
    have b2 := Ex.new (o := .tup [V.int n, .ref pm, .ref py]) n2
    refine ⟨_, rfl, _, rfl, _, rfl, z3, fun p3 n3 => ?_⟩
    have b3 := Ex.new (o := .tup [V.int (m : Int), .ref pe, .ref py]) n3
    refine ⟨_, rfl, _, rfl, slA_go ((f1.trans (b2.trans b3)) _ _ hp3) fun H4 p4 b4 hp4 => ?_⟩
    have f4 := (f1.trans (b2.trans b3)).trans b4
    have t0 := (b2.trans (b3.trans b4)) _ _ g0
    have t1 := (b2.trans (b3.trans b4)) p1 _ upd_same
    have t2 := (b3.trans b4) p2 _ upd_same
    have t3 := b4 p3 _ upd_same
    refine ⟨by show 5 ≤ sizeLine; decide, fun M nM => ?_⟩
    have bM := Ex.new (o := .lst [V.ref p0, .ref p1, .ref p2, .ref p3, .ref p4]) nM
    have f5 := f4.trans bM
    -- the other five
    refine ⟨_, rfl, _, rfl, p, _, rfl, .inr (SqT.of (f5 _ _ hp3)), fun p5 n5 => ?_⟩
    have b5 := Ex.new (o := .lst [V.int n, .ref pe, .ref py]) n5
    refine ⟨_, rfl, _, rfl, pe, _, rfl, .inr (SqT.of ((f5.trans b5) _ _ he3)), fun q6 m6 => ?_⟩
    have c6 := Ex.new (o := .lst (es.map V.int)) m6
    refine ⟨_, rfl, z3, fun p6 n6 => ?_⟩
    have b6 := Ex.new (o := .tup [V.int n, .ref q6, .ref py]) n6
    refine ⟨_, rfl, _, rfl, z3, fun p7 n7 => ?_⟩
    have b7 := Ex.new (o := .tup [V.bl true, .ref pe, .ref py]) n7
    refine ⟨_, rfl, Nat.zero_le _, fun q8 m8 => ?_⟩
    have c8 := Ex.new (o := .tup []) m8
    refine ⟨Nat.zero_le _, fun q9 m9 => ?_⟩
    have c9 := Ex.new (o := .tup []) m9
    refine ⟨z3, fun p9 n9 => ?_⟩
    have b9 := Ex.new (o := .tup [V.int n, .ref q8, .ref q9]) n9
    refine ⟨by show 5 ≤ sizeLine; decide, fun M2 nM2 => ?_⟩
    have bM2 := Ex.new (o := .lst [V.ref p5, .ref p6, .ref p7, .non, .ref p9]) nM2
    have r9 := b9.trans bM2
    have r8 := c8.trans (c9.trans r9)
    have r6 := b6.trans (b7.trans r8)
    have r5 := b5.trans (c6.trans r6)
    have hMl := r5 M _ upd_same
    refine ⟨M, M2, _, _, rfl, rfl, hMl, upd_same, by show 10 ≤ sizeLine; decide, fun M3 nM3 => ?_⟩
    have bM3 := Ex.new (o := .lst [V.ref p0, .ref p1, .ref p2, .ref p3, .ref p4, .ref p5, .ref p6, .ref p7, .non, .ref p9]) nM3
    have F := f5.trans (r5.trans bM3)
    have hF := h3.up F
    have k0 := (bM.trans (r5.trans bM3)) _ _ t0
    have k1 := (bM.trans (r5.trans bM3)) _ _ t1
    have k2 := (bM.trans (r5.trans bM3)) _ _ t2
    have k3 := (bM.trans (r5.trans bM3)) _ _ t3
    have k4 := (bM.trans (r5.trans bM3)) _ _ hp4
    have k5 := ((c6.trans r6).trans bM3) p5 _ upd_same
    have k6q := (r6.trans bM3) q6 _ upd_same
    have k6 := ((b7.trans r8).trans bM3) p6 _ upd_same
    have k7 := (r8.trans bM3) p7 _ upd_same
    have k8 := ((c9.trans r9).trans bM3) q8 _ upd_same
    have k9q := (r9.trans bM3) q9 _ upd_same
    have k9 := (bM2.trans bM3) p9 _ upd_same
    have N5 := (h3.up f5).ne n5
    have N6 := (h3.up (f5.trans b5)).ne m6
    have NM := (h3.up (f5.trans r5)).ne nM3
    refine ⟨_, rfl, _, rfl, h, 10, rfl, hF, by decide, by decide, fun H9 r e9 h9 r0 r1 => ?_⟩
    have up9 := fun (a : Addr) (xs : List V) => (tups_hand hF e9).tup (p := a) (xs := xs)
    have he9 := up9 _ _ (F _ _ he3)
    have hy9 := up9 _ _ (F _ _ hy3)
    have hm9 := up9 _ _ (F _ _ hm3)
    have hl9 := up9 _ _ (F _ _ hl)
    have E9 : ExB (· = h) H H9 := (e13.trans (ExB.of F)).trans e9
    have fin : ∀ v t, atI [V.ref p0, .ref p1, .ref p2, .ref p3, .ref p4, .ref p5, .ref p6, .ref p7, .non, .ref p9] r = some v → ThingAt H9 v t → ∃ k p xs i v, V.ref M3 = .ref p ∧ V.int r = .int i ∧ SqK k K H9 p xs ∧ atI xs i = some v ∧ Q v H9 := fun v t hv ht => ⟨true, M3, _, r, v, rfl, rfl, SqL.of (e9.get NM upd_same), hv, q _ _ t E9 h9 ht⟩
    have L3 : es.length ≤ 1000 := by omega
    have L4 : ys.length ≤ 1000 := by omega
    have L5 : ms.length ≤ 1000 := by omega
    have L6 : ls.length ≤ 1000 := by omega
    have c : r = 0 ∨ r = 1 ∨ r = 2 ∨ r = 3 ∨ r = 4 ∨ r = 5 ∨ r = 6 ∨ r = 7 ∨ r = 8 ∨ r = 9 := by omega
    rcases c with rfl | rfl | rfl | rfl | rfl | rfl | rfl | rfl | rfl | rfl
    · exact fin _ (.tri (.int n) false ms ls) rfl ⟨p0, pm, pl, rfl, up9 _ _ k0, .inl ⟨_, rfl⟩, hm9, hl9, L5, L6⟩
    · exact fin _ (.tri (.int n) false ys es) rfl ⟨p1, py, pe, rfl, up9 _ _ k1, .inl ⟨_, rfl⟩, hy9, he9, L4, L3⟩
    · exact fin _ (.tri (.int n) false ms ys) rfl ⟨p2, pm, py, rfl, up9 _ _ k2, .inl ⟨_, rfl⟩, hm9, hy9, L5, L4⟩
    · exact fin _ (.tri (.int (m : Int)) false es ys) rfl ⟨p3, pe, py, rfl, up9 _ _ k3, .inl ⟨_, rfl⟩, he9, hy9, L3, L4⟩
    · exact fin _ .two rfl ⟨p4, _, _, rfl, up9 _ _ k4⟩
    · exact fin _ .lst rfl ⟨p5, _, rfl, e9.get N5 k5⟩
    · exact fin _ (.tri (.int n) true es ys) rfl ⟨p6, q6, py, rfl, up9 _ _ k6, .inl ⟨_, rfl⟩, e9.get N6 k6q, hy9, L3, L4⟩
    · exact fin _ (.tri (.bl true) false es ys) rfl ⟨p7, pe, py, rfl, up9 _ _ k7, .inr ⟨_, rfl⟩, he9, hy9, L3, L4⟩
    · exact fin _ .non rfl rfl
    · exact fin _ (.tri (.int n) false [] []) rfl ⟨p9, q8, q9, rfl, up9 _ _ k9, .inl ⟨_, rfl⟩, up9 _ _ k8, up9 _ _ k9q, Nat.zero_le _, Nat.zero_le _⟩
end
end K27

set_option Elab.async false
set_option linter.all false
set_option maxRecDepth 100000
set_option maxHeartbeats 1000000
/-! KW: _law_worst_right, _law_more_right. -/
namespace K27
open PySem PySem.Spec PyProof.Rows L2
open Evl (Ex)
theorem BookAt.upB {H H' : Hp} {h a : Addr} {k : Bool} {bk : List Kd} (hh : HandAt H h) (e : ExB (· = h) H H') (n : a ≠ h) (b : BookAt H k a bk) : BookAt H' k a bk := by
  obtain ⟨xs, h1, h2⟩ := b
  refine ⟨xs, ?_, Paired.up tm_kind (tups_hand hh e) h2⟩
  cases k with
  | true => exact e.get n h1
  | false => exact e.get n h1
theorem WOut.pos {bk : List Kd} {cs : List Int} {n : Nat} {es ys : List Int} (w : Worst bk cs n es ys) (hl : cs.length = bk.length) : ∃ (j : Nat) (c : Int), cs[j]? = some c ∧ 0 < c := by
  have l1 := w.lt
  have h1 := List.getElem?_eq_getElem (l := es) (i := n) (by have := w.le; omega)
  have h2 := List.getElem?_eq_getElem (l := ys) (i := n) (by have := w.ly; omega)
  have h3 := List.getElem?_eq_getElem (l := cs) (i := n) (by omega)
  have s := w.sum n _ _ _ h1 h2 h3
  have p1 := w.pe _ (List.mem_of_getElem? h1)
  have p2 := w.py _ (List.mem_of_getElem? h2)
  rw [if_pos rfl] at s
  exact ⟨n, _, h3, by omega⟩
section
variable {P : Program} {w : World} {K : PySem.W.Frag} {mg : Str → Option Value} {base : Heap}
abbrev s_l_worst_right : Stmt := topS 40
theorem sc_l_worst_right : FnScope ["_law_hand_here", "_law_book", "_law_counts", "_law_told", "_law_turn", "_law_thing", "_law_flag"] ["_law_hand_here", "_law_book", "_law_counts"] (defScope s_l_worst_right) := ⟨rfl, rfl, rfl, by decide +kernel, rfl, by decide +kernel, by decide +kernel⟩
def sp_l_worst_right : Sp := fun vs H Q _ => ∃ h kk a bk b cs, vs = [.ref h, .ref a, .ref b] ∧ HandAt H h ∧ BookAt H kk a bk ∧ GoodB bk ∧ IntsAt H true b cs ∧ GoodC bk cs ∧ a ≠ h ∧ b ≠ h ∧ ∀ H', ExB (· = h) H H' → HandAt H' h → Q (.bl true) H'
theorem ok_l_worst_right (T : Txt K mg) (c_l_bent : Cal P w K mg base CX0 2 "_law_bent" ["_law_hand_here", "_law_thing"] sp_l_bent) (c_worst_opening : Cal P w K mg base CX0 6 "worst_opening" ["book", "counts"] sp_worst_opening)
    (c_is_worst : Cal P w K mg base CX0 6 "is_worst" ["book", "counts", "thing"] sp_is_worst) (c_l_is_worst : Cal P w K mg base CX0 2 "_law_is_worst" ["_law_book", "_law_counts", "_law_thing"] sp_l_is_worst)
    (o : Own K mg "_law_worst_right" s_l_worst_right ["_law_hand_here", "_law_book", "_law_counts"]) : Cal P w K mg base CX0 7 "_law_worst_right" ["_law_hand_here", "_law_book", "_law_counts"] sp_l_worst_right := o.cal fun f fd F => by
  refine F.ok sc_l_worst_right (fun vs H Q E h => ?_) (fun cdv A outer s H vs Q E hr h => ?_)
  · obtain ⟨h, kk, a, bk, b, cs, rfl, _⟩ := h
    rfl
  · obtain ⟨h, kk, a, bk, b, cs, rfl, hh, hB, g, hc, gc, na, nb, q⟩ := h
    have hr_worst_opening : Room 6 _ := hr
    have hr_is_worst : Room 6 _ := hr
    have hr_l_bent : Room 2 _ := hr.mono (by decide)
    have hr_l_is_worst : Room 2 _ := hr.mono (by decide)
    have lc := gc.len
    have lb := g.most
    have lb1 := g.one
    obtain ⟨s1, s2, s3⟩ := sum_nn gc.pos
    refine ⟨_, (pss_cons (ps_set (i := 3) sc_l_worst_right.nd rfl (Or.inl rfl) (pe_cal c_worst_opening hr_worst_opening (pa_cons (pv 1) (pa_cons (pv 2) pa_nil))))
      (pss_cons (ps_if (pt_cmpR op_eq (pe_callB (r := rSum K) (cr_sum rfl) (by rfl) T.b_sum (by decide +kernel) (pa_cons (pv 2) pa_nil)) pe_int (nomark _))
        (pss_one (ps_ret (pe_cmpR op_isN (pv 3) pe_non (nomark _)))) pss_nil)
      (pss_cons (ps_if (PW.pt (pw_or (pt_not (pt_val (pe_cal c_l_is_worst hr_l_is_worst (pa_cons (pv 1) (pa_cons (pv 2) (pa_cons (pv 3) pa_nil)))))) (pw_or1 (pt_cmpR op_isnot_bl (pe_cal c_is_worst hr_is_worst (pa_cons (pv 1) (pa_cons (pv 2) (pa_cons (pv 3) pa_nil)))) pe_bl (nomark _)))))
        (pss_one (ps_ret pe_bl)) pss_nil)
      (pss_cons (ps_for PassesOwn.never rfl (pi_range1 (by rfl) T.b_range (pa_cons pe_int pa_nil)) (pg_name (i := 4) sc_l_worst_right.nd rfl (Or.inl rfl))
        (pss_cons (ps_set (i := 5) sc_l_worst_right.nd rfl (Or.inl rfl) (pe_cal c_l_bent hr_l_bent (pa_cons (pv 0) (pa_cons (pv 3) pa_nil))))
        (pss_cons (ps_set (i := 6) sc_l_worst_right.nd rfl (Or.inl rfl) (pe_cal c_is_worst hr_is_worst (pa_cons (pv 1) (pa_cons (pv 2) (pa_cons (pv 5) pa_nil)))))
        (pss_one (ps_if (PW.pt (pw_or (pt_not (pt_val (pe_callB (r := rIsi K) call_isi (by rfl) T.b_isinstance (by decide +kernel) (pa_cons (pv 6) (pa_cons (pe_bltn (v := .ty "bool") (by rfl) T.b_bool (by decide +kernel) rfl) pa_nil))))) (pw_or1 (pt_cmpR op_ne (pv 6) (pe_cal c_l_is_worst hr_l_is_worst (pa_cons (pv 1) (pa_cons (pv 2) (pa_cons (pv 5) pa_nil)))) (nomark _)))))
          (pss_one (ps_ret pe_bl)) pss_nil)))))
      (pss_one (ps_ret pe_bl)))))), ?_⟩
    refine ⟨_, rfl, _, rfl, kk, a, bk, true, b, cs, rfl, hB, g, hc, gc, fun H1 v e1 ho => ?_⟩
    refine ⟨_, rfl, b, cs, rfl, SqL.of (e1 _ _ hc), rfl, _, rfl, ?_⟩
    rw [dec_intV]
    by_cases hz : cs.sum = 0
    · rw [decide_eq_true hz]
      refine iteT ⟨_, rfl, ?_⟩
      rcases ho with ⟨rfl, _⟩ | ⟨n, es, ys, p, pe, py, rfl, _, _, _, wz⟩
      · refine ⟨rfl, ?_⟩
        rw [decide_eq_true (rfl : V.non = V.non)]
        exact q _ (ExB.of e1) (hh.up e1)
      · obtain ⟨j, c, h1, h2⟩ := WOut.pos wz lc
        have := s3 c (List.mem_of_getElem? h1)
        omega
    · rw [decide_eq_false hz]
      refine iteF ?_
      rcases ho with ⟨rfl, hno⟩ | ⟨n, es, ys, p, pe, py, rfl, hp, he, hy, wz⟩
      · exfalso
        refine hz (sum_zero fun c hc' => ?_)
        obtain ⟨j, hj⟩ := List.mem_iff_getElem?.mp hc'
        have := hno j c hj
        have := gc.pos c hc'
        omega
      · have le := wz.le
        have ly := wz.ly
        have ht : ∀ H', Tups H1 H' → ThingAt H' (.ref p) (.tri (.int (n : Int)) false es ys) := fun H' t => ⟨p, pe, py, rfl, t.tup hp, .inl ⟨_, rfl⟩, t.tup he, t.tup hy, by omega, by omega⟩
        have hw : WT bk cs (.tri (.int (n : Int)) false es ys) := ⟨n, rfl, wz⟩
        refine ⟨_, rfl, _, rfl, _, rfl, kk, a, bk, true, b, cs, _, _, rfl, hB.up e1, g, hc.up e1, gc, ht H1 (Tups.of (Ex.refl _)), fun H2 r e2 hr => ?_⟩
        obtain rfl : r = true := hr.mpr hw
        refine ⟨true, rfl, iteF ?_⟩
        have e12 := e1.trans e2
        refine ⟨_, rfl, _, rfl, _, rfl, kk, a, bk, true, b, cs, _, _, rfl, hB.up e12, g, hc.up e12, gc, ht H2 (Tups.of e2), fun H3 r e3 hr => ?_⟩
        obtain rfl : r = true := hr.mpr hw
        refine ⟨_, _, rfl, rfl, false, rfl, iteF ?_⟩
        have e13 := e12.trans e3
        have hh3 := hh.up e13
        refine ⟨3, rfl, by decide, by decide, for_it (walk_r0 (n := 3) rfl) (fun i σ H' => ∃ y4 y5 y6, σ = [some (.ref h), some (.ref a), some (.ref b), some (.ref p), y4, y5, y6] ∧ ExB (· = h) H3 H' ∧ HandAt H' h) ⟨_, _, _, rfl, ExB.refl _, hh3⟩ (fun _ _ _ _ _ => trivial) ?_ ?_⟩
        · rintro i x σ H4 H5 hi ⟨y4, y5, y6, rfl, e5, hh5⟩ ⟨eh, rfl⟩
          subst eh
          have t5 := (tups_hand hh3 e5)
          have t15 : Tups H1 H5 := (Tups.of (e2.trans e3)).trans t5
          have hB5 := BookAt.upB hh3 e5 na (hB.up e13)
          have hc5 : IntsAt H5 true b cs := e5.get nb (hc.up e13)
          refine ⟨_, rfl, _, rfl, h, p, pe, py, _, es, ys, rfl, hh5, t15.tup hp, t15.tup he, t15.tup hy, by omega, by omega, by omega, fun H6 v t e6 hh6 hv => ?_⟩
          have hB6 := BookAt.upB hh5 e6 na hB5
          have hc6 : IntsAt H6 true b cs := e6.get nb hc5
          refine ⟨_, rfl, _, rfl, _, rfl, kk, a, bk, true, b, cs, v, t, rfl, hB6, g, hc6, gc, hv, fun H7 r e7 hr => ?_⟩
          refine ⟨_, rfl, _, _, _, _, true, rfl, .ty "bool", .base (.bl r), kit_ty (by decide +kernel), true, rfl, iteF ?_⟩
          refine ⟨_, rfl, _, rfl, _, rfl, _, rfl, kk, a, bk, true, b, cs, v, t, rfl, hB6.up e7, g, hc6.up e7, gc, hv.up e7, fun H8 r2 e8 hr2 => ?_⟩
          have er : r = r2 := by
            cases r <;> cases r2
            · rfl
            · exact (hr.mpr (hr2.mp rfl)).symm ▸ rfl
            · exact (hr2.mpr (hr.mp rfl)).symm ▸ rfl
            · rfl
          subst er
          refine ⟨rfl, _, rfl, iteNS rfl ?_⟩
          exact ⟨_, _, _, rfl, (e5.trans e6).trans (ExB.of (e7.trans e8)), hh6.up (e7.trans e8)⟩
        · rintro σ H4 ⟨y4, y5, y6, rfl, e5, hh5⟩
          exact q _ ((ExB.of e13).trans e5) hh5
abbrev s_l_more_right : Stmt := topS 42
theorem sc_l_more_right : FnScope ["_law_hand_here", "_law_book", "_law_counts", "_law_kind_here", "_law_cells", "_law_told"] ["_law_hand_here", "_law_book", "_law_counts"] (defScope s_l_more_right) := ⟨rfl, rfl, rfl, by decide +kernel, rfl, by decide +kernel, by decide +kernel⟩
def sp_l_more_right : Sp := fun vs H Q _ => ∃ h kk a bk kt b cs, vs = [.ref h, .ref a, .ref b] ∧ HandAt H h ∧ BookAt H kk a bk ∧ GoodB bk ∧ IntsAt H kt b cs ∧ GoodC bk cs ∧ a ≠ h ∧ b ≠ h ∧ (∀ k ∈ bk, aside k < 1073741824) ∧ fact bk cs ≤ 100000000000000000000 ∧ ∀ H', ExB (· = h) H H' → HandAt H' h → Q (.bl true) H'
theorem ok_l_more_right (T : Txt K mg) (c_l_draw : Cal P w K mg base CX0 1 "_law_draw" ["_law_hand_here", "_law_many"] sp_l_draw) (c_most_more : Cal P w K mg base CX0 6 "most_more" ["book", "counts", "kind", "cells"] sp_most_more)
    (c_l_by_fact : Cal P w K mg base CX0 1 "_law_by_fact" ["_law_book", "_law_counts"] sp_l_by_fact) (c_l_with : Cal P w K mg base CX0 1 "_law_with" ["_law_counts", "_law_kind_here", "_law_more"] sp_l_with)
    (o : Own K mg "_law_more_right" s_l_more_right ["_law_hand_here", "_law_book", "_law_counts"]) : Cal P w K mg base CX0 7 "_law_more_right" ["_law_hand_here", "_law_book", "_law_counts"] sp_l_more_right := o.cal fun f fd F => by
  refine F.ok sc_l_more_right (fun vs H Q E h => ?_) (fun cdv A outer s H vs Q E hr h => ?_)
  · obtain ⟨h, kk, a, bk, kt, b, cs, rfl, _⟩ := h
    rfl
  · obtain ⟨h, kk, a, bk, kt, b, cs, rfl, hh, hB, g, hc, gc, na, nb, hsm, hf, q⟩ := h
    have hr_most_more : Room 6 _ := hr
    have hr_l_draw : Room 1 _ := hr.mono (by decide)
    have hr_l_by_fact : Room 1 _ := hr.mono (by decide)
    have hr_l_with : Room 1 _ := hr.mono (by decide)
    have lc := gc.len
    have lb := g.most
    have lb1 := g.one
    have f0 := (fact_is bk cs).nn
    obtain ⟨xs, hx, hpk⟩ := id hB
    have lx := paired_len hpk
    have hI : ∀ {H' : Hp}, ExB (· = h) H H' → IntsAt H' kt b cs := fun {H'} e => by
      cases kt with
      | true => exact e.get nb hc
      | false => exact e.get nb hc
    refine ⟨_, (pss_cons (ps_set (i := 3) sc_l_more_right.nd rfl (Or.inl rfl) (pe_cal c_l_draw hr_l_draw (pa_cons (pv 0) (pa_cons (pe_callB (r := Evl.rLenS K) call_len_seq (by rfl) T.b_len (by decide +kernel) (pa_cons (pv 1) pa_nil)) pa_nil))))
      (pss_cons (ps_set (i := 4) sc_l_more_right.nd rfl (Or.inl rfl) (pe_op op_add pe_int (pe_cal c_l_draw hr_l_draw (pa_cons (pv 0) (pa_cons (pe_op op_add (pe_op op_mul pe_int (pe_cal c_l_by_fact hr_l_by_fact (pa_cons (pv 1) (pa_cons (pv 2) pa_nil)))) pe_int) pa_nil)))))
      (pss_cons (ps_set (i := 4) sc_l_more_right.nd rfl (Or.inl rfl) (pe_ix (r := rIxQ K) ix_q (pe_lst (pa_cons (pv 4) (pa_cons pe_int (pa_cons (pe_op op_pow pe_int pe_int) (pa_cons (pe_op op_pow pe_int pe_int) pa_nil))))) (pe_callB (call_max2 rfl) (by rfl) T.b_max (by decide +kernel) (pa_cons pe_int (pa_cons (pe_op op_sub (pe_cal c_l_draw hr_l_draw (pa_cons (pv 0) (pa_cons pe_int pa_nil))) pe_int) pa_nil))) (fun _ _ => rfl)))
      (pss_cons (ps_set (i := 5) sc_l_more_right.nd rfl (Or.inl rfl) (pe_cal c_most_more hr_most_more (pa_cons (pv 1) (pa_cons (pv 2) (pa_cons (pv 3) (pa_cons (pv 4) pa_nil))))))
      (pss_cons (ps_if (PW.pt (pw_or (pt_val (pe_callB (r := rIsi K) call_isi (by rfl) T.b_isinstance (by decide +kernel) (pa_cons (pv 5) (pa_cons (pe_bltn (v := .ty "bool") (by rfl) T.b_bool (by decide +kernel) rfl) pa_nil)))) (pw_or (pt_not (pt_val (pe_callB (r := rIsi K) call_isi (by rfl) T.b_isinstance (by decide +kernel) (pa_cons (pv 5) (pa_cons (pe_bltn (v := .ty "int") (by rfl) T.b_int (by decide +kernel) rfl) pa_nil))))) (pw_or1 (pt_cmpR op_lt (pv 5) (pe_un un_neg pe_int) (nomark _))))))
        (pss_one (ps_ret pe_bl)) pss_nil)
      (pss_cons (ps_if (pt_cmpR op_eq (pv 5) (pe_un un_neg pe_int) (nomark _))
        (pss_one (ps_ret (pe_cmpR op_gt (pe_cal c_l_by_fact hr_l_by_fact (pa_cons (pv 1) (pa_cons (pv 2) pa_nil))) (pv 4) (nomark _)))) pss_nil)
      (pss_cons (ps_if (pt_cmpR op_gt (pe_cal c_l_by_fact hr_l_by_fact (pa_cons (pv 1) (pa_cons (pe_cal c_l_with hr_l_with (pa_cons (pv 2) (pa_cons (pv 3) (pa_cons (pv 5) pa_nil)))) pa_nil))) (pv 4) (nomark _))
        (pss_one (ps_ret pe_bl)) pss_nil)
      (pss_one (ps_ret (pe_cmpR op_gt (pe_cal c_l_by_fact hr_l_by_fact (pa_cons (pv 1) (pa_cons (pe_cal c_l_with hr_l_with (pa_cons (pv 2) (pa_cons (pv 3) (pa_cons (pe_op op_add (pv 5) pe_int) pa_nil)))) pa_nil))) (pv 4) (nomark _))))))))))), ?_⟩
    -- kind
    refine ⟨_, rfl, _, rfl, a, xs, rfl, hx.lt, h, _, rfl, hh, by omega, by omega, fun H1 z e1 hh1 z0 z1 => ?_⟩
    obtain ⟨n, rfl⟩ : ∃ n : Nat, z = (n : Int) := ⟨z.toNat, (Int.toNat_of_nonneg z0).symm⟩
    obtain ⟨k, hk⟩ : ∃ k, bk[n]? = some k := ⟨_, List.getElem?_eq_getElem (by omega)⟩
    -- cells
    refine ⟨_, rfl, _, rfl, _, rfl, kk, a, bk, kt, b, cs, rfl, hB.upB hh e1 na, hI e1, gc.fits g, fun H2 e2 => ?_⟩
    have e12 := e1.trans (ExB.of e2)
    have hh2 := hh1.up e2
    refine ⟨_, _, rfl, rfl, .inl ⟨by decide, by decide⟩, _, _, rfl, rfl, h, _, rfl, hh2, by omega, by omega, fun H3 r e3 hh3 r0 r1 => ?_⟩
    refine ⟨_, _, rfl, rfl, ?_⟩
    have e13 := e12.trans e3
    -- one of four
    refine ⟨_, rfl, _, _, rfl, rfl, ⟨by decide, by decide, by decide⟩, _, _, rfl, rfl, ⟨by decide, by decide, by decide⟩, by show 4 ≤ sizeLine; decide, fun p4 np4 => ?_⟩
    have e4 := Ex.new (o := .lst [.int (1 + r), .int 1000, .int (10 ^ (12 : Int).toNat), .int (10 ^ (30 : Int).toNat)]) np4
    have hh4 := hh3.up e4
    have n4 := hh3.ne np4
    refine ⟨_, rfl, h, 8, rfl, hh4, by decide, by decide, fun H5 y e5 hh5 y0 y1 => ?_⟩
    have h4 := e5.get n4 upd_same
    have e15 := (e13.trans (ExB.of e4)).trans e5
    have pick : ∀ j : Int, 0 ≤ j → j < 4 → ∃ C : Int, atI [.int (1 + r), .int 1000, .int (10 ^ (12 : Int).toNat), .int (10 ^ (30 : Int).toNat)] j = some (V.int C) ∧ 1 ≤ C ∧ C ≤ 1000000000000000000000000000000 := fun j j0 j4 => by
      have : j = 0 ∨ j = 1 ∨ j = 2 ∨ j = 3 := by omega
      rcases this with rfl | rfl | rfl | rfl
      · exact ⟨1 + r, rfl, by omega, by omega⟩
      · exact ⟨1000, rfl, by decide, by decide⟩
      · exact ⟨10 ^ (12 : Int).toNat, rfl, by decide, by decide⟩
      · exact ⟨10 ^ (30 : Int).toNat, rfl, by decide, by decide⟩
    obtain ⟨C, hC, C1, C2⟩ := pick (if y - 4 > 0 then y - 4 else 0) (by split <;> omega) (by split <;> omega)
    refine ⟨_, _, rfl, rfl, _, _, rfl, true, p4, _, _, _, rfl, rfl, SqL.of h4, hC, ?_⟩
    -- told
    refine ⟨_, rfl, _, rfl, _, rfl, _, rfl, kk, a, bk, kt, b, cs, n, k, C, rfl, hB.upB hh e15 na, g, hI e15, gc, hk, hsm k (List.mem_of_getElem? hk), C1, C2, fun H6 e6 => ?_⟩
    have e16 := e15.trans (ExB.of e6)
    have hh6 := hh5.up e6
    have ml := more_law (cells := C) g.all lc gc.pos hk
    generalize moreF bk cs n k C = t at *
    have t1 : -1 ≤ t := by
      rcases ml with ⟨_, z⟩ | ⟨_, z, _⟩ <;> omega
    refine ⟨_, rfl, _, _, _, _, false, rfl, .ty "bool", .base (.int t), kit_ty (by decide +kernel), false, rfl, iteF ?_⟩
    refine ⟨_, rfl, _, _, _, _, true, rfl, .ty "int", .base (.int t), kit_ty (by decide +kernel), true, rfl, iteF ?_⟩
    refine ⟨_, rfl, _, rfl, _, _, rfl, rfl, _, rfl, ?_⟩
    rw [decide_eq_false (show ¬ t < -1 by omega)]
    refine iteF ?_
    have fin : ∀ H', ExB (· = h) H H' → HandAt H' h → Q (.bl true) H' := q
    refine ⟨_, rfl, _, rfl, rfl, _, rfl, ?_⟩
    rw [dec_intV]
    by_cases ht : t = -1
    · rw [decide_eq_true ht]
      have hlt : C < fact bk cs := by
        rcases ml with ⟨z, _⟩ | ⟨_, z, _⟩
        · exact z
        · omega
      refine iteT ⟨_, rfl, _, rfl, kk, a, bk, kt, b, cs, rfl, hB.upB hh e16 na, hI e16, gc.fits g, fun H7 e7 => ⟨_, rfl, _, _, rfl, rfl, ?_⟩⟩
      show Q (.bl (decide (C < fact bk cs))) H7
      rw [decide_eq_true hlt]
      exact fin _ (e16.trans (ExB.of e7)) (hh6.up e7)
    · rw [decide_eq_false ht]
      refine iteF ?_
      rcases ml with ⟨_, z⟩ | ⟨_, z0, z1, z2⟩
      · exact absurd z ht
      · have fits : ∀ d, 0 ≤ d → Fits bk (addAt d n cs) := fun d hd => ⟨g.all, by omega, by rw [addAt_len, lc], addAt_mem (P := fun c => 0 ≤ c) (fun c h => by omega) n cs gc.pos, .inr fun k' hk' => by
          have := hsm k' hk'
          omega⟩
        refine ⟨_, rfl, _, rfl, _, rfl, _, rfl, kt, b, cs, n, t, rfl, hI e16, by omega, fun H7 p7 e7 hp7 => ?_⟩
        have e17 := e16.trans (ExB.of e7)
        have hh7 := hh6.up e7
        refine ⟨kk, a, bk, true, p7, _, rfl, hB.upB hh e17 na, hp7, fits t z0, fun H8 e8 => ?_⟩
        refine ⟨_, rfl, _, _, rfl, rfl, _, rfl, ?_⟩
        rw [decide_eq_false (show ¬ C < fact bk (addAt t n cs) by omega)]
        refine iteF ?_
        have e18 := e17.trans (ExB.of e8)
        have hh8 := hh7.up e8
        refine ⟨_, rfl, _, rfl, _, rfl, _, rfl, _, _, rfl, rfl, kt, b, cs, n, t + 1, rfl, hI e18, by omega, fun H9 p9 e9 hp9 => ?_⟩
        have e19 := e18.trans (ExB.of e9)
        refine ⟨kk, a, bk, true, p9, _, rfl, hB.upB hh e19 na, hp9, fits (t + 1) (by omega), fun H10 e10 => ⟨_, rfl, _, _, rfl, rfl, ?_⟩⟩
        show Q (.bl (decide (C < fact bk (addAt (t + 1) n cs)))) H10
        rw [decide_eq_true z2]
        exact fin _ (e19.trans (ExB.of e10)) ((hh8.up e9).up e10)
end
end K27

set_option Elab.async false
set_option linter.all false
set_option maxRecDepth 100000
set_option maxHeartbeats 1000000
/-! KX: TooMany is made: its __init__ says super().__init__ and keeps one field. -/
namespace K27
open PySem PySem.Spec PyProof.Rows L2
open Evl (Ex)
abbrev s_tm : Stmt := inClass (topS 2) 0
/-- what the written part says of TooMany and of its __init__ -/
structure TmAt (P : Program) (K : PySem.W.Frag) (mg : Str → Option Value) (C fI : Addr) : Prop where
  oex : OexC K C
  fn : ∃ (oc : Value) (od : Option Addr) (kV doc pm : Value) (an : Option Addr) (cda : Addr) (ct : Value) (cc : Addr) (osl : Array (Option Value)) (ccl : Value) (cdd : Option Addr) (vs : Array Value) (ccs : Array (Option Value)) (file : Str) (tf : Tok) (cl : Value) (cld : Option Addr) (csl : Array (Option Value)) (qual : Str),
    K.lookup fI = some ⟨oc, od, .func (PySem.W.ksFn "__init__" qual (defArgs s_tm) (defBody s_tm) (defScope s_tm) .none kV doc pm an (.ref cda) ct cc), osl⟩ ∧ PySem.W.codeIn K (.ref cda) qual = true ∧
    K.lookup cda = some ⟨ccl, cdd, .fields vs, ccs⟩ ∧ vs[2]? = some (.str file tf) ∧ ((P.main.file : Str) == file) = true ∧ K.lookup cc = some ⟨cl, cld, .cell (some (.ref C)), csl⟩
  sup : PySem.W.ks_superIn K C C "__init__" = some (some (.builtin "ValueError.__init__"))
  sub : PySem.W.subIn K (.ref C) (.type "ValueError") = some true
  mro : PySem.W.mroIn K C (.ref C) = some true
  opq : PySem.W.nsIn K cStatics "thirdparty.any" = some none
  msup : mg "super" = none
  top : (P.main.scope.names.lookup ("super" : Str)).isSome = false
  noA : PySem.W.findIn K (.ref C) "most" = some none
  init : PySem.W.findIn K (.ref C) "__init__" = some (some (.ref fI))
  ty : PySem.W.typeIn K (.ref fI) = some (.type "function")
  glob : mg "TooMany" = some (.ref C)
section
variable {P : Program} {w : World} {K : PySem.W.Frag} {mg : Str → Option Value} {base : Heap}
open PySem.W in
theorem init_run {C fI a t0 : Addr} {s : Shared} {A : Around} {n : Int} {tk : Tok} {R : Result → Shared → Prop} (T : TmAt P K mg C fI) (M : Mod K mg base) (bk : ∀ b o, base.get? b = some o → s.heap.get? b = some o)
    (hroom : A.depth < recursionLimit) (hna : base.get? a = none) (ha : s.heap.get? a = some (PySem.HandSPX.excO C t0))
    (hR : ∀ h' tk' dx t1, (∀ b o, b ≠ a → s.heap.get? b = some o → h'.get? b = some o) → s.heap.objs.size ≤ dx → h'.get? a = some ({ cls := .ref C, dict := some dx, data := .fields #[.ref t1, .none, .none, .none, .bool false, .none] } : Obj) →
      h'.Ns1 dx (fun y => if y = ("most" : Str) then some (.int n tk) else none) → R (.ok (.ret .none)) { s with heap := h', toks := tk' }) :
    codeAny (model P w) A (.call (.ref fI) ⟨[.ref a, .int n tk], []⟩) R s := by
  obtain ⟨oc, od, kV, doc, pm, an, cda, ct, cc, osl, ccl, cdd, vs, ccs, file, tf, cl, cld, csl, qual, lk, hcd, lkc, hvs, hfile, lcc⟩ := T.fn
  obtain ⟨nm, q, N, bs, bm, sn, sub, ab, col, dd, k0, k1, k2, k3, k5, hC, hbm⟩ := T.oex.cls
  obtain ⟨hh, gg, dd0, tk0, os⟩ := s
  have X : K.In hh := M.kin.keeps bk
  have lim := M.nolimit.keeps bk
  refine ks_codeAny_call_defAt (fd := ksFn "__init__" qual (defArgs s_tm) (defBody s_tm) (defScope s_tm) .none kV doc pm an (.ref cda) ct cc) (body := defBody s_tm) (binds := [("self", .ref a), ("most", .int n tk)]) hroom (X _ _ lk) rfl lim (codeRec_of X hcd) rfl (.of_eq (by rfl)) (show ∀ x ∈ (defScope s_tm).names, x.2 ≠ .cell by decide +kernel) (fun x hx => ?_) fun h₀ hns hk => ?_
  · rcases List.mem_cons.mp hx with rfl | hx
    · exact (by decide +kernel : (defScope s_tm).names.lookup ("self" : Str) = some .local)
    · obtain rfl := List.mem_singleton.mp hx
      exact (by decide +kernel : (defScope s_tm).names.lookup ("most" : Str) = some .local)
  · have X0 : K.In h₀ := X.keeps hk
    have bk0 : ∀ b o, base.get? b = some o → h₀.get? b = some o := fun b o e => hk _ _ (bk b o e)
    have kself : (defScope s_tm).names.lookup ("self" : Str) = some .local := by decide +kernel
    have kmost : (defScope s_tm).names.lookup ("most" : Str) = some .local := by decide +kernel
    have ksup : (defScope s_tm).names.lookup ("super" : Str) = some .globalImplicit := by decide +kernel
    have kcls : (defScope s_tm).names.lookup ("__class__" : Str) = some .free := by decide +kernel
    have kk : (defScope s_tm).kind = .function := by decide +kernel
    obtain ⟨mb, hb1, hb2⟩ := M.blt
    have hD := X0 _ _ hC
    have haX := hk _ _ ha
    have hlt : a < hh.objs.size := Heap.lt_size ha
    refine ks_wpAt_execs_cons (ks_wpAt_Expr_any (ks_wpAt_MethodCall ?_))
    refine ks_wpAt_super_base ksup kcls (by decide) rfl (X0 _ _ lk) rfl rfl rfl (X0 _ _ lkc) rfl hvs hfile T.top ?_
    refine ks_loadName_global kk ksup (Calls.loadGlobal_builtin (M.glob.keeps bk0) T.msup (hb1.keeps bk0) ((hb2 _ (by decide +kernel)).trans (show bootBuiltins "super" = some (.type "super") from by decide +kernel)) ⟨rfl, ?_⟩)
    refine wpAny_loadName_free kk kcls rfl ⟨_, X0 _ _ lcc, rfl⟩ ?_
    refine wpAny_loadName_local kk kself hns rfl ?_
    refine ks_wpAny_isType_cls hD rfl ⟨rfl, ?_⟩
    refine ks_wpAny_call_super hD rfl haX rfl (fun c e => by cases e) (looks_mroIn X0 T.mro) (fun h1 e1 k1 => ?_)
    have X1 := X0.keeps k1
    have hI : InstAt h1 a (PySem.HandSPX.excO C t0) C none := ⟨k1 _ _ haX, rfl, rfl, trivial⟩
    have hcl : clsIn K C = some { name := nm, bases := bs, mro := .ref C :: bm, ns := N, qualname := q, hasDict := true, slotNames := sn, subclasses := sub, abstract := ab, collection := col, hasDel := false } := by unfold clsIn; rw [hC] <;> rfl
    have hsup := T.sup
    unfold ks_superIn at hsup
    rw [hcl] at hsup
    refine kxs_getMethod kxs_ValueError e1 (looks_opaque X1 T.opq) (l₀ := .ref C :: bm) (fun A Q E s k q => wpAny_bind ((looks_clsIn X1 hcl) A _ E s k (wpAny_pure q))) rfl X1 hsup (hI.type.andThen (looks_subIn X1 T.sub)) (ks_ne X1 hI hcl) (by decide) ?_
    have k2 : ∀ b o, h1.get? b = some o → (h1.push (kxs_mw "ValueError.__init__" a)).get? b = some o := fun b o e => Heap.get?_push_of_some _ e
    have hmw : (h1.push (kxs_mw "ValueError.__init__" a)).get? h1.objs.size = some (kxs_mw "ValueError.__init__" a) := Heap.get?_push_at rfl rfl
    refine kxs_callWith (i := "ValueError.__init__") (x := a) rfl (Calls.evalArgs_plain (Calls.spliced_cons ?_))
    refine Calls.Constant_str (k := 0) (pos := ⟨0, 0, 0, 0⟩) (Calls.spliced_nil ⟨hmw, ?_⟩)
    have hC3 := k2 _ _ (k1 _ _ hD)
    have ha3 : (h1.push (kxs_mw "ValueError.__init__" a)).get? a = some (excObj C t0 none .none) := k2 _ _ (k1 _ _ haX)
    refine wpAny_call (codeAny_of_tree ?_)
    refine wpAny_bind (wpAny_load hmw ?_)
    simp only [kxs_mw, show (Value.type "method-wrapper" == Value.type "method" || Value.type "method-wrapper" == Value.type "builtin_function_or_method" || Value.type "method-wrapper" == Value.type "method-wrapper") = true by decide, if_true]
    refine KFB.if_so (by decide) ?_
    refine wpAny_bind (check_bound_init F.excBase_ValueError.toExcCallFacts hC3 ha3 rfl ?_)
    refine wpAny_bind (wpAny_pure (wpAny_pure ?_))
    refine ⟨plainId_quiet F.excBase_ValueError.init.plain _, codeAny_builtin F.excBase_ValueError.initEntry ?_⟩
    refine exc_init_tree (cls := .ref C) (t0 := t0) (dv := none) (c2 := .none) (c3 := .none) (b4 := .bool false) ha3 (by show 1 ≤ sizeLine; decide) fun h4 k4 e4 _ => ?_
    have kA : ∀ b o, b ≠ a → hh.get? b = some o → h4.get? b = some o := fun b o n e => k4 _ _ n (k2 _ _ (k1 _ _ (hk _ _ e)))
    have hL : h4.Ns hh.objs.size (fun x => [(Str.ofString "self", Value.ref a), (Str.ofString "most", Value.int n tk)].reverse.lookup x) := by
      obtain ⟨oL, es, ep, hL, r⟩ := hns
      exact ⟨oL, es, ep, k4 _ _ (Nat.ne_of_gt hlt) (k2 _ _ (k1 _ _ hL)), r⟩
    have nba : ∀ b o, base.get? b = some o → b ≠ a := fun b o e z => by
      rw [z, hna] at e
      cases e
    have X4 : K.In h4 := M.kin.keeps fun b o e => kA b o (nba b o e) (bk b o e)
    refine ks_wpAt_execs_cons (wpAt_of_wpAny (plainObj_wpAny_Assign_Attribute ?_ ?_))
    · refine wpAny_Name (wpAny_loadName_local kk kmost hL rfl ?_) (by decide)
      refine wpAny_Name (wpAny_loadName_local kk kself hL rfl ?_) (by decide)
      refine set_plain X4 (ox := excObj C (h1.push (kxs_mw "ValueError.__init__" a)).objs.size none .none) (od := none) ⟨e4, rfl, rfl, trivial⟩ T.oex.sa ?_
      refine PySem.HandSPX.exc_osa X4 e4 hcl (show PySem.HandSPX.refsVE (.ref C :: bm) = true from hbm) rfl T.noA (fun h5 tk5 dx k5 dn dne hx hn => ?_)
      have hsz : hh.objs.size ≤ h4.objs.size := Nat.le_of_lt hL.lt
      refine wpAt_of_wpAny (wpAny_pure ?_)
      exact hR h5 tk5 dx _ (fun b o n e => k5 _ _ n (kA _ _ n e)) (Nat.le_trans hsz dn) hx hn
    · rfl
end
end K27

set_option Elab.async false
set_option linter.all false
set_option maxRecDepth 100000
set_option maxHeartbeats 1000000
/-! KY: raise TooMany(n); isinstance of a caught error that has its own dict. -/
namespace K27
open PySem PySem.Spec PyProof.Rows L2
open Evl (Ex)
section
variable {X : Cx} {e : Expr} {te : TE} {C fI : Addr} {p pos : Pos}
/-- TooMany(n): its dict stands behind it -/
def tTm (C : Addr) (te : TE) : L2.St → Hp → XK → Prop := fun σ H Q => te σ H fun v H1 => ∃ n : Int, v = .int n ∧ ∀ d, H1 d = none → Q (.ref C) (some d) (upd H1 d (.xd [("most", .int n)]))
theorem pmk_tm (T : TmAt X.prog X.K X.mg C fI) (hr : Room 1 X.A) (he : PE X e te) (hg : Gl X "TooMany") (hs : starEach [e] X.env = (false, eval e X.env) :: starEach [] X.env := by rfl) : PMk X (.Call (.Name "TooMany" p) [e] [] pos) (tTm C te) := by
  intro pins s σ H Q I h
  obtain ⟨nm, q, N, bs, bm, sn, sub, ab, col, dd, k0, k1, k2, k3, k5, hC, hbm⟩ := T.oex.cls
  refine wpAny_Call_Name_kw (ld_glob I hg T.glob ?_ (by decide))
  refine PySem.W.callWith_K (h₀ := X.base) I.ok.mod.kin T.oex.kC (thn ((pa_cons he pa_nil hs).run pos pins s σ H (fun vs H1 => match vs with | [v] => ∃ n : Int, v = .int n ∧ ∀ d, H1 d = none → Q (.ref C) (some d) (upd H1 d (.xd [("most", .int n)])) | _ => False) I h) fun us s1 hu => ?_) hs rfl
  · obtain ⟨vs, H1, I1, r1, q0⟩ := hu
    obtain ⟨n, rfl, q1⟩ : ∃ n : Int, vs = [.int n] ∧ ∀ d, H1 d = none → Q (.ref C) (some d) (upd H1 d (.xd [("most", .int n)])) := by
      match vs, q0 with
      | [_], ⟨n, rfl, q1⟩ => exact ⟨n, rfl, q1⟩
    refine ⟨I1.kIn, ?_⟩
    obtain ⟨u, rfl, tk, rfl⟩ := vals1 r1
    show wpAny _ _ (call (.ref C) [.int n tk]) _ _ _
    obtain ⟨hp, g, dr, t, os⟩ := s1
    have hget : ((hp.push (PySem.W.kdv_tup [.int n tk])).push (PySem.HandSPX.excO C hp.objs.size)).get? (hp.objs.size + 1) = some (PySem.HandSPX.excO C hp.objs.size) := by heap_get
    have kk : ∀ b o, hp.get? b = some o → ((hp.push (PySem.W.kdv_tup [.int n tk])).push (PySem.HandSPX.excO C hp.objs.size)).get? b = some o := fun b o e => Heap.get?_push_of_some _ (Heap.get?_push_of_some _ e)
    refine wpAny_call (PySem.HandSPX.call_own F.excBase_ValueError (fun Y => PySem.HandSPX.refsVE_contains Y bm hbm) (I1.kIn _ _ hC) (PySem.W.looks_findIn I1.kIn T.init) (fun self => PySem.W.bind_fn I1.kIn self T.ty) (by show 1 ≤ sizeLine; decide) ?_)
    have hbn : X.base.get? (hp.objs.size + 1) = none := by
      cases z : X.base.get? (hp.objs.size + 1) with
      | none => rfl
      | some o => exact absurd (Heap.lt_size (I1.bk _ _ z)) (Nat.not_lt_of_le (Nat.le_succ _))
    refine init_run T I1.ok.mod (fun b o z => kk _ _ (I1.bk b o z)) (hr.make C [.int n tk] []).depth hbn hget fun h' tk' dx t1 k dn hx hn => ?_
    have dxn : dx ≠ hp.objs.size + 1 := fun z => by
      have : hp.objs.size + 2 ≤ dx := by simpa using dn
      omega
    have dxs : hp.objs.size ≤ dx := by
      have : hp.objs.size + 2 ≤ dx := by simpa using dn
      omega
    obtain ⟨G, g1', g2'⟩ := restrict h' fun b => decide (b ≠ hp.objs.size + 1)
    have gk : ∀ b, b ≠ hp.objs.size + 1 → G.get? b = h'.get? b := fun b hb => g1' b (decide_eq_true hb)
    have ge : G.get? (hp.objs.size + 1) = none := g2' _ (by simp)
    have na : ∀ {b : Addr} {o : Obj}, hp.get? b = some o → b ≠ hp.objs.size + 1 := fun {b o} z => Nat.ne_of_lt (Nat.lt_succ_of_lt (Heap.lt_size z))
    have J : Inv X pins σ (upd H1 dx (.xd [("most", .int n)])) ⟨G, g, dr, tk', os⟩ := I1.laid (t' := tk') (a := dx) (o := .xd [("most", .int n)]) (h' := G) (fun b o z => (gk b (na z)).trans (k b o (na z) (kk b o z))) dxs
      ⟨_, hn.at fun o y => (gk dx dxn).trans y, relO_put (fs := []) ⟨tk, rfl⟩ fun _ => True.intro⟩
    have hdn : H1 dx = none := I1.hok.fresh dxs
    refine ⟨rfl, ?_⟩
    show MkP X pins σ Q (.ref (hp.objs.size + 1)) _
    refine ⟨hp.objs.size + 1, _, _, ⟨G, g, dr, tk', os⟩, _, .ref C, some dx, rfl, J, fun b o z => ?_, ge, hx, ⟨rfl, rfl⟩, rfl, rfl, ?_, rfl, I1.bare, raises_own T.oex.exC T.oex.tyC, q1 dx hdn⟩
    · have hb : b ≠ hp.objs.size + 1 := fun y => by
        rw [y, ge] at z
        cases z
      exact (gk b hb).symm.trans z
    · rw [upd_ne (Ne.symm dxn)]
      exact I1.hok.fresh (Nat.le_succ _)
end
end K27

set_option Elab.async false
set_option linter.all false
set_option maxRecDepth 100000
set_option maxHeartbeats 1000000
/-! KZ: isinstance of a caught error that has its own dict. -/
namespace K27
open PySem PySem.Spec PyProof.Rows L2
open PySem.W in
/-- its __class__, asked for -/
theorem cls_asked {prog : Program} {w : World} {A : Around} {E : Value → Shared → Prop} {s : Shared} {K : Frag} {x D : Addr} {ox : Obj} {od : Option Obj} {Q : Option Value → Shared → Prop} (C : ExcC K D) (X : K.In s.heap) (I : InstAt s.heap x ox D od) (h : Q (some (.ref D)) { s with toks := s.toks + 1 }) :
    wpAny (model prog w) A (getAttr? (.ref x) "__class__") Q E s := by
  have found : findObj K D od "__class__" = some (.bind (.builtin "getset_descriptor.__get__") (.builtin "object.__class__")) := by
    obtain ⟨cd, hc, _⟩ := any_some C.hd
    unfold findObj
    simp [hc, C.ha, C.hn, C.ht]
  obtain ⟨hp, g, d, t, os⟩ := s
  have ty := I.type (M := model prog w)
  have lg := looks_findIn (M := model prog w) X C.hg
  have lk := looks_findIn (M := model prog w) X C.hk
  have lf := looks_find (M := model prog w) X I found
  have isB : Looks (model prog w) hp (isInstance (.ref x) (.type "BaseException")) true := ty.andThen (looks_subIn X C.hs)
  have no : (onTheHeap (Value.ref D) && Value.builtin "BaseException.__getattribute__" == Value.builtin "object.__getattribute__") = false := by
    rw [show (Value.builtin "BaseException.__getattribute__" == Value.builtin "object.__getattribute__") = false by decide +kernel]
    rfl
  unfold getAttr? getAttrBy? getAttrBy
  refine wpAny_bind (wpAny_mkText (wpAny_bind (wpAny_attempt (wpAny_holding (wpAny_bind (ty.at (wpAny_bind (lg.at ?_))))))))
  show wpAny _ _ (ite _ _ _) _ _ _
  rw [no, if_neg (by decide)]
  unfold getAttrByItsOwn hookBefore
  refine wpAny_bind ?_
  rw [if_pos (show onTheHeap (Value.ref D) = true by rfl)]
  refine lk.at (wpAny_bind (wpAny_attempt (wpAny_holding ?_)))
  unfold callGetattribute
  rw [if_neg (show ¬ (false && onTheHeap (Value.builtin "BaseException.__getattribute__")) = true by decide)]
  unfold boundAndCalled
  have hb := PySem.F.excAttr_ValueError.ga.bind (.ref x)
  rw [hb]
  refine wpAny_bind (wpAny_pure ?_)
  show wpAny _ _ (call _ _) _ _ _
  refine wpAny_call (codeAny_call_builtin PySem.F.excAttr_ValueError.ga.plain PySem.F.entry_bexc_ga ?_)
  refine @check_slot (model prog w) _ _ ⟨hp, g, d, t + 1, os⟩ "BaseException.__getattribute__" "BaseException" "__getattribute__" (.ref x) [.str "__class__" t] [] _ (by decide +kernel) (by decide +kernel) isB (PySem.F.args_bexc_ga _ _) ?_
  unfold Builtin.«object.__getattribute__»
  refine wpAny_bind (wpAny_of_eq (a := ((Value.ref x : Value), [Value.str "__class__" t])) (by first | rfl | (simp only [slotArgs]; rfl)) ?_)
  refine wpAny_bind (wpAny_pure (wpAny_bind (ty.at (wpAny_bind (lf.at ?_)))))
  show wpAny _ _ (holding _ _ >>= ret) _ _ _
  refine wpAny_bind (wpAny_holding (wpAny_call (class_get (s := ⟨hp, g, d, t + 1, os⟩) (ox := ox) (od := od) X I C.hm (wpAny_pure ?_))))
  show wpAny _ _ (handedOut _) _ _ _
  rw [show handedOut (.ref D) = _ from handedOut_of (v := .ref D) rfl]
  first
    | exact wpAny_pure h
    | exact wpAny_pure (wpAny_pure h)
    | exact wpAny_pure (wpAny_bind (wpAny_pure (wpAny_pure h)))
open PySem.W in
theorem kit_exc {K : Frag} {x D : Addr} {ox : Obj} {od : Option Obj} (C : ExcC K D) : KitX K (.ref x) (.ref D) (fun h => InstAt h x ox D od) := by
  obtain ⟨cd, hc, _⟩ := any_some C.hd
  obtain ⟨oD, hD, hdt⟩ : ∃ oD, K.lookup D = some oD ∧ oD.data = .cls cd := by
    unfold clsIn at hc
    split at hc
    · rename_i o
      cases hc
      exact ⟨_, o, rfl⟩
    · cases hc
  refine ⟨fun _ _ _ I => I.type, fun _ _ X _ A' Q' E' s' k q => ?_, fun h tp dd its n sl X ht => ?_, fun X I k => cls_asked C X I k⟩
  · unfold isType loadHead
    refine wpAny_bind (wpAny_loadPart (k _ _ (X _ _ hD)) ?_)
    rw [hdt]
    exact wpAny_pure q
  · refine Bool.eq_false_iff.mpr fun q => ?_
    obtain rfl : D = tp := Value.ref.inj (beq_iff_eq.mp q)
    have z := (X _ _ hD).symm.trans ht
    have z := Option.some.inj z
    rw [z] at hdt
    cases hdt
theorem call_isT {X : Cx} {a D : Addr} {oe : Obj} {cls : Value} {d : Option Addr} {pn : List (Addr × Obj)} (C : ExcC X.K D) (hz : Zc cls d oe) (hf : ∃ vs, oe.data = .fields vs) :
    CallR (X.suite a ((a, oe) :: pn)) (.builtin "isinstance") (fun xs H Q => ∃ (c : V) (cv : Value) (b : Bool) (dd : Addr) (fs : List (Str × V)), xs = [.ref a, c] ∧ (∀ u, RelV c u → u = cv) ∧ cls = .ref D ∧ d = some dd ∧ H dd = some (.xd fs) ∧ PySem.W.kitOne X.K (.ref D) cv = some b ∧ Q (.bl b) H) := by
  intro pins s σ H xs us Q I r h
  obtain ⟨c, cv, b, dd, fs, rfl, hcv, rfl, rfl, hd, e, q⟩ := h
  obtain ⟨u, v, rfl, ru, rv⟩ := Vals.two r
  obtain rfl : u = Value.ref a := ru
  obtain rfl := hcv _ rv
  obtain ⟨ha, _⟩ := I.pin (a, oe) (List.mem_append.mpr (.inl List.mem_cons_self))
  obtain ⟨vs, hv⟩ := hf
  obtain ⟨mA, ⟨od, _, _, ho, _⟩, _⟩ : ObjOk X.prog X.w H s.heap dd (.xd fs) := I.hok dd _ hd
  have J : PySem.W.InstAt s.heap a oe D (some od) := ⟨ha, hz.1, by unfold PySem.W.notCls; rw [hv] <;> rfl, by rw [hz.2]; exact ho⟩
  exact PySem.W.kia_one (kit_exc C) I.kIn J e (fun z => nomatch z) fun tk => ⟨.bl b, H, I.kept (t' := tk) fun _ _ z => z, rfl, q⟩
end K27

set_option Elab.async false
set_option linter.all false
set_option maxRecDepth 100000
set_option maxHeartbeats 1000000
/-! LA: FullCounts.fits, FullCounts.look. -/
namespace K27
open PySem PySem.Spec PyProof.Rows L2
open Evl (Ex)
theorem repS_go {K : PySem.W.Frag} {H : Hp} {a : Addr} {xs : List V} {k : Nat} {Q : VK} (ha : H a = some (.tup xs)) (hn : xs ≠ []) (hk : k ≤ 1000) (hz : xs.length ≤ 1000) (q : ∀ H' p, Ex H H' → H' p = some (.tup (List.replicate k xs).flatten) → Q (.ref p) H') : rRepS K (.ref a) (.int (k : Int)) H Q := by
  refine ⟨a, k, xs, rfl, rfl, SqT.of ha, hn, hk, hz, fun e => q _ _ (Ex.refl _) ?_, fun _ p hp => q _ _ (Ex.new hp) upd_same⟩
  subst e
  rw [ha]
  simp
structure FcT (K : PySem.W.Frag) (mg : Str → Option Value) (C : Addr) : Prop where
  cl : Cls K C
  nB : NoAttr K C "book"
  nC : NoAttr K C "cells"
  nF : NoAttr K C "found"
  gC : mg "FullCounts" = some (.ref C)
def FcAt (H : Hp) (C x dx a : Addr) (cells : Int) (F : Addr) : Prop := H x = some (.ins C dx [("book", .ref a), ("cells", .int cells), ("found", .ref F)])
section
variable {P : Program} {w : World} {K : PySem.W.Frag} {mg : Str → Option Value} {base : Heap}
abbrev s_fc_fits : Stmt := inClass (topS 30) 1
theorem sc_fc_fits : FnScope ["self", "counts"] ["self", "counts"] (defScope s_fc_fits) := ⟨rfl, rfl, rfl, by decide +kernel, rfl, by decide +kernel, by decide +kernel⟩
def sp_fc_fits (C : Addr) : Sp := fun vs H Q _ => ∃ x dx a cells F kk bk kt b cs, vs = [.ref x, .ref b] ∧ FcAt H C x dx a cells F ∧ BookAt H kk a bk ∧ IntsAt H kt b cs ∧ Nice bk cs ∧ ∀ H', Ex H H' → Q (.bl (decide (fact bk cs ≤ cells))) H'
theorem ok_fc_fits {C f : Addr} {fd : FuncData} (T : Txt K mg) (T2 : FcT K mg C) (c_raw_load : Cal P w K mg base CX0 2 "raw_load" ["book", "counts"] sp_raw_load) (F : Fun K "fits" "FullCounts.fits" s_fc_fits f fd) : FnOk P w K mg base CX0 3 f fd ["self", "counts"] (sp_fc_fits C) := by
  refine F.ok sc_fc_fits (fun vs H Q E h => ?_) (fun cdv A outer s H vs Q E hr h => ?_)
  · obtain ⟨x, dx, a, cells, F, kk, bk, kt, b, cs, rfl, _⟩ := h
    rfl
  · obtain ⟨x, dx, a, cells, F, kk, bk, kt, b, cs, rfl, hx, hB, hc, gn, q⟩ := h
    have hr_raw_load : Room 2 _ := hr
    refine ⟨_, (pss_one (ps_ret (pe_cmpR op_le (pe_ix (r := rIxQ K) ix_q (pe_cal c_raw_load hr_raw_load (pa_cons (pe_fld (pv 0) rfl) (pa_cons (pv 1) pa_nil))) pe_int (fun _ _ => rfl)) (pe_fld (pv 0) rfl) (nomark _)))), ?_⟩
    refine ⟨_, rfl, x, C, dx, _, _, rfl, hx, T2.cl, T2.nB, rfl, _, rfl, kk, a, bk, kt, b, cs, rfl, hB, hc, gn, fun H1 p m o e1 hp r => ?_⟩
    refine ⟨false, p, _, _, _, rfl, rfl, SqT.of hp, atI_nat (j := 0) rfl, _, rfl, x, C, dx, _, _, rfl, e1 _ _ hx, T2.cl, T2.nC, rfl, _, _, rfl, rfl, ?_⟩
    rw [r.eq]
    exact q _ e1
abbrev s_fc_look : Stmt := inClass (topS 30) 2
theorem sc_fc_look : FnScope ["self", "row", "rest", "most", "least", "many", "kind"] ["self", "row"] (defScope s_fc_look) := ⟨rfl, rfl, rfl, by decide +kernel, rfl, by decide +kernel, by decide +kernel⟩
/-- what look asks: the object, the book, the row so far, what is found so far -/
structure LookIn (H : Hp) (C x p dx a : Addr) (cells : Int) (F : Addr) (kk : Bool) (bk : List Kd) (r : List Int) (m : Nat) (xs : List V) (acc : List (List Int)) : Prop where
  row : H p = some (.tup (r.map V.int))
  obj : FcAt H C x dx a cells F
  book : BookAt H kk a bk
  good : GoodB bk
  small : ∀ k ∈ bk, aside k < 1073741824
  len : r.length + m = bk.length
  pos : ∀ c ∈ r, 0 ≤ c
  fit : fact bk (padTo bk r) ≤ cells
  c1 : 1 ≤ cells
  c2 : cells ≤ 60
  lst : H F = some (.lst xs)
  got : Paired (RowAt H) xs acc
  few : acc.length ≤ 2000
  ne : a ≠ F
def sp_fc_look (C T : Addr) (m : Nat) : Sp := fun vs H Q E => ∃ x p dx a cells F kk bk r xs acc, vs = [.ref x, .ref p] ∧ LookIn H C x p dx a cells F kk bk r m xs acc ∧
  ((acc ++ lookR bk cells m r).length ≤ 2000 → ∀ H' xs', ExB (· = F) H H' → H' F = some (.lst xs') → Paired (RowAt H') xs' (acc ++ lookR bk cells m r) → Q .non H') ∧
  (2000 < (acc ++ lookR bk cells m r).length → ∀ H' d, ExB (· = F) H H' → H' d = some (.xd [("most", .int 2000)]) → E (.ref T) (some d) H')
theorem tups_lst {H H' : Hp} {h : Addr} {xs : List V} (hx : H h = some (.lst xs)) (e : ExB (· = h) H H') : Tups H H' := fun p o k hp => e p o (fun z => by
  subst z
  have eo := Option.some.inj (hp.symm.trans hx)
  rcases k with ⟨_, k⟩ | ⟨_, _, k⟩ <;> (rw [eo] at k; cases k)) hp
theorem LookIn.small_c {H : Hp} {C x p dx a : Addr} {cells : Int} {F : Addr} {kk : Bool} {bk : List Kd} {r : List Int} {m : Nat} {xs : List V} {acc : List (List Int)} (L : LookIn H C x p dx a cells F kk bk r m xs acc) : ∀ c ∈ padTo bk r, c ≤ 60 := by
  intro c hc
  obtain ⟨i, hi⟩ := List.mem_iff_getElem?.mp hc
  have hlen := pad_len (bk := bk) (r := r) (by have := L.len; omega)
  have hk := List.getElem?_eq_getElem (l := bk) (i := i) (by
    have := (List.getElem?_eq_some_iff.mp hi).1
    omega)
  have := fact_ge L.good.all (pad_nn L.pos) hk hi
  have := L.fit
  have := L.c2
  omega
/-- the one at F may change, and what F held stays -/
theorem BookAt.upF {H H' : Hp} {F a : Addr} {k : Bool} {bk : List Kd} {xs : List V} (hF : H F = some (.lst xs)) (e : ExB (· = F) H H') (n : a ≠ F) (b : BookAt H k a bk) : BookAt H' k a bk := by
  obtain ⟨ys, h1, h2⟩ := b
  refine ⟨ys, ?_, Paired.up tm_kind (tups_lst hF e) h2⟩
  cases k with
  | true => exact e.get n h1
  | false => exact e.get n h1
theorem LookIn.anyF {H : Hp} {C x p dx a : Addr} {cells : Int} {F : Addr} {kk : Bool} {bk : List Kd} {r : List Int} {xs : List V} {acc : List (List Int)} (L : LookIn H C x p dx a cells F kk bk r 0 xs acc) (n : Nat) : Nice bk (addAt 1 n r) := by
  have hl := L.len
  have hp := pad_full (bk := bk) (r := r) (by omega)
  refine ⟨L.good.all, by have := L.good.most; omega, by rw [addAt_len]; omega, addAt_mem (P := fun c => 0 ≤ c) (fun c h => by omega) n r L.pos, fun c hc => ?_⟩
  obtain ⟨i, hi⟩ := List.mem_iff_getElem?.mp hc
  have hil := (List.getElem?_eq_some_iff.mp hi).1
  rw [addAt_len] at hil
  have z := List.getElem?_eq_getElem hil
  have h1 := Option.some.inj ((addAt_at 1 n r i _ z).symm.trans hi)
  have h2 := L.small_c r[i] (by rw [hp]; exact List.getElem_mem hil)
  split at h1 <;> omega
theorem ok_fc_look0 {C CT fT f ff : Addr} {fd fdf : FuncData} (T : Txt K mg) (T2 : FcT K mg C) (T3 : TmAt P K mg CT fT) (c_with_more : Cal P w K mg base CX0 1 "with_more" ["counts", "kind", "many"] sp_with_more) (c_most_more : Cal P w K mg base CX0 6 "most_more" ["book", "counts", "kind", "cells"] sp_most_more)
    (m_fits : Meth K C "fits" ff) (G_fits : FnOk P w K mg base CX0 3 ff fdf ["self", "counts"] (sp_fc_fits C)) (b_fits : Binds K fdf ["self", "counts"] []) (m_look : Meth K C "look" f) (b_look : Binds K fd ["self", "row"] [])
    (F : Fun K "look" "FullCounts.look" s_fc_look f fd) (kL m : Nat) (hkL : 7 ≤ kL) (G_look : ∀ m', m = m' + 1 → FnOk P w K mg base (L2.CX P w) kL f fd ["self", "row"] (sp_fc_look C CT m')) (G_look0 : FnOk P w K mg base (L2.CX P w) kL f fd ["self", "row"] (fun _ _ _ _ => False)) : FnOk P w K mg base (L2.CX P w) (kL + 1) f fd ["self", "row"] (sp_fc_look C CT m) := by
  refine F.okX sc_fc_look (fun vs H Q E h => ?_) (fun cdv A outer s H vs Q E hr h => ?_)
  · obtain ⟨x, p, dx, a, cells, F, kk, bk, r, xs, acc, rfl, _⟩ := h
    rfl
  · obtain ⟨x, p, dx, a, cells, F, kk, bk, r, xs, acc, rfl, L, q, qe⟩ := h
    have hr_most_more : Room 6 _ := hr.mono (by omega)
    have hr_with_more : Room 1 _ := hr.mono (by omega)
    have hr_fits : Room 3 _ := hr.mono (by omega)
    have hr_tm : Room 1 _ := hr.mono (by omega)
    have hr_look : Room kL _ := hr
    obtain ⟨bs, hbs, hpk⟩ := id L.book
    have lbs := paired_len hpk
    have lm := L.len
    have lb := L.good.most
    cases m with
    | zero =>
      have G_look := G_look0
      refine ⟨_, (pss_cons (ps_set (i := 2) sc_fc_look.nd rfl (Or.inl rfl) (pe_op (r := rRepS K) op_repS (pe_tup (pa_cons pe_int pa_nil)) (pe_op op_sub (pe_callB (r := Evl.rLenS K) call_len_seq (by rfl) T.b_len (by decide +kernel) (pa_cons (pe_fld (pv 0) rfl) pa_nil)) (pe_callB (r := Evl.rLenS K) call_len_seq (by rfl) T.b_len (by decide +kernel) (pa_cons (pv 1) pa_nil)))))
      (pss_cons (ps_if (pt_cmpR op_eq (pe_callB (r := Evl.rLenS K) call_len_seq (by rfl) T.b_len (by decide +kernel) (pa_cons (pv 2) pa_nil)) pe_int (nomark _))
        (pss_cons (ps_if (pt_not (pt_val (pe_callB (r := rAny K) (cr_any rfl) (by rfl) T.b_any (by decide +kernel) (pa_cons (pe_lc (own := [("kind", 6)]) (g := gName 6) (tt := tYes) rfl sc_fc_look.nd (pi_range1 (by rfl) T.b_range (pa_cons (pe_callB (r := Evl.rLenS K) call_len_seq (by rfl) T.b_len (by decide +kernel) (pa_cons (pe_fld (pv 0) rfl) pa_nil)) pa_nil)) (blkOk_by (N := ["self", "row", "rest", "most", "least", "many", "kind"]) (sc := defScope s_fc_look) (by decide +kernel)) (fun _ _ _ _ _ => (pg_name (i := 6) sc_fc_look.nd rfl (Or.inl rfl))) (fun _ _ _ _ _ => pts_nil) (fun _ _ _ _ _ => (pe_meth (E := E0) (pv 0) T2.cl m_fits G_fits hr_fits b_fits .nil pass0 (pa_cons (pe_cal c_with_more hr_with_more (pa_cons (pv 1) (pa_cons (pv 6) (pa_cons pe_int pa_nil)))) pa_nil)))) pa_nil))))
          (pss_one (ps_expr (pe_bm PySem.F.plainAttrs_list PySem.F.slot_list_append PySem.F.type_list_append mt_append (pe_fld (pv 0) rfl) (pa_cons (pv 1) pa_nil)))) pss_nil)
        (pss_cons (ps_if (pt_cmpR op_gt (pe_callB (r := Evl.rLenS K) call_len_seq (by rfl) T.b_len (by decide +kernel) (pa_cons (pe_fld (pv 0) rfl) pa_nil)) (pe_glob (v := .int (2000)) (by rfl) T.c_MOST_FULL.choose_spec ⟨_, rfl⟩) (nomark _))
          (pss_one (ps_raise rfl (takes_of rfl rfl rfl rfl) (pmk_tm T3 hr_tm (pe_glob (v := .int (2000)) (by rfl) T.c_MOST_FULL.choose_spec ⟨_, rfl⟩) rfl))) pss_nil)
        (pss_one ps_retN))) pss_nil)
      (pss_cons (ps_set (i := 3) sc_fc_look.nd rfl (Or.inl rfl) (pe_cal c_most_more hr_most_more (pa_cons (pe_fld (pv 0) rfl) (pa_cons (pe_op (r := rCatA K) op_catA (pv 1) (pv 2)) (pa_cons (pe_callB (r := Evl.rLenS K) call_len_seq (by rfl) T.b_len (by decide +kernel) (pa_cons (pv 1) pa_nil)) (pa_cons (pe_fld (pv 0) rfl) pa_nil))))))
      (pss_cons (ps_set (i := 4) sc_fc_look.nd rfl (Or.inl rfl) (pe_ifExp (pt_cmpR op_eq (pe_callB (r := Evl.rLenS K) call_len_seq (by rfl) T.b_len (by decide +kernel) (pa_cons (pv 2) pa_nil)) pe_int (nomark _)) (pv 3) pe_int))
      (pss_one (ps_for (passes_of rfl) rfl (pi_range2 (by rfl) T.b_range (pa_cons (pv 4) (pa_cons (pe_op op_add (pv 3) pe_int) pa_nil))) (pg_name (i := 5) sc_fc_look.nd rfl (Or.inl rfl))
        (pss_one (ps_expr (pe_meth (E := E) (pv 0) T2.cl m_look G_look hr_look b_look .nil (passes_call (takes_of rfl rfl rfl rfl) fun _ _ _ _ h => h) (pa_cons (pe_op (r := rCatA K) op_catA (pv 1) (pe_tup (pa_cons (pv 5) pa_nil))) pa_nil)))))))))), ?_⟩
      -- rest
      refine ⟨by show 1 ≤ sizeLine; decide, fun p0 hp0 => ?_⟩
      have e1 := Ex.new (o := .tup [V.int 0]) hp0
      refine ⟨_, rfl, x, C, dx, _, _, rfl, e1 _ _ L.obj, T2.cl, T2.nB, rfl, a, bs, rfl, (hbs.up e1).lt, _, rfl, p, _, rfl, .inr (SqT.of (e1 _ _ L.row)), _, _, rfl, rfl, ?_⟩
      have ed : ((bs.length : Nat) : Int) - (((r.map V.int).length : Nat) : Int) = ((0 : Nat) : Int) := by
        rw [List.length_map]
        omega
      show rRepS K (.ref p0) (.int (((bs.length : Nat) : Int) - (((r.map V.int).length : Nat) : Int))) _ _
      rw [ed]
      refine repS_go (k := 0) upd_same (fun z => nomatch z) (by decide) (by decide) fun H2 p2 e2 hp2 => ?_
      have e12 := e1.trans e2
      have hp2 : H2 p2 = some (.tup []) := hp2
      refine ⟨_, rfl, p2, [], rfl, .inr (SqT.of hp2), rfl, _, rfl, ?_⟩
      rw [dec_intV]
      refine iteT ?_
      -- no more fits
      have hF2 := e12 _ _ L.lst
      refine seq_gen (fun σ H' => ∃ xs', σ = [some (.ref x), some (.ref p), some (.ref p2), none, none, none, none] ∧ ExB (· = F) H H' ∧ H' F = some (.lst xs') ∧ Paired (RowAt H') xs' (acc ++ lookR bk cells 0 r) ∧ FcAt H' C x dx a cells F) (fun σ H' ⟨xs', es, eB, hF', hP', hO'⟩ => ?_) fun B hB => ?_
      · subst es
        have lp := paired_len hP'
        refine ⟨_, rfl, x, C, dx, _, _, rfl, hO', T2.cl, T2.nF, rfl, F, xs', rfl, .inl (SqL.of hF'), _, _, rfl, rfl, _, rfl, ?_⟩
        by_cases hbig : (2000 : Int) < (xs'.length : Int)
        · rw [decide_eq_true hbig]
          refine iteT ⟨2000, rfl, fun d hd => ?_⟩
          exact qe (by omega) _ d (eB.trans (ExB.of (Ex.new hd))) upd_same
        · rw [decide_eq_false hbig]
          refine iteF ?_
          exact q (by omega) _ xs' eB hF' hP'
      refine ⟨_, rfl, x, C, dx, _, _, rfl, e12 _ _ L.obj, T2.cl, T2.nB, rfl, a, bs, rfl, (hbs.up e12).lt, _, rfl, by omega, by omega, fun D hD => lc_pure (walk_r0 (n := bk.length) (by omega)) hD tm_bl ((List.range bk.length).map fun i => decide (fact bk (addAt 1 i r) ≤ cells)) (by rw [List.length_map, List.length_range]) (fun _ _ => trivial) (by omega)
        (fun i b x' H4 H5 K1 hm e4 y k1 => ?_) mono_name fun H3 xs3 e3 hx3 hp3 => ?_⟩
      · obtain ⟨eh, rfl⟩ := y
        subst eh
        have hi : i < bk.length := by
          have := (List.getElem?_eq_some_iff.mp hm).1
          rw [List.length_map, List.length_range] at this
          exact this
        rw [List.getElem?_map, List.getElem?_range hi] at hm
        obtain rfl := Option.some.inj hm
        have e14 := e12.trans e4
        refine ⟨rfl, _, rfl, x, dx, _, rfl, e14 _ _ L.obj, rfl, ?_⟩
        refine ⟨_, rfl, _, rfl, false, p, r, i, 1, rfl, e14 _ _ L.row, by omega, fun H6 p6 e6 hp6 => ?_⟩
        have e16 := e14.trans e6
        exact ⟨x, dx, a, cells, F, kk, bk, false, p6, addAt 1 i r, rfl, e16 _ _ L.obj, L.book.up e16, hp6, L.anyF i, fun H7 e7 => k1 _ _ (e6.trans e7) rfl⟩
      · rw [pair_bl hp3] at hx3
        have e13 := e12.trans e3
        have hF3 := e13 _ _ L.lst
        refine ⟨D, _, rfl, SqL.of hx3, ?_⟩
        have ea : ((List.range bk.length).map fun i => decide (fact bk (addAt 1 i r) ≤ cells)).any id = (List.range bk.length).any fun i => decide (fact bk (addAt 1 i r) ≤ cells) := by
          rw [List.any_map]
          rfl
        have el : lookR bk cells 0 r = if (List.range bk.length).any fun i => decide (fact bk (addAt 1 i r) ≤ cells) then [] else [r] := rfl
        refine ⟨_, rfl, ?_⟩
        cases hany : (List.range bk.length).any fun i => decide (fact bk (addAt 1 i r) ≤ cells) with
        | true =>
          rw [ea, hany]
          rw [hany, if_pos rfl] at el
          refine iteF (hB _ _ ⟨xs, rfl, ExB.of e13, hF3, ?_, e13 _ _ L.obj⟩)
          rw [el, List.append_nil]
          exact Paired.up tm_row (Tups.of e13) L.got
        | false =>
          rw [ea, hany]
          rw [hany, if_neg (by decide)] at el
          have lx := paired_len L.got
          have lf := L.few
          refine iteT ⟨_, rfl, x, C, dx, _, _, rfl, e13 _ _ L.obj, T2.cl, T2.nF, rfl, .inl ⟨rfl, _, SqL.of hF3⟩, _, rfl, F, xs, _, rfl, rfl, hF3, Nat.lt_of_le_of_lt (show xs.length ≤ 2000 by omega) (by decide), ?_⟩
          refine hB _ _ ⟨xs ++ [.ref p], rfl, (ExB.of e13).trans ExB.set, upd_same, ?_, ?_⟩
          · rw [el]
            exact Paired.up tm_row (Tups.lst hF3) (Paired.snoc (Paired.up tm_row (Tups.of e13) L.got) ⟨p, rfl, e13 _ _ L.row⟩)
          · unfold FcAt
            rw [upd_ne (ne_of (e13 _ _ L.obj) hF3 (fun z => nomatch z))]
            exact e13 _ _ L.obj
    | succ m =>
      have G_look := G_look m rfl
      refine ⟨_, (pss_cons (ps_set (i := 2) sc_fc_look.nd rfl (Or.inl rfl) (pe_op (r := rRepS K) op_repS (pe_tup (pa_cons pe_int pa_nil)) (pe_op op_sub (pe_callB (r := Evl.rLenS K) call_len_seq (by rfl) T.b_len (by decide +kernel) (pa_cons (pe_fld (pv 0) rfl) pa_nil)) (pe_callB (r := Evl.rLenS K) call_len_seq (by rfl) T.b_len (by decide +kernel) (pa_cons (pv 1) pa_nil)))))
      (pss_cons (ps_if (pt_cmpR op_eq (pe_callB (r := Evl.rLenS K) call_len_seq (by rfl) T.b_len (by decide +kernel) (pa_cons (pv 2) pa_nil)) pe_int (nomark _))
        (pss_cons (ps_if (pt_not (pt_val (pe_callB (r := rAny K) (cr_any rfl) (by rfl) T.b_any (by decide +kernel) (pa_cons (pe_lc (own := [("kind", 6)]) (g := gName 6) (tt := tYes) rfl sc_fc_look.nd (pi_range1 (by rfl) T.b_range (pa_cons (pe_callB (r := Evl.rLenS K) call_len_seq (by rfl) T.b_len (by decide +kernel) (pa_cons (pe_fld (pv 0) rfl) pa_nil)) pa_nil)) (blkOk_by (N := ["self", "row", "rest", "most", "least", "many", "kind"]) (sc := defScope s_fc_look) (by decide +kernel)) (fun _ _ _ _ _ => (pg_name (i := 6) sc_fc_look.nd rfl (Or.inl rfl))) (fun _ _ _ _ _ => pts_nil) (fun _ _ _ _ _ => (pe_meth (E := E0) (pv 0) T2.cl m_fits G_fits hr_fits b_fits .nil pass0 (pa_cons (pe_cal c_with_more hr_with_more (pa_cons (pv 1) (pa_cons (pv 6) (pa_cons pe_int pa_nil)))) pa_nil)))) pa_nil))))
          (pss_one (ps_expr (pe_bm PySem.F.plainAttrs_list PySem.F.slot_list_append PySem.F.type_list_append mt_append (pe_fld (pv 0) rfl) (pa_cons (pv 1) pa_nil)))) pss_nil)
        (pss_cons (ps_if (pt_cmpR op_gt (pe_callB (r := Evl.rLenS K) call_len_seq (by rfl) T.b_len (by decide +kernel) (pa_cons (pe_fld (pv 0) rfl) pa_nil)) (pe_glob (v := .int (2000)) (by rfl) T.c_MOST_FULL.choose_spec ⟨_, rfl⟩) (nomark _))
          (pss_one (ps_raise rfl (takes_of rfl rfl rfl rfl) (pmk_tm T3 hr_tm (pe_glob (v := .int (2000)) (by rfl) T.c_MOST_FULL.choose_spec ⟨_, rfl⟩) rfl))) pss_nil)
        (pss_one ps_retN))) pss_nil)
      (pss_cons (ps_set (i := 3) sc_fc_look.nd rfl (Or.inl rfl) (pe_cal c_most_more hr_most_more (pa_cons (pe_fld (pv 0) rfl) (pa_cons (pe_op (r := rCatA K) op_catA (pv 1) (pv 2)) (pa_cons (pe_callB (r := Evl.rLenS K) call_len_seq (by rfl) T.b_len (by decide +kernel) (pa_cons (pv 1) pa_nil)) (pa_cons (pe_fld (pv 0) rfl) pa_nil))))))
      (pss_cons (ps_set (i := 4) sc_fc_look.nd rfl (Or.inl rfl) (pe_ifExp (pt_cmpR op_eq (pe_callB (r := Evl.rLenS K) call_len_seq (by rfl) T.b_len (by decide +kernel) (pa_cons (pv 2) pa_nil)) pe_int (nomark _)) (pv 3) pe_int))
      (pss_one (ps_for (passes_of rfl) rfl (pi_range2 (by rfl) T.b_range (pa_cons (pv 4) (pa_cons (pe_op op_add (pv 3) pe_int) pa_nil))) (pg_name (i := 5) sc_fc_look.nd rfl (Or.inl rfl))
        (pss_one (ps_expr (pe_meth (E := E) (pv 0) T2.cl m_look G_look hr_look b_look .nil (passes_call (takes_of rfl rfl rfl rfl) fun _ _ _ _ h => h) (pa_cons (pe_op (r := rCatA K) op_catA (pv 1) (pe_tup (pa_cons (pv 5) pa_nil))) pa_nil)))))))))), ?_⟩
      refine ⟨by show 1 ≤ sizeLine; decide, fun p0 hp0 => ?_⟩
      have e1 := Ex.new (o := .tup [V.int 0]) hp0
      refine ⟨_, rfl, x, C, dx, _, _, rfl, e1 _ _ L.obj, T2.cl, T2.nB, rfl, a, bs, rfl, (hbs.up e1).lt, _, rfl, p, _, rfl, .inr (SqT.of (e1 _ _ L.row)), _, _, rfl, rfl, ?_⟩
      have ed : ((bs.length : Nat) : Int) - (((r.map V.int).length : Nat) : Int) = ((m + 1 : Nat) : Int) := by
        rw [List.length_map]
        omega
      show rRepS K (.ref p0) (.int (((bs.length : Nat) : Int) - (((r.map V.int).length : Nat) : Int))) _ _
      rw [ed]
      refine repS_go (k := m + 1) upd_same (fun z => nomatch z) (by omega) (by decide) fun H2 p2 e2 hp2 => ?_
      have e12 := e1.trans e2
      have ez : (List.replicate (m + 1) [V.int 0]).flatten = (List.replicate (m + 1) (0 : Int)).map V.int := by
        rw [List.map_replicate]
        induction m + 1 with
        | zero => rfl
        | succ n ih =>
          rw [List.replicate_succ, List.flatten_cons, ih, List.replicate_succ]
          rfl
      rw [ez] at hp2
      have hrest : ∀ H' : Hp, H' p2 = some (.tup ((List.replicate (m + 1) (0 : Int)).map V.int)) → SqT K H' p2 ((List.replicate (m + 1) (0 : Int)).map V.int) := fun H' z => SqT.of z
      have lrest : ((List.replicate (m + 1) (0 : Int)).map V.int).length = m + 1 := by rw [List.length_map, List.length_replicate]
      refine ⟨_, rfl, p2, _, rfl, .inr (SqT.of hp2), rfl, _, rfl, ?_⟩
      rw [lrest, dec_intV, decide_eq_false (show ¬ ((m + 1 : Nat) : Int) = 0 by omega)]
      refine iteF ?_
      -- most
      have hrl : r.length < bk.length := by omega
      obtain ⟨m1, m2, m3, m4⟩ := most_is L.good.all hrl L.pos L.fit
      have hk := List.getElem?_eq_getElem hrl
      have ek : bk.getD r.length noKd = bk[r.length] := getD_at hk
      have sc := L.small_c
      have c2 := L.c2
      refine ⟨_, rfl, x, C, dx, _, _, rfl, e12 _ _ L.obj, T2.cl, T2.nB, rfl, _, rfl, _, rfl, catA_go (e12 _ _ L.row) hp2 (by rw [List.length_map, lrest]; exact Nat.le_trans (show r.length + (m + 1) ≤ 12 by omega) (by decide)) fun H3 p3 e3 hp3 => ?_⟩
      have e13 := e12.trans e3
      have ep3 : r.map V.int ++ (List.replicate (m + 1) (0 : Int)).map V.int = (padTo bk r).map V.int := by
        unfold padTo
        rw [List.map_append, show bk.length - r.length = m + 1 by omega]
      rw [ep3] at hp3
      have gcp : GoodC bk (padTo bk r) := ⟨pad_len (Nat.le_of_lt hrl), pad_nn L.pos, fun c hc => by
        have := sc c hc
        omega⟩
      refine ⟨_, rfl, p, _, rfl, .inr (SqT.of (e13 _ _ L.row)), _, rfl, x, C, dx, _, _, rfl, e13 _ _ L.obj, T2.cl, T2.nC, rfl, ?_⟩
      refine ⟨kk, a, bk, false, p3, padTo bk r, r.length, bk[r.length], cells, ?_, L.book.up e13, L.good, hp3, gcp, hk, L.small _ (List.getElem_mem hrl), L.c1, by omega, fun H4 e4 => ?_⟩
      · rw [List.length_map]
        rfl
      have e14 := e13.trans e4
      have em : moreF bk (padTo bk r) r.length bk[r.length] cells = mostAt bk cells r := by
        unfold mostAt
        rw [ek]
      rw [em]
      have eln : lookR bk cells (m + 1) r = (List.range (mostAt bk cells r + 1 - (if m = 0 then mostAt bk cells r else 0)).toNat).flatMap fun t : Nat => lookR bk cells m (r ++ [(if m = 0 then mostAt bk cells r else 0) + (t : Int)]) := rfl
      rw [eln] at q qe
      generalize mostAt bk cells r = M at *
      -- least
      have loop : ∀ Lz : Int, (if m = 0 then M else 0) = Lz → tFor (iRng2 (tCons (tVar 4) (tCons (tOp (rI0 fun i j => V.int (i + j)) (tVar 3) (tC (V.int 1))) tNil))) (gName 5) (tDrop (tMeth C "look" (sp_fc_look C CT m) [] E (tVar 0) (tCons (tOp (rCatA K) (tVar 1) (tTup (tCons (tVar 5) tNil))) tNil))) { nx := fun _ H' => Q V.non H', rt := Q }
          [some (.ref x), some (.ref p), some (.ref p2), some (.int M), some (.int Lz), none, none] H4 := by
        intro Lz hL
        have hLz : 0 ≤ Lz ∧ Lz ≤ M := by
          rw [← hL]
          split <;> omega
        rw [hL] at q qe
        refine ⟨_, rfl, _, rfl, _, _, rfl, rfl, Lz, M + 1, rfl, ⟨by omega, by omega, by omega, by omega⟩, for_it (walk_range (lo := Lz) (n := (M + 1 - Lz).toNat)) (fun i σ H' => ∃ y5 xs', σ = [some (.ref x), some (.ref p), some (.ref p2), some (.int M), some (.int Lz), y5, none] ∧ ExB (· = F) H H' ∧ H' F = some (.lst xs') ∧
          Paired (RowAt H') xs' (acc ++ (List.range i).flatMap fun t : Nat => lookR bk cells m (r ++ [Lz + (t : Int)])) ∧ FcAt H' C x dx a cells F ∧ xs'.length ≤ 2000) ⟨none, xs, rfl, ExB.of e14, e14 _ _ L.lst, ?_, e14 _ _ L.obj, ?_⟩ (fun _ _ _ _ _ => trivial) ?_ ?_⟩
        · rw [show List.range 0 = [] from rfl, List.flatMap_nil, List.append_nil]
          exact Paired.up tm_row (Tups.of e14) L.got
        · have := paired_len L.got
          have := L.few
          omega
        · rintro i y σ H5 H6 hi ⟨y5, xs', rfl, eB, hF', hP', hO', hl'⟩ ⟨eh, rfl⟩
          subst eh
          have hp6 : H6 p = some (.tup (r.map V.int)) := eB.get (ne_of L.lst L.row (fun z => nomatch z)).symm L.row
          have hB6 : BookAt H6 kk a bk := by
            exact BookAt.upF L.lst eB L.ne L.book
          refine ⟨_, rfl, x, dx, _, rfl, hO', rfl, ?_⟩
          refine ⟨_, rfl, _, rfl, by show 1 ≤ sizeLine; decide, fun p7 hp7 => ?_⟩
          have e7 := Ex.new (o := .tup [V.int (Lz + (i : Int))]) hp7
          refine catA_go (e7 _ _ hp6) upd_same (by rw [List.length_map]; exact Nat.le_trans (show r.length + 1 ≤ 13 by omega) (by decide)) fun H8 p8 e8 hp8 => ?_
          have e68 := e7.trans e8
          have er : r.map V.int ++ [V.int (Lz + (i : Int))] = (r ++ [Lz + (i : Int)]).map V.int := by
            rw [List.map_append]
            rfl
          rw [er] at hp8
          have hv0 : 0 ≤ Lz + (i : Int) ∧ Lz + (i : Int) ≤ M := by omega
          have hF8 := e68 _ _ hF'
          have lp := paired_len hP'
          have nx : (List.range (i + 1)).flatMap (fun t : Nat => lookR bk cells m (r ++ [Lz + (t : Int)])) = ((List.range i).flatMap fun t : Nat => lookR bk cells m (r ++ [Lz + (t : Int)])) ++ lookR bk cells m (r ++ [Lz + (i : Int)]) := by
            rw [List.range_succ, List.flatMap_append, List.flatMap_cons, List.flatMap_nil, List.append_nil]
          refine ⟨x, p8, dx, a, cells, F, kk, bk, r ++ [Lz + (i : Int)], xs', acc ++ (List.range i).flatMap fun t : Nat => lookR bk cells m (r ++ [Lz + (t : Int)]), rfl, ⟨hp8, e68 _ _ hO', hB6.up e68, L.good, L.small, ?_, ?_, ?_, L.c1, c2, hF8, Paired.up tm_row (Tups.of e68) hP', by omega, L.ne⟩, fun hle H9 xs9 e9 hx9 hp9 => ?_, fun hgt H9 d e9 hd9 => ?_⟩
          · rw [List.length_append, List.length_singleton]
            omega
          · intro c hc
            rcases List.mem_append.mp hc with h | h
            · exact L.pos c h
            · rw [List.mem_singleton.mp h]
              exact hv0.1
          · exact Int.le_trans (fact_pad_le L.good.all hrl hv0.2) m2
          · have l9 := paired_len hp9
            rw [List.append_assoc, ← nx] at hp9
            refine ⟨_, xs9, rfl, (eB.trans (ExB.of e68)).trans e9, hx9, hp9, e9.get ?_ (e68 _ _ hO'), by omega⟩
            exact ne_of (e68 _ _ hO') hF8 (fun z => nomatch z)
          · refine qe ?_ H9 d ((eB.trans (ExB.of e68)).trans e9) hd9
            rw [List.append_assoc, ← nx] at hgt
            refine Nat.lt_of_lt_of_le hgt ?_
            rw [List.length_append, List.length_append]
            refine Nat.add_le_add_left ?_ _
            obtain ⟨t, ht⟩ := Nat.exists_eq_add_of_le (show i + 1 ≤ (M + 1 - Lz).toNat from hi)
            have er2 : List.range (i + 1 + t) = List.range (i + 1) ++ (List.range t).map (i + 1 + ·) := List.range_add
            rw [ht, er2, List.flatMap_append, List.length_append]
            exact Nat.le_add_right _ _
        · rintro σ H5 ⟨y5, xs', rfl, eB, hF', hP', hO', hl'⟩
          have lp := paired_len hP'
          exact q (by omega) H5 xs' eB hF' hP'
      refine ⟨_, rfl, p2, _, rfl, .inr (SqT.of ((e3.trans e4) _ _ hp2)), rfl, _, rfl, ?_⟩
      rw [lrest, dec_intV]
      by_cases hm : m = 0
      · rw [decide_eq_true (show ((m + 1 : Nat) : Int) = 1 by omega)]
        exact iteT ⟨_, rfl, loop M (if_pos hm)⟩
      · rw [decide_eq_false (show ¬ ((m + 1 : Nat) : Int) = 1 by omega)]
        exact iteF (loop 0 (if_neg hm))
theorem fn_none {kL : Nat} {f : Addr} {fd : FuncData} {ps : List Str} : FnOk P w K mg base (L2.CX P w) kL f fd ps (fun _ _ _ _ => False) := ⟨fun _ _ _ _ h => h.elim, fun _ _ _ _ _ _ _ _ _ _ _ _ _ h => h.elim⟩
/-- look, by the kinds left -/
theorem ok_fc_look {C CT fT f ff : Addr} {fd fdf : FuncData} (T : Txt K mg) (T2 : FcT K mg C) (T3 : TmAt P K mg CT fT) (c_with_more : Cal P w K mg base CX0 1 "with_more" ["counts", "kind", "many"] sp_with_more) (c_most_more : Cal P w K mg base CX0 6 "most_more" ["book", "counts", "kind", "cells"] sp_most_more)
    (m_fits : Meth K C "fits" ff) (G_fits : FnOk P w K mg base CX0 3 ff fdf ["self", "counts"] (sp_fc_fits C)) (b_fits : Binds K fdf ["self", "counts"] []) (m_look : Meth K C "look" f) (b_look : Binds K fd ["self", "row"] [])
    (F : Fun K "look" "FullCounts.look" s_fc_look f fd) : ∀ m : Nat, FnOk P w K mg base (L2.CX P w) (8 + m) f fd ["self", "row"] (sp_fc_look C CT m)
  | 0 => ok_fc_look0 T T2 T3 c_with_more c_most_more m_fits G_fits b_fits m_look b_look F 7 0 (Nat.le_refl _) (fun _ z => nomatch z) fn_none
  | m + 1 => ok_fc_look0 T T2 T3 c_with_more c_most_more m_fits G_fits b_fits m_look b_look F (8 + m) (m + 1) (by omega) (fun m' z => by
      obtain rfl := Nat.succ.inj z
      exact ok_fc_look T T2 T3 c_with_more c_most_more m_fits G_fits b_fits m_look b_look F m) fn_none
end
end K27

set_option Elab.async false
set_option linter.all false
set_option maxRecDepth 100000
set_option maxHeartbeats 1000000
/-! LB: FullCounts.__init__, full_counts. -/
namespace K27
open PySem PySem.Spec PyProof.Rows L2
open Evl (Ex)
theorem fact_none {bk : List Kd} {cs : List Int} (h : ∀ c ∈ cs, c = 0) : fact bk cs = 0 :=
  (IsFact.eq ⟨Int.le_refl _, fun j k c _ h2 h3 => by
    have := h c (List.mem_of_getElem? h2)
    omega, .inl rfl⟩ (fact_is bk cs)).symm
theorem pad_nil {bk : List Kd} : ∀ c ∈ padTo bk [], c = 0 := fun c hc => by
  rcases List.mem_append.mp hc with h | h
  · cases h
  · exact (List.mem_replicate.mp h).2
theorem ExB.two {H H1 H2 : Hp} {x F : Addr} (e : ExB (· = x) H H1) (e6 : ExB (· = F) H1 H2) (n : H F = none) : ExB (· = x) H H2 := fun a o na ha => e6 a o (fun z => by
  subst z
  rw [n] at ha
  cases ha) (e a o na ha)
theorem BookAt.updI {H : Hp} {x a C dx : Addr} {fs : List (Str × V)} {o : HO} {k : Bool} {bk : List Kd} (hx : H x = some (.ins C dx fs)) (b : BookAt H k a bk) : BookAt (upd H x o) k a bk := by
  obtain ⟨ys, h1, h2⟩ := b
  refine ⟨ys, ?_, Paired.up tm_kind (fun p o k hp => ?_) h2⟩
  · cases k with
    | true => exact (upd_ne (ne_of h1 hx (fun z => nomatch z))).trans h1
    | false => exact (upd_ne (ne_of h1 hx (fun z => nomatch z))).trans h1
  · rw [upd_ne (ne_of hp hx (by
      intro z
      subst z
      rcases k with ⟨_, k⟩ | ⟨_, _, k⟩ <;> cases k))]
    exact hp
theorem look_rows {bk : List Kd} {cells : Int} (g : GoodB bk) (h1 : 1 ≤ cells) : lookR bk cells bk.length [] = (allOf cells bk.length []).filter (isDue bk cells) := by
  refine look_is g.all _ [] (by simp) (fun c h => by simp at h) ?_
  rw [fact_none pad_nil]
  omega
theorem look_sorted {bk : List Kd} {cells : Int} (g : GoodB bk) (h1 : 1 ≤ cells) : (lookR bk cells bk.length []).Pairwise (fun p q => p ≤ q) ∧ ∀ r ∈ lookR bk cells bk.length [], r ≠ [] := by
  rw [look_rows g h1]
  refine ⟨(all_sorted cells _ _).filter _, fun r hr => ?_⟩
  obtain ⟨s, e, l, _⟩ := all_mem _ _ _ (List.mem_filter.mp hr).1
  have := g.one
  rw [e]
  rintro z
  have z : s = [] := z
  rw [z] at l
  have l : 0 = bk.length := l
  omega
section
variable {P : Program} {w : World} {K : PySem.W.Frag} {mg : Str → Option Value} {base : Heap}
abbrev s_fc_init : Stmt := inClass (topS 30) 0
theorem sc_fc_init : FnScope ["self", "book", "cells"] ["self", "book", "cells"] (defScope s_fc_init) := ⟨rfl, rfl, rfl, by decide +kernel, rfl, by decide +kernel, by decide +kernel⟩
def sp_fc_init (C CT : Addr) : Sp := fun vs H Q E => ∃ x dx a cells kk bk, vs = [.ref x, .ref a, .int cells] ∧ H x = some (.ins C dx []) ∧ BookAt H kk a bk ∧ GoodB bk ∧ (∀ k ∈ bk, aside k < 1073741824) ∧ bk.length ≤ 4 ∧ 1 ≤ cells ∧ cells ≤ 60 ∧
  ((lookR bk cells bk.length []).length ≤ 2000 → ∀ H' F xs', ExB (· = x) H H' → FcAt H' C x dx a cells F → H' F = some (.lst xs') → Paired (RowAt H') xs' (lookR bk cells bk.length []) → Q .non H') ∧
  (2000 < (lookR bk cells bk.length []).length → ∀ H' d, ExB (· = x) H H' → H' d = some (.xd [("most", .int 2000)]) → E (.ref CT) (some d) H')
theorem ok_fc_init {C CT fl f : Addr} {fd fdl : FuncData} (T : Txt K mg) (T2 : FcT K mg C) (m_look : Meth K C "look" fl) (b_look : Binds K fdl ["self", "row"] []) (GL : ∀ m : Nat, FnOk P w K mg base (L2.CX P w) (8 + m) fl fdl ["self", "row"] (sp_fc_look C CT m))
    (F : Fun K "__init__" "FullCounts.__init__" s_fc_init f fd) : FnOk P w K mg base (L2.CX P w) 13 f fd ["self", "book", "cells"] (sp_fc_init C CT) := by
  refine F.okX sc_fc_init (fun vs H Q E h => ?_) (fun cdv A outer s H vs Q E hr h => ?_)
  · obtain ⟨x, dx, a, cells, kk, bk, rfl, _⟩ := h
    rfl
  · obtain ⟨x, dx, a, cells, kk, bk, rfl, hx, hB, g, hsm, l4, c1, c2, q, qe⟩ := h
    have G_look : FnOk P w K mg base (L2.CX P w) 12 fl fdl ["self", "row"] (sp_fc_look C CT bk.length) := (GL bk.length).mono (by omega)
    have hr_look : Room 12 _ := hr
    refine ⟨_, (pss_cons (ps_fld (pv 0) (pv 1) rfl)
      (pss_cons (ps_fld (pv 0) (pv 2) rfl)
      (pss_cons (ps_fld (pv 0) (pe_lst pa_nil) rfl)
      (pss_cons (ps_expr (pe_meth (E := E) (pv 0) T2.cl m_look G_look hr_look b_look .nil (passes_call (takes_of rfl rfl rfl rfl) fun _ _ _ _ h => h) (pa_cons (pe_tup pa_nil) pa_nil)))
      (pss_one (ps_fld (pv 0) (pe_callB (r := rSortRows K) (cr_sortedRows hr.units) (by rfl) T.b_sorted (by decide +kernel) (pa_cons (pe_fld (pv 0) rfl) pa_nil)) rfl)))))), ?_⟩
    refine ⟨_, rfl, _, rfl, x, C, dx, [], rfl, hx, T2.cl, T2.nB, by decide, ?_⟩
    have hx1 : (upd H x (.ins C dx [("book", .ref a)])) x = some (.ins C dx [("book", .ref a)]) := upd_same
    refine ⟨_, rfl, _, rfl, x, C, dx, _, rfl, hx1, T2.cl, T2.nC, by show 1 < 1000; decide, ?_⟩
    have hx2 : (upd (upd H x (.ins C dx [("book", .ref a)])) x (.ins C dx [("book", .ref a), ("cells", .int cells)])) x = some (.ins C dx [("book", .ref a), ("cells", .int cells)]) := upd_same
    refine ⟨by show 0 ≤ sizeLine; decide, fun F0 hF0 => ?_⟩
    have e3 := Ex.new (o := .lst []) hF0
    refine ⟨_, rfl, x, C, dx, _, rfl, e3 _ _ hx2, T2.cl, T2.nF, by show 2 < 1000; decide, ?_⟩
    have hB2 : BookAt (upd (upd H x (.ins C dx [("book", .ref a)])) x (.ins C dx [("book", .ref a), ("cells", .int cells)])) kk a bk := (hB.updI hx).updI hx1
    have hB4 := (hB2.up e3).updI (o := .ins C dx [("book", .ref a), ("cells", .int cells), ("found", .ref F0)]) (e3 _ _ hx2)
    have nxF : F0 ≠ x := fun z => by
      rw [z] at hF0
      exact nomatch (hx2.symm.trans hF0)
    have nHF : H F0 = none := by
      rw [upd_ne nxF, upd_ne nxF] at hF0
      exact hF0
    have eB4 : ExB (· = x) H (upd (upd (upd (upd H x (.ins C dx [("book", .ref a)])) x (.ins C dx [("book", .ref a), ("cells", .int cells)])) F0 (.lst [])) x (.ins C dx [("book", .ref a), ("cells", .int cells), ("found", .ref F0)])) :=
      ((ExB.set.trans ExB.set).trans (ExB.of e3)).trans ExB.set
    have hF4 : (upd (upd (upd (upd H x (.ins C dx [("book", .ref a)])) x (.ins C dx [("book", .ref a), ("cells", .int cells)])) F0 (.lst [])) x (.ins C dx [("book", .ref a), ("cells", .int cells), ("found", .ref F0)])) F0 = some (.lst []) := by
      rw [upd_ne nxF]
      exact upd_same
    have naF : a ≠ F0 := fun z => by
      obtain ⟨ys, h1, _⟩ := hB
      exact h1.some (z ▸ nHF)
    refine ⟨_, rfl, x, dx, _, rfl, upd_same, rfl, ?_⟩
    refine ⟨Nat.zero_le _, fun p5 hp5 => ?_⟩
    have e5 := Ex.new (o := .tup []) hp5
    refine ⟨x, p5, dx, a, cells, F0, kk, bk, [], [], [], rfl, ⟨upd_same, e5 _ _ upd_same, hB4.up e5, g, hsm, by simp, fun c h => by simp at h, ?_, c1, c2, e5 _ _ hF4, .nil, Nat.zero_le _, naF⟩, fun hle H6 xs6 e6 hx6 hp6 => ?_, fun hgt H6 d e6 hd6 => ?_⟩
    · rw [fact_none pad_nil]
      omega
    · rw [List.nil_append] at hle hp6
      have ho6 : FcAt H6 C x dx a cells F0 := e6.get nxF.symm (e5 _ _ upd_same)
      obtain ⟨s1, s2⟩ := look_sorted (cells := cells) g c1
      refine ⟨_, rfl, x, C, dx, _, _, rfl, ho6, T2.cl, T2.nF, rfl, F0, xs6, _, rfl, SqL.of hx6, hp6, s2, s1, fun p7 ys hp7 hy7 => ?_⟩
      have e7 := Ex.new (o := .lst ys) hp7
      refine ⟨_, rfl, x, C, dx, _, rfl, e7 _ _ ho6, T2.cl, T2.nF, by show 3 < 1000; decide, ?_⟩
      have nx7 : p7 ≠ x := fun z => by
        rw [z, ho6] at hp7
        cases hp7
      have nh : H6 x = some (.ins C dx [("book", .ref a), ("cells", .int cells), ("found", .ref F0)]) := ho6
      refine q hle _ p7 ys (((ExB.two (eB4.trans (ExB.of e5)) e6 nHF).trans (ExB.of e7)).trans ExB.set) upd_same ?_ ?_
      · rw [upd_ne nx7]
        exact upd_same
      · exact Paired.up tm_row (fun p o k hp => by
          rw [upd_ne (ne_of hp (e7 _ _ ho6) (by
            intro z
            subst z
            rcases k with ⟨_, k⟩ | ⟨_, _, k⟩ <;> cases k))]
          exact hp) (Paired.up tm_row (Tups.of e7) hy7)
    · rw [List.nil_append] at hgt
      exact qe hgt H6 d (ExB.two (eB4.trans (ExB.of e5)) e6 nHF) hd6
abbrev s_full_counts : Stmt := topS 29
theorem sc_full_counts : FnScope ["book", "cells"] ["book", "cells"] (defScope s_full_counts) := ⟨rfl, rfl, rfl, by decide +kernel, rfl, by decide +kernel, by decide +kernel⟩
def sp_full_counts (CT : Addr) : Sp := fun vs H Q E => ∃ a cells kk bk, vs = [.ref a, .int cells] ∧ BookAt H kk a bk ∧ GoodB bk ∧ (∀ k ∈ bk, aside k < 1073741824) ∧ bk.length ≤ 4 ∧ 1 ≤ cells ∧ cells ≤ 60 ∧
  ((lookR bk cells bk.length []).length ≤ 2000 → ∀ H' F xs', Ex H H' → H' F = some (.lst xs') → Paired (RowAt H') xs' (lookR bk cells bk.length []) → Q (.ref F) H') ∧
  (2000 < (lookR bk cells bk.length []).length → ∀ H' d, Ex H H' → H' d = some (.xd [("most", .int 2000)]) → E (.ref CT) (some d) H')
theorem ok_full_counts {C CT fi f : Addr} {fd fdi : FuncData} (T : Txt K mg) (T2 : FcT K mg C) (M : Mk K C fi) (b_init : Binds K fdi ["self", "book", "cells"] []) (G_init : FnOk P w K mg base (L2.CX P w) 13 fi fdi ["self", "book", "cells"] (sp_fc_init C CT))
    (c_check_kinds : Cal P w K mg base CX0 4 "check_kinds" ["book"] sp_check_kinds) (c_is_within : Cal P w K mg base CX0 2 "is_within" ["thing", "least", "most"] sp_is_within)
    (F : Fun K "full_counts" "full_counts" s_full_counts f fd) : FnOk P w K mg base (L2.CX P w) 15 f fd ["book", "cells"] (sp_full_counts CT) := by
  refine F.okX sc_full_counts (fun vs H Q E h => ?_) (fun cdv A outer s H vs Q E hr h => ?_)
  · obtain ⟨a, cells, kk, bk, rfl, _⟩ := h
    rfl
  · obtain ⟨a, cells, kk, bk, rfl, hB, g, hsm, l4, c1, c2, q, qe⟩ := h
    have hr_init : Room 14 _ := hr
    have hr_check_kinds : Room 4 _ := hr.mono (by decide)
    have hr_is_within : Room 2 _ := hr.mono (by decide)
    refine ⟨_, (pss_cons (ps_expr (pe_cal c_check_kinds hr_check_kinds (pa_cons (pv 0) pa_nil)))
      (pss_cons (ps_if (pt_not (pt_val (pe_cal c_is_within hr_is_within (pa_cons (pv 1) (pa_cons pe_int (pa_cons (pe_glob (v := .int (60)) (by rfl) T.c_MOST_FULL_CELLS.choose_spec ⟨_, rfl⟩) pa_nil))))))
        (pss_one ps_never) pss_nil)
      (pss_cons (ps_if (pt_cmpR op_gt (pe_callB (r := Evl.rLenS K) call_len_seq (by rfl) T.b_len (by decide +kernel) (pa_cons (pv 0) pa_nil)) (pe_glob (v := .int (4)) (by rfl) T.c_MOST_FULL_KINDS.choose_spec ⟨_, rfl⟩) (nomark _))
        (pss_one ps_never) pss_nil)
      (pss_one (ps_ret (pe_fld (pe_make M G_init hr_init rfl T2.gC b_init .nil (passes_call (takes_of rfl rfl rfl rfl) fun _ _ _ _ h => h) (pa_cons (pv 0) (pa_cons (pv 1) pa_nil))) rfl)))))), ?_⟩
    refine ⟨_, rfl, kk, a, bk, rfl, hB, g, fun H1 e1 => ?_⟩
    refine ⟨_, rfl, _, 1, 60, rfl, .inl ⟨_, rfl⟩, fun H2 e2 => ?_⟩
    have e12 := e1.trans e2
    obtain ⟨bs, hbs, hpk⟩ := id hB
    have lbs := paired_len hpk
    rw [show within (.int cells) 1 60 = true from within_yes c1 c2]
    refine ⟨_, rfl, iteF ?_⟩
    refine ⟨_, rfl, a, bs, rfl, (hbs.up e12).lt, _, _, rfl, rfl, _, rfl, ?_⟩
    rw [decide_eq_false (show ¬ (4 : Int) < (bs.length : Int) by omega)]
    refine iteF ?_
    refine ⟨_, rfl, _, rfl, fun x dx hx hdx nx => ?_⟩
    have e3 : Ex H2 (upd (upd H2 dx (.own x)) x (.ins C dx [])) := (Ex.new hdx).trans (Ex.new (by rw [upd_ne (Ne.symm nx)]; exact hx))
    have e13 := e12.trans e3
    have back : ∀ H', ExB (· = x) (upd (upd H2 dx (.own x)) x (.ins C dx [])) H' → Ex H H' := fun H' e p o hp => e p o (fun z => by
      subst z
      have := e12 _ _ hp
      rw [hx] at this
      cases this) (e13 _ _ hp)
    refine ⟨x, dx, a, cells, kk, bk, rfl, upd_same, hB.up e13, g, hsm, l4, c1, c2, fun hle H' F' xs' e ho hF hP => ⟨rfl, ?_⟩, fun hgt H' d e hd => qe hgt H' d (back H' e) hd⟩
    exact ⟨x, C, dx, _, _, rfl, ho, T2.cl, T2.nF, rfl, q hle H' F' xs' (back H' e) hF hP⟩
end
end K27

set_option Elab.async false
set_option linter.all false
set_option maxRecDepth 100000
set_option maxHeartbeats 1000000
/-! LC: _law_full_right. -/
namespace K27
open PySem PySem.Spec PyProof.Rows L2
open Evl (Ex)
theorem pe_calX {X : Cx} {k : Nat} {x : Str} {ps : List Str} {sp : Sp} {E : XK} {e : Expr} {es : List Expr} {t : TA} {p pos : Pos} (C : Cal X.prog X.w X.K X.mg X.base (L2.CX X.prog X.w) k x ps sp) (hr : Room k X.A) (hx : Passes (L2.CX X.prog X.w) X E) (ha : PA X (e :: es) t) (hg : Gl X x := by rfl)
    (he : starEach (e :: es) X.env = (false, eval e X.env) :: starEach es X.env := by rfl) (hpl : (backTo pos (starEach es X.env)).any (·.1) = false := by rfl) (hdb : (x == ("__debug__" : Str)) = false := by decide) : PE X (.Call (.Name x p) (e :: es) [] pos) (tCall sp [] E t) := by
  obtain ⟨f, fd, F, g, kp, b⟩ := C.ex
  exact pe_call F hr hg g kp b .nil hx ha hdb he hpl
/-- a comprehension over a list: it fills what os picks of the items' data -/
theorem lc_selL {J : It} {n : Nat} {G : Hp → Prop} {Y : Nat → Hp → V → Hp → Prop} (w : Walk J n G Y) {σ : L2.St} {H1 : Hp} {g : TG} {tt : TT} {te : TE} {vs : List Nat} {D : Addr} {Qd : Hp → Prop} {α β : Type} {R : Hp → V → α → Prop} (hDn : H1 D = none) (hR : TMono R) (ms : List β) (hn : ms.length = n) (os : β → Option α)
    (hG : ∀ H, Ex H1 H → G H) (sz : n ≤ 100000)
    (turn : ∀ i b x H H' (K1 : VK) (K2 : Hp → Prop), ms[i]? = some b → Ex H1 H → Y i H x H' → (∀ m, os b = some m → ∀ y H4, Ex H H4 → R H4 y m → K1 y H4) → (os b = none → ∀ H3, Ex H H3 → K2 H3) →
      g x (wipe σ vs) H' fun σ2 H2 => wipe σ2 vs = wipe σ vs ∧ tt σ2 H2 fun b H3 => if b = true then te σ2 H3 K1 else K2 H3)
    (done : ∀ H2 xs, Ex H1 H2 → H2 D = some (.lst xs) → Paired (R H2) xs (ms.filterMap os) → Qd H2) :
    ∃ W : Nat → Nat → Hp → Prop, (∃ m, W 0 m (upd H1 D (.lst []))) ∧ ∀ i m H, W i m H →
      (J.stop i H ∧ Qd H) ∨ (J.go i H ∧ ∃ Nx : Hp → Prop, (∀ H', Nx H' → ∃ m', m' < m ∧ W (i + 1) m' H') ∧ ∀ x H', J.yld i H x H' → g x (wipe σ vs) H' fun σ2 H2 => wipe σ2 vs = wipe σ vs ∧ tt σ2 H2 fun b H3 =>
        if b = true then te σ2 H3 fun y H4 => ∃ acc, H4 D = some (.lst acc) ∧ acc.length < sizeLine ∧ Nx (upd H4 D (.lst (acc ++ [y]))) else Nx H3) :=
  lc_fill w hDn S0 R hR (fun i zs H => Ex H1 H ∧ zs = (ms.take i).filterMap os) (fun _ z => z.elim) ⟨Ex.refl _, rfl⟩ (fun D ys i zs H hD ⟨e, q⟩ => ⟨Ex.mut e hD, q⟩) (fun i zs H _ p => hG H p.1) sz (fun i zs H p => by
      rw [p.2]
      exact Nat.le_trans (List.length_filterMap_le _ _) (List.length_take_le _ _)) (fun _ _ H H' e _ _ => Tups.of e.ex)
    (fun i zs x H H' K1 K2 hi p eb y k1 k2 => by
      obtain ⟨ex, rfl⟩ := p
      have hb : ms[i]? = some (ms[i]'(by omega)) := List.getElem?_eq_getElem (by omega)
      refine turn i _ x H H' K1 K2 hb ex y (fun m hm y H4 e4 r => k1 y H4 m r (ExB.of e4) ⟨ex.trans e4, ?_⟩) fun hm H3 e3 => k2 H3 (ExB.of e3) ⟨ex.trans e3, ?_⟩
      · rw [List.take_add_one, hb, List.filterMap_append]
        show _ = _ ++ List.filterMap os [_]
        rw [List.filterMap_cons, hm]
        rfl
      · rw [List.take_add_one, hb, List.filterMap_append]
        show _ = _ ++ List.filterMap os [_]
        rw [List.filterMap_cons, hm]
        show _ = _ ++ []
        rw [List.append_nil])
    (fun H2 xs zs eb hx hp p => done H2 xs p.1 hx (by
      rw [← List.take_of_length_le (l := ms) (i := n) (by omega), ← p.2]
      exact hp))
theorem addAt_cut : ∀ (i : Nat) (r : List Int) (c : Int), r[i]? = some c → r.take i ++ [c + 1] ++ r.drop (i + 1) = addAt 1 i r
  | i, [], c, h => by simp at h
  | 0, a :: r, c, h => by
    obtain rfl := Option.some.inj h
    rfl
  | i + 1, a :: r, c, h => by
    have ih := addAt_cut i r c h
    show a :: (r.take i ++ [c + 1] ++ r.drop (i + 1)) = a :: addAt 1 i r
    rw [ih]
/-! ### lists of rows, as data -/
def rowsD (rs : List (List Int)) : PyData := .list (rs.map fun r => .tuple (r.map PyData.int))
theorem dp_rows {K : PySem.W.Frag} {H : Hp} : ∀ {xs : List V} {rs : List (List Int)}, Paired (RowAt H) xs rs → DpAll K H xs (rs.map fun r => .tuple (r.map PyData.int))
  | _, _, .nil => .nil
  | _, _, .cons a t => by
    obtain ⟨p, rfl, hp⟩ := a
    exact .cons (.tup (SqT.of hp) (dp_row _)) (dp_rows t)
theorem canLay_row (r : List Int) : PyData.canLay0 (.tuple (r.map PyData.int)) = true := by
  have h1 : ∀ l : List Int, PyData.canLayAll0 (l.map PyData.int) = true := by
    intro l
    induction l with
    | nil => rfl
    | cons a l ih =>
      show (PyData.canLay0 (.int a) && PyData.canLayAll0 (l.map PyData.int)) = true
      rw [ih]
      rfl
  exact h1 r
theorem canLay_rows (rs : List (List Int)) : (rowsD rs).canLay0 = true := by
  show PyData.canLayAll0 (rs.map fun r => .tuple (r.map PyData.int)) = true
  induction rs with
  | nil => rfl
  | cons r rs ih =>
    show (PyData.canLay0 _ && PyData.canLayAll0 _) = true
    rw [canLay_row, ih]
    rfl
theorem depth_rows : ∀ rs : List (List Int), PyData.depthAll (rs.map fun r => PyData.tuple (r.map PyData.int)) ≤ 3
  | [] => by simp [PyData.depthAll]
  | r :: rs => by
    have h1 := depth_rows rs
    have h2 := depth_row r
    simp only [List.map_cons, PyData.depthAll, PyData.depth]
    omega
theorem shaped_rows (rs : List (List Int)) : SeqAt.shaped (rowsD rs) = true := by
  show (PyData.canLay0 _ && decide _) = true
  rw [canLay_rows, Bool.true_and]
  refine decide_eq_true ?_
  have := depth_rows rs
  simp only [rowsD, PyData.depth]
  omega
/-- what the law reckons -/
def dueP (bk : List Kd) (cells : Int) (r : List Int) : Bool := !((List.range r.length).any fun i => decide (fact bk (addAt 1 i r) ≤ cells))
def fitOf (bk : List Kd) (cells : Int) (r : List Int) : Option (List Int) := if fact bk r ≤ cells then some r else none
theorem due_rows {bk : List Kd} {cells : Int} (g : GoodB bk) (h1 : 1 ≤ cells) : ((everyAt cells bk.length).filterMap (fitOf bk cells)).filter (dueP bk cells) = lookR bk cells bk.length [] := by
  rw [look_rows g h1, every_is]
  have e : ∀ l : List (List Int), (∀ r ∈ l, r.length = bk.length) → (l.filterMap (fitOf bk cells)).filter (dueP bk cells) = l.filter (isDue bk cells) := by
    intro l
    induction l with
    | nil => intro _; rfl
    | cons r l ih =>
      intro h
      have ih := ih fun x hx => h x (List.mem_cons_of_mem _ hx)
      have hr := h r List.mem_cons_self
      have ed : isDue bk cells r = (decide (fact bk r ≤ cells) && dueP bk cells r) := by
        unfold isDue dueP
        rw [hr, List.not_any_eq_all_not]
        refine congrArg (fun g => decide (fact bk r ≤ cells) && (List.range bk.length).all g) (funext fun i => ?_)
        by_cases h : fact bk (addAt 1 i r) ≤ cells
        · rw [decide_eq_true h, decide_eq_false (by omega)]
          rfl
        · rw [decide_eq_false h, decide_eq_true (by omega)]
          rfl
      rw [List.filterMap_cons, List.filter_cons, ed]
      unfold fitOf
      by_cases h : fact bk r ≤ cells
      · rw [if_pos h, decide_eq_true h, Bool.true_and, List.filter_cons]
        unfold fitOf at ih
        rw [ih]
      · rw [if_neg h, decide_eq_false h, Bool.false_and, if_neg (by decide)]
        exact ih
  refine e _ fun r hr => ?_
  obtain ⟨s, rfl, l, _⟩ := all_mem _ _ _ hr
  exact l
section
variable {P : Program} {w : World} {K : PySem.W.Frag} {mg : Str → Option Value} {base : Heap}
abbrev s_l_full_right : Stmt := topS 43
theorem sc_l_full_right : FnScope ["_law_hand_here", "_law_book", "_law_cells", "_law_every", "_law_kind_here", "_law_later", "_law_row", "_law_fit", "_law_due", "_law_more", "_law_many", "_law_at", "_law_one"] ["_law_hand_here", "_law_book"] (defScope s_l_full_right) := ⟨rfl, rfl, rfl, by decide +kernel, rfl, by decide +kernel, by decide +kernel⟩
def sp_l_full_right : Sp := fun vs H Q _ => ∃ h kk a bk, vs = [.ref h, .ref a] ∧ HandAt H h ∧ BookAt H kk a bk ∧ GoodB bk ∧ (∀ k ∈ bk, aside k < 1073741824) ∧ bk.length ≤ 4 ∧ a ≠ h ∧ ∀ H', ExB (· = h) H H' → HandAt H' h → Q (.bl true) H'
theorem ok_l_full_right {CT : Addr} (T : Txt K mg) (c_l_draw : Cal P w K mg base CX0 1 "_law_draw" ["_law_hand_here", "_law_many"] sp_l_draw) (c_l_by_fact : Cal P w K mg base CX0 1 "_law_by_fact" ["_law_book", "_law_counts"] sp_l_by_fact)
    (c_full_counts : Cal P w K mg base (L2.CX P w) 15 "full_counts" ["book", "cells"] (sp_full_counts CT))
    (o : Own K mg "_law_full_right" s_l_full_right ["_law_hand_here", "_law_book"]) : Cal P w K mg base CX0 16 "_law_full_right" ["_law_hand_here", "_law_book"] sp_l_full_right := o.cal fun f fd F => by
  refine F.ok sc_l_full_right (fun vs H Q E h => ?_) (fun cdv A outer s H vs Q E hr h => ?_)
  · obtain ⟨h, kk, a, bk, rfl, _⟩ := h
    rfl
  · obtain ⟨h, kk, a, bk, rfl, hh, hB, g, hsm, l4, na, q⟩ := h
    have hr_full_counts : Room 15 _ := hr
    have hr_l_draw : Room 1 _ := hr.mono (by decide)
    have hr_l_by_fact : Room 1 _ := hr.mono (by decide)
    obtain ⟨bs, hbs, hpk⟩ := id hB
    have lbs := paired_len hpk
    have g1 := g.one
    refine ⟨_, (pss_cons (ps_set (i := 2) sc_l_full_right.nd rfl (Or.inr rfl) (pe_op op_add pe_int (pe_cal c_l_draw hr_l_draw (pa_cons (pv 0) (pa_cons (pe_ix (r := rIxQ K) ix_q (pe_lst (pa_cons pe_int (pa_cons pe_int (pa_cons pe_int (pa_cons pe_int pa_nil))))) (pe_op op_sub (pe_callB (r := Evl.rLenS K) call_len_seq (by rfl) T.b_len (by decide +kernel) (pa_cons (pv 1) pa_nil)) pe_int) (fun _ _ => rfl)) pa_nil)))))
      (pss_cons (ps_set (i := 3) sc_l_full_right.nd rfl (Or.inl rfl) (pe_lst (pa_cons (pe_tup pa_nil) pa_nil)))
      (pss_cons (ps_for PassesOwn.never rfl (pi_seq (pv 1)) (pg_name (i := 4) sc_l_full_right.nd rfl (Or.inl rfl))
        (pss_cons (ps_set (i := 5) sc_l_full_right.nd rfl (Or.inl rfl) (pe_lst pa_nil))
        (pss_cons (ps_for PassesOwn.never rfl (pi_seq (pv 3)) (pg_name (i := 6) sc_l_full_right.nd rfl (Or.inr rfl))
          (pss_one (ps_expr (pe_bm PySem.F.plainAttrs_list PySem.F.slot_list_extend PySem.F.type_list_extend mt_extend (pv 5) (pa_cons (pe_lc (own := [("_law_many", 10)]) (g := gName 10) (tt := tYes) rfl sc_l_full_right.nd (pi_range1 (by rfl) T.b_range (pa_cons (pe_op op_add (pv 2) pe_int) pa_nil)) (blkOk_by (N := ["_law_hand_here", "_law_book", "_law_cells", "_law_every", "_law_kind_here", "_law_later", "_law_row", "_law_fit", "_law_due", "_law_more", "_law_many", "_law_at", "_law_one"]) (sc := defScope s_l_full_right) (by decide +kernel)) (fun _ _ _ _ _ => (pg_name (i := 10) sc_l_full_right.nd rfl (Or.inl rfl))) (fun _ _ _ _ _ => pts_nil) (fun _ _ _ _ _ => (pe_op (r := rCatA K) op_catA (pv 6) (pe_tup (pa_cons (pv 10) pa_nil))))) pa_nil)))))
        (pss_one (ps_set (i := 3) sc_l_full_right.nd rfl (Or.inl rfl) (pv 5))))))
      (pss_cons (ps_setLc (i := 7) (own := [("_law_row", 6)]) (g := gName 6) (tt := _) rfl sc_l_full_right.nd rfl rfl (sw_true rfl rfl rfl (by decide +kernel)) (pi_seq (pv 3)) (blkOk_by (N := ["_law_hand_here", "_law_book", "_law_cells", "_law_every", "_law_kind_here", "_law_later", "_law_row", "_law_fit", "_law_due", "_law_more", "_law_many", "_law_at", "_law_one"]) (sc := defScope s_l_full_right) (by decide +kernel)) (fun _ _ _ _ _ => (pg_name (i := 6) sc_l_full_right.nd rfl (Or.inl rfl))) (fun _ _ _ _ _ => pts_one (pt_cmpR op_le (pe_cal c_l_by_fact hr_l_by_fact (pa_cons (pv 1) (pa_cons (pv 6) pa_nil))) (pv 2) (nomark _))) (fun _ _ _ _ _ => (pv 6)))
      (pss_cons (ps_set (i := 8) sc_l_full_right.nd rfl (Or.inl rfl) (pe_lst pa_nil))
      (pss_cons (ps_for PassesOwn.never rfl (pi_seq (pv 7)) (pg_name (i := 6) sc_l_full_right.nd rfl (Or.inr rfl))
        (pss_cons (ps_setLc (i := 9) (own := [("_law_at", 11)]) (g := gName 11) (tt := tYes) rfl sc_l_full_right.nd rfl rfl (sw_true rfl rfl rfl (by decide +kernel)) (pi_range1 (by rfl) T.b_range (pa_cons (pe_callB (r := Evl.rLenS K) call_len_seq (by rfl) T.b_len (by decide +kernel) (pa_cons (pv 6) pa_nil)) pa_nil)) (blkOk_by (N := ["_law_hand_here", "_law_book", "_law_cells", "_law_every", "_law_kind_here", "_law_later", "_law_row", "_law_fit", "_law_due", "_law_more", "_law_many", "_law_at", "_law_one"]) (sc := defScope s_l_full_right) (by decide +kernel)) (fun _ _ _ _ _ => (pg_name (i := 11) sc_l_full_right.nd rfl (Or.inl rfl))) (fun _ _ _ _ _ => pts_nil) (fun _ _ _ _ _ => (pe_op (r := rCatA K) op_catA (pe_op (r := rCatA K) op_catA (pe_slice (r := rSlA K) sl_tupA (pv 6) po_none (po_some (pv 11))) (pe_tup (pa_cons (pe_op op_add (pe_ix (r := rIxQ K) ix_q (pv 6) (pv 11) (fun _ _ => rfl)) pe_int) pa_nil))) (pe_slice (r := rSlA K) sl_tupA (pv 6) (po_some (pe_op op_add (pv 11) pe_int)) po_none))))
        (pss_one (ps_if (pt_not (pt_val (pe_callB (r := rAny K) (cr_any rfl) (by rfl) T.b_any (by decide +kernel) (pa_cons (pe_lc (own := [("_law_one", 12)]) (g := gName 12) (tt := tYes) rfl sc_l_full_right.nd (pi_seq (pv 9)) (blkOk_by (N := ["_law_hand_here", "_law_book", "_law_cells", "_law_every", "_law_kind_here", "_law_later", "_law_row", "_law_fit", "_law_due", "_law_more", "_law_many", "_law_at", "_law_one"]) (sc := defScope s_l_full_right) (by decide +kernel)) (fun _ _ _ _ _ => (pg_name (i := 12) sc_l_full_right.nd rfl (Or.inl rfl))) (fun _ _ _ _ _ => pts_nil) (fun _ _ _ _ _ => (pe_cmpR op_le (pe_cal c_l_by_fact hr_l_by_fact (pa_cons (pv 1) (pa_cons (pv 12) pa_nil))) (pv 2) (nomark _)))) pa_nil))))
          (pss_one (ps_expr (pe_bm PySem.F.plainAttrs_list PySem.F.slot_list_append PySem.F.type_list_append mt_append (pv 8) (pa_cons (pv 6) pa_nil)))) pss_nil))))
      (pss_one (ps_ret (pe_cmpR (r := rEqD K) (op_eqD hr.units) (pe_calX (E := E0) c_full_counts hr_full_counts passL (pa_cons (pv 1) (pa_cons (pv 2) pa_nil))) (pv 8) (nomark _)))))))))), ?_⟩
    -- cells
    refine ⟨_, rfl, by show 4 ≤ sizeLine; decide, fun p0 hp0 => ?_⟩
    have e0 := Ex.new (o := .lst [V.int 14, .int 14, .int 8, .int 5]) hp0
    have pick : ∃ M : Int, atI [V.int 14, .int 14, .int 8, .int 5] ((bs.length : Int) - 1) = some (.int M) ∧ 1 ≤ M ∧ M ≤ 14 ∧ (M + 1).toNat ^ bk.length ≤ 2000 := by
      have : bs.length = 1 ∨ bs.length = 2 ∨ bs.length = 3 ∨ bs.length = 4 := by omega
      rw [← lbs]
      rcases this with z | z | z | z <;> rw [z]
      · exact ⟨14, rfl, by decide, by decide, by decide⟩
      · exact ⟨14, rfl, by decide, by decide, by decide⟩
      · exact ⟨8, rfl, by decide, by decide, by decide⟩
      · exact ⟨5, rfl, by decide, by decide, by decide⟩
    obtain ⟨M, hM, M1, M2, M3⟩ := pick
    refine ⟨_, rfl, a, bs, rfl, (hbs.up e0).lt, _, _, rfl, rfl, true, p0, _, _, _, rfl, rfl, SqL.of upd_same, hM, ?_⟩
    refine ⟨h, M, rfl, hh.up e0, M1, by omega, fun H1 d e1 hh1 d0 d1 => ?_⟩
    have e01 := (ExB.of (S := (· = h)) e0).trans e1
    refine ⟨_, _, rfl, rfl, ?_⟩
    have hB1 := hB.upB hh e01 na
    obtain ⟨bs1, hbs1, hpk1⟩ := id hB1
    have lbs1 := paired_len hpk1
    obtain ⟨cells, hcl⟩ : ∃ cells, 1 + d = cells := ⟨_, rfl⟩
    have c1 : 1 ≤ cells := by omega
    have c2 : cells ≤ 14 := by omega
    have cM : (cells + 1).toNat ≤ (M + 1).toNat := by omega
    have size : ∀ i, i ≤ bk.length → (everyAt cells i).length ≤ 2000 := fun i hi => by
      refine Nat.le_trans (everyAt_len cells i) (Nat.le_trans (Nat.pow_le_pow_left cM i) (Nat.le_trans (Nat.pow_le_pow_right (by omega) hi) M3))
    -- every
    refine ⟨Nat.zero_le _, fun p2 hp2 => ⟨by show 1 ≤ sizeLine; decide, fun F2 hF2 => ?_⟩⟩
    have e2 : Ex H1 (upd (upd H1 p2 (.tup [])) F2 (.lst [V.ref p2])) := (Ex.new hp2).trans (Ex.new hF2)
    have r0 : Paired (RowAt (upd (upd H1 p2 (.tup [])) F2 (.lst [V.ref p2]))) [V.ref p2] (everyAt cells 0) := .cons ⟨p2, rfl, Ex.new hF2 _ _ upd_same⟩ .nil
    refine ⟨_, rfl, kk, a, bs1, rfl, (hbs1.up e2).sq, for_it (walk_seq (k := kk) (a := a) (xs := bs1)) (fun i σ H' => ∃ F rs y4 y5 y6, σ = [some (.ref h), some (.ref a), some (.int cells), some (.ref F), y4, y5, y6, none, none, none, none, none, none] ∧ Ex H1 H' ∧ H' F = some (.lst rs) ∧ Paired (RowAt H') rs (everyAt cells i)) ⟨F2, _, none, none, none, by rw [← hcl]; rfl, e2, upd_same, r0⟩ (fun i σ H' _ ⟨_, _, _, _, _, _, e, _⟩ => (hbs1.up e).sq) ?_ ?_⟩
    · rintro i x σ H0 H3 hi ⟨F, rs, y4, y5, y6, rfl, e3, hF, hR⟩ ⟨eh, ex⟩
      subst eh
      have lr := paired_len hR
      have si := size i (by omega)
      have si1 := size (i + 1) (by omega)
      refine ⟨Nat.zero_le _, fun D0 hD0 => ?_⟩
      have e4 : Ex H3 (upd H3 D0 (.lst [])) := Ex.new hD0
      refine ⟨_, rfl, true, F, rs, rfl, SqL.of (e4 _ _ hF), for_it (walk_seq (k := true) (a := F) (xs := rs)) (fun j σ H' => ∃ acc y6, σ = [some (.ref h), some (.ref a), some (.int cells), some (.ref F), some x, some (.ref D0), y6, none, none, none, none, none, none] ∧ Ex H3 H' ∧ H' D0 = some (.lst acc) ∧ Paired (RowAt H') acc (((everyAt cells i).take j).flatMap fun r => (List.range (cells + 1).toNat).map fun t : Nat => r ++ [(t : Int)]))
        ⟨[], y6, rfl, e4, upd_same, .nil⟩ (fun j σ H' _ ⟨_, _, _, e, _⟩ => SqL.of (e _ _ hF)) ?_ ?_⟩
      · rintro j x2 σ H6 H5 hj ⟨acc, y6, rfl, e5, hacc, hra⟩ ⟨eh, ex2⟩
        subst eh
        obtain ⟨r, hr1, pr, rfl, hpr⟩ := paired_at hR ex2
        have hmem := List.mem_of_getElem? hr1
        have lrr : r.length ≤ 4 := by
          rw [every_is] at hmem
          obtain ⟨sx, rfl, l, _⟩ := all_mem _ _ _ hmem
          omega
        refine ⟨_, rfl, .inl ⟨rfl, _, SqL.of hacc⟩, _, rfl, _, _, rfl, rfl, cells + 1, rfl, by omega, by omega, fun D1 hD1 => lc_pure (walk_r0 (n := (cells + 1).toNat) rfl) hD1 tm_row ((List.range (cells + 1).toNat).map fun t : Nat => r ++ [(t : Int)]) (by rw [List.length_map, List.length_range]) (fun _ _ => trivial) (by omega)
          (fun t m x3 H7 H8 K1 hm e7 y k1 => ?_) mono_name fun H7 xs7 e7 hx7 hp7 => ?_⟩
        · obtain ⟨eh, rfl⟩ := y
          subst eh
          have ht : t < (cells + 1).toNat := by
            have := (List.getElem?_eq_some_iff.mp hm).1
            rw [List.length_map, List.length_range] at this
            exact this
          rw [List.getElem?_map, List.getElem?_range ht] at hm
          obtain rfl := Option.some.inj hm
          have hp8 := e7 _ _ (e5 _ _ hpr)
          refine ⟨rfl, _, rfl, _, rfl, by show 1 ≤ sizeLine; decide, fun p9 hp9 => ?_⟩
          have e9 := Ex.new (o := .tup [V.int (t : Int)]) hp9
          refine catA_go (e9 _ _ hp8) upd_same (by rw [List.length_map]; exact Nat.le_trans (show r.length + 1 ≤ 5 by omega) (by decide)) fun H10 p10 e10 hp10 => k1 _ _ (e9.trans e10) ⟨p10, rfl, ?_⟩
          rw [hp10, List.map_append]
          rfl
        · have hacc4 := e7 _ _ hacc
          have nx := take_flatMap (fun r : List Int => (List.range (cells + 1).toNat).map fun t : Nat => r ++ [(t : Int)]) hr1
          have l4' := paired_len hp7
          have l6 := paired_len hra
          have ltot : acc.length + xs7.length ≤ 2000 := by
            rw [l6, l4', ← List.length_append, ← nx]
            refine Nat.le_trans ?_ si1
            show _ ≤ ((everyAt cells i).flatMap _).length
            have := List.take_append_drop (j + 1) (everyAt cells i)
            conv => rhs; rw [← this, List.flatMap_append, List.length_append]
            exact Nat.le_add_right _ _
          refine ⟨D0, D1, acc, xs7, rfl, rfl, hacc4, hx7, Nat.le_trans ltot (by decide), ?_⟩
          refine ⟨_, _, rfl, (e5.trans e7).mut hD0, upd_same, ?_⟩
          rw [nx]
          exact Paired.up tm_row (Tups.lst hacc4) (Paired.cat (Paired.up tm_row (Tups.of e7) hra) hp7)
      · rintro σ H5 ⟨acc, y6, rfl, e5, hacc, hra⟩
        rw [List.take_of_length_le (by omega)] at hra
        exact ⟨_, rfl, D0, acc, _, _, _, rfl, e3.trans e5, hacc, hra⟩
    · rintro σ H3 ⟨F, rs, y4, y5, y6, rfl, e3, hF, hR⟩
      rw [lbs1] at hR
      have lr := paired_len hR
      have sn := size bk.length (Nat.le_refl _)
      have rowIn : ∀ r ∈ everyAt cells bk.length, r.length = bk.length ∧ ∀ c ∈ r, 0 ≤ c := fun r hr => by
        rw [every_is] at hr
        obtain ⟨sx, rfl, l, p⟩ := all_mem _ _ _ hr
        exact ⟨l, p⟩
      have fits : ∀ r : List Int, r.length = bk.length → (∀ c ∈ r, 0 ≤ c) → Fits bk r := fun r h1 h2 => ⟨g.all, by omega, h1, h2, .inr fun k hk => by
        have := hsm k hk
        omega⟩
      -- fit
      refine ⟨_, rfl, true, F, rs, rfl, SqL.of hF, fun D hD => lc_selL (walk_seq (k := true) (a := F) (xs := rs)) hD tm_row (everyAt cells bk.length) lr.symm (fitOf bk cells) (fun H' e => SqL.of (e _ _ hF)) (by omega) (fun i r x H4 H5 K1 K2 hi e4 y k1 k2 => ?_) fun H4 xs4 e4 hx4 hp4 => ?_⟩
      · obtain ⟨eh, ex⟩ := y
        subst eh
        obtain ⟨v, hv, hpv⟩ := paired_at' hR hi
        obtain rfl := Option.some.inj (hv.symm.trans ex)
        obtain ⟨pr, rfl, hpr⟩ := hpv
        obtain ⟨i1, i2⟩ := rowIn r (List.mem_of_getElem? hi)
        have e15 := e3.trans e4
        refine ⟨rfl, _, rfl, _, rfl, kk, a, bk, false, pr, r, rfl, hB1.up e15, e4 _ _ hpr, fits r i1 i2, fun H6 e6 => ?_⟩
        refine ⟨_, rfl, _, _, rfl, rfl, _, rfl, ?_⟩
        by_cases hf : fact bk r ≤ cells
        · rw [decide_eq_true hf]
          exact iteT ⟨_, rfl, k1 r (if_pos hf) _ _ e6 ⟨pr, rfl, e6 _ _ (e4 _ _ hpr)⟩⟩
        · rw [decide_eq_false hf]
          exact iteF (k2 (if_neg hf) _ e6)
      · have e14 := e3.trans e4
        -- due
        refine ⟨Nat.zero_le _, fun D2 hD2 => ?_⟩
        have e5 := Ex.new (o := .lst []) hD2
        have l4x := paired_len hp4
        have lf : ((everyAt cells bk.length).filterMap (fitOf bk cells)).length ≤ 2000 := Nat.le_trans (List.length_filterMap_le _ _) sn
        refine ⟨_, rfl, true, D, xs4, rfl, SqL.of (e5 _ _ hx4), for_it (walk_seq (k := true) (a := D) (xs := xs4)) (fun j σ H' => ∃ acc y4 y5 y6 y9, σ = [some (.ref h), some (.ref a), some (.int cells), some (.ref F), y4, y5, y6, some (.ref D), some (.ref D2), y9, none, none, none] ∧ Ex H4 H' ∧ H' D2 = some (.lst acc) ∧ Paired (RowAt H') acc ((((everyAt cells bk.length).filterMap (fitOf bk cells)).take j).filter (dueP bk cells)))
          ⟨[], _, _, _, _, rfl, e5, upd_same, .nil⟩ (fun j σ H' _ ⟨_, _, _, _, _, _, e, _⟩ => SqL.of (e _ _ hx4)) ?_ ?_⟩
        · rintro j x σ H7 H6 hj ⟨acc, y4, y5, y6, y9, rfl, e6, hacc, hra⟩ ⟨eh, ex⟩
          subst eh
          obtain ⟨r, hr1, pr, rfl, hpr⟩ := paired_at hp4 ex
          have hmem : r ∈ everyAt cells bk.length ∧ fact bk r ≤ cells := by
            obtain ⟨r', h1, h2⟩ := List.mem_filterMap.mp (List.mem_of_getElem? hr1)
            unfold fitOf at h2
            split at h2
            · rename_i hle
              obtain rfl := Option.some.inj h2
              exact ⟨h1, hle⟩
            · cases h2
          obtain ⟨i1, i2⟩ := rowIn r hmem.1
          have hp6 := e6 _ _ hpr
          have e16 := e14.trans e6
          -- more
          refine ⟨_, rfl, pr, _, rfl, .inr (SqT.of hp6), _, rfl, by rw [List.length_map]; omega, by rw [List.length_map]; omega, fun D3 hD3 => lc_pure (walk_r0 (n := r.length) (by rw [List.length_map]; omega)) hD3 tm_row ((List.range r.length).map fun i => addAt 1 i r) (by rw [List.length_map, List.length_range]) (fun _ _ => trivial) (by omega)
            (fun t m x3 H8 H9 K1 hm e8 y k1 => ?_) mono_name fun H8 xs8 e8 hx8 hp8 => ?_⟩
          · obtain ⟨eh, rfl⟩ := y
            subst eh
            have ht : t < r.length := by
              have := (List.getElem?_eq_some_iff.mp hm).1
              rw [List.length_map, List.length_range] at this
              exact this
            rw [List.getElem?_map, List.getElem?_range ht] at hm
            obtain rfl := Option.some.inj hm
            obtain ⟨c, hc⟩ : ∃ c, r[t]? = some c := ⟨_, List.getElem?_eq_getElem ht⟩
            have hp9 := e8 _ _ hp6
            refine ⟨rfl, _, rfl, _, rfl, _, rfl, slA_go hp9 fun H10 q10 e10 hq10 => ?_⟩
            rw [cut_to, ← List.map_take] at hq10
            refine ⟨_, rfl, _, rfl, false, pr, _, _, _, rfl, rfl, SqT.of (e10 _ _ hp9), atI_nat (int_map_at hc), _, _, rfl, rfl, by show 1 ≤ sizeLine; decide, fun p11 hp11 => ?_⟩
            have e11 := Ex.new (o := .tup [V.int (c + 1)]) hp11
            have lt : ((r.take t).map V.int).length = t := by
              rw [List.length_map, List.length_take]
              omega
            refine catA_go (e11 _ _ hq10) upd_same (by rw [lt]; exact Nat.le_trans (show t + 1 ≤ 5 by omega) (by decide)) fun H12 p12 e12 hp12 => ?_
            refine ⟨_, rfl, _, rfl, _, _, rfl, rfl, _, rfl, ?_⟩
            show rSlA K (.ref pr) (some ((t : Int) + 1)) none H12 fun y H2 => rCatA K (.ref p12) y H2 K1
            have hp12r := (e10.trans (e11.trans e12)) _ _ hp9
            refine slA_go hp12r fun H13 p13 e13 hp13 => ?_
            rw [show cutV (r.map V.int) (some ((t : Int) + 1)) none = (r.drop (t + 1)).map V.int from by
              rw [List.map_drop]
              exact cut_from (n := t + 1) (by rw [List.length_map]; omega)] at hp13
            refine catA_go (e13 _ _ hp12) hp13 ?_ fun H14 p14 e14' hp14 => ?_
            · rw [List.length_append, lt, List.length_map, List.length_drop]
              exact Nat.le_trans (show t + 1 + (r.length - (t + 1)) ≤ 5 by omega) (by decide)
            · refine k1 _ _ ((((e10.trans e11).trans e12).trans e13).trans e14') ⟨p14, rfl, ?_⟩
              rw [hp14, show (fun i => addAt 1 i r) t = r.take t ++ [c + 1] ++ r.drop (t + 1) from (addAt_cut t r c hc).symm, List.map_append, List.map_append]
              rfl
          · have e68 := e6.trans e8
            have e18 := e14.trans e68
            have l8 := paired_len hp8
            rw [List.length_map, List.length_range] at l8
            -- any
            refine ⟨_, rfl, true, D3, xs8, rfl, SqL.of hx8, fun D4 hD4 => lc_pure (walk_seq (k := true) (a := D3) (xs := xs8)) hD4 tm_bl (((List.range r.length).map fun i => addAt 1 i r).map fun x => decide (fact bk x ≤ cells)) (by rw [List.length_map, List.length_map, List.length_range, l8]) (fun H' e => SqL.of (e _ _ hx8)) (by omega)
              (fun t m x3 H9 H10 K1 hm e9 y k1 => ?_) mono_name fun H9 xs9 e9 hx9 hp9 => ?_⟩
            · obtain ⟨eh, ex3⟩ := y
              subst eh
              obtain ⟨z, hz, pz, rfl, hpz⟩ := paired_at hp8 ex3
              rw [List.getElem?_map, hz] at hm
              obtain rfl := Option.some.inj hm
              obtain ⟨i, hi, rfl⟩ := map_got hz
              have e19 := e18.trans e9
              refine ⟨rfl, _, rfl, _, rfl, kk, a, bk, false, pz, _, rfl, hB1.up e19, e9 _ _ hpz, fits _ (by rw [addAt_len]; exact i1) (addAt_mem (P := fun c => 0 ≤ c) (fun c h => by omega) i r i2), fun H11 e11 => ?_⟩
              exact ⟨_, rfl, _, _, rfl, rfl, k1 _ _ e11 rfl⟩
            · rw [pair_bl hp9] at hx9
              have e89 := e8.trans e9
              refine ⟨D4, _, rfl, SqL.of hx9, ?_⟩
              have ea : (((List.range r.length).map fun i => addAt 1 i r).map fun x => decide (fact bk x ≤ cells)).any id = (List.range r.length).any fun i => decide (fact bk (addAt 1 i r) ≤ cells) := by
                rw [List.any_map, List.any_map]
                rfl
              refine ⟨_, rfl, ?_⟩
              have hacc9 := e89 _ _ hacc
              have l6 := paired_len hra
              have l7 : ((((everyAt cells bk.length).filterMap (fitOf bk cells)).take j).filter (dueP bk cells)).length ≤ 2000 := Nat.le_trans (List.length_filter_le _ _) (Nat.le_trans (List.length_take_le' _ _) lf)
              have en : (((everyAt cells bk.length).filterMap (fitOf bk cells)).take (j + 1)).filter (dueP bk cells) = (((everyAt cells bk.length).filterMap (fitOf bk cells)).take j).filter (dueP bk cells) ++ [r].filter (dueP bk cells) := by
                rw [List.take_add_one, hr1, List.filter_append]
                rfl
              cases hany : (List.range r.length).any fun i => decide (fact bk (addAt 1 i r) ≤ cells) with
              | true =>
                rw [ea, hany]
                refine iteF ⟨acc, _, _, _, _, rfl, e6.trans e89, hacc9, ?_⟩
                have ed : dueP bk cells r = false := by
                  unfold dueP
                  rw [hany]
                  rfl
                rw [en, List.filter_cons, ed, if_neg (by decide), List.filter_nil, List.append_nil]
                exact Paired.up tm_row (Tups.of e89) hra
              | false =>
                rw [ea, hany]
                have ed : dueP bk cells r = true := by
                  unfold dueP
                  rw [hany]
                  rfl
                refine iteT ⟨_, rfl, .inl ⟨rfl, _, SqL.of hacc9⟩, _, rfl, D2, acc, _, rfl, rfl, hacc9, Nat.lt_of_le_of_lt (show acc.length ≤ 2000 by omega) (by decide), ?_⟩
                refine ⟨_, _, _, _, _, rfl, (e6.trans e89).mut hD2, upd_same, ?_⟩
                rw [en, List.filter_cons, ed, if_pos rfl, List.filter_nil]
                exact Paired.up tm_row (Tups.lst hacc9) (Paired.snoc (Paired.up tm_row (Tups.of e89) hra) ⟨pr, rfl, e89 _ _ hp6⟩)
        · rintro σ H6 ⟨acc, y4, y5, y6, y9, rfl, e6, hacc, hra⟩
          rw [List.take_of_length_le (by omega), due_rows g c1] at hra
          have e16 := e14.trans e6
          have lle : (lookR bk cells bk.length []).length ≤ 2000 := by
            rw [← due_rows g c1]
            exact Nat.le_trans (List.length_filter_le _ _) lf
          refine ⟨_, rfl, _, rfl, a, cells, kk, bk, rfl, hB1.up e16, g, hsm, l4, c1, by omega, fun _ H7 F7 xs7 e7 hF7 hP7 => ?_, fun z => absurd z (by omega)⟩
          refine ⟨_, rfl, rowsD (lookR bk cells bk.length []), rowsD (lookR bk cells bk.length []), .lst (SqL.of hF7) (dp_rows hP7), .lst (SqL.of (e7 _ _ hacc)) (dp_rows (Paired.up tm_row (Tups.of e7) hra)), shaped_rows _, shaped_rows _, ?_⟩
          rw [SeqAt.eqv_refl _ (canLay_rows _)]
          exact q _ (e01.trans (ExB.of (e16.trans e7))) (hh1.up (e16.trans e7))
end
end K27

set_option Elab.async false
set_option linter.all false
set_option maxRecDepth 100000
set_option maxHeartbeats 1000000
/-! LD: comprehensions that draw; small plain facts of the law. -/
namespace K27
open PySem PySem.Spec PyProof.Rows L2
open Evl (Ex)
theorem HandC.ne {H : Hp} {h c D : Addr} (v : HandC H h c) (hD : H D = none) : D ≠ h ∧ D ≠ c := by
  obtain ⟨cs, i, x2, x3, x4, v⟩ := v
  refine ⟨fun z => ?_, fun z => ?_⟩
  · rw [z, v.hd] at hD
    cases hD
  · rw [z, v.cl] at hD
    cases hD
theorem HandC.updD {H : Hp} {h c D : Addr} {o : HO} (v : HandC H h c) (n : D ≠ h ∧ D ≠ c) : HandC (upd H D o) h c := by
  obtain ⟨cs, i, x2, x3, x4, v⟩ := v
  exact ⟨cs, i, x2, x3, x4, by rw [upd_ne n.1.symm]; exact v.hd, by rw [upd_ne n.2.symm]; exact v.cl, v.nn, v.i0, v.i1, v.x0⟩
theorem tups_handC {H H' : Hp} {h c : Addr} (v : HandC H h c) (e : ExB (· = h) H H') : Tups H H' := tups_hand ⟨c, v⟩ e
/-- a comprehension whose turns draw from the hand -/
theorem lc_hand {J : It} {n : Nat} {G : Hp → Prop} {Y : Nat → Hp → V → Hp → Prop} (w : Walk J n G Y) {σ : L2.St} {H1 : Hp} {g : TG} {te : TE} {vs : List Nat} {D : Addr} {Qd : Hp → Prop} {α : Type} {R : Hp → V → α → Prop} (hDn : H1 D = none) (hR : TMono R) (h c : Addr) (hc : HandC H1 h c)
    (Pz : α → Prop) (K0 : Hp → Prop) (k0 : K0 H1) (kB : ∀ H H', ExB (· = h) H1 H → ExB (· = h) H H' → K0 H → K0 H') (kD : ∀ H D ys, H1 D = none → K0 H → K0 (upd H D (.lst ys))) (kG : ∀ H, K0 H → G H) (sz : n ≤ 100000)
    (turn : ∀ i x H H' (K1 : VK), i < n → HandC H h c → K0 H → ExB (· = h) H1 H → Y i H x H' → (∀ y H4 a, R H4 y a → Pz a → ExB (· = h) H H4 → HandC H4 h c → K1 y H4) → g x (wipe σ vs) H' fun σ2 H2 => wipe σ2 vs = wipe σ vs ∧ te σ2 H2 K1)
    (mono : ∀ x σ H (A B : L2.St → Hp → Prop), (∀ σ2 H2, A σ2 H2 → B σ2 H2) → g x σ H A → g x σ H B)
    (done : ∀ H2 xs zs, ExB (· = h) H1 H2 → H2 D = some (.lst xs) → Paired (R H2) xs zs → zs.length = n → (∀ a ∈ zs, Pz a) → HandC H2 h c → K0 H2 → Qd H2) :
    ∃ W : Nat → Nat → Hp → Prop, (∃ m, W 0 m (upd H1 D (.lst []))) ∧ ∀ i m H, W i m H →
      (J.stop i H ∧ Qd H) ∨ (J.go i H ∧ ∃ Nx : Hp → Prop, (∀ H', Nx H' → ∃ m', m' < m ∧ W (i + 1) m' H') ∧ ∀ x H', J.yld i H x H' → g x (wipe σ vs) H' fun σ2 H2 => wipe σ2 vs = wipe σ vs ∧ tYes σ2 H2 fun b H3 =>
        if b = true then te σ2 H3 fun y H4 => ∃ acc, H4 D = some (.lst acc) ∧ acc.length < sizeLine ∧ Nx (upd H4 D (.lst (acc ++ [y]))) else Nx H3) :=
  lc_fill w hDn (· = h) R hR (fun i zs H => HandC H h c ∧ zs.length = i ∧ (∀ a ∈ zs, Pz a) ∧ K0 H) (fun a ea => by
      subst ea
      obtain ⟨cs, i, x2, x3, x4, v⟩ := hc
      rw [v.hd]
      exact fun z => nomatch z) ⟨hc, rfl, (fun a z => nomatch z), k0⟩ (fun D ys i zs H hD ⟨p1, p2, p3, p4⟩ => ⟨p1.updD (hc.ne hD), p2, p3, kD H D ys hD p4⟩) (fun i zs H _ p => kG H p.2.2.2) sz (fun i zs H p => Nat.le_of_eq p.2.1) (fun i zs H H' e eb p => tups_handC p.1 e)
    (fun i zs x H H' K1 K2 hi p eb y k1 _ => by
      obtain ⟨p1, p2, p3, p4⟩ := p
      refine mono x _ H' _ _ (fun σ2 H2 q => ⟨q.1, (iteT q.2 : if true = true then te σ2 H2 K1 else K2 H2)⟩) (turn i x H H' K1 hi p1 p4 eb y fun y H4 a ra pa e4 h4 => k1 y H4 a ra e4 ⟨h4, ?_, ?_, kB H H4 eb e4 p4⟩)
      · rw [List.length_append, p2]
        rfl
      · intro z hz
        rcases List.mem_append.mp hz with hz | hz
        · exact p3 z hz
        · rw [List.mem_singleton.mp hz]
          exact pa)
    (fun H2 xs zs eb hx hp p => done H2 xs zs eb hx hp p.2.1 p.2.2.1 p.1 p.2.2.2)
theorem HandC.upX {H H' : Hp} {h c D : Addr} (v : HandC H h c) (n : D ≠ h ∧ D ≠ c) (e : ExB (· = D) H H') : HandC H' h c := by
  obtain ⟨cs, i, x2, x3, x4, v⟩ := v
  exact ⟨cs, i, x2, x3, x4, e.get n.1.symm v.hd, e.get n.2.symm v.cl, v.nn, v.i0, v.i1, v.x0⟩
theorem Paired.take {α : Type} {F : V → α → Prop} : ∀ {xs : List V} {zs : List α} (n : Nat), Paired F xs zs → Paired F (xs.take n) (zs.take n)
  | _, _, _, .nil => by
    rw [List.take_nil, List.take_nil]
    exact .nil
  | _, _, 0, .cons _ _ => .nil
  | _, _, n + 1, .cons a t => .cons a (Paired.take n t)
theorem GoodB.take {bk : List Kd} (g : GoodB bk) : GoodB (bk.take 2) := ⟨by
    have := g.one
    rw [List.length_take]
    omega, by
    rw [List.length_take]
    omega, fun k hk => g.all k (List.take_subset _ _ hk)⟩
/-! ### small facts -/
theorem first_at {m : Int} : ∀ {cs : List Int}, m ∈ cs → ∃ j : Nat, cs[j]? = some m ∧ ∀ i : Nat, i < j → ∀ z, cs[i]? = some z → z ≠ m
  | [], h => by cases h
  | a :: cs, h => by
    by_cases e : a = m
    · exact ⟨0, by rw [e]; rfl, fun i hi => absurd hi (Nat.not_lt_zero _)⟩
    · rcases List.mem_cons.mp h with z | z
      · exact absurd z.symm e
      · obtain ⟨j, h1, h2⟩ := first_at z
        refine ⟨j + 1, h1, fun i hi z hz => ?_⟩
        cases i with
        | zero =>
          obtain rfl := Option.some.inj hz
          exact e
        | succ i => exact h2 i (by omega) z hz
theorem sum_set : ∀ {cs : List Int} {j : Nat} {m : Int} (v : Int), cs[j]? = some m → (cs.set j v).sum = cs.sum - m + v
  | [], j, m, v, h => by simp at h
  | a :: cs, 0, m, v, h => by
    obtain rfl := Option.some.inj h
    show (v :: cs).sum = _
    rw [List.sum_cons, List.sum_cons]
    omega
  | a :: cs, j + 1, m, v, h => by
    have ih := sum_set (cs := cs) (j := j) v h
    show (a :: cs.set j v).sum = _
    rw [List.sum_cons, List.sum_cons, ih]
    omega
theorem sum_le0 : ∀ {cs : List Int}, (∀ c ∈ cs, c ≤ 0) → cs.sum ≤ 0
  | [], _ => Int.le_refl _
  | a :: cs, h => by
    have h1 := h a List.mem_cons_self
    have h2 := sum_le0 fun c hc => h c (List.mem_cons_of_mem _ hc)
    rw [List.sum_cons]
    omega
theorem every_bound {A B : Int} (hA : 0 ≤ A) (hB : 0 ≤ B) : ∀ (bk : List Kd) (cs : List Int), (∀ k ∈ bk, 0 ≤ aside k ∧ aside k ≤ A) → (∀ c ∈ cs, 0 ≤ c ∧ c ≤ B) → every bk cs ≤ (bk.length : Int) * (B * A)
  | [], cs, _, _ => by simp [every]
  | k :: bk, [], _, _ => by
    have : 0 ≤ ((k :: bk).length : Int) * (B * A) := Int.mul_nonneg (Int.natCast_nonneg _) (Int.mul_nonneg hB hA)
    simpa [every] using this
  | k :: bk, c :: cs, h1, h2 => by
    have ih := every_bound hA hB bk cs (fun x hx => h1 x (List.mem_cons_of_mem _ hx)) fun x hx => h2 x (List.mem_cons_of_mem _ hx)
    obtain ⟨a1, a2⟩ := h1 k List.mem_cons_self
    obtain ⟨b1, b2⟩ := h2 c List.mem_cons_self
    have h3 : c * aside k ≤ B * A := Int.mul_le_mul b2 a2 a1 hB
    show (c * aside k :: List.zipWith _ bk cs).sum ≤ _
    rw [List.sum_cons, List.length_cons, Int.natCast_add, Int.add_mul]
    unfold every at ih
    omega
theorem fact_bound {bk : List Kd} {cs : List Int} (g : GoodB bk) (hk : ∀ k ∈ bk, k.b ≤ 5 ∧ k.f ≤ 5) (gc : GoodC bk cs) : fact bk cs ≤ 100000000000000000000 := by
  have sm : ∀ k ∈ bk, 1 ≤ aside k ∧ aside k ≤ 5 ∧ k.w ≤ 10 := fun k h => by
    have gk := g.all k h
    have a1 := aside_pos gk
    have a2 := aside_le k
    have a3 := hk k h
    have a4 := gk.le
    omega
  have e := every_bound (A := 5) (B := 1000000000) (by decide) (by decide) bk cs (fun k h => by
    have := sm k h
    omega) fun c h => ⟨gc.pos c h, gc.most c h⟩
  have l := g.most
  rcases (fact_is bk cs).at0 with z | ⟨j, k, c, h1, h2, h3, h4⟩
  · omega
  · have := sm k (List.mem_of_getElem? h1)
    unfold loadOf at h4
    omega
end K27

set_option Elab.async false
set_option linter.all false
set_option maxRecDepth 100000
set_option maxHeartbeats 2000000
/-! LE: law. -/
namespace K27
open PySem PySem.Spec PyProof.Rows L2
open Evl (Ex)
/-- what the written part says of TooMany when it is caught -/
structure TmX (K : PySem.W.Frag) (mg : Str → Option Value) (CT CR : Addr) : Prop where
  isC : ExcC K CT
  xf : XfC K CT
  exm : PySem.W.exmOne K (.ref CT) (.ref CT) = some true
  kit : PySem.W.kitOne K (.ref CT) (.ref CR) = some true
  gR : mg "RingError" = some (.ref CR)
theorem pe_calS {X : Cx} {k : Nat} {x : Str} {ps : List Str} {sp : Sp} {E : L2.St → XK} {e : Expr} {es : List Expr} {t : TA} {p pos : Pos} (C : Cal X.prog X.w X.K X.mg X.base (L2.CX X.prog X.w) k x ps sp) (hr : Room k X.A) (hx : ∀ σ, PassesAt (L2.CX X.prog X.w) X σ (E σ)) (ha : PA X (e :: es) t) (hg : Gl X x := by rfl)
    (he : starEach (e :: es) X.env = (false, eval e X.env) :: starEach es X.env := by rfl) (hpl : (backTo pos (starEach es X.env)).any (·.1) = false := by rfl) (hdb : (x == ("__debug__" : Str)) = false := by decide) : PE X (.Call (.Name x p) (e :: es) [] pos) (tCallS sp E t) := by
  obtain ⟨f, fd, F, g, kp, b⟩ := C.ex
  exact pe_callS F hr hg g kp b hx ha hdb he hpl
section
variable {P : Program} {w : World} {K : PySem.W.Frag} {mg : Str → Option Value} {base : Heap}
abbrev s_law : Stmt := topS 44
theorem sc_law : FnScope ["_law_script", "_law_hand_here", "_law_turn", "_law_book", "_law_counts", "_law_orders_here", "_law_due", "_law_given", "_law_few", "_law_great", "_law_many", "_law_seen", "e", "_law_one", "_law_kind_here", "_law_order"] ["_law_script"] (defScope s_law) := ⟨rfl, rfl, rfl, by decide +kernel, rfl, by decide +kernel, by decide +kernel⟩
def sp_law (K : PySem.W.Frag) : Sp := fun vs H Q _ => ∃ (a : Addr) (ns : List Int), vs = [.ref a] ∧ SqL K H a (ns.map V.int) ∧ ∀ H', Q (.bl true) H'
theorem ok_law {CT CR fT : Addr} (T : Txt K mg) (T3 : TmAt P K mg CT fT) (TX : TmX K mg CT CR) (c_l_draw : Cal P w K mg base CX0 1 "_law_draw" ["_law_hand_here", "_law_many"] sp_l_draw2) (c_l_kind : Cal P w K mg base CX0 2 "_law_kind" ["_law_hand_here", "_law_most"] sp_l_kind2)
    (c_l_hand : Cal P w K mg base CX0 1 "_law_hand" ["_law_script"] (sp_l_hand (K := K))) (c_l_orders : Cal P w K mg base CX0 1 "_law_orders" ["_law_counts"] sp_l_orders) (c_l_worst : Cal P w K mg base CX0 1 "_law_worst" ["_law_book", "_law_order"] (sp_l_worst (K := K)))
    (c_greatest_load : Cal P w K mg base CX0 6 "greatest_load" ["book", "counts"] sp_greatest_load) (c_l_by_fact : Cal P w K mg base CX0 1 "_law_by_fact" ["_law_book", "_law_counts"] sp_l_by_fact)
    (c_l_worst_right : Cal P w K mg base CX0 7 "_law_worst_right" ["_law_hand_here", "_law_book", "_law_counts"] sp_l_worst_right) (c_l_more_right : Cal P w K mg base CX0 7 "_law_more_right" ["_law_hand_here", "_law_book", "_law_counts"] sp_l_more_right)
    (c_l_full_right : Cal P w K mg base CX0 16 "_law_full_right" ["_law_hand_here", "_law_book"] sp_l_full_right) (c_full_counts : Cal P w K mg base (L2.CX P w) 15 "full_counts" ["book", "cells"] (sp_full_counts CT))
    {f : Addr} {fd : FuncData} (F : Fun K "law" "law" s_law f fd) : FnOk P w K mg base CX0 17 f fd ["_law_script"] (sp_law K) := by
  refine F.ok sc_law (fun vs H Q E h => ?_) (fun cdv A outer s H vs Q E hr h => ?_)
  · obtain ⟨a, ns, rfl, _⟩ := h
    rfl
  · obtain ⟨a, ns, rfl, ha, q⟩ := h
    have hr_full_counts : Room 15 _ := hr.mono (by decide)
    have hr_l_full_right : Room 16 _ := hr
    have hr_l_draw : Room 1 _ := hr.mono (by decide)
    have hr_l_kind : Room 2 _ := hr.mono (by decide)
    have hr_l_hand : Room 1 _ := hr.mono (by decide)
    have hr_l_orders : Room 1 _ := hr.mono (by decide)
    have hr_l_worst : Room 1 _ := hr.mono (by decide)
    have hr_greatest_load : Room 6 _ := hr.mono (by decide)
    have hr_l_by_fact : Room 1 _ := hr.mono (by decide)
    have hr_l_worst_right : Room 7 _ := hr.mono (by decide)
    have hr_l_more_right : Room 7 _ := hr.mono (by decide)
    refine ⟨_, (pss_cons (ps_set (i := 1) sc_law.nd rfl (Or.inr rfl) (pe_cal c_l_hand hr_l_hand (pa_cons (pv 0) pa_nil)))
      (pss_cons (ps_for PassesOwn.never rfl (pi_range1 (by rfl) T.b_range (pa_cons pe_int pa_nil)) (pg_name (i := 2) sc_law.nd rfl (Or.inl rfl))
        (pss_cons (ps_set (i := 3) sc_law.nd rfl (Or.inr rfl) (pe_lc (own := [("_law_one", 13)]) (g := gName 13) (tt := tYes) rfl sc_law.nd (pi_range1 (by rfl) T.b_range (pa_cons (pe_op op_add pe_int (pe_cal c_l_draw hr_l_draw (pa_cons (pv 1) (pa_cons pe_int pa_nil)))) pa_nil)) (blkOk_by (N := ["_law_script", "_law_hand_here", "_law_turn", "_law_book", "_law_counts", "_law_orders_here", "_law_due", "_law_given", "_law_few", "_law_great", "_law_many", "_law_seen", "e", "_law_one", "_law_kind_here", "_law_order"]) (sc := defScope s_law) (by decide +kernel)) (fun _ _ _ _ _ => (pg_name (i := 13) sc_law.nd rfl (Or.inl rfl))) (fun _ _ _ _ _ => pts_nil) (fun _ _ _ _ _ => (pe_cal c_l_kind hr_l_kind (pa_cons (pv 1) (pa_cons pe_int pa_nil))))))
        (pss_cons (ps_setLc (i := 4) (own := [("_law_kind_here", 14)]) (g := gName 14) (tt := tYes) rfl sc_law.nd rfl rfl (sw_true rfl rfl rfl (by decide +kernel)) (pi_seq (pv 3)) (blkOk_by (N := ["_law_script", "_law_hand_here", "_law_turn", "_law_book", "_law_counts", "_law_orders_here", "_law_due", "_law_given", "_law_few", "_law_great", "_law_many", "_law_seen", "e", "_law_one", "_law_kind_here", "_law_order"]) (sc := defScope s_law) (by decide +kernel)) (fun _ _ _ _ _ => (pg_name (i := 14) sc_law.nd rfl (Or.inl rfl))) (fun _ _ _ _ _ => pts_nil) (fun _ _ _ _ _ => (pe_cal c_l_draw hr_l_draw (pa_cons (pv 1) (pa_cons pe_int pa_nil)))))
        (pss_cons (ps_while PassesOwn.never (pt_cmpR op_gt (pe_callB (r := rSum K) (cr_sum rfl) (by rfl) T.b_sum (by decide +kernel) (pa_cons (pv 4) pa_nil)) pe_int (nomark _))
          (pss_one (ps_asg (pe_op op_sub (pe_callB (r := rMax K) (cr_max rfl) (by rfl) T.b_max (by decide +kernel) (pa_cons (pv 4) pa_nil)) pe_int) (pg_sub (pv 4) (pe_bm (r := rIndex K) PySem.F.plainAttrs_list PySem.F.slot_list_index PySem.F.type_list_index mt_index (pv 4) (pa_cons (pe_callB (r := rMax K) (cr_max rfl) (by rfl) T.b_max (by decide +kernel) (pa_cons (pv 4) pa_nil)) pa_nil)) set_list))))
        (pss_cons (ps_set (i := 5) sc_law.nd rfl (Or.inl rfl) (pe_cal c_l_orders hr_l_orders (pa_cons (pv 4) pa_nil)))
        (pss_cons (ps_set (i := 6) sc_law.nd rfl (Or.inl rfl) (pe_callB (r := rMax K) (cr_max rfl) (by rfl) T.b_max (by decide +kernel) (pa_cons (pe_op op_cat (pe_lst (pa_cons pe_int pa_nil)) (pe_lc (own := [("_law_order", 15)]) (g := gName 15) (tt := tYes) rfl sc_law.nd (pi_seq (pv 5)) (blkOk_by (N := ["_law_script", "_law_hand_here", "_law_turn", "_law_book", "_law_counts", "_law_orders_here", "_law_due", "_law_given", "_law_few", "_law_great", "_law_many", "_law_seen", "e", "_law_one", "_law_kind_here", "_law_order"]) (sc := defScope s_law) (by decide +kernel)) (fun _ _ _ _ _ => (pg_name (i := 15) sc_law.nd rfl (Or.inl rfl))) (fun _ _ _ _ _ => pts_nil) (fun _ _ _ _ _ => (pe_cal c_l_worst hr_l_worst (pa_cons (pv 3) (pa_cons (pv 15) pa_nil)))))) pa_nil)))
        (pss_cons (ps_set (i := 7) sc_law.nd rfl (Or.inl rfl) (pe_ix (r := rIxQ K) ix_q (pe_lst (pa_cons (pv 3) (pa_cons (pe_callTy call_tuple_of (by rfl) T.b_tuple (by decide +kernel) (pa_cons (pv 3) pa_nil)) pa_nil))) (pe_cal c_l_draw hr_l_draw (pa_cons (pv 1) (pa_cons pe_int pa_nil))) (fun _ _ => rfl)))
        (pss_cons (ps_if (PW.pt (pw_or (pt_cmpR op_ne (pe_cal c_greatest_load hr_greatest_load (pa_cons (pv 7) (pa_cons (pv 4) pa_nil))) (pv 6) (nomark _)) (pw_or1 (pt_cmpR op_ne (pe_cal c_l_by_fact hr_l_by_fact (pa_cons (pv 3) (pa_cons (pv 4) pa_nil))) (pv 6) (nomark _)))))
          (pss_one (ps_ret pe_bl)) pss_nil)
        (pss_cons (ps_if (PW.pt (pw_or (pt_not (pt_val (pe_cal c_l_worst_right hr_l_worst_right (pa_cons (pv 1) (pa_cons (pv 3) (pa_cons (pv 4) pa_nil)))))) (pw_or1 (pt_not (pt_val (pe_cal c_l_more_right hr_l_more_right (pa_cons (pv 1) (pa_cons (pv 3) (pa_cons (pe_callTy call_tuple_of (by rfl) T.b_tuple (by decide +kernel) (pa_cons (pv 4) pa_nil)) pa_nil)))))))))
          (pss_one (ps_ret pe_bl)) pss_nil)
        (pss_one (ps_if (pt_not (pt_val (pe_cal c_l_full_right hr_l_full_right (pa_cons (pv 1) (pa_cons (pe_slice (r := rSlL K) sl_list (pv 3) po_none (po_some pe_int)) pa_nil)))))
          (pss_one (ps_ret pe_bl)) pss_nil)))))))))))
      (pss_cons (ps_setLc (i := 8) (own := [("_law_one", 13)]) (g := gName 13) (tt := tYes) rfl sc_law.nd rfl rfl (sw_true rfl rfl rfl (by decide +kernel)) (pi_range1 (by rfl) T.b_range (pa_cons (pe_op op_add pe_int (pe_cal c_l_draw hr_l_draw (pa_cons (pv 1) (pa_cons pe_int pa_nil)))) pa_nil)) (blkOk_by (N := ["_law_script", "_law_hand_here", "_law_turn", "_law_book", "_law_counts", "_law_orders_here", "_law_due", "_law_given", "_law_few", "_law_great", "_law_many", "_law_seen", "e", "_law_one", "_law_kind_here", "_law_order"]) (sc := defScope s_law) (by decide +kernel)) (fun _ _ _ _ _ => (pg_name (i := 13) sc_law.nd rfl (Or.inl rfl))) (fun _ _ _ _ _ => pts_nil) (fun _ _ _ _ _ => (pe_cal c_l_kind hr_l_kind (pa_cons (pv 1) (pa_cons pe_int pa_nil)))))
      (pss_cons (ps_if (PW.pt (pw_and (pt_cmpR op_eq (pe_cal c_l_draw hr_l_draw (pa_cons (pv 1) (pa_cons pe_int pa_nil))) pe_int (nomark _)) (pw_and1 (pt_not (pt_val (pe_cal c_l_full_right hr_l_full_right (pa_cons (pv 1) (pa_cons (pv 8) pa_nil))))))))
        (pss_one (ps_ret pe_bl)) pss_nil)
      (pss_cons (ps_setLc (i := 9) (own := [("_law_one", 13)]) (g := gName 13) (tt := tYes) rfl sc_law.nd rfl rfl (sw_true rfl rfl rfl (by decide +kernel)) (pi_range1 (by rfl) T.b_range (pa_cons (pe_op op_add pe_int (pe_cal c_l_draw hr_l_draw (pa_cons (pv 1) (pa_cons pe_int pa_nil)))) pa_nil)) (blkOk_by (N := ["_law_script", "_law_hand_here", "_law_turn", "_law_book", "_law_counts", "_law_orders_here", "_law_due", "_law_given", "_law_few", "_law_great", "_law_many", "_law_seen", "e", "_law_one", "_law_kind_here", "_law_order"]) (sc := defScope s_law) (by decide +kernel)) (fun _ _ _ _ _ => (pg_name (i := 13) sc_law.nd rfl (Or.inl rfl))) (fun _ _ _ _ _ => pts_nil) (fun _ _ _ _ _ => (pe_cal c_l_kind hr_l_kind (pa_cons (pv 1) (pa_cons (pe_ix (r := rIxQ K) ix_q (pe_lst (pa_cons pe_int (pa_cons pe_int (pa_cons (pe_op op_mul pe_int (pe_op op_pow pe_int pe_int)) pa_nil)))) (pe_cal c_l_draw hr_l_draw (pa_cons (pv 1) (pa_cons pe_int pa_nil))) (fun _ _ => rfl)) pa_nil)))))
      (pss_cons (ps_setLc (i := 10) (own := [("_law_kind_here", 14)]) (g := gName 14) (tt := tYes) rfl sc_law.nd rfl rfl (sw_true rfl rfl rfl (by decide +kernel)) (pi_seq (pv 9)) (blkOk_by (N := ["_law_script", "_law_hand_here", "_law_turn", "_law_book", "_law_counts", "_law_orders_here", "_law_due", "_law_given", "_law_few", "_law_great", "_law_many", "_law_seen", "e", "_law_one", "_law_kind_here", "_law_order"]) (sc := defScope s_law) (by decide +kernel)) (fun _ _ _ _ _ => (pg_name (i := 14) sc_law.nd rfl (Or.inl rfl))) (fun _ _ _ _ _ => pts_nil) (fun _ _ _ _ _ => (pe_ix (r := rIxQ K) ix_q (pe_lst (pa_cons pe_int (pa_cons pe_int (pa_cons pe_int (pa_cons (pe_op op_pow pe_int pe_int) pa_nil))))) (pe_cal c_l_draw hr_l_draw (pa_cons (pv 1) (pa_cons pe_int pa_nil))) (fun _ _ => rfl))))
      (pss_cons (ps_if (PW.pt (pw_or (pt_cmpR op_ne (pe_cal c_greatest_load hr_greatest_load (pa_cons (pv 9) (pa_cons (pv 10) pa_nil))) (pe_cal c_l_by_fact hr_l_by_fact (pa_cons (pv 9) (pa_cons (pv 10) pa_nil))) (nomark _)) (pw_or1 (pt_not (pt_val (pe_cal c_l_worst_right hr_l_worst_right (pa_cons (pv 1) (pa_cons (pv 9) (pa_cons (pv 10) pa_nil)))))))))
        (pss_one (ps_ret pe_bl)) pss_nil)
      (pss_cons (ps_if (pt_cmpR op_gt (pe_cal c_l_draw hr_l_draw (pa_cons (pv 1) (pa_cons pe_int pa_nil))) pe_int (nomark _))
        (pss_one (ps_ret pe_bl)) pss_nil)
      (pss_cons (ps_if (PW.pt (pw_or (pt_cmpR (r := rNeD K) (op_neD hr.units) (pe_calX (E := E0) c_full_counts hr_full_counts passL (pa_cons (pe_lst (pa_cons (pe_tup (pa_cons pe_int (pa_cons pe_int (pa_cons pe_int pa_nil)))) pa_nil)) (pa_cons pe_int pa_nil))) (pe_lst (pa_cons (pe_tup (pa_cons pe_int pa_nil)) pa_nil)) (nomark _)) (pw_or1 (pt_cmpR op_ne (pe_callB (r := Evl.rLenS K) call_len_seq (by rfl) T.b_len (by decide +kernel) (pa_cons (pe_calX (E := E0) c_full_counts hr_full_counts passL (pa_cons (pe_op op_rep (pe_lst (pa_cons (pe_tup (pa_cons pe_int (pa_cons pe_int (pa_cons pe_int pa_nil)))) pa_nil)) pe_int) (pa_cons pe_int pa_nil))) pa_nil)) pe_int (nomark _)))))
        (pss_one (ps_ret pe_bl)) pss_nil)
      (pss_cons (ps_set (i := 11) sc_law.nd rfl (Or.inl rfl) pe_str)
      (pss_cons (ps_try_as (i := 12) rfl rfl sc_law.nd rfl rfl ⟨rfl, by decide, Or.inl T3.glob⟩ takes0
        (fun W pn xe tk _ => pss_one (ps_expr (pe_calS c_full_counts hr_full_counts (fun σ => passAt tk σ) (pa_cons (pe_op op_rep (pe_lst (pa_cons (pe_tup (pa_cons pe_int (pa_cons pe_int (pa_cons pe_int pa_nil)))) pa_nil)) pe_int) (pa_cons (pe_ix (r := rIxQ K) ix_q (pe_lst (pa_cons pe_int (pa_cons pe_int pa_nil))) (pe_cal c_l_draw hr_l_draw (pa_cons (pv 1) (pa_cons pe_int pa_nil))) (fun _ _ => rfl)) pa_nil)))))
        (fun a oe cls d pn hz hf => pss_one (ps_set (i := 11) sc_law.nd rfl (Or.inl rfl) (pe_ifExp (pt_val (pe_callB (call_isT TX.isC hz hf) (by rfl) T.b_isinstance (by decide +kernel) (pa_cons (pv 12) (pa_cons (pe_glob (v := .ref CR) (by rfl) TX.gR rfl) pa_nil)))) (pe_xf TX.xf T3.noA hz hf (pv 12)) pe_str))))
      (pss_one (ps_ret (pe_cmpR op_eq (pv 11) pe_int (nomark _))))))))))))))), ?_⟩
    refine seq_gen (fun σ H' => ∃ h, σ = [some (.ref a), some (.ref h), none, none, none, none, none, none, none, none, none, none, none, none, none, none] ∧ HandAt H' h) (fun σ H1 ⟨h, es, hh1⟩ => ?_) fun B hB => ⟨_, rfl, a, ns, rfl, ha, fun H1 h e1 hh1 nh => hB _ _ ⟨h, rfl, hh1⟩⟩
    subst es
    refine seq_gen (fun σ H' => ∃ y2 y3 y4 y5 y6 y7, σ = [some (.ref a), some (.ref h), y2, y3, y4, y5, y6, y7, none, none, none, none, none, none, none, none] ∧ HandAt H' h) (fun σ H' ⟨y2, y3, y4, y5, y6, y7, es, hh⟩ => ?_) fun B hB => ?_
    · subst es
      obtain ⟨c, hc⟩ := hh
      -- few
      refine seq_gen (fun σ H' => ∃ Fw bk, σ = [some (.ref a), some (.ref h), y2, y3, y4, y5, y6, y7, some (.ref Fw), none, none, none, none, none, none, none] ∧ HandC H' h c ∧ BookAt H' true Fw bk ∧ GoodB bk ∧ (∀ k ∈ bk, k.b ≤ 5 ∧ k.f ≤ 5) ∧ bk.length ≤ 4 ∧ Fw ≠ h) (fun σ H2 ⟨Fw, bkf, es, hc2, hBf, gf, hf5, lf4, nFw⟩ => ?_) fun B hB => ?_
      · subst es
        refine seq_gen (fun σ H' => σ = [some (.ref a), some (.ref h), y2, y3, y4, y5, y6, y7, some (.ref Fw), none, none, none, none, none, none, none] ∧ HandAt H' h) (fun σ H3 ⟨es, hh3⟩ => ?_) fun B hB => ?_
        · subst es
          obtain ⟨c3, hc3⟩ := hh3
          -- great
          refine seq_gen (fun σ H' => ∃ Gr bk, σ = [some (.ref a), some (.ref h), y2, y3, y4, y5, y6, y7, some (.ref Fw), some (.ref Gr), none, none, none, none, none, none] ∧ HandC H' h c3 ∧ BookAt H' true Gr bk ∧ GoodB bk ∧ Gr ≠ h) (fun σ H4 ⟨Gr, bkg, es, hc4, hBg, gg, nGr⟩ => ?_) fun B hB => ?_
          · subst es
            obtain ⟨xg, hxg, hpg⟩ := id hBg
            have lxg := paired_len hpg
            have lg := gg.most
            -- many
            refine seq_gen (fun σ H' => ∃ Mn cs, σ = [some (.ref a), some (.ref h), y2, y3, y4, y5, y6, y7, some (.ref Fw), some (.ref Gr), some (.ref Mn), none, none, none, none, none] ∧ HandC H' h c3 ∧ BookAt H' true Gr bkg ∧ IntsAt H' true Mn cs ∧ GoodC bkg cs ∧ Mn ≠ h) (fun σ H5 ⟨Mn, cs, es, hc5, hBg5, hM5, gc, nMn⟩ => ?_) fun B hB => ?_
            · subst es
              refine seq_gen (fun σ H' => σ = [some (.ref a), some (.ref h), y2, y3, y4, y5, y6, y7, some (.ref Fw), some (.ref Gr), some (.ref Mn), none, none, none, none, none] ∧ HandAt H' h) (fun σ H6 ⟨es, hh6⟩ => ?_) fun B hB => ?_
              · subst es
                obtain ⟨c6, hc6⟩ := hh6
                -- draw > 0
                refine seq_gen (fun σ H' => σ = [some (.ref a), some (.ref h), y2, y3, y4, y5, y6, y7, some (.ref Fw), some (.ref Gr), some (.ref Mn), none, none, none, none, none] ∧ HandAt H' h) (fun σ H7 ⟨es, hh7⟩ => ?_) fun B hB => ?_
                · subst es
                  obtain ⟨c7, hc7⟩ := hh7
                  refine seq_gen (fun σ H' => σ = [some (.ref a), some (.ref h), y2, y3, y4, y5, y6, y7, some (.ref Fw), some (.ref Gr), some (.ref Mn), none, none, none, none, none] ∧ HandC H' h c7) (fun σ H8 ⟨es, hc8⟩ => ?_) fun B hB => ?_
                  · subst es
                    refine seq_gen (fun σ H' => σ = [some (.ref a), some (.ref h), y2, y3, y4, y5, y6, y7, some (.ref Fw), some (.ref Gr), some (.ref Mn), some (.str "let"), none, none, none, none] ∧ HandC H' h c7) (fun σ H9 ⟨es, hc9⟩ => ?_) fun B hB => hB _ _ ⟨rfl, hc8⟩
                    subst es
                    refine seq_gen (fun σ H' => ∃ z, σ = [some (.ref a), some (.ref h), y2, y3, y4, y5, y6, y7, some (.ref Fw), some (.ref Gr), some (.ref Mn), some (.int 2000), z, none, none, none]) (fun σ H10 ⟨z, es⟩ => ?_) fun B hB => ?_
                    · subst es
                      exact ⟨_, rfl, rfl, q _⟩
                    · refine ⟨by show 3 ≤ sizeLine; decide, fun p1 hp1 => ⟨by show 1 ≤ sizeLine; decide, fun L1 hL1 => ?_⟩⟩
                      have e1 := Ex.new (o := .tup [V.int 2, .int 1, .int 1]) hp1
                      have e2 := Ex.new (o := .lst [V.ref p1]) hL1
                      refine ⟨L1, 4, [.ref p1], rfl, rfl, upd_same, by decide, by decide, by show 4 ≤ sizeLine; decide, fun L2 hL2 => ?_⟩
                      have e3 := Ex.new (o := .lst (List.replicate (4 : Int).toNat [V.ref p1]).flatten) hL2
                      refine ⟨by show 2 ≤ sizeLine; decide, fun L3 hL3 => ?_⟩
                      have e4 := Ex.new (o := .lst [V.int 22, .int 60]) hL3
                      have e14 := ((e1.trans e2).trans e3).trans e4
                      have hc10 := hc9.up e14
                      have n3 := (hc9.up ((e1.trans e2).trans e3)).ne hL3
                      have n2 := (hc9.up (e1.trans e2)).ne hL2
                      refine ⟨_, rfl, h, c7, 2, rfl, hc10, by decide, by decide, fun H11 r e11 hc11 r0 r1 => ?_⟩
                      obtain ⟨cells, hcl, cell⟩ : ∃ cells : Int, atI [V.int 22, .int 60] r = some (.int cells) ∧ (cells = 22 ∨ cells = 60) := by
                        have : r = 0 ∨ r = 1 := by omega
                        rcases this with rfl | rfl
                        · exact ⟨22, rfl, .inl rfl⟩
                        · exact ⟨60, rfl, .inr rfl⟩
                      refine ⟨true, L3, _, _, _, rfl, rfl, SqL.of (e11.get n3.1 upd_same), hcl, ?_⟩
                      have hp11 : H11 p1 = some (.tup [V.int 2, .int 1, .int 1]) := (tups_handC hc10 e11).tup (((e2.trans e3).trans e4) p1 _ upd_same)
                      have hL11 : H11 L2 = some (.lst [V.ref p1, .ref p1, .ref p1, .ref p1]) := e11.get n2.1 (e4 _ _ upd_same)
                      have kA : KindAt H11 (.ref p1) oneK := ⟨p1, rfl, hp11⟩
                      have big : 2000 < (lookR (List.replicate 4 oneK) cells 4 []).length := by
                        rw [one_len (n := 4) (by omega) 3 [] rfl (fun c h => by simp at h) (by rw [List.sum_nil]; omega)]
                        rcases cell with rfl | rfl
                        · rw [show ((22 : Int) - 1 - ([] : List Int).sum).toNat = 21 from rfl, cnt_21]
                          decide
                        · exact cnt_59
                      refine ⟨L2, cells, true, List.replicate 4 oneK, rfl, ⟨_, hL11, .cons kA (.cons kA (.cons kA (.cons kA .nil)))⟩, ⟨by decide, by decide, one_good⟩, fun k hk => ?_, by decide, by omega, by omega, fun z => absurd z (Nat.not_le_of_lt big), fun _ H12 d e12 hd12 => ?_⟩
                      · rw [(List.mem_replicate.mp hk).2]
                        decide
                      · refine ⟨true, TX.exm, fun _ a' ha' => ?_, fun z => nomatch z⟩
                        refine ⟨_, rfl, .ref CR, .ref CR, true, d, _, rfl, fun u hu => hu, rfl, rfl, hd12, TX.kit, ?_⟩
                        refine ⟨_, rfl, iteT ⟨_, rfl, rfl, rfl, d, _, .int 2000, rfl, hd12, rfl, ?_⟩⟩
                        exact hB _ _ ⟨_, rfl⟩
                  · -- two answers by count
                    refine ⟨by show 3 ≤ sizeLine; decide, fun p1 hp1 => ⟨by show 1 ≤ sizeLine; decide, fun L1 hL1 => ?_⟩⟩
                    have e1 := Ex.new (o := .tup [V.int 2, .int 1, .int 1]) hp1
                    have e2 := Ex.new (o := .lst [V.ref p1]) hL1
                    have l59 : lookR [oneK] 60 [oneK].length [] = [[59]] := one_59
                    refine ⟨L1, 60, true, [oneK], rfl, ⟨_, upd_same, .cons ⟨p1, rfl, e2 _ _ upd_same⟩ .nil⟩, ⟨by decide, by decide, one_good (n := 1)⟩, fun k hk => ?_, by decide, by decide, by decide, fun _ H8 F8 x8 e8 hF8 hP8 => ?_, fun z => absurd z (by rw [l59]; decide)⟩
                    · rw [List.mem_singleton.mp hk]
                      decide
                    rw [l59] at hP8
                    refine ⟨by show 1 ≤ sizeLine; decide, fun p2 hp2 => ⟨by show 1 ≤ sizeLine; decide, fun L2 hL2 => ?_⟩⟩
                    have e9 := Ex.new (o := .tup [V.int 59]) hp2
                    have e10 := Ex.new (o := .lst [V.ref p2]) hL2
                    have e910 := e9.trans e10
                    refine ⟨rowsD [[59]], rowsD [[59]], .lst (SqL.of (e910 _ _ hF8)) (dp_rows (Paired.up tm_row (Tups.of e910) hP8)), .lst (SqL.of upd_same) (dp_rows (.cons ⟨p2, rfl, e10 _ _ upd_same⟩ .nil)), shaped_rows _, shaped_rows _, ?_⟩
                    rw [SeqAt.eqv_refl _ (canLay_rows _)]
                    refine ⟨_, rfl, iteF ?_⟩
                    have e110 := ((e1.trans e2).trans e8).trans e910
                    refine ⟨by show 3 ≤ sizeLine; decide, fun p3 hp3 => ⟨by show 1 ≤ sizeLine; decide, fun L3 hL3 => ?_⟩⟩
                    have e11 := Ex.new (o := .tup [V.int 2, .int 1, .int 1]) hp3
                    have e12 := Ex.new (o := .lst [V.ref p3]) hL3
                    refine ⟨L3, 4, [.ref p3], rfl, rfl, upd_same, by decide, by decide, by show 4 ≤ sizeLine; decide, fun L4 hL4 => ?_⟩
                    have e13 := Ex.new (o := .lst (List.replicate (4 : Int).toNat [V.ref p3]).flatten) hL4
                    have kA : KindAt (upd (upd (upd (upd (upd H8 p2 (.tup [V.int 59])) L2 (.lst [V.ref p2])) p3 (.tup [V.int 2, .int 1, .int 1])) L3 (.lst [V.ref p3])) L4 (.lst (List.replicate (4 : Int).toNat [V.ref p3]).flatten)) (.ref p3) oneK := ⟨p3, rfl, (e12.trans e13) _ _ upd_same⟩
                    have l1771 : (lookR (List.replicate 4 oneK) 21 4 []).length = 1771 := by
                      rw [one_len (n := 4) (by decide) 3 [] rfl (fun c h => by simp at h) (by decide)]
                      exact cnt_20
                    refine ⟨L4, 21, true, List.replicate 4 oneK, rfl, ⟨_, upd_same, .cons kA (.cons kA (.cons kA (.cons kA .nil)))⟩, ⟨by decide, by decide, one_good⟩, fun k hk => ?_, by decide, by decide, by decide, fun _ H14 F14 x14 e14 hF14 hP14 => ?_, fun z => absurd z (by rw [show (List.replicate 4 oneK).length = 4 from rfl, l1771]; decide)⟩
                    · rw [(List.mem_replicate.mp hk).2]
                      decide
                    have lx14 : x14.length = 1771 := (paired_len hP14).trans l1771
                    refine ⟨F14, x14, rfl, .inl (SqL.of hF14), rfl, _, rfl, iteNS (by rw [lx14]; rfl) ?_⟩
                    exact hB _ _ ⟨rfl, hc7.up ((((e110.trans e11).trans e12).trans e13).trans e14)⟩
                · refine ⟨_, rfl, h, c6, 12, rfl, hc6, by decide, by decide, fun H7 r e7 hc7 r0 r1 => ⟨_, _, rfl, rfl, _, rfl, ?_⟩⟩
                  by_cases hr0 : 0 < r
                  · rw [decide_eq_true hr0]
                    exact iteT (q _)
                  · rw [decide_eq_false hr0]
                    exact iteF (hB _ _ ⟨rfl, ⟨c6, hc7⟩⟩)
              · refine ⟨_, rfl, _, rfl, true, Gr, bkg, true, Mn, cs, rfl, hBg5, gg, hM5, gc, fun H6 e6 => ⟨_, rfl, _, rfl, true, Gr, bkg, true, Mn, cs, rfl, hBg5.up e6, hM5.up e6, gc.fits gg, fun H7 e7 => ⟨rfl, _, rfl, iteNS rfl ?_⟩⟩⟩
                have e67 := e6.trans e7
                exact ⟨_, rfl, _, rfl, _, rfl, h, true, Gr, bkg, Mn, cs, rfl, ⟨c3, hc5.up e67⟩, hBg5.up e67, gg, hM5.up e67, gc, nGr, nMn, fun H8 e8 hh8 => ⟨true, rfl, iteF (hB _ _ ⟨rfl, hh8⟩)⟩⟩
            · refine ⟨_, rfl, true, Gr, xg, rfl, SqL.of hxg, fun Mn hMn => lc_hand (walk_seq (k := true) (a := Gr) (xs := xg)) hMn tm_int h c3 hc4 (fun z => 0 ≤ z ∧ z ≤ 1000000000) (fun H => H Gr = some (.lst xg)) hxg (fun H H' _ e k => e.get nGr k) (fun H D ys hD k => by
                  rw [upd_ne (ne_of_none hxg hD)]
                  exact k) (fun H k => SqL.of k) (by omega)
                (fun i x H H' K1 hi hc _ eB y k1 => ?_) mono_name fun H5 xs5 cs e5 hC hp5 lcs hpz5 hc5 hB5 => ?_⟩
              · obtain ⟨eh, ex⟩ := y
                subst eh
                refine ⟨rfl, _, _, rfl, rfl, ⟨by decide, by decide, by decide⟩, by show 4 ≤ sizeLine; decide, fun pL hpL => ?_⟩
                have eL := Ex.new (o := .lst [V.int 0, .int 1, .int 5, .int (10 ^ (9 : Int).toNat)]) hpL
                have nL := hc.ne hpL
                refine ⟨_, rfl, h, c3, 4, rfl, hc.up eL, by decide, by decide, fun H4 r e4 hc4 r0 r1 => ?_⟩
                obtain ⟨z, hz, z0, z1⟩ : ∃ z : Int, atI [V.int 0, .int 1, .int 5, .int (10 ^ (9 : Int).toNat)] r = some (.int z) ∧ 0 ≤ z ∧ z ≤ 1000000000 := by
                  have : r = 0 ∨ r = 1 ∨ r = 2 ∨ r = 3 := by omega
                  rcases this with rfl | rfl | rfl | rfl
                  · exact ⟨0, rfl, by decide, by decide⟩
                  · exact ⟨1, rfl, by decide, by decide⟩
                  · exact ⟨5, rfl, by decide, by decide⟩
                  · exact ⟨10 ^ (9 : Int).toNat, rfl, by decide, by decide⟩
                exact ⟨true, pL, _, _, _, rfl, rfl, SqL.of (e4.get nL.1 upd_same), hz, k1 (.int z) H4 z rfl ⟨z0, z1⟩ ((ExB.of eL).trans e4) hc4⟩
              · rw [pair_int hp5] at hC
                exact hB _ _ ⟨Mn, cs, rfl, hc5, hBg.upB ⟨c3, hc4⟩ e5 nGr, hC, ⟨by omega, fun z hz => (hpz5 z hz).1, fun z hz => (hpz5 z hz).2⟩, (hc4.ne hMn).1⟩
          · refine ⟨_, rfl, h, c3, 12, rfl, hc3, by decide, by decide, fun H4 d e4 hc4 d0 d1 => ⟨_, _, rfl, rfl, 1 + d, rfl, by omega, by omega, fun Gr hGr => lc_hand (walk_r0 (n := (1 + d).toNat) rfl) hGr tm_kind h c3 hc4 GoodK (fun _ => True) trivial (fun _ _ _ _ _ => trivial) (fun _ _ _ _ _ => trivial) (fun _ _ => trivial) (by omega)
              (fun i x H H' K1 hi hc _ eB y k1 => ?_) mono_name fun H5 xs bk e5 hB5 hpk lbk hpz hc5 _ => ?_⟩⟩
            · obtain ⟨eh, rfl⟩ := y
              subst eh
              refine ⟨rfl, _, rfl, _, _, rfl, rfl, ⟨by decide, by decide, by decide⟩, _, _, rfl, rfl, .inl ⟨by decide, by decide⟩, by show 3 ≤ sizeLine; decide, fun pL hpL => ?_⟩
              have eL := Ex.new (o := .lst [V.int 9, .int 1000, .int (4 * 10 ^ (29 : Int).toNat)]) hpL
              have nL := hc.ne hpL
              refine ⟨_, rfl, h, c3, 3, rfl, hc.up eL, by decide, by decide, fun H4 r e4 hc4 r0 r1 => ?_⟩
              obtain ⟨z, hz, z0, z1⟩ : ∃ z : Int, atI [V.int 9, .int 1000, .int (4 * 10 ^ (29 : Int).toNat)] r = some (.int z) ∧ 1 ≤ z ∧ z ≤ 400000000000000000000000000000 := by
                have : r = 0 ∨ r = 1 ∨ r = 2 := by omega
                rcases this with rfl | rfl | rfl
                · exact ⟨9, rfl, by decide, by decide⟩
                · exact ⟨1000, rfl, by decide, by decide⟩
                · exact ⟨4 * 10 ^ (29 : Int).toNat, rfl, by decide, by decide⟩
              exact ⟨true, pL, _, _, _, rfl, rfl, SqL.of (e4.get nL.1 upd_same), hz, h, c3, z, rfl, hc4, z0, z1, fun H6 v k e6 hc6 hv g hb hf => k1 v H6 k hv g (((ExB.of eL).trans e4).trans e6) hc6⟩
            · exact hB _ _ ⟨Gr, bk, rfl, hc5, ⟨xs, hB5, hpk⟩, ⟨by omega, by omega, hpz⟩, (hc4.ne hGr).1⟩
        · refine ⟨_, rfl, h, c, 10, rfl, hc2, by decide, by decide, fun H3 r e3 hc3 r0 r1 => ⟨rfl, _, rfl, ?_⟩⟩
          rw [dec_intV]
          by_cases hr0 : r = 0
          · rw [decide_eq_true hr0]
            refine iteT ⟨_, rfl, _, rfl, h, true, Fw, bkf, rfl, ⟨c, hc3⟩, hBf.upB ⟨c, hc2⟩ e3 nFw, gf, fun k hk => ?_, lf4, nFw, fun H4 e4 hh4 => ⟨true, rfl, iteF (hB _ _ ⟨rfl, hh4⟩)⟩⟩
            have a1 := aside_le k
            have a2 := hf5 k hk
            omega
          · rw [decide_eq_false hr0]
            exact iteF (hB _ _ ⟨rfl, ⟨c, hc3⟩⟩)
      · refine ⟨_, rfl, h, c, 2, rfl, hc, by decide, by decide, fun H3 d e3 hc3 d0 d1 => ⟨_, _, rfl, rfl, 3 + d, rfl, by omega, by omega, fun Fw hFw => lc_hand (walk_r0 (n := (3 + d).toNat) rfl) hFw tm_kind h c hc3 (fun k => GoodK k ∧ k.b ≤ 5 ∧ k.f ≤ 5) (fun _ => True) trivial (fun _ _ _ _ _ => trivial) (fun _ _ _ _ _ => trivial) (fun _ _ => trivial) (by omega)
          (fun i x H H' K1 hi hc _ eB y k1 => ?_) mono_name fun H4 xs bk e4 hB4 hpk lbk hpz hc4 _ => ?_⟩⟩
        · obtain ⟨eh, rfl⟩ := y
          subst eh
          exact ⟨rfl, _, rfl, h, c, 3, rfl, hc, by decide, by decide, fun H4 v k e4 hc4 hv g hb hf => k1 v H4 k hv ⟨g, by omega, by omega⟩ e4 hc4⟩
        · exact hB _ _ ⟨Fw, bk, rfl, hc4, ⟨xs, hB4, hpk⟩, ⟨by omega, by omega, fun k hk => (hpz k hk).1⟩, fun k hk => (hpz k hk).2, by omega, (hc3.ne hFw).1⟩
    · refine ⟨2, rfl, by decide, by decide, for_it (walk_r0 (n := 2) rfl) (fun i σ H' => ∃ y2 y3 y4 y5 y6 y7, σ = [some (.ref a), some (.ref h), y2, y3, y4, y5, y6, y7, none, none, none, none, none, none, none, none] ∧ HandAt H' h) ⟨_, _, _, _, _, _, rfl, hh1⟩ (fun _ _ _ _ _ => trivial) ?_ ?_⟩
      · rintro i x σ H0 H2 hi ⟨y2, y3, y4, y5, y6, y7, rfl, hh2⟩ ⟨eh, rfl⟩
        subst eh
        obtain ⟨c, hc2⟩ := hh2
        -- book
        refine ⟨_, rfl, h, c, 3, rfl, hc2, by decide, by decide, fun H3 d e3 hc3 d0 d1 => ⟨_, _, rfl, rfl, 1 + d, rfl, by omega, by omega, fun Bk hBk => lc_hand (walk_r0 (n := (1 + d).toNat) rfl) hBk tm_kind h c hc3 (fun k => GoodK k ∧ k.b ≤ 5 ∧ k.f ≤ 5) (fun _ => True) trivial (fun _ _ _ _ _ => trivial) (fun _ _ _ _ _ => trivial) (fun _ _ => trivial) (by omega)
          (fun i x H H' K1 hi hc _ eB y k1 => ?_) mono_name fun H4 xs bk e4 hB hpk lbk hpz hc4 _ => ?_⟩⟩
        · obtain ⟨eh, rfl⟩ := y
          subst eh
          exact ⟨rfl, _, rfl, h, c, 5, rfl, hc, by decide, by decide, fun H4 v k e4 hc4 hv g hb hf => k1 v H4 k hv ⟨g, hb, hf⟩ e4 hc4⟩
        · have lx := paired_len hpk
          have g : GoodB bk := ⟨by omega, by omega, fun k hk => (hpz k hk).1⟩
          have nBh : Bk ≠ h ∧ Bk ≠ c := hc3.ne hBk
          have hb5 : ∀ k ∈ bk, k.b ≤ 5 ∧ k.f ≤ 5 := fun k hk => (hpz k hk).2
          have l3 : bk.length ≤ 3 := by omega
          -- counts
          refine ⟨_, rfl, true, Bk, xs, rfl, SqL.of hB, fun Cn hCn => lc_hand (walk_seq (k := true) (a := Bk) (xs := xs)) hCn tm_int h c hc4 (fun z => 0 ≤ z ∧ z ≤ 2) (fun H => H Bk = some (.lst xs)) hB (fun H H' _ e k => e.get nBh.1 k) (fun H D ys hD k => by
              rw [upd_ne (ne_of_none hB hD)]
              exact k) (fun H k => SqL.of k) (by omega)
            (fun i x H H' K1 hi hc _ eB y k1 => ?_) mono_name fun H5 xs5 cs e5 hC hp5 lcs hpz5 hc5 hB5 => ?_⟩
          · obtain ⟨eh, ex⟩ := y
            subst eh
            exact ⟨rfl, _, rfl, h, c, 3, rfl, hc, by decide, by decide, fun H4 r e4 hc4 r0 r1 => k1 (.int r) H4 r rfl ⟨r0, by omega⟩ e4 hc4⟩
          · rw [pair_int hp5] at hC
            have nCh : Cn ≠ h ∧ Cn ≠ c := hc4.ne hCn
            have nBC : Bk ≠ Cn := ne_of_none hB hCn
            have hBk5 : BookAt H5 true Bk bk := ⟨xs, hB5, Paired.up tm_kind (tups_handC hc4 e5) hpk⟩
            -- while
            refine ⟨fun m σ H' => ∃ cs' : List Int, σ = [some (.ref a), some (.ref h), some (.int (i : Int)), some (.ref Bk), some (.ref Cn), y5, y6, y7, none, none, none, none, none, none, none, none] ∧ m = cs'.sum.toNat ∧ ExB (· = Cn) H5 H' ∧ H' Cn = some (.lst (cs'.map V.int)) ∧ cs'.length = bk.length ∧ ∀ z ∈ cs', 0 ≤ z ∧ z ≤ 2,
              ⟨_, cs, rfl, rfl, ExB.refl _, hC, by omega, hpz5⟩, ?_⟩
            rintro m σ H6 ⟨cs', rfl, rfl, eB6, hC6, lc6, hz6⟩
            refine ⟨_, rfl, Cn, cs', rfl, SqL.of hC6, _, _, rfl, rfl, _, rfl, ?_⟩
            by_cases hbig : 4 < cs'.sum
            · rw [decide_eq_true hbig]
              refine iteT ⟨fun σ' H' => ∃ m', m' < cs'.sum.toNat ∧ ∃ cs2 : List Int, σ' = [some (.ref a), some (.ref h), some (.int (i : Int)), some (.ref Bk), some (.ref Cn), y5, y6, y7, none, none, none, none, none, none, none, none] ∧ m' = cs2.sum.toNat ∧ ExB (· = Cn) H5 H' ∧ H' Cn = some (.lst (cs2.map V.int)) ∧ cs2.length = bk.length ∧ ∀ z ∈ cs2, 0 ≤ z ∧ z ≤ 2, fun _ _ z => z, ?_⟩
              have l0 : 0 < cs'.length := by
                have := g.one
                omega
              refine ⟨_, rfl, Cn, cs', rfl, SqL.of hC6, l0, fun mx hmx htop => ⟨_, _, rfl, rfl, ?_⟩⟩
              refine ⟨_, rfl, _, rfl, .inl ⟨rfl, _, SqL.of hC6⟩, _, rfl, Cn, cs', rfl, SqL.of hC6, l0, fun m2 hm2 htop2 => ?_⟩
              obtain rfl : m2 = mx := Int.le_antisymm (htop m2 hm2) (htop2 mx hmx)
              obtain ⟨j, hj, hfirst⟩ := first_at hm2
              have hjl := (List.getElem?_eq_some_iff.mp hj).1
              refine ⟨Cn, _, .int m2, j, .int m2, rfl, rfl, SqL.of hC6, rfl, ?_, int_map_at hj, by simp [eqV], fun t z' ht hz' => ?_, ?_⟩
              · rw [List.all_map]
                exact List.all_eq_true.mpr fun _ _ => rfl
              · obtain ⟨v, hv, rfl⟩ := map_got hz'
                have := hfirst t ht v hv
                simp [eqV, this]
              · refine ⟨Cn, _, _, j, rfl, rfl, hC6, ?_, ?_⟩
                · show ixN _ _ = _
                  unfold ixN
                  rw [List.length_map, if_pos (by omega), if_pos (by omega), Int.toNat_natCast]
                · have hpos : 0 < m2 := by
                    by_cases h0 : 0 < m2
                    · exact h0
                    · have := sum_le0 (cs := cs') fun z hz => by
                        have := htop z hz
                        omega
                      omega
                  have m22 := hz6 m2 hm2
                  refine ⟨_, ?_, cs'.set j (m2 - 1), rfl, rfl, eB6.trans ExB.set, ?_, by rw [List.length_set]; exact lc6, fun z hz => ?_⟩
                  · rw [sum_set (m2 - 1) hj]
                    omega
                  · rw [upd_same, List.map_set]
                  · rcases List.mem_or_eq_of_mem_set hz with h | h
                    · exact hz6 z h
                    · omega
            · rw [decide_eq_false hbig]
              refine iteF ?_
              have hc6 := hc5.upX nCh eB6
              have hB6 : BookAt H6 true Bk bk := BookAt.upF hC eB6 nBC hBk5
              have hpos : ∀ z ∈ cs', 0 ≤ z := fun z hz => (hz6 z hz).1
              have gc : GoodC bk cs' := ⟨lc6, hpos, fun z hz => by
                have := hz6 z hz
                omega⟩
              -- orders
              refine ⟨_, rfl, Cn, cs', rfl, hC6, by omega, hpos, by omega, fun H7 O os e7 hO hRO => ?_⟩
              have lo := paired_len hRO
              have lol : (ordersOf cs').length ≤ 81 := Nat.le_trans (orders_len (by omega) _ (by omega)) (Nat.pow_le_pow_right (n := 3) (by decide) (show cs'.sum.toNat ≤ 4 by omega))
              -- due
              refine ⟨by show 1 ≤ sizeLine; decide, fun p0 hp0 => ?_⟩
              have e8 := Ex.new (o := .lst [V.int 0]) hp0
              have hO8 := e8 _ _ hO
              have e68 := e7.trans e8
              refine ⟨_, rfl, true, O, os, rfl, SqL.of hO8, fun D hD => lc_fill (walk_seq (k := true) (a := O) (xs := os)) hD S0 RInt tm_int (fun i zs H' => Ex (upd H7 p0 (.lst [V.int 0])) H' ∧ zs.length = i ∧ ∀ (j : Nat) m, zs[j]? = some m → ∃ r, (ordersOf cs')[j]? = some r ∧ WorstIs (ksOf bk r) m) (fun _ z => z.elim) ⟨Ex.refl _, rfl, fun j m z => by simp at z⟩
                (fun D4 ys i zs H' hD4 ⟨e, z⟩ => ⟨Ex.mut e hD4, z⟩) (fun i zs H' _ p => SqL.of (p.1 _ _ hO8)) (by omega) (fun i zs H' p => Nat.le_of_eq p.2.1) (fun _ _ H' H'' e _ _ => Tups.of e.ex) (fun t zs x H' H'' K1 K2 ht p eb y k1 _ => ?_) fun H9 xs9 zs eb9 hx9 hp9 p9 => ?_⟩
              · obtain ⟨p1, p2, p3⟩ := p
                obtain ⟨eh, ex⟩ := y
                subst eh
                obtain ⟨r, hr1, pr, orr, rfl, hpr, _⟩ := paired_at hRO ex
                obtain ⟨r1, r2, r3⟩ := (orders_iff hpos _ r).mp (List.mem_of_getElem? hr1)
                rw [lc6] at r2
                refine ⟨rfl, iteT (B := K2 H'') ?_⟩
                refine ⟨_, rfl, _, rfl, true, Bk, bk, pr, r, ksOf bk r, rfl, hB6.up (e68.trans p1), RowF.sq (p1 _ _ (e8 _ _ hpr)), ord_of r2, by omega, fun H9 m e9 hw => k1 (.int m) H9 m rfl (ExB.of e9) ⟨p1.trans e9, ?_, fun j m' hj => ?_⟩⟩
                · rw [List.length_append, p2]
                  rfl
                · by_cases hlt : j < zs.length
                  · rw [List.getElem?_append_left hlt] at hj
                    exact p3 j m' hj
                  · rw [List.getElem?_append_right (by omega)] at hj
                    have hj0 : j - zs.length = 0 := by
                      have := (List.getElem?_eq_some_iff.mp hj).1
                      simp at this
                      omega
                    rw [hj0] at hj
                    obtain rfl : m = m' := Option.some.inj hj
                    exact ⟨r, by rw [show j = t by omega]; exact hr1, hw⟩
              · obtain ⟨p1, p2, p3⟩ := p9
                rw [pair_int hp9] at hx9
                refine ⟨p0, D, _, _, rfl, rfl, p1 _ _ upd_same, hx9, ?_, fun p10 hp10 => ?_⟩
                · rw [List.length_map]
                  exact Nat.le_trans (show 1 + zs.length ≤ 100 by omega) (by decide)
                · refine ⟨p10, 0 :: zs, rfl, SqL.of upd_same, Nat.succ_pos _, fun m hm htop => ?_⟩
                  have hdue : m = fact bk cs' := by
                    refine due_fact g.all lc6 hpos ⟨htop 0 List.mem_cons_self, ?_, fun r hr => ?_⟩
                    · rcases List.mem_cons.mp hm with z | z
                      · exact .inl z
                      · obtain ⟨j, hj⟩ := List.mem_iff_getElem?.mp z
                        obtain ⟨r, hr1, hw⟩ := p3 j m hj
                        exact .inr ⟨r, List.mem_of_getElem? hr1, hw⟩
                    · obtain ⟨j, hj⟩ := List.mem_iff_getElem?.mp hr
                      have hjl := (List.getElem?_eq_some_iff.mp hj).1
                      obtain ⟨m', hm'⟩ : ∃ m', zs[j]? = some m' := ⟨_, List.getElem?_eq_getElem (by omega)⟩
                      obtain ⟨r', hr', hw⟩ := p3 j m' hm'
                      obtain rfl := Option.some.inj (hj.symm.trans hr')
                      exact ⟨m', hw, htop m' (List.mem_cons_of_mem _ (List.mem_of_getElem? hm'))⟩
                  have e10 := Ex.new (o := .lst ([V.int 0] ++ zs.map V.int)) hp10
                  have e6T := (e68.trans p1).trans e10
                  have hBT := hB6.up e6T
                  have hCT := e6T _ _ hC6
                  have hcT := hc6.up e6T
                  obtain ⟨xsT, hxT, hpT⟩ := id hBT
                  clear hm htop
                  subst hdue
                  generalize (upd H9 p10 (.lst ([V.int 0] ++ zs.map V.int))) = H10 at *
                  -- given
                  refine ⟨_, rfl, _, rfl, Bk, xsT, rfl, .inl ⟨SqL.of hxT, fun TB hTB => ?_⟩⟩
                  have e11 := Ex.new (o := .tup xsT) hTB
                  refine ⟨by show 2 ≤ sizeLine; decide, fun Gv hGv => ?_⟩
                  have e12 := Ex.new (o := .lst [V.ref Bk, .ref TB]) hGv
                  have e1012 := e11.trans e12
                  have hc12 := hcT.up e1012
                  have nGh := (hcT.up e11).ne hGv
                  refine ⟨_, rfl, h, c, 2, rfl, hc12, by decide, by decide, fun H13 r13 e13 hc13 r0 r1 => ?_⟩
                  have eT13 := (ExB.of (S := (· = h)) e1012).trans e13
                  have hB13 := hBT.upB ⟨c, hcT⟩ eT13 nBh.1
                  have hC13 : IntsAt H13 true Cn cs' := eT13.get nCh.1 hCT
                  have t13 : Tups H10 H13 := tups_handC hcT eT13
                  have hTB13 : H13 TB = some (.tup xsT) := (tups_handC hc12 e13).tup (e12 _ _ upd_same)
                  obtain ⟨gk, ga, hga, hgB⟩ : ∃ (gk : Bool) (ga : Addr), atI [V.ref Bk, V.ref TB] r13 = some (.ref ga) ∧ BookAt H13 gk ga bk := by
                    have : r13 = 0 ∨ r13 = 1 := by omega
                    rcases this with rfl | rfl
                    · exact ⟨true, Bk, rfl, hB13⟩
                    · exact ⟨false, TB, rfl, xsT, hTB13, Paired.up tm_kind t13 hpT⟩
                  refine ⟨true, Gv, _, _, _, rfl, rfl, SqL.of (e13.get nGh.1 upd_same), hga, ?_⟩
                  -- greatest_load, the fact
                  refine ⟨_, rfl, _, rfl, gk, ga, bk, true, Cn, cs', rfl, hgB, g, hC13, gc, fun H14 e14 => ⟨_, rfl, rfl, _, rfl, iteNS rfl ?_⟩⟩
                  refine ⟨_, rfl, _, rfl, true, Bk, bk, true, Cn, cs', rfl, hB13.up e14, hC13.up e14, gc.fits g, fun H15 e15 => ⟨_, rfl, rfl, _, rfl, iteNS rfl ?_⟩⟩
                  have e135 := e14.trans e15
                  have hB15 := hB13.up e135
                  have hC15 : IntsAt H15 true Cn cs' := hC13.up e135
                  have hc15 := hc13.up e135
                  -- worst_right
                  refine ⟨_, rfl, _, rfl, _, rfl, h, true, Bk, bk, Cn, cs', rfl, ⟨c, hc15⟩, hB15, g, hC15, gc, nBh.1, nCh.1, fun H16 e16 hh16 => ⟨true, rfl, iteF ?_⟩⟩
                  have hB16 := hB15.upB ⟨c, hc15⟩ e16 nBh.1
                  have hC16 : IntsAt H16 true Cn cs' := e16.get nCh.1 hC15
                  -- more_right
                  refine ⟨_, rfl, _, rfl, _, rfl, Cn, _, rfl, .inl ⟨SqL.of hC16, fun Tc hTc => ?_⟩⟩
                  have e17 := Ex.new (o := .tup (cs'.map V.int)) hTc
                  have nTh : Tc ≠ h := hh16.ne hTc
                  refine ⟨h, true, Bk, bk, false, Tc, cs', rfl, hh16.up e17, hB16.up e17, g, upd_same, gc, nBh.1, nTh, fun k hk => ?_, fact_bound g hb5 gc, fun H18 e18 hh18 => ⟨true, rfl, iteF ?_⟩⟩
                  · have a1 := aside_le k
                    have a2 := hb5 k hk
                    omega
                  have hB18 := (hB16.up e17).upB (hh16.up e17) e18 nBh.1
                  obtain ⟨xs18, hx18, hp18⟩ := id hB18
                  -- full_right
                  refine ⟨_, rfl, _, rfl, _, rfl, Bk, xs18, rfl, SqL.of hx18, fun p19 hp19 => ?_⟩
                  have e19 := Ex.new (o := .lst (cutV xs18 none (some (2 : Int)))) hp19
                  have n19 : p19 ≠ h := hh18.ne hp19
                  have hB19 : BookAt (upd H18 p19 (.lst (cutV xs18 none (some (2 : Int))))) true p19 (bk.take 2) := ⟨xs18.take 2, by rw [show cutV xs18 none (some (2 : Int)) = xs18.take 2 from cut_to xs18 2]; exact upd_same, Paired.take 2 (Paired.up tm_kind (Tups.of e19) hp18)⟩
                  refine ⟨h, true, p19, bk.take 2, rfl, hh18.up e19, hB19, g.take, fun k hk => ?_, by rw [List.length_take]; omega, n19, fun H20 e20 hh20 => ⟨true, rfl, iteF ?_⟩⟩
                  · have a1 := aside_le k
                    have a2 := hb5 k (List.take_subset _ _ hk)
                    omega
                  exact ⟨_, _, _, _, _, _, rfl, hh20⟩
      · rintro σ H2 hs
        exact hB _ _ hs
end
end K27

set_option Elab.async false
set_option linter.all false
set_option maxRecDepth 100000
set_option maxHeartbeats 1000000
/-! LF: the end. Printed by gen/end.py. -/
namespace K27
open PySem PySem.Spec PyProof.Rows L2
section
variable {K : PySem.W.Frag} {h : Heap} {mg : Str → Option Value}
theorem own_mk (X : K.In h) (G : h.Ns mainGlobals mg) {x : Str} {st : Stmt} {ps : List Str} {f : Addr} {od an : Option Addr} {sl : Array (Option Value)} {oc kV dc pm cd ct : Value} (b : ∀ {f : Addr} {fd : FuncData}, Fun K x x st f fd → Binds K fd ps [])
    (a : PySem.W.nsIn K mainGlobals x = some (some (.ref f))) (l : K.lookup f = some ⟨oc, od, .func (PySem.W.fnOf x x (defArgs st) (defBody st) (defScope st) .none kV dc pm an cd ct), sl⟩) (c : PySem.W.codeIn K cd x = true) (k : PySem.W.keepIn K (.ref f) = true) : Own K mg x st ps :=
  ⟨f, _, fun_mk (st := st) l c k, PySem.W.mg_of X G a, b (fun_mk (st := st) l c k)⟩
theorem b_is_integer {f : Addr} {fd : FuncData} (F : Fun K "is_integer" "is_integer" s_is_integer f fd) : Binds K fd ["thing"] [] := F.binds (ps := ["thing"]) fun _ _ _ _ _ _ us hl => match us, hl with | [_], _ => rfl
theorem b_is_within {f : Addr} {fd : FuncData} (F : Fun K "is_within" "is_within" s_is_within f fd) : Binds K fd ["thing", "least", "most"] [] := F.binds (ps := ["thing", "least", "most"]) fun _ _ _ _ _ _ us hl => match us, hl with | [_, _, _], _ => rfl
theorem b_aside {f : Addr} {fd : FuncData} (F : Fun K "aside" "aside" s_aside f fd) : Binds K fd ["kind"] [] := F.binds (ps := ["kind"]) fun _ _ _ _ _ _ us hl => match us, hl with | [_], _ => rfl
theorem b_is_kind {f : Addr} {fd : FuncData} (F : Fun K "is_kind" "is_kind" s_is_kind f fd) : Binds K fd ["thing"] [] := F.binds (ps := ["thing"]) fun _ _ _ _ _ _ us hl => match us, hl with | [_], _ => rfl
theorem b_check_kinds {f : Addr} {fd : FuncData} (F : Fun K "check_kinds" "check_kinds" s_check_kinds f fd) : Binds K fd ["book"] [] := F.binds (ps := ["book"]) fun _ _ _ _ _ _ us hl => match us, hl with | [_], _ => rfl
theorem b_are_counts {f : Addr} {fd : FuncData} (F : Fun K "are_counts" "are_counts" s_are_counts f fd) : Binds K fd ["book", "thing"] [] := F.binds (ps := ["book", "thing"]) fun _ _ _ _ _ _ us hl => match us, hl with | [_, _], _ => rfl
theorem b_check_book {f : Addr} {fd : FuncData} (F : Fun K "check_book" "check_book" s_check_book f fd) : Binds K fd ["book", "counts"] [] := F.binds (ps := ["book", "counts"]) fun _ _ _ _ _ _ us hl => match us, hl with | [_, _], _ => rfl
theorem b_check_cells {f : Addr} {fd : FuncData} (F : Fun K "check_cells" "check_cells" s_check_cells f fd) : Binds K fd ["thing"] [] := F.binds (ps := ["thing"]) fun _ _ _ _ _ _ us hl => match us, hl with | [_], _ => rfl
theorem b_raw_load {f : Addr} {fd : FuncData} (F : Fun K "raw_load" "raw_load" s_raw_load f fd) : Binds K fd ["book", "counts"] [] := F.binds (ps := ["book", "counts"]) fun _ _ _ _ _ _ us hl => match us, hl with | [_, _], _ => rfl
theorem b_greatest_load {f : Addr} {fd : FuncData} (F : Fun K "greatest_load" "greatest_load" s_greatest_load f fd) : Binds K fd ["book", "counts"] [] := F.binds (ps := ["book", "counts"]) fun _ _ _ _ _ _ us hl => match us, hl with | [_, _], _ => rfl
theorem b_worst_opening {f : Addr} {fd : FuncData} (F : Fun K "worst_opening" "worst_opening" s_worst_opening f fd) : Binds K fd ["book", "counts"] [] := F.binds (ps := ["book", "counts"]) fun _ _ _ _ _ _ us hl => match us, hl with | [_, _], _ => rfl
theorem b_with_more {f : Addr} {fd : FuncData} (F : Fun K "with_more" "with_more" s_with_more f fd) : Binds K fd ["counts", "kind", "many"] [] := F.binds (ps := ["counts", "kind", "many"]) fun _ _ _ _ _ _ us hl => match us, hl with | [_, _, _], _ => rfl
theorem b_most_more {f : Addr} {fd : FuncData} (F : Fun K "most_more" "most_more" s_most_more f fd) : Binds K fd ["book", "counts", "kind", "cells"] [] := F.binds (ps := ["book", "counts", "kind", "cells"]) fun _ _ _ _ _ _ us hl => match us, hl with | [_, _, _, _], _ => rfl
theorem b_is_worst {f : Addr} {fd : FuncData} (F : Fun K "is_worst" "is_worst" s_is_worst f fd) : Binds K fd ["book", "counts", "thing"] [] := F.binds (ps := ["book", "counts", "thing"]) fun _ _ _ _ _ _ us hl => match us, hl with | [_, _, _], _ => rfl
theorem b_l_by_fact {f : Addr} {fd : FuncData} (F : Fun K "_law_by_fact" "_law_by_fact" s_l_by_fact f fd) : Binds K fd ["_law_book", "_law_counts"] [] := F.binds (ps := ["_law_book", "_law_counts"]) fun _ _ _ _ _ _ us hl => match us, hl with | [_, _], _ => rfl
theorem b_l_with {f : Addr} {fd : FuncData} (F : Fun K "_law_with" "_law_with" s_l_with f fd) : Binds K fd ["_law_counts", "_law_kind_here", "_law_more"] [] := F.binds (ps := ["_law_counts", "_law_kind_here", "_law_more"]) fun _ _ _ _ _ _ us hl => match us, hl with | [_, _, _], _ => rfl
theorem b_l_is_worst {f : Addr} {fd : FuncData} (F : Fun K "_law_is_worst" "_law_is_worst" s_l_is_worst f fd) : Binds K fd ["_law_book", "_law_counts", "_law_thing"] [] := F.binds (ps := ["_law_book", "_law_counts", "_law_thing"]) fun _ _ _ _ _ _ us hl => match us, hl with | [_, _, _], _ => rfl
theorem b_l_orders {f : Addr} {fd : FuncData} (F : Fun K "_law_orders" "_law_orders" s_l_orders f fd) : Binds K fd ["_law_counts"] [] := F.binds (ps := ["_law_counts"]) fun _ _ _ _ _ _ us hl => match us, hl with | [_], _ => rfl
theorem b_l_worst {f : Addr} {fd : FuncData} (F : Fun K "_law_worst" "_law_worst" s_l_worst f fd) : Binds K fd ["_law_book", "_law_order"] [] := F.binds (ps := ["_law_book", "_law_order"]) fun _ _ _ _ _ _ us hl => match us, hl with | [_, _], _ => rfl
theorem b_l_draw {f : Addr} {fd : FuncData} (F : Fun K "_law_draw" "_law_draw" s_l_draw f fd) : Binds K fd ["_law_hand_here", "_law_many"] [] := F.binds (ps := ["_law_hand_here", "_law_many"]) fun _ _ _ _ _ _ us hl => match us, hl with | [_, _], _ => rfl
theorem b_l_kind {f : Addr} {fd : FuncData} (F : Fun K "_law_kind" "_law_kind" s_l_kind f fd) : Binds K fd ["_law_hand_here", "_law_most"] [] := F.binds (ps := ["_law_hand_here", "_law_most"]) fun _ _ _ _ _ _ us hl => match us, hl with | [_, _], _ => rfl
theorem b_l_hand {f : Addr} {fd : FuncData} (F : Fun K "_law_hand" "_law_hand" s_l_hand f fd) : Binds K fd ["_law_script"] [] := F.binds (ps := ["_law_script"]) fun _ _ _ _ _ _ us hl => match us, hl with | [_], _ => rfl
theorem b_l_bent {f : Addr} {fd : FuncData} (F : Fun K "_law_bent" "_law_bent" s_l_bent f fd) : Binds K fd ["_law_hand_here", "_law_thing"] [] := F.binds (ps := ["_law_hand_here", "_law_thing"]) fun _ _ _ _ _ _ us hl => match us, hl with | [_, _], _ => rfl
theorem b_l_worst_right {f : Addr} {fd : FuncData} (F : Fun K "_law_worst_right" "_law_worst_right" s_l_worst_right f fd) : Binds K fd ["_law_hand_here", "_law_book", "_law_counts"] [] := F.binds (ps := ["_law_hand_here", "_law_book", "_law_counts"]) fun _ _ _ _ _ _ us hl => match us, hl with | [_, _, _], _ => rfl
theorem b_l_more_right {f : Addr} {fd : FuncData} (F : Fun K "_law_more_right" "_law_more_right" s_l_more_right f fd) : Binds K fd ["_law_hand_here", "_law_book", "_law_counts"] [] := F.binds (ps := ["_law_hand_here", "_law_book", "_law_counts"]) fun _ _ _ _ _ _ us hl => match us, hl with | [_, _, _], _ => rfl
theorem b_full_counts {f : Addr} {fd : FuncData} (F : Fun K "full_counts" "full_counts" s_full_counts f fd) : Binds K fd ["book", "cells"] [] := F.binds (ps := ["book", "cells"]) fun _ _ _ _ _ _ us hl => match us, hl with | [_, _], _ => rfl
theorem b_l_full_right {f : Addr} {fd : FuncData} (F : Fun K "_law_full_right" "_law_full_right" s_l_full_right f fd) : Binds K fd ["_law_hand_here", "_law_book"] [] := F.binds (ps := ["_law_hand_here", "_law_book"]) fun _ _ _ _ _ _ us hl => match us, hl with | [_, _], _ => rfl
/-- the names that the top leaves free, the constants -/
theorem txt_mk (X : K.In h) (G : h.Ns mainGlobals mg) (LX : PySem.W.LooseAre [(Str.ofString "MOST_CELLS", PySem.W.WData.int 1000000000000000000000000000000), (Str.ofString "MOST_COUNT", PySem.W.WData.int 1000000000)] mg h)
    (n_len : PySem.W.nsIn K mainGlobals "len" = some none)
    (n_sum : PySem.W.nsIn K mainGlobals "sum" = some none)
    (n_max : PySem.W.nsIn K mainGlobals "max" = some none)
    (n_min : PySem.W.nsIn K mainGlobals "min" = some none)
    (n_any : PySem.W.nsIn K mainGlobals "any" = some none)
    (n_all : PySem.W.nsIn K mainGlobals "all" = some none)
    (n_isinstance : PySem.W.nsIn K mainGlobals "isinstance" = some none)
    (n_abs : PySem.W.nsIn K mainGlobals "abs" = some none)
    (n_sorted : PySem.W.nsIn K mainGlobals "sorted" = some none)
    (n_zip : PySem.W.nsIn K mainGlobals "zip" = some none)
    (n_enumerate : PySem.W.nsIn K mainGlobals "enumerate" = some none)
    (n_range : PySem.W.nsIn K mainGlobals "range" = some none)
    (n_int : PySem.W.nsIn K mainGlobals "int" = some none)
    (n_bool : PySem.W.nsIn K mainGlobals "bool" = some none)
    (n_list : PySem.W.nsIn K mainGlobals "list" = some none)
    (n_tuple : PySem.W.nsIn K mainGlobals "tuple" = some none)
    {t1 t2 t3 t4 : Tok}
    (k_MOST_KINDS : PySem.W.nsIn K mainGlobals "MOST_KINDS" = some (some (.int 12 t1)))
    (k_MOST_FULL : PySem.W.nsIn K mainGlobals "MOST_FULL" = some (some (.int 2000 t2)))
    (k_MOST_FULL_CELLS : PySem.W.nsIn K mainGlobals "MOST_FULL_CELLS" = some (some (.int 60 t3)))
    (k_MOST_FULL_KINDS : PySem.W.nsIn K mainGlobals "MOST_FULL_KINDS" = some (some (.int 4 t4)))
    : Txt K mg := by
  obtain ⟨v1, h1, r1⟩ := LX.val (Str.ofString "MOST_CELLS", PySem.W.WData.int 1000000000000000000000000000000) (by simp)
  obtain ⟨v2, h2, r2⟩ := LX.val (Str.ofString "MOST_COUNT", PySem.W.WData.int 1000000000) (by simp)
  cases r1 with
  | int i t =>
    cases r2 with
    | int j t' =>
      exact ⟨PySem.W.mg_none_of X G n_len, PySem.W.mg_none_of X G n_sum, PySem.W.mg_none_of X G n_max, PySem.W.mg_none_of X G n_min, PySem.W.mg_none_of X G n_any, PySem.W.mg_none_of X G n_all, PySem.W.mg_none_of X G n_isinstance, PySem.W.mg_none_of X G n_abs, PySem.W.mg_none_of X G n_sorted, PySem.W.mg_none_of X G n_zip, PySem.W.mg_none_of X G n_enumerate, PySem.W.mg_none_of X G n_range, PySem.W.mg_none_of X G n_int, PySem.W.mg_none_of X G n_bool, PySem.W.mg_none_of X G n_list, PySem.W.mg_none_of X G n_tuple, ⟨_, PySem.W.mg_of X G k_MOST_KINDS⟩, ⟨_, PySem.W.mg_of X G k_MOST_FULL⟩, ⟨_, PySem.W.mg_of X G k_MOST_FULL_CELLS⟩, ⟨_, PySem.W.mg_of X G k_MOST_FULL_KINDS⟩, ⟨_, h1⟩, ⟨_, h2⟩⟩
theorem fc_mk (X : K.In h) (G : h.Ns mainGlobals mg) {C : Addr} (aC : PySem.W.nsIn K mainGlobals "FullCounts" = some (some (.ref C))) (pg : PySem.W.plainGet K C Str.empty = true) (hd : PySem.W.hasDictIn K C = true) (po : PySem.W.plainOver K C = true) (sa : PySem.W.findIn K (.ref C) "__setattr__" = some (some (.builtin "object.__setattr__")))
    (nB : PySem.W.findIn K (.ref C) "book" = some none) (nC : PySem.W.findIn K (.ref C) "cells" = some none) (nF : PySem.W.findIn K (.ref C) "found" = some none) : FcT K mg C := ⟨⟨pg, hd, po, sa⟩, nB, nC, nF, PySem.W.mg_of X G aC⟩
/-- the whole -/
theorem all_mk {P : Program} {w : World} {fa C CT CR f1 f2 f3 fT : Addr} {fd1 fd2 fd3 : FuncData} (hfa : mg "law" = some (.ref fa)) (G : h.Ns mainGlobals mg) (X : K.In h)
    (T : Txt K mg)
    (o_is_integer : Own K mg "is_integer" s_is_integer ["thing"])
    (o_is_within : Own K mg "is_within" s_is_within ["thing", "least", "most"])
    (o_aside : Own K mg "aside" s_aside ["kind"])
    (o_is_kind : Own K mg "is_kind" s_is_kind ["thing"])
    (o_check_kinds : Own K mg "check_kinds" s_check_kinds ["book"])
    (o_are_counts : Own K mg "are_counts" s_are_counts ["book", "thing"])
    (o_check_book : Own K mg "check_book" s_check_book ["book", "counts"])
    (o_check_cells : Own K mg "check_cells" s_check_cells ["thing"])
    (o_raw_load : Own K mg "raw_load" s_raw_load ["book", "counts"])
    (o_greatest_load : Own K mg "greatest_load" s_greatest_load ["book", "counts"])
    (o_worst_opening : Own K mg "worst_opening" s_worst_opening ["book", "counts"])
    (o_with_more : Own K mg "with_more" s_with_more ["counts", "kind", "many"])
    (o_most_more : Own K mg "most_more" s_most_more ["book", "counts", "kind", "cells"])
    (o_is_worst : Own K mg "is_worst" s_is_worst ["book", "counts", "thing"])
    (o_l_by_fact : Own K mg "_law_by_fact" s_l_by_fact ["_law_book", "_law_counts"])
    (o_l_with : Own K mg "_law_with" s_l_with ["_law_counts", "_law_kind_here", "_law_more"])
    (o_l_is_worst : Own K mg "_law_is_worst" s_l_is_worst ["_law_book", "_law_counts", "_law_thing"])
    (o_l_orders : Own K mg "_law_orders" s_l_orders ["_law_counts"])
    (o_l_worst : Own K mg "_law_worst" s_l_worst ["_law_book", "_law_order"])
    (o_l_draw : Own K mg "_law_draw" s_l_draw ["_law_hand_here", "_law_many"])
    (o_l_kind : Own K mg "_law_kind" s_l_kind ["_law_hand_here", "_law_most"])
    (o_l_hand : Own K mg "_law_hand" s_l_hand ["_law_script"])
    (o_l_bent : Own K mg "_law_bent" s_l_bent ["_law_hand_here", "_law_thing"])
    (o_l_worst_right : Own K mg "_law_worst_right" s_l_worst_right ["_law_hand_here", "_law_book", "_law_counts"])
    (o_l_more_right : Own K mg "_law_more_right" s_l_more_right ["_law_hand_here", "_law_book", "_law_counts"])
    (o_full_counts : Own K mg "full_counts" s_full_counts ["book", "cells"])
    (o_l_full_right : Own K mg "_law_full_right" s_l_full_right ["_law_hand_here", "_law_book"])
    (T2 : FcT K mg C) (M : Mk K C f1) (m_fits : Meth K C "fits" f2) (m_look : Meth K C "look" f3)
    (F1 : Fun K "__init__" "FullCounts.__init__" s_fc_init f1 fd1) (F2 : Fun K "fits" "FullCounts.fits" s_fc_fits f2 fd2) (F3 : Fun K "look" "FullCounts.look" s_fc_look f3 fd3)
    (T3 : TmAt P K mg CT fT) (TX : TmX K mg CT CR)
    {fL : Addr} {od an : Option Addr} {sl : Array (Option Value)} {oc kV dc pm cd ct : Value} (aL : PySem.W.nsIn K mainGlobals "law" = some (some (.ref fL))) (lL : K.lookup fL = some ⟨oc, od, .func (PySem.W.fnOf "law" "law" (defArgs s_law) (defBody s_law) (defScope s_law) .none kV dc pm an cd ct), sl⟩) (cL : PySem.W.codeIn K cd "law" = true) (kL : PySem.W.keepIn K (.ref fL) = true) :
    ∃ fd : FuncData, (∀ (s : Shared) (u : Value), BindsTo s fd ⟨[u], []⟩ [("_law_script", u)]) ∧ ∀ base : Heap, K.In base → base.Ns mainGlobals mg → FnOk P w K mg base CX0 17 fa fd ["_law_script"] (sp_law K) := by
  have e := hfa.symm.trans (PySem.W.mg_of X G aL)
  cases e
  have FL := fun_mk (st := s_law) lL cL kL
  refine ⟨PySem.W.fnOf "law" "law" (defArgs s_law) (defBody s_law) (defScope s_law) .none kV dc pm an cd ct, fun s u => .of_eq rfl, fun base _ _ => ?_⟩
  have b1 : Binds K fd1 ["self", "book", "cells"] [] := F1.binds (ps := ["self", "book", "cells"]) fun _ _ _ _ _ _ us hl => match us, hl with | [_, _, _], _ => rfl
  have b2 : Binds K fd2 ["self", "counts"] [] := F2.binds (ps := ["self", "counts"]) fun _ _ _ _ _ _ us hl => match us, hl with | [_, _], _ => rfl
  have b3 : Binds K fd3 ["self", "row"] [] := F3.binds (ps := ["self", "row"]) fun _ _ _ _ _ _ us hl => match us, hl with | [_, _], _ => rfl
  have c_is_integer := ok_is_integer (P := P) (w := w) (base := base) T  (o := o_is_integer)
  have c_is_within := ok_is_within (P := P) (w := w) (base := base) T (c_is_integer := c_is_integer) (o := o_is_within)
  have c_aside := ok_aside (P := P) (w := w) (base := base) T  (o := o_aside)
  have c_is_kind := ok_is_kind (P := P) (w := w) (base := base) T (c_is_within := c_is_within) (o := o_is_kind)
  have c_check_kinds := ok_check_kinds (P := P) (w := w) (base := base) T (c_is_kind := c_is_kind) (o := o_check_kinds)
  have c_are_counts := ok_are_counts (P := P) (w := w) (base := base) T (c_is_within := c_is_within) (o := o_are_counts)
  have c_check_book := ok_check_book (P := P) (w := w) (base := base) T (c_check_kinds := c_check_kinds) (c_are_counts := c_are_counts) (o := o_check_book)
  have c_check_cells := ok_check_cells (P := P) (w := w) (base := base) T (c_is_within := c_is_within) (o := o_check_cells)
  have c_raw_load := ok_raw_load (P := P) (w := w) (base := base) T (c_aside := c_aside) (o := o_raw_load)
  have c_greatest_load := ok_greatest_load (P := P) (w := w) (base := base) T (c_check_book := c_check_book) (c_raw_load := c_raw_load) (o := o_greatest_load)
  have c_worst_opening := ok_worst_opening (P := P) (w := w) (base := base) T (c_check_book := c_check_book) (c_raw_load := c_raw_load) (o := o_worst_opening)
  have c_with_more := ok_with_more (P := P) (w := w) (base := base) T  (o := o_with_more)
  have c_most_more := ok_most_more (P := P) (w := w) (base := base) T (c_check_book := c_check_book) (c_is_within := c_is_within) (c_check_cells := c_check_cells) (c_raw_load := c_raw_load) (c_with_more := c_with_more) (c_aside := c_aside) (o := o_most_more)
  have c_is_worst := ok_is_worst (P := P) (w := w) (base := base) T (c_check_book := c_check_book) (c_is_within := c_is_within) (c_are_counts := c_are_counts) (c_raw_load := c_raw_load) (o := o_is_worst)
  have c_l_by_fact := ok_l_by_fact (P := P) (w := w) (base := base) T  (o := o_l_by_fact)
  have c_l_with := ok_l_with (P := P) (w := w) (base := base) T  (o := o_l_with)
  have c_l_is_worst := ok_l_is_worst (P := P) (w := w) (base := base) T (c_l_by_fact := c_l_by_fact) (o := o_l_is_worst)
  have c_l_orders := ok_l_orders (P := P) (w := w) (base := base) T  (o := o_l_orders)
  have c_l_worst := ok_l_worst (P := P) (w := w) (base := base) T  (o := o_l_worst)
  have c2_l_draw := ok_l_draw2 (P := P) (w := w) (base := base) T o_l_draw
  have c_l_draw := ok_l_draw (P := P) (w := w) (base := base) T o_l_draw
  have c2_l_kind := ok_l_kind2 (P := P) (w := w) (base := base) T c2_l_draw o_l_kind
  have c_l_hand := ok_l_hand (P := P) (w := w) (base := base) T  (o := o_l_hand)
  have c_l_bent := ok_l_bent (P := P) (w := w) (base := base) T (c_l_draw := c_l_draw) (o := o_l_bent)
  have c_l_worst_right := ok_l_worst_right (P := P) (w := w) (base := base) T (c_l_bent := c_l_bent) (c_worst_opening := c_worst_opening) (c_is_worst := c_is_worst) (c_l_is_worst := c_l_is_worst) (o := o_l_worst_right)
  have c_l_more_right := ok_l_more_right (P := P) (w := w) (base := base) T (c_l_draw := c_l_draw) (c_most_more := c_most_more) (c_l_by_fact := c_l_by_fact) (c_l_with := c_l_with) (o := o_l_more_right)
  have G2 := ok_fc_fits (P := P) (w := w) (base := base) T T2 c_raw_load F2
  have G3 := ok_fc_look (P := P) (w := w) (base := base) T T2 T3 c_with_more c_most_more m_fits G2 b2 m_look b3 F3
  have G1 := ok_fc_init (P := P) (w := w) (base := base) T T2 m_look b3 G3 F1
  have c_full_counts : Cal P w K mg base (L2.CX P w) 15 "full_counts" ["book", "cells"] (sp_full_counts CT) := o_full_counts.cal fun f fd F => ok_full_counts T T2 M b1 G1 c_check_kinds c_is_within F
  have c_l_full_right := ok_l_full_right (P := P) (w := w) (base := base) T (c_l_draw := c_l_draw) (c_l_by_fact := c_l_by_fact) (c_full_counts := c_full_counts) (o := o_l_full_right)
  exact ok_law T T3 TX c2_l_draw c2_l_kind c_l_hand c_l_orders c_l_worst c_greatest_load c_l_by_fact c_l_worst_right c_l_more_right c_l_full_right c_full_counts FL
end
section
variable {P : Program} {K : PySem.W.Frag} {h : Heap} {mg : Str → Option Value}
theorem tm_mk (X : K.In h) (G : h.Ns mainGlobals mg) {C CR fI N cda cc : Addr} {nm q qual file : Str} {bs sub : List Value} {sn : List Str} {ab : Bool} {col : Option Bool} {dd : Option Addr} {m0 m1 m2 m3 m5 : Option Value} {oc kV dc pm ct ccl cl : Value} {od an cdd cld : Option Addr} {osl ccs csl : Array (Option Value)} {vs : Array Value} {tf : Tok}
    (aT : PySem.W.nsIn K mainGlobals "TooMany" = some (some (.ref C)))
    (xC : K.lookup C = some (excClassObj nm q C N bs [.ref CR, .type "ValueError", .type "Exception", .type "BaseException", .type "object"] true sn sub ab col dd m0 m1 m2 m3 m5 "ValueError.__new__"))
    (sa : PySem.W.findIn K (.ref C) "__setattr__" = some (some (.builtin "object.__setattr__"))) (eC : PySem.W.subIn K (.ref C) (.type "BaseException") = some true) (tC : PySem.W.typeIn K (.ref C) = some (.type "type")) (kC : PySem.W.keepIn K (.ref C) = true)
    (iI : PySem.W.findIn K (.ref C) "__init__" = some (some (.ref fI))) (tI : PySem.W.typeIn K (.ref fI) = some (.type "function"))
    (lI : K.lookup fI = some ⟨oc, od, .func (PySem.W.ksFn "__init__" qual (defArgs s_tm) (defBody s_tm) (defScope s_tm) .none kV dc pm an (.ref cda) ct cc), osl⟩) (cI : PySem.W.codeIn K (.ref cda) qual = true)
    (ld : K.lookup cda = some ⟨ccl, cdd, .fields vs, ccs⟩) (hv : vs[2]? = some (.str file tf)) (hf : ((P.main.file : Str) == file) = true) (lc : K.lookup cc = some ⟨cl, cld, .cell (some (.ref C)), csl⟩)
    (sup : PySem.W.ks_superIn K C C "__init__" = some (some (.builtin "ValueError.__init__"))) (sB : PySem.W.subIn K (.ref C) (.type "ValueError") = some true) (mr : PySem.W.mroIn K C (.ref C) = some true) (oq : PySem.W.nsIn K cStatics "thirdparty.any" = some none)
    (ms : PySem.W.nsIn K mainGlobals "super" = some none) (tp : (P.main.scope.names.lookup ("super" : Str)).isSome = false) (nA : PySem.W.findIn K (.ref C) "most" = some none) : TmAt P K mg C fI where
  oex := ⟨⟨nm, q, N, bs, _, sn, sub, ab, col, dd, m0, m1, m2, m3, m5, xC, rfl⟩, sa, eC, tC, kC⟩
  fn := ⟨oc, od, kV, dc, pm, an, cda, ct, cc, osl, ccl, cdd, vs, ccs, file, tf, cl, cld, csl, qual, lI, cI, ld, hv, hf, lc⟩
  sup := sup
  sub := sB
  mro := mr
  opq := oq
  msup := PySem.W.mg_none_of X G ms
  top := tp
  noA := nA
  init := iI
  ty := tI
  glob := PySem.W.mg_of X G aT
theorem tx_mk (X : K.In h) (G : h.Ns mainGlobals mg) {C CR : Addr} (aT : PySem.W.nsIn K mainGlobals "TooMany" = some (some (.ref C))) (aR : PySem.W.nsIn K mainGlobals "RingError" = some (some (.ref CR)))
    (ga : PySem.W.findIn K (.ref C) "__getattribute__" = some (some (.builtin "BaseException.__getattribute__"))) (gg : PySem.W.findIn K (.ref C) "__getattr__" = some none) (eC : PySem.W.subIn K (.ref C) (.type "BaseException") = some true) (hd : PySem.W.hasDictIn K C = true)
    (cl : PySem.W.findIn K (.ref C) "__class__" = some (some (.builtin "object.__class__"))) (sg : PySem.W.specialIn K (.builtin "object.__class__") "__get__" = some (some (.builtin "getset_descriptor.__get__"))) (tk : PySem.W.takesIn K (.builtin "object.__class__") = some true) (mo : PySem.W.mroIn K C (.type "object") = some true)
    (tC : PySem.W.typeIn K (.ref C) = some (.type "type")) (sC : PySem.W.subIn K (.ref C) (.ref C) = some true) (kit : PySem.W.kitOne K (.ref C) (.ref CR) = some true) : TmX K mg C CR :=
  ⟨⟨ga, gg, eC, hd, cl, sg, tk, mo⟩, ⟨ga, gg, eC, hd⟩, PySem.W.exm_ref eC hd tC sC, kit, PySem.W.mg_of X G aR⟩
end
/-- the walk of the law's call, what is loose handed on -/
theorem walk_x {l : PySem.W.OpenLaw} {n k : Nat} {q : Program} {loose : List Str} {XP : (Str → Option Value) → Heap → Prop} {YP : World → Heap → Prop} {d : DefRec} {K : PySem.Params → PySem.W.Frag} {sp : World → Sp} {x : Str} (hn : l.most = some n) (hn2 : n ≤ sizeLine) (hdf : d.params.defaults = []) (hr : Room k callerA)
    (hY : ∀ (w : World) (h : Heap), YP w h → (K w.params).In h)
    (F : ∀ (w : World) (mg : Str → Option Value) (fa : Addr) (h : Heap), (K w.params).In h → h.Ns mainGlobals mg → XP mg h → mg d.name = some (.ref fa) →
      ∃ fd : FuncData, (∀ (s : Shared) (u : Value), BindsTo s fd ⟨[u], []⟩ [(x, u)]) ∧ ∀ base : Heap, (K w.params).In base → base.Ns mainGlobals mg → FnOk l.prog w (K w.params) mg base CX0 k fa fd [x] (sp w))
    (hsp : ∀ (w : World) (H : Hp) (a : Addr) (ns : List Int), SqL (K w.params) H a (ns.map V.int) → sp w [.ref a] H (fun v _ => v = .bl true) fun _ _ _ => False) : PySem.W.WalkO q loose XP YP l.row.toRowW d [] (fun f vs => PySem.call f vs) := by
  refine Att.attach_call hn hdf fun w s0 s1 mg mb fa o pm cd doc a vs ns G Y ho hd hcd hmg hobj hints hlen hg => ?_
  have KX := hY w _ Y
  obtain ⟨fd, hb, hF⟩ := F w mg fa _ KX G.T.g G.X hmg
  exact law_call KX G.T.g G.T.b G.T.builtins G.T.nolimit hg hobj hints (Nat.le_trans hlen hn2) hr hF hb (fun H _ hS => hsp w H a ns hS) fun _ _ _ z => z
end K27

set_option Elab.async false
set_option linter.all false
set_option maxRecDepth 100000
/-! LG: the head. Printed by gen/end.py. -/
open PySem PySem.W PyProof.Rows in
set_option maxHeartbeats 0 in
theorem PySem.Challenge.cw_ringclaims_k27_whole_kinds_by_all_openin_holds : PySem.Challenge.rw_ringclaims_k27_whole_kinds_by_all_openin.Holds := by
  w_on; o_law; k_head; (case hw => w_witness2)
  k_fill
  refine K27.walk_x (l := PySem.Challenge.rw_ringclaims_k27_whole_kinds_by_all_openin) (n := 63) (k := 17) (x := "_law_script") (sp := fun w => K27.sp_law _) rfl (by decide) rfl ⟨rfl, by decide, by decide⟩ (fun w h Y => PySem.W.kIn_of Y) ?F (fun w H a ns hS => ⟨a, ns, rfl, hS, fun _ => rfl⟩)
  case F =>
    intro w mg fa h KX G LX hmg
    refine' K27.all_mk hmg G KX ?z_T ?z_o_is_integer ?z_o_is_within ?z_o_aside ?z_o_is_kind ?z_o_check_kinds ?z_o_are_counts ?z_o_check_book ?z_o_check_cells ?z_o_raw_load ?z_o_greatest_load ?z_o_worst_opening ?z_o_with_more ?z_o_most_more ?z_o_is_worst ?z_o_l_by_fact ?z_o_l_with ?z_o_l_is_worst ?z_o_l_orders ?z_o_l_worst ?z_o_l_draw ?z_o_l_kind ?z_o_l_hand ?z_o_l_bent ?z_o_l_worst_right ?z_o_l_more_right ?z_o_full_counts ?z_o_l_full_right ?z_T2 ?z_M ?z_m_fits ?z_m_look ?z_F1 ?z_F2 ?z_F3 ?z_T3 ?z_TX ?z_aL ?z_lL ?z_cL ?z_kL
    case z_T =>
      refine' K27.txt_mk KX G LX.2 ?n_len ?n_sum ?n_max ?n_min ?n_any ?n_all ?n_isinstance ?n_abs ?n_sorted ?n_zip ?n_enumerate ?n_range ?n_int ?n_bool ?n_list ?n_tuple ?k_MOST_KINDS ?k_MOST_FULL ?k_MOST_FULL_CELLS ?k_MOST_FULL_KINDS
      (case n_len => k_is); (case n_sum => k_is); (case n_max => k_is); (case n_min => k_is); (case n_any => k_is); (case n_all => k_is); (case n_isinstance => k_is); (case n_abs => k_is); (case n_sorted => k_is); (case n_zip => k_is); (case n_enumerate => k_is); (case n_range => k_is); (case n_int => k_is); (case n_bool => k_is); (case n_list => k_is); (case n_tuple => k_is); (case k_MOST_KINDS => k_is); (case k_MOST_FULL => k_is); (case k_MOST_FULL_CELLS => k_is); (case k_MOST_FULL_KINDS => k_is)
    case z_o_is_integer =>
      refine' K27.own_mk KX G K27.b_is_integer ?a ?l ?c ?k
      (case a => k_is); (case l => k_is); (case c => k_is); (case k => k_is)
    case z_o_is_within =>
      refine' K27.own_mk KX G K27.b_is_within ?a ?l ?c ?k
      (case a => k_is); (case l => k_is); (case c => k_is); (case k => k_is)
    case z_o_aside =>
      refine' K27.own_mk KX G K27.b_aside ?a ?l ?c ?k
      (case a => k_is); (case l => k_is); (case c => k_is); (case k => k_is)
    case z_o_is_kind =>
      refine' K27.own_mk KX G K27.b_is_kind ?a ?l ?c ?k
      (case a => k_is); (case l => k_is); (case c => k_is); (case k => k_is)
    case z_o_check_kinds =>
      refine' K27.own_mk KX G K27.b_check_kinds ?a ?l ?c ?k
      (case a => k_is); (case l => k_is); (case c => k_is); (case k => k_is)
    case z_o_are_counts =>
      refine' K27.own_mk KX G K27.b_are_counts ?a ?l ?c ?k
      (case a => k_is); (case l => k_is); (case c => k_is); (case k => k_is)
    case z_o_check_book =>
      refine' K27.own_mk KX G K27.b_check_book ?a ?l ?c ?k
      (case a => k_is); (case l => k_is); (case c => k_is); (case k => k_is)
    case z_o_check_cells =>
      refine' K27.own_mk KX G K27.b_check_cells ?a ?l ?c ?k
      (case a => k_is); (case l => k_is); (case c => k_is); (case k => k_is)
    case z_o_raw_load =>
      refine' K27.own_mk KX G K27.b_raw_load ?a ?l ?c ?k
      (case a => k_is); (case l => k_is); (case c => k_is); (case k => k_is)
    case z_o_greatest_load =>
      refine' K27.own_mk KX G K27.b_greatest_load ?a ?l ?c ?k
      (case a => k_is); (case l => k_is); (case c => k_is); (case k => k_is)
    case z_o_worst_opening =>
      refine' K27.own_mk KX G K27.b_worst_opening ?a ?l ?c ?k
      (case a => k_is); (case l => k_is); (case c => k_is); (case k => k_is)
    case z_o_with_more =>
      refine' K27.own_mk KX G K27.b_with_more ?a ?l ?c ?k
      (case a => k_is); (case l => k_is); (case c => k_is); (case k => k_is)
    case z_o_most_more =>
      refine' K27.own_mk KX G K27.b_most_more ?a ?l ?c ?k
      (case a => k_is); (case l => k_is); (case c => k_is); (case k => k_is)
    case z_o_is_worst =>
      refine' K27.own_mk KX G K27.b_is_worst ?a ?l ?c ?k
      (case a => k_is); (case l => k_is); (case c => k_is); (case k => k_is)
    case z_o_l_by_fact =>
      refine' K27.own_mk KX G K27.b_l_by_fact ?a ?l ?c ?k
      (case a => k_is); (case l => k_is); (case c => k_is); (case k => k_is)
    case z_o_l_with =>
      refine' K27.own_mk KX G K27.b_l_with ?a ?l ?c ?k
      (case a => k_is); (case l => k_is); (case c => k_is); (case k => k_is)
    case z_o_l_is_worst =>
      refine' K27.own_mk KX G K27.b_l_is_worst ?a ?l ?c ?k
      (case a => k_is); (case l => k_is); (case c => k_is); (case k => k_is)
    case z_o_l_orders =>
      refine' K27.own_mk KX G K27.b_l_orders ?a ?l ?c ?k
      (case a => k_is); (case l => k_is); (case c => k_is); (case k => k_is)
    case z_o_l_worst =>
      refine' K27.own_mk KX G K27.b_l_worst ?a ?l ?c ?k
      (case a => k_is); (case l => k_is); (case c => k_is); (case k => k_is)
    case z_o_l_draw =>
      refine' K27.own_mk KX G K27.b_l_draw ?a ?l ?c ?k
      (case a => k_is); (case l => k_is); (case c => k_is); (case k => k_is)
    case z_o_l_kind =>
      refine' K27.own_mk KX G K27.b_l_kind ?a ?l ?c ?k
      (case a => k_is); (case l => k_is); (case c => k_is); (case k => k_is)
    case z_o_l_hand =>
      refine' K27.own_mk KX G K27.b_l_hand ?a ?l ?c ?k
      (case a => k_is); (case l => k_is); (case c => k_is); (case k => k_is)
    case z_o_l_bent =>
      refine' K27.own_mk KX G K27.b_l_bent ?a ?l ?c ?k
      (case a => k_is); (case l => k_is); (case c => k_is); (case k => k_is)
    case z_o_l_worst_right =>
      refine' K27.own_mk KX G K27.b_l_worst_right ?a ?l ?c ?k
      (case a => k_is); (case l => k_is); (case c => k_is); (case k => k_is)
    case z_o_l_more_right =>
      refine' K27.own_mk KX G K27.b_l_more_right ?a ?l ?c ?k
      (case a => k_is); (case l => k_is); (case c => k_is); (case k => k_is)
    case z_o_full_counts =>
      refine' K27.own_mk KX G K27.b_full_counts ?a ?l ?c ?k
      (case a => k_is); (case l => k_is); (case c => k_is); (case k => k_is)
    case z_o_l_full_right =>
      refine' K27.own_mk KX G K27.b_l_full_right ?a ?l ?c ?k
      (case a => k_is); (case l => k_is); (case c => k_is); (case k => k_is)
    case z_aL => k_is
    case z_lL => k_is
    case z_cL => k_is
    case z_kL => k_is
    case z_T2 =>
      refine' K27.fc_mk KX G ?aC ?pg ?hd ?po ?sa ?nB ?nC ?nF
      (case aC => k_is); (case pg => k_is); (case hd => k_is); (case po => k_is); (case sa => k_is); (case nB => k_is); (case nC => k_is); (case nF => k_is)
    case z_M => exact ⟨by k_is, by k_is, by k_is, by k_is⟩
    case z_m_fits => exact ⟨by k_is, by k_is, by k_is⟩
    case z_m_look => exact ⟨by k_is, by k_is, by k_is⟩
    case z_F1 =>
      refine' L2.fun_mk (st := K27.s_fc_init) ?l ?c ?k
      (case l => k_is); (case c => k_is); (case k => k_is)
    case z_F2 =>
      refine' L2.fun_mk (st := K27.s_fc_fits) ?l ?c ?k
      (case l => k_is); (case c => k_is); (case k => k_is)
    case z_F3 =>
      refine' L2.fun_mk (st := K27.s_fc_look) ?l ?c ?k
      (case l => k_is); (case c => k_is); (case k => k_is)
    case z_T3 =>
      refine' K27.tm_mk KX G ?aT ?xC ?sa ?eC ?tC ?kC ?iI ?tI ?lI ?cI ?ld ?hv ?hf ?lc ?sup ?sB ?mr ?oq ?ms ?tp ?nA
      (case aT => k_is); (case xC => k_is); (case sa => k_is); (case eC => k_is); (case tC => k_is); (case kC => k_is); (case iI => k_is); (case tI => k_is); (case lI => k_is); (case cI => k_is); (case ld => k_is); (case hv => rfl); (case hf => kernel_rfl); (case lc => k_is); (case sup => kernel_rfl); (case sB => k_is); (case mr => k_is); (case oq => k_is); (case ms => k_is); (case tp => kernel_rfl); (case nA => k_is)
    case z_TX =>
      refine' K27.tx_mk KX G ?aT ?aR ?ga ?gg ?eC ?hd ?cl ?sg ?tk ?mo ?tC ?sC ?kit
      (case aT => k_is); (case aR => k_is); (case ga => k_is); (case gg => k_is); (case eC => k_is); (case hd => k_is); (case cl => k_is); (case sg => k_is); (case tk => k_is); (case mo => k_is); (case tC => k_is); (case sC => first | k_is | kernel_rfl); (case kit => kernel_rfl)

