import PyProof.Rows.All
import Wide.All
import OpenK.AllK
import Wide.FinOn
import HandS.ForMost
import HandS.Walk
import HandS.Rev
import HandS.RevRange
import HandS.TupMul
import HandS.IsInst
import HandS.RaiseMore
import KE.GoesMore
import KE.GoesEnum
import PyProof.ReprRoads
import PySem.Challenge.RW_stagesfull_k55_whole_polynomials
set_option Elab.async false
set_option linter.all false
set_option maxRecDepth 100000
set_option maxHeartbeats 4000000

/-! K1: what the layer lacks: zip and enumerate over lists and tuples in any mix -/
namespace K55
open PySem PySem.Spec PyProof.Rows L2

/-! ### a list (false) or a tuple (true) -/
def SqB (K : PySem.W.Frag) (k : Bool) (H : Hp) (a : Addr) (xs : List V) : Prop := match k with
  | false => SqL K H a xs
  | true => SqT K H a xs
def RawB (k : Bool) (h : Heap) (a : Addr) (its : Array Value) : Prop := match k with
  | false => h.IsList a its
  | true => h.IsTuple a its
def IterB (k : Bool) (h : Heap) (it a : Addr) (i : Nat) : Prop := match k with
  | false => h.IsListIter it a i
  | true => h.IsTupleIter it a i
def newIt (k : Bool) (a : Addr) : Obj := match k with
  | false => { cls := .type "list_iterator", data := .fields #[.ref a, .int 0 0] }
  | true => { cls := .type "tuple_iterator", data := .fields #[.ref a, .int 0 0] }
section
variable {X : Cx} {pins : List (Addr × Obj)} {σ : L2.St} {H : Hp} {s : Shared} {a : Addr} {xs ys : List V} {k : Bool}
theorem seqB (I : Inv X pins σ H s) (h : SqB X.K k H a xs) : ∃ its : List Value, Vals xs its ∧ RawB k s.heap a its.toArray := by
  cases k with
  | false =>
    obtain ⟨its, r, p, _⟩ := I.list h
    exact ⟨its, r, p.isList⟩
  | true =>
    obtain ⟨its, r, p, _⟩ := I.tuple h
    exact ⟨its, r, p⟩
theorem seqB_inj (I : Inv X pins σ H s) (h : SqB X.K k H a xs) (h' : SqB X.K k H a ys) : xs = ys := by
  cases k with
  | false => exact I.list_inj h h'
  | true => exact I.tuple_inj h h'
theorem rawB_lt {h : Heap} {its : Array Value} (x : RawB k h a its) : a < h.objs.size := by
  cases k with
  | false => obtain ⟨o, e, _⟩ := x; exact Heap.lt_size e
  | true => obtain ⟨o, e, _⟩ := x; exact Heap.lt_size e
theorem rawB_at {h h' : Heap} {its : Array Value} (x : RawB k h a its) (q : ∀ o, h.get? a = some o → h'.get? a = some o) : RawB k h' a its := by
  cases k with
  | false => obtain ⟨o, e, c⟩ := x; exact ⟨o, q _ e, c⟩
  | true => obtain ⟨o, e, c⟩ := x; exact ⟨o, q _ e, c⟩
theorem iterB_at {h h' : Heap} {it : Addr} {i : Nat} (x : IterB k h it a i) (q : ∀ o, h.get? it = some o → h'.get? it = some o) : IterB k h' it a i := by
  cases k with
  | false => obtain ⟨o, e, c⟩ := x; exact ⟨o, q _ e, c⟩
  | true => obtain ⟨o, e, c⟩ := x; exact ⟨o, q _ e, c⟩
theorem iterB_obj {h : Heap} {it : Addr} {i : Nat} (x : IterB k h it a i) : ∃ o, h.get? it = some o ∧ ∀ v, o.data ≠ .cell v := by
  cases k with
  | false =>
    obtain ⟨o, e, _, d⟩ := x
    exact ⟨o, e, fun v q => by rw [d] at q; cases q⟩
  | true =>
    obtain ⟨o, e, _, d⟩ := x
    exact ⟨o, e, fun v q => by rw [d] at q; cases q⟩
theorem iterB_new {h : Heap} {it : Addr} (e : h.get? it = some (newIt k a)) : IterB k h it a 0 := by
  cases k with
  | false => exact ⟨_, e, rfl, rfl⟩
  | true => exact ⟨_, e, rfl, rfl⟩
theorem drawsB {prog : Program} {w : World} {A : Around} (hh : A.handled = none) (k : Bool) (it a : Addr) (hne : a ≠ it) (its : Array Value) :
    Draws prog w A it [it, a] its.size (fun i v => its[i]? = some v) (fun i h => IterB k h it a i ∧ RawB k h a its) := by
  cases k with
  | false => exact Draws.list hh it a hne its
  | true => exact Draws.tuple hh it a hne its
theorem beginsB (k : Bool) (a : Addr) (its : Array Value) : Begins (.ref a) (newIt k a) fun h => RawB k h a its := by
  cases k with
  | false => exact begins_list a its
  | true => exact begins_tuple a its

/-! ### one step of an iterator that hands out new pairs -/
theorem pair_item {J : It} {elts : List Expr} {kk : Nat} {tpos : Pos} {it : Addr} {fp fpw wr : List Addr} {n i : Nat} {Pt : Nat → Array Value → Prop} {St : Nat → Heap → Prop} {Mid : Nat → Addr → Heap → Prop} {tn1 : Heap → Prop} {x y : V} {E : Value → Shared → Prop}
    (I : Inv X pins σ H s) (W : WalksT X.prog X.w X.A it fpw wr n Pt St Mid) (hi : i < n) (hst : St i s.heap) (hwr : ∀ b ∈ wr, b ∈ fp) (hf : ∀ b ∈ fp, FpOk X pins H b) (hlt : ∀ b ∈ fp, b < s.heap.objs.size)
    (hP : ∀ vals, Pt i vals → ∃ u1 u2, vals = #[u1, u2] ∧ RelV x u1 ∧ RelV y u2) (hk : ∀ h, St (i + 1) h → (∀ b o, b ∉ wr → s.heap.get? b = some o → h.get? b = some o) → tn1 h) (yl : ∀ T, H T = none → J.yld i H (.ref T) (upd H T (.tup [x, y]))) :
    wpAny (model X.prog X.w) X.A (pyNext (.ref it)) (fun r s1 => ∃ u, r = some u ∧
      wpAny (model X.prog X.w) X.A (letOwnedTupleGo (.Tuple elts kk tpos) (.ref it) u) (fun _ s2 => ∃ x H', Inv X pins σ H' s2 ∧ RelV x u ∧ J.yld i H x H' ∧ tn1 s2.heap ∧ ∀ b ∈ fp, H' b = none) E s1) E s := by
  refine W.item i s _ _ hi hst fun T vals h' tk hp hT ht hm hkeep => ?_
  obtain ⟨u1, u2, rfl, r1, r2⟩ := hP vals hp
  refine ⟨_, rfl, W.go elts kk tpos i T { s with heap := h', toks := tk } _ _ hm fun h'' hst' hkeep' => ?_⟩
  have hall : ∀ b o, b ∉ wr → s.heap.get? b = some o → h''.get? b = some o := fun b o hb q => hkeep' b o hb (hkeep b o hb q)
  obtain ⟨ob, hob, hc, m, hd⟩ := ht
  have hTw : T ∉ wr := W.apart i T h' hm
  have hob2 := hkeep' T ob hTw hob
  have new : ObjOk X.prog X.w (upd H T (.tup [x, y])) h'' T (.tup [x, y]) :=
    ⟨by show 2 ≤ sizeLine; decide, [u1, u2], .cons r1 (.cons r2 .nil), ⟨ob, hob2, hc, m, hd⟩⟩
  have I1 : Inv X pins σ (upd H T (.tup [x, y])) { s with heap := h'', toks := tk } :=
    I.turnedNew (ch := fp) (fun b o hb q => hall b o (fun z => hb (hwr b z)) q) hf hT new
  refine ⟨.ref T, _, I1, rfl, yl T (I.hok.fresh hT), hk h'' hst' hall, fun b hb => ?_⟩
  have ne : b ≠ T := fun z => Nat.lt_irrefl _ (Nat.lt_of_lt_of_le (hlt b hb) (by rw [z]; exact hT))
  rw [upd_ne ne]
  exact (hf b hb).1
end

/-! ### zip -/
def ItzB (K : PySem.W.Frag) (k1 k2 : Bool) (a b : Addr) : It :=
  ⟨fun i H => ∃ (xs ys : List V) (x y : V), SqB K k1 H a xs ∧ SqB K k2 H b ys ∧ xs[i]? = some x ∧ ys[i]? = some y,
    fun i H v H' => ∃ T x y, v = .ref T ∧ H T = none ∧ H' = upd H T (.tup [x, y]) ∧ (∀ xs, SqB K k1 H a xs → xs[i]? = some x) ∧ ∀ ys, SqB K k2 H b ys → ys[i]? = some y,
    fun i H => ∃ xs ys : List V, SqB K k1 H a xs ∧ SqB K k2 H b ys ∧ i ≤ xs.length ∧ i ≤ ys.length ∧ (i = xs.length ∨ i = ys.length)⟩
theorem turn_zipB {P : Program} {w : World} {K : PySem.W.Frag} {elts : List Expr} {kk : Nat} {tpos : Pos} {k1 k2 : Bool} {a b z TI TO i1 i2 : Addr} (S : ZipSep2 z TI TO i1 i2 [i1, a] [i2, b]) :
    Turn P w K (.Tuple elts kk tpos) (ItzB K k1 k2 a b) [z, TI, TO, i1, i2] z (fun i h => IsZip h z TI TO .none ∧ IsTupOf2 h TI (.ref i1) (.ref i2) ∧ (∃ x y, IsTupOf2 h TO x y) ∧ IterB k1 h i1 a i ∧ IterB k2 h i2 b i) where
  mem := by simp
  obj := fun i h st c hc => by
    obtain ⟨hz, hTI, ⟨x, y, hTO⟩, q1, q2⟩ := st
    have e' : c = z ∨ c = TI ∨ c = TO ∨ c = i1 ∨ c = i2 := by simpa using hc
    rcases e' with q | q | q | q | q
    · rw [q]; exact ⟨_, hz, fun v q => nomatch q⟩
    · rw [q]; exact ⟨_, hTI, fun v q => nomatch q⟩
    · rw [q]; exact ⟨_, hTO, fun v q => nomatch q⟩
    · rw [q]; exact iterB_obj q1
    · rw [q]; exact iterB_obj q2
  keep := fun i h h' st kp => by
    obtain ⟨hz, hTI, ⟨x, y, hTO⟩, q1, q2⟩ := st
    exact ⟨kp z (by simp) _ hz, kp TI (by simp) _ hTI, ⟨x, y, kp TO (by simp) _ hTO⟩, iterB_at q1 fun o q => kp i1 (by simp) o q, iterB_at q2 fun o q => kp i2 (by simp) o q⟩
  item := by
    intro X hP hw hK hc i pins s σ H E I hf st hg
    subst hP hw hK
    obtain ⟨xs, ys, x, y, hqx, hqy, hx, hy⟩ := hg
    obtain ⟨hz, hTI, hTO, q1, q2⟩ := st
    obtain ⟨its, rv, p1⟩ := seqB I hqx
    obtain ⟨jts, rw2, p2⟩ := seqB I hqy
    obtain ⟨u, hu, ru⟩ := rv.get hx
    obtain ⟨v, hv, rv2⟩ := rw2.get hy
    have na : a ≠ i1 := fun e => by
      have := (hf i1 (by simp)).1
      obtain ⟨o, ho, _⟩ := iterB_obj q1
      subst e
      cases k1 with
      | false =>
        obtain ⟨o1, e1, c1, _⟩ := p1
        obtain ⟨o2, e2, c2, _⟩ := q1
        rw [e1] at e2; cases e2
        rw [c1] at c2
        exact absurd c2 (by decide)
      | true =>
        obtain ⟨o1, e1, c1, _⟩ := p1
        obtain ⟨o2, e2, c2, _⟩ := q1
        rw [e1] at e2; cases e2
        rw [c1] at c2
        exact absurd c2 (by decide)
    have nb : b ≠ i2 := fun e => by
      subst e
      cases k2 with
      | false =>
        obtain ⟨o1, e1, c1, _⟩ := p2
        obtain ⟨o2, e2, c2, _⟩ := q2
        rw [e1] at e2; cases e2
        rw [c1] at c2
        exact absurd c2 (by decide)
      | true =>
        obtain ⟨o1, e1, c1, _⟩ := p2
        obtain ⟨o2, e2, c2, _⟩ := q2
        rw [e1] at e2; cases e2
        rw [c1] at c2
        exact absurd c2 (by decide)
    have hin : X.A.in1.handled = none := I.ok.hd hc
    have W := WalksT.zipD2 (A := X.A) S (drawsB (prog := X.prog) (w := X.w) hin k1 i1 a na its.toArray) (drawsB (prog := X.prog) (w := X.w) hin k2 i2 b nb jts.toArray)
    have l1 : i < its.length := (List.getElem?_eq_some_iff.mp hu).1
    have l2 : i < jts.length := (List.getElem?_eq_some_iff.mp hv).1
    refine pair_item (J := ItzB X.K k1 k2 a b) (fp := [z, TI, TO, i1, i2]) (tn1 := fun h => IsZip h z TI TO .none ∧ IsTupOf2 h TI (.ref i1) (.ref i2) ∧ (∃ x y, IsTupOf2 h TO x y) ∧ IterB k1 h i1 a (i + 1) ∧ IterB k2 h i2 b (i + 1)) (x := x) (y := y) I W (by simp only [List.size_toArray]; omega) ⟨hz, hTI, hTO, ⟨q1, p1⟩, ⟨q2, p2⟩⟩ (fun c hc => by simp only [List.mem_cons, List.not_mem_nil, or_false] at hc ⊢; rcases hc with q | q | q | q <;> simp [q]) hf (fun c hc => ?_) (fun vals hp => ?_) (fun h hst _ => ?_) fun T hT => ?_
    · have e' : c = z ∨ c = TI ∨ c = TO ∨ c = i1 ∨ c = i2 := by simpa using hc
      obtain ⟨t1, t2, hTO'⟩ := hTO
      obtain ⟨o1, e1, _⟩ := iterB_obj q1
      obtain ⟨o2, e2, _⟩ := iterB_obj q2
      rcases e' with q | q | q | q | q
      · rw [q]; exact Heap.lt_size hz
      · rw [q]; exact Heap.lt_size hTI
      · rw [q]; exact Heap.lt_size hTO'
      · rw [q]; exact Heap.lt_size e1
      · rw [q]; exact Heap.lt_size e2
    · obtain ⟨v1, v2, g1, g2, rfl⟩ := hp
      refine ⟨v1, v2, rfl, ?_, ?_⟩
      · have : some u = some v1 := by rw [← hu]; simpa using g1
        cases this; exact ru
      · have : some v = some v2 := by rw [← hv]; simpa using g2
        cases this; exact rv2
    · obtain ⟨g1, g2, g3, ⟨g4, _⟩, ⟨g5, _⟩⟩ := hst
      exact ⟨g1, g2, g3, g4, g5⟩
    · exact ⟨T, x, y, rfl, hT, rfl, fun l hl => by rw [seqB_inj I hl hqx]; exact hx, fun l hl => by rw [seqB_inj I hl hqy]; exact hy⟩
  done := by
    intro X hP hw hK hc i pins s σ H E I hf st hg
    subst hP hw hK
    obtain ⟨xs, ys, hqx, hqy, le1, le2, hend⟩ := hg
    obtain ⟨hz, hTI, ⟨t1, t2, hTO⟩, q1, q2⟩ := st
    obtain ⟨its, rv, p1⟩ := seqB I hqx
    obtain ⟨jts, rw2, p2⟩ := seqB I hqy
    have na : a ≠ i1 := fun e => by
      subst e
      cases k1 with
      | false =>
        obtain ⟨o1, e1, c1, _⟩ := p1
        obtain ⟨o2, e2, c2, _⟩ := q1
        rw [e1] at e2; cases e2
        rw [c1] at c2
        exact absurd c2 (by decide)
      | true =>
        obtain ⟨o1, e1, c1, _⟩ := p1
        obtain ⟨o2, e2, c2, _⟩ := q1
        rw [e1] at e2; cases e2
        rw [c1] at c2
        exact absurd c2 (by decide)
    have nb : b ≠ i2 := fun e => by
      subst e
      cases k2 with
      | false =>
        obtain ⟨o1, e1, c1, _⟩ := p2
        obtain ⟨o2, e2, c2, _⟩ := q2
        rw [e1] at e2; cases e2
        rw [c1] at c2
        exact absurd c2 (by decide)
      | true =>
        obtain ⟨o1, e1, c1, _⟩ := p2
        obtain ⟨o2, e2, c2, _⟩ := q2
        rw [e1] at e2; cases e2
        rw [c1] at c2
        exact absurd c2 (by decide)
    have hin : X.A.in1.handled = none := I.ok.hd hc
    have l1 := rv.length
    have l2 := rw2.length
    have m1 : i ≤ its.toArray.size := by rw [List.size_toArray, ← l1]; exact le1
    have m2 : i ≤ jts.toArray.size := by rw [List.size_toArray, ← l2]; exact le2
    have m3 : i = its.toArray.size ∨ i = jts.toArray.size := by
      rw [List.size_toArray, List.size_toArray, ← l1, ← l2]
      exact hend
    exact wpAny_pyNext_zipD2_end (A := X.A) S (drawsB (prog := X.prog) (w := X.w) hin k1 i1 a na its.toArray) (drawsB (prog := X.prog) (w := X.w) hin k2 i2 b nb jts.toArray) hz hTI hTO ⟨q1, p1⟩ ⟨q2, p2⟩
      m1 m2 m3 fun h' tk hk => ⟨rfl, I.turnedL (ch := [z, TI, TO, i1, i2]) (fun c o hb q =>
        hk c o (fun e => hb (by simp [e])) (fun e => hb (by simp [e])) (fun e => hb (by simp [e])) (fun e => hb (by simp [e])) q) hf⟩
  self := fun A i s Q E st h => wpAny_pyIter_zip st.1 h
theorem walk_zipB {K : PySem.W.Frag} {k1 k2 : Bool} {a b : Addr} {xs ys : List V} {n : Nat} (hn : n = min xs.length ys.length) :
    Walk (ItzB K k1 k2 a b) n (fun H => SqB K k1 H a xs ∧ SqB K k2 H b ys) (YPair (fun i => xs[i]?) (fun i => ys[i]?)) := by
  subst hn
  refine ⟨fun i _ hi q => ?_, fun _ q => ⟨xs, ys, q.1, q.2, by omega, by omega, by omega⟩, fun i H v H' _ q y => ?_⟩
  · have h1 : i < xs.length := by omega
    have h2 : i < ys.length := by omega
    exact ⟨xs, ys, xs[i], ys[i], q.1, q.2, by simp [h1], by simp [h2]⟩
  · obtain ⟨T, x, z, h1, h2, h3, h4, h5⟩ := y
    exact ⟨T, x, z, h1, h2, h3, h4 xs q.1, h5 ys q.2⟩
/-- zip of two sequences, each a list or a tuple -/
def iZipB (K : PySem.W.Frag) (ta : TA) : TI := fun σ H R => ta σ H fun vs H1 => ∃ (k1 k2 : Bool) (a b : Addr) (xs ys : List V), vs = [.ref a, .ref b] ∧ SqB K k1 H1 a xs ∧ SqB K k2 H1 b ys ∧ R (ItzB K k1 k2 a b) H1
theorem pi_zipB {X : Cx} {e e2 : Expr} {ta : TA} {p pos tpos : Pos} {elts : List Expr} {kk : Nat} (hg : Gl X "zip") (hm : X.mg "zip" = none) (ha : PA X [e, e2] ta)
    (hs : starEach [e, e2] X.env = (false, eval e X.env) :: starEach [e2] X.env := by rfl) (hpl : (backTo pos (starEach [e2] X.env)).any (·.1) = false := by rfl) :
    PI X (.Tuple elts kk tpos) (.Call (.Name "zip" p) [e, e2] [] pos) (iZipB X.K ta) := by
  refine ⟨fun pins s σ H R I h => ?_⟩
  refine Call_ (ld_blt I hg hm PyProof.Rows.boot_zip (PyProof.Rows.callWith_type1 (thn (ha.run pos pins s σ H _ I h) fun us s1 ⟨vs, H1, I1, r1, q1⟩ => ?_) hs hpl))
  obtain ⟨k1, k2, a, b, xs, ys, ex, hqx, hqy, q⟩ := q1
  subst ex
  obtain ⟨u1, u2, rfl, r1a, r1b⟩ := vals2 r1
  cases r1a
  cases r1b
  obtain ⟨its, rv, p1⟩ := seqB I1 hqx
  obtain ⟨jts, rw2, p2⟩ := seqB I1 hqy
  refine zip_begins2 (beginsB k1 a its.toArray) (beginsB k2 b jts.toArray) p1 p2 fun h' hz hTI hTO g1 g2 hsz hk => wpAny_pyIter_zip hz ?_
  have I2 : Inv X pins σ H1 { s1 with heap := h' } := I1.kept (t' := s1.toks) hk
  have la := rawB_lt p1
  have lb := rawB_lt p2
  refine ⟨s1.heap.objs.size + 4, [s1.heap.objs.size + 4, s1.heap.objs.size + 2, s1.heap.objs.size + 3, s1.heap.objs.size, s1.heap.objs.size + 1], _, _, H1, rfl, I2,
    turn_zipB (k1 := k1) (k2 := k2) (a := a) (b := b) (zip_sep2 (fp1 := [a]) (fp2 := [b]) (fun c hc => ?_) fun c hc => ?_), ⟨hz, hTI, ⟨_, _, hTO⟩, iterB_new g1, iterB_new g2⟩, fun c hcm => ?_, q⟩
  · rw [List.mem_singleton.mp hc]; exact la
  · rw [List.mem_singleton.mp hc]; exact lb
  · have hle : s1.heap.objs.size ≤ c := by
      have e' : c = s1.heap.objs.size + 4 ∨ c = s1.heap.objs.size + 2 ∨ c = s1.heap.objs.size + 3 ∨ c = s1.heap.objs.size ∨ c = s1.heap.objs.size + 1 := by simpa using hcm
      rcases e' with z | z | z | z | z
      · rw [z]; exact Nat.le_add_right _ _
      · rw [z]; exact Nat.le_add_right _ _
      · rw [z]; exact Nat.le_add_right _ _
      · rw [z]; exact Nat.le_refl _
      · rw [z]; exact Nat.le_add_right _ _
    exact I1.fpOk hle (I1.hok.fresh hle)
end K55

/-! K2: a for over a list or a tuple; enumerate of either; repr of a tuple of ints; a tuple times a number; len(o) by an own __len__ -/
namespace K55
open PySem PySem.Spec PyProof.Rows L2 Builtin

/-! ### a for over a list or a tuple -/
def ItsB (K : PySem.W.Frag) (k : Bool) (a : Addr) : It := match k with
  | false => Itl K a
  | true => Itt K a
def iSeqB (K : PySem.W.Frag) (tl : TE) : TI := fun σ H R => tl σ H fun x H1 => ∃ (k : Bool) (a : Addr) (xs : List V), x = .ref a ∧ SqB K k H1 a xs ∧ R (ItsB K k a) H1
theorem pi_seqB {X : Cx} {tg l : Expr} {tl : TE} (hl : PE X l tl) : PI X tg l (iSeqB X.K tl) := by
  refine ⟨fun pins s σ H R I h => ?_⟩
  refine thn (hl.run pins s σ H _ I h) fun v s1 ⟨x, H1, I1, r1, k, a, xs, ex, hq, q⟩ => ?_
  subst ex
  cases r1
  obtain ⟨its, rv, p⟩ := seqB I1 hq
  have own : ∀ b ∈ [s1.heap.objs.size], FpOk X pins H1 b := fun b hb => by
    rw [List.mem_singleton.mp hb]
    exact I1.fpOk (Nat.le_refl _) (I1.hok.fresh (Nat.le_refl _))
  have I2 : ∀ o, Inv X pins σ H1 { s1 with heap := s1.heap.push o } := fun o => I1.kept (t' := s1.toks) fun b u e => Heap.get?_push_of_some _ e
  cases k with
  | false => exact wpAny_pyIter_list p ⟨_, [s1.heap.objs.size], _, Itl X.K a, H1, rfl, I2 _, turn_list a _, ⟨_, Heap.get?_push_size _ rfl, rfl, rfl⟩, own, q⟩
  | true => exact wpAny_pyIter_tuple p ⟨_, [s1.heap.objs.size], _, Itt X.K a, H1, rfl, I2 _, turn_tuple a _, ⟨_, Heap.get?_push_size _ rfl, rfl, rfl⟩, own, q⟩
theorem walk_seqB {K : PySem.W.Frag} {k : Bool} {a : Addr} {xs : List V} : Walk (ItsB K k a) xs.length (fun H => SqB K k H a xs) (YAt xs) := by
  cases k with
  | false => exact walk_list
  | true => exact walk_tup

/-! ### enumerate over a list or a tuple -/
theorem enumNewB {v : Value} {o : Obj} {G : Heap → Prop} (B : Begins v o G) :
    Meets (Builtin.«enumerate.__new__» ⟨[.type "enumerate", v], []⟩) (fun _ R s => G s.heap ∧
      R (.ok (.ret (.ref (s.heap.push o).objs.size))) { s with heap := (s.heap.push o).push { cls := .type "enumerate", data := .fields #[.none, .bool false, .ref s.heap.objs.size, rawInt 0, .none, .none] } }) :=
  .of_wp fun prog w A R s hG => by
    obtain ⟨hh, gg, dd, tt, oo⟩ := s
    obtain ⟨g1, fin⟩ := hG
    have hsub := sub_enumerate
    have it1 : ∀ {A' : Around} {E : Value → Shared → Prop} {Q : Value → Shared → Prop}, Q (.ref hh.objs.size) ⟨hh.push o, gg, dd, tt, oo⟩ → wpAny (model prog w) A' (pyIter v) Q E ⟨hh, gg, dd, tt, oo⟩ :=
      fun q => B.iter prog w _ _ ⟨hh, gg, dd, tt, oo⟩ _ g1 q
    wp_walk using it1
    refine wpAny_stack_any fun st => wpAny_pure ?_
    split
    · rename_i c _ _ _ _ _
      cases (c == Value.type "enumerate") <;> (wp_walk using it1; exact ⟨_, rfl, fin⟩)
    · wp_walk using it1
      exact ⟨_, rfl, fin⟩
section
variable {prog : Program} {w : World} {A : Around} {E : Value → Shared → Prop} {s : Shared}
theorem enumBegins1 {v : Value} {o : Obj} {G : Heap → Prop} {Q : Value → Shared → Prop} (B : Begins v o G) (g1 : G s.heap)
    (h : ∀ h', IsEnum h' (s.heap.objs.size + 1) s.heap.objs.size 0 .none → h'.get? s.heap.objs.size = some o → (∀ b u, s.heap.get? b = some u → h'.get? b = some u) → Q (.ref (s.heap.objs.size + 1)) { s with heap := h' }) :
    wpAny (model prog w) A (call (.type "enumerate") [v]) Q E s := by
  refine callType_new F.called_enumerate (by decide) (F.typeCall_enumerate_1 _) (F.newCall_enumerate_1 _) (fun obj => F.args_object_init_2 obj _) F.entry_enumerate_new (enumNewB B) ⟨g1, ?_⟩
  have sz : (s.heap.push o).objs.size = s.heap.objs.size + 1 := Heap.size_push ..
  have at1 := Heap.get?_push_size (s.heap.push o) (o := { cls := .type "enumerate", data := .fields #[.none, .bool false, .ref s.heap.objs.size, rawInt 0, .none, .none] }) rfl
  rw [sz] at at1 ⊢
  exact ⟨⟨_, at1, rfl⟩, h _ at1 (Heap.get?_push_of_some _ (Heap.get?_push_size _ B.free)) fun b u e => Heap.get?_push_of_some _ (Heap.get?_push_of_some _ e)⟩
end
def IteB (K : PySem.W.Frag) (k : Bool) (a : Addr) : It :=
  ⟨fun i H => ∃ (xs : List V) (x : V), SqB K k H a xs ∧ xs[i]? = some x, fun i H v H' => ∃ T x, v = .ref T ∧ H T = none ∧ H' = upd H T (.tup [.int (i : Nat), x]) ∧ ∀ xs, SqB K k H a xs → xs[i]? = some x, fun i H => ∃ xs : List V, SqB K k H a xs ∧ i = xs.length⟩
theorem rawIterNe {k : Bool} {h : Heap} {a it : Addr} {i : Nat} {its : Array Value} (p : RawB k h a its) (q : IterB k h it a i) : a ≠ it := fun e => by
  subst e
  cases k with
  | false =>
    obtain ⟨o1, e1, c1, _⟩ := p
    obtain ⟨o2, e2, c2, _⟩ := q
    rw [e1] at e2; cases e2
    rw [c1] at c2
    exact absurd c2 (by decide)
  | true =>
    obtain ⟨o1, e1, c1, _⟩ := p
    obtain ⟨o2, e2, c2, _⟩ := q
    rw [e1] at e2; cases e2
    rw [c1] at c2
    exact absurd c2 (by decide)
theorem rawEnumNe {k : Bool} {h : Heap} {a e it : Addr} {its : Array Value} {c : Int} {old : Value} (p : RawB k h a its) (q : IsEnum h e it c old) : e ≠ a := fun z => by
  subst z
  cases k with
  | false =>
    obtain ⟨o1, e1, c1, _⟩ := p
    rw [show h.get? e = some _ from q] at e1
    cases e1
    exact absurd (show Value.type "enumerate" = Value.type "list" from c1) (by decide)
  | true =>
    obtain ⟨o1, e1, c1, _⟩ := p
    rw [show h.get? e = some _ from q] at e1
    cases e1
    exact absurd (show Value.type "enumerate" = Value.type "tuple" from c1) (by decide)
theorem turn_enumB {P : Program} {w : World} {K : PySem.W.Frag} {elts : List Expr} {kk : Nat} {tpos : Pos} {k : Bool} {a e it : Addr} (hne : e ≠ it) :
    Turn P w K (.Tuple elts kk tpos) (IteB K k a) [e, it] e (fun i h => (∃ old, IsEnum h e it (0 + ((i : Nat) : Int)) old) ∧ IterB k h it a i) where
  mem := by simp
  obj := fun i h st b hb => by
    obtain ⟨⟨old, he⟩, q⟩ := st
    rcases List.mem_cons.mp hb with z | z
    · rw [z]; exact ⟨_, he, fun v q => nomatch q⟩
    · rw [List.mem_singleton.mp z]; exact iterB_obj q
  keep := fun i h h' st kp => let ⟨⟨old, he⟩, q⟩ := st; ⟨⟨old, kp e (by simp) _ he⟩, iterB_at q fun o z => kp it (by simp) o z⟩
  item := by
    intro X hP hw hK hc i pins s σ H E I hf st hg
    subst hP hw hK
    obtain ⟨xs, x, hq, hx⟩ := hg
    obtain ⟨⟨old, he⟩, qi⟩ := st
    obtain ⟨its, rv, p⟩ := seqB I hq
    obtain ⟨u, hu, ru⟩ := rv.get hx
    have hin : X.A.in1.handled = none := I.ok.hd hc
    have W := WalksT.enumFrom (A := X.A) 0 (drawsB (prog := X.prog) (w := X.w) hin k it a (rawIterNe p qi) its.toArray) e hne (by simp only [List.mem_cons, List.not_mem_nil, or_false, not_or]; exact ⟨hne, rawEnumNe p he⟩) (by simp)
    have l1 : i < its.length := (List.getElem?_eq_some_iff.mp hu).1
    refine pair_item (J := IteB X.K k a) (fp := [e, it]) (x := .int (i : Nat)) (y := x) (tn1 := fun h => (∃ old, IsEnum h e it (0 + ((i + 1 : Nat) : Int)) old) ∧ IterB k h it a (i + 1))
      I W (by rw [List.size_toArray]; exact l1) ⟨⟨old, he⟩, qi, p⟩ (fun c hc => hc) hf (fun c hc => ?_) (fun vals hp => ?_) (fun h hst _ => ?_) fun T hT => ?_
    · rcases List.mem_cons.mp hc with z | z
      · rw [z]; exact Heap.lt_size he
      · obtain ⟨o, eo, _⟩ := iterB_obj qi
        rw [List.mem_singleton.mp z]; exact Heap.lt_size eo
    · obtain ⟨t, z, g, rfl⟩ := hp
      refine ⟨_, z, rfl, ⟨t, by rw [Int.zero_add]⟩, ?_⟩
      have : some u = some z := by rw [← hu]; simpa using g
      cases this; exact ru
    · obtain ⟨g1, g2, _⟩ := hst
      exact ⟨g1, g2⟩
    · exact ⟨T, x, rfl, hT, rfl, fun l hl => by rw [seqB_inj I hl hq]; exact hx⟩
  done := by
    intro X hP hw hK hc i pins s σ H E I hf st hg
    subst hP hw hK
    obtain ⟨xs, hq, hx⟩ := hg
    obtain ⟨⟨old, he⟩, qi⟩ := st
    obtain ⟨its, rv, p⟩ := seqB I hq
    have hin : X.A.in1.handled = none := I.ok.hd hc
    have W := WalksT.enumFrom (A := X.A) 0 (drawsB (prog := X.prog) (w := X.w) hin k it a (rawIterNe p qi) its.toArray) e hne (by simp only [List.mem_cons, List.not_mem_nil, or_false, not_or]; exact ⟨hne, rawEnumNe p he⟩) (by simp)
    have li : i = its.toArray.size := by rw [List.size_toArray, ← rv.length]; exact hx
    subst li
    exact W.done s _ _ ⟨⟨old, he⟩, qi, p⟩ fun h' tk hk => ⟨rfl, I.turnedL (ch := [e, it]) (fun b o hb q => hk b o hb q) hf⟩
  self := fun A i s Q E st h => let ⟨⟨_, he⟩, _⟩ := st; wpAny_pyIter_enum he h
theorem walk_enumB {K : PySem.W.Frag} {k : Bool} {a : Addr} {xs : List V} : Walk (IteB K k a) xs.length (fun H => SqB K k H a xs) (YPair (fun i => some (.int (i : Nat))) (fun i => xs[i]?)) := by
  refine ⟨fun i _ hi q => ⟨xs, xs[i], q, by simp [hi]⟩, fun _ q => ⟨xs, q, rfl⟩, fun i H v H' _ q y => ?_⟩
  obtain ⟨T, x, h1, h2, h3, h4⟩ := y
  exact ⟨T, .int (i : Nat), x, h1, h2, h3, rfl, h4 xs q⟩
def iEnumB (K : PySem.W.Frag) (ta : TA) : TI := fun σ H R => ta σ H fun vs H1 => ∃ (k : Bool) (a : Addr) (xs : List V), vs = [.ref a] ∧ SqB K k H1 a xs ∧ R (IteB K k a) H1
theorem pi_enumB {X : Cx} {e : Expr} {ta : TA} {p pos tpos : Pos} {elts : List Expr} {kk : Nat} (hg : Gl X "enumerate") (hm : X.mg "enumerate" = none) (ha : PA X [e] ta) (hs : starEach [e] X.env = [(false, eval e X.env)] := by rfl) :
    PI X (.Tuple elts kk tpos) (.Call (.Name "enumerate" p) [e] [] pos) (iEnumB X.K ta) := by
  refine ⟨fun pins s σ H R I h => ?_⟩
  refine Call_ (ld_blt I hg hm boot_enumerate (PyProof.Rows.callWith_type1 (thn (ha.run pos pins s σ H _ I h) fun us s1 ⟨vs, H1, I1, r1, q1⟩ => ?_) hs rfl))
  obtain ⟨k, a, xs, ex, hq, q⟩ := q1
  subst ex
  obtain ⟨u1, rfl, ru⟩ := vals1 r1
  cases ru
  obtain ⟨its, rv, p'⟩ := seqB I1 hq
  refine enumBegins1 (beginsB k a its.toArray) p' fun h' he g1 hk => wpAny_pyIter_enum he ?_
  have I2 : Inv X pins σ H1 { s1 with heap := h' } := I1.kept (t' := s1.toks) hk
  refine ⟨s1.heap.objs.size + 1, [s1.heap.objs.size + 1, s1.heap.objs.size], _, _, H1, rfl, I2, turn_enumB (k := k) (a := a) (Nat.succ_ne_self _), ⟨⟨.none, he⟩, iterB_new g1⟩, fun b hb => ?_, q⟩
  have hle : s1.heap.objs.size ≤ b := by
    rcases List.mem_cons.mp hb with z | z
    · rw [z]; exact Nat.le_add_right _ _
    · rw [List.mem_singleton.mp z]; exact Nat.le_refl _
  exact I1.fpOk hle (I1.hok.fresh hle)

/-! ### repr of a tuple of ints, where nothing is being shown -/
def intsD (ns : List Int) : PyData := .tuple (ns.map PyData.int)
theorem dpInts {K : PySem.W.Frag} {H : Hp} : ∀ ns : List Int, DpAll K H (ns.map V.int) (ns.map PyData.int)
  | [] => .nil
  | n :: r => .cons (.int n) (dpInts r)
theorem intsShow : ∀ ns : List Int, PyData.showable (intsD ns) = true → True := fun _ _ => trivial
def rReprT (K : PySem.W.Frag) : List V → Hp → VK → Prop := fun xs H Q => ∃ (a : Addr) (ns : List Int), xs = [.ref a] ∧ SqT K H a (ns.map V.int) ∧ PyData.showable (intsD ns) = true ∧ (intsD ns).hasDict = false ∧ (intsD ns).depth ≤ 60 ∧ (intsD ns).shown.length ≤ sizeLine ∧ Q (.str (intsD ns).shown) H
theorem call_reprT {X : Cx} (hg : X.A.guards = some []) (hu : X.A.units + 64 < cLine) : CallR X (.builtin "repr") (rReprT X.K) := by
  intro pins s σ H xs us Q I r h
  obtain ⟨a, ns, rfl, ht, hs, hd, hdp, hz, q⟩ := h
  obtain ⟨u, rfl, ru⟩ := vals1 r
  cases ru
  obtain ⟨as, rd⟩ := Dp.reads I (intsD ns) (.ref a) (.ref a) (.tup ht (dpInts ns)) rfl
  refine repr_of_reads' rd hs (fun z => by rw [hd] at z; cases z) hg (by omega) (fun _ _ e => e) (fun h' u tk hk => ?_) hz
  exact ⟨.str (intsD ns).shown, H, I.kept hk, ⟨u, rfl⟩, q⟩

/-! ### a tuple times a number from 1 on -/
theorem tupMulOne (l : Addr) (items : Array Value) (n : Nat) (dd : Option Addr) (sl : Array (Option Value)) (u : Tok) :
    Meets (Builtin.«tuple.__mul__» ⟨[.ref l, .int 1 u], []⟩) (fun _ R s => s.heap.get? l = some { cls := .type "tuple", dict := dd, data := .seq items n, slots := sl } ∧ R (.ok (.ret (Value.ref l))) s) :=
  .of_wp fun prog w A R s hG => by
    obtain ⟨hh, gg, d2, tt, oo⟩ := s
    obtain ⟨hl, fin⟩ := hG
    have f1 := AutoSeq1.idx_int
    wp_walk using AutoSeq1.wpAny_loadPart' hl
    exact ⟨_, rfl, fin⟩
def rTimes (K : PySem.W.Frag) : R2 := fun x y H Q => ∃ (l : Addr) (k : Int) (xs : List V), x = .ref l ∧ y = .int k ∧ SqT K H l xs ∧ xs ≠ [] ∧ 1 ≤ k ∧ k ≤ 1000 ∧ xs.length ≤ 1000 ∧
  (k = 1 → Q (.ref l) H) ∧ ∀ p, H p = none → Q (.ref p) (upd H p (.tup (List.replicate k.toNat xs).flatten))
theorem op_times {X : Cx} : OpR X (binaryOp .Mult) (rTimes X.K) := by
  intro pins s σ H x y v u Q I rx ry h
  obtain ⟨l, k, xs, rfl, rfl, hT, hne, k1, k2, hz, q1, q2⟩ := h
  by_cases hk : k = 1
  · subst hk
    cases rx
    obtain ⟨t, rfl⟩ := ry
    obtain ⟨its, r, ⟨⟨cls, dd, data, sl⟩, ho, hc, n, hd⟩, hs⟩ := I.tuple hT
    simp only at hc hd
    subst hc hd
    exact wpAny_binaryOp_repeat_ref (T := "tuple") (U := "int") (by decide) ⟨_, ho, rfl⟩ (fun s' => typeIs_int s' 1 t) noFill_tuple_mul F.fills_int_mul F.slot_int_rmul repeat_tuple F.slot_int_index.lookup
      (call_meets F.slot_int_rmul (typeIs_int s 1 t) F.entry_int_rmul (F.args_int_rmul_2 _ _) (int_rmul_tuple 1 t l its.toArray n dd sl)
        ⟨ho, rfl, ⟨_, ho, rfl⟩, call_meets F.slot_tuple_mul ⟨_, ho, rfl⟩ F.entry_tuple_mul (F.args_tuple_mul_2 _ _) (tupMulOne l its.toArray n dd sl t) ⟨ho, ⟨.ref l, H, I, rfl, q1 rfl⟩⟩⟩)
  · exact op_repT pins s σ H (.ref l) (.int k) v u Q I rx ry ⟨l, k, xs, rfl, rfl, hT, hne, by omega, k2, hz, q2⟩

/-! ### len(o), o an instance with an own __len__ -/
structure LenOf (K : PySem.W.Frag) (C f : Addr) : Prop where
  fnd : PySem.W.findIn K (.ref C) "__len__" = some (some (.ref f))
  fn : PySem.W.isFn K (.ref f) = true
def rLenO (C : Addr) (sp : Sp) : List V → Hp → VK → Prop := fun xs H Q => ∃ (x dx : Addr) (fs : List (Str × V)), xs = [.ref x] ∧ H x = some (.ins C dx fs) ∧
  sp [.ref x] H (fun v H' => ∃ n : Int, v = .int n ∧ 0 ≤ n ∧ n < 2 ^ 63 ∧ Q (.int n) H') E0
theorem call_lenO {X : Cx} {C f : Addr} {k : Nat} {fd : FuncData} {sp : Sp} (L : LenOf X.K C f) (G : FnOk X.prog X.w X.K X.mg X.base CX0 k f fd ["self"] sp) (hr : Room (k + 1) X.A) (hb : Binds X.K fd ["self"] []) : CallR X (.builtin "len") (rLenO C sp) := by
  intro pins s σ H xs us Q I r h
  obtain ⟨x, dx, fs, rfl, hx, hsp⟩ := h
  obtain ⟨u, rfl, ru⟩ := vals1 r
  cases ru
  obtain ⟨h1, h2, h3, h4, mA, h5, h6, h7⟩ := I.hok x _ hx
  obtain ⟨od, J, _⟩ := ObjM.look (C := C) ⟨h4, h5, h3⟩
  obtain ⟨m, Fx⟩ := I.fr
  have hbt := hb s [Value.ref x] I.kIn rfl
  have rvs : Vals [V.ref x] ([Value.ref x] ++ []) := .cons rfl .nil
  refine PySem.W.len_K Fx I.mod.kin J L.fnd L.fn (wpAny_call (codeAny_mono (G.run X.A.in1 X.stack s H ⟨[.ref x], []⟩ ([Value.ref x] ++ []) [V.ref x] _ _ hr.in1 I.env0.in1 hbt rvs hsp) fun r s' hq => ?_))
  cases r with
  | error e => exact hq.elim
  | ok fl =>
    cases fl with
    | next => exact False.elim hq
    | brk => exact False.elim hq
    | cont => exact False.elim hq
    | ret w =>
      obtain ⟨v, H', I', rv, n, rfl, n0, n1, q⟩ := I.after hq
      obtain ⟨t, rfl⟩ := rv
      exact ⟨⟨n0, n1⟩, .int n, H', I'.tok _, ⟨_, rfl⟩, q⟩
end K55

/-! K3: what stands in the heap, told by index; comprehensions and loops that append -/
namespace K55
open PySem PySem.Spec PyProof.Rows L2

/-- all that is tracked is kept, but at F -/
def Kp (F : Addr → Prop) (H H' : Hp) : Prop := ∀ b o, ¬ F b → H b = some o → H' b = some o
abbrev none_ : Addr → Prop := fun _ => False
theorem Kp.refl (F : Addr → Prop) (H : Hp) : Kp F H H := fun _ _ _ h => h
theorem Kp.trans {F : Addr → Prop} {H H1 H2 : Hp} (a : Kp F H H1) (b : Kp F H1 H2) : Kp F H H2 := fun c o n h => b c o n (a c o n h)
theorem Kp.weak {F G : Addr → Prop} {H H' : Hp} (a : Kp F H H') (h : ∀ b, F b → G b) : Kp G H H' := fun c o n e => a c o (fun z => n (h c z)) e
theorem Kp.same {F : Addr → Prop} {H H' : Hp} (a : Same H H') : Kp F H H' := fun c o _ e => a c o e
theorem kp_same {H H' : Hp} (a : Kp none_ H H') : Same H H' := fun c o e => a c o (fun z => z) e
theorem kp_new {F : Addr → Prop} {H : Hp} {p : Addr} {o : HO} (h : H p = none) : Kp F H (upd H p o) := fun b u _ e => by rw [upd_ne (ne_of_none e h)]; exact e
theorem same_new {H : Hp} {p : Addr} {o : HO} (h : H p = none) : Same H (upd H p o) := fun b u e => by rw [upd_ne (ne_of_none e h)]; exact e
theorem kp_upd {F : Addr → Prop} {H : Hp} {p : Addr} {o : HO} (h : F p) : Kp F H (upd H p o) := fun b u n e => by
  rw [upd_ne (fun z => n (by rw [z]; exact h))]
  exact e
/-- from before p was there -/
theorem same_over {H0 H : Hp} {p : Addr} {o : HO} (a : Same H0 H) (h : H0 p = none) : Same H0 (upd H p o) := fun b u e => by
  rw [upd_ne (ne_of_none e h)]
  exact a b u e
theorem kp_over {F : Addr → Prop} {H0 H : Hp} {p : Addr} {o : HO} (a : Kp F H0 H) (h : H0 p = none) : Kp F H0 (upd H p o) := fun b u n e => by
  rw [upd_ne (ne_of_none e h)]
  exact a b u n e
/-- tuples are kept -/
def TS (H H' : Hp) : Prop := ∀ b xs, H b = some (.tup xs) → H' b = some (.tup xs)
theorem same_ts {H H' : Hp} (a : Same H H') : TS H H' := fun b xs e => a b _ e
theorem Kp.ts {F : Addr → Prop} {H H' : Hp} (a : Kp F H H') (h : ∀ b, F b → ∃ l, H b = some (.lst l)) : TS H H' := fun b xs e => a b _ (fun z => by
  obtain ⟨l, q⟩ := h b z
  rw [q] at e
  cases e) e
theorem TS.trans {H H1 H2 : Hp} (a : TS H H1) (b : TS H1 H2) : TS H H2 := fun c o h => b c o (a c o h)
theorem ts_upd {H : Hp} {p : Addr} {l : List V} {o : HO} (h : H p = some (.lst l)) : TS H (upd H p o) := fun b xs e => by
  rw [upd_ne (ne_of e h (by intro z; cases z))]
  exact e
theorem ts_new {H : Hp} {p : Addr} {o : HO} (h : H p = none) : TS H (upd H p o) := same_ts (same_new h)

/-! ### tuples and lists by index -/
def TupF (n : Nat) (P : Nat → V → Prop) (H : Hp) (v : V) : Prop := ∃ a vs, v = .ref a ∧ H a = some (.tup vs) ∧ vs.length = n ∧ ∀ i u, vs[i]? = some u → P i u
def LstX (F : Addr → Prop) (n : Nat) (P : Nat → V → Prop) (H : Hp) (v : V) : Prop := ∃ a vs, v = .ref a ∧ ¬ F a ∧ H a = some (.lst vs) ∧ vs.length = n ∧ ∀ i u, vs[i]? = some u → P i u
abbrev LstF := LstX none_
def IsI (x : Nat → Int) : Nat → V → Prop := fun i u => u = V.int (x i)
abbrev Vec (w : Nat) (x : Nat → Int) : Hp → V → Prop := TupF w (IsI x)
abbrev Mat (w : Nat) (W : Nat → Nat → Int) : Hp → V → Prop := fun H => TupF w (fun i u => Vec w (W i) H u) H
abbrev Mats (n w : Nat) (W : Nat → Nat → Nat → Int) : Hp → V → Prop := fun H => TupF n (fun l u => Mat w (W l) H u) H
theorem TupF.mono {n : Nat} {P P' : Nat → V → Prop} {H H' : Hp} {v : V} (h : TupF n P H v) (t : TS H H') (hp : ∀ i u, P i u → P' i u) : TupF n P' H' v :=
  let ⟨a, vs, e, h1, h2, h3⟩ := h
  ⟨a, vs, e, t _ _ h1, h2, fun i u q => hp i u (h3 i u q)⟩
theorem LstX.mono {F G : Addr → Prop} {n : Nat} {P P' : Nat → V → Prop} {H H' : Hp} {v : V} (h : LstX F n P H v) (t : Kp F H H') (hp : ∀ i u, P i u → P' i u) (hf : ∀ b, G b → F b) : LstX G n P' H' v :=
  let ⟨a, vs, e, na, h1, h2, h3⟩ := h
  ⟨a, vs, e, fun z => na (hf a z), t _ _ na h1, h2, fun i u q => hp i u (h3 i u q)⟩
theorem vec_mono {w : Nat} {x : Nat → Int} {H H' : Hp} {v : V} (h : Vec w x H v) (t : TS H H') : Vec w x H' v := TupF.mono h t fun _ _ q => q
theorem mat_mono {w : Nat} {W : Nat → Nat → Int} {H H' : Hp} {v : V} (h : Mat w W H v) (t : TS H H') : Mat w W H' v := TupF.mono h t fun _ _ q => vec_mono q t
theorem mats_mono {n w : Nat} {W : Nat → Nat → Nat → Int} {H H' : Hp} {v : V} (h : Mats n w W H v) (t : TS H H') : Mats n w W H' v := TupF.mono h t fun _ _ q => mat_mono q t
/-- the list that the indexes tell -/
theorem list_by {α : Type} {vs : List α} {n : Nat} {f : Nat → α} (hl : vs.length = n) (h : ∀ i u, vs[i]? = some u → u = f i) : vs = (List.range n).map f := by
  subst hl
  apply List.ext_getElem?
  intro i
  by_cases hi : i < vs.length
  · have e := List.getElem?_eq_getElem hi
    rw [e, List.getElem?_map, List.getElem?_range hi]
    exact congrArg some (h i _ e)
  · rw [List.getElem?_eq_none (by omega), List.getElem?_eq_none (by simpa using hi)]
theorem ints_by {vs : List V} {n : Nat} {x : Nat → Int} (hl : vs.length = n) (h : ∀ i u, vs[i]? = some u → u = V.int (x i)) : vs = ((List.range n).map x).map V.int := by
  rw [list_by hl h, List.map_map]
  rfl
theorem at_lt {α : Type} {vs : List α} {n i : Nat} (hl : vs.length = n) (hi : i < n) : ∃ u, vs[i]? = some u := ⟨vs[i]'(by omega), List.getElem?_eq_getElem (by omega)⟩
theorem at_app {α : Type} {acc : List α} {y : α} {n : Nat} (hl : acc.length = n) {P : Nat → α → Prop} (h : ∀ i u, acc[i]? = some u → P i u) (hy : P n y) : ∀ i u, (acc ++ [y])[i]? = some u → P i u := fun i u e => by
  by_cases hi : i < acc.length
  · rw [List.getElem?_append_left hi] at e
    exact h i u e
  · by_cases hn : i = acc.length
    · subst hn
      rw [List.getElem?_append_right (Nat.le_refl _), Nat.sub_self] at e
      cases e
      rw [hl]; exact hy
    · rw [List.getElem?_eq_none (by rw [List.length_append, List.length_singleton]; omega)] at e
      cases e
theorem sizeSmall {n : Nat} (h : n ≤ 100000) : n < sizeLine := Nat.lt_of_le_of_lt h (by decide)
/-- sums by index -/
def sumF : Nat → (Nat → Int) → Int
  | 0, _ => 0
  | n + 1, f => sumF n f + f n
theorem sum_by (f : Nat → Int) : ∀ n : Nat, ((List.range n).map f).sum = sumF n f
  | 0 => rfl
  | n + 1 => by
    rw [List.range_succ, List.map_append, List.sum_append, sum_by f n]
    show sumF n f + (f n + 0) = sumF n f + f n
    rw [Int.add_zero]

/-! ### a comprehension whose items are told by index -/
theorem lc_map {J : It} {n : Nat} {G : Hp → Prop} {Y : Nat → Hp → V → Hp → Prop} (w : Walk J n G Y) {g : TG} {te : TE} {vs : List Nat} {σ : L2.St} {H1 : Hp} {D : Addr} {Qd : Hp → Prop}
    (F : Addr → Prop) (P : Hp → Nat → V → Prop) (Iv : Hp → Prop) (hD : H1 D = none) (hn : n < sizeLine) (hF : ¬ F D) (i0 : Iv (upd H1 D (.lst [])))
    (ia : ∀ H acc acc', H D = some (.lst acc) → Iv H → Iv (upd H D (.lst acc'))) (hG : ∀ H, Kp F H1 H → Iv H → G H)
    (mono : ∀ H H' j v, (∃ l, H D = some (.lst l)) → Iv H → Kp (fun b => F b ∨ b = D) H H' → P H j v → P H' j v)
    (hs : ∀ i x H H' acc (Z : VK), i < n → Kp F H1 H → Iv H → H D = some (.lst acc) → Y i H x H' → (∀ y H4, Kp F H H4 → Iv H4 → P H4 i y → Z y H4) → g x (wipe σ vs) H' fun σ2 H2 => wipe σ2 vs = wipe σ vs ∧ te σ2 H2 Z)
    (hd : ∀ H us, Kp F H1 H → Iv H → H D = some (.lst us) → us.length = n → (∀ j v, us[j]? = some v → P H j v) → Qd H) :
    ∃ W : Nat → Nat → Hp → Prop, (∃ m, W 0 m (upd H1 D (.lst []))) ∧ ∀ i m H, W i m H →
      (J.stop i H ∧ Qd H) ∨ (J.go i H ∧ ∃ Nx : Hp → Prop, (∀ H', Nx H' → ∃ m', m' < m ∧ W (i + 1) m' H') ∧ ∀ x H', J.yld i H x H' → g x (wipe σ vs) H' fun σ2 H2 => wipe σ2 vs = wipe σ vs ∧ tYes σ2 H2 fun b H3 =>
        if b = true then te σ2 H3 fun y H4 => ∃ acc, H4 D = some (.lst acc) ∧ acc.length < sizeLine ∧ Nx (upd H4 D (.lst (acc ++ [y]))) else Nx H3) := by
  refine lc_it w (fun i H => Kp F H1 H ∧ Iv H ∧ i ≤ n ∧ ∃ us, H D = some (.lst us) ∧ us.length = i ∧ ∀ j v, us[j]? = some v → P H j v)
    ⟨kp_new hD, i0, Nat.zero_le _, [], upd_same, rfl, fun j v e => by simp at e⟩ (fun i H _ z => hG H z.1 z.2.1) (fun i x H H' hi hv hy => ?_) fun H hv => ?_
  · obtain ⟨k1, iv, _, us, hus, hl, hp⟩ := hv
    refine hs i x H H' us _ hi k1 iv hus hy fun y H4 k4 iv4 p4 => ?_
    have hus4 := k4 D _ hF hus
    refine ⟨us, hus4, by omega, ?_⟩
    have kk : Kp (fun b => F b ∨ b = D) H4 (upd H4 D (.lst (us ++ [y]))) := kp_upd (.inr rfl)
    refine ⟨kp_over (k1.trans k4) hD, ia H4 _ _ hus4 iv4, hi, us ++ [y], upd_same, by rw [List.length_append, hl] <;> rfl, at_app hl (fun j v e => ?_) (mono _ _ _ _ ⟨_, hus4⟩ iv4 kk p4)⟩
    exact mono _ _ _ _ ⟨_, hus⟩ iv ((k4.weak fun b z => .inl z).trans kk) (hp j v e)
  · obtain ⟨k1, iv, _, us, hus, hl, hp⟩ := hv
    exact hd H us k1 iv hus hl hp

end K55

/-! K4: the text by places, the nets, the facts of the module -/
namespace K55
open PySem PySem.Spec PyProof.Rows L2

def top (i : Nat) : Stmt := PySem.Challenge.pw_stagesfull_k55_whole_polynomials.main.body.getD i (.Pass ⟨0, 0, 0, 0⟩)
abbrev sBetween : Stmt := top 6
abbrev sPrime : Stmt := top 7
abbrev sMatrix : Stmt := top 8
abbrev sInit : Stmt := inClass (top 9) 0
abbrev sLen : Stmt := inClass (top 9) 2
abbrev sProduct : Stmt := top 10
abbrev sLayF : Stmt := top 11
abbrev sLayB : Stmt := top 12
abbrev sInputs : Stmt := top 13
abbrev sForward : Stmt := top 14
abbrev sSlBack : Stmt := top 15
abbrev sLossSl : Stmt := top 16
abbrev sNoSl : Stmt := top 17
abbrev sAdded : Stmt := top 18
abbrev sPortSl : Stmt := top 19
abbrev sTrim : Stmt := top 21
abbrev sPlus : Stmt := top 22
abbrev sTimes : Stmt := top 23
abbrev sConst : Stmt := top 24
abbrev sWPol : Stmt := top 25
abbrev sOPol : Stmt := top 26
abbrev sLoss : Stmt := top 27
abbrev sLPol : Stmt := top 28
abbrev sAt : Stmt := top 29
abbrev sDraws : Stmt := top 31
abbrev sTake : Stmt := top 32
abbrev sLPrime : Stmt := top 33
abbrev sLVec : Stmt := top 34
abbrev sLNet : Stmt := top 35
abbrev sLPort : Stmt := top 38
abbrev sLPlus : Stmt := top 39
abbrev sLTimes : Stmt := top 40
abbrev sThrough : Stmt := top 41
abbrev sLPoly : Stmt := top 42
abbrev sLVal : Stmt := top 43
abbrev sWith : Stmt := top 44
abbrev sLaw : Stmt := top 45

/-! ### nets -/
/-- a prime p, n layers of width w, weights below p, true for a square -/
structure Nw where
  p : Int
  n : Nat
  w : Nat
  W : Nat → Nat → Nat → Int
  k : Nat → Bool
  hp : 2 ≤ p ∧ p ≤ 97
  hn : 1 ≤ n ∧ n ≤ 3
  hw : 1 ≤ w ∧ w ≤ 3
  hW : ∀ l i j, 0 ≤ W l i j ∧ W l i j < p
  pr : ∀ d : Int, 2 ≤ d → d < p → p % d ≠ 0
def kStr (b : Bool) : Str := if b then "square" else "line"
def IsK (k : Nat → Bool) : Nat → V → Prop := fun i u => u = V.str (kStr (k i))
def NetAt (C : Addr) (N : Nw) (H : Hp) (v : V) : Prop := ∃ a dx fs wa ka, v = .ref a ∧ H a = some (.ins C dx fs) ∧ fs.lookup ("prime" : Str) = some (V.int N.p) ∧ fs.lookup ("weights" : Str) = some wa ∧ Mats N.n N.w N.W H wa ∧ fs.lookup ("kinds" : Str) = some ka ∧ TupF N.n (IsK N.k) H ka
theorem NetAt.same {C : Addr} {N : Nw} {H H' : Hp} {v : V} (h : NetAt C N H v) (s : Same H H') : NetAt C N H' v :=
  let ⟨a, dx, fs, wa, ka, e, h1, h2, h3, h4, h5, h6⟩ := h
  ⟨a, dx, fs, wa, ka, e, s _ _ h1, h2, h3, mats_mono h4 (same_ts s), h5, h6.mono (same_ts s) fun _ _ q => q⟩

/-! ### the module's facts -/
structure Txt (K : PySem.W.Frag) (mg : Str → Option Value) (C : Addr) : Prop where
  cl : Cls K C
  nP : NoAttr K C "prime"
  nW : NoAttr K C "weights"
  nK : NoAttr K C "kinds"
  mgC : mg "Net" = some (.ref C)
  most : ∃ t, mg "MOST_PRIME" = some (.int 97 t)
  sum : mg "sum" = none
  zip : mg "zip" = none
  range : mg "range" = none
  len : mg "len" = none
  tuple : mg "tuple" = none
  list : mg "list" = none
  reversed : mg "reversed" = none
  enumerate : mg "enumerate" = none
  max : mg "max" = none
  int : mg "int" = none
  bool : mg "bool" = none
  abs : mg "abs" = none
  isi : mg "isinstance" = none
  repr : mg "repr" = none

/-- a def of the module that keeps its promise -/
structure Cal (P : Program) (w : World) (K : PySem.W.Frag) (mg : Str → Option Value) (base : Heap) (x : Str) (k : Nat) (ps : List Str) (sp : Sp) : Prop where
  ex : ∃ f fd, FnOk P w K mg base CX0 k f fd ps sp ∧ mg x = some (.ref f) ∧ PySem.W.keepIn K (.ref f) = true ∧ Binds K fd ps []
end K55

/-! K5: the layer's rules with the written part named, for the insides of comprehensions -/
namespace K55
open PySem PySem.Spec PyProof.Rows L2
section
variable {X : Cx} (K : PySem.W.Frag)
theorem ixT (hK : X.K = K := by rfl) : IxR X (rIxT K) := by subst hK; exact ix_tup
theorem ixL (hK : X.K = K := by rfl) : IxR X (rIxL K) := by subst hK; exact ix_list
theorem sumK (hc : X.calm = true := by rfl) (hK : X.K = K := by rfl) : CallR X (.builtin "sum") (rSum K) := by subst hK; exact cr_sum hc
def rLen (K : PySem.W.Frag) : List V → Hp → VK → Prop := fun xs H Q => ∃ p ys, xs = [.ref p] ∧ (SqL K H p ys ∨ SqT K H p ys) ∧ Q (.int ys.length) H
theorem lenK (hK : X.K = K := by rfl) : CallR X (.builtin "len") (rLen K) := by subst hK; exact call_len_seq
def rListOf (K : PySem.W.Frag) : List V → Hp → VK → Prop := fun xs H Q => ∃ p ys, xs = [.ref p] ∧ (SqL K H p ys ∨ SqT K H p ys) ∧ ∀ l, H l = none → Q (.ref l) (upd H l (.lst ys))
theorem listK (hK : X.K = K := by rfl) : CallR X (.type "list") (rListOf K) := by subst hK; exact call_list_of
def rTupOf (K : PySem.W.Frag) : List V → Hp → VK → Prop := fun xs H Q => ∃ p ys, xs = [.ref p] ∧ ((SqL K H p ys ∧ ∀ l, H l = none → Q (.ref l) (upd H l (.tup ys))) ∨ (SqT K H p ys ∧ Q (.ref p) H))
theorem tupK (hK : X.K = K := by rfl) : CallR X (.type "tuple") (rTupOf K) := by subst hK; exact call_tuple_of
theorem fldK {e : Expr} {f : Str} {pos : Pos} {ta : TE} (he : PE X e ta) (hb : attributeBase e f X.env (eval e X.env) = eval e X.env := by rfl) (hK : X.K = K := by rfl) : PE X (.Attribute e f pos) (tFld K ta f) := by subst hK; exact pe_fld he hb
theorem zipK {e e2 : Expr} {ta : TA} {p pos tpos : Pos} {elts : List Expr} {kk : Nat} (hg : Gl X "zip") (hm : X.mg "zip" = none) (ha : PA X [e, e2] ta)
    (hs : starEach [e, e2] X.env = (false, eval e X.env) :: starEach [e2] X.env := by rfl) (hpl : (backTo pos (starEach [e2] X.env)).any (·.1) = false := by rfl) (hK : X.K = K := by rfl) :
    PI X (.Tuple elts kk tpos) (.Call (.Name "zip" p) [e, e2] [] pos) (iZipB K ta) := by subst hK; exact pi_zipB hg hm ha hs hpl
theorem enumK {e : Expr} {ta : TA} {p pos tpos : Pos} {elts : List Expr} {kk : Nat} (hg : Gl X "enumerate") (hm : X.mg "enumerate" = none) (ha : PA X [e] ta) (hs : starEach [e] X.env = [(false, eval e X.env)] := by rfl) (hK : X.K = K := by rfl) :
    PI X (.Tuple elts kk tpos) (.Call (.Name "enumerate" p) [e] [] pos) (iEnumB K ta) := by subst hK; exact pi_enumB hg hm ha hs
theorem seqK {tg l : Expr} {tl : TE} (hl : PE X l tl) (hK : X.K = K := by rfl) : PI X tg l (iSeqB K tl) := by subst hK; exact pi_seqB hl
theorem tupI {tg l : Expr} {tl : TE} (hl : PE X l tl) (hK : X.K = K := by rfl) : PI X tg l (iTup K tl) := by subst hK; exact pi_tup hl
theorem lstI {tg l : Expr} {tl : TE} (hl : PE X l tl) (hK : X.K = K := by rfl) : PI X tg l (iList K tl) := by subst hK; exact pi_list hl
theorem gtupK {es : List Expr} {k : Nat} {t : TGs} {n : Nat} {pos : Pos} (h : PGs X es t) (hc : X.calm = true := by rfl)
    (hn : (assignEach es X.env).length = n := by rfl) (hst : (assignEach es X.env).findIdx? (·.1) = none := by rfl) (hK : X.K = K := by rfl) : PG X (.Tuple es k pos) (gTup K n t) := by subst hK; exact pg_tup hc h hn hst
theorem timesK (hK : X.K = K := by rfl) : OpR X (binaryOp .Mult) (rTimes K) := by subst hK; exact op_times
theorem slL (hK : X.K = K := by rfl) : SlR X (rSlL K) := by subst hK; exact sl_list
theorem gn (i : Nat) {x : Str} {pos : Pos} (hN : X.N.Nodup) (hi : X.N[i]? = some x := by rfl) (hx : Loc X.env.scope x := by first | exact Or.inl rfl | exact Or.inr rfl)
    (hf : X.fn x = true ∨ X.env.scope.names.lookup x = some .local := by first | exact Or.inl rfl | exact Or.inr rfl) : PG X (.Name x pos) (gName i) := pg_name hN hi hx hf
theorem st (i : Nat) {x : Str} {e : Expr} {te : TE} {pos pos' : Pos} (hN : X.N.Nodup) (he : PE X e te) (hi : X.N[i]? = some x := by rfl) (hx : Loc X.env.scope x := by first | exact Or.inl rfl | exact Or.inr rfl)
    (hs : swapsWith e (some (.Name x pos')) pos.line X.env = pure false := by rfl) (hf : X.fn x = true ∨ X.env.scope.names.lookup x = some .local := by first | exact Or.inl rfl | exact Or.inr rfl) :
    PS X (.Assign [.Name x pos'] e pos) (tAsg te (gName i)) := ps_set hN hi hx he hs hf
end
end K55

/-! K6: comprehensions and loops by index, in short -/
namespace K55
open PySem PySem.Spec PyProof.Rows L2
section
variable {K : PySem.W.Frag} {J : It} {n : Nat} {G : Hp → Prop} {Y : Nat → Hp → V → Hp → Prop} {g : TG} {te : TE} {vs : List Nat} {σ : L2.St} {H1 : Hp} {D a b : Addr} {Qd : Hp → Prop} {xs ys : List V}
theorem wTup (hl : xs.length = n) : Walk (Itt K a) n (fun H => SqT K H a xs) (YAt xs) := by subst hl; exact walk_tup
theorem wLst (hl : xs.length = n) : Walk (Itl K a) n (fun H => SqL K H a xs) (YAt xs) := by subst hl; exact walk_list
theorem wSeq {k : Bool} (hl : xs.length = n) : Walk (ItsB K k a) n (fun H => SqB K k H a xs) (YAt xs) := by subst hl; exact walk_seqB
theorem wEnum {k : Bool} (hl : xs.length = n) : Walk (IteB K k a) n (fun H => SqB K k H a xs) (YPair (fun i => some (.int (i : Nat))) (fun i => xs[i]?)) := by subst hl; exact walk_enumB
theorem wZip {k1 k2 : Bool} (h1 : xs.length = n) (h2 : ys.length = n) : Walk (ItzB K k1 k2 a b) n (fun H => SqB K k1 H a xs ∧ SqB K k2 H b ys) (YPair (fun i => xs[i]?) (fun i => ys[i]?)) := walk_zipB (by omega)
theorem seqT_of {H H' : Hp} (h : H a = some (.tup xs)) (s : TS H H') : SqT K H' a xs := SqT.of (s _ _ h)
theorem seqL_of {H H' : Hp} (h : H a = some (.lst xs)) (s : Same H H') : SqL K H' a xs := SqL.of (s _ _ h)
theorem sqB_same {k : Bool} {H H' : Hp} (h : SqB K k H a xs) (s : Same H H') : SqB K k H' a xs := by
  cases k with
  | false => exact s.seq h
  | true =>
    rcases h with (h | ⟨o, h⟩) | h
    · exact .inl (.inl (s _ _ h))
    · exact .inl (.inr ⟨o, s _ _ h⟩)
    · exact .inr h
/-- nothing but new objects in each turn -/
theorem lc_pure (w : Walk J n G Y) (P : Hp → Nat → V → Prop) (hD : H1 D = none) (hn : n ≤ 100000) (mono : ∀ H H' j v, TS H H' → P H j v → P H' j v) (hG : ∀ H, Same H1 H → G H)
    (hs : ∀ i x H H' (Z : VK), i < n → Same H1 H → Y i H x H' → (∀ y H4, Same H H4 → P H4 i y → Z y H4) → g x (wipe σ vs) H' fun σ2 H2 => wipe σ2 vs = wipe σ vs ∧ te σ2 H2 Z)
    (hd : ∀ H us, Same H1 H → H D = some (.lst us) → us.length = n → (∀ j v, us[j]? = some v → P H j v) → Qd H) :
    ∃ W : Nat → Nat → Hp → Prop, (∃ m, W 0 m (upd H1 D (.lst []))) ∧ ∀ i m H, W i m H →
      (J.stop i H ∧ Qd H) ∨ (J.go i H ∧ ∃ Nx : Hp → Prop, (∀ H', Nx H' → ∃ m', m' < m ∧ W (i + 1) m' H') ∧ ∀ x H', J.yld i H x H' → g x (wipe σ vs) H' fun σ2 H2 => wipe σ2 vs = wipe σ vs ∧ tYes σ2 H2 fun b H3 =>
        if b = true then te σ2 H3 fun y H4 => ∃ acc, H4 D = some (.lst acc) ∧ acc.length < sizeLine ∧ Nx (upd H4 D (.lst (acc ++ [y]))) else Nx H3) :=
  lc_map w none_ P (fun _ => True) hD (sizeSmall hn) (fun z => z) trivial (fun _ _ _ _ _ => trivial) (fun H k _ => hG H (kp_same k))
    (fun H H' j v ⟨l, hl⟩ _ k p => mono H H' j v (k.ts fun b hb => by
      rcases hb with hb | hb
      · exact hb.elim
      · rw [hb]; exact ⟨l, hl⟩) p)
    (fun i x H H' acc Z hi k _ _ hy hz => hs i x H H' Z hi (kp_same k) hy fun y H4 s p => hz y H4 (.same s) trivial p) fun H us k _ h1 h2 h3 => hd H us (kp_same k) h1 h2 h3
/-- over a zip, to two names -/
theorem lc_zip {k1 k2 : Bool} {i j : Nat} (h1 : xs.length = n) (h2 : ys.length = n) (P : Hp → Nat → V → Prop) (hD : H1 D = none) (hn : n ≤ 100000) (mono : ∀ H H' j v, TS H H' → P H j v → P H' j v)
    (ha : SqB K k1 H1 a xs) (hb : SqB K k2 H1 b ys)
    (hs : ∀ m x y H H' (Z : VK), m < n → Same H1 H → Same H1 H' → xs[m]? = some x → ys[m]? = some y → (∀ y H4, Same H' H4 → P H4 m y → Z y H4) →
      wipe (((wipe σ vs).set i (some x)).set j (some y)) vs = wipe σ vs ∧ te (((wipe σ vs).set i (some x)).set j (some y)) H' Z)
    (hd : ∀ H us, Same H1 H → H D = some (.lst us) → us.length = n → (∀ j v, us[j]? = some v → P H j v) → Qd H) :
    ∃ W : Nat → Nat → Hp → Prop, (∃ m, W 0 m (upd H1 D (.lst []))) ∧ ∀ i' m H, W i' m H →
      ((ItzB K k1 k2 a b).stop i' H ∧ Qd H) ∨ ((ItzB K k1 k2 a b).go i' H ∧ ∃ Nx : Hp → Prop, (∀ H', Nx H' → ∃ m', m' < m ∧ W (i' + 1) m' H') ∧ ∀ x H', (ItzB K k1 k2 a b).yld i' H x H' → gTup K 2 (gCons (gName i) (gCons (gName j) gNil)) x (wipe σ vs) H' fun σ2 H2 => wipe σ2 vs = wipe σ vs ∧ tYes σ2 H2 fun b H3 =>
        if b = true then te σ2 H3 fun y H4 => ∃ acc, H4 D = some (.lst acc) ∧ acc.length < sizeLine ∧ Nx (upd H4 D (.lst (acc ++ [y]))) else Nx H3) := by
  refine lc_pure (wZip (k1 := k1) (k2 := k2) h1 h2) P hD hn mono (fun H s => ⟨sqB_same ha s, sqB_same hb s⟩) (fun m v H H' Z hm s hy hz => ?_) hd
  obtain ⟨T, x, y, rfl, hT, rfl, e1, e2⟩ := hy
  have sT : Same H (upd H T (.tup [x, y])) := same_new hT
  obtain ⟨q1, q2⟩ := hs m x y H _ Z hm s (s.trans sT) e1 e2 fun y' H4 s4 p => hz y' H4 (sT.trans s4) p
  exact ⟨T, [x, y], rfl, SqT.of upd_same, rfl, x, [y], rfl, y, [], rfl, rfl, q1, q2⟩
theorem lst_of {P : Nat → V → Prop} {H : Hp} {us : List V} (h : H D = some (.lst us)) (hl : us.length = n) (hp : ∀ j v, us[j]? = some v → P j v) : LstF n P H (.ref D) := ⟨D, us, rfl, fun z => z, h, hl, hp⟩
theorem tup_of {P : Nat → V → Prop} {H : Hp} {us : List V} (h : H D = some (.tup us)) (hl : us.length = n) (hp : ∀ j v, us[j]? = some v → P j v) : TupF n P H (.ref D) := ⟨D, us, rfl, h, hl, hp⟩
end
/-- the ints of a list in one, for sum -/
theorem ints_sq {K : PySem.W.Frag} {n : Nat} {D : Addr} {f : Nat → Int} {H : Hp} {us : List V} (h : H D = some (.lst us)) (hl : us.length = n) (hp : ∀ j v, us[j]? = some v → v = V.int (f j)) : SqL K H D (((List.range n).map f).map V.int) := by
  rw [← ints_by hl hp]
  exact SqL.of h
/-- a for over a zip, to two names -/
theorem for_zip {K : PySem.W.Frag} {n : Nat} {a b : Addr} {xs ys : List V} {k1 k2 : Bool} {i j : Nat} {tb : L2.TS} {D : Ends} {σ : L2.St} {H : Hp} (h1 : xs.length = n) (h2 : ys.length = n) (Pv : Nat → L2.St → Hp → Prop) (h0 : Pv 0 σ H)
    (hG : ∀ m σ H, Pv m σ H → SqB K k1 H a xs ∧ SqB K k2 H b ys)
    (hs : ∀ m x y σ H H', m < n → Pv m σ H → Same H H' → xs[m]? = some x → ys[m]? = some y → tb { D with nx := Pv (m + 1), ct := Pv (m + 1), bk := D.nx } ((σ.set i (some x)).set j (some y)) H') (hd : ∀ σ H, Pv n σ H → D.nx σ H) :
    ∃ W : Nat → Nat → L2.St → Hp → Prop, (∃ m, W 0 m σ H) ∧ ∀ i' m σ H, W i' m σ H →
      ((ItzB K k1 k2 a b).stop i' H ∧ D.nx σ H) ∨ ((ItzB K k1 k2 a b).go i' H ∧ ∃ N : L2.St → Hp → Prop, (∀ σ' H', N σ' H' → ∃ m', m' < m ∧ W (i' + 1) m' σ' H') ∧ ∀ x H', (ItzB K k1 k2 a b).yld i' H x H' →
        gTup K 2 (gCons (gName i) (gCons (gName j) gNil)) x σ H' fun σ2 H2 => tb { D with nx := N, ct := N, bk := D.nx } σ2 H2) := by
  refine for_it (wZip (k1 := k1) (k2 := k2) h1 h2) Pv h0 (fun m σ H _ p => hG m σ H p) (fun m v σ H H' hm p hy => ?_) hd
  obtain ⟨T, x, y, rfl, hT, rfl, e1, e2⟩ := hy
  exact ⟨T, [x, y], rfl, SqT.of upd_same, rfl, x, [y], rfl, y, [], rfl, rfl, hs m x y σ H _ hm p (same_new hT) e1 e2⟩
/-- a for over enumerate, to two names -/
theorem for_enum {K : PySem.W.Frag} {n : Nat} {a : Addr} {xs : List V} {k : Bool} {i j : Nat} {tb : L2.TS} {D : Ends} {σ : L2.St} {H : Hp} (h1 : xs.length = n) (Pv : Nat → L2.St → Hp → Prop) (h0 : Pv 0 σ H)
    (hG : ∀ m σ H, Pv m σ H → SqB K k H a xs)
    (hs : ∀ m x σ H H', m < n → Pv m σ H → Same H H' → xs[m]? = some x → tb { D with nx := Pv (m + 1), ct := Pv (m + 1), bk := D.nx } ((σ.set i (some (.int (m : Nat)))).set j (some x)) H') (hd : ∀ σ H, Pv n σ H → D.nx σ H) :
    ∃ W : Nat → Nat → L2.St → Hp → Prop, (∃ m, W 0 m σ H) ∧ ∀ i' m σ H, W i' m σ H →
      ((IteB K k a).stop i' H ∧ D.nx σ H) ∨ ((IteB K k a).go i' H ∧ ∃ N : L2.St → Hp → Prop, (∀ σ' H', N σ' H' → ∃ m', m' < m ∧ W (i' + 1) m' σ' H') ∧ ∀ x H', (IteB K k a).yld i' H x H' →
        gTup K 2 (gCons (gName i) (gCons (gName j) gNil)) x σ H' fun σ2 H2 => tb { D with nx := N, ct := N, bk := D.nx } σ2 H2) := by
  refine for_it (wEnum (k := k) h1) Pv h0 (fun m σ H _ p => hG m σ H p) (fun m v σ H H' hm p hy => ?_) hd
  obtain ⟨T, x, y, rfl, hT, rfl, e1, e2⟩ := hy
  cases e1
  exact ⟨T, [.int (m : Nat), y], rfl, SqT.of upd_same, rfl, .int (m : Nat), [y], rfl, y, [], rfl, rfl, hs m y σ H _ hm p (same_new hT) e2⟩
/-- behind an if, in one -/
theorem ite_join {c : Bool} {t u : L2.TS} {D : Ends} {σ : L2.St} {H : Hp} (J : L2.St → Hp → Prop) (h1 : c = true → (∀ σ' H', J σ' H' → D.nx σ' H') → t D σ H) (h2 : c = false → (∀ σ' H', J σ' H' → D.nx σ' H') → u D σ H)
    (hr : ∀ σ' H', J σ' H' → D.nx σ' H') : if c = true then t D σ H else u D σ H := by
  cases c with
  | true => exact iteT (h1 rfl hr)
  | false => exact iteF (h2 rfl hr)
/-- the last of a list -/
theorem last_of {α : Type} {us : List α} {n : Nat} {u : α} (hl : us.length = n + 1) (h : us[n]? = some u) : us = us.dropLast ++ [u] := by
  have hne : us ≠ [] := fun z => by rw [z] at hl; simp at hl
  have e := List.dropLast_concat_getLast hne
  have g : us.getLast hne = u := by
    rw [List.getLast_eq_getElem]
    obtain ⟨q1, q2⟩ := List.getElem?_eq_some_iff.mp h
    rw [← q2]
    congr 1
    omega
  rw [g] at e
  exact e.symm
theorem atI_end {α : Type} {us : List α} {n : Nat} {u : α} (hl : us.length = n + 1) (h : us[n]? = some u) : atI us (-1) = some u := by
  rw [last_of hl h]
  exact atI_last _ _
theorem cut_last (us : List V) : cutV us none (some (-1)) = us.dropLast := by
  unfold cutV
  rw [HT.sIx_none]
  have e : HT.sIx us.length us.length (some (-1)) = us.length - 1 := by
    unfold HT.sIx
    simp
    omega
  rw [e, List.drop_zero, Nat.sub_zero, List.dropLast_eq_take]
theorem small64 {i : Int} (h1 : -1000000000 ≤ i) (h2 : i ≤ 1000000000) : -(2 ^ 64) < i ∧ i < 2 ^ 64 := by omega
end K55

/-! S: what each def reckons, and its promise -/
namespace K55
open PySem PySem.Spec PyProof.Rows L2

/-! ### nets -/
def prodM (N : Nw) (l : Nat) (x : Nat → Int) (i : Nat) : Int := sumF N.w (fun k => N.W l i k * x k) % N.p
def layM (N : Nw) (l : Nat) (x : Nat → Int) (i : Nat) : Int := if N.k l = true then prodM N l x i * prodM N l x i % N.p else prodM N l x i
def inM (N : Nw) (x : Nat → Int) : Nat → Nat → Int
  | 0 => x
  | l + 1 => layM N l (inM N x l)
def gM (N : Nw) (l : Nat) (x s : Nat → Int) (i : Nat) : Int := if N.k l = true then 2 * prodM N l x i * (s i % N.p) % N.p else s i % N.p
def backM (N : Nw) (l : Nat) (x s : Nat → Int) (k : Nat) : Int := sumF N.w (fun i => gM N l x s i * N.W l i k) % N.p
def gradM (N : Nw) (l : Nat) (x s : Nat → Int) (i k : Nat) : Int := gM N l x s i * x k % N.p
def sM (N : Nw) (xs : Nat → Nat → Int) (s : Nat → Int) : Nat → Nat → Int
  | 0 => s
  | j + 1 => backM N (N.n - 1 - j) (xs (N.n - 1 - j)) (sM N xs s j)
def gradsM (N : Nw) (xs : Nat → Nat → Int) (s : Nat → Int) (l : Nat) : Nat → Nat → Int := gradM N l (xs l) (sM N xs s (N.n - 1 - l))
def lsM (N : Nw) (out t : Nat → Int) (i : Nat) : Int := 2 * (out i - t i) % N.p
def addM (N : Nw) (A B : Nat → Nat → Nat → Int) (l i j : Nat) : Int := (A l i j + 1 * B l i j) % N.p
def exM (N : Nw) (x t : Nat → Int) : Nat → Nat → Nat → Int := gradsM N (inM N x) (lsM N (inM N x N.n) t)
def psM (N : Nw) (xs ts : Nat → Nat → Int) : Nat → Nat → Nat → Nat → Int
  | 0 => fun _ _ _ => 0
  | e + 1 => addM N (psM N xs ts e) (exM N (xs e) (ts e))
def lossE (N : Nw) (x t : Nat → Int) : Int := sumF N.w (fun i => (inM N x N.n i - t i) ^ 2)
def sumN (n : Nat) (f : Nat → Int) : Int := sumF n f
/-- a batch of b portions, the q-th of m q examples -/
structure Bt (N : Nw) where
  b : Nat
  m : Nat → Nat
  x : Nat → Nat → Nat → Int
  t : Nat → Nat → Nat → Int
  hb : 1 ≤ b ∧ b ≤ 2
  hm : ∀ q, 1 ≤ m q ∧ m q ≤ 2
  hx : ∀ q e i, 0 ≤ x q e i ∧ x q e i < N.p
  ht : ∀ q e i, 0 ≤ t q e i ∧ t q e i < N.p
def lossM (N : Nw) {N0 : Nw} (B : Bt N0) : Int := sumF B.b (fun q => sumF (B.m q) fun e => lossE N (B.x q e) (B.t q e)) % N.p
def Ex (w : Nat) (x t : Nat → Int) (H : Hp) (u : V) : Prop := ∃ T v1 v2, u = .ref T ∧ H T = some (.tup [v1, v2]) ∧ Vec w x H v1 ∧ Vec w t H v2
abbrev Port (w m : Nat) (x t : Nat → Nat → Int) : Hp → V → Prop := fun H => TupF m (fun e u => Ex w (x e) (t e) H u) H
abbrev BatchAt {N : Nw} (B : Bt N) : Hp → V → Prop := fun H => LstF B.b (fun q u => Port N.w (B.m q) (B.x q) (B.t q) H u) H
theorem ex_mono {w : Nat} {x t : Nat → Int} {H H' : Hp} {u : V} (h : Ex w x t H u) (s : TS H H') : Ex w x t H' u :=
  let ⟨T, v1, v2, e, h1, h2, h3⟩ := h
  ⟨T, v1, v2, e, s _ _ h1, vec_mono h2 s, vec_mono h3 s⟩
theorem port_mono {w m : Nat} {x t : Nat → Nat → Int} {H H' : Hp} {u : V} (h : Port w m x t H u) (s : TS H H') : Port w m x t H' u := TupF.mono h s fun _ _ q => ex_mono q s
theorem batch_same {N : Nw} {B : Bt N} {H H' : Hp} {u : V} (h : BatchAt B H u) (s : Same H H') : BatchAt B H' u := LstX.mono h (.same s) (fun _ _ q => port_mono q (same_ts s)) fun _ z => z

/-- a list or a tuple -/
def SeqF (n : Nat) (P : Nat → V → Prop) (H : Hp) (v : V) : Prop := ∃ a vs, v = .ref a ∧ (H a = some (.lst vs) ∨ H a = some (.tup vs)) ∧ vs.length = n ∧ ∀ i u, vs[i]? = some u → P i u
theorem SeqF.mono {n : Nat} {P P' : Nat → V → Prop} {H H' : Hp} {v : V} (h : SeqF n P H v) (t : Same H H') (hp : ∀ i u, P i u → P' i u) : SeqF n P' H' v :=
  let ⟨a, vs, e, h1, h2, h3⟩ := h
  ⟨a, vs, e, h1.imp (t _ _) (t _ _), h2, fun i u q => hp i u (h3 i u q)⟩
theorem seq_tup {n : Nat} {P P' : Nat → V → Prop} {H : Hp} {v : V} (h : TupF n P H v) (hp : ∀ i u, P i u → P' i u) : SeqF n P' H v :=
  let ⟨a, vs, e, h1, h2, h3⟩ := h
  ⟨a, vs, e, .inr h1, h2, fun i u q => hp i u (h3 i u q)⟩
theorem seq_lst {n : Nat} {P P' : Nat → V → Prop} {H : Hp} {v : V} (h : LstF n P H v) (hp : ∀ i u, P i u → P' i u) : SeqF n P' H v :=
  let ⟨a, vs, e, _, h1, h2, h3⟩ := h
  ⟨a, vs, e, .inl h1, h2, fun i u q => hp i u (h3 i u q)⟩
theorem sqB_of {K : PySem.W.Frag} {H : Hp} {a : Addr} {vs : List V} (h : H a = some (.lst vs) ∨ H a = some (.tup vs)) : ∃ k, SqB K k H a vs := by
  rcases h with h | h
  · exact ⟨false, SqL.of h⟩
  · exact ⟨true, SqT.of h⟩
abbrev SMat (w : Nat) (W : Nat → Nat → Int) : Hp → V → Prop := fun H => SeqF w (fun i u => SeqF w (IsI (W i)) H u) H
abbrev SMats (n w : Nat) (W : Nat → Nat → Nat → Int) : Hp → V → Prop := fun H => SeqF n (fun l u => SMat w (W l) H u) H

theorem gM_bd (N : Nw) (l : Nat) (x s : Nat → Int) (i : Nat) : 0 ≤ gM N l x s i ∧ gM N l x s i < N.p := by
  have hp := N.hp
  unfold gM
  split
  · exact ⟨Int.emod_nonneg _ (by omega), Int.emod_lt_of_pos _ (by omega)⟩
  · exact ⟨Int.emod_nonneg _ (by omega), Int.emod_lt_of_pos _ (by omega)⟩
theorem prodM_bd (N : Nw) (l : Nat) (x : Nat → Int) (i : Nat) : 0 ≤ prodM N l x i ∧ prodM N l x i < N.p := by
  have hp := N.hp
  exact ⟨Int.emod_nonneg _ (by omega), Int.emod_lt_of_pos _ (by omega)⟩
theorem layM_bd (N : Nw) (l : Nat) (x : Nat → Int) (i : Nat) : 0 ≤ layM N l x i ∧ layM N l x i < N.p := by
  have hp := N.hp
  unfold layM
  split
  · exact ⟨Int.emod_nonneg _ (by omega), Int.emod_lt_of_pos _ (by omega)⟩
  · exact prodM_bd N l x i
theorem outM_bd (N : Nw) (x : Nat → Int) (i : Nat) : 0 ≤ inM N x N.n i ∧ inM N x N.n i < N.p := by
  obtain ⟨m, e⟩ : ∃ m, N.n = m + 1 := ⟨N.n - 1, by have := N.hn; omega⟩
  rw [e]
  exact layM_bd N m _ i
theorem kStr_sq (b : Bool) : decide (V.str (kStr b) = V.str "square") = b := by cases b <;> decide +kernel
/-! ### polynomials -/
def cf (a : List Int) (m : Nat) : Int := a.getD m 0
def trim (ns : List Int) : List Int := (ns.reverse.dropWhile (· == 0)).reverse
def addL (p : Int) (a b : List Int) : List Int := (List.range (max a.length b.length)).map fun m => (cf a m + cf b m) % p
def convS (a b : List Int) (m : Nat) : Int := sumF a.length (fun j => if j ≤ m then cf a j * cf b (m - j) else 0)
def mulL (p : Int) (a b : List Int) : List Int := (List.range (a.length + b.length - 1)).map fun m => convS a b m % p
def horn (p t : Int) (l : List Int) : Int := l.foldr (fun c v => (v * t + c) % p) 0
/-- numbers from 0 on, below a bound -/
def Sm (l : List Int) : Prop := ∀ x, x ∈ l → -1000000 ≤ x ∧ x ≤ 1000000
abbrev Poly (l : List Int) (H : Hp) (v : V) : Prop := ∃ a, v = .ref a ∧ H a = some (.tup (l.map V.int))
abbrev LPol (l : List Int) (H : Hp) (v : V) : Prop := ∃ a, v = .ref a ∧ H a = some (.lst (l.map V.int))
theorem poly_mono {l : List Int} {H H' : Hp} {v : V} (h : Poly l H v) (s : TS H H') : Poly l H' v := let ⟨a, e, q⟩ := h; ⟨a, e, s _ _ q⟩
theorem lpol_same {l : List Int} {H H' : Hp} {v : V} (h : LPol l H v) (s : Same H H') : LPol l H' v := let ⟨a, e, q⟩ := h; ⟨a, e, s _ _ q⟩
def wpM (N : Nw) (l0 i0 k0 : Nat) (l i k : Nat) : List Int := if l = l0 ∧ i = i0 ∧ k = k0 then trim [N.W l i k, 1] else trim [N.W l i k % N.p]
def totM (p : Int) (A : Nat → List Int) (B : Nat → List Int) : Nat → List Int
  | 0 => []
  | k + 1 => trim (addL p (totM p A B k) (trim (mulL p (A k) (B k))))
def poM (p : Int) (w : Nat) (ks : Nat → Bool) (M : Nat → Nat → Nat → List Int) (x : Nat → Int) : Nat → Nat → List Int
  | 0 => fun i => trim [x i % p]
  | l + 1 => fun i => if ks l = true then trim (mulL p (totM p (M l i) (poM p w ks M x l) w) (totM p (M l i) (poM p w ks M x l) w)) else totM p (M l i) (poM p w ks M x l) w
/-- the loop over the numbers of one example: total, the outs, the targets -/
def exP (p : Int) (o : Nat → List Int) (t : Nat → Int) (tot : List Int) : Nat → List Int
  | 0 => tot
  | k + 1 => trim (addL p (exP p o t tot k) (trim (mulL p (trim (addL p (o k) (trim [(-t k) % p]))) (trim (addL p (o k) (trim [(-t k) % p]))))))
def ptP (p : Int) (w : Nat) (O : (Nat → Int) → Nat → List Int) (x t : Nat → Nat → Int) (tot : List Int) : Nat → List Int
  | 0 => tot
  | e + 1 => exP p (O (x e)) (t e) (ptP p w O x t tot e) w
def btP {N : Nw} (p : Int) (w : Nat) (O : (Nat → Int) → Nat → List Int) (B : Bt N) : Nat → List Int
  | 0 => []
  | q + 1 => ptP p w O (B.x q) (B.t q) (btP p w O B q) (B.m q)
def lpM (N : Nw) (B : Bt N) (l0 i0 k0 : Nat) : List Int := btP N.p N.w (fun x => poM N.p N.w N.k (wpM N l0 i0 k0) x N.n) B B.b
/-! .. the law's -/
def lwM (N : Nw) (l0 i0 k0 : Nat) (l i k : Nat) : List Int := if l = l0 ∧ i = i0 ∧ k = k0 then [N.W l i k, 1] else [N.W l i k]
def ltotM (p : Int) (A : Nat → List Int) (B : Nat → List Int) : Nat → List Int
  | 0 => []
  | k + 1 => addL p (ltotM p A B k) (mulL p (A k) (B k))
def thM (p : Int) (w : Nat) (ks : Nat → Bool) (M : Nat → Nat → Nat → List Int) (x : Nat → Int) : Nat → Nat → List Int
  | 0 => fun i => [x i]
  | l + 1 => fun i => if ks l = true then mulL p (ltotM p (M l i) (thM p w ks M x l) w) (ltotM p (M l i) (thM p w ks M x l) w) else ltotM p (M l i) (thM p w ks M x l) w
def lexP (p : Int) (o : Nat → List Int) (t : Nat → Int) (tot : List Int) : Nat → List Int
  | 0 => tot
  | k + 1 => addL p (lexP p o t tot k) (mulL p (addL p (o k) [0 - t k]) (addL p (o k) [0 - t k]))
def lptP (p : Int) (w : Nat) (O : (Nat → Int) → Nat → List Int) (x t : Nat → Nat → Int) (tot : List Int) : Nat → List Int
  | 0 => tot
  | e + 1 => lexP p (O (x e)) (t e) (lptP p w O x t tot e) w
def lbtP {N : Nw} (p : Int) (w : Nat) (O : (Nat → Int) → Nat → List Int) (B : Bt N) : Nat → List Int
  | 0 => []
  | q + 1 => lptP p w O (B.x q) (B.t q) (lbtP p w O B q) (B.m q)
def llM (N : Nw) (B : Bt N) (l0 i0 k0 : Nat) : List Int := trim (lbtP N.p N.w (fun x => thM N.p N.w N.k (lwM N l0 i0 k0) x N.n) B B.b)

/-! ### sizes -/
theorem dropW_sub (l : List Int) : ∀ x, x ∈ l.dropWhile (· == 0) → x ∈ l := fun x h => (List.dropWhile_sublist _).subset h
theorem trim_mem {l : List Int} {x : Int} (h : x ∈ trim l) : x ∈ l := by
  unfold trim at h
  exact List.mem_reverse.mp (dropW_sub _ _ (List.mem_reverse.mp h))
theorem trim_len (l : List Int) : (trim l).length ≤ l.length := by
  unfold trim
  rw [List.length_reverse]
  have := (List.dropWhile_sublist (p := (· == 0)) (l := l.reverse)).length_le
  rwa [List.length_reverse] at this
theorem addL_len (p : Int) (a b : List Int) : (addL p a b).length = max a.length b.length := by unfold addL; rw [List.length_map, List.length_range]
theorem mulL_len (p : Int) (a b : List Int) : (mulL p a b).length = a.length + b.length - 1 := by unfold mulL; rw [List.length_map, List.length_range]
theorem sm_mod {p x : Int} (h1 : 2 ≤ p) (h2 : p ≤ 97) : -1000000 ≤ x % p ∧ x % p ≤ 1000000 := by
  have a := Int.emod_nonneg x (show p ≠ 0 by omega)
  have b := Int.emod_lt_of_pos x (show 0 < p by omega)
  omega
theorem sm_addL {p : Int} (h : 2 ≤ p ∧ p ≤ 97) (a b : List Int) : Sm (addL p a b) := fun x hx => by
  unfold addL at hx
  obtain ⟨m, _, rfl⟩ := List.mem_map.mp hx
  exact sm_mod h.1 h.2
theorem sm_mulL {p : Int} (h : 2 ≤ p ∧ p ≤ 97) (a b : List Int) : Sm (mulL p a b) := fun x hx => by
  unfold mulL at hx
  obtain ⟨m, _, rfl⟩ := List.mem_map.mp hx
  exact sm_mod h.1 h.2
theorem sm_trim {l : List Int} (h : Sm l) : Sm (trim l) := fun x hx => h x (trim_mem hx)
theorem sm_nil : Sm [] := fun x hx => by cases hx
theorem tot_ok {p : Int} (h : 2 ≤ p ∧ p ≤ 97) {A B : Nat → List Int} {n : Nat} (hA : ∀ k, (A k).length ≤ 2) (hB : ∀ k, (B k).length ≤ n) : ∀ k, Sm (totM p A B k) ∧ (totM p A B k).length ≤ n + 1
  | 0 => ⟨sm_nil, Nat.zero_le _⟩
  | k + 1 => by
    have ih := (tot_ok h hA hB k).2
    refine ⟨sm_trim (sm_addL h _ _), Nat.le_trans (trim_len _) ?_⟩
    rw [addL_len]
    have h1 := trim_len (mulL p (A k) (B k))
    rw [mulL_len] at h1
    have h2 := hA k
    have h3 := hB k
    omega
theorem ltot_ok {p : Int} (h : 2 ≤ p ∧ p ≤ 97) {A B : Nat → List Int} {n : Nat} (hA : ∀ k, (A k).length ≤ 2) (hB : ∀ k, (B k).length ≤ n) : ∀ k, Sm (ltotM p A B k) ∧ (ltotM p A B k).length ≤ n + 1
  | 0 => ⟨sm_nil, Nat.zero_le _⟩
  | k + 1 => by
    have ih := (ltot_ok h hA hB k).2
    refine ⟨sm_addL h _ _, ?_⟩
    show (addL p (ltotM p A B k) (mulL p (A k) (B k))).length ≤ n + 1
    rw [addL_len, mulL_len]
    have h2 := hA k
    have h3 := hB k
    omega
theorem po_ok {p : Int} (h : 2 ≤ p ∧ p ≤ 97) {w : Nat} {ks : Nat → Bool} {M : Nat → Nat → Nat → List Int} (x : Nat → Int) (hM : ∀ l i k, (M l i k).length ≤ 2) : ∀ l i, Sm (poM p w ks M x l i) ∧ (poM p w ks M x l i).length + 1 ≤ 2 ^ (l + 1)
  | 0, i => ⟨sm_trim fun y hy => by rw [List.mem_singleton.mp hy]; exact sm_mod h.1 h.2, by have := trim_len [x i % p]; simp only [List.length_singleton] at this; show (trim [x i % p]).length + 1 ≤ 2 ^ 1; omega⟩
  | l + 1, i => by
    have ih := fun k => (po_ok (w := w) (ks := ks) h x hM l k).2
    have ht := tot_ok h (A := M l i) (B := poM p w ks M x l) (n := 2 ^ (l + 1) - 1) (hM l i) (fun k => by have := ih k; omega) w
    have e : 2 ^ (l + 1 + 1) = 2 * 2 ^ (l + 1) := by rw [Nat.pow_succ, Nat.mul_comm]
    have e1 : 1 ≤ 2 ^ (l + 1) := Nat.one_le_two_pow
    show Sm (if ks l = true then _ else _) ∧ List.length (if ks l = true then _ else _) + 1 ≤ _
    split
    · refine ⟨sm_trim (sm_mulL h _ _), ?_⟩
      have h1 := trim_len (mulL p (totM p (M l i) (poM p w ks M x l) w) (totM p (M l i) (poM p w ks M x l) w))
      rw [mulL_len] at h1
      omega
    · exact ⟨ht.1, by omega⟩
theorem th_ok {p : Int} (h : 2 ≤ p ∧ p ≤ 97) {w : Nat} {ks : Nat → Bool} {M : Nat → Nat → Nat → List Int} (x : Nat → Int) (hx : ∀ i, 0 ≤ x i ∧ x i < p) (hM : ∀ l i k, (M l i k).length ≤ 2) : ∀ l i, Sm (thM p w ks M x l i) ∧ (thM p w ks M x l i).length + 1 ≤ 2 ^ (l + 1)
  | 0, i => ⟨fun y hy => by have := hx i; rw [List.mem_singleton.mp hy]; omega, by show 1 + 1 ≤ 2 ^ 1; omega⟩
  | l + 1, i => by
    have ih := fun k => (th_ok (w := w) (ks := ks) h x hx hM l k).2
    have ht := ltot_ok h (A := M l i) (B := thM p w ks M x l) (n := 2 ^ (l + 1) - 1) (hM l i) (fun k => by have := ih k; omega) w
    have e : 2 ^ (l + 1 + 1) = 2 * 2 ^ (l + 1) := by rw [Nat.pow_succ, Nat.mul_comm]
    have e1 : 1 ≤ 2 ^ (l + 1) := Nat.one_le_two_pow
    show Sm (if ks l = true then _ else _) ∧ List.length (if ks l = true then _ else _) + 1 ≤ _
    split
    · refine ⟨sm_mulL h _ _, ?_⟩
      rw [mulL_len]
      omega
    · exact ⟨ht.1, by omega⟩

/-! ### promises: nets -/
def spBetween : Sp := fun vs H Q _ => ∃ a b c : Int, vs = [.int a, .int b, .int c] ∧ Q (.bl (decide (b ≤ a ∧ a ≤ c))) H
def spPrime : Sp := fun vs H Q _ => ∃ p : Int, vs = [.int p] ∧ 2 ≤ p ∧ p ≤ 97 ∧ (∀ d : Int, 2 ≤ d → d < p → p % d ≠ 0) ∧ Q (.bl true) H
def spMatrix : Sp := fun vs H Q _ => ∃ (w : Nat) (W : Nat → Nat → Int) (rv : V), vs = [rv] ∧ w ≤ 3 ∧ SMat w W H rv ∧ ∀ H' v, Same H H' → Mat w W H' v → Q v H'
def spInit (C : Addr) : Sp := fun vs H Q _ => ∃ (N : Nw) (a dx : Addr) (wv kv : V), vs = [.ref a, .int N.p, wv, kv] ∧ H a = some (.ins C dx []) ∧ SMats N.n N.w N.W H wv ∧ TupF N.n (IsK N.k) H kv ∧
  ∀ H', Kp (fun b => b = a) H H' → NetAt C N H' (.ref a) → Q .non H'
def spLen (C : Addr) : Sp := fun vs H Q _ => ∃ (N : Nw) (nv : V), vs = [nv] ∧ NetAt C N H nv ∧ Q (.int (N.n : Int)) H
def spProduct (C : Addr) : Sp := fun vs H Q _ => ∃ (N : Nw) (nv xv : V) (l : Nat) (x : Nat → Int), vs = [nv, .int l, xv] ∧ NetAt C N H nv ∧ l < N.n ∧ Vec N.w x H xv ∧
  ∀ H' v, Same H H' → LstF N.w (IsI (prodM N l x)) H' v → Q v H'
def spLayF (C : Addr) : Sp := fun vs H Q _ => ∃ (N : Nw) (nv xv : V) (l : Nat) (x : Nat → Int), vs = [nv, .int l, xv] ∧ NetAt C N H nv ∧ l < N.n ∧ Vec N.w x H xv ∧
  ∀ H' v, Same H H' → Vec N.w (layM N l x) H' v → Q v H'
def spLayB (C : Addr) : Sp := fun vs H Q _ => ∃ (N : Nw) (nv xv sv : V) (l : Nat) (x s : Nat → Int), vs = [nv, .int l, xv, sv] ∧ NetAt C N H nv ∧ l < N.n ∧ Vec N.w x H xv ∧ Vec N.w s H sv ∧
  ∀ H' T v1 v2, Same H H' → H' T = some (.tup [v1, v2]) → Vec N.w (backM N l x s) H' v1 → Mat N.w (gradM N l x s) H' v2 → Q (.ref T) H'
def spInputs (C : Addr) : Sp := fun vs H Q _ => ∃ (N : Nw) (nv xv : V) (x : Nat → Int), vs = [nv, xv] ∧ NetAt C N H nv ∧ Vec N.w x H xv ∧
  ∀ H' T v1 v2, Same H H' → H' T = some (.tup [v1, v2]) → TupF N.n (fun l u => Vec N.w (inM N x l) H' u) H' v1 → Vec N.w (inM N x N.n) H' v2 → Q (.ref T) H'
def spForward (C : Addr) : Sp := fun vs H Q _ => ∃ (N : Nw) (nv xv : V) (x : Nat → Int), vs = [nv, xv] ∧ NetAt C N H nv ∧ Vec N.w x H xv ∧ ∀ H' v, Same H H' → Vec N.w (inM N x N.n) H' v → Q v H'
def spSlBack (C : Addr) : Sp := fun vs H Q _ => ∃ (N : Nw) (nv iv sv : V) (xs : Nat → Nat → Int) (s : Nat → Int), vs = [nv, iv, sv] ∧ NetAt C N H nv ∧ TupF N.n (fun l u => Vec N.w (xs l) H u) H iv ∧ Vec N.w s H sv ∧
  ∀ H' T v1 v2, Same H H' → H' T = some (.tup [v1, v2]) → Mats N.n N.w (gradsM N xs s) H' v2 → Q (.ref T) H'
def spLossSl (C : Addr) : Sp := fun vs H Q _ => ∃ (N : Nw) (nv ov tv : V) (o t : Nat → Int), vs = [nv, ov, tv] ∧ NetAt C N H nv ∧ Vec N.w o H ov ∧ Vec N.w t H tv ∧ ∀ H' v, Same H H' → Vec N.w (lsM N o t) H' v → Q v H'
def spNoSl (C : Addr) : Sp := fun vs H Q _ => ∃ (N : Nw) (nv : V), vs = [nv] ∧ NetAt C N H nv ∧ ∀ H' v, Same H H' → Mats N.n N.w (fun _ _ _ => 0) H' v → Q v H'
def spAdded (C : Addr) : Sp := fun vs H Q _ => ∃ (N : Nw) (nv av bv : V) (A B : Nat → Nat → Nat → Int), vs = [nv, av, bv, .int 1] ∧ NetAt C N H nv ∧ Mats N.n N.w A H av ∧ Mats N.n N.w B H bv ∧ ∀ H' v, Same H H' → Mats N.n N.w (addM N A B) H' v → Q v H'
def spPortSl (C : Addr) : Sp := fun vs H Q _ => ∃ (N : Nw) (nv pv : V) (m : Nat) (x t : Nat → Nat → Int), vs = [nv, pv] ∧ NetAt C N H nv ∧ Port N.w m x t H pv ∧ m ≤ 2 ∧ ∀ H' v, Same H H' → Mats N.n N.w (psM N x t m) H' v → Q v H'
def spLoss (C : Addr) : Sp := fun vs H Q _ => ∃ (N N0 : Nw) (B : Bt N0) (nv bv : V), vs = [nv, bv] ∧ NetAt C N H nv ∧ N.w = N0.w ∧ N.p = N0.p ∧ BatchAt B H bv ∧ ∀ H', Same H H' → Q (.int (lossM N B)) H'

/-! ### promises: polynomials -/
def spTrim (K : PySem.W.Frag) : Sp := fun vs H Q _ => ∃ (a : Addr) (ns : List Int), vs = [.ref a] ∧ H a = some (.lst (ns.map V.int)) ∧ ns.length ≤ 10000 ∧ ∀ H' v, Same H H' → Poly (trim ns) H' v → Q v H'
def spPlus (C : Addr) : Sp := fun vs H Q _ => ∃ (N : Nw) (nv av bv : V) (a b : List Int), vs = [nv, av, bv] ∧ NetAt C N H nv ∧ Poly a H av ∧ Poly b H bv ∧ a.length ≤ 1000 ∧ b.length ≤ 1000 ∧ ∀ H' v, Same H H' → Poly (trim (addL N.p a b)) H' v → Q v H'
def spTimes (C : Addr) : Sp := fun vs H Q _ => ∃ (N : Nw) (nv av bv : V) (a b : List Int), vs = [nv, av, bv] ∧ NetAt C N H nv ∧ Poly a H av ∧ Poly b H bv ∧ Sm a ∧ a.length ≤ 1000 ∧ b.length ≤ 1000 ∧ ∀ H' v, Same H H' → Poly (trim (mulL N.p a b)) H' v → Q v H'
def spConst (C : Addr) : Sp := fun vs H Q _ => ∃ (N : Nw) (nv : V) (c : Int), vs = [nv, .int c] ∧ NetAt C N H nv ∧ ∀ H' v, Same H H' → Poly (trim [c % N.p]) H' v → Q v H'
abbrev PMats (n w : Nat) (M : Nat → Nat → Nat → List Int) : Hp → V → Prop := fun H => LstF n (fun l u => LstF w (fun i u => LstF w (fun k u => Poly (M l i k) H u) H u) H u) H
def spWPol (C : Addr) : Sp := fun vs H Q _ => ∃ (N : Nw) (nv : V) (T : Addr) (l0 i0 k0 : Nat), vs = [nv, .ref T] ∧ NetAt C N H nv ∧ H T = some (.tup [.int l0, .int i0, .int k0]) ∧ ∀ H' v, Same H H' → PMats N.n N.w (wpM N l0 i0 k0) H' v → Q v H'
def spOPol (C : Addr) : Sp := fun vs H Q _ => ∃ (N : Nw) (nv mv xv : V) (M : Nat → Nat → Nat → List Int) (x : Nat → Int), vs = [nv, mv, xv] ∧ NetAt C N H nv ∧ PMats N.n N.w M H mv ∧ (∀ l i k, Sm (M l i k) ∧ (M l i k).length ≤ 2) ∧ Vec N.w x H xv ∧
  ∀ H' v, Same H H' → LstF N.w (fun i u => Poly (poM N.p N.w N.k M x N.n i) H' u) H' v → Q v H'
def spLPol (C : Addr) : Sp := fun vs H Q _ => ∃ (N : Nw) (B : Bt N) (nv bv : V) (l0 i0 k0 : Nat), vs = [nv, bv, .int l0, .int i0, .int k0] ∧ NetAt C N H nv ∧ BatchAt B H bv ∧ ∀ H' v, Same H H' → Poly (lpM N B l0 i0 k0) H' v → Q v H'
def spAt (C : Addr) : Sp := fun vs H Q _ => ∃ (N : Nw) (nv av : V) (a : List Int) (t : Int), vs = [nv, av, .int t] ∧ NetAt C N H nv ∧ Poly a H av ∧ ∀ H', Same H H' → Q (.int (horn N.p t a)) H'
end K55

/-! S2: the law's own defs: promises -/
namespace K55
open PySem PySem.Spec PyProof.Rows L2

/-! ### a call by keywords alone -/
structure CalK (P : Program) (w : World) (K : PySem.W.Frag) (mg : Str → Option Value) (base : Heap) (x : Str) (k : Nat) (ps : List Str) (sp : Sp) : Prop where
  ex : ∃ f fd, FnOk P w K mg base CX0 k f fd ps sp ∧ mg x = some (.ref f) ∧ PySem.W.keepIn K (.ref f) = true ∧ Binds K fd ps [] ∧ ∀ (s : Shared) (ws : List Value), ws.length = ps.length → BindsTo s fd ⟨[], ps.zip ws⟩ (ps.zip ws)
def tCallW (sp : Sp) (tk : TA) : TE := fun σ H Q => tk σ H fun zs H2 => sp zs H2 Q E0
theorem pe_callKw {X : Cx} {k : Nat} {f : Addr} {fd : FuncData} {ps : List Str} {sp : Sp} {x : Str} {p pos : Pos} {kws : List Keyword} {tk : TA} (G : FnOk X.prog X.w X.K X.mg X.base CX0 k f fd ps sp) (hr : Room k X.A) (hg : Gl X x) (hm : X.mg x = some (.ref f)) (hk : PySem.W.keepIn X.K (.ref f) = true)
    (hb : ∀ (s : Shared) (ws : List Value), ws.length = ps.length → BindsTo s fd ⟨[], ps.zip ws⟩ (ps.zip ws)) (ha : PK X kws tk) (hall : (backToKw pos (keywordEach kws X.env)).all (·.1.isSome) = true := by rfl) (hks : (backToKw pos (keywordEach kws X.env)).filterMap (·.1) = ps := by rfl)
    (hdb : (x == ("__debug__" : Str)) = false := by decide) (hpl : ((backTo pos (starEach [] X.env)).any (·.1) || (backToKw pos (keywordEach kws X.env)).any (·.1.isNone)) = false := by rfl) : PE X (.Call (.Name x p) [] kws pos) (tCallW sp tk) := by
  refine ⟨fun pins s σ H Q I h => ?_⟩
  refine wpAny_Call_Name_kw (ld_glob I hg hm ?_ hdb)
  refine PySem.W.callWith_KW0 (h₀ := X.base) I.ok.mod.kin hk hall (thn (ha.run pos pins s σ H _ I h) fun ws s1 ⟨zs, H1, I1, r, q⟩ => ⟨I1.kIn, ?_⟩) hpl
  rw [hks]
  have hl : ws.length = ps.length := by rw [← r.length]; exact G.len _ _ _ _ q
  refine wpAny_call (codeAny_mono (G.run X.A X.stack s1 H1 ⟨[], ps.zip ws⟩ ws zs Q E0 hr I1.env0 (hb s1 ws hl) r q) fun r s' hq => ?_)
  cases r with
  | error e => exact hq.elim
  | ok fl =>
    cases fl with
    | ret u => exact I1.after hq
    | next => exact False.elim hq
    | brk => exact False.elim hq
    | cont => exact False.elim hq

theorem none_of {H H1 : Hp} {b : Addr} (s : Same H H1) (h : H1 b = none) : H b = none := by
  cases q : H b with
  | none => rfl
  | some o => rw [s _ _ q] at h; cases h
theorem ints_ex : ∀ {us : List V}, (∀ v, v ∈ us → ∃ i : Int, v = V.int i) → ∃ rs : List Int, us = rs.map V.int
  | [], _ => ⟨[], rfl⟩
  | v :: us, h => by
    obtain ⟨i, rfl⟩ := h v List.mem_cons_self
    obtain ⟨rs, e⟩ := ints_ex (us := us) fun u hu => h u (List.mem_cons_of_mem _ hu)
    exact ⟨i :: rs, by rw [e]; rfl⟩
theorem ixNat {n j : Nat} (hj : j < n) : ixN n (j : Int) = some j := by
  unfold ixN
  rw [if_pos (by omega), if_pos (by omega)]
  congr 1
/-- a list of ints, not at F -/
def LPolX (F : Addr → Prop) (l : List Int) (H : Hp) (v : V) : Prop := ∃ a, v = .ref a ∧ ¬ F a ∧ H a = some (.lst (l.map V.int))
theorem LPolX.mono {F G : Addr → Prop} {l : List Int} {H H' : Hp} {v : V} (h : LPolX F l H v) (k : Kp F H H') (hf : ∀ b, G b → F b) : LPolX G l H' v :=
  let ⟨a, e, n, q⟩ := h
  ⟨a, e, fun z => n (hf a z), k _ _ n q⟩
theorem LPolX.same {F : Addr → Prop} {l : List Int} {H H' : Hp} {v : V} (h : LPolX F l H v) (s : Same H H') : LPolX F l H' v := h.mono (.same s) fun _ z => z
theorem LPolX.pol {F : Addr → Prop} {l : List Int} {H : Hp} {v : V} (h : LPolX F l H v) : LPol l H v := let ⟨a, e, _, q⟩ := h; ⟨a, e, q⟩
/-- one for each place -/
theorem pick {α : Type} (R : α → Prop) (d : α) (hd : R d) {us : List V} {P : Nat → V → α → Prop} (h : ∀ j v, us[j]? = some v → ∃ x, R x ∧ P j v x) : ∃ f : Nat → α, (∀ j, R (f j)) ∧ ∀ j v, us[j]? = some v → P j v (f j) := by
  have z : ∀ j, ∃ x, R x ∧ ∀ v, us[j]? = some v → P j v x := fun j => by
    cases e : us[j]? with
    | none => exact ⟨d, hd, fun v q => by cases q⟩
    | some u =>
      obtain ⟨x, h1, h2⟩ := h j u e
      exact ⟨x, h1, fun v q => by cases q; exact h2⟩
  exact ⟨fun j => Classical.choose (z j), fun j => (Classical.choose_spec (z j)).1, fun j v e => (Classical.choose_spec (z j)).2 v e⟩
/-! ### the hand: the draws at a, and how many were taken -/
def HandAt (H : Hp) (h a : Addr) : Prop := ∃ (k : Int) (ds : List Int), H h = some (.lst [.ref a, .int k]) ∧ 0 ≤ k ∧ H a = some (.lst (ds.map V.int))
abbrev KH (h : Addr) : Hp → Hp → Prop := Kp (fun b => b = h)
theorem kh_none {H H1 : Hp} {h b : Addr} (k : KH h H H1) (n : b ≠ h) (e : H1 b = none) : H b = none := by
  cases q : H b with
  | none => rfl
  | some o => rw [k _ _ n q] at e; cases e
theorem HandAt.ne {H : Hp} {h a : Addr} (x : HandAt H h a) : a ≠ h := by
  obtain ⟨k, ds, h1, _, h2⟩ := x
  intro e
  subst e
  rw [h1] at h2
  cases ds with
  | nil => cases h2
  | cons d r => cases h2
theorem HandAt.is {H : Hp} {h a : Addr} (x : HandAt H h a) : ∃ l, H h = some (.lst l) := let ⟨_, _, e, _⟩ := x; ⟨_, e⟩
theorem HandAt.over {H : Hp} {h a D : Addr} {o : HO} (x : HandAt H h a) (h1 : D ≠ h) (h2 : D ≠ a) : HandAt (upd H D o) h a :=
  let ⟨k, ds, e1, e2, e3⟩ := x
  ⟨k, ds, by rw [upd_ne h1.symm]; exact e1, e2, by rw [upd_ne h2.symm]; exact e3⟩
theorem HandAt.same {H H' : Hp} {h a : Addr} (x : HandAt H h a) (s : Same H H') : HandAt H' h a :=
  let ⟨k, ds, e1, e2, e3⟩ := x
  ⟨k, ds, s _ _ e1, e2, s _ _ e3⟩
theorem HandAt.new {H : Hp} {h a D : Addr} (x : HandAt H h a) (hD : H D = none) : D ≠ h ∧ D ≠ a :=
  let ⟨_, _, e1, _, e3⟩ := x
  ⟨(ne_of_none e1 hD).symm, (ne_of_none e3 hD).symm⟩
theorem kh_ts {H H' : Hp} {h a : Addr} (x : HandAt H h a) (k : KH h H H') : TS H H' := k.ts fun b e => by rw [e]; exact x.is
def PrimeIs (p : Int) : Prop := 2 ≤ p ∧ p ≤ 97 ∧ ∀ d : Int, 2 ≤ d → d < p → p % d ≠ 0
def LNet (N : Nw) (H : Hp) (v : V) : Prop := ∃ a v2 v3, v = .ref a ∧ H a = some (.tup [.int N.p, v2, v3]) ∧ Mats N.n N.w N.W H v2 ∧ TupF N.n (IsK N.k) H v3
theorem lnet_mono {N : Nw} {H H' : Hp} {v : V} (h : LNet N H v) (s : TS H H') : LNet N H' v :=
  let ⟨a, v2, v3, e, h1, h2, h3⟩ := h
  ⟨a, v2, v3, e, s _ _ h1, mats_mono h2 s, h3.mono s fun _ _ q => q⟩
/-- the net with t added at a place -/
def withN (N : Nw) (l0 i0 k0 : Nat) (t : Int) : Nw where
  p := N.p
  n := N.n
  w := N.w
  W := fun l i k => if l = l0 ∧ i = i0 ∧ k = k0 then (N.W l i k + t) % N.p else N.W l i k
  k := N.k
  hp := N.hp
  hn := N.hn
  hw := N.hw
  hW := fun l i j => by
    have hp := N.hp
    by_cases h : l = l0 ∧ i = i0 ∧ j = k0
    · rw [if_pos h]
      exact ⟨Int.emod_nonneg _ (by omega), Int.emod_lt_of_pos _ (by omega)⟩
    · rw [if_neg h]
      exact N.hW l i j
  pr := N.pr

def spDraws (K : PySem.W.Frag) : Sp := fun vs H Q _ => ∃ (s : Addr) (ns : List Int), vs = [.ref s, .int 150] ∧ SqL K H s (ns.map V.int) ∧ ns.length ≤ 63 ∧ ∀ H' l ds, Same H H' → H' l = some (.lst (List.map V.int ds)) → Q (.ref l) H'
def spTake : Sp := fun vs H Q _ => ∃ (h a : Addr) (m : Int), vs = [.ref h, .int m] ∧ 0 < m ∧ HandAt H h a ∧ ∀ r H', 0 ≤ r → r < m → HandAt H' h a → KH h H H' → Q (.int r) H'
def spLPrime : Sp := fun vs H Q _ => ∃ (h a : Addr), vs = [.ref h] ∧ HandAt H h a ∧ ∀ p H', PrimeIs p → HandAt H' h a → KH h H H' → Q (.int p) H'
def spLVec : Sp := fun vs H Q _ => ∃ (h a : Addr) (p : Int) (w : Nat), vs = [.ref h, .int p, .int w] ∧ 2 ≤ p ∧ w ≤ 3 ∧ HandAt H h a ∧ ∀ x H' v, (∀ i, 0 ≤ x i ∧ x i < p) → HandAt H' h a → KH h H H' → Vec w x H' v → Q v H'
def spLNet : Sp := fun vs H Q _ => ∃ (h a : Addr), vs = [.ref h, .int 3] ∧ HandAt H h a ∧ ∀ N H' v, HandAt H' h a → KH h H H' → LNet N H' v → Q v H'
def spLPort : Sp := fun vs H Q _ => ∃ (h a : Addr) (p : Int) (w : Nat), vs = [.ref h, .int p, .int w, .int 2] ∧ 2 ≤ p ∧ w ≤ 3 ∧ HandAt H h a ∧
  ∀ m x t H' v, 1 ≤ m ∧ m ≤ 2 → (∀ e i, 0 ≤ x e i ∧ x e i < p) → (∀ e i, 0 ≤ t e i ∧ t e i < p) → HandAt H' h a → KH h H H' → Port w m x t H' v → Q v H'
def spLPlus : Sp := fun vs H Q _ => ∃ (p : Int) (A1 B1 : Addr) (a b : List Int), vs = [.ref A1, .ref B1, .int p] ∧ 2 ≤ p ∧ p ≤ 97 ∧ H A1 = some (.lst (a.map V.int)) ∧ H B1 = some (.lst (b.map V.int)) ∧ a.length ≤ 1000 ∧ b.length ≤ 1000 ∧
  ∀ H' l, Same H H' → H l = none → H' l = some (.lst ((addL p a b).map V.int)) → Q (.ref l) H'
def spLTimes : Sp := fun vs H Q _ => ∃ (p : Int) (A1 B1 : Addr) (a b : List Int), vs = [.ref A1, .ref B1, .int p] ∧ 2 ≤ p ∧ p ≤ 97 ∧ H A1 = some (.lst (a.map V.int)) ∧ H B1 = some (.lst (b.map V.int)) ∧ Sm a ∧ a.length ≤ 1000 ∧ b.length ≤ 1000 ∧
  ∀ H' l, Same H H' → H l = none → H' l = some (.lst ((mulL p a b).map V.int)) → Q (.ref l) H'
def spThrough : Sp := fun vs H Q _ => ∃ (N : Nw) (ov xv : V) (T0 : Addr) (l0 i0 k0 : Nat) (x : Nat → Int), vs = [ov, .ref T0, xv] ∧ LNet N H ov ∧ H T0 = some (.tup [.int l0, .int i0, .int k0]) ∧ Vec N.w x H xv ∧ (∀ i, 0 ≤ x i ∧ x i < N.p) ∧
  ∀ H' v, Same H H' → LstF N.w (fun i u => LPol (thM N.p N.w N.k (lwM N l0 i0 k0) x N.n i) H' u) H' v → Q v H'
def spLPoly : Sp := fun vs H Q _ => ∃ (N : Nw) (B : Bt N) (ov bv : V) (T0 : Addr) (l0 i0 k0 : Nat), vs = [ov, bv, .ref T0] ∧ LNet N H ov ∧ BatchAt B H bv ∧ H T0 = some (.tup [.int l0, .int i0, .int k0]) ∧
  ∀ H' v, Same H H' → LPol (llM N B l0 i0 k0) H' v → Q v H'
def spLVal : Sp := fun vs H Q _ => ∃ (p : Int) (A1 : Addr) (a : List Int) (t : Int), vs = [.ref A1, .int t, .int p] ∧ 2 ≤ p ∧ p ≤ 97 ∧ H A1 = some (.lst (a.map V.int)) ∧ a.length ≤ 1000 ∧ Q (.int (horn p t a)) H
def spWith (C : Addr) : Sp := fun vs H Q _ => ∃ (N : Nw) (ov : V) (T0 : Addr) (l0 i0 k0 : Nat) (t : Int), vs = [ov, .ref T0, .int t] ∧ LNet N H ov ∧ H T0 = some (.tup [.int l0, .int i0, .int k0]) ∧ l0 < N.n ∧ i0 < N.w ∧ k0 < N.w ∧
  ∀ H' v, Same H H' → NetAt C (withN N l0 i0 k0 t) H' v → Q v H'

/-! ### for several defs -/
theorem trim_zero (us : List Int) : trim (us ++ [0]) = trim us := by simp [trim, List.reverse_append, List.dropWhile_cons]
theorem trim_keep (us : List Int) {c : Int} (h : c ≠ 0) : trim (us ++ [c]) = us ++ [c] := by simp [trim, List.reverse_append, List.dropWhile_cons, h]
theorem pad_len (a : List Int) (n : Nat) (h : a.length ≤ n) : (a.map V.int ++ (List.replicate (n - a.length) [V.int 0]).flatten).length = n := by simp; omega
theorem pad_at (a : List Int) (n j : Nat) (v : V) (e : (a.map V.int ++ (List.replicate (n - a.length) [V.int 0]).flatten)[j]? = some v) : v = V.int (cf a j) := by
  unfold cf
  by_cases hj : j < a.length
  · rw [List.getElem?_append_left (by simpa using hj), List.getElem?_map, List.getElem?_eq_getElem hj] at e
    cases e
    rw [List.getD_eq_getElem?_getD, List.getElem?_eq_getElem hj]
    rfl
  · rw [List.getElem?_append_right (by simpa using hj), List.flatten_replicate_singleton, List.getElem?_replicate] at e
    split at e
    · cases e
      rw [List.getD_eq_getElem?_getD, List.getElem?_eq_none (by omega)]
      rfl
    · cases e
theorem sumF_zero {n : Nat} {f : Nat → Int} (h : ∀ j, j < n → f j = 0) : sumF n f = 0 := by
  induction n with
  | zero => rfl
  | succ n ih =>
    show sumF n f + f n = 0
    rw [ih fun j hj => h j (by omega), h n (by omega)]
    rfl
theorem cf_ge {l : List Int} {m : Nat} (h : l.length ≤ m) : cf l m = 0 := by
  unfold cf
  rw [List.getD_eq_getElem?_getD, List.getElem?_eq_none h]
  rfl
theorem cf_at {l : List Int} {m : Nat} {v : V} (e : (l.map V.int)[m]? = some v) : v = V.int (cf l m) := by
  rw [List.getElem?_map] at e
  unfold cf
  rw [List.getD_eq_getElem?_getD]
  cases q : l[m]? with
  | none => rw [q] at e; cases e
  | some c => rw [q] at e; cases e; rfl
theorem cf_mem {l : List Int} {m : Nat} (h : m < l.length) : cf l m ∈ l := by
  unfold cf
  rw [List.getD_eq_getElem?_getD, List.getElem?_eq_getElem h]
  exact List.getElem_mem h
theorem drop_zeros : ∀ l : List Int, (∀ x, x ∈ l → x = 0) → l.dropWhile (· == 0) = []
  | [], _ => rfl
  | c :: l, h => by
    have e : c = 0 := h c List.mem_cons_self
    subst e
    rw [List.dropWhile_cons, if_pos (show ((0 : Int) == 0) = true from rfl)]
    exact drop_zeros l fun x hx => h x (List.mem_cons_of_mem _ hx)
theorem trim_zeros {l : List Int} (h : ∀ x, x ∈ l → x = 0) : trim l = [] := by
  unfold trim
  rw [drop_zeros _ fun x hx => h x (List.mem_reverse.mp hx)]
  rfl
theorem mulL_nil {p : Int} {a b : List Int} (h : a = [] ∨ b = []) : trim (mulL p a b) = [] := by
  refine trim_zeros fun x hx => ?_
  unfold mulL at hx
  obtain ⟨m, _, rfl⟩ := List.mem_map.mp hx
  have e : convS a b m = 0 := by
    unfold convS
    rcases h with rfl | rfl
    · rfl
    · refine sumF_zero fun j _ => ?_
      rw [cf_ge (l := []) (Nat.zero_le _), Int.mul_zero, ite_self]
  rw [e]
  exact Int.zero_emod _
/-- what i rows, and k of the next one, have given at m -/
def gS (a b : List Int) (i m : Nat) : Int := sumF i (fun j => if j ≤ m then cf a j * cf b (m - j) else 0)
def gK (a b : List Int) (i k m : Nat) : Int := gS a b i m + (if i ≤ m ∧ m - i < k then cf a i * cf b (m - i) else 0)
theorem gK_zero (a b : List Int) (i m : Nat) : gK a b i 0 m = gS a b i m := by
  unfold gK
  rw [if_neg (by omega), Int.add_zero]
theorem gK_all (a b : List Int) (i m : Nat) : gK a b i b.length m = gS a b (i + 1) m := by
  show gS a b i m + _ = gS a b i m + (if i ≤ m then cf a i * cf b (m - i) else 0)
  by_cases h : i ≤ m
  · by_cases h2 : m - i < b.length
    · rw [if_pos ⟨h, h2⟩, if_pos h]
    · rw [if_neg (by omega), if_pos h, cf_ge (l := b) (by omega), Int.mul_zero]
  · rw [if_neg (by omega), if_neg h]
theorem gK_same (a b : List Int) (i k m : Nat) (h : m ≠ i + k) : gK a b i (k + 1) m = gK a b i k m := by
  unfold gK
  by_cases h1 : i ≤ m ∧ m - i < k
  · rw [if_pos h1, if_pos (by omega)]
  · rw [if_neg h1, if_neg (by omega)]
theorem gK_here (a b : List Int) (i k : Nat) : gK a b i (k + 1) (i + k) = gK a b i k (i + k) + cf a i * cf b k := by
  unfold gK
  rw [if_pos (by omega), if_neg (by omega), Int.add_zero, Nat.add_sub_cancel_left]
theorem horn_bd {p : Int} (h : 0 < p) (t : Int) : ∀ l : List Int, 0 ≤ horn p t l ∧ horn p t l < p
  | [] => ⟨Int.le_refl _, h⟩
  | c :: l => ⟨Int.emod_nonneg _ (by omega), Int.emod_lt_of_pos _ h⟩
theorem wp_ok (N : Nw) (l0 i0 k0 l i k : Nat) : Sm (wpM N l0 i0 k0 l i k) ∧ (wpM N l0 i0 k0 l i k).length ≤ 2 := by
  have hp := N.hp
  have hW := N.hW l i k
  unfold wpM
  split
  · refine ⟨sm_trim fun y hy => ?_, Nat.le_trans (trim_len _) (by show 2 ≤ 2; omega)⟩
    rcases List.mem_cons.mp hy with rfl | hy
    · omega
    · rw [List.mem_singleton.mp hy]; omega
  · refine ⟨sm_trim fun y hy => ?_, Nat.le_trans (trim_len _) (by show 1 ≤ 2; omega)⟩
    rw [List.mem_singleton.mp hy]
    exact sm_mod hp.1 hp.2
theorem ex_len {p : Int} (o : Nat → List Int) (t : Nat → Int) (tot : List Int) (h0 : tot.length ≤ 29) (ho : ∀ k, (o k).length ≤ 15) : ∀ k, (exP p o t tot k).length ≤ 29
  | 0 => h0
  | k + 1 => by
    have ih := ex_len (p := p) o t tot h0 ho k
    show (trim (addL p (exP p o t tot k) (trim (mulL p (trim (addL p (o k) (trim [(-t k) % p]))) (trim (addL p (o k) (trim [(-t k) % p]))))))).length ≤ 29
    have a := trim_len (addL p (exP p o t tot k) (trim (mulL p (trim (addL p (o k) (trim [(-t k) % p]))) (trim (addL p (o k) (trim [(-t k) % p]))))))
    have b := trim_len (mulL p (trim (addL p (o k) (trim [(-t k) % p]))) (trim (addL p (o k) (trim [(-t k) % p]))))
    have c := trim_len (addL p (o k) (trim [(-t k) % p]))
    have d := trim_len [(-t k) % p]
    rw [addL_len] at a c
    rw [mulL_len] at b
    simp only [List.length_singleton] at d
    have e := ho k
    omega
theorem eqv3 (a b c d e f : Nat) : PyData.eqv (.tuple [.int a, .int b, .int c]) (.tuple [.int d, .int e, .int f]) = decide (a = d ∧ b = e ∧ c = f) := by
  simp only [PyData.eqv, PyData.eqvAll]
  rw [Bool.eq_iff_iff]
  simp only [Bool.and_eq_true, beq_iff_eq, decide_eq_true_eq, Int.natCast_inj, and_true]
theorem shaped3 (a b c : Int) : SeqAt.shaped (.tuple [.int a, .int b, .int c]) = true := by rfl
theorem lex_len {p : Int} (o : Nat → List Int) (t : Nat → Int) (tot : List Int) (h0 : tot.length ≤ 29) (ho : ∀ k, (o k).length ≤ 15) : ∀ k, (lexP p o t tot k).length ≤ 29
  | 0 => h0
  | k + 1 => by
    have a := lex_len o t tot h0 ho k (p := p)
    show (addL p (lexP p o t tot k) (mulL p (addL p (o k) [0 - t k]) (addL p (o k) [0 - t k]))).length ≤ 29
    rw [addL_len, mulL_len, addL_len, List.length_singleton]
    have e := ho k
    omega
/-- what the plain mathematics says of a net, a batch and a place -/
structure Plain (N : Nw) (B : Bt N) (l0 i0 k0 : Nat) : Prop where
  same : lpM N B l0 i0 k0 = llM N B l0 i0 k0
  len : (llM N B l0 i0 k0).length ≤ 100
  lo : ∀ x, x ∈ llM N B l0 i0 k0 → 0 ≤ x ∧ x < 97
  at0 : lossM N B = horn N.p 0 (llM N B l0 i0 k0)
  att : ∀ t, 0 ≤ t → t < N.p → lossM (withN N l0 i0 k0 t) B = horn N.p t (llM N B l0 i0 k0)
  slope : sumF B.b (fun q => psM N (B.x q) (B.t q) (B.m q) l0 i0 k0) % N.p = cf (llM N B l0 i0 k0) 1
/-! ### the texts of lists of small numbers fit -/
def smallB (n : Nat) : Bool := decide (n.log2 < 1920) && decide ((PyData.shown (.int (n : Int))).length ≤ 13) && decide (PyData.weight (.int (n : Int)) ≤ 20)
theorem smallB_all : (List.range 97).all smallB = true := by decide +kernel
theorem ints_fit : ∀ ns : List Int, (∀ x, x ∈ ns → 0 ≤ x ∧ x < 97) → PyData.showableAll (ns.map PyData.int) = true ∧ PyData.hasDictAll (ns.map PyData.int) = false ∧ PyData.depthAll (ns.map PyData.int) = 0 ∧ PyData.leavesShortAll 13 (ns.map PyData.int) = true ∧ PyData.weightAll (ns.map PyData.int) ≤ 21 * ns.length
  | [], _ => ⟨rfl, rfl, rfl, rfl, Nat.zero_le _⟩
  | n :: ns, h => by
    obtain ⟨h1, h2, h3, h4, h5⟩ := ints_fit ns fun x hx => h x (List.mem_cons_of_mem _ hx)
    have hn := h n List.mem_cons_self
    have z := List.all_eq_true.mp smallB_all n.toNat (List.mem_range.mpr (by omega))
    unfold smallB at z
    simp only [Bool.and_eq_true, decide_eq_true_eq] at z
    rw [Int.toNat_of_nonneg hn.1] at z
    obtain ⟨⟨z1, z2⟩, z3⟩ := z
    have e : n.natAbs = n.toNat := by omega
    refine ⟨?_, ?_, ?_, ?_, ?_⟩
    · show (decide (n.natAbs.log2 < 1920) && _) = true
      rw [h1, e, decide_eq_true z1]
      rfl
    · show (false || _) = false
      rw [h2]
      rfl
    · show max 0 _ = 0
      rw [h3]
      rfl
    · show (decide _ && _) = true
      rw [h4, decide_eq_true z2]
      rfl
    · show PyData.weight (.int n) + 1 + _ ≤ _
      rw [List.length_cons]
      have : PyData.weight (.int n) ≤ 20 := z3
      have h5' : PyData.weightAll (List.map PyData.int ns) ≤ 21 * ns.length := h5
      omega
theorem repr_fit {ns : List Int} (hl : ns.length ≤ 100) (h : ∀ x, x ∈ ns → 0 ≤ x ∧ x < 97) : PyData.showable (intsD ns) = true ∧ (intsD ns).hasDict = false ∧ (intsD ns).depth ≤ 60 ∧ (intsD ns).shown.length ≤ sizeLine := by
  obtain ⟨h1, h2, h3, h4, h5⟩ := ints_fit ns h
  refine ⟨h1, h2, ?_, ?_⟩
  · show PyData.depthAll _ + 1 ≤ 60
    rw [h3]
    decide
  · have z := PyData.shown_le 13 (by decide) (intsD ns) h4
    have w : (intsD ns).weight ≤ 2100 := Nat.le_trans h5 (by omega)
    rw [sizeLine_eq]
    omega
theorem HandAt.ints {H : Hp} {h a d : Addr} {l : List Int} (x : HandAt H h a) (e : H d = some (.lst (l.map V.int))) : d ≠ h := by
  obtain ⟨k, ds, h1, _, _⟩ := x
  intro z
  rw [z, h1] at e
  cases l with
  | nil => cases e
  | cons c r => cases e
theorem HandAt.net {H H' : Hp} {h a C : Addr} {N : Nw} {v : V} (x : HandAt H h a) (n : NetAt C N H v) (k : KH h H H') : NetAt C N H' v := by
  obtain ⟨b, dx, fs, wa, ka, e, h1, h2, h3, h4, h5, h6⟩ := n
  have ts := kh_ts x k
  refine ⟨b, dx, fs, wa, ka, e, k _ _ (fun z => ?_) h1, h2, h3, mats_mono h4 ts, h5, h6.mono ts fun _ _ q => q⟩
  obtain ⟨l, q⟩ := x.is
  rw [z, q] at h1
  cases h1
theorem cut_two (us : List V) : cutV us none (some 2) = us.take 2 := by
  unfold cutV
  rw [HT.sIx_none]
  have e : HT.sIx us.length us.length (some 2) = min 2 us.length := by
    unfold HT.sIx
    simp
  rw [e, List.drop_zero, Nat.sub_zero]
  rcases Nat.le_total 2 us.length with h | h
  · rw [Nat.min_eq_left h]
  · rw [Nat.min_eq_right h, List.take_of_length_le (Nat.le_refl _), List.take_of_length_le h]
theorem take_at {α : Type} {us : List α} {n q : Nat} {u : α} (e : (us.take n)[q]? = some u) : us[q]? = some u := by
  rw [List.getElem?_take] at e
  split at e
  · exact e
  · cases e
theorem small_log {i p : Int} (h : 0 ≤ i ∧ i < p) (hp : p ≤ 97) : i.natAbs.log2 < 1920 := by
  have z := List.all_eq_true.mp smallB_all i.natAbs (List.mem_range.mpr (by omega))
  unfold smallB at z
  simp only [Bool.and_eq_true, decide_eq_true_eq] at z
  exact z.1.1
theorem loss_bd (N : Nw) {N0 : Nw} (B : Bt N0) : 0 ≤ lossM N B ∧ lossM N B < N.p := by
  have hp := N.hp
  exact ⟨Int.emod_nonneg _ (by omega), Int.emod_lt_of_pos _ (by omega)⟩
theorem ne_same (t : Str) : (!decide (V.str t = V.str t)) = false := by simp
end K55

namespace K55
open PySem PySem.Spec PyProof.Rows L2
section
variable {P : Program} {w : World} {K : PySem.W.Frag} {mg : Str → Option Value} {base : Heap} {C : Addr}

theorem scBetween : FnScope ["value", "least", "most"] ["value", "least", "most"] (defScope sBetween) := ⟨rfl, rfl, rfl, by decide +kernel, rfl, by decide +kernel, by decide +kernel⟩
theorem ok_Between {f : Addr} {fd : FuncData} (F : Fun K "is_between" "is_between" sBetween f fd) (T : Txt K mg C) : FnOk P w K mg base CX0 1 f fd ["value", "least", "most"] (spBetween) := by
  refine F.ok scBetween (fun vs H Q E h => ?_) (fun cdv A outer s H vs Q E hr h => ?_)
  · obtain ⟨a, b, c, rfl, _⟩ := h
    rfl
  · obtain ⟨a, b, c, rfl, q⟩ := h
    refine ⟨_, (
      pss_one (ps_ret (pe_and (pe_callB call_isi (by rfl) T.isi boot_isinstance (pa_cons (pv 0) (pa_cons (pe_bltn (v := .ty "int") (by rfl) T.int (by decide +kernel) rfl) pa_nil))) (pe_and (pe_not (pe_callB call_isi (by rfl) T.isi boot_isinstance (pa_cons (pv 0) (pa_cons (pe_bltn (v := .ty "bool") (by rfl) T.bool (by decide +kernel) rfl) pa_nil)))) (pe_one (pe_chain op_le op_le (pv 1) (pv 0) (pv 2))))))), ?_⟩
    -- 0:value 1:least 2:most
    refine ⟨_, rfl, .int a, .ty "int", .type "int", .type "int", true, rfl, .ty _, .base (.int a), kit_ty (by decide +kernel), true, rfl, iteT ?_⟩
    refine ⟨_, rfl, .int a, .ty "bool", .type "int", .type "bool", false, rfl, .ty _, .base (.int a), kit_ty (by decide +kernel), false, rfl, true, rfl, iteT ?_⟩
    refine ⟨_, rfl, _, rfl, b, a, rfl, rfl, _, rfl, ?_⟩
    by_cases h1 : b ≤ a
    · rw [decide_eq_true h1]
      refine iteT ⟨_, rfl, a, c, rfl, rfl, ?_⟩
      have e : decide (b ≤ a ∧ a ≤ c) = decide (a ≤ c) := by simp [h1]
      rw [e] at q
      exact q
    · rw [decide_eq_false h1]
      have e : decide (b ≤ a ∧ a ≤ c) = false := by simp [h1]
      rw [e] at q
      exact iteF q

theorem scPrime : FnScope ["value", "divisor"] ["value"] (defScope sPrime) := ⟨rfl, rfl, rfl, by decide +kernel, rfl, by decide +kernel, by decide +kernel⟩
theorem ok_Prime {f : Addr} {fd : FuncData} (F : Fun K "is_prime" "is_prime" sPrime f fd) (T : Txt K mg C) (cB : Cal P w K mg base "is_between" 1 ["value", "least", "most"] spBetween) : FnOk P w K mg base CX0 2 f fd ["value"] (spPrime) := by
  obtain ⟨fB, fdB, GB, gB, kB, bB⟩ := cB.ex
  obtain ⟨tm, hmost⟩ := T.most
  refine F.ok scPrime (fun vs H Q E h => ?_) (fun cdv A outer s H vs Q E hr h => ?_)
  · obtain ⟨p, rfl, _⟩ := h
    rfl
  · obtain ⟨p, rfl, p2, p97, pr, q⟩ := h
    have hrB : Room 1 _ := hr.mono (by decide)
    refine ⟨_, (pss_cons (ps_if (pt_not (pt_val (pe_call GB hrB (by rfl) gB kB bB .nil pass0 (pa_cons (pv 0) (pa_cons pe_int (pa_cons (pe_glob (v := .int 97) (by rfl) hmost ⟨_, rfl⟩) pa_nil)))))) (
        pss_one (ps_ret pe_bl)) pss_nil)
      (pss_cons (ps_for PassesOwn.never rfl (pi_range2 (by rfl) T.range (pa_cons pe_int (pa_cons (pv 0) pa_nil))) (gn 1 scPrime.nd) (
        pss_one (ps_if (pt_cmpR op_eq (pe_op op_mod (pv 0) (pv 1)) pe_int (nomark _)) (
          pss_one (ps_ret pe_bl)) pss_nil)))
      (pss_one (ps_ret pe_bl)))), ?_⟩
    -- 0:value 1:divisor
    refine ⟨_, rfl, p, 2, 97, rfl, true, by rw [decide_eq_true (show (2 : Int) ≤ p ∧ p ≤ 97 from ⟨p2, p97⟩)], iteF ?_⟩
    refine ⟨_, rfl, 2, p, rfl, ⟨by decide, by decide, by omega, by omega⟩, for_range (lo := 2) (n := (p - 2).toNat) (fun i σ H' => ∃ v, σ = [some (.int p), v] ∧ H' = H) ⟨none, rfl, rfl⟩ ?_ ?_⟩
    · rintro i σ H' hi ⟨v, rfl, rfl⟩
      have hd := pr (2 + (i : Int)) (by omega) (by omega)
      refine ⟨_, rfl, _, rfl, _, _, rfl, rfl, (by show (0 : Int) < 2 + (i : Int); omega), rfl, _, rfl, ?_⟩
      have e : decide (V.int (p % (2 + (i : Int))) = V.int 0) = false := decide_eq_false fun z => hd (V.int.inj z)
      rw [e]
      exact iteF ⟨_, rfl, rfl⟩
    · rintro σ H' ⟨v, rfl, rfl⟩
      exact q

theorem scMatrix : FnScope ["rows", "row"] ["rows"] (defScope sMatrix) := ⟨rfl, rfl, rfl, by decide +kernel, rfl, by decide +kernel, by decide +kernel⟩
theorem ok_Matrix {f : Addr} {fd : FuncData} (F : Fun K "as_matrix" "as_matrix" sMatrix f fd) (T : Txt K mg C) : FnOk P w K mg base CX0 1 f fd ["rows"] (spMatrix) := by
  refine F.ok scMatrix (fun vs H Q E h => ?_) (fun cdv A outer s H vs Q E hr h => ?_)
  · obtain ⟨n, W, rv, rfl, _⟩ := h
    rfl
  · obtain ⟨n, W, rv, rfl, hn, hM, q⟩ := h
    refine ⟨_, (
      pss_one (ps_ret (pe_callTy (tupK K) (by rfl) T.tuple boot_tuple (pa_cons (pe_lc (own := [("row", 1)]) (g := (gName 1)) (tt := tYes) rfl scMatrix.nd (seqK K (pv 0)) (blkOk_by (by kernel_rfl)) (fun _ _ _ _ _ => (gn 1 scMatrix.nd)) (fun _ _ _ _ _ => pts_nil) (fun _ _ _ _ _ => (pe_callTy (tupK K) (by rfl) T.tuple boot_tuple (pa_cons (pv 1) pa_nil)))) pa_nil)))), ?_⟩
    -- 0:rows 1:row
    obtain ⟨a, vs, rfl, h1, h2, h3⟩ := hM
    obtain ⟨k, hk⟩ := sqB_of (K := K) h1
    refine ⟨_, rfl, k, a, vs, rfl, hk, fun D hD => ?_⟩
    refine lc_pure (wSeq h2) (fun H' i u => Vec n (W i) H' u) hD (by omega) (fun H1 H2 j v t p => vec_mono p t) (fun H' s => sqB_same hk s) (fun i u H1 H2 Z hi s1 hy hz => ?_) fun H1 us s1 g1 g2 g3 => ?_
    · obtain ⟨rfl, eu⟩ := hy
      obtain ⟨b, xs, rfl, b1, b2, b3⟩ := h3 i u eu
      refine ⟨rfl, _, rfl, b, xs, rfl, ?_⟩
      rcases b1 with b1 | b1
      · exact .inl ⟨SqL.of (s1 _ _ b1), fun l hl => hz _ _ (same_new hl) (tup_of upd_same b2 b3)⟩
      · exact .inr ⟨SqT.of (s1 _ _ b1), hz _ _ (Same.refl _) (tup_of (s1 _ _ b1) b2 b3)⟩
    · exact ⟨D, us, rfl, .inl ⟨SqL.of g1, fun l hl => q _ _ (s1.trans (same_new hl)) (tup_of upd_same g2 fun j v e => vec_mono (g3 j v e) (ts_new hl))⟩⟩

theorem scInit : FnScope ["self", "prime", "weights", "kinds", "matrix"] ["self", "prime", "weights", "kinds"] (defScope sInit) := ⟨rfl, rfl, rfl, by decide +kernel, rfl, by decide +kernel, by decide +kernel⟩
theorem ok_Init {f : Addr} {fd : FuncData} (F : Fun K "__init__" "Net.__init__" sInit f fd) (T : Txt K mg C) (cP : Cal P w K mg base "is_prime" 2 ["value"] spPrime) (cM : Cal P w K mg base "as_matrix" 1 ["rows"] spMatrix) : FnOk P w K mg base CX0 3 f fd ["self", "prime", "weights", "kinds"] (spInit C) := by
  obtain ⟨fP, fdP, GP, gP, kP, bP⟩ := cP.ex
  obtain ⟨fM, fdM, GM, gM, kM, bM⟩ := cM.ex
  refine F.ok scInit (fun vs H Q E h => ?_) (fun cdv A outer s H vs Q E hr h => ?_)
  · obtain ⟨N, a, dx, wv, kv, rfl, _⟩ := h
    rfl
  · obtain ⟨N, a, dx, wv, kv, rfl, ha, hW, hk, q⟩ := h
    have hrP : Room 2 _ := hr.mono (by decide)
    have hrM : Room 1 _ := hr.mono (by decide)
    refine ⟨_, (pss_cons (ps_if (pt_not (pt_val (pe_call GP hrP (by rfl) gP kP bP .nil pass0 (pa_cons (pv 1) pa_nil)))) (
        pss_one ps_never) pss_nil)
      (pss_cons (ps_fld (pv 0) (pv 1) rfl)
      (pss_cons (ps_fld (pv 0) (pe_callTy (tupK K) (by rfl) T.tuple boot_tuple (pa_cons (pe_lc (own := [("matrix", 4)]) (g := (gName 4)) (tt := tYes) rfl scInit.nd (seqK K (pv 2)) (blkOk_by (by kernel_rfl)) (fun _ _ _ _ _ => (gn 4 scInit.nd)) (fun _ _ _ _ _ => pts_nil) (fun _ _ _ _ _ => (pe_call GM hrM (by rfl) gM kM bM .nil pass0 (pa_cons (pv 4) pa_nil)))) pa_nil)) rfl)
      (pss_one (ps_fld (pv 0) (pe_callTy (tupK K) (by rfl) T.tuple boot_tuple (pa_cons (pv 3) pa_nil)) rfl))))), ?_⟩
    -- 0:self 1:prime 2:weights 3:kinds 4:matrix
    refine ⟨_, rfl, N.p, rfl, N.hp.1, N.hp.2, N.pr, true, rfl, iteF ?_⟩
    obtain ⟨wA, wvs, rfl, w1, w2, w3⟩ := hW
    obtain ⟨kA, kvs, rfl, k1, k2, k3⟩ := hk
    refine ⟨_, rfl, _, rfl, a, C, dx, [], rfl, ha, T.cl, T.nP, (by show 0 < 1000; decide), ?_⟩
    -- self.weights
    have nwa : wA ≠ a := fun z => by
      subst z
      rw [ha] at w1
      rcases w1 with w1 | w1 <;> cases w1
    have w1' : ∀ o, (upd H a o) wA = some (.lst wvs) ∨ (upd H a o) wA = some (.tup wvs) := fun o => by rw [upd_ne nwa]; exact w1
    obtain ⟨k, hkk⟩ := sqB_of (K := K) (w1' (.ins C dx (putF "prime" (.int N.p) [])))
    have nins : ∀ b o, (∀ C' d' f', o ≠ HO.ins C' d' f') → H b = some o → b ≠ a := fun b o ho hb z => by
      rw [z, ha] at hb
      cases hb
      exact ho _ _ _ rfl
    refine ⟨_, rfl, k, wA, wvs, rfl, hkk, fun D hD => ?_⟩
    refine lc_pure (wSeq w2) (fun H' l u => Mat N.w (N.W l) H' u) hD (by have := N.hn; omega) (fun H1 H2 j v t p => mat_mono p t) (fun H' s => sqB_same hkk s) (fun l u H1 H2 Z hi s1 hy hz => ?_) fun H1 us s1 g1 g2 g3 => ?_
    · obtain ⟨rfl, eu⟩ := hy
      have hm := w3 l u eu
      refine ⟨rfl, _, rfl, N.w, N.W l, u, rfl, N.hw.2, ?_, fun H' v s p => hz _ _ s p⟩
      obtain ⟨b, xs, rfl, b1, b2, b3⟩ := hm
      have cp : ∀ b' o, (∀ C' d' f', o ≠ HO.ins C' d' f') → H b' = some o → H2 b' = some o := fun b' o ho hb => s1 _ _ (by rw [upd_ne (nins b' o ho hb)]; exact hb)
      refine ⟨b, xs, rfl, b1.imp (cp _ _ (by intro _ _ _ z; cases z)) (cp _ _ (by intro _ _ _ z; cases z)), b2, fun i u2 e2 => ?_⟩
      obtain ⟨b', xs', rfl, c1, c2, c3⟩ := b3 i u2 e2
      exact ⟨b', xs', rfl, c1.imp (cp _ _ (by intro _ _ _ z; cases z)) (cp _ _ (by intro _ _ _ z; cases z)), c2, c3⟩
    · refine ⟨D, us, rfl, .inl ⟨SqL.of g1, fun l hl => ?_⟩⟩
      have ha1 : H1 a = some (.ins C dx (putF "prime" (.int N.p) [])) := s1 _ _ upd_same
      have nal : a ≠ l := ne_of_none ha1 hl
      refine ⟨_, rfl, a, C, dx, _, rfl, (by rw [upd_ne nal]; exact ha1), T.cl, T.nW, (by show 1 < 1000; decide), ?_⟩
      have hk1 : ∀ o o', (upd (upd H1 l o) a o') kA = some (.tup kvs) := fun o o' => by
        have e1 : H1 kA = some (.tup kvs) := s1 _ _ (by rw [upd_ne (nins kA _ (by intro _ _ _ z; cases z) k1)]; exact k1)
        rw [upd_ne (nins kA _ (by intro _ _ _ z; cases z) k1), upd_ne (ne_of_none e1 hl)]
        exact e1
      refine ⟨_, rfl, kA, kvs, rfl, .inr ⟨SqT.of (hk1 _ _), ?_⟩⟩
      refine ⟨_, rfl, a, C, dx, _, rfl, upd_same, T.cl, T.nK, (by show 2 < 1000; decide), ?_⟩
      refine q _ (fun b o nb hb => ?_) ?_
      · have e1 : H1 b = some o := s1 _ _ (by rw [upd_ne nb]; exact hb)
        rw [upd_ne nb, upd_ne nb, upd_ne (ne_of_none e1 hl)]
        exact e1
      · have nla : l ≠ a := nal.symm
        refine ⟨a, dx, _, .ref l, .ref kA, rfl, upd_same, by rw [lookup_putF, if_neg (by decide +kernel), lookup_putF, if_neg (by decide +kernel), lookup_putF, if_pos rfl], by rw [lookup_putF, if_neg (by decide +kernel), lookup_putF, if_pos rfl], ?_, by rw [lookup_putF, if_pos rfl], ?_⟩
        · refine ⟨l, us, rfl, (by rw [upd_ne nla, upd_ne nla, upd_same]), g2, fun j v e => mat_mono (g3 j v e) fun b xs hb => ?_⟩
          have nb : b ≠ a := fun z => by rw [z, ha1] at hb; cases hb
          rw [upd_ne nb, upd_ne nb, upd_ne (ne_of_none hb hl)]
          exact hb
        · exact ⟨kA, kvs, rfl, (by rw [upd_ne (nins kA _ (by intro _ _ _ z; cases z) k1)]; exact hk1 _ _), k2, k3⟩

theorem scLen : FnScope ["self"] ["self"] (defScope sLen) := ⟨rfl, rfl, rfl, by decide +kernel, rfl, by decide +kernel, by decide +kernel⟩
theorem ok_Len {f : Addr} {fd : FuncData} (F : Fun K "__len__" "Net.__len__" sLen f fd) (T : Txt K mg C) : FnOk P w K mg base CX0 1 f fd ["self"] (spLen C) := by
  refine F.ok scLen (fun vs H Q E h => ?_) (fun cdv A outer s H vs Q E hr h => ?_)
  · obtain ⟨N, nv, rfl, _⟩ := h
    rfl
  · obtain ⟨N, nv, rfl, hN, q⟩ := h
    refine ⟨_, (
      pss_one (ps_ret (pe_callB (lenK K) (by rfl) T.len PySem.boot_len (pa_cons (fldK K (pv 0)) pa_nil)))), ?_⟩
    -- 0:self
    obtain ⟨a, dx, fs, wa, ka, rfl, hA, lp, lw, hW, lk, hK⟩ := hN
    obtain ⟨wA, wvs, rfl, hw1, hw2, hw3⟩ := hW
    refine ⟨_, rfl, a, C, dx, fs, _, rfl, hA, T.cl, T.nW, lw, wA, wvs, rfl, .inr (SqT.of hw1), ?_⟩
    rw [hw2]
    exact q

theorem scProduct : FnScope ["net", "layer", "vector", "weight", "number", "row"] ["net", "layer", "vector"] (defScope sProduct) := ⟨rfl, rfl, rfl, by decide +kernel, rfl, by decide +kernel, by decide +kernel⟩
theorem ok_Product {f : Addr} {fd : FuncData} (F : Fun K "product" "product" sProduct f fd) (T : Txt K mg C) : FnOk P w K mg base CX0 1 f fd ["net", "layer", "vector"] (spProduct C) := by
  refine F.ok scProduct (fun vs H Q E h => ?_) (fun cdv A outer s H vs Q E hr h => ?_)
  · obtain ⟨N, nv, xv, l, x, rfl, _⟩ := h
    rfl
  · obtain ⟨N, nv, xv, l, x, rfl, hN, hl, hx, q⟩ := h
    refine ⟨_, (
      pss_one (ps_ret (pe_lc (own := [("row", 5)]) (g := (gName 5)) (tt := tYes) rfl scProduct.nd (tupI K (pe_ix (ixT K) (fldK K (pv 0)) (pv 1) (fun _ _ => rfl))) (blkOk_by (by kernel_rfl)) (fun _ _ _ _ _ => (gn 5 scProduct.nd)) (fun _ _ _ _ _ => pts_nil) (fun _ _ _ _ _ => (pe_op op_mod (pe_callB (sumK K) (by rfl) T.sum boot_sum (pa_cons (pe_lc (own := [("weight", 3), ("number", 4)]) (g := (gTup K 2 (gCons (gName 3) (gCons (gName 4) gNil)))) (tt := tYes) rfl scProduct.nd (zipK K (by rfl) T.zip (pa_cons (pv 5) (pa_cons (pv 2) pa_nil))) (blkOk_by (by kernel_rfl)) (fun _ _ _ _ _ => (gtupK K (pgs_cons (gn 3 scProduct.nd) (pgs_cons (gn 4 scProduct.nd) pgs_nil)))) (fun _ _ _ _ _ => pts_nil) (fun _ _ _ _ _ => (pe_op op_mul (pv 3) (pv 4)))) pa_nil)) (fldK K (pv 0))))))), ?_⟩
    -- 0:net 1:layer 2:vector 3:weight 4:number 5:row
    obtain ⟨na, dx, fs, wa, ka, rfl, hA, lp, lw, hW, lk, hK⟩ := id hN
    obtain ⟨wA, wvs, rfl, hw1, hw2, hw3⟩ := hW
    obtain ⟨mv, em⟩ := at_lt hw2 hl
    obtain ⟨mA, mvs, rfl, hm1, hm2, hm3⟩ := hw3 l mv em
    obtain ⟨xA, xvs, rfl, hx1, hx2, hx3⟩ := id hx
    refine ⟨_, rfl, na, C, dx, fs, _, rfl, hA, T.cl, T.nW, lw, _, rfl, wA, wvs, l, _, rfl, rfl, SqT.of hw1, atI_nat em, mA, rfl, ⟨_, SqT.of hm1⟩, fun D hD => ?_⟩
    refine lc_pure (wTup hm2) (fun _ j v => v = V.int (prodM N l x j)) hD (by have := N.hw; omega) (fun _ _ _ _ _ p => p) (fun H' s => seqT_of hm1 (same_ts s)) (fun i u H1 H2 Z hi s1 hy hz => ?_) fun H1 us s1 h1 h2 h3 => q H1 _ s1 (lst_of h1 h2 h3)
    obtain ⟨rfl, eu⟩ := hy
    obtain ⟨rA, rvs, rfl, hr1, hr2, hr3⟩ := hm3 i u eu
    refine ⟨rfl, _, rfl, _, rfl, true, true, rA, xA, rvs, xvs, rfl, SqT.of (s1 _ _ hr1), SqT.of (s1 _ _ hx1), fun D2 hD2 => ?_⟩
    refine lc_zip hr2 hx2 (fun _ j v => v = V.int (N.W l i j * x j)) hD2 (by have := N.hw; omega) (fun _ _ _ _ _ p => p) (SqT.of (s1 _ _ hr1)) (SqT.of (s1 _ _ hx1)) (fun m y1 y2 H3 H4 Z' hm s3 s4 e1 e2 hz' => ?_) fun H3 us s3 h1 h2 h3 => ?_
    · have e1' := hr3 m y1 e1
      have e2' := hx3 m y2 e2
      have b := N.hW l i m
      have bp := N.hp
      exact ⟨rfl, _, rfl, _, rfl, _, _, e1', e2', .inl (small64 (by omega) (by omega)), hz' _ _ (Same.refl _) rfl⟩
    · refine ⟨D2, _, rfl, ints_sq h1 h2 h3, ?_⟩
      rw [sum_by]
      exact ⟨_, rfl, na, C, dx, fs, _, rfl, s3 _ _ (s1 _ _ hA), T.cl, T.nP, lp, _, _, rfl, rfl, (by have := N.hp; omega), hz _ _ s3 rfl⟩

theorem scLayF : FnScope ["net", "layer", "vector", "made", "number"] ["net", "layer", "vector"] (defScope sLayF) := ⟨rfl, rfl, rfl, by decide +kernel, rfl, by decide +kernel, by decide +kernel⟩
theorem ok_LayF {f : Addr} {fd : FuncData} (F : Fun K "layer_forward" "layer_forward" sLayF f fd) (T : Txt K mg C) (cP : Cal P w K mg base "product" 1 ["net", "layer", "vector"] (spProduct C)) : FnOk P w K mg base CX0 2 f fd ["net", "layer", "vector"] (spLayF C) := by
  obtain ⟨fP, fdP, GP, gP, kP, bP⟩ := cP.ex
  refine F.ok scLayF (fun vs H Q E h => ?_) (fun cdv A outer s H vs Q E hr h => ?_)
  · obtain ⟨N, nv, xv, l, x, rfl, _⟩ := h
    rfl
  · obtain ⟨N, nv, xv, l, x, rfl, hN, hl, hx, q⟩ := h
    have hrP : Room 1 _ := hr.mono (by decide)
    refine ⟨_, (pss_cons (st 3 scLayF.nd (pe_call GP hrP (by rfl) gP kP bP .nil pass0 (pa_cons (pv 0) (pa_cons (pv 1) (pa_cons (pv 2) pa_nil)))))
      (pss_cons (ps_if (pt_cmpR op_eq (pe_ix (ixT K) (fldK K (pv 0)) (pv 1) (fun _ _ => rfl)) pe_str (nomark _)) (
        pss_one (ps_setLc (i := 3) (own := [("number", 4)]) (g := (gName 4)) (tt := tYes) rfl scLayF.nd rfl rfl (sw_true rfl rfl rfl (by decide +kernel)) (lstI K (pv 3)) (blkOk_by (by kernel_rfl)) (fun _ _ _ _ _ => (gn 4 scLayF.nd)) (fun _ _ _ _ _ => pts_nil) (fun _ _ _ _ _ => (pe_op op_mod (pe_op op_mul (pv 4) (pv 4)) (fldK K (pv 0)))))) pss_nil)
      (pss_one (ps_ret (pe_callTy (tupK K) (by rfl) T.tuple boot_tuple (pa_cons (pv 3) pa_nil)))))), ?_⟩
    -- 0:net 1:layer 2:vector 3:made 4:number
    obtain ⟨na, dx, fs, wa, ka, rfl, hA, lp, lw, hW, lk, hK⟩ := id hN
    obtain ⟨kA, kvs, rfl, k1, k2, k3⟩ := hK
    obtain ⟨kv, ek⟩ := at_lt k2 hl
    obtain rfl := k3 l kv ek
    refine ⟨_, rfl, _, rfl, _, rfl, N, _, xv, l, x, rfl, hN, hl, hx, fun H1 v s1 hv => ?_⟩
    obtain ⟨mA, mvs, rfl, _, m1, m2, m3⟩ := hv
    refine ⟨_, rfl, na, C, dx, fs, _, rfl, s1 _ _ hA, T.cl, T.nK, lk, _, rfl, kA, kvs, l, _, rfl, rfl, SqT.of (s1 _ _ k1), atI_nat ek, rfl, _, rfl, ?_⟩
    rw [kStr_sq]
    cases hk : N.k l with
    | true =>
      refine iteT ⟨_, rfl, mA, rfl, ⟨_, SqL.of m1⟩, fun D hD => ?_⟩
      refine lc_pure (wLst m2) (fun _ j v => v = V.int (layM N l x j)) hD (by have := N.hw; omega) (fun _ _ _ _ _ p => p) (fun H' s => seqL_of m1 s) (fun i u H2 H3 Z hi s2 hy hz => ?_) fun H2 us s2 h1 h2 h3 => ?_
      · obtain ⟨rfl, eu⟩ := hy
        obtain rfl := m3 i u eu
        have hp := N.hp
        have b1 := Int.emod_nonneg (sumF N.w fun k => N.W l i k * x k) (show N.p ≠ 0 by omega)
        have b2 := Int.emod_lt_of_pos (sumF N.w fun k => N.W l i k * x k) (show 0 < N.p by omega)
        refine ⟨rfl, _, rfl, _, rfl, _, _, rfl, rfl, .inl (small64 (show _ ≤ prodM N l x i by unfold prodM; omega) (show prodM N l x i ≤ _ by unfold prodM; omega)), _, rfl, na, C, dx, fs, _, rfl, s2 _ _ (s1 _ _ hA), T.cl, T.nP, lp, _, _, rfl, rfl, (by omega), hz _ _ (Same.refl _) ?_⟩
        unfold layM
        rw [hk, if_pos rfl]
      · exact ⟨_, rfl, D, us, rfl, .inl ⟨SqL.of h1, fun t ht => q _ _ (s1.trans (s2.trans (same_new ht))) (tup_of upd_same h2 h3)⟩⟩
    | false =>
      refine iteF ⟨_, rfl, mA, mvs, rfl, .inl ⟨SqL.of m1, fun t ht => q _ _ (s1.trans (same_new ht)) (tup_of upd_same m2 fun j v e => ?_)⟩⟩
      obtain rfl := m3 j v e
      show V.int _ = V.int _
      unfold layM
      rw [hk, if_neg Bool.false_ne_true]

theorem scLayB : FnScope ["net", "layer", "vector", "slopes", "inner", "slope", "made", "number", "matrix", "back", "k", "row"] ["net", "layer", "vector", "slopes"] (defScope sLayB) := ⟨rfl, rfl, rfl, by decide +kernel, rfl, by decide +kernel, by decide +kernel⟩
theorem ok_LayB {f : Addr} {fd : FuncData} (F : Fun K "layer_back" "layer_back" sLayB f fd) (T : Txt K mg C) (cP : Cal P w K mg base "product" 1 ["net", "layer", "vector"] (spProduct C)) : FnOk P w K mg base CX0 2 f fd ["net", "layer", "vector", "slopes"] (spLayB C) := by
  obtain ⟨fP, fdP, GP, gP, kP, bP⟩ := cP.ex
  refine F.ok scLayB (fun vs H Q E h => ?_) (fun cdv A outer s H vs Q E hr h => ?_)
  · obtain ⟨N, nv, xv, sv, l, x, s, rfl, _⟩ := h
    rfl
  · obtain ⟨N, nv, xv, sv, l, x, s, rfl, hN, hl, hx, hs, q⟩ := h
    have hrP : Room 1 _ := hr.mono (by decide)
    refine ⟨_, (pss_cons (ps_setLc (i := 4) (own := [("slope", 5)]) (g := (gName 5)) (tt := tYes) rfl scLayB.nd rfl rfl (sw_true rfl rfl rfl (by decide +kernel)) (tupI K (pv 3)) (blkOk_by (by kernel_rfl)) (fun _ _ _ _ _ => (gn 5 scLayB.nd)) (fun _ _ _ _ _ => pts_nil) (fun _ _ _ _ _ => (pe_op op_mod (pe_callTy (call_int1) (by rfl) T.int boot_int (pa_cons (pv 5) pa_nil)) (fldK K (pv 0)))))
      (pss_cons (ps_if (pt_cmpR op_eq (pe_ix (ixT K) (fldK K (pv 0)) (pv 1) (fun _ _ => rfl)) pe_str (nomark _)) (pss_cons (st 6 scLayB.nd (pe_call GP hrP (by rfl) gP kP bP .nil pass0 (pa_cons (pv 0) (pa_cons (pv 1) (pa_cons (pv 2) pa_nil)))))
        (pss_one (ps_setLc (i := 4) (own := [("number", 7), ("slope", 5)]) (g := (gTup K 2 (gCons (gName 7) (gCons (gName 5) gNil)))) (tt := tYes) rfl scLayB.nd rfl rfl (sw_true rfl rfl rfl (by decide +kernel)) (zipK K (by rfl) T.zip (pa_cons (pv 6) (pa_cons (pv 4) pa_nil))) (blkOk_by (by kernel_rfl)) (fun _ _ _ _ _ => (gtupK K (pgs_cons (gn 7 scLayB.nd) (pgs_cons (gn 5 scLayB.nd) pgs_nil)))) (fun _ _ _ _ _ => pts_nil) (fun _ _ _ _ _ => (pe_op op_mod (pe_op op_mul (pe_op op_mul pe_int (pv 7)) (pv 5)) (fldK K (pv 0))))))) pss_nil)
      (pss_cons (st 8 scLayB.nd (pe_ix (ixT K) (fldK K (pv 0)) (pv 1) (fun _ _ => rfl)))
      (pss_cons (st 9 scLayB.nd (pe_lst pa_nil))
      (pss_cons (ps_for PassesOwn.never rfl (pi_range1 (by rfl) T.range (pa_cons (pe_callB (lenK K) (by rfl) T.len PySem.boot_len (pa_cons (pv 8) pa_nil)) pa_nil)) (gn 10 scLayB.nd) (
        pss_one (ps_expr (pe_bm PySem.F.plainAttrs_list PySem.F.slot_list_append PySem.F.type_list_append mt_append (pv 9) (pa_cons (pe_op op_mod (pe_callB (sumK K) (by rfl) T.sum boot_sum (pa_cons (pe_lc (own := [("slope", 5), ("row", 11)]) (g := (gTup K 2 (gCons (gName 5) (gCons (gName 11) gNil)))) (tt := tYes) rfl scLayB.nd (zipK K (by rfl) T.zip (pa_cons (pv 4) (pa_cons (pv 8) pa_nil))) (blkOk_by (by kernel_rfl)) (fun _ _ _ _ _ => (gtupK K (pgs_cons (gn 5 scLayB.nd) (pgs_cons (gn 11 scLayB.nd) pgs_nil)))) (fun _ _ _ _ _ => pts_nil) (fun _ _ _ _ _ => (pe_op op_mul (pv 5) (pe_ix (ixT K) (pv 11) (pv 10) (fun _ _ => rfl))))) pa_nil)) (fldK K (pv 0))) pa_nil)))))
      (pss_one (ps_ret (pe_tup (pa_cons (pe_callTy (tupK K) (by rfl) T.tuple boot_tuple (pa_cons (pv 9) pa_nil)) (pa_cons (pe_callTy (tupK K) (by rfl) T.tuple boot_tuple (pa_cons (pe_lc (own := [("slope", 5)]) (g := (gName 5)) (tt := tYes) rfl scLayB.nd (lstI K (pv 4)) (blkOk_by (by kernel_rfl)) (fun _ _ _ _ _ => (gn 5 scLayB.nd)) (fun _ _ _ _ _ => pts_nil) (fun _ _ _ _ _ => (pe_callTy (tupK K) (by rfl) T.tuple boot_tuple (pa_cons (pe_lc (own := [("number", 7)]) (g := (gName 7)) (tt := tYes) rfl scLayB.nd (tupI K (pv 2)) (blkOk_by (by kernel_rfl)) (fun _ _ _ _ _ => (gn 7 scLayB.nd)) (fun _ _ _ _ _ => pts_nil) (fun _ _ _ _ _ => (pe_op op_mod (pe_op op_mul (pv 5) (pv 7)) (fldK K (pv 0))))) pa_nil)))) pa_nil)) pa_nil)))))))))), ?_⟩
    -- 0:net 1:layer 2:vector 3:slopes 4:inner 5:slope 6:made 7:number 8:matrix 9:back 10:k 11:row
    obtain ⟨na, dx, fs, wa, ka, rfl, hA, lp, lw, hW, lk, hK⟩ := id hN
    obtain ⟨kA, kvs, rfl, k1, k2, k3⟩ := hK
    obtain ⟨kv, ek⟩ := at_lt k2 hl
    obtain rfl := k3 l kv ek
    obtain ⟨wA, wvs, rfl, hw1, hw2, hw3⟩ := hW
    obtain ⟨mv, em⟩ := at_lt hw2 hl
    obtain ⟨mA, mvs, rfl, hm1, hm2, hm3⟩ := hw3 l mv em
    obtain ⟨xA, xvs, rfl, x1, x2, x3⟩ := id hx
    obtain ⟨sA, svs, rfl, s1, s2, s3⟩ := id hs
    have hp := N.hp
    have hw := N.hw
    refine ⟨_, rfl, sA, rfl, ⟨_, SqT.of s1⟩, fun D hD => ?_⟩
    refine lc_pure (wTup s2) (fun _ j v => v = V.int (s j % N.p)) hD (by omega) (fun _ _ _ _ _ p => p) (fun H' t => seqT_of s1 (same_ts t)) (fun i u H1 H2 Z hi t1 hy hz => ?_) fun H1 us t1 h1 h2 h3 => ?_
    · obtain ⟨rfl, eu⟩ := hy
      obtain rfl := s3 i u eu
      exact ⟨rfl, _, rfl, .inl ⟨_, rfl, _, rfl, na, C, dx, fs, _, rfl, t1 _ _ hA, T.cl, T.nP, lp, _, _, rfl, rfl, (by omega), hz _ _ (Same.refl _) rfl⟩⟩
    refine ⟨_, rfl, na, C, dx, fs, _, rfl, t1 _ _ hA, T.cl, T.nK, lk, _, rfl, kA, kvs, l, _, rfl, rfl, SqT.of (t1 _ _ k1), atI_nat ek, rfl, _, rfl, ?_⟩
    rw [kStr_sq]
    refine ite_join (fun σ' H' => ∃ D us y, σ' = [some (.ref na), some (.int l), some (.ref xA), some (.ref sA), some (.ref D), none, y, none, none, none, none, none] ∧ Same H H' ∧ H' D = some (.lst us) ∧ us.length = N.w ∧ ∀ j v, us[j]? = some v → v = V.int (gM N l x s j))
      (fun hk hr => ?_) (fun hk hr => ?_) ?_
    · refine ⟨_, rfl, _, rfl, _, rfl, N, _, _, l, x, rfl, hN.same t1, hl, vec_mono hx (same_ts t1), fun H2 v t2 hv => ?_⟩
      obtain ⟨pA, pvs, rfl, _, d1, d2, d3⟩ := hv
      refine ⟨_, rfl, _, rfl, false, false, pA, D, pvs, us, rfl, SqL.of d1, SqL.of (t2 _ _ h1), fun D2 hD2 => ?_⟩
      refine lc_zip d2 h2 (fun _ j v => v = V.int (gM N l x s j)) hD2 (by omega) (fun _ _ _ _ _ p => p) (SqL.of d1) (SqL.of (t2 _ _ h1)) (fun m y1 y2 H3 H4 Z' hm t3 t4 e1 e2 hz' => ?_) fun H3 us3 t3 g1 g2 g3 => ?_
      · obtain rfl := d3 m y1 e1
        obtain rfl := h3 m y2 e2
        have b := prodM_bd N l x m
        refine ⟨rfl, _, rfl, _, _, rfl, rfl, .inl (by decide), _, rfl, _, _, rfl, rfl, .inl (small64 (by omega) (by omega)), _, rfl, na, C, dx, fs, _, rfl, t4 _ _ (t2 _ _ (t1 _ _ hA)), T.cl, T.nP, lp, _, _, rfl, rfl, (by omega), hz' _ _ (Same.refl _) ?_⟩
        unfold gM
        rw [hk, if_pos rfl]
      · exact hr _ _ ⟨D2, us3, _, rfl, t1.trans (t2.trans t3), g1, g2, g3⟩
    · refine hr _ _ ⟨D, us, none, rfl, t1, h1, h2, fun j v e => ?_⟩
      rw [h3 j v e]
      unfold gM
      rw [hk, if_neg Bool.false_ne_true]
    · rintro σ' H2 ⟨D, us, y6, rfl, t2, h1, h2, h3⟩
      refine ⟨_, rfl, na, C, dx, fs, _, rfl, t2 _ _ hA, T.cl, T.nW, lw, _, rfl, wA, wvs, l, _, rfl, rfl, SqT.of (t2 _ _ hw1), atI_nat em, ?_⟩
      refine ⟨Nat.zero_le _, fun E1 hE1 => ?_⟩
      have tE : Same H2 (upd H2 E1 (.lst [])) := same_new hE1
      refine ⟨_, rfl, mA, mvs, rfl, .inr (SqT.of (tE _ _ (t2 _ _ hm1))), _, rfl, (by rw [hm2]; omega), (by rw [hm2]; omega), ?_⟩
      refine for_range (lo := 0) (n := ((mvs.length : Nat) : Int).toNat) (fun i σ H' => ∃ y bs, σ = [some (.ref na), some (.int l), some (.ref xA), some (.ref sA), some (.ref D), none, y6, none, some (.ref mA), some (.ref E1), y, none] ∧ Same H2 H' ∧ H' E1 = some (.lst bs) ∧ bs.length = i ∧ ∀ j v, bs[j]? = some v → v = V.int (backM N l x s j))
        ⟨none, [], rfl, tE, upd_same, rfl, fun j v e => by simp at e⟩ ?_ ?_
      · rintro i σ H3 hi ⟨y, bs, rfl, t3, e1, e2, e3⟩
        refine ⟨_, rfl, .inl ⟨rfl, _, SqL.of e1⟩, _, rfl, _, rfl, false, true, D, mA, us, mvs, rfl, SqL.of (t3 _ _ h1), SqT.of (t3 _ _ (t2 _ _ hm1)), fun D3 hD3 => ?_⟩
        refine lc_zip h2 hm2 (fun _ j v => v = V.int (gM N l x s j * N.W l j i)) hD3 (by omega) (fun _ _ _ _ _ p => p) (SqL.of (t3 _ _ h1)) (SqT.of (t3 _ _ (t2 _ _ hm1))) (fun m y1 y2 H4 H5 Z' hm t4 t5 g1 g2 hz' => ?_) fun H4 us4 t4 g1 g2 g3 => ?_
        · obtain rfl := h3 m y1 g1
          obtain ⟨rA, rvs, rfl, r1, r2, r3⟩ := hm3 m y2 g2
          obtain ⟨ru, er⟩ := at_lt r2 (show i < N.w by omega)
          obtain rfl := r3 i ru er
          have b := gM_bd N l x s m
          exact ⟨rfl, _, rfl, _, rfl, _, rfl, rA, rvs, _, _, rfl, rfl, SqT.of (t5 _ _ (t3 _ _ (t2 _ _ r1))), by rw [Int.zero_add]; exact atI_nat er, _, _, rfl, rfl, .inl (small64 (by omega) (by omega)), hz' _ _ (Same.refl _) rfl⟩
        · refine ⟨D3, _, rfl, ints_sq g1 g2 g3, ?_⟩
          rw [sum_by]
          refine ⟨_, rfl, na, C, dx, fs, _, rfl, t4 _ _ (t3 _ _ (t2 _ _ hA)), T.cl, T.nP, lp, _, _, rfl, rfl, (by omega), ?_⟩
          refine ⟨E1, bs, _, rfl, rfl, t4 _ _ e1, sizeSmall (by omega), ?_⟩
          exact ⟨_, _, rfl, same_over (t3.trans t4) hE1, upd_same, by rw [List.length_append, e2] <;> rfl, at_app e2 e3 rfl⟩
      · rintro σ H3 ⟨y, bs, rfl, t3, e1, e2, e3⟩
        have ew : bs.length = N.w := by rw [e2, hm2]; omega
        refine ⟨_, rfl, E1, bs, rfl, .inl ⟨SqL.of e1, fun T1 hT1 => ?_⟩⟩
        have tT : Same H3 (upd H3 T1 (.tup bs)) := same_new hT1
        refine ⟨_, rfl, D, rfl, ⟨_, SqL.of (tT _ _ (t3 _ _ h1))⟩, fun D4 hD4 => ?_⟩
        refine lc_pure (wLst h2) (fun H' i u => Vec N.w (gradM N l x s i) H' u) hD4 (by omega) (fun _ _ _ _ t p => vec_mono p t) (fun H' t => seqL_of (tT _ _ (t3 _ _ h1)) t) (fun i u H4 H5 Z hi t4 hy hz => ?_) fun H4 us4 t4 g1 g2 g3 => ?_
        · obtain ⟨rfl, eu⟩ := hy
          obtain rfl := h3 i u eu
          have b := gM_bd N l x s i
          have tx := (t2.trans t3).trans (tT.trans t4)
          refine ⟨rfl, _, rfl, xA, rfl, ⟨_, SqT.of (tx _ _ x1)⟩, fun D5 hD5 => ?_⟩
          refine lc_pure (wTup x2) (fun _ k v => v = V.int (gradM N l x s i k)) hD5 (by omega) (fun _ _ _ _ _ p => p) (fun H' t => seqT_of (tx _ _ x1) (same_ts t)) (fun k u H6 H7 Z' hk t6 hy' hz' => ?_) fun H6 us6 t6 g1 g2 g3 => ?_
          · obtain ⟨rfl, eu'⟩ := hy'
            obtain rfl := x3 k u eu'
            exact ⟨rfl, _, rfl, _, rfl, _, _, rfl, rfl, .inl (small64 (by omega) (by omega)), _, rfl, na, C, dx, fs, _, rfl, t6 _ _ (tx _ _ hA), T.cl, T.nP, lp, _, _, rfl, rfl, (by omega), hz' _ _ (Same.refl _) rfl⟩
          · exact ⟨D5, us6, rfl, .inl ⟨SqL.of g1, fun p hp => hz _ _ (t6.trans (same_new hp)) (tup_of upd_same g2 g3)⟩⟩
        · refine ⟨D4, us4, rfl, .inl ⟨SqL.of g1, fun T2 hT2 => ⟨(show 2 ≤ sizeLine by decide), fun T3 hT3 => ?_⟩⟩⟩
          have tz : Same H4 (upd (upd H4 T2 (.tup us4)) T3 (.tup [.ref T1, .ref T2])) := (same_new hT2).trans (same_new hT3)
          have n3 : T2 ≠ T3 := fun z => by rw [← z, upd_same] at hT3; cases hT3
          refine q _ T3 (.ref T1) (.ref T2) (((t2.trans t3).trans (tT.trans t4)).trans tz) upd_same (tup_of (tz _ _ (t4 _ _ upd_same)) ew e3) ?_
          exact tup_of (by rw [upd_ne n3, upd_same]) g2 fun j v e => vec_mono (g3 j v e) (same_ts tz)

theorem scInputs : FnScope ["net", "vector", "found", "layer"] ["net", "vector"] (defScope sInputs) := ⟨rfl, rfl, rfl, by decide +kernel, rfl, by decide +kernel, by decide +kernel⟩
theorem ok_Inputs {f : Addr} {fd : FuncData} (F : Fun K "layer_inputs" "layer_inputs" sInputs f fd) (T : Txt K mg C) (cF : Cal P w K mg base "layer_forward" 2 ["net", "layer", "vector"] (spLayF C)) {fL : Addr} {fdL : FuncData} (L : LenOf K C fL) (GL : FnOk P w K mg base CX0 1 fL fdL ["self"] (spLen C)) (bL : Binds K fdL ["self"] []) : FnOk P w K mg base CX0 3 f fd ["net", "vector"] (spInputs C) := by
  obtain ⟨fF, fdF, GF, gF, kF, bF⟩ := cF.ex
  refine F.ok scInputs (fun vs H Q E h => ?_) (fun cdv A outer s H vs Q E hr h => ?_)
  · obtain ⟨N, nv, xv, x, rfl, _⟩ := h
    rfl
  · obtain ⟨N, nv, xv, x, rfl, hN, hx, q⟩ := h
    have hrF : Room 2 _ := hr.mono (by decide)
    refine ⟨_, (pss_cons (st 2 scInputs.nd (pe_lst (pa_cons (pe_callTy (tupK K) (by rfl) T.tuple boot_tuple (pa_cons (pv 1) pa_nil)) pa_nil)))
      (pss_cons (ps_for PassesOwn.never rfl (pi_range1 (by rfl) T.range (pa_cons (pe_callB (call_lenO L GL hrF bL) (by rfl) T.len PySem.boot_len (pa_cons (pv 0) pa_nil)) pa_nil)) (gn 3 scInputs.nd) (
        pss_one (ps_expr (pe_bm PySem.F.plainAttrs_list PySem.F.slot_list_append PySem.F.type_list_append mt_append (pv 2) (pa_cons (pe_call GF hrF (by rfl) gF kF bF .nil pass0 (pa_cons (pv 0) (pa_cons (pv 3) (pa_cons (pe_ix (ixL K) (pv 2) (pe_un un_neg pe_int) (fun _ _ => rfl)) pa_nil)))) pa_nil)))))
      (pss_one (ps_ret (pe_tup (pa_cons (pe_callTy (tupK K) (by rfl) T.tuple boot_tuple (pa_cons (pe_slice (slL K) (pv 2) po_none (po_some (pe_un un_neg pe_int))) pa_nil)) (pa_cons (pe_ix (ixL K) (pv 2) (pe_un un_neg pe_int) (fun _ _ => rfl)) pa_nil))))))), ?_⟩
    -- 0:net 1:vector 2:found 3:layer
    obtain ⟨xA, xvs, rfl, x1, x2, x3⟩ := id hx
    obtain ⟨na, dx, fs, wa, ka, rfl, hA, _⟩ := id hN
    refine ⟨_, rfl, xA, xvs, rfl, .inr ⟨SqT.of x1, (show 1 ≤ sizeLine by decide), fun D hD => ?_⟩⟩
    have sD : Same H (upd H D (.lst [V.ref xA])) := same_new hD
    refine ⟨_, rfl, na, dx, fs, rfl, sD _ _ hA, N, _, rfl, hN.same sD, _, rfl, (by omega), (by have := N.hn; omega), ?_⟩
    refine ⟨_, rfl, (by have := N.hn; omega), (by have := N.hn; omega), ?_⟩
    refine for_range (lo := 0) (n := ((N.n : Nat) : Int).toNat) (fun i σ H' => ∃ v us, σ = [some (.ref na), some (.ref xA), some (.ref D), v] ∧ Same H H' ∧ H' D = some (.lst us) ∧ us.length = i + 1 ∧ ∀ j u, us[j]? = some u → Vec N.w (inM N x j) H' u)
      ⟨none, [.ref xA], rfl, sD, upd_same, rfl, fun j u e => ?_⟩ ?_ ?_
    · cases j with
      | zero => cases e; exact vec_mono hx (same_ts sD)
      | succ j => simp at e
    · rintro i σ H' hi ⟨v, us, rfl, s1, e1, e2, e3⟩
      have hin : i < N.n := by omega
      obtain ⟨u, eu⟩ := at_lt e2 (show i < i + 1 by omega)
      have hu := e3 i u eu
      have la : atI us (-1) = some u := atI_end e2 eu
      refine ⟨_, rfl, .inl ⟨rfl, _, SqL.of e1⟩, _, rfl, _, rfl, _, rfl, 1, rfl, D, us, -1, u, rfl, rfl, SqL.of e1, la, N, _, u, i, inM N x i, by rw [Int.zero_add]; rfl, hN.same s1, hin, hu, fun H2 v2 s2 h2 => ?_⟩
      have e1' := s2 _ _ e1
      refine ⟨D, us, v2, rfl, rfl, e1', sizeSmall (by have := N.hn; omega), ?_⟩
      refine ⟨_, us ++ [v2], rfl, same_over (s1.trans s2) hD, upd_same, by rw [List.length_append, e2] <;> rfl, at_app e2 (fun j u' e => ?_) ?_⟩
      · exact vec_mono (e3 j u' e) (TS.trans (same_ts s2) (ts_upd e1'))
      · exact vec_mono h2 (ts_upd e1')
    · rintro σ H' ⟨v, us, rfl, s1, e1, e2, e3⟩
      have en : ((N.n : Nat) : Int).toNat = N.n := by omega
      rw [en] at e2
      obtain ⟨u, eu⟩ := at_lt e2 (show N.n < N.n + 1 by omega)
      have hu := e3 _ u eu
      have la : atI us (-1) = some u := atI_end e2 eu
      refine ⟨_, rfl, 1, rfl, -1, rfl, D, us, rfl, SqL.of e1, fun E1 hE1 => ?_⟩
      have sE : Same H' (upd H' E1 (.lst (cutV us none (some (-1))))) := same_new hE1
      refine ⟨E1, _, rfl, .inl ⟨SqL.of upd_same, fun T1 hT1 => ?_⟩⟩
      have sT := sE.trans (same_new (o := .tup (cutV us none (some (-1)))) hT1)
      refine ⟨_, rfl, 1, rfl, D, us, -1, u, rfl, rfl, SqL.of (sT _ _ e1), la, (show 2 ≤ sizeLine by decide), fun T2 hT2 => ?_⟩
      have sT2 : Same H' (upd _ T2 (.tup [.ref T1, u])) := sT.trans (same_new hT2)
      refine q _ T2 (.ref T1) u (s1.trans sT2) upd_same ⟨T1, us.dropLast, rfl, ?_, by rw [List.length_dropLast, e2]; omega, fun j u' e => ?_⟩ (vec_mono hu (same_ts sT2))
      · rw [upd_ne (fun z => by rw [z, upd_same] at hT2; cases hT2), upd_same, cut_last]
      · refine vec_mono (e3 j u' ?_) (same_ts sT2)
        rw [List.getElem?_dropLast] at e
        split at e
        · exact e
        · cases e

theorem scForward : FnScope ["net", "vector"] ["net", "vector"] (defScope sForward) := ⟨rfl, rfl, rfl, by decide +kernel, rfl, by decide +kernel, by decide +kernel⟩
theorem ok_Forward {f : Addr} {fd : FuncData} (F : Fun K "forward" "forward" sForward f fd) (T : Txt K mg C) (cI : Cal P w K mg base "layer_inputs" 3 ["net", "vector"] (spInputs C)) : FnOk P w K mg base CX0 4 f fd ["net", "vector"] (spForward C) := by
  obtain ⟨fI, fdI, GI, gI, kI, bI⟩ := cI.ex
  refine F.ok scForward (fun vs H Q E h => ?_) (fun cdv A outer s H vs Q E hr h => ?_)
  · obtain ⟨N, nv, xv, x, rfl, _⟩ := h
    rfl
  · obtain ⟨N, nv, xv, x, rfl, hN, hx, q⟩ := h
    have hrI : Room 3 _ := hr.mono (by decide)
    refine ⟨_, (
      pss_one (ps_ret (pe_ix (ixT K) (pe_call GI hrI (by rfl) gI kI bI .nil pass0 (pa_cons (pv 0) (pa_cons (pv 1) pa_nil))) pe_int (fun _ _ => rfl)))), ?_⟩
    -- 0:net 1:vector
    refine ⟨_, rfl, _, rfl, N, nv, xv, x, rfl, hN, hx, fun H1 T1 v1 v2 s1 h1 h2 h3 => ?_⟩
    exact ⟨T1, _, 1, v2, rfl, rfl, SqT.of h1, atI_nat (j := 1) rfl, q _ _ s1 h3⟩

theorem scSlBack : FnScope ["net", "inputs", "slopes", "found", "layer", "matrix"] ["net", "inputs", "slopes"] (defScope sSlBack) := ⟨rfl, rfl, rfl, by decide +kernel, rfl, by decide +kernel, by decide +kernel⟩
theorem ok_SlBack {f : Addr} {fd : FuncData} (F : Fun K "slopes_back" "slopes_back" sSlBack f fd) (T : Txt K mg C) (cB : Cal P w K mg base "layer_back" 2 ["net", "layer", "vector", "slopes"] (spLayB C)) {fL : Addr} {fdL : FuncData} (L : LenOf K C fL) (GL : FnOk P w K mg base CX0 1 fL fdL ["self"] (spLen C)) (bL : Binds K fdL ["self"] []) : FnOk P w K mg base CX0 3 f fd ["net", "inputs", "slopes"] (spSlBack C) := by
  obtain ⟨fB, fdB, GB, gB, kB, bB⟩ := cB.ex
  refine F.ok scSlBack (fun vs H Q E h => ?_) (fun cdv A outer s H vs Q E hr h => ?_)
  · obtain ⟨N, nv, iv, sv, xs, s, rfl, _⟩ := h
    rfl
  · obtain ⟨N, nv, iv, sv, xs, s, rfl, hN, hi, hs, q⟩ := h
    have hrB : Room 2 _ := hr.mono (by decide)
    refine ⟨_, (pss_cons (st 3 scSlBack.nd (pe_lst pa_nil))
      (pss_cons (ps_for PassesOwn.never rfl (pi_revR (by rfl) T.reversed (prg_1 (by rfl) T.range (pe_callB (call_lenO L GL hrB bL) (by rfl) T.len PySem.boot_len (pa_cons (pv 0) pa_nil)))) (gn 4 scSlBack.nd) (pss_cons (ps_asg (pe_call GB hrB (by rfl) gB kB bB .nil pass0 (pa_cons (pv 0) (pa_cons (pv 4) (pa_cons (pe_ix (ixT K) (pv 1) (pv 4) (fun _ _ => rfl)) (pa_cons (pv 2) pa_nil))))) (gtupK K (pgs_cons (gn 2 scSlBack.nd) (pgs_cons (gn 5 scSlBack.nd) pgs_nil))))
        (pss_one (ps_expr (pe_bm PySem.F.plainAttrs_list PySem.F.slot_list_append PySem.F.type_list_append mt_append (pv 3) (pa_cons (pv 5) pa_nil))))))
      (pss_one (ps_ret (pe_tup (pa_cons (pv 2) (pa_cons (RT.pe_tupRev rfl (by rfl) T.tuple (by rfl) T.reversed (pv 3)) pa_nil))))))), ?_⟩
    -- 0:net 1:inputs 2:slopes 3:found 4:layer 5:matrix
    obtain ⟨na, dx, fs, wa, ka, rfl, hA, _⟩ := id hN
    obtain ⟨iA, ivs, rfl, i1, i2, i3⟩ := hi
    have hn := N.hn
    refine ⟨Nat.zero_le _, fun D hD => ?_⟩
    have sD : Same H (upd H D (.lst [])) := same_new hD
    refine ⟨_, rfl, na, dx, fs, rfl, sD _ _ hA, N, _, rfl, hN.same sD, _, rfl, (by omega), (by omega), ?_⟩
    refine ⟨_, rfl, by decide, by decide, by omega, by omega, ?_⟩
    refine for_rangeC (fun i σ H' => ∃ v2 us y4 y5, σ = [some (.ref na), some (.ref iA), some v2, some (.ref D), y4, y5] ∧ Same H H' ∧ Vec N.w (sM N xs s i) H' v2 ∧ H' D = some (.lst us) ∧ us.length = i ∧ ∀ j u, us[j]? = some u → Mat N.w (gradM N (N.n - 1 - j) (xs (N.n - 1 - j)) (sM N xs s j)) H' u)
      ⟨sv, [], none, none, rfl, sD, vec_mono hs (same_ts sD), upd_same, rfl, fun j u e => by simp at e⟩ ?_ ?_
    · rintro i σ H' hi ⟨v2, us, y4, y5, rfl, s1, hv2, e1, e2, e3⟩
      have hin : i < N.n := by omega
      have el : (0 + (((((N.n : Nat) : Int) - 0).toNat : Nat) : Int) - 1 + (i : Nat) * (-1) : Int) = ((N.n - 1 - i : Nat) : Int) := by omega
      rw [el]
      obtain ⟨u, eu⟩ := at_lt i2 (show N.n - 1 - i < N.n by omega)
      have hu := i3 _ u eu
      refine ⟨_, rfl, _, rfl, _, rfl, _, rfl, iA, ivs, _, u, rfl, rfl, SqT.of (s1 _ _ i1), atI_nat eu, _, rfl, N, _, u, v2, N.n - 1 - i, xs (N.n - 1 - i), sM N xs s i, rfl, hN.same s1, by omega, vec_mono hu (same_ts s1), hv2, fun H2 T1 v3 v4 s2 hT h3 h4 => ?_⟩
      have e1' := s2 _ _ e1
      refine ⟨T1, [v3, v4], rfl, SqT.of hT, rfl, v3, [v4], rfl, v4, [], rfl, rfl, ?_⟩
      refine ⟨_, rfl, .inl ⟨rfl, _, SqL.of e1'⟩, _, rfl, D, us, v4, rfl, rfl, e1', sizeSmall (by omega), ?_⟩
      refine ⟨v3, us ++ [v4], _, _, rfl, same_over (s1.trans s2) hD, vec_mono h3 (ts_upd e1'), upd_same, by rw [List.length_append, e2] <;> rfl, at_app e2 (fun j u' e => ?_) ?_⟩
      · exact mat_mono (e3 j u' e) (TS.trans (same_ts s2) (ts_upd e1'))
      · exact mat_mono h4 (ts_upd e1')
    · rintro σ H' ⟨v2, us, y4, y5, rfl, s1, hv2, e1, e2, e3⟩
      have en : us.length = N.n := by rw [e2]; omega
      refine ⟨_, rfl, _, rfl, D, us, rfl, SqL.of e1, fun T1 hT1 => ⟨(show 2 ≤ sizeLine by decide), fun T2 hT2 => ?_⟩⟩
      have tz : Same H' (upd (upd H' T1 (.tup us.reverse)) T2 (.tup [v2, .ref T1])) := (same_new hT1).trans (same_new hT2)
      have n2 : T1 ≠ T2 := fun z => by rw [← z, upd_same] at hT2; cases hT2
      refine q _ T2 v2 (.ref T1) (s1.trans tz) upd_same (tup_of (by rw [upd_ne n2, upd_same]) (by rw [List.length_reverse, en]) fun l u e => ?_)
      have hl : l < us.length := by
        have := (List.getElem?_eq_some_iff.mp e).1
        rwa [List.length_reverse] at this
      rw [List.getElem?_reverse hl, en] at e
      have h := e3 _ u e
      have ex : N.n - 1 - (N.n - 1 - l) = l := by omega
      rw [ex] at h
      exact mat_mono h (same_ts tz)

theorem scLossSl : FnScope ["net", "out", "target", "number", "aim"] ["net", "out", "target"] (defScope sLossSl) := ⟨rfl, rfl, rfl, by decide +kernel, rfl, by decide +kernel, by decide +kernel⟩
theorem ok_LossSl {f : Addr} {fd : FuncData} (F : Fun K "loss_slopes" "loss_slopes" sLossSl f fd) (T : Txt K mg C) : FnOk P w K mg base CX0 1 f fd ["net", "out", "target"] (spLossSl C) := by
  refine F.ok scLossSl (fun vs H Q E h => ?_) (fun cdv A outer s H vs Q E hr h => ?_)
  · obtain ⟨N, nv, ov, tv, o, t, rfl, _⟩ := h
    rfl
  · obtain ⟨N, nv, ov, tv, o, t, rfl, hN, ho, ht, q⟩ := h
    refine ⟨_, (
      pss_one (ps_ret (pe_callTy (tupK K) (by rfl) T.tuple boot_tuple (pa_cons (pe_lc (own := [("number", 3), ("aim", 4)]) (g := (gTup K 2 (gCons (gName 3) (gCons (gName 4) gNil)))) (tt := tYes) rfl scLossSl.nd (zipK K (by rfl) T.zip (pa_cons (pv 1) (pa_cons (pv 2) pa_nil))) (blkOk_by (by kernel_rfl)) (fun _ _ _ _ _ => (gtupK K (pgs_cons (gn 3 scLossSl.nd) (pgs_cons (gn 4 scLossSl.nd) pgs_nil)))) (fun _ _ _ _ _ => pts_nil) (fun _ _ _ _ _ => (pe_op op_mod (pe_op op_mul pe_int (pe_op op_sub (pv 3) (pv 4))) (fldK K (pv 0))))) pa_nil)))), ?_⟩
    -- 0:net 1:out 2:target 3:number 4:aim
    obtain ⟨na, dx, fs, wa, ka, rfl, hA, lp, _⟩ := id hN
    obtain ⟨oA, ovs, rfl, o1, o2, o3⟩ := id ho
    obtain ⟨tA, tvs, rfl, t1, t2, t3⟩ := id ht
    refine ⟨_, rfl, _, rfl, true, true, oA, tA, ovs, tvs, rfl, SqT.of o1, SqT.of t1, fun D hD => ?_⟩
    refine lc_zip o2 t2 (fun _ j v => v = V.int (lsM N o t j)) hD (by have := N.hw; omega) (fun _ _ _ _ _ p => p) (SqT.of o1) (SqT.of t1) (fun m y1 y2 H3 H4 Z' hm s3 s4 e1 e2 hz' => ?_) fun H3 us s3 h1 h2 h3 => ?_
    · obtain rfl := o3 m y1 e1
      obtain rfl := t3 m y2 e2
      refine ⟨rfl, _, rfl, _, rfl, _, _, rfl, rfl, _, _, rfl, rfl, .inl (by decide), _, rfl, na, C, dx, fs, _, rfl, s4 _ _ hA, T.cl, T.nP, lp, _, _, rfl, rfl, (by have := N.hp; omega), hz' _ _ (Same.refl _) rfl⟩
    · exact ⟨D, us, rfl, .inl ⟨SqL.of h1, fun l hl => q _ _ (s3.trans (same_new hl)) (tup_of upd_same h2 h3)⟩⟩

theorem scNoSl : FnScope ["net", "row", "matrix"] ["net"] (defScope sNoSl) := ⟨rfl, rfl, rfl, by decide +kernel, rfl, by decide +kernel, by decide +kernel⟩
theorem ok_NoSl {f : Addr} {fd : FuncData} (F : Fun K "no_slopes" "no_slopes" sNoSl f fd) (T : Txt K mg C) : FnOk P w K mg base CX0 1 f fd ["net"] (spNoSl C) := by
  refine F.ok scNoSl (fun vs H Q E h => ?_) (fun cdv A outer s H vs Q E hr h => ?_)
  · obtain ⟨N, nv, rfl, _⟩ := h
    rfl
  · obtain ⟨N, nv, rfl, hN, q⟩ := h
    refine ⟨_, (
      pss_one (ps_ret (pe_callTy (tupK K) (by rfl) T.tuple boot_tuple (pa_cons (pe_lc (own := [("matrix", 2)]) (g := (gName 2)) (tt := tYes) rfl scNoSl.nd (tupI K (fldK K (pv 0))) (blkOk_by (by kernel_rfl)) (fun _ _ _ _ _ => (gn 2 scNoSl.nd)) (fun _ _ _ _ _ => pts_nil) (fun _ _ _ _ _ => (pe_callTy (tupK K) (by rfl) T.tuple boot_tuple (pa_cons (pe_lc (own := [("row", 1)]) (g := (gName 1)) (tt := tYes) rfl scNoSl.nd (tupI K (pv 2)) (blkOk_by (by kernel_rfl)) (fun _ _ _ _ _ => (gn 1 scNoSl.nd)) (fun _ _ _ _ _ => pts_nil) (fun _ _ _ _ _ => (pe_op (timesK K) (pe_tup (pa_cons pe_int pa_nil)) (pe_callB (lenK K) (by rfl) T.len PySem.boot_len (pa_cons (pv 1) pa_nil))))) pa_nil)))) pa_nil)))), ?_⟩
    -- 0:net 1:row 2:matrix
    obtain ⟨na, dx, fs, wa, ka, rfl, hA, lp, lw, hW, lk, hK⟩ := id hN
    obtain ⟨wA, wvs, rfl, hw1, hw2, hw3⟩ := hW
    have hw := N.hw
    have hn := N.hn
    refine ⟨_, rfl, na, C, dx, fs, _, rfl, hA, T.cl, T.nW, lw, wA, rfl, ⟨_, SqT.of hw1⟩, fun D hD => ?_⟩
    refine lc_pure (wTup hw2) (fun H' l u => Mat N.w (fun _ _ => 0) H' u) hD (by omega) (fun _ _ _ _ t p => mat_mono p t) (fun H' s => seqT_of hw1 (same_ts s)) (fun l u H1 H2 Z hi s1 hy hz => ?_) fun H1 us s1 h1 h2 h3 => ?_
    · obtain ⟨rfl, eu⟩ := hy
      obtain ⟨mA, mvs, rfl, m1, m2, m3⟩ := hw3 l u eu
      refine ⟨rfl, _, rfl, mA, rfl, ⟨_, SqT.of (s1 _ _ m1)⟩, fun D2 hD2 => ?_⟩
      refine lc_pure (wTup m2) (fun H' i u => Vec N.w (fun _ => 0) H' u) hD2 (by omega) (fun _ _ _ _ t p => vec_mono p t) (fun H' s => seqT_of (s1 _ _ m1) (same_ts s)) (fun i u H3 H4 Z' hi' s3 hy' hz' => ?_) fun H3 us s3 h1 h2 h3 => ?_
      · obtain ⟨rfl, eu'⟩ := hy'
        obtain ⟨rA, rvs, rfl, r1, r2, r3⟩ := m3 i u eu'
        refine ⟨rfl, (show 1 ≤ sizeLine by decide), fun E1 hE1 => ?_⟩
        have sE : Same H4 (upd H4 E1 (.tup [V.int 0])) := same_new hE1
        refine ⟨_, rfl, rA, rvs, rfl, .inr (SqT.of (sE _ _ (s3 _ _ (s1 _ _ r1)))), E1, _, _, rfl, rfl, SqT.of upd_same, by simp, by rw [r2]; omega, by rw [r2]; omega, by simp, fun e1 => ?_, fun p hp => ?_⟩
        · have w1 : N.w = 1 := by rw [r2] at e1; omega
          refine hz' _ _ sE (tup_of upd_same w1.symm fun j v e => ?_)
          cases j with
          | zero => cases e; rfl
          | succ j => simp at e
        · refine hz' _ _ (sE.trans (same_new hp)) (tup_of upd_same (by rw [r2]; simp) fun j v e => ?_)
          rw [r2] at e
          simp only [Int.toNat_natCast, List.flatten_replicate_singleton, List.getElem?_replicate] at e
          split at e
          · cases e; rfl
          · cases e
      · exact ⟨D2, us, rfl, .inl ⟨SqL.of h1, fun l hl => hz _ _ (s3.trans (same_new hl)) (tup_of upd_same h2 fun j v e => vec_mono (h3 j v e) (ts_new hl))⟩⟩
    · exact ⟨D, us, rfl, .inl ⟨SqL.of h1, fun l hl => q _ _ (s1.trans (same_new hl)) (tup_of upd_same h2 fun j v e => mat_mono (h3 j v e) (ts_new hl))⟩⟩

theorem scAdded : FnScope ["net", "one", "other", "times", "found", "first", "second", "rows", "row", "more", "number", "by"] ["net", "one", "other", "times"] (defScope sAdded) := ⟨rfl, rfl, rfl, by decide +kernel, rfl, by decide +kernel, by decide +kernel⟩
theorem ok_Added {f : Addr} {fd : FuncData} (F : Fun K "added" "added" sAdded f fd) (T : Txt K mg C) : FnOk P w K mg base CX0 1 f fd ["net", "one", "other", "times"] (spAdded C) := by
  refine F.ok scAdded (fun vs H Q E h => ?_) (fun cdv A outer s H vs Q E hr h => ?_)
  · obtain ⟨N, nv, av, bv, A1, B1, rfl, _⟩ := h
    rfl
  · obtain ⟨N, nv, av, bv, A1, B1, rfl, hN, ha, hb, q⟩ := h
    refine ⟨_, (pss_cons (st 4 scAdded.nd (pe_lst pa_nil))
      (pss_cons (ps_for PassesOwn.never rfl (zipK K (by rfl) T.zip (pa_cons (pv 1) (pa_cons (pv 2) pa_nil))) (gtupK K (pgs_cons (gn 5 scAdded.nd) (pgs_cons (gn 6 scAdded.nd) pgs_nil))) (pss_cons (st 7 scAdded.nd (pe_lst pa_nil))
        (pss_cons (ps_for PassesOwn.never rfl (zipK K (by rfl) T.zip (pa_cons (pv 5) (pa_cons (pv 6) pa_nil))) (gtupK K (pgs_cons (gn 8 scAdded.nd) (pgs_cons (gn 9 scAdded.nd) pgs_nil))) (
          pss_one (ps_expr (pe_bm PySem.F.plainAttrs_list PySem.F.slot_list_append PySem.F.type_list_append mt_append (pv 7) (pa_cons (pe_callTy (tupK K) (by rfl) T.tuple boot_tuple (pa_cons (pe_lc (own := [("number", 10), ("by", 11)]) (g := (gTup K 2 (gCons (gName 10) (gCons (gName 11) gNil)))) (tt := tYes) rfl scAdded.nd (zipK K (by rfl) T.zip (pa_cons (pv 8) (pa_cons (pv 9) pa_nil))) (blkOk_by (by kernel_rfl)) (fun _ _ _ _ _ => (gtupK K (pgs_cons (gn 10 scAdded.nd) (pgs_cons (gn 11 scAdded.nd) pgs_nil)))) (fun _ _ _ _ _ => pts_nil) (fun _ _ _ _ _ => (pe_op op_mod (pe_op op_add (pv 10) (pe_op op_mul (pv 3) (pv 11))) (fldK K (pv 0))))) pa_nil)) pa_nil)))))
        (pss_one (ps_expr (pe_bm PySem.F.plainAttrs_list PySem.F.slot_list_append PySem.F.type_list_append mt_append (pv 4) (pa_cons (pe_callTy (tupK K) (by rfl) T.tuple boot_tuple (pa_cons (pv 7) pa_nil)) pa_nil)))))))
      (pss_one (ps_ret (pe_callTy (tupK K) (by rfl) T.tuple boot_tuple (pa_cons (pv 4) pa_nil)))))), ?_⟩
    -- 0:net 1:one 2:other 3:times 4:found 5:first 6:second 7:rows 8:row 9:more 10:number 11:by
    obtain ⟨na, dx, fs, wa, ka, rfl, hA, lp, _⟩ := id hN
    obtain ⟨aA, avs, rfl, a1, a2, a3⟩ := ha
    obtain ⟨bA, bvs, rfl, b1, b2, b3⟩ := hb
    have hn := N.hn
    have hw := N.hw
    have hp := N.hp
    refine ⟨Nat.zero_le _, fun D hD => ?_⟩
    have sD : Same H (upd H D (.lst [])) := same_new hD
    refine ⟨_, rfl, _, rfl, true, true, aA, bA, avs, bvs, rfl, SqT.of (sD _ _ a1), SqT.of (sD _ _ b1), ?_⟩
    refine for_zip a2 b2 (fun m σ H' => ∃ us y5 y6 y7 y8 y9, σ = [some (.ref na), some (.ref aA), some (.ref bA), some (.int 1), some (.ref D), y5, y6, y7, y8, y9, none, none] ∧ Same H H' ∧ H' D = some (.lst us) ∧ us.length = m ∧ ∀ j u, us[j]? = some u → Mat N.w (addM N A1 B1 j) H' u)
      ⟨[], none, none, none, none, none, rfl, sD, upd_same, rfl, fun j u e => by simp at e⟩ (fun m σ H' p => ?_) ?_ ?_
    · obtain ⟨_, _, _, _, _, _, _, s, _⟩ := p
      exact ⟨SqT.of (s _ _ a1), SqT.of (s _ _ b1)⟩
    · rintro m x y σ H1 H2 hm ⟨us, y5, y6, y7, y8, y9, rfl, s1, e1, e2, e3⟩ s12 ex ey
      obtain ⟨rA, rvs, rfl, r1, r2, r3⟩ := a3 m x ex
      obtain ⟨tA, tvs, rfl, t1, t2, t3⟩ := b3 m y ey
      have s2 := s1.trans s12
      refine ⟨Nat.zero_le _, fun R hR => ?_⟩
      have sR : Same H2 (upd H2 R (.lst [])) := same_new hR
      refine ⟨_, rfl, _, rfl, true, true, rA, tA, rvs, tvs, rfl, SqT.of (sR _ _ (s2 _ _ r1)), SqT.of (sR _ _ (s2 _ _ t1)), ?_⟩
      refine for_zip r2 t2 (fun i σ H' => ∃ ws y8 y9, σ = [some (.ref na), some (.ref aA), some (.ref bA), some (.int 1), some (.ref D), some (.ref rA), some (.ref tA), some (.ref R), y8, y9, none, none] ∧ Same H2 H' ∧ H' R = some (.lst ws) ∧ ws.length = i ∧ ∀ j u, ws[j]? = some u → Vec N.w (addM N A1 B1 m j) H' u)
        ⟨[], y8, y9, rfl, sR, upd_same, rfl, fun j u e => by simp at e⟩ (fun i σ H' p => ?_) ?_ ?_
      · obtain ⟨_, _, _, _, s, _⟩ := p
        exact ⟨SqT.of (s _ _ (s2 _ _ r1)), SqT.of (s _ _ (s2 _ _ t1))⟩
      · rintro i x y σ H3 H4 hi ⟨ws, y8, y9, rfl, s3, g1, g2, g3⟩ s34 ex' ey'
        obtain ⟨pA, pvs, rfl, p1, p2, p3⟩ := r3 i x ex'
        obtain ⟨oA, ovs, rfl, o1, o2, o3⟩ := t3 i y ey'
        have s4 := s2.trans (s3.trans s34)
        refine ⟨_, rfl, .inl ⟨rfl, _, SqL.of (s34 _ _ g1)⟩, _, rfl, _, rfl, true, true, pA, oA, pvs, ovs, rfl, SqT.of (s4 _ _ p1), SqT.of (s4 _ _ o1), fun E1 hE1 => ?_⟩
        refine lc_zip p2 o2 (fun _ j v => v = V.int (addM N A1 B1 m i j)) hE1 (by omega) (fun _ _ _ _ _ p => p) (SqT.of (s4 _ _ p1)) (SqT.of (s4 _ _ o1)) (fun k z1 z2 H5 H6 Z hk s5 s6 f1 f2 hz => ?_) fun H5 vs s5 h1 h2 h3 => ?_
        · obtain rfl := p3 k z1 f1
          obtain rfl := o3 k z2 f2
          exact ⟨rfl, _, rfl, _, rfl, _, rfl, _, _, rfl, rfl, .inl (by decide), _, _, rfl, rfl, _, rfl, na, C, dx, fs, _, rfl, s6 _ _ (s4 _ _ hA), T.cl, T.nP, lp, _, _, rfl, rfl, (by omega), hz _ _ (Same.refl _) rfl⟩
        · refine ⟨E1, vs, rfl, .inl ⟨SqL.of h1, fun E2 hE2 => ?_⟩⟩
          have s7 : Same H4 (upd H5 E2 (.tup vs)) := s5.trans (same_new hE2)
          have gR := s7 _ _ (s34 _ _ g1)
          refine ⟨R, ws, _, rfl, rfl, gR, sizeSmall (by omega), ?_⟩
          refine ⟨ws ++ [.ref E2], _, _, rfl, same_over ((s3.trans s34).trans s7) hR, upd_same, by rw [List.length_append, g2] <;> rfl, at_app g2 (fun j u e => vec_mono (g3 j u e) (TS.trans (same_ts (s34.trans s7)) (ts_upd gR))) ?_⟩
          exact vec_mono (tup_of (H := upd H5 E2 (.tup vs)) upd_same h2 h3) (ts_upd gR)
      · rintro σ H3 ⟨ws, y8, y9, rfl, s3, g1, g2, g3⟩
        have gD := s3 _ _ (s12 _ _ e1)
        refine ⟨_, rfl, .inl ⟨rfl, _, SqL.of gD⟩, _, rfl, R, ws, rfl, .inl ⟨SqL.of g1, fun E2 hE2 => ?_⟩⟩
        have s7 : Same H3 (upd H3 E2 (.tup ws)) := same_new hE2
        have gD2 := s7 _ _ gD
        refine ⟨D, us, _, rfl, rfl, gD2, sizeSmall (by omega), ?_⟩
        refine ⟨us ++ [.ref E2], _, _, _, _, _, rfl, same_over (s2.trans (s3.trans s7)) hD, upd_same, by rw [List.length_append, e2] <;> rfl, at_app e2 (fun j u e => mat_mono (e3 j u e) (TS.trans (same_ts (s12.trans (s3.trans s7))) (ts_upd gD2))) ?_⟩
        exact tup_of (by rw [upd_ne (ne_of upd_same gD2 (by intro z; cases z))]; exact upd_same) g2 fun j u e => vec_mono (g3 j u e) (TS.trans (same_ts s7) (ts_upd gD2))
    · rintro σ H1 ⟨us, y5, y6, y7, y8, y9, rfl, s1, e1, e2, e3⟩
      exact ⟨_, rfl, D, us, rfl, .inl ⟨SqL.of e1, fun E2 hE2 => q _ _ (s1.trans (same_new hE2)) (tup_of upd_same e2 fun j u e => mat_mono (e3 j u e) (ts_new hE2))⟩⟩

theorem scPortSl : FnScope ["net", "portion", "total", "vector", "target", "inputs", "out"] ["net", "portion"] (defScope sPortSl) := ⟨rfl, rfl, rfl, by decide +kernel, rfl, by decide +kernel, by decide +kernel⟩
theorem ok_PortSl {f : Addr} {fd : FuncData} (F : Fun K "portion_slopes" "portion_slopes" sPortSl f fd) (T : Txt K mg C) (cZ : Cal P w K mg base "no_slopes" 1 ["net"] (spNoSl C)) (cI : Cal P w K mg base "layer_inputs" 3 ["net", "vector"] (spInputs C)) (cS : Cal P w K mg base "slopes_back" 3 ["net", "inputs", "slopes"] (spSlBack C)) (cO : Cal P w K mg base "loss_slopes" 1 ["net", "out", "target"] (spLossSl C)) (cA : Cal P w K mg base "added" 1 ["net", "one", "other", "times"] (spAdded C)) : FnOk P w K mg base CX0 4 f fd ["net", "portion"] (spPortSl C) := by
  obtain ⟨fZ, fdZ, GZ, gZ, kZ, bZ⟩ := cZ.ex
  obtain ⟨fI, fdI, GI, gI, kI, bI⟩ := cI.ex
  obtain ⟨fS, fdS, GS, gS, kS, bS⟩ := cS.ex
  obtain ⟨fO, fdO, GO, gO, kO, bO⟩ := cO.ex
  obtain ⟨fA, fdA, GA, gA, kA, bA⟩ := cA.ex
  refine F.ok scPortSl (fun vs H Q E h => ?_) (fun cdv A outer s H vs Q E hr h => ?_)
  · obtain ⟨N, nv, pv1, m, x, t, rfl, _⟩ := h
    rfl
  · obtain ⟨N, nv, pv1, m, x, t, rfl, hN, hP, hm, q⟩ := h
    have hrZ : Room 1 _ := hr.mono (by decide)
    have hrI : Room 3 _ := hr.mono (by decide)
    have hrS : Room 3 _ := hr.mono (by decide)
    have hrO : Room 1 _ := hr.mono (by decide)
    have hrA : Room 1 _ := hr.mono (by decide)
    refine ⟨_, (pss_cons (st 2 scPortSl.nd (pe_call GZ hrZ (by rfl) gZ kZ bZ .nil pass0 (pa_cons (pv 0) pa_nil)))
      (pss_cons (ps_for PassesOwn.never rfl (tupI K (pv 1)) (gtupK K (pgs_cons (gn 3 scPortSl.nd) (pgs_cons (gn 4 scPortSl.nd) pgs_nil))) (pss_cons (ps_asg (pe_call GI hrI (by rfl) gI kI bI .nil pass0 (pa_cons (pv 0) (pa_cons (pv 3) pa_nil))) (gtupK K (pgs_cons (gn 5 scPortSl.nd) (pgs_cons (gn 6 scPortSl.nd) pgs_nil))))
        (pss_one (st 2 scPortSl.nd (pe_call GA hrA (by rfl) gA kA bA .nil pass0 (pa_cons (pv 0) (pa_cons (pv 2) (pa_cons (pe_ix (ixT K) (pe_call GS hrS (by rfl) gS kS bS .nil pass0 (pa_cons (pv 0) (pa_cons (pv 5) (pa_cons (pe_call GO hrO (by rfl) gO kO bO .nil pass0 (pa_cons (pv 0) (pa_cons (pv 6) (pa_cons (pv 4) pa_nil)))) pa_nil)))) pe_int (fun _ _ => rfl)) (pa_cons pe_int pa_nil)))))))))
      (pss_one (ps_ret (pv 2))))), ?_⟩
    -- 0:net 1:portion 2:total 3:vector 4:target 5:inputs 6:out
    obtain ⟨pA, pvs, rfl, p1, p2, p3⟩ := hP
    refine ⟨_, rfl, N, nv, rfl, hN, fun H1 v s1 hv => ?_⟩
    refine ⟨_, rfl, pA, rfl, ⟨_, SqT.of (s1 _ _ p1)⟩, ?_⟩
    refine for_it (wTup p2) (fun e σ H' => ∃ v y3 y4 y5 y6, σ = [some nv, some (.ref pA), some v, y3, y4, y5, y6] ∧ Same H H' ∧ Mats N.n N.w (psM N x t e) H' v)
      ⟨v, none, none, none, none, rfl, s1, hv⟩ (fun i σ H' _ p => ?_) ?_ ?_
    · obtain ⟨_, _, _, _, _, _, s, _⟩ := p
      exact SqT.of (s _ _ p1)
    · rintro e u σ H2 H3 he ⟨v, y3, y4, y5, y6, rfl, s2, hv⟩ ⟨rfl, eu⟩
      obtain ⟨T0, v1, v2, rfl, hT0, hx, ht⟩ := p3 e u eu
      refine ⟨T0, [v1, v2], rfl, SqT.of (s2 _ _ hT0), rfl, v1, [v2], rfl, v2, [], rfl, rfl, ?_⟩
      refine ⟨_, rfl, _, rfl, N, nv, v1, x e, rfl, hN.same s2, vec_mono hx (same_ts s2), fun H4 T1 w1 w2 s4 hT1 hw1 hw2 => ?_⟩
      refine ⟨T1, [w1, w2], rfl, SqT.of hT1, rfl, w1, [w2], rfl, w2, [], rfl, rfl, ?_⟩
      have s24 := s2.trans s4
      refine ⟨_, rfl, _, rfl, _, rfl, _, rfl, _, rfl, _, rfl, _, rfl, N, nv, w2, v2, inM N (x e) N.n, t e, rfl, hN.same s24, hw2, vec_mono ht (same_ts s24), fun H5 lv s5 hlv => ?_⟩
      refine ⟨N, nv, w1, lv, inM N (x e), _, rfl, hN.same (s24.trans s5), TupF.mono hw1 (same_ts s5) (fun _ _ q => vec_mono q (same_ts s5)), hlv, fun H6 T2 z1 z2 s6 hT2 hz2 => ?_⟩
      refine ⟨T2, _, 1, z2, rfl, rfl, SqT.of hT2, atI_nat (j := 1) rfl, N, nv, v, z2, psM N x t e, exM N (x e) (t e), rfl, hN.same ((s24.trans s5).trans s6), mats_mono hv (same_ts (s4.trans (s5.trans s6))), hz2, fun H7 v7 s7 h7 => ?_⟩
      exact ⟨v7, _, _, _, _, rfl, (s24.trans s5).trans (s6.trans s7), h7⟩
    · rintro σ H2 ⟨v, y3, y4, y5, y6, rfl, s2, hv⟩
      exact ⟨_, rfl, q _ _ s2 hv⟩

theorem scTrim : FnScope ["numbers", "found"] ["numbers"] (defScope sTrim) := ⟨rfl, rfl, rfl, by decide +kernel, rfl, by decide +kernel, by decide +kernel⟩
theorem ok_Trim {f : Addr} {fd : FuncData} (F : Fun K "trimmed" "trimmed" sTrim f fd) (T : Txt K mg C) : FnOk P w K mg base CX0 1 f fd ["numbers"] (spTrim K) := by
  refine F.ok scTrim (fun vs H Q E h => ?_) (fun cdv A outer s H vs Q E hr h => ?_)
  · obtain ⟨a, ns, rfl, _⟩ := h
    rfl
  · obtain ⟨a, ns, rfl, ha, hz, q⟩ := h
    refine ⟨_, (pss_cons (st 1 scTrim.nd (pe_callTy (listK K) (by rfl) T.list boot_list (pa_cons (pv 0) pa_nil)))
      (pss_cons (ps_while PassesOwn.never (PW.pt (pw_and (pt_cmpR op_gt (pe_callB (lenK K) (by rfl) T.len PySem.boot_len (pa_cons (pv 1) pa_nil)) pe_int (nomark _)) (pw_and1 (pt_cmpR op_eq (pe_ix (ixL K) (pv 1) (pe_un un_neg pe_int) (fun _ _ => rfl)) pe_int (nomark _))))) (
        pss_one (ps_expr (pe_bm0 PySem.F.plainAttrs_list PySem.F.slot_list_pop PySem.F.type_list_pop mt_pop (pv 1)))))
      (pss_one (ps_ret (pe_callTy (tupK K) (by rfl) T.tuple boot_tuple (pa_cons (pv 1) pa_nil)))))), ?_⟩
    -- 0:numbers 1:found
    refine ⟨_, rfl, a, _, rfl, .inl (SqL.of ha), fun D hD => ?_⟩
    have sD : Same H (upd H D (.lst (ns.map V.int))) := same_new hD
    refine ⟨fun m σ H' => ∃ us : List Int, m = us.length ∧ σ = [some (.ref a), some (.ref D)] ∧ Same H H' ∧ H' D = some (.lst (us.map V.int)) ∧ trim us = trim ns ∧ us.length ≤ ns.length,
      ⟨_, ns, rfl, rfl, sD, upd_same, rfl, Nat.le_refl _⟩, ?_⟩
    rintro m σ H' ⟨us, rfl, rfl, s1, e1, e2, e3⟩
    refine ⟨_, rfl, D, _, rfl, .inl (SqL.of e1), _, _, rfl, rfl, _, rfl, ?_⟩
    rcases List.eq_nil_or_concat us with rfl | ⟨vs, c, ec⟩
    · refine iteF (iteF ?_)
      refine ⟨_, rfl, D, [], rfl, .inl ⟨SqL.of e1, fun T1 hT1 => q _ _ (s1.trans (same_new hT1)) ?_⟩⟩
      rw [← e2]
      exact ⟨T1, rfl, upd_same⟩
    · rw [List.concat_eq_append] at ec
      subst ec
      have hl : (0 : Int) < (((vs ++ [c]).map V.int).length : Int) := by simp only [List.length_map, List.length_append, List.length_singleton]; omega
      rw [decide_eq_true hl]
      have hla : atI ((vs ++ [c]).map V.int) (-1) = some (.int c) := by
        rw [List.map_append]
        exact atI_last _ _
      refine iteT ⟨_, rfl, 1, rfl, D, _, -1, _, rfl, rfl, SqL.of e1, hla, rfl, _, rfl, ?_⟩
      by_cases hc : c = 0
      · subst hc
        rw [decide_eq_true rfl]
        refine iteT ⟨fun σ' H' => ∃ us : List Int, us.length < (vs ++ [(0 : Int)]).length ∧ σ' = [some (.ref a), some (.ref D)] ∧ Same H H' ∧ H' D = some (.lst (us.map V.int)) ∧ trim us = trim ns ∧ us.length ≤ ns.length,
          fun σ' H' ⟨us, g1, g2, g3, g4, g5, g6⟩ => ⟨us.length, g1, us, rfl, g2, g3, g4, g5, g6⟩, ?_⟩
        refine ⟨_, rfl, .inl ⟨rfl, _, SqL.of e1⟩, D, _, .int 0, rfl, rfl, e1, ?_, ?_⟩
        · simp
        · refine ⟨vs, by simp, rfl, same_over s1 hD, ?_, by rw [← e2, trim_zero], by simp at e3; omega⟩
          rw [upd_same]
          simp
      · rw [decide_eq_false (fun z => hc (V.int.inj z))]
        refine iteF ?_
        refine ⟨_, rfl, D, _, rfl, .inl ⟨SqL.of e1, fun T1 hT1 => q _ _ (s1.trans (same_new hT1)) ?_⟩⟩
        rw [← e2, trim_keep vs hc]
        exact ⟨T1, rfl, upd_same⟩

theorem scPlus : FnScope ["net", "one", "two", "length", "longer", "other", "first", "second"] ["net", "one", "two"] (defScope sPlus) := ⟨rfl, rfl, rfl, by decide +kernel, rfl, by decide +kernel, by decide +kernel⟩
theorem ok_Plus {f : Addr} {fd : FuncData} (F : Fun K "plus" "plus" sPlus f fd) (T : Txt K mg C) (cT : Cal P w K mg base "trimmed" 1 ["numbers"] (spTrim K)) : FnOk P w K mg base CX0 2 f fd ["net", "one", "two"] (spPlus C) := by
  obtain ⟨fT, fdT, GT, gT, kT, bT⟩ := cT.ex
  refine F.ok scPlus (fun vs H Q E h => ?_) (fun cdv A outer s H vs Q E hr h => ?_)
  · obtain ⟨N, nv, av, bv, a, b, rfl, _⟩ := h
    rfl
  · obtain ⟨N, nv, av, bv, a, b, rfl, hN, ha, hb, la, lb, q⟩ := h
    have hrT : Room 1 _ := hr.mono (by decide)
    refine ⟨_, (pss_cons (st 3 scPlus.nd (pe_callB (call_max2 rfl) (by rfl) T.max boot_max (pa_cons (pe_callB (lenK K) (by rfl) T.len PySem.boot_len (pa_cons (pv 1) pa_nil)) (pa_cons (pe_callB (lenK K) (by rfl) T.len PySem.boot_len (pa_cons (pv 2) pa_nil)) pa_nil))))
      (pss_cons (st 4 scPlus.nd (pe_op op_cat (pe_callTy (listK K) (by rfl) T.list boot_list (pa_cons (pv 1) pa_nil)) (pe_op op_rep (pe_lst (pa_cons pe_int pa_nil)) (pe_op op_sub (pv 3) (pe_callB (lenK K) (by rfl) T.len PySem.boot_len (pa_cons (pv 1) pa_nil))))))
      (pss_cons (st 5 scPlus.nd (pe_op op_cat (pe_callTy (listK K) (by rfl) T.list boot_list (pa_cons (pv 2) pa_nil)) (pe_op op_rep (pe_lst (pa_cons pe_int pa_nil)) (pe_op op_sub (pv 3) (pe_callB (lenK K) (by rfl) T.len PySem.boot_len (pa_cons (pv 2) pa_nil))))))
      (pss_one (ps_ret (pe_call GT hrT (by rfl) gT kT bT .nil pass0 (pa_cons (pe_lc (own := [("first", 6), ("second", 7)]) (g := (gTup K 2 (gCons (gName 6) (gCons (gName 7) gNil)))) (tt := tYes) rfl scPlus.nd (zipK K (by rfl) T.zip (pa_cons (pv 4) (pa_cons (pv 5) pa_nil))) (blkOk_by (by kernel_rfl)) (fun _ _ _ _ _ => (gtupK K (pgs_cons (gn 6 scPlus.nd) (pgs_cons (gn 7 scPlus.nd) pgs_nil)))) (fun _ _ _ _ _ => pts_nil) (fun _ _ _ _ _ => (pe_op op_mod (pe_op op_add (pv 6) (pv 7)) (fldK K (pv 0))))) pa_nil))))))), ?_⟩
    -- 0:net 1:one 2:two 3:length 4:longer 5:other 6:first 7:second
    obtain ⟨na, dx, fs, wa, ka, rfl, hA, lp, _⟩ := id hN
    obtain ⟨aA, rfl, a1⟩ := ha
    obtain ⟨bA, rfl, b1⟩ := hb
    have hp := N.hp
    refine ⟨_, rfl, aA, _, rfl, .inr (SqT.of a1), _, rfl, bA, _, rfl, .inr (SqT.of b1), _, _, rfl, ?_⟩
    have em : (if ((b.map V.int).length : Int) > ((a.map V.int).length : Int) then ((b.map V.int).length : Int) else ((a.map V.int).length : Int)) = ((max a.length b.length : Nat) : Int) := by
      rw [List.length_map, List.length_map]
      split <;> omega
    rw [em]
    generalize hn : max a.length b.length = n
    have ka : a.length ≤ n := by omega
    have kb : b.length ≤ n := by omega
    have kn : n ≤ 1000 := by omega
    refine ⟨_, rfl, aA, _, rfl, .inr (SqT.of a1), fun L1 hL1 => ⟨(show 1 ≤ sizeLine by decide), fun Z1 hZ1 => ?_⟩⟩
    have s1 : Same H (upd H L1 (.lst (a.map V.int))) := same_new hL1
    have s2 : Same (upd H L1 (.lst (a.map V.int))) (upd (upd H L1 (.lst (a.map V.int))) Z1 (.lst [.int 0])) := same_new hZ1
    have s12 := s1.trans s2
    refine ⟨_, rfl, _, rfl, aA, _, rfl, .inr (SqT.of (s12 _ _ a1)), _, _, rfl, rfl, Z1, _, _, rfl, rfl, upd_same, (by rw [List.length_map]; omega), (by rw [List.length_map]; omega), (by rw [List.length_map, sizeLine_eq]; simp only [List.length_singleton]; omega), fun R1 hR1 => ?_⟩
    have s3 : Same (upd (upd H L1 (.lst (a.map V.int))) Z1 (.lst [.int 0])) (upd _ R1 (.lst (List.replicate ((n : Int) - (a.map V.int).length).toNat [V.int 0]).flatten)) := same_new hR1
    have ea : ((n : Int) - ((a.map V.int).length : Int)).toNat = n - a.length := by rw [List.length_map]; omega
    have eb : ((n : Int) - ((b.map V.int).length : Int)).toNat = n - b.length := by rw [List.length_map]; omega
    refine ⟨L1, R1, _, _, rfl, rfl, s3 _ _ (s2 _ _ upd_same), upd_same, (by rw [ea]; have := pad_len a n ka; rw [List.length_append] at this; rw [this, sizeLine_eq]; omega), fun P1 hP1 => ?_⟩
    have s13 := s12.trans (s3.trans (same_new (o := .lst (a.map V.int ++ (List.replicate ((n : Int) - (a.map V.int).length).toNat [V.int 0]).flatten)) hP1))
    generalize hH1 : upd _ P1 (.lst (a.map V.int ++ (List.replicate ((n : Int) - (a.map V.int).length).toNat [V.int 0]).flatten)) = H1 at s13 ⊢
    have p1 : H1 P1 = some (.lst (a.map V.int ++ (List.replicate (n - a.length) [V.int 0]).flatten)) := by rw [← hH1, upd_same, ea]
    refine ⟨_, rfl, bA, _, rfl, .inr (SqT.of (s13 _ _ b1)), fun L2 hL2 => ⟨(show 1 ≤ sizeLine by decide), fun Z2 hZ2 => ?_⟩⟩
    have s4 : Same H1 (upd H1 L2 (.lst (b.map V.int))) := same_new hL2
    have s5 : Same (upd H1 L2 (.lst (b.map V.int))) (upd (upd H1 L2 (.lst (b.map V.int))) Z2 (.lst [.int 0])) := same_new hZ2
    have s45 := s4.trans s5
    refine ⟨_, rfl, _, rfl, bA, _, rfl, .inr (SqT.of (s45 _ _ (s13 _ _ b1))), _, _, rfl, rfl, Z2, _, _, rfl, rfl, upd_same, (by rw [List.length_map]; omega), (by rw [List.length_map]; omega), (by rw [List.length_map, sizeLine_eq]; simp only [List.length_singleton]; omega), fun R2 hR2 => ?_⟩
    have s6 : Same (upd (upd H1 L2 (.lst (b.map V.int))) Z2 (.lst [.int 0])) (upd _ R2 (.lst (List.replicate ((n : Int) - (b.map V.int).length).toNat [V.int 0]).flatten)) := same_new hR2
    refine ⟨L2, R2, _, _, rfl, rfl, s6 _ _ (s5 _ _ upd_same), upd_same, (by rw [eb]; have := pad_len b n kb; rw [List.length_append] at this; rw [this, sizeLine_eq]; omega), fun P2 hP2 => ?_⟩
    have s46 := s45.trans (s6.trans (same_new (o := .lst (b.map V.int ++ (List.replicate ((n : Int) - (b.map V.int).length).toNat [V.int 0]).flatten)) hP2))
    generalize hH2 : upd _ P2 (.lst (b.map V.int ++ (List.replicate ((n : Int) - (b.map V.int).length).toNat [V.int 0]).flatten)) = H2 at s46 ⊢
    have p2 : H2 P2 = some (.lst (b.map V.int ++ (List.replicate (n - b.length) [V.int 0]).flatten)) := by rw [← hH2, upd_same, eb]
    refine ⟨_, rfl, _, rfl, false, false, P1, P2, _, _, rfl, SqL.of (s46 _ _ p1), SqL.of p2, fun D hD => ?_⟩
    refine lc_zip (pad_len a n ka) (pad_len b n kb) (fun _ j v => v = V.int ((cf a j + cf b j) % N.p)) hD (by omega) (fun _ _ _ _ _ p => p) (SqL.of (s46 _ _ p1)) (SqL.of p2) (fun m y1 y2 H3 H4 Z' hm t3 t4 e1 e2 hz' => ?_) fun H3 us t3 h1 h2 h3 => ?_
    · obtain rfl := pad_at a n m y1 e1
      obtain rfl := pad_at b n m y2 e2
      exact ⟨rfl, _, rfl, _, rfl, _, _, rfl, rfl, _, rfl, na, C, dx, fs, _, rfl, t4 _ _ (s46 _ _ (s13 _ _ hA)), T.cl, T.nP, lp, _, _, rfl, rfl, (by omega), hz' _ _ (Same.refl _) rfl⟩
    · refine ⟨D, addL N.p a b, rfl, ?_, by unfold addL; rw [List.length_map, List.length_range, hn]; omega, fun H' v s h => q _ _ (s13.trans (s46.trans (t3.trans s))) h⟩
      rw [h1, ints_by h2 h3]
      unfold addL
      rw [hn]

theorem scTimes : FnScope ["net", "one", "two", "found", "_", "i", "first", "k", "second"] ["net", "one", "two"] (defScope sTimes) := ⟨rfl, rfl, rfl, by decide +kernel, rfl, by decide +kernel, by decide +kernel⟩
theorem ok_Times {f : Addr} {fd : FuncData} (F : Fun K "times" "times" sTimes f fd) (T : Txt K mg C) (cT : Cal P w K mg base "trimmed" 1 ["numbers"] (spTrim K)) : FnOk P w K mg base CX0 2 f fd ["net", "one", "two"] (spTimes C) := by
  obtain ⟨fT, fdT, GT, gT, kT, bT⟩ := cT.ex
  refine F.ok scTimes (fun vs H Q E h => ?_) (fun cdv A outer s H vs Q E hr h => ?_)
  · obtain ⟨N, nv, av, bv, a, b, rfl, _⟩ := h
    rfl
  · obtain ⟨N, nv, av, bv, a, b, rfl, hN, ha, hb, sa, la, lb, q⟩ := h
    have hrT : Room 1 _ := hr.mono (by decide)
    refine ⟨_, (pss_cons (ps_if (PW.pt (pw_or (pt_cmpR op_eq (pe_callB (lenK K) (by rfl) T.len PySem.boot_len (pa_cons (pv 1) pa_nil)) pe_int (nomark _)) (pw_or1 (pt_cmpR op_eq (pe_callB (lenK K) (by rfl) T.len PySem.boot_len (pa_cons (pv 2) pa_nil)) pe_int (nomark _))))) (
        pss_one (ps_ret (pe_tup pa_nil))) pss_nil)
      (pss_cons (ps_setLc (i := 3) (own := [("_", 4)]) (g := (gName 4)) (tt := tYes) rfl scTimes.nd rfl rfl (sw_true rfl rfl rfl (by decide +kernel)) (pi_range1 (by rfl) T.range (pa_cons (pe_op op_sub (pe_op op_add (pe_callB (lenK K) (by rfl) T.len PySem.boot_len (pa_cons (pv 1) pa_nil)) (pe_callB (lenK K) (by rfl) T.len PySem.boot_len (pa_cons (pv 2) pa_nil))) pe_int) pa_nil)) (blkOk_by (by kernel_rfl)) (fun _ _ _ _ _ => (gn 4 scTimes.nd)) (fun _ _ _ _ _ => pts_nil) (fun _ _ _ _ _ => pe_int))
      (pss_cons (ps_for PassesOwn.never rfl (enumK K (by rfl) T.enumerate (pa_cons (pv 1) pa_nil)) (gtupK K (pgs_cons (gn 5 scTimes.nd) (pgs_cons (gn 6 scTimes.nd) pgs_nil))) (
        pss_one (ps_for PassesOwn.never rfl (enumK K (by rfl) T.enumerate (pa_cons (pv 2) pa_nil)) (gtupK K (pgs_cons (gn 7 scTimes.nd) (pgs_cons (gn 8 scTimes.nd) pgs_nil))) (
          pss_one (ps_asg (pe_op op_mod (pe_op op_add (pe_ix (ixL K) (pv 3) (pe_op op_add (pv 5) (pv 7)) (fun _ _ => rfl)) (pe_op op_mul (pv 6) (pv 8))) (fldK K (pv 0))) (pg_sub (pv 3) (pe_op op_add (pv 5) (pv 7)) set_list))))))
      (pss_one (ps_ret (pe_call GT hrT (by rfl) gT kT bT .nil pass0 (pa_cons (pv 3) pa_nil))))))), ?_⟩
    -- 0:net 1:one 2:two 3:found 4:_ 5:i 6:first 7:k 8:second
    obtain ⟨na, dx, fs, wa, ka, rfl, hA, lp, _⟩ := id hN
    obtain ⟨aA, rfl, a1⟩ := ha
    obtain ⟨bA, rfl, b1⟩ := hb
    have hp := N.hp
    have al : (a.map V.int).length = a.length := List.length_map ..
    have bl : (b.map V.int).length = b.length := List.length_map ..
    refine ⟨_, rfl, aA, _, rfl, .inr (SqT.of a1), rfl, _, rfl, ?_⟩
    have empty : ∀ (h : a = [] ∨ b = []), (0 : Nat) ≤ sizeLine ∧ ∀ p, H p = none → Q (.ref p) (upd H p (.tup [])) := fun h => ⟨Nat.zero_le _, fun p hp => q _ _ (same_new hp) ⟨p, rfl, by rw [upd_same, mulL_nil h]; rfl⟩⟩
    by_cases ha0 : a = []
    · rw [decide_eq_true (show V.int ((a.map V.int).length : Nat) = V.int 0 by rw [al, ha0]; rfl)]
      exact iteT (iteT (empty (.inl ha0)))
    have ap : 0 < a.length := List.length_pos_iff.mpr ha0
    rw [decide_eq_false (show ¬ V.int ((a.map V.int).length : Nat) = V.int 0 from fun z => by have := V.int.inj z; omega)]
    refine iteF ⟨_, rfl, bA, _, rfl, .inr (SqT.of b1), rfl, _, rfl, ?_⟩
    by_cases hb0 : b = []
    · rw [decide_eq_true (show V.int ((b.map V.int).length : Nat) = V.int 0 by rw [bl, hb0]; rfl)]
      exact iteT (empty (.inr hb0))
    have bp : 0 < b.length := List.length_pos_iff.mpr hb0
    rw [decide_eq_false (show ¬ V.int ((b.map V.int).length : Nat) = V.int 0 from fun z => by have := V.int.inj z; omega)]
    refine iteF ?_
    -- found = [0 for _ in range(len(one) + len(two) - 1)]
    refine ⟨_, rfl, aA, _, rfl, .inr (SqT.of a1), _, rfl, bA, _, rfl, .inr (SqT.of b1), _, _, rfl, rfl, _, _, rfl, rfl, _, rfl, by omega, by omega, fun D hD => ?_⟩
    have eL : (((a.map V.int).length : Nat) : Int) + ((b.map V.int).length : Nat) - 1 = ((a.length + b.length - 1 : Nat) : Int) := by omega
    rw [eL]
    generalize hL : a.length + b.length - 1 = L
    refine lc_pure (walk_range (lo := 0) (n := L)) (fun _ j v => v = V.int 0) hD (by omega) (fun _ _ _ _ _ p => p) (fun _ _ => trivial) (fun m x H1 H2 Z hm s1 hy hz => ?_) fun H1 us s1 h1 h2 h3 => ?_
    · obtain ⟨rfl, rfl⟩ := hy
      exact ⟨rfl, hz _ _ (Same.refl _) rfl⟩
    -- the loops
    refine ⟨_, rfl, true, aA, _, rfl, SqT.of (s1 _ _ a1), ?_⟩
    refine for_enum al (fun i σ H' => ∃ vs y5 y6 y7 y8, σ = [some (.ref na), some (.ref aA), some (.ref bA), some (.ref D), none, y5, y6, y7, y8] ∧ Same H H' ∧ H' D = some (.lst vs) ∧ vs.length = L ∧ ∀ m v, vs[m]? = some v → v = V.int (gS a b i m % N.p))
      ⟨us, none, none, none, none, rfl, s1, h1, h2, fun m v e => by rw [h3 m v e]; show V.int 0 = V.int (0 % N.p); rw [Int.zero_emod]⟩ (fun m σ H' p => ?_) ?_ ?_
    · obtain ⟨_, _, _, _, _, _, s, _⟩ := p
      exact SqT.of (s _ _ a1)
    · rintro i x σ H2 H3 hi ⟨vs, y5, y6, y7, y8, rfl, s2, e1, e2, e3⟩ s23 ex
      obtain rfl := cf_at ex
      have s3 := s2.trans s23
      refine ⟨_, rfl, true, bA, _, rfl, SqT.of (s3 _ _ b1), ?_⟩
      refine for_enum bl (fun k σ H' => ∃ vs y7 y8, σ = [some (.ref na), some (.ref aA), some (.ref bA), some (.ref D), none, some (.int i), some (.int (cf a i)), y7, y8] ∧ Same H H' ∧ H' D = some (.lst vs) ∧ vs.length = L ∧ ∀ m v, vs[m]? = some v → v = V.int (gK a b i k m % N.p))
        ⟨vs, y7, y8, rfl, s3, s23 _ _ e1, e2, fun m v e => by rw [gK_zero]; exact e3 m v e⟩ (fun m σ H' p => ?_) ?_ ?_
      · obtain ⟨_, _, _, _, s, _⟩ := p
        exact SqT.of (s _ _ b1)
      · rintro k x σ H4 H5 hk ⟨ws, y7, y8, rfl, s4, g1, g2, g3⟩ s45 ey
        obtain rfl := cf_at ey
        have s5 := s4.trans s45
        have g1' := s45 _ _ g1
        obtain ⟨u, eu⟩ := at_lt g2 (show i + k < L by omega)
        obtain rfl := g3 _ u eu
        have sm := sa _ (cf_mem hi)
        have ej : ixN ws.length ((i : Int) + (k : Int)) = some (i + k) := by
          have := (atI_nat eu : atI ws ((i + k : Nat) : Int) = _)
          unfold ixN
          rw [if_pos (by omega), if_pos (by omega)]
          congr 1
        refine ⟨_, rfl, _, rfl, _, rfl, _, _, rfl, rfl, D, ws, _, _, rfl, rfl, SqL.of g1', (show atI ws ((i : Int) + (k : Int)) = some _ by rw [← Int.natCast_add]; exact atI_nat eu), _, rfl, _, rfl, _, _, rfl, rfl, .inl (small64 (by omega) (by omega)), _, _, rfl, rfl, _, rfl, na, C, dx, fs, _, rfl, s5 _ _ hA, T.cl, T.nP, lp, _, _, rfl, rfl, (by omega), ?_⟩
        refine ⟨_, rfl, _, rfl, _, rfl, _, _, rfl, rfl, D, ws, _, i + k, rfl, rfl, g1', ej, ?_⟩
        refine ⟨_, _, _, rfl, same_over s5 hD, upd_same, by rw [List.length_set, g2], fun m v e => ?_⟩
        by_cases hm : m = i + k
        · subst hm
          rw [List.getElem?_set_self (by omega)] at e
          cases e
          rw [gK_here]
          show V.int ((gK a b i k (i + k) % N.p + cf a i * cf b k) % N.p) = _
          rw [Int.emod_add_emod]
        · rw [List.getElem?_set_ne (fun z => hm z.symm)] at e
          rw [gK_same a b i k m hm]
          exact g3 m v e
      · rintro σ H4 ⟨ws, y7, y8, rfl, s4, g1, g2, g3⟩
        exact ⟨ws, _, _, _, _, rfl, s4, g1, g2, fun m v e => by rw [← gK_all]; exact g3 m v e⟩
    · rintro σ H2 ⟨vs, y5, y6, y7, y8, rfl, s2, e1, e2, e3⟩
      refine ⟨_, rfl, D, mulL N.p a b, rfl, ?_, by unfold mulL; rw [List.length_map, List.length_range]; omega, fun H' v s h => q _ _ (s2.trans s) h⟩
      rw [e1, ints_by e2 e3]
      unfold mulL
      rw [hL]
      rfl

theorem scConst : FnScope ["net", "number"] ["net", "number"] (defScope sConst) := ⟨rfl, rfl, rfl, by decide +kernel, rfl, by decide +kernel, by decide +kernel⟩
theorem ok_Const {f : Addr} {fd : FuncData} (F : Fun K "constant" "constant" sConst f fd) (T : Txt K mg C) (cT : Cal P w K mg base "trimmed" 1 ["numbers"] (spTrim K)) : FnOk P w K mg base CX0 2 f fd ["net", "number"] (spConst C) := by
  obtain ⟨fT, fdT, GT, gT, kT, bT⟩ := cT.ex
  refine F.ok scConst (fun vs H Q E h => ?_) (fun cdv A outer s H vs Q E hr h => ?_)
  · obtain ⟨N, nv, c, rfl, _⟩ := h
    rfl
  · obtain ⟨N, nv, c, rfl, hN, q⟩ := h
    have hrT : Room 1 _ := hr.mono (by decide)
    refine ⟨_, (
      pss_one (ps_ret (pe_call GT hrT (by rfl) gT kT bT .nil pass0 (pa_cons (pe_lst (pa_cons (pe_op op_mod (pv 1) (fldK K (pv 0))) pa_nil)) pa_nil)))), ?_⟩
    -- 0:net 1:number
    obtain ⟨na, dx, fs, wa, ka, rfl, hA, lp, _⟩ := id hN
    refine ⟨_, rfl, _, rfl, na, C, dx, fs, _, rfl, hA, T.cl, T.nP, lp, _, _, rfl, rfl, (by have := N.hp; omega), (show 1 ≤ sizeLine by decide), fun D hD => ?_⟩
    exact ⟨D, [c % N.p], rfl, upd_same, (by show 1 ≤ 10000; omega), fun H' v s h => q _ _ ((same_new hD).trans s) h⟩

theorem scWPol : FnScope ["net", "place", "found", "layer", "matrix", "rows", "i", "row", "line", "k", "weight"] ["net", "place"] (defScope sWPol) := ⟨rfl, rfl, rfl, by decide +kernel, rfl, by decide +kernel, by decide +kernel⟩
theorem ok_WPol {f : Addr} {fd : FuncData} (F : Fun K "weight_polynomials" "weight_polynomials" sWPol f fd) (T : Txt K mg C) (cT : Cal P w K mg base "trimmed" 1 ["numbers"] (spTrim K)) (cK : Cal P w K mg base "constant" 2 ["net", "number"] (spConst C)) : FnOk P w K mg base CX0 3 f fd ["net", "place"] (spWPol C) := by
  obtain ⟨fT, fdT, GT, gT, kT, bT⟩ := cT.ex
  obtain ⟨fK, fdK, GK, gK, kK, bK⟩ := cK.ex
  refine F.ok scWPol (fun vs H Q E h => ?_) (fun cdv A outer s H vs Q E hr h => ?_)
  · obtain ⟨N, nv, T0, l0, i0, k0, rfl, _⟩ := h
    rfl
  · obtain ⟨N, nv, T0, l0, i0, k0, rfl, hN, hT, q⟩ := h
    have hrT : Room 1 _ := hr.mono (by decide)
    have hrK : Room 2 _ := hr.mono (by decide)
    refine ⟨_, (pss_cons (st 2 scWPol.nd (pe_lst pa_nil))
      (pss_cons (ps_for PassesOwn.never rfl (enumK K (by rfl) T.enumerate (pa_cons (fldK K (pv 0)) pa_nil)) (gtupK K (pgs_cons (gn 3 scWPol.nd) (pgs_cons (gn 4 scWPol.nd) pgs_nil))) (pss_cons (st 5 scWPol.nd (pe_lst pa_nil))
        (pss_cons (ps_for PassesOwn.never rfl (enumK K (by rfl) T.enumerate (pa_cons (pv 4) pa_nil)) (gtupK K (pgs_cons (gn 6 scWPol.nd) (pgs_cons (gn 7 scWPol.nd) pgs_nil))) (pss_cons (st 8 scWPol.nd (pe_lst pa_nil))
          (pss_cons (ps_for PassesOwn.never rfl (enumK K (by rfl) T.enumerate (pa_cons (pv 7) pa_nil)) (gtupK K (pgs_cons (gn 9 scWPol.nd) (pgs_cons (gn 10 scWPol.nd) pgs_nil))) (
            pss_one (ps_if (pt_cmpR (op_eqD hr.units) (pe_tup (pa_cons (pv 3) (pa_cons (pv 6) (pa_cons (pv 9) pa_nil)))) (pv 1) (nomark _)) (
              pss_one (ps_expr (pe_bm PySem.F.plainAttrs_list PySem.F.slot_list_append PySem.F.type_list_append mt_append (pv 8) (pa_cons (pe_call GT hrT (by rfl) gT kT bT .nil pass0 (pa_cons (pe_lst (pa_cons (pv 10) (pa_cons pe_int pa_nil))) pa_nil)) pa_nil)))) (
              pss_one (ps_expr (pe_bm PySem.F.plainAttrs_list PySem.F.slot_list_append PySem.F.type_list_append mt_append (pv 8) (pa_cons (pe_call GK hrK (by rfl) gK kK bK .nil pass0 (pa_cons (pv 0) (pa_cons (pv 10) pa_nil))) pa_nil)))))))
          (pss_one (ps_expr (pe_bm PySem.F.plainAttrs_list PySem.F.slot_list_append PySem.F.type_list_append mt_append (pv 5) (pa_cons (pv 8) pa_nil)))))))
        (pss_one (ps_expr (pe_bm PySem.F.plainAttrs_list PySem.F.slot_list_append PySem.F.type_list_append mt_append (pv 2) (pa_cons (pv 5) pa_nil)))))))
      (pss_one (ps_ret (pv 2))))), ?_⟩
    -- 0:net 1:place 2:found 3:layer 4:matrix 5:rows 6:i 7:row 8:line 9:k 10:weight
    obtain ⟨na, dx, fs, wa, ka, rfl, hA, lp, lw, hW, lk, hK⟩ := id hN
    obtain ⟨wA, wvs, rfl, w1, w2, w3⟩ := hW
    have hn := N.hn
    have hw := N.hw
    have hp := N.hp
    refine ⟨Nat.zero_le _, fun D hD => ?_⟩
    have sD : Same H (upd H D (.lst [])) := same_new hD
    refine ⟨_, rfl, na, C, dx, fs, _, rfl, sD _ _ hA, T.cl, T.nW, lw, true, wA, wvs, rfl, SqT.of (sD _ _ w1), ?_⟩
    refine for_enum w2 (fun l σ H' => ∃ us y3 y4 y5 y6 y7 y8 y9 y10, σ = [some (.ref na), some (.ref T0), some (.ref D), y3, y4, y5, y6, y7, y8, y9, y10] ∧ Same H H' ∧ H' D = some (.lst us) ∧ us.length = l ∧
        ∀ j u, us[j]? = some u → LstX (fun b => b = D) N.w (fun i u => LstX (fun b => b = D) N.w (fun k u => Poly (wpM N l0 i0 k0 j i k) H' u) H' u) H' u)
      ⟨[], none, none, none, none, none, none, none, none, rfl, sD, upd_same, rfl, fun j u e => by simp at e⟩ (fun m σ H' p => ?_) ?_ ?_
    · obtain ⟨_, _, _, _, _, _, _, _, _, _, s, _⟩ := p
      exact SqT.of (s _ _ w1)
    · rintro l x σ H1 H2 hl ⟨us, y3, y4, y5, y6, y7, y8, y9, y10, rfl, s1, e1, e2, e3⟩ s12 ex
      obtain ⟨mA, mvs, rfl, m1, m2, m3⟩ := w3 l x ex
      have s2 := s1.trans s12
      have d2 := s12 _ _ e1
      refine ⟨Nat.zero_le _, fun R hR => ?_⟩
      have nDR : D ≠ R := ne_of_none d2 hR
      have sR : Same H2 (upd H2 R (.lst [])) := same_new hR
      refine ⟨_, rfl, true, mA, mvs, rfl, SqT.of (sR _ _ (s2 _ _ m1)), ?_⟩
      refine for_enum m2 (fun i σ H' => ∃ rs y6 y7 y8 y9 y10, σ = [some (.ref na), some (.ref T0), some (.ref D), some (.int l), some (.ref mA), some (.ref R), y6, y7, y8, y9, y10] ∧ Same H2 H' ∧ H' R = some (.lst rs) ∧ rs.length = i ∧
          ∀ j u, rs[j]? = some u → LstX (fun b => b = D ∨ b = R) N.w (fun k u => Poly (wpM N l0 i0 k0 l j k) H' u) H' u)
        ⟨[], y6, y7, y8, y9, y10, rfl, sR, upd_same, rfl, fun j u e => by simp at e⟩ (fun m σ H' p => ?_) ?_ ?_
      · obtain ⟨_, _, _, _, _, _, _, s, _⟩ := p
        exact SqT.of (s _ _ (s2 _ _ m1))
      · rintro i x σ H3 H4 hi ⟨rs, y6, y7, y8, y9, y10, rfl, s3, g1, g2, g3⟩ s34 ex'
        obtain ⟨rA, rvs, rfl, r1, r2, r3⟩ := m3 i x ex'
        have s24 := s3.trans s34
        have s4 := s2.trans s24
        have dR := s34 _ _ g1
        have dD := s24 _ _ d2
        refine ⟨Nat.zero_le _, fun L hL => ?_⟩
        have nDL : D ≠ L := ne_of_none dD hL
        have nRL : R ≠ L := ne_of_none dR hL
        have sL : Same H4 (upd H4 L (.lst [])) := same_new hL
        refine ⟨_, rfl, true, rA, rvs, rfl, SqT.of (sL _ _ (s4 _ _ r1)), ?_⟩
        refine for_enum r2 (fun k σ H' => ∃ ls y9 y10, σ = [some (.ref na), some (.ref T0), some (.ref D), some (.int l), some (.ref mA), some (.ref R), some (.int i), some (.ref rA), some (.ref L), y9, y10] ∧ Same H4 H' ∧ H' L = some (.lst ls) ∧ ls.length = k ∧
            ∀ j u, ls[j]? = some u → Poly (wpM N l0 i0 k0 l i j) H' u)
          ⟨[], y9, y10, rfl, sL, upd_same, rfl, fun j u e => by simp at e⟩ (fun m σ H' p => ?_) ?_ ?_
        · obtain ⟨_, _, _, _, s, _⟩ := p
          exact SqT.of (s _ _ (s4 _ _ r1))
        · rintro k x σ H5 H6 hk ⟨ls, y9, y10, rfl, s5, f1, f2, f3⟩ s56 ex''
          obtain rfl := r3 k x ex''
          have s46 := s5.trans s56
          have s6 := s4.trans s46
          have dL := s56 _ _ f1
          refine ⟨_, rfl, _, rfl, _, rfl, (show 3 ≤ sizeLine by decide), fun T3 hT3 => ?_⟩
          have s7 : Same H6 (upd H6 T3 (.tup [.int l, .int i, .int k])) := same_new hT3
          refine ⟨_, rfl, .tuple [.int l, .int i, .int k], .tuple [.int l0, .int i0, .int k0], .tup (SqT.of upd_same) (.cons (.int _) (.cons (.int _) (.cons (.int _) .nil))), .tup (SqT.of (s7 _ _ (s6 _ _ hT))) (.cons (.int _) (.cons (.int _) (.cons (.int _) .nil))), shaped3 _ _ _, shaped3 _ _ _, _, rfl, ?_⟩
          rw [eqv3]
          generalize hH7 : upd H6 T3 (.tup [.int l, .int i, .int k]) = H7 at s7 ⊢
          have dL7 := s7 _ _ dL
          -- behind the append
          have fin : ∀ H8 v, Same H7 H8 → Poly (wpM N l0 i0 k0 l i k) H8 v → H8 L = some (.lst ls) ∧ Same H4 (upd H8 L (.lst (ls ++ [v]))) ∧ ∀ j u, (ls ++ [v])[j]? = some u → Poly (wpM N l0 i0 k0 l i j) (upd H8 L (.lst (ls ++ [v]))) u := fun H8 v s8 hv => by
            have dL8 := s8 _ _ dL7
            refine ⟨dL8, same_over (s46.trans (s7.trans s8)) hL, at_app f2 (fun j u e => ?_) (poly_mono hv (ts_upd dL8))⟩
            exact poly_mono (f3 j u e) (TS.trans (same_ts (s56.trans (s7.trans s8))) (ts_upd dL8))
          by_cases hc : l = l0 ∧ i = i0 ∧ k = k0
          · rw [decide_eq_true hc]
            refine iteT ⟨_, rfl, .inl ⟨rfl, _, SqL.of dL7⟩, _, rfl, (show 2 ≤ sizeLine by decide), fun E1 hE1 => ?_⟩
            refine ⟨E1, [N.W l i k, 1], rfl, upd_same, (by show 2 ≤ 10000; omega), fun H8 v s8 hv => ?_⟩
            obtain ⟨z1, z2, z3⟩ := fin H8 v ((same_new hE1).trans s8) (by unfold wpM; rw [if_pos hc]; exact hv)
            exact ⟨L, ls, v, rfl, rfl, z1, sizeSmall (by omega), ls ++ [v], _, _, rfl, z2, upd_same, by rw [List.length_append, f2] <;> rfl, z3⟩
          · rw [decide_eq_false hc]
            refine iteF ⟨_, rfl, .inl ⟨rfl, _, SqL.of dL7⟩, _, rfl, _, rfl, N, _, _, rfl, hN.same (s6.trans s7), fun H8 v s8 hv => ?_⟩
            obtain ⟨z1, z2, z3⟩ := fin H8 v s8 (by unfold wpM; rw [if_neg hc]; exact hv)
            exact ⟨L, ls, v, rfl, rfl, z1, sizeSmall (by omega), ls ++ [v], _, _, rfl, z2, upd_same, by rw [List.length_append, f2] <;> rfl, z3⟩
        · rintro σ H5 ⟨ls, y9, y10, rfl, s5, f1, f2, f3⟩
          have dR5 := s5 _ _ dR
          refine ⟨_, rfl, .inl ⟨rfl, _, SqL.of dR5⟩, _, rfl, R, rs, _, rfl, rfl, dR5, sizeSmall (by omega), ?_⟩
          refine ⟨rs ++ [.ref L], _, _, _, _, _, rfl, same_over (s24.trans s5) hR, upd_same, by rw [List.length_append, g2] <;> rfl, at_app g2 (fun j u e => ?_) ?_⟩
          · exact LstX.mono (LstX.mono (g3 j u e) (.same (s34.trans s5)) (fun _ _ q => poly_mono q (same_ts (s34.trans s5))) fun _ z => z) (kp_upd (.inr rfl)) (fun _ _ q => poly_mono q (ts_upd dR5)) fun _ z => z
          · exact ⟨L, ls, rfl, fun z => z.elim (fun z => nDL z.symm) fun z => nRL z.symm, by rw [upd_ne nRL.symm]; exact f1, f2, fun k u e => poly_mono (f3 k u e) (ts_upd dR5)⟩
      · rintro σ H3 ⟨rs, y6, y7, y8, y9, y10, rfl, s3, g1, g2, g3⟩
        have dD3 := s3 _ _ d2
        refine ⟨_, rfl, .inl ⟨rfl, _, SqL.of dD3⟩, _, rfl, D, us, _, rfl, rfl, dD3, sizeSmall (by omega), ?_⟩
        refine ⟨us ++ [.ref R], _, _, _, _, _, _, _, _, rfl, same_over (s2.trans s3) hD, upd_same, by rw [List.length_append, e2] <;> rfl, at_app e2 (fun j u e => ?_) ?_⟩
        · have s13 := s12.trans s3
          exact LstX.mono (LstX.mono (e3 j u e) (.same s13) (fun _ _ q => LstX.mono q (.same s13) (fun _ _ q => poly_mono q (same_ts s13)) fun _ z => z) fun _ z => z) (kp_upd rfl)
            (fun _ _ q => LstX.mono q (kp_upd rfl) (fun _ _ q => poly_mono q (ts_upd dD3)) fun _ z => z) fun _ z => z
        · refine ⟨R, rs, rfl, fun z => nDR z.symm, by rw [upd_ne nDR.symm]; exact g1, g2, fun i u e => ?_⟩
          exact LstX.mono (LstX.mono (g3 i u e) (Kp.refl _ _) (fun _ _ q => q) (G := fun b => b = D) fun _ z => .inl z) (kp_upd rfl) (fun _ _ q => poly_mono q (ts_upd dD3)) fun _ z => z
    · rintro σ H1 ⟨us, y3, y4, y5, y6, y7, y8, y9, y10, rfl, s1, e1, e2, e3⟩
      refine ⟨_, rfl, q _ _ s1 (lst_of e1 e2 fun j u e => ?_)⟩
      exact LstX.mono (e3 j u e) (Kp.refl _ _) (fun _ _ q => LstX.mono q (Kp.refl _ _) (fun _ _ q => q) fun _ z => z.elim) fun _ z => z.elim

theorem scOPol : FnScope ["net", "matrices", "vector", "present", "number", "kind", "rows", "made", "row", "total", "weight"] ["net", "matrices", "vector"] (defScope sOPol) := ⟨rfl, rfl, rfl, by decide +kernel, rfl, by decide +kernel, by decide +kernel⟩
theorem ok_OPol {f : Addr} {fd : FuncData} (F : Fun K "out_polynomials" "out_polynomials" sOPol f fd) (T : Txt K mg C) (cK : Cal P w K mg base "constant" 2 ["net", "number"] (spConst C)) (cP : Cal P w K mg base "plus" 2 ["net", "one", "two"] (spPlus C)) (cX : Cal P w K mg base "times" 2 ["net", "one", "two"] (spTimes C)) : FnOk P w K mg base CX0 3 f fd ["net", "matrices", "vector"] (spOPol C) := by
  obtain ⟨fK, fdK, GK, gK, kK, bK⟩ := cK.ex
  obtain ⟨fP, fdP, GP, gP, kP, bP⟩ := cP.ex
  obtain ⟨fX, fdX, GX, gX, kX, bX⟩ := cX.ex
  refine F.ok scOPol (fun vs H Q E h => ?_) (fun cdv A outer s H vs Q E hr h => ?_)
  · obtain ⟨N, nv, mv, xv, M, x, rfl, _⟩ := h
    rfl
  · obtain ⟨N, nv, mv, xv, M, x, rfl, hN, hM, hb, hx, q⟩ := h
    have hrK : Room 2 _ := hr.mono (by decide)
    have hrP : Room 2 _ := hr.mono (by decide)
    have hrX : Room 2 _ := hr.mono (by decide)
    refine ⟨_, (pss_cons (ps_setLc (i := 3) (own := [("number", 4)]) (g := (gName 4)) (tt := tYes) rfl scOPol.nd rfl rfl (sw_true rfl rfl rfl (by decide +kernel)) (tupI K (pv 2)) (blkOk_by (by kernel_rfl)) (fun _ _ _ _ _ => (gn 4 scOPol.nd)) (fun _ _ _ _ _ => pts_nil) (fun _ _ _ _ _ => (pe_call GK hrK (by rfl) gK kK bK .nil pass0 (pa_cons (pv 0) (pa_cons (pv 4) pa_nil)))))
      (pss_cons (ps_for PassesOwn.never rfl (zipK K (by rfl) T.zip (pa_cons (fldK K (pv 0)) (pa_cons (pv 1) pa_nil))) (gtupK K (pgs_cons (gn 5 scOPol.nd) (pgs_cons (gn 6 scOPol.nd) pgs_nil))) (pss_cons (st 7 scOPol.nd (pe_lst pa_nil))
        (pss_cons (ps_for PassesOwn.never rfl (lstI K (pv 6)) (gn 8 scOPol.nd) (pss_cons (st 9 scOPol.nd (pe_tup pa_nil))
          (pss_cons (ps_for PassesOwn.never rfl (zipK K (by rfl) T.zip (pa_cons (pv 8) (pa_cons (pv 3) pa_nil))) (gtupK K (pgs_cons (gn 10 scOPol.nd) (pgs_cons (gn 4 scOPol.nd) pgs_nil))) (
            pss_one (st 9 scOPol.nd (pe_call GP hrP (by rfl) gP kP bP .nil pass0 (pa_cons (pv 0) (pa_cons (pv 9) (pa_cons (pe_call GX hrX (by rfl) gX kX bX .nil pass0 (pa_cons (pv 0) (pa_cons (pv 10) (pa_cons (pv 4) pa_nil)))) pa_nil)))))))
          (pss_one (ps_expr (pe_bm PySem.F.plainAttrs_list PySem.F.slot_list_append PySem.F.type_list_append mt_append (pv 7) (pa_cons (pe_ifExp (pt_cmpR op_eq (pv 5) pe_str (nomark _)) (pe_call GX hrX (by rfl) gX kX bX .nil pass0 (pa_cons (pv 0) (pa_cons (pv 9) (pa_cons (pv 9) pa_nil)))) (pv 9)) pa_nil)))))))
        (pss_one (st 3 scOPol.nd (pv 7))))))
      (pss_one (ps_ret (pv 3))))), ?_⟩
    -- 0:net 1:matrices 2:vector 3:present 4:number 5:kind 6:rows 7:made 8:row 9:total 10:weight
    obtain ⟨na, dx, fs, wa, ka, rfl, hA, lp, lw, hW, lk, hK⟩ := id hN
    obtain ⟨kA, kvs, rfl, k1, k2, k3⟩ := hK
    obtain ⟨mA, mvs, rfl, _, m1, m2, m3⟩ := hM
    obtain ⟨xA, xvs, rfl, x1, x2, x3⟩ := hx
    have hn := N.hn
    have hw := N.hw
    have hp := N.hp
    have hM2 : ∀ l i k, (M l i k).length ≤ 2 := fun l i k => (hb l i k).2
    have two : ∀ l, l ≤ N.n → 2 ^ (l + 1) ≤ 16 := fun l hl => Nat.le_trans (Nat.pow_le_pow_right (by decide) (show l + 1 ≤ 4 by omega)) (by decide)
    refine ⟨_, rfl, xA, rfl, ⟨_, SqT.of x1⟩, fun D hD => ?_⟩
    refine lc_pure (wTup x2) (fun H' i v => Poly (poM N.p N.w N.k M x 0 i) H' v) hD (by omega) (fun _ _ _ _ t p => poly_mono p t) (fun H' s => seqT_of x1 (same_ts s)) (fun i u H1 H2 Z hi s1 hy hz => ?_) fun H1 us s1 h1 h2 h3 => ?_
    · obtain ⟨rfl, eu⟩ := hy
      obtain rfl := x3 i u eu
      exact ⟨rfl, _, rfl, _, rfl, N, _, _, rfl, hN.same s1, fun H' v s h => hz _ _ s h⟩
    refine ⟨_, rfl, na, C, dx, fs, _, rfl, s1 _ _ hA, T.cl, T.nK, lk, _, rfl, true, false, kA, mA, kvs, mvs, rfl, SqT.of (s1 _ _ k1), SqL.of (s1 _ _ m1), ?_⟩
    refine for_zip k2 m2 (fun l σ H' => ∃ v3 y4 y5 y6 y7 y8 y9 y10, σ = [some (.ref na), some (.ref mA), some (.ref xA), some v3, y4, y5, y6, y7, y8, y9, y10] ∧ Same H H' ∧ LstF N.w (fun i u => Poly (poM N.p N.w N.k M x l i) H' u) H' v3)
      ⟨.ref D, none, none, none, none, none, none, none, rfl, s1, lst_of h1 h2 h3⟩ (fun m σ H' p => ?_) ?_ ?_
    · obtain ⟨_, _, _, _, _, _, _, _, _, s, _⟩ := p
      exact ⟨SqT.of (s _ _ k1), SqL.of (s _ _ m1)⟩
    · rintro l x' y' σ H2 H3 hl ⟨v3, y4, y5, y6, y7, y8, y9, y10, rfl, s2, hpres⟩ s23 ex ey
      obtain rfl := k3 l x' ex
      obtain ⟨rA, rvs, rfl, _, r1, r2, r3⟩ := m3 l y' ey
      have s3 := s2.trans s23
      obtain ⟨pA, pvs, rfl, _, p1, p2, p3⟩ := hpres
      have hlen : ∀ i, (poM N.p N.w N.k M x l i).length ≤ 2 ^ (l + 1) - 1 := fun i => by have := (po_ok (w := N.w) (ks := N.k) hp x hM2 l i).2; omega
      have t16 := two l (by omega)
      refine ⟨Nat.zero_le _, fun E hE => ?_⟩
      have sE : Same H3 (upd H3 E (.lst [])) := same_new hE
      refine ⟨_, rfl, rA, rfl, ⟨_, SqL.of (sE _ _ (s3 _ _ r1))⟩, ?_⟩
      refine for_it (wLst r2) (fun i σ H' => ∃ ms y4 y8 y9 y10, σ = [some (.ref na), some (.ref mA), some (.ref xA), some (.ref pA), y4, some (.str (kStr (N.k l))), some (.ref rA), some (.ref E), y8, y9, y10] ∧ Same H3 H' ∧ H' E = some (.lst ms) ∧ ms.length = i ∧ ∀ j u, ms[j]? = some u → Poly (poM N.p N.w N.k M x (l + 1) j) H' u)
        ⟨[], y4, y8, y9, y10, rfl, sE, upd_same, rfl, fun j u e => by simp at e⟩ (fun i σ H' _ p => ?_) ?_ ?_
      · obtain ⟨_, _, _, _, _, _, s, _⟩ := p
        exact SqL.of (s _ _ (s3 _ _ r1))
      · rintro i u σ H4 H5 hi ⟨ms, y4, y8, y9, y10, rfl, s4, e1, e2, e3⟩ ⟨rfl, eu⟩
        obtain ⟨wA, wvs, rfl, _, w1, w2, w3⟩ := r3 i u eu
        refine ⟨Nat.zero_le _, fun T0 hT0 => ?_⟩
        have sT : Same H5 (upd H5 T0 (.tup [])) := same_new hT0
        refine ⟨_, rfl, _, rfl, false, false, wA, pA, wvs, pvs, rfl, SqL.of (sT _ _ (s4 _ _ (s3 _ _ w1))), SqL.of (sT _ _ (s4 _ _ (s23 _ _ p1))), ?_⟩
        refine for_zip w2 p2 (fun k σ H' => ∃ v9 y4 y10, σ = [some (.ref na), some (.ref mA), some (.ref xA), some (.ref pA), y4, some (.str (kStr (N.k l))), some (.ref rA), some (.ref E), some (.ref wA), some v9, y10] ∧ Same H5 H' ∧ Poly (totM N.p (M l i) (poM N.p N.w N.k M x l) k) H' v9)
          ⟨.ref T0, y4, y10, rfl, sT, T0, rfl, upd_same⟩ (fun m σ H' p => ?_) ?_ ?_
        · obtain ⟨_, _, _, _, s, _⟩ := p
          exact ⟨SqL.of (s _ _ (s4 _ _ (s3 _ _ w1))), SqL.of (s _ _ (s4 _ _ (s23 _ _ p1)))⟩
        · rintro k z1 z2 σ H6 H7 hk ⟨v9, y4, y10, rfl, s6, hv9⟩ s67 f1 f2
          have g1 := w3 k z1 f1
          have g2 := p3 k z2 f2
          have s7 := s6.trans s67
          have s37 := s4.trans s7
          have ht := tot_ok hp (A := M l i) (B := poM N.p N.w N.k M x l) (hM2 l i) hlen k
          have hb2 := (hb l i k).2
          have hb3 := hlen k
          refine ⟨_, rfl, _, rfl, _, rfl, _, rfl, _, rfl, N, _, z1, z2, _, _, rfl, hN.same (s3.trans s37), poly_mono g1 (same_ts (s3.trans s37)), poly_mono g2 (same_ts (s23.trans s37)), (hb l i k).1, by omega, by omega, fun H8 v8 s8 h8 => ?_⟩
          have tl := trim_len (mulL N.p (M l i k) (poM N.p N.w N.k M x l k))
          rw [mulL_len] at tl
          refine ⟨N, _, v9, v8, _, _, rfl, hN.same ((s3.trans s37).trans s8), poly_mono hv9 (same_ts (s67.trans s8)), h8, by omega, by omega, fun H9 v s9 h9 => ?_⟩
          exact ⟨v, _, _, rfl, s7.trans (s8.trans s9), h9⟩
        · rintro σ H6 ⟨v9, y4, y10, rfl, s6, hv9⟩
          have ht := tot_ok hp (A := M l i) (B := poM N.p N.w N.k M x l) (hM2 l i) hlen N.w
          have eE := s6 _ _ e1
          refine ⟨_, rfl, .inl ⟨rfl, _, SqL.of eE⟩, _, rfl, rfl, _, rfl, ?_⟩
          rw [kStr_sq]
          have fin : ∀ H8 v, Same H6 H8 → Poly (poM N.p N.w N.k M x (l + 1) i) H8 v → H8 E = some (.lst ms) ∧ Same H3 (upd H8 E (.lst (ms ++ [v]))) ∧ ∀ j u, (ms ++ [v])[j]? = some u → Poly (poM N.p N.w N.k M x (l + 1) j) (upd H8 E (.lst (ms ++ [v]))) u := fun H8 v s8 hv => by
            have dL8 := s8 _ _ eE
            refine ⟨dL8, same_over (s4.trans (s6.trans s8)) hE, at_app e2 (fun j u e => ?_) (poly_mono hv (ts_upd dL8))⟩
            exact poly_mono (e3 j u e) (TS.trans (same_ts (s6.trans s8)) (ts_upd dL8))
          cases hk : N.k l with
          | true =>
            refine iteT ⟨_, rfl, _, rfl, _, rfl, N, _, v9, v9, _, _, rfl, hN.same (s3.trans (s4.trans s6)), hv9, hv9, ht.1, by omega, by omega, fun H8 v s8 hv => ?_⟩
            obtain ⟨z1, z2, z3⟩ := fin H8 v s8 (by show Poly (if N.k l = true then _ else _) H8 v; rw [if_pos hk]; exact hv)
            exact ⟨E, ms, v, rfl, rfl, z1, sizeSmall (by omega), ms ++ [v], _, _, _, _, by rw [← hk], z2, upd_same, by rw [List.length_append, e2] <;> rfl, z3⟩
          | false =>
            refine iteF ⟨_, rfl, ?_⟩
            obtain ⟨z1, z2, z3⟩ := fin H6 v9 (Same.refl _) (by show Poly (if N.k l = true then _ else _) H6 v9; rw [if_neg (by rw [hk]; decide)]; exact hv9)
            exact ⟨E, ms, v9, rfl, rfl, z1, sizeSmall (by omega), ms ++ [v9], _, _, _, _, by rw [← hk], z2, upd_same, by rw [List.length_append, e2] <;> rfl, z3⟩
      · rintro σ H4 ⟨ms, y4, y8, y9, y10, rfl, s4, e1, e2, e3⟩
        exact ⟨_, rfl, .ref E, _, _, _, _, _, _, _, rfl, s3.trans s4, lst_of e1 e2 e3⟩
    · rintro σ H2 ⟨v3, y4, y5, y6, y7, y8, y9, y10, rfl, s2, hpres⟩
      exact ⟨_, rfl, q _ _ s2 hpres⟩

theorem scLoss : FnScope ["net", "batch", "total", "portion", "vector", "target", "number", "aim"] ["net", "batch"] (defScope sLoss) := ⟨rfl, rfl, rfl, by decide +kernel, rfl, by decide +kernel, by decide +kernel⟩
theorem ok_Loss {f : Addr} {fd : FuncData} (F : Fun K "loss" "loss" sLoss f fd) (T : Txt K mg C) (cF : Cal P w K mg base "forward" 4 ["net", "vector"] (spForward C)) : FnOk P w K mg base CX0 5 f fd ["net", "batch"] (spLoss C) := by
  obtain ⟨fF, fdF, GF, gF, kF, bF⟩ := cF.ex
  refine F.ok scLoss (fun vs H Q E h => ?_) (fun cdv A outer s H vs Q E hr h => ?_)
  · obtain ⟨N, N0, B, nv, bv, rfl, _⟩ := h
    rfl
  · obtain ⟨N, N0, B, nv, bv, rfl, hN, ew, ep, hB, q⟩ := h
    have hrF : Room 4 _ := hr.mono (by decide)
    refine ⟨_, (pss_cons (st 2 scLoss.nd pe_int)
      (pss_cons (ps_for PassesOwn.never rfl (lstI K (pv 1)) (gn 3 scLoss.nd) (
        pss_one (ps_for PassesOwn.never rfl (tupI K (pv 3)) (gtupK K (pgs_cons (gn 4 scLoss.nd) (pgs_cons (gn 5 scLoss.nd) pgs_nil))) (
          pss_one (ps_aug (i := 2) scLoss.nd rfl (by first | exact Or.inl rfl | exact Or.inr rfl) (pe_callB (sumK K) (by rfl) T.sum boot_sum (pa_cons (pe_lc (own := [("number", 6), ("aim", 7)]) (g := (gTup K 2 (gCons (gName 6) (gCons (gName 7) gNil)))) (tt := tYes) rfl scLoss.nd (zipK K (by rfl) T.zip (pa_cons (pe_call GF hrF (by rfl) gF kF bF .nil pass0 (pa_cons (pv 0) (pa_cons (pv 4) pa_nil))) (pa_cons (pv 5) pa_nil))) (blkOk_by (by kernel_rfl)) (fun _ _ _ _ _ => (gtupK K (pgs_cons (gn 6 scLoss.nd) (pgs_cons (gn 7 scLoss.nd) pgs_nil)))) (fun _ _ _ _ _ => pts_nil) (fun _ _ _ _ _ => (pe_op op_pow (pe_op op_sub (pv 6) (pv 7)) pe_int))) pa_nil)) ip_add)))))
      (pss_one (ps_ret (pe_op op_mod (pv 2) (fldK K (pv 0))))))), ?_⟩
    -- 0:net 1:batch 2:total 3:portion 4:vector 5:target 6:number 7:aim
    obtain ⟨na, dx, fs, wa, ka, rfl, hA, lp, _⟩ := id hN
    obtain ⟨bA, bvs, rfl, _, b1, b2, b3⟩ := hB
    have hw := N.hw
    have hp := N.hp
    refine ⟨_, rfl, bA, rfl, ⟨_, SqL.of b1⟩, ?_⟩
    refine for_it (wLst b2) (fun r σ H' => ∃ y3 y4 y5, σ = [some (.ref na), some (.ref bA), some (.int (sumF r fun r => sumF (B.m r) fun e => lossE N (B.x r e) (B.t r e))), y3, y4, y5, none, none] ∧ Same H H')
      ⟨none, none, none, rfl, Same.refl _⟩ (fun i σ H' _ p => ?_) ?_ ?_
    · obtain ⟨_, _, _, _, s⟩ := p
      exact SqL.of (s _ _ b1)
    · rintro r u σ H1 H2 hr ⟨y3, y4, y5, rfl, s1⟩ ⟨rfl, eu⟩
      obtain ⟨pA, pvs, rfl, p1, p2, p3⟩ := b3 r u eu
      refine ⟨_, rfl, pA, rfl, ⟨_, SqT.of (s1 _ _ p1)⟩, ?_⟩
      refine for_it (wTup p2) (fun e σ H' => ∃ y4 y5, σ = [some (.ref na), some (.ref bA), some (.int ((sumF r fun r => sumF (B.m r) fun e => lossE N (B.x r e) (B.t r e)) + sumF e fun e => lossE N (B.x r e) (B.t r e))), some (.ref pA), y4, y5, none, none] ∧ Same H H')
        ⟨y4, y5, by rw [show sumF 0 (fun e => lossE N (B.x r e) (B.t r e)) = 0 from rfl, Int.add_zero]; rfl, s1⟩ (fun i σ H' _ p => ?_) ?_ ?_
      · obtain ⟨_, _, _, s⟩ := p
        exact SqT.of (s _ _ p1)
      · rintro e u σ H3 H4 he ⟨y4, y5, rfl, s3⟩ ⟨rfl, eu'⟩
        obtain ⟨T0, v1, v2, rfl, hT0, hx, ht⟩ := p3 e u eu'
        rw [← ew] at hx ht
        refine ⟨T0, [v1, v2], rfl, SqT.of (s3 _ _ hT0), rfl, v1, [v2], rfl, v2, [], rfl, rfl, ?_⟩
        refine ⟨_, rfl, _, rfl, _, rfl, N, _, v1, B.x r e, rfl, hN.same s3, vec_mono hx (same_ts s3), fun H5 ov s5 ho => ?_⟩
        obtain ⟨oA, ovs, rfl, o1, o2, o3⟩ := ho
        obtain ⟨tA, tvs, rfl, t1, t2, t3⟩ := ht
        have s35 := s3.trans s5
        refine ⟨_, rfl, true, true, oA, tA, ovs, tvs, rfl, SqT.of o1, SqT.of (s35 _ _ t1), fun D hD => ?_⟩
        refine lc_zip o2 t2 (fun _ j v => v = V.int ((inM N (B.x r e) N.n j - B.t r e j) ^ 2)) hD (by omega) (fun _ _ _ _ _ p => p) (SqT.of o1) (SqT.of (s35 _ _ t1)) (fun k z1 z2 H6 H7 Z hk s6 s7 f1 f2 hz => ?_) fun H6 us s6 h1 h2 h3 => ?_
        · obtain rfl := o3 k z1 f1
          obtain rfl := t3 k z2 f2
          have b := outM_bd N (B.x r e) k
          have c := B.ht r e k
          exact ⟨rfl, _, rfl, _, rfl, _, _, rfl, rfl, _, _, rfl, rfl, ⟨by decide, by decide, by omega⟩, hz _ _ (Same.refl _) rfl⟩
        · refine ⟨D, _, rfl, ints_sq h1 h2 h3, ?_⟩
          rw [sum_by]
          refine ⟨_, _, rfl, rfl, ?_⟩
          refine ⟨some v1, some (.ref tA), ?_, s35.trans s6⟩
          exact congrArg (fun z => ([some (.ref na), some (.ref bA), some (.int z), some (.ref pA), some v1, some (.ref tA), none, none] : L2.St)) (Int.add_assoc _ _ _)
      · rintro σ H3 ⟨y4, y5, rfl, s3⟩
        exact ⟨_, _, _, rfl, s3⟩
    · rintro σ H1 ⟨y3, y4, y5, rfl, s1⟩
      exact ⟨_, rfl, _, rfl, na, C, dx, fs, _, rfl, s1 _ _ hA, T.cl, T.nP, lp, _, _, rfl, rfl, (by omega), q _ s1⟩

theorem scLPol : FnScope ["net", "batch", "layer", "i", "k", "matrices", "total", "portion", "vector", "target", "number", "aim", "gap"] ["net", "batch", "layer", "i", "k"] (defScope sLPol) := ⟨rfl, rfl, rfl, by decide +kernel, rfl, by decide +kernel, by decide +kernel⟩
theorem ok_LPol {f : Addr} {fd : FuncData} (F : Fun K "loss_polynomial" "loss_polynomial" sLPol f fd) (T : Txt K mg C) (cW : Cal P w K mg base "weight_polynomials" 3 ["net", "place"] (spWPol C)) (cO : Cal P w K mg base "out_polynomials" 3 ["net", "matrices", "vector"] (spOPol C)) (cK : Cal P w K mg base "constant" 2 ["net", "number"] (spConst C)) (cP : Cal P w K mg base "plus" 2 ["net", "one", "two"] (spPlus C)) (cX : Cal P w K mg base "times" 2 ["net", "one", "two"] (spTimes C)) : FnOk P w K mg base CX0 4 f fd ["net", "batch", "layer", "i", "k"] (spLPol C) := by
  obtain ⟨fW, fdW, GW, gW, kW, bW⟩ := cW.ex
  obtain ⟨fO, fdO, GO, gO, kO, bO⟩ := cO.ex
  obtain ⟨fK, fdK, GK, gK, kK, bK⟩ := cK.ex
  obtain ⟨fP, fdP, GP, gP, kP, bP⟩ := cP.ex
  obtain ⟨fX, fdX, GX, gX, kX, bX⟩ := cX.ex
  refine F.ok scLPol (fun vs H Q E h => ?_) (fun cdv A outer s H vs Q E hr h => ?_)
  · obtain ⟨N, B, nv, bv, l0, i0, k0, rfl, _⟩ := h
    rfl
  · obtain ⟨N, B, nv, bv, l0, i0, k0, rfl, hN, hB, q⟩ := h
    have hrW : Room 3 _ := hr.mono (by decide)
    have hrO : Room 3 _ := hr.mono (by decide)
    have hrK : Room 2 _ := hr.mono (by decide)
    have hrP : Room 2 _ := hr.mono (by decide)
    have hrX : Room 2 _ := hr.mono (by decide)
    refine ⟨_, (pss_cons (st 5 scLPol.nd (pe_call GW hrW (by rfl) gW kW bW .nil pass0 (pa_cons (pv 0) (pa_cons (pe_tup (pa_cons (pv 2) (pa_cons (pv 3) (pa_cons (pv 4) pa_nil)))) pa_nil))))
      (pss_cons (st 6 scLPol.nd (pe_tup pa_nil))
      (pss_cons (ps_for PassesOwn.never rfl (lstI K (pv 1)) (gn 7 scLPol.nd) (
        pss_one (ps_for PassesOwn.never rfl (tupI K (pv 7)) (gtupK K (pgs_cons (gn 8 scLPol.nd) (pgs_cons (gn 9 scLPol.nd) pgs_nil))) (
          pss_one (ps_for PassesOwn.never rfl (zipK K (by rfl) T.zip (pa_cons (pe_call GO hrO (by rfl) gO kO bO .nil pass0 (pa_cons (pv 0) (pa_cons (pv 5) (pa_cons (pv 8) pa_nil)))) (pa_cons (pv 9) pa_nil))) (gtupK K (pgs_cons (gn 10 scLPol.nd) (pgs_cons (gn 11 scLPol.nd) pgs_nil))) (pss_cons (st 12 scLPol.nd (pe_call GP hrP (by rfl) gP kP bP .nil pass0 (pa_cons (pv 0) (pa_cons (pv 10) (pa_cons (pe_call GK hrK (by rfl) gK kK bK .nil pass0 (pa_cons (pv 0) (pa_cons (pe_un un_neg (pv 11)) pa_nil))) pa_nil)))))
            (pss_one (st 6 scLPol.nd (pe_call GP hrP (by rfl) gP kP bP .nil pass0 (pa_cons (pv 0) (pa_cons (pv 6) (pa_cons (pe_call GX hrX (by rfl) gX kX bX .nil pass0 (pa_cons (pv 0) (pa_cons (pv 12) (pa_cons (pv 12) pa_nil)))) pa_nil))))))))))))
      (pss_one (ps_ret (pv 6)))))), ?_⟩
    -- 0:net 1:batch 2:layer 3:i 4:k 5:matrices 6:total 7:portion 8:vector 9:target 10:number 11:aim 12:gap
    obtain ⟨bA, bvs, rfl, _, b1, b2, b3⟩ := hB
    have hw := N.hw
    have hp := N.hp
    have hn := N.hn
    have hO : ∀ x i, (poM N.p N.w N.k (wpM N l0 i0 k0) x N.n i).length ≤ 15 := fun x i => by
      have h1 := (po_ok (w := N.w) (ks := N.k) hp x (fun l i k => (wp_ok N l0 i0 k0 l i k).2) N.n i).2
      have h2 : 2 ^ (N.n + 1) ≤ 16 := Nat.le_trans (Nat.pow_le_pow_right (by decide) (show N.n + 1 ≤ 4 by omega)) (by decide)
      omega
    refine ⟨_, rfl, _, rfl, _, rfl, _, rfl, (show 3 ≤ sizeLine by decide), fun T0 hT0 => ?_⟩
    have sT : Same H (upd H T0 (.tup [.int l0, .int i0, .int k0])) := same_new hT0
    refine ⟨N, nv, T0, l0, i0, k0, rfl, hN.same sT, upd_same, fun H1 mv s1 hM => ?_⟩
    have s01 := sT.trans s1
    refine ⟨Nat.zero_le _, fun T1 hT1 => ?_⟩
    have sT1 : Same H1 (upd H1 T1 (.tup [])) := same_new hT1
    refine ⟨_, rfl, bA, rfl, ⟨_, SqL.of (sT1 _ _ (s01 _ _ b1))⟩, ?_⟩
    generalize hOO : (fun x => poM N.p N.w N.k (wpM N l0 i0 k0) x N.n) = O
    have hO' : ∀ x i, (O x i).length ≤ 15 := fun x i => by rw [← hOO]; exact hO x i
    refine for_it (wLst b2) (fun r σ H' => ∃ v6 y7 y8 y9 y10 y11 y12, σ = [some nv, some (.ref bA), some (.int l0), some (.int i0), some (.int k0), some mv, some v6, y7, y8, y9, y10, y11, y12] ∧ Same H1 H' ∧ Poly (btP N.p N.w O B r) H' v6 ∧ (btP N.p N.w O B r).length ≤ 29)
      ⟨.ref T1, none, none, none, none, none, none, rfl, sT1, ⟨T1, rfl, upd_same⟩, Nat.zero_le _⟩ (fun i σ H' _ p => ?_) ?_ ?_
    · obtain ⟨_, _, _, _, _, _, _, _, s, _⟩ := p
      exact SqL.of (s _ _ (s01 _ _ b1))
    · rintro r u σ H2 H3 hr ⟨v6, y7, y8, y9, y10, y11, y12, rfl, s2, hv6, hl6⟩ ⟨rfl, eu⟩
      obtain ⟨pA, pvs, rfl, p1, p2, p3⟩ := b3 r u eu
      refine ⟨_, rfl, pA, rfl, ⟨_, SqT.of (s2 _ _ (s01 _ _ p1))⟩, ?_⟩
      refine for_it (wTup p2) (fun e σ H' => ∃ v6 y8 y9 y10 y11 y12, σ = [some nv, some (.ref bA), some (.int l0), some (.int i0), some (.int k0), some mv, some v6, some (.ref pA), y8, y9, y10, y11, y12] ∧ Same H1 H' ∧ Poly (ptP N.p N.w O (B.x r) (B.t r) (btP N.p N.w O B r) e) H' v6 ∧ (ptP N.p N.w O (B.x r) (B.t r) (btP N.p N.w O B r) e).length ≤ 29)
        ⟨v6, y8, y9, y10, y11, y12, rfl, s2, hv6, hl6⟩ (fun i σ H' _ p => ?_) ?_ ?_
      · obtain ⟨_, _, _, _, _, _, _, s, _⟩ := p
        exact SqT.of (s _ _ (s01 _ _ p1))
      · rintro e u σ H4 H5 he ⟨v6, y8, y9, y10, y11, y12, rfl, s4, hv6, hl6⟩ ⟨rfl, eu'⟩
        obtain ⟨Te, v1, v2, rfl, hTe, hx, ht⟩ := p3 e u eu'
        have s04 := s01.trans s4
        refine ⟨Te, [v1, v2], rfl, SqT.of (s04 _ _ hTe), rfl, v1, [v2], rfl, v2, [], rfl, rfl, ?_⟩
        refine ⟨_, rfl, _, rfl, _, rfl, N, nv, mv, v1, _, B.x r e, rfl, hN.same s04, LstX.mono hM (.same s4) (fun _ _ q => LstX.mono q (.same s4) (fun _ _ q => LstX.mono q (.same s4) (fun _ _ q => poly_mono q (same_ts s4)) fun _ z => z) fun _ z => z) (fun _ z => z), fun l i k => wp_ok N l0 i0 k0 l i k, vec_mono hx (same_ts s04), fun H6 ov s6 ho => ?_⟩
        obtain ⟨oA, ovs, rfl, _, o1, o2, o3⟩ := ho
        obtain ⟨tA, tvs, rfl, t1, t2, t3⟩ := ht
        have s06 := s04.trans s6
        refine ⟨_, rfl, false, true, oA, tA, ovs, tvs, rfl, SqL.of o1, SqT.of (s06 _ _ t1), ?_⟩
        refine for_zip o2 t2 (fun k σ H' => ∃ v6 y10 y11 y12, σ = [some nv, some (.ref bA), some (.int l0), some (.int i0), some (.int k0), some mv, some v6, some (.ref pA), some v1, some (.ref tA), y10, y11, y12] ∧ Same H6 H' ∧ Poly (exP N.p (O (B.x r e)) (B.t r e) (ptP N.p N.w O (B.x r) (B.t r) (btP N.p N.w O B r) e) k) H' v6)
          ⟨v6, y10, y11, y12, rfl, Same.refl _, poly_mono hv6 (same_ts s6)⟩ (fun m σ H' p => ?_) ?_ ?_
        · obtain ⟨_, _, _, _, _, s, _⟩ := p
          exact ⟨SqL.of (s _ _ o1), SqT.of (s _ _ (s06 _ _ t1))⟩
        · rintro k z1 z2 σ H7 H8 hk ⟨v6, y10, y11, y12, rfl, s7, hv6⟩ s78 f1 f2
          have g1 : Poly (O (B.x r e) k) H6 z1 := by
            rw [← hOO]
            exact o3 k z1 f1
          obtain rfl := t3 k z2 f2
          have s68 := s7.trans s78
          have s08 := s06.trans s68
          have hok := hO' (B.x r e) k
          refine ⟨_, rfl, _, rfl, _, rfl, _, rfl, _, rfl, N, nv, _, rfl, hN.same s08, fun H9 cv s9 hc => ?_⟩
          have lc := trim_len [(-B.t r e k) % N.p]
          simp only [List.length_singleton] at lc
          refine ⟨N, nv, z1, cv, _, _, rfl, hN.same (s08.trans s9), poly_mono g1 (same_ts (s68.trans s9)), hc, by omega, by omega, fun H10 gv s10 hg => ?_⟩
          have lg := trim_len (addL N.p (O (B.x r e) k) (trim [(-B.t r e k) % N.p]))
          rw [addL_len] at lg
          have s010 := (s08.trans s9).trans s10
          refine ⟨_, rfl, _, rfl, _, rfl, _, rfl, _, rfl, N, nv, gv, gv, _, _, rfl, hN.same s010, hg, hg, sm_trim (sm_addL hp _ _), by omega, by omega, fun H11 sv s11 hs => ?_⟩
          have ls := trim_len (mulL N.p (trim (addL N.p (O (B.x r e) k) (trim [(-B.t r e k) % N.p]))) (trim (addL N.p (O (B.x r e) k) (trim [(-B.t r e k) % N.p]))))
          rw [mulL_len] at ls
          have lx := ex_len (p := N.p) (O (B.x r e)) (B.t r e) _ hl6 (hO' (B.x r e)) k
          refine ⟨N, nv, v6, sv, _, _, rfl, hN.same (s010.trans s11), poly_mono hv6 (same_ts ((s78.trans s9).trans (s10.trans s11))), hs, by omega, by omega, fun H12 v s12 h => ?_⟩
          exact ⟨v, _, _, _, rfl, s68.trans ((s9.trans s10).trans (s11.trans s12)), h⟩
        · rintro σ H7 ⟨v6, y10, y11, y12, rfl, s7, hv6⟩
          exact ⟨v6, _, _, _, _, _, rfl, s4.trans (s6.trans s7), hv6, ex_len (p := N.p) (O (B.x r e)) (B.t r e) _ hl6 (hO' (B.x r e)) N.w⟩
      · rintro σ H4 ⟨v6, y8, y9, y10, y11, y12, rfl, s4, hv6, hl6⟩
        exact ⟨v6, _, _, _, _, _, _, rfl, s4, hv6, hl6⟩
    · rintro σ H2 ⟨v6, y7, y8, y9, y10, y11, y12, rfl, s2, hv6, _⟩
      refine ⟨_, rfl, q _ _ (s01.trans s2) ?_⟩
      unfold lpM
      rw [hOO]
      exact hv6

theorem scAt : FnScope ["net", "polynomial", "number", "value", "part"] ["net", "polynomial", "number"] (defScope sAt) := ⟨rfl, rfl, rfl, by decide +kernel, rfl, by decide +kernel, by decide +kernel⟩
theorem ok_At {f : Addr} {fd : FuncData} (F : Fun K "at" "at" sAt f fd) (T : Txt K mg C) : FnOk P w K mg base CX0 1 f fd ["net", "polynomial", "number"] (spAt C) := by
  refine F.ok scAt (fun vs H Q E h => ?_) (fun cdv A outer s H vs Q E hr h => ?_)
  · obtain ⟨N, nv, av, a, t, rfl, _⟩ := h
    rfl
  · obtain ⟨N, nv, av, a, t, rfl, hN, ha, q⟩ := h
    refine ⟨_, (pss_cons (st 3 scAt.nd pe_int)
      (pss_cons (ps_for PassesOwn.never rfl (RT.pi_revA (by rfl) T.reversed (pv 1)) (gn 4 scAt.nd) (
        pss_one (st 3 scAt.nd (pe_op op_mod (pe_op op_add (pe_op op_mul (pv 3) (pv 2)) (pv 4)) (fldK K (pv 0))))))
      (pss_one (ps_ret (pv 3))))), ?_⟩
    -- 0:net 1:polynomial 2:number 3:value 4:part
    obtain ⟨na, dx, fs, wa, ka, rfl, hA, lp, _⟩ := id hN
    obtain ⟨aA, rfl, a1⟩ := ha
    have hp := N.hp
    refine ⟨_, rfl, aA, _, rfl, .inr ⟨SqT.of a1, ?_⟩⟩
    refine RT.for_ItvT (K := K) (fun i σ H' => ∃ y, σ = [some (.ref na), some (.ref aA), some (.int t), some (.int (horn N.p t (a.drop (a.length - i)))), y] ∧ Same H H')
      ⟨none, by rw [Nat.sub_zero, List.drop_length]; rfl, Same.refl _⟩ (fun i σ H' p => ?_) ?_ ?_
    · obtain ⟨_, _, s⟩ := p
      exact SqT.of (s _ _ a1)
    · rintro i x σ H1 hi ex ⟨y, rfl, s1⟩
      rw [List.length_map] at hi ex
      rw [List.getElem?_map, List.getElem?_eq_getElem (by omega)] at ex
      cases ex
      have hb := horn_bd (show 0 < N.p by omega) t (a.drop (a.length - i))
      refine ⟨_, rfl, _, rfl, _, _, rfl, rfl, .inl (small64 (by omega) (by omega)), _, rfl, _, _, rfl, rfl, _, rfl, na, C, dx, fs, _, rfl, s1 _ _ hA, T.cl, T.nP, lp, _, _, rfl, rfl, (by omega), ?_⟩
      refine ⟨some (.int (a[a.length - 1 - i]'(by omega))), ?_, s1⟩
      have e2 : a.drop (a.length - (i + 1)) = a[a.length - 1 - i]'(by omega) :: a.drop (a.length - i) := by
        have e3 : a.length - (i + 1) = a.length - 1 - i := by omega
        have e4 : a.length - i = (a.length - 1 - i) + 1 := by omega
        rw [e3, e4]
        exact List.drop_eq_getElem_cons (by omega)
      rw [e2]
      rfl
    · rintro σ H1 ⟨y, rfl, s1⟩
      rw [List.length_map, Nat.sub_self, List.drop_zero]
      exact ⟨_, rfl, q _ s1⟩

theorem scDraws : FnScope ["_law_script", "_law_many", "_law_rests", "_law_cell", "_law_draws_here", "_law_k", "_law_spot", "_law_mixed"] ["_law_script", "_law_many"] (defScope sDraws) := ⟨rfl, rfl, rfl, by decide +kernel, rfl, by decide +kernel, by decide +kernel⟩
theorem ok_Draws {f : Addr} {fd : FuncData} (F : Fun K "_law_draws" "_law_draws" sDraws f fd) (T : Txt K mg C) : FnOk P w K mg base CX0 1 f fd ["_law_script", "_law_many"] (spDraws K) := by
  refine F.ok scDraws (fun vs H Q E h => ?_) (fun cdv A outer s H vs Q E hr h => ?_)
  · obtain ⟨s, ns, rfl, _⟩ := h
    rfl
  · obtain ⟨s, ns, rfl, hs, hl, q⟩ := h
    refine ⟨_, (pss_cons (ps_setLc (i := 2) (own := [("_law_cell", 3)]) (g := (gName 3)) (tt := tYes) rfl scDraws.nd rfl rfl (sw_true rfl rfl rfl (by decide +kernel)) (lstI K (pv 0)) (blkOk_by (by kernel_rfl)) (fun _ _ _ _ _ => (gn 3 scDraws.nd)) (fun _ _ _ _ _ => pts_nil) (fun _ _ _ _ _ => (pe_callB (call_abs) (by rfl) T.abs boot_abs (pa_cons (pe_callTy (call_int1) (by rfl) T.int boot_int (pa_cons (pv 3) pa_nil)) pa_nil))))
      (pss_cons (st 4 scDraws.nd (pe_lst pa_nil))
      (pss_cons (ps_for PassesOwn.never rfl (pi_range1 (by rfl) T.range (pa_cons (pv 1) pa_nil)) (gn 5 scDraws.nd) (pss_cons (st 3 scDraws.nd (pv 5))
        (pss_cons (ps_if (pt_cmpR op_gt (pe_callB (lenK K) (by rfl) T.len PySem.boot_len (pa_cons (pv 0) pa_nil)) pe_int (nomark _)) (pss_cons (st 6 scDraws.nd (pe_op op_mod (pv 5) (pe_callB (lenK K) (by rfl) T.len PySem.boot_len (pa_cons (pv 0) pa_nil))))
          (pss_cons (st 3 scDraws.nd (pe_callTy (call_int1) (by rfl) T.int boot_int (pa_cons (pe_ix (ixL K) (pv 0) (pv 6) (fun _ _ => rfl)) pa_nil)))
          (pss_one (ps_if (PW.pt (pw_and (pt_cmpR op_ge (pv 3) (pe_op op_pow pe_int pe_int) (nomark _)) (pw_and1 (pt_cmpR op_gt (pe_ix (ixL K) (pv 2) (pv 6) (fun _ _ => rfl)) pe_int (nomark _))))) (pss_cons (ps_expr (pe_bm PySem.F.plainAttrs_list PySem.F.slot_list_append PySem.F.type_list_append mt_append (pv 4) (pa_cons (pe_op op_mod (pe_callTy (call_int1) (by rfl) T.int boot_int (pa_cons (pe_ix (ixL K) (pv 2) (pv 6) (fun _ _ => rfl)) pa_nil)) pe_int) pa_nil)))
            (pss_cons (ps_asg (pe_op op_fdiv (pe_callTy (call_int1) (by rfl) T.int boot_int (pa_cons (pe_ix (ixL K) (pv 2) (pv 6) (fun _ _ => rfl)) pa_nil)) pe_int) (pg_sub (pv 2) (pv 6) set_list))
            (pss_one ps_continue))) pss_nil)))) pss_nil)
        (pss_cons (st 7 scDraws.nd (pe_op op_mod (pe_callTy (call_int1) (by rfl) T.int boot_int (pa_cons (pe_op op_add (pe_op op_add (pe_op op_mul (pv 3) pe_int) (pe_op op_mul (pv 5) pe_int)) pe_int) pa_nil)) pe_int))
        (pss_cons (st 7 scDraws.nd (pe_op op_mod (pe_callTy (call_int1) (by rfl) T.int boot_int (pa_cons (pe_op op_add (pe_op op_fdiv (pe_op op_mul (pv 7) (pv 7)) pe_int) (pv 7)) pa_nil)) pe_int))
        (pss_one (ps_expr (pe_bm PySem.F.plainAttrs_list PySem.F.slot_list_append PySem.F.type_list_append mt_append (pv 4) (pa_cons (pe_op op_mod (pe_callTy (call_int1) (by rfl) T.int boot_int (pa_cons (pe_op op_add (pe_op op_fdiv (pe_op op_mul (pv 7) (pv 7)) pe_int) (pe_op op_mul (pv 5) pe_int)) pa_nil)) pe_int) pa_nil)))))))))
      (pss_one (ps_ret (pv 4)))))), ?_⟩
    -- 0:_law_script 1:_law_many 2:_law_rests 3:_law_cell 4:_law_draws_here 5:_law_k 6:_law_spot 7:_law_mixed
    have hnl : (ns.map V.int).length = ns.length := List.length_map ..
    refine ⟨_, rfl, s, rfl, ⟨_, hs⟩, fun D hD => ?_⟩
    refine lc_pure (wLst hnl) (fun _ _ v => ∃ i : Int, v = V.int i) hD (by omega) (fun _ _ _ _ _ p => p) (fun H s => s.seq hs) (fun m x H1 H2 Z hm s1 hy hz => ?_) fun H1 us s1 h1 h2 h3 => ?_
    · obtain ⟨rfl, e⟩ := hy
      obtain ⟨c, _, rfl⟩ := List.mem_map.mp (List.mem_of_getElem? e)
      refine ⟨rfl, _, rfl, .inl ⟨_, rfl, _, rfl, hz _ _ (Same.refl _) ⟨_, rfl⟩⟩⟩
    obtain ⟨rs, rfl⟩ := ints_ex fun v hv => let ⟨j, hj⟩ := List.mem_iff_getElem?.mp hv; h3 j v hj
    refine ⟨Nat.zero_le _, fun E hE => ?_⟩
    have sE := s1.trans (same_new (o := .lst []) hE)
    have hED : E ≠ D := (ne_of_none h1 hE).symm
    refine ⟨_, rfl, _, rfl, by decide, by decide, ?_⟩
    refine for_range (lo := 0) (n := (150 : Int).toNat) (fun m σ H' => ∃ (rs ds : List Int) (y3 y5 y6 y7 : Option V), σ = [some (.ref s), some (.int 150), some (.ref D), y3, some (.ref E), y5, y6, y7] ∧ Same H H' ∧ H' D = some (.lst (rs.map V.int)) ∧ rs.length = ns.length ∧ H' E = some (.lst (ds.map V.int)) ∧ ds.length = m)
      ⟨rs, [], none, none, none, none, rfl, sE, by rw [upd_ne hED.symm]; exact h1, by rw [← h2, List.length_map], upd_same, rfl⟩ ?_ ?_
    · rintro m σ H2 hm ⟨rs, ds, y3, y5, y6, y7, rfl, s2, e1, e2, e3, e4⟩
      have hn0 := none_of s1 hE
      refine ⟨_, rfl, ⟨_, rfl, s, _, rfl, .inl (s2.seq hs), _, _, rfl, rfl, _, rfl, ?_⟩⟩
      refine ite_join (fun σ' H' => ∃ (c : Int) (y6 : Option V), σ' = [some (.ref s), some (.int 150), some (.ref D), some (.int c), some (.ref E), some (.int (0 + m)), y6, y7] ∧ H' = H2) (fun hc hr => ?_) (fun _ hr => hr _ _ ⟨0 + m, y6, rfl, rfl⟩) ?_
      · have hl0 : 0 < ns.length := by have := of_decide_eq_true hc; rw [List.length_map] at this; omega
        have hjn : m % ns.length < ns.length := Nat.mod_lt _ hl0
        have ej : ((0 : Int) + (m : Int)) % (((ns.map V.int).length : Nat) : Int) = ((m % ns.length : Nat) : Int) := by rw [List.length_map, Int.zero_add, Int.natCast_emod]
        generalize m % ns.length = j at hjn ej
        obtain ⟨c, ec⟩ := at_lt (vs := ns) rfl hjn
        obtain ⟨r, er⟩ := at_lt e2 hjn
        have ac : atI (ns.map V.int) (((0 : Int) + (m : Int)) % (((ns.map V.int).length : Nat) : Int)) = some (.int c) := by rw [ej]; exact atI_nat (by rw [List.getElem?_map, ec]; rfl)
        have ar : atI (rs.map V.int) (((0 : Int) + (m : Int)) % (((ns.map V.int).length : Nat) : Int)) = some (.int r) := by rw [ej]; exact atI_nat (by rw [List.getElem?_map, er]; rfl)
        have ai : ixN (rs.map V.int).length (((0 : Int) + (m : Int)) % (((ns.map V.int).length : Nat) : Int)) = some j := by rw [ej]; exact ixNat (by rw [List.length_map, e2]; exact hjn)
        refine ⟨_, rfl, _, rfl, s, _, rfl, .inl (s2.seq hs), _, _, rfl, rfl, by rw [List.length_map]; omega, ?_⟩
        refine ⟨_, rfl, _, rfl, s, _, _, _, rfl, rfl, s2.seq hs, ac, .inl ⟨_, rfl, ?_⟩⟩
        refine ⟨_, rfl, 10, 18, rfl, rfl, ⟨by decide, by decide, by decide⟩, _, _, rfl, rfl, _, rfl, ?_⟩
        cases hb1 : decide ((10 : Int) ^ (18 : Int).toNat ≤ c) with
        | false => exact iteF (hr _ _ ⟨c, _, rfl, rfl⟩)
        | true =>
          refine iteT ⟨_, rfl, _, rfl, D, _, _, _, rfl, rfl, SqL.of e1, ar, _, _, rfl, rfl, _, rfl, ?_⟩
          cases hb2 : decide ((0 : Int) < r) with
          | false => exact iteF (hr _ _ ⟨c, _, rfl, rfl⟩)
          | true =>
            have hDE : D ≠ E := hED.symm
            refine iteT ⟨_, rfl, .inl ⟨rfl, _, SqL.of e3⟩, _, rfl, _, rfl, D, _, _, _, rfl, rfl, SqL.of e1, ar, .inl ⟨_, rfl, _, _, rfl, rfl, (show (0 : Int) < 1000003 by decide), E, _, _, rfl, rfl, e3, sizeSmall (by rw [List.length_map]; simp at hm; omega), ?_⟩⟩
            have e1' := (upd_ne (o := .lst (ds.map V.int ++ [.int (r % 1000003)])) hDE).trans e1
            refine ⟨_, rfl, _, rfl, D, _, _, _, rfl, rfl, SqL.of e1', ar, .inl ⟨_, rfl, _, _, rfl, rfl, ⟨by decide, by decide⟩, _, rfl, _, rfl, D, _, _, j, rfl, rfl, e1', ai, ?_⟩⟩
            refine ⟨rs.set j (r / 1000003), ds ++ [r % 1000003], _, _, _, _, rfl, same_over (same_over s2 hn0) hD, ?_, by rw [List.length_set, e2], ?_, by rw [List.length_append, e4] <;> rfl⟩
            · rw [upd_same, List.map_set]
            · rw [upd_ne hED, upd_same, List.map_append]
              rfl
      · rintro σ' H' ⟨c, y6, rfl, rfl⟩
        refine ⟨_, rfl, _, _, rfl, rfl, .inr (small64 (by omega) (by omega)), _, rfl, _, _, rfl, rfl, .inr (small64 (by omega) (by omega)), _, _, rfl, rfl, _, _, rfl, rfl, .inl ⟨_, rfl, _, _, rfl, rfl, (show (0 : Int) < 2147483647 by decide), ?_⟩⟩
        have b1 := Int.emod_nonneg (c * 48271 + (0 + (m : Int)) * 69621 + 11) (show (2147483647 : Int) ≠ 0 by decide)
        have b2 := Int.emod_lt_of_pos (c * 48271 + (0 + (m : Int)) * 69621 + 11) (show (0 : Int) < 2147483647 by decide)
        obtain ⟨x, hx⟩ : ∃ x, x = (c * 48271 + (0 + (m : Int)) * 69621 + 11) % 2147483647 := ⟨_, rfl⟩
        have b3 := Int.emod_nonneg (x * x / 4096 + x) (show (2147483629 : Int) ≠ 0 by decide)
        have b4 := Int.emod_lt_of_pos (x * x / 4096 + x) (show (0 : Int) < 2147483629 by decide)
        obtain ⟨y, hy⟩ : ∃ y, y = (x * x / 4096 + x) % 2147483629 := ⟨_, rfl⟩
        rw [hx] at hy b3 b4
        refine ⟨_, rfl, _, rfl, _, _, rfl, rfl, .inr ⟨Int.lt_of_lt_of_le (by decide) b1, Int.lt_trans b2 (by decide)⟩, _, _, rfl, rfl, ⟨by decide, by decide⟩, _, rfl, _, _, rfl, rfl, .inl ⟨_, rfl, _, _, rfl, rfl, (show (0 : Int) < 2147483629 by decide), ?_⟩⟩
        refine ⟨_, rfl, .inl ⟨rfl, _, SqL.of e3⟩, _, rfl, _, rfl, _, _, rfl, rfl, .inr ⟨Int.lt_of_lt_of_le (by decide) b3, Int.lt_trans b4 (by decide)⟩, _, _, rfl, rfl, ⟨by decide, by decide⟩, _, rfl, _, _, rfl, rfl, .inr ⟨by decide, by decide⟩, _, _, rfl, rfl, .inl ⟨_, rfl, _, _, rfl, rfl, (show (0 : Int) < 2147483629 by decide), E, _, _, rfl, rfl, e3, sizeSmall (by rw [List.length_map]; simp at hm; omega), ?_⟩⟩
        refine ⟨rs, ds ++ [(y * y / 4096 + (0 + (m : Int)) * 7919) % 2147483629], _, _, _, _, rfl, same_over s2 hn0, by rw [upd_ne hED.symm]; exact e1, e2, ?_, by rw [List.length_append, e4] <;> rfl⟩
        rw [upd_same, List.map_append, hy]
        rfl
    · rintro σ H2 ⟨rs, ds, y3, y5, y6, y7, rfl, s2, e1, e2, e3, e4⟩
      exact ⟨_, rfl, q _ _ _ s2 e3⟩

theorem scTake : FnScope ["_law_hand", "_law_many", "_law_spot", "_law_draws_here"] ["_law_hand", "_law_many"] (defScope sTake) := ⟨rfl, rfl, rfl, by decide +kernel, rfl, by decide +kernel, by decide +kernel⟩
theorem ok_Take {f : Addr} {fd : FuncData} (F : Fun K "_law_take" "_law_take" sTake f fd) (T : Txt K mg C) : FnOk P w K mg base CX0 1 f fd ["_law_hand", "_law_many"] (spTake) := by
  refine F.ok scTake (fun vs H Q E h => ?_) (fun cdv A outer s H vs Q E hr h => ?_)
  · obtain ⟨h, a, m, rfl, _⟩ := h
    rfl
  · obtain ⟨h, a, m, rfl, hm, hh, q⟩ := h
    refine ⟨_, (pss_cons (st 2 scTake.nd (pe_ix (ixL K) (pv 0) pe_int (fun _ _ => rfl)))
      (pss_cons (ps_asg (pe_op op_add (pv 2) pe_int) (pg_sub (pv 0) pe_int set_list))
      (pss_cons (st 3 scTake.nd (pe_ix (ixL K) (pv 0) pe_int (fun _ _ => rfl)))
      (pss_cons (ps_if (pt_cmpR op_ge (pv 2) (pe_callB (lenK K) (by rfl) T.len PySem.boot_len (pa_cons (pv 3) pa_nil)) (nomark _)) (
        pss_one (ps_ret pe_int)) pss_nil)
      (pss_one (ps_ret (pe_op op_mod (pe_op op_fdiv (pe_callTy (call_int1) (by rfl) T.int boot_int (pa_cons (pe_ix (ixL K) (pv 3) (pv 2) (fun _ _ => rfl)) pa_nil)) pe_int) (pv 1)))))))), ?_⟩
    -- 0:_law_hand 1:_law_many 2:_law_spot 3:_law_draws_here
    have hne := hh.ne
    obtain ⟨k, ds, e1, k0, e2⟩ := hh
    refine ⟨_, rfl, h, _, 1, .int k, rfl, rfl, SqL.of e1, rfl, ?_⟩
    refine ⟨_, rfl, _, _, rfl, rfl, _, rfl, h, _, 1, 1, rfl, rfl, e1, rfl, ?_⟩
    generalize hH1 : upd H h (.lst ([V.ref a, V.int k].set 1 (.int (k + 1)))) = H1
    have f1 : H1 h = some (.lst [.ref a, .int (k + 1)]) := by rw [← hH1]; exact upd_same
    have f2 : H1 a = some (.lst (ds.map V.int)) := by rw [← hH1, upd_ne hne]; exact e2
    have kh : KH h H H1 := by rw [← hH1]; exact kp_upd rfl
    refine ⟨_, rfl, h, _, 0, .ref a, rfl, rfl, SqL.of f1, rfl, ?_⟩
    refine ⟨_, rfl, _, rfl, a, _, rfl, .inl (SqL.of f2), k, _, rfl, rfl, _, rfl, ?_⟩
    have hand : HandAt H1 h a := ⟨k + 1, ds, f1, by omega, f2⟩
    by_cases hk : (((ds.map V.int).length : Nat) : Int) ≤ k
    · rw [decide_eq_true hk]
      exact iteT (q 0 H1 (Int.le_refl _) hm hand kh)
    · rw [decide_eq_false hk]
      obtain ⟨d, ed⟩ := at_lt (vs := ds) rfl (show k.toNat < ds.length by rw [List.length_map] at hk; omega)
      have ea : atI (ds.map V.int) k = some (.int d) := by
        have : (ds.map V.int)[k.toNat]? = some (.int d) := by rw [List.getElem?_map, ed]; rfl
        have z := atI_nat this
        rwa [Int.toNat_of_nonneg k0] at z
      refine iteF ?_
      refine ⟨_, rfl, _, rfl, a, _, k, .int d, rfl, rfl, SqL.of f2, ea, .inl ⟨_, rfl, d, 7, rfl, rfl, ⟨by decide, by decide⟩, _, rfl, _, m, rfl, rfl, hm, ?_⟩⟩
      exact q _ H1 (Int.emod_nonneg _ (by omega)) (Int.emod_lt_of_pos _ hm) hand kh

theorem scLPrime : FnScope ["_law_hand", "_law_primes"] ["_law_hand"] (defScope sLPrime) := ⟨rfl, rfl, rfl, by decide +kernel, rfl, by decide +kernel, by decide +kernel⟩
def primeB (p : Nat) : Bool := decide (2 ≤ p) && decide (p ≤ 97) && (List.range p).all fun d => decide (d < 2) || decide (p % d ≠ 0)
theorem primeB_is {p : Nat} (h : primeB p = true) : PrimeIs (p : Int) := by
  unfold primeB at h
  simp only [Bool.and_eq_true, decide_eq_true_eq, List.all_eq_true, List.mem_range, Bool.or_eq_true] at h
  obtain ⟨⟨h1, h2⟩, h3⟩ := h
  refine ⟨by omega, by omega, fun d d1 d2 e => ?_⟩
  have z := h3 d.toNat (by omega)
  rcases z with z | z
  · omega
  · apply z
    have e1 : (p : Int) % (d.toNat : Int) = 0 := by rw [Int.toNat_of_nonneg (by omega)]; exact e
    have e2 : ((p % d.toNat : Nat) : Int) = 0 := by rw [Int.natCast_emod]; exact e1
    omega
theorem prime_at {ps : List Nat} (h : ps.all primeB = true) {r : Int} (r0 : 0 ≤ r) (r1 : r < ps.length) : ∃ p : Nat, PrimeIs p ∧ atI (ps.map fun p => V.int (p : Nat)) r = some (.int (p : Nat)) := by
  obtain ⟨p, ep⟩ := at_lt (vs := ps) rfl (show r.toNat < ps.length by omega)
  refine ⟨p, primeB_is (List.all_eq_true.mp h p (List.mem_of_getElem? ep)), ?_⟩
  have : (ps.map fun p => V.int (p : Nat))[r.toNat]? = some (.int (p : Nat)) := by rw [List.getElem?_map, ep]; rfl
  have z := atI_nat this
  rwa [Int.toNat_of_nonneg r0] at z
theorem ok_LPrime {f : Addr} {fd : FuncData} (F : Fun K "_law_prime" "_law_prime" sLPrime f fd) (T : Txt K mg C) (cK : Cal P w K mg base "_law_take" 1 ["_law_hand", "_law_many"] spTake) : FnOk P w K mg base CX0 2 f fd ["_law_hand"] (spLPrime) := by
  obtain ⟨fK, fdK, GK, gK, kK, bK⟩ := cK.ex
  refine F.ok scLPrime (fun vs H Q E h => ?_) (fun cdv A outer s H vs Q E hr h => ?_)
  · obtain ⟨h, a, rfl, _⟩ := h
    rfl
  · obtain ⟨h, a, rfl, hh, q⟩ := h
    have hrK : Room 1 _ := hr.mono (by decide)
    refine ⟨_, (pss_cons (ps_if (pt_cmpR op_eq (pe_call GK hrK (by rfl) gK kK bK .nil pass0 (pa_cons (pv 0) (pa_cons pe_int pa_nil))) pe_int (nomark _)) (
        pss_one (ps_ret (pe_ix (ixL K) (pe_lst (pa_cons pe_int (pa_cons pe_int (pa_cons pe_int (pa_cons pe_int pa_nil))))) (pe_call GK hrK (by rfl) gK kK bK .nil pass0 (pa_cons (pv 0) (pa_cons pe_int pa_nil))) (fun _ _ => rfl)))) pss_nil)
      (pss_cons (st 1 scLPrime.nd (pe_lst (pa_cons pe_int (pa_cons pe_int (pa_cons pe_int (pa_cons pe_int (pa_cons pe_int (pa_cons pe_int (pa_cons pe_int (pa_cons pe_int (pa_cons pe_int (pa_cons pe_int (pa_cons pe_int (pa_cons pe_int (pa_cons pe_int (pa_cons pe_int (pa_cons pe_int (pa_cons pe_int (pa_cons pe_int (pa_cons pe_int (pa_cons pe_int (pa_cons pe_int (pa_cons pe_int pa_nil)))))))))))))))))))))))
      (pss_one (ps_ret (pe_ix (ixL K) (pv 1) (pe_call GK hrK (by rfl) gK kK bK .nil pass0 (pa_cons (pv 0) (pa_cons pe_int pa_nil))) (fun _ _ => rfl)))))), ?_⟩
    -- 0:_law_hand 1:_law_primes
    refine ⟨_, rfl, h, a, 2, rfl, by decide, hh, fun r H1 r0 r1 hh1 k1 => ?_⟩
    refine ⟨rfl, _, rfl, ?_⟩
    by_cases hr : r = 0
    · rw [decide_eq_true (show V.int r = V.int 0 by rw [hr])]
      refine iteT ⟨show 4 ≤ sizeLine by decide, fun D hD => ?_⟩
      have hD2 := hh1.new hD
      refine ⟨_, rfl, h, a, 4, rfl, by decide, hh1.over hD2.1 hD2.2, fun r2 H2 r20 r21 hh2 k2 => ?_⟩
      obtain ⟨p, hp, ep⟩ := prime_at (ps := [2, 3, 5, 7]) (by decide +kernel) r20 r21
      exact ⟨D, _, r2, .int p, rfl, rfl, SqL.of (k2 _ _ hD2.1 upd_same), ep, q p H2 hp hh2 ((k1.trans (kp_new hD)).trans k2)⟩
    · rw [decide_eq_false (show ¬ V.int r = V.int 0 from fun z => hr (V.int.inj z))]
      refine iteF ?_
      refine ⟨show 21 ≤ sizeLine by decide, fun D hD => ?_⟩
      have hD2 := hh1.new hD
      refine ⟨_, rfl, _, rfl, h, a, 21, rfl, by decide, hh1.over hD2.1 hD2.2, fun r2 H2 r20 r21 hh2 k2 => ?_⟩
      obtain ⟨p, hp, ep⟩ := prime_at (ps := [11, 13, 17, 19, 23, 29, 31, 37, 41, 43, 47, 53, 59, 61, 67, 71, 73, 79, 83, 89, 97]) (by decide +kernel) r20 r21
      exact ⟨D, _, r2, .int p, rfl, rfl, SqL.of (k2 _ _ hD2.1 upd_same), ep, q p H2 hp hh2 ((k1.trans (kp_new hD)).trans k2)⟩

theorem scLVec : FnScope ["_law_hand", "_law_prime_here", "_law_width", "_law_k"] ["_law_hand", "_law_prime_here", "_law_width"] (defScope sLVec) := ⟨rfl, rfl, rfl, by decide +kernel, rfl, by decide +kernel, by decide +kernel⟩
theorem ok_LVec {f : Addr} {fd : FuncData} (F : Fun K "_law_vector" "_law_vector" sLVec f fd) (T : Txt K mg C) (cK : Cal P w K mg base "_law_take" 1 ["_law_hand", "_law_many"] spTake) : FnOk P w K mg base CX0 2 f fd ["_law_hand", "_law_prime_here", "_law_width"] (spLVec) := by
  obtain ⟨fK, fdK, GK, gK, kK, bK⟩ := cK.ex
  refine F.ok scLVec (fun vs H Q E h => ?_) (fun cdv A outer s H vs Q E hr h => ?_)
  · obtain ⟨h, a, p, w, rfl, _⟩ := h
    rfl
  · obtain ⟨h, a, p, w, rfl, hp, hw, hh, q⟩ := h
    have hrK : Room 1 _ := hr.mono (by decide)
    refine ⟨_, (
      pss_one (ps_ret (pe_callTy (tupK K) (by rfl) T.tuple boot_tuple (pa_cons (pe_lc (own := [("_law_k", 3)]) (g := (gName 3)) (tt := tYes) rfl scLVec.nd (pi_range1 (by rfl) T.range (pa_cons (pv 2) pa_nil)) (blkOk_by (by kernel_rfl)) (fun _ _ _ _ _ => (gn 3 scLVec.nd)) (fun _ _ _ _ _ => pts_nil) (fun _ _ _ _ _ => (pe_call GK hrK (by rfl) gK kK bK .nil pass0 (pa_cons (pv 0) (pa_cons (pv 1) pa_nil))))) pa_nil)))), ?_⟩
    -- 0:_law_hand 1:_law_prime_here 2:_law_width 3:_law_k
    refine ⟨_, rfl, _, rfl, by omega, by omega, fun D hD => ?_⟩
    have hD2 := hh.new hD
    have ew : ((w : Int)).toNat = w := by omega
    refine lc_map (walk_range (lo := 0)) (fun b => b = h) (fun _ _ v => ∃ i : Int, (0 ≤ i ∧ i < p) ∧ v = V.int i) (fun H => HandAt H h a) hD (sizeSmall (by omega)) hD2.1 (hh.over hD2.1 hD2.2) (fun H acc acc' _ z => z.over hD2.1 hD2.2) (fun _ _ _ => trivial) (fun _ _ _ _ _ _ _ p => p) (fun i x H1 H2 acc Z hi k1 hh1 e1 hy hz => ?_) fun H1 us k1 hh1 h1 h2 h3 => ?_
    · obtain ⟨rfl, rfl⟩ := hy
      exact ⟨rfl, _, rfl, _, rfl, h, a, p, rfl, by omega, hh1, fun r H4 r0 r1 hh4 k4 => hz _ _ k4 hh4 ⟨r, ⟨r0, r1⟩, rfl⟩⟩
    · obtain ⟨x, x1, x2⟩ := pick (fun i : Int => 0 ≤ i ∧ i < p) 0 ⟨by omega, by omega⟩ h3
      refine ⟨D, us, rfl, .inl ⟨SqL.of h1, fun T hT => ?_⟩⟩
      exact q x _ _ x1 (hh1.same (same_new hT)) (k1.trans (kp_new hT)) ⟨T, us, rfl, upd_same, by omega, x2⟩

theorem scLNet : FnScope ["_law_hand", "_law_most", "_law_prime_here", "_law_width", "_law_weights", "_law_kinds", "_law_layer", "_law_k"] ["_law_hand", "_law_most"] (defScope sLNet) := ⟨rfl, rfl, rfl, by decide +kernel, rfl, by decide +kernel, by decide +kernel⟩
theorem ok_LNet {f : Addr} {fd : FuncData} (F : Fun K "_law_net" "_law_net" sLNet f fd) (T : Txt K mg C) (cK : Cal P w K mg base "_law_take" 1 ["_law_hand", "_law_many"] spTake) (cP : Cal P w K mg base "_law_prime" 2 ["_law_hand"] spLPrime) (cV : Cal P w K mg base "_law_vector" 2 ["_law_hand", "_law_prime_here", "_law_width"] spLVec) : FnOk P w K mg base CX0 3 f fd ["_law_hand", "_law_most"] (spLNet) := by
  obtain ⟨fK, fdK, GK, gK, kK, bK⟩ := cK.ex
  obtain ⟨fP, fdP, GP, gP, kP, bP⟩ := cP.ex
  obtain ⟨fV, fdV, GV, gV, kV, bV⟩ := cV.ex
  refine F.ok scLNet (fun vs H Q E h => ?_) (fun cdv A outer s H vs Q E hr h => ?_)
  · obtain ⟨h, a, rfl, _⟩ := h
    rfl
  · obtain ⟨h, a, rfl, hh, q⟩ := h
    have hrK : Room 1 _ := hr.mono (by decide)
    have hrP : Room 2 _ := hr.mono (by decide)
    have hrV : Room 2 _ := hr.mono (by decide)
    refine ⟨_, (pss_cons (st 2 scLNet.nd (pe_call GP hrP (by rfl) gP kP bP .nil pass0 (pa_cons (pv 0) pa_nil)))
      (pss_cons (st 3 scLNet.nd (pe_op op_add pe_int (pe_call GK hrK (by rfl) gK kK bK .nil pass0 (pa_cons (pv 0) (pa_cons pe_int pa_nil)))))
      (pss_cons (st 4 scLNet.nd (pe_lst pa_nil))
      (pss_cons (st 5 scLNet.nd (pe_lst pa_nil))
      (pss_cons (ps_for PassesOwn.never rfl (pi_range1 (by rfl) T.range (pa_cons (pe_op op_add pe_int (pe_call GK hrK (by rfl) gK kK bK .nil pass0 (pa_cons (pv 0) (pa_cons (pv 1) pa_nil)))) pa_nil)) (gn 6 scLNet.nd) (pss_cons (ps_expr (pe_bm PySem.F.plainAttrs_list PySem.F.slot_list_append PySem.F.type_list_append mt_append (pv 4) (pa_cons (pe_callTy (tupK K) (by rfl) T.tuple boot_tuple (pa_cons (pe_lc (own := [("_law_k", 7)]) (g := (gName 7)) (tt := tYes) rfl scLNet.nd (pi_range1 (by rfl) T.range (pa_cons (pv 3) pa_nil)) (blkOk_by (by kernel_rfl)) (fun _ _ _ _ _ => (gn 7 scLNet.nd)) (fun _ _ _ _ _ => pts_nil) (fun _ _ _ _ _ => (pe_call GV hrV (by rfl) gV kV bV .nil pass0 (pa_cons (pv 0) (pa_cons (pv 2) (pa_cons (pv 3) pa_nil)))))) pa_nil)) pa_nil)))
        (pss_one (ps_expr (pe_bm PySem.F.plainAttrs_list PySem.F.slot_list_append PySem.F.type_list_append mt_append (pv 5) (pa_cons (pe_ix (ixL K) (pe_lst (pa_cons pe_str (pa_cons pe_str pa_nil))) (pe_call GK hrK (by rfl) gK kK bK .nil pass0 (pa_cons (pv 0) (pa_cons pe_int pa_nil))) (fun _ _ => rfl)) pa_nil))))))
      (pss_one (ps_ret (pe_tup (pa_cons (pv 2) (pa_cons (pe_callTy (tupK K) (by rfl) T.tuple boot_tuple (pa_cons (pv 4) pa_nil)) (pa_cons (pe_callTy (tupK K) (by rfl) T.tuple boot_tuple (pa_cons (pv 5) pa_nil)) pa_nil))))))))))), ?_⟩
    -- 0:_law_hand 1:_law_most 2:_law_prime_here 3:_law_width 4:_law_weights 5:_law_kinds 6:_law_layer 7:_law_k
    refine ⟨_, rfl, h, a, rfl, hh, fun p H0 hp hh0 k0 => ?_⟩
    refine ⟨_, rfl, h, a, 3, rfl, by decide, hh0, fun r H1 r0 r1 hh1 k1 => ?_⟩
    obtain ⟨r', rfl⟩ := Int.eq_ofNat_of_zero_le r0
    obtain ⟨w, ew⟩ : ∃ w : Nat, w = 1 + r' := ⟨_, rfl⟩
    refine ⟨_, _, rfl, rfl, ?_⟩
    refine ⟨Nat.zero_le _, fun D hD => ?_⟩
    have hD2 := hh1.new hD
    have hhD := hh1.over (o := .lst []) hD2.1 hD2.2
    refine ⟨Nat.zero_le _, fun E hE => ?_⟩
    have hE2 := hhD.new hE
    have hhE := hhD.over (o := .lst []) hE2.1 hE2.2
    have hDE : D ≠ E := ne_of_none upd_same hE
    refine ⟨_, rfl, _, rfl, h, a, 3, rfl, by decide, hhE, fun r2 H2 r20 r21 hh2 k2 => ?_⟩
    refine ⟨_, _, rfl, rfl, _, rfl, by omega, by omega, ?_⟩
    have kA : KH h H H2 := (((k0.trans k1).trans (kp_new hD)).trans (kp_new hE)).trans k2
    have hp2 := hp.1
    refine for_range (lo := 0) (n := (1 + r2).toNat) (fun m σ H' => ∃ (us ks : List V) (y6 : Option V), σ = [some (.ref h), some (.int 3), some (.int p), some (.int (w : Nat)), some (.ref D), some (.ref E), y6, none] ∧ HandAt H' h a ∧ KH h H H' ∧ H' D = some (.lst us) ∧ us.length = m ∧ (∀ (j : Nat) (v : V), us[j]? = some v → ∃ M : Nat → Nat → Int, (∀ i k, 0 ≤ M i k ∧ M i k < p) ∧ Mat w M H' v) ∧ H' E = some (.lst ks) ∧ ks.length = m ∧ ∀ (j : Nat) (v : V), ks[j]? = some v → ∃ b : Bool, True ∧ v = V.str (kStr b))
      ⟨[], [], none, by rw [ew]; rfl, hh2, kA, k2 _ _ hD2.1 (by rw [upd_ne hDE]; exact upd_same), rfl, fun j v e => by simp at e, k2 _ _ hE2.1 upd_same, rfl, fun j v e => by simp at e⟩ ?_ ?_
    · rintro m σ H3 hm ⟨us, ks, y6, rfl, hh3, k3, e1, e2, e3, g1, g2, g3⟩
      refine ⟨_, rfl, .inl ⟨rfl, _, SqL.of e1⟩, ?_⟩
      refine ⟨_, rfl, _, rfl, by omega, by omega, fun L hL => ?_⟩
      have hL2 := hh3.new hL
      have ewn : ((w : Nat) : Int).toNat = w := by omega
      refine lc_map (walk_range (lo := 0)) (fun b => b = h) (fun H _ v => ∃ x : Nat → Int, (∀ i, 0 ≤ x i ∧ x i < p) ∧ Vec w x H v) (fun H => HandAt H h a) hL (sizeSmall (by omega)) hL2.1 (hh3.over hL2.1 hL2.2) (fun H acc acc' _ z => z.over hL2.1 hL2.2) (fun _ _ _ => trivial) (fun H H' j v hl iv kk z => ?_) (fun i x H4 H5 acc Z hi k4 hh4 f1 hy hz => ?_) fun H4 vs k4 hh4 h1 h2 h3 => ?_
      · obtain ⟨x, x1, x2⟩ := z
        refine ⟨x, x1, vec_mono x2 (kk.ts fun b hb => ?_)⟩
        rcases hb with rfl | rfl
        · exact iv.is
        · exact hl
      · obtain ⟨rfl, rfl⟩ := hy
        exact ⟨rfl, _, rfl, _, rfl, _, rfl, h, a, p, w, rfl, hp2, by omega, hh4, fun x H6 v x1 hh6 k6 hv => hz _ _ k6 hh6 ⟨x, x1, hv⟩⟩
      · obtain ⟨M, M1, M2⟩ := pick (fun x : Nat → Int => ∀ i, 0 ≤ x i ∧ x i < p) (fun _ => 0) (fun _ => ⟨Int.le_refl _, show (0 : Int) < p by omega⟩) h3
        refine ⟨L, vs, rfl, .inl ⟨SqL.of h1, fun T hT => ?_⟩⟩
        have sT : Same H4 (upd H4 T (.tup vs)) := same_new hT
        have e4 := sT _ _ (k4 _ _ hD2.1 e1)
        refine ⟨D, us, _, rfl, rfl, e4, sizeSmall (by omega), ?_⟩
        have ts4 : TS H3 _ := ((kh_ts hh3 k4).trans (same_ts sT)).trans (ts_upd (o := .lst (us ++ [.ref T])) e4)
        have hD0 : H D = none := kh_none (k0.trans k1) hD2.1 hD
        have hE0 : H E = none := kh_none ((k0.trans k1).trans (kp_new hD)) hE2.1 hE
        have k5 : KH h H _ := kp_over (o := .lst (us ++ [.ref T])) ((k3.trans k4).trans (Kp.same sT)) hD0
        have g4 : upd (upd H4 T (.tup vs)) D (.lst (us ++ [.ref T])) E = some (.lst ks) := by
          rw [upd_ne hDE.symm]
          exact sT _ _ (k4 _ _ hE2.1 g1)
        have hh5 : HandAt (upd (upd H4 T (.tup vs)) D (.lst (us ++ [.ref T]))) h a := (hh4.same sT).over hD2.1 hD2.2
        have hT5 : Mat w M (upd (upd H4 T (.tup vs)) D (.lst (us ++ [.ref T]))) (.ref T) :=
          ⟨T, vs, rfl, by rw [upd_ne (ne_of_none (k4 _ _ hD2.1 e1) hT).symm]; exact upd_same, by omega, fun j v e => vec_mono (M2 j v e) ((same_ts sT).trans (ts_upd e4))⟩
        have e5 : upd (upd H4 T (.tup vs)) D (.lst (us ++ [.ref T])) D = some (.lst (us ++ [.ref T])) := upd_same
        revert k5 g4 hh5 hT5 ts4 e5
        generalize upd (upd H4 T (.tup vs)) D (.lst (us ++ [.ref T])) = H5
        intro ts4 k5 g4 hh5 hT5 e5
        refine ⟨_, rfl, .inl ⟨rfl, _, SqL.of g4⟩, ?_⟩
        refine ⟨show 2 ≤ sizeLine by decide, fun S hS => ?_⟩
        have hS2 := hh5.new hS
        refine ⟨_, rfl, h, a, 2, rfl, by decide, hh5.over hS2.1 hS2.2, fun r H6 r0 r1 hh6 k6 => ?_⟩
        obtain ⟨b, eb⟩ : ∃ b : Bool, atI [V.str "line", V.str "square"] r = some (V.str (kStr b)) := by
          rcases (show r = 0 ∨ r = 1 by omega) with rfl | rfl
          · exact ⟨false, rfl⟩
          · exact ⟨true, rfl⟩
        have g6 := k6 _ _ hE2.1 (same_new (o := .lst [V.str "line", V.str "square"]) hS _ _ g4)
        have e6 := k6 _ _ hD2.1 (same_new (o := .lst [V.str "line", V.str "square"]) hS _ _ e5)
        refine ⟨S, _, r, _, rfl, rfl, SqL.of (k6 _ _ hS2.1 upd_same), eb, E, ks, _, rfl, rfl, g6, sizeSmall (by omega), ?_⟩
        have ts6 : TS H5 (upd H6 E (.lst (ks ++ [V.str (kStr b)]))) := (ts_new hS).trans ((kh_ts (hh5.over hS2.1 hS2.2) k6).trans (ts_upd g6))
        refine ⟨_, _, _, rfl, hh6.over hE2.1 hE2.2, kp_over ((k5.trans (kp_new hS)).trans k6) hE0, by rw [upd_ne hDE]; exact e6, by rw [List.length_append, e2] <;> rfl, ?_, upd_same, by rw [List.length_append, g2] <;> rfl, at_app g2 (fun j v e => g3 j v e) ⟨b, trivial, rfl⟩⟩
        refine at_app e2 (fun j v e => ?_) ⟨M, M1, mat_mono hT5 ts6⟩
        obtain ⟨M', q1, q2⟩ := e3 j v e
        exact ⟨M', q1, mat_mono q2 (ts4.trans ts6)⟩
    · rintro σ H3 ⟨us, ks, y6, rfl, hh3, k3, e1, e2, e3, g1, g2, g3⟩
      obtain ⟨W, W1, W2⟩ := pick (fun M : Nat → Nat → Int => ∀ i k, 0 ≤ M i k ∧ M i k < p) (fun _ _ => 0) (fun _ _ => ⟨Int.le_refl _, show (0 : Int) < p by omega⟩) e3
      obtain ⟨ks', _, K2⟩ := pick (fun _ : Bool => True) false trivial g3
      refine ⟨_, rfl, _, rfl, D, us, rfl, .inl ⟨SqL.of e1, fun T1 hT1 => ?_⟩⟩
      have s1 : Same H3 (upd H3 T1 (.tup us)) := same_new hT1
      refine ⟨_, rfl, E, ks, rfl, .inl ⟨SqL.of (s1 _ _ g1), fun T2 hT2 => ?_⟩⟩
      have s2 := s1.trans (same_new (o := .tup ks) hT2)
      refine ⟨show 3 ≤ sizeLine by decide, fun T3 hT3 => ?_⟩
      have s3 := s2.trans (same_new (o := .tup [.int p, .ref T1, .ref T2]) hT3)
      have q1 : upd (upd (upd H3 T1 (.tup us)) T2 (.tup ks)) T3 (.tup [.int p, .ref T1, .ref T2]) T1 = some (.tup us) := by
        rw [upd_ne (fun z => by rw [← z, upd_ne (fun y => by rw [← y, upd_same] at hT2; cases hT2), upd_same] at hT3; cases hT3), upd_ne (fun y => by rw [← y, upd_same] at hT2; cases hT2), upd_same]
      have q2 : upd (upd (upd H3 T1 (.tup us)) T2 (.tup ks)) T3 (.tup [.int p, .ref T1, .ref T2]) T2 = some (.tup ks) := by
        rw [upd_ne (fun z => by rw [← z, upd_same] at hT3; cases hT3), upd_same]
      let N : Nw := { p := p, n := us.length, w := w, W := W, k := ks', hp := ⟨hp.1, hp.2.1⟩, hn := by omega, hw := by omega, hW := fun l i j => W1 l i j, pr := hp.2.2 }
      exact q N _ _ (hh3.same s3) (k3.trans (Kp.same s3)) ⟨T3, .ref T1, .ref T2, rfl, upd_same, ⟨T1, us, rfl, q1, rfl, fun l u e => mat_mono (W2 l u e) (same_ts s3)⟩, ⟨T2, ks, rfl, q2, show ks.length = us.length by omega, fun l u e => K2 l u e⟩⟩

theorem scLPort : FnScope ["_law_hand", "_law_prime_here", "_law_width", "_law_most", "_law_portion_here", "_law_k"] ["_law_hand", "_law_prime_here", "_law_width", "_law_most"] (defScope sLPort) := ⟨rfl, rfl, rfl, by decide +kernel, rfl, by decide +kernel, by decide +kernel⟩
theorem ok_LPort {f : Addr} {fd : FuncData} (F : Fun K "_law_portion" "_law_portion" sLPort f fd) (T : Txt K mg C) (cK : Cal P w K mg base "_law_take" 1 ["_law_hand", "_law_many"] spTake) (cV : Cal P w K mg base "_law_vector" 2 ["_law_hand", "_law_prime_here", "_law_width"] spLVec) : FnOk P w K mg base CX0 3 f fd ["_law_hand", "_law_prime_here", "_law_width", "_law_most"] (spLPort) := by
  obtain ⟨fK, fdK, GK, gK, kK, bK⟩ := cK.ex
  obtain ⟨fV, fdV, GV, gV, kV, bV⟩ := cV.ex
  refine F.ok scLPort (fun vs H Q E h => ?_) (fun cdv A outer s H vs Q E hr h => ?_)
  · obtain ⟨h, a, p, w, rfl, _⟩ := h
    rfl
  · obtain ⟨h, a, p, w, rfl, hp, hw, hh, q⟩ := h
    have hrK : Room 1 _ := hr.mono (by decide)
    have hrV : Room 2 _ := hr.mono (by decide)
    refine ⟨_, (pss_cons (st 4 scLPort.nd (pe_lst pa_nil))
      (pss_cons (ps_for PassesOwn.never rfl (pi_range1 (by rfl) T.range (pa_cons (pe_op op_add pe_int (pe_call GK hrK (by rfl) gK kK bK .nil pass0 (pa_cons (pv 0) (pa_cons (pv 3) pa_nil)))) pa_nil)) (gn 5 scLPort.nd) (
        pss_one (ps_expr (pe_bm PySem.F.plainAttrs_list PySem.F.slot_list_append PySem.F.type_list_append mt_append (pv 4) (pa_cons (pe_tup (pa_cons (pe_call GV hrV (by rfl) gV kV bV .nil pass0 (pa_cons (pv 0) (pa_cons (pv 1) (pa_cons (pv 2) pa_nil)))) (pa_cons (pe_call GV hrV (by rfl) gV kV bV .nil pass0 (pa_cons (pv 0) (pa_cons (pv 1) (pa_cons (pv 2) pa_nil)))) pa_nil))) pa_nil)))))
      (pss_one (ps_ret (pe_callTy (tupK K) (by rfl) T.tuple boot_tuple (pa_cons (pv 4) pa_nil)))))), ?_⟩
    -- 0:_law_hand 1:_law_prime_here 2:_law_width 3:_law_most 4:_law_portion_here 5:_law_k
    refine ⟨Nat.zero_le _, fun D hD => ?_⟩
    have hD2 := hh.new hD
    have hhD := hh.over (o := .lst []) hD2.1 hD2.2
    refine ⟨_, rfl, _, rfl, h, a, 2, rfl, by decide, hhD, fun r H1 r0 r1 hh1 k1 => ?_⟩
    refine ⟨_, _, rfl, rfl, _, rfl, by omega, by omega, ?_⟩
    have kD : KH h H H1 := (kp_new hD).trans k1
    let R : (Nat → Int) × (Nat → Int) → Prop := fun z => (∀ i, 0 ≤ z.1 i ∧ z.1 i < p) ∧ ∀ i, 0 ≤ z.2 i ∧ z.2 i < p
    refine for_range (lo := 0) (n := (1 + r).toNat) (fun m σ H' => ∃ (us : List V) (y5 : Option V), σ = [some (.ref h), some (.int p), some (.int w), some (.int 2), some (.ref D), y5] ∧ HandAt H' h a ∧ KH h H H' ∧ H' D = some (.lst us) ∧ us.length = m ∧ ∀ (j : Nat) (v : V), us[j]? = some v → ∃ z, R z ∧ Ex w z.1 z.2 H' v)
      ⟨[], none, rfl, hh1, kD, k1 _ _ hD2.1 upd_same, rfl, fun j v e => by simp at e⟩ ?_ ?_
    · rintro m σ H2 hm ⟨us, y5, rfl, hh2, k2, e1, e2, e3⟩
      refine ⟨_, rfl, .inl ⟨rfl, _, SqL.of e1⟩, _, rfl, _, rfl, _, rfl, h, a, p, w, rfl, hp, hw, hh2, fun x H3 v x1 hh3 k3 hv => ?_⟩
      refine ⟨_, rfl, _, rfl, _, rfl, h, a, p, w, rfl, hp, hw, hh3, fun t H4 v4 t1 hh4 k4 hv4 => ?_⟩
      refine ⟨show 2 ≤ sizeLine by decide, fun T hT => ?_⟩
      have e4 := k4 _ _ hD2.1 (k3 _ _ hD2.1 e1)
      have sT : Same H4 (upd H4 T (.tup [v, v4])) := same_new hT
      have e5 := sT _ _ e4
      refine ⟨D, us, _, rfl, rfl, e5, sizeSmall (by omega), ?_⟩
      have ts4 := ((kh_ts hh2 k3).trans (kh_ts hh3 k4)).trans (same_ts sT)
      refine ⟨_, _, rfl, (hh4.same sT).over hD2.1 hD2.2, kp_over (((k2.trans k3).trans k4).trans (Kp.same sT)) hD, upd_same, by rw [List.length_append, e2] <;> rfl, at_app e2 (fun j u e => ?_) ⟨(x, t), ⟨x1, t1⟩, ?_⟩⟩
      · obtain ⟨z, z1, z2⟩ := e3 j u e
        exact ⟨z, z1, ex_mono z2 (ts4.trans (ts_upd e5))⟩
      · exact ⟨T, v, v4, rfl, by rw [upd_ne (ne_of_none e4 hT).symm, upd_same], vec_mono hv ((kh_ts hh3 k4).trans ((same_ts sT).trans (ts_upd e5))), vec_mono hv4 ((same_ts sT).trans (ts_upd e5))⟩
    · rintro σ H2 ⟨us, y5, rfl, hh2, k2, e1, e2, e3⟩
      obtain ⟨z, z1, z2⟩ := pick R (fun _ => 0, fun _ => 0) ⟨fun _ => ⟨Int.le_refl _, show (0 : Int) < p by omega⟩, fun _ => ⟨Int.le_refl _, show (0 : Int) < p by omega⟩⟩ e3
      refine ⟨_, rfl, D, us, rfl, .inl ⟨SqL.of e1, fun T hT => ?_⟩⟩
      exact q us.length (fun e => (z e).1) (fun e => (z e).2) _ _ ⟨by omega, by omega⟩ (fun e => (z1 e).1) (fun e => (z1 e).2) (hh2.same (same_new hT)) (k2.trans (kp_new hT)) ⟨T, us, rfl, upd_same, rfl, fun j u e => ex_mono (z2 j u e) (ts_new hT)⟩

theorem scLPlus : FnScope ["_law_one", "_law_other", "_law_prime_here", "_law_many", "_law_first", "_law_second", "_law_k"] ["_law_one", "_law_other", "_law_prime_here"] (defScope sLPlus) := ⟨rfl, rfl, rfl, by decide +kernel, rfl, by decide +kernel, by decide +kernel⟩
theorem ok_LPlus {f : Addr} {fd : FuncData} (F : Fun K "_law_plus" "_law_plus" sLPlus f fd) (T : Txt K mg C) : FnOk P w K mg base CX0 1 f fd ["_law_one", "_law_other", "_law_prime_here"] (spLPlus) := by
  refine F.ok scLPlus (fun vs H Q E h => ?_) (fun cdv A outer s H vs Q E hr h => ?_)
  · obtain ⟨p, A1, B1, a, b, rfl, _⟩ := h
    rfl
  · obtain ⟨p, A1, B1, a, b, rfl, hp, hp2, ha, hb, la, lb, q⟩ := h
    refine ⟨_, (pss_cons (st 3 scLPlus.nd (pe_callB (call_max2 rfl) (by rfl) T.max boot_max (pa_cons (pe_callB (lenK K) (by rfl) T.len PySem.boot_len (pa_cons (pv 0) pa_nil)) (pa_cons (pe_callB (lenK K) (by rfl) T.len PySem.boot_len (pa_cons (pv 1) pa_nil)) pa_nil))))
      (pss_cons (st 4 scLPlus.nd (pe_op op_cat (pv 0) (pe_op op_rep (pe_lst (pa_cons pe_int pa_nil)) (pe_op op_sub (pv 3) (pe_callB (lenK K) (by rfl) T.len PySem.boot_len (pa_cons (pv 0) pa_nil))))))
      (pss_cons (st 5 scLPlus.nd (pe_op op_cat (pv 1) (pe_op op_rep (pe_lst (pa_cons pe_int pa_nil)) (pe_op op_sub (pv 3) (pe_callB (lenK K) (by rfl) T.len PySem.boot_len (pa_cons (pv 1) pa_nil))))))
      (pss_one (ps_ret (pe_lc (own := [("_law_k", 6)]) (g := (gName 6)) (tt := tYes) rfl scLPlus.nd (pi_range1 (by rfl) T.range (pa_cons (pv 3) pa_nil)) (blkOk_by (by kernel_rfl)) (fun _ _ _ _ _ => (gn 6 scLPlus.nd)) (fun _ _ _ _ _ => pts_nil) (fun _ _ _ _ _ => (pe_op op_mod (pe_callTy (call_int1) (by rfl) T.int boot_int (pa_cons (pe_op op_add (pe_ix (ixL K) (pv 4) (pv 6) (fun _ _ => rfl)) (pe_ix (ixL K) (pv 5) (pv 6) (fun _ _ => rfl))) pa_nil)) (pv 2))))))))), ?_⟩
    -- 0:_law_one 1:_law_other 2:_law_prime_here 3:_law_many 4:_law_first 5:_law_second 6:_law_k
    refine ⟨_, rfl, A1, _, rfl, .inl (SqL.of ha), _, rfl, B1, _, rfl, .inl (SqL.of hb), _, _, rfl, ?_⟩
    have em : (if ((b.map V.int).length : Int) > ((a.map V.int).length : Int) then ((b.map V.int).length : Int) else ((a.map V.int).length : Int)) = ((max a.length b.length : Nat) : Int) := by
      rw [List.length_map, List.length_map]
      split <;> omega
    rw [em]
    generalize hn : max a.length b.length = n
    have ka : a.length ≤ n := by omega
    have kb : b.length ≤ n := by omega
    have kn : n ≤ 1000 := by omega
    have ea : ((n : Int) - ((a.map V.int).length : Int)).toNat = n - a.length := by rw [List.length_map]; omega
    have eb : ((n : Int) - ((b.map V.int).length : Int)).toNat = n - b.length := by rw [List.length_map]; omega
    refine ⟨_, rfl, (show 1 ≤ sizeLine by decide), fun Z1 hZ1 => ?_⟩
    have s1 : Same H (upd H Z1 (.lst [.int 0])) := same_new hZ1
    refine ⟨_, rfl, _, rfl, A1, _, rfl, .inl (SqL.of (s1 _ _ ha)), _, _, rfl, rfl, Z1, _, _, rfl, rfl, upd_same, (by rw [List.length_map]; omega), (by rw [List.length_map]; omega), (by rw [List.length_map, sizeLine_eq]; simp only [List.length_singleton]; omega), fun R1 hR1 => ?_⟩
    have s3 : Same (upd H Z1 (.lst [.int 0])) (upd _ R1 (.lst (List.replicate ((n : Int) - (a.map V.int).length).toNat [V.int 0]).flatten)) := same_new hR1
    refine ⟨A1, R1, _, _, rfl, rfl, s3 _ _ (s1 _ _ ha), upd_same, (by rw [ea]; have := pad_len a n ka; rw [List.length_append] at this; rw [this, sizeLine_eq]; omega), fun P1 hP1 => ?_⟩
    have s13 := s1.trans (s3.trans (same_new (o := .lst (a.map V.int ++ (List.replicate ((n : Int) - (a.map V.int).length).toNat [V.int 0]).flatten)) hP1))
    generalize hH1 : upd _ P1 (.lst (a.map V.int ++ (List.replicate ((n : Int) - (a.map V.int).length).toNat [V.int 0]).flatten)) = H1 at s13 ⊢
    have p1 : H1 P1 = some (.lst (a.map V.int ++ (List.replicate (n - a.length) [V.int 0]).flatten)) := by rw [← hH1, upd_same, ea]
    refine ⟨_, rfl, (show 1 ≤ sizeLine by decide), fun Z2 hZ2 => ?_⟩
    have s4 : Same H1 (upd H1 Z2 (.lst [.int 0])) := same_new hZ2
    refine ⟨_, rfl, _, rfl, B1, _, rfl, .inl (SqL.of (s4 _ _ (s13 _ _ hb))), _, _, rfl, rfl, Z2, _, _, rfl, rfl, upd_same, (by rw [List.length_map]; omega), (by rw [List.length_map]; omega), (by rw [List.length_map, sizeLine_eq]; simp only [List.length_singleton]; omega), fun R2 hR2 => ?_⟩
    have s6 : Same (upd H1 Z2 (.lst [.int 0])) (upd _ R2 (.lst (List.replicate ((n : Int) - (b.map V.int).length).toNat [V.int 0]).flatten)) := same_new hR2
    refine ⟨B1, R2, _, _, rfl, rfl, s6 _ _ (s4 _ _ (s13 _ _ hb)), upd_same, (by rw [eb]; have := pad_len b n kb; rw [List.length_append] at this; rw [this, sizeLine_eq]; omega), fun P2 hP2 => ?_⟩
    have s46 := s4.trans (s6.trans (same_new (o := .lst (b.map V.int ++ (List.replicate ((n : Int) - (b.map V.int).length).toNat [V.int 0]).flatten)) hP2))
    generalize hH2 : upd _ P2 (.lst (b.map V.int ++ (List.replicate ((n : Int) - (b.map V.int).length).toNat [V.int 0]).flatten)) = H2 at s46 ⊢
    have p2 : H2 P2 = some (.lst (b.map V.int ++ (List.replicate (n - b.length) [V.int 0]).flatten)) := by rw [← hH2, upd_same, eb]
    refine ⟨_, rfl, _, rfl, by omega, by omega, fun D hD => ?_⟩
    have en : ((n : Nat) : Int).toNat = n := by omega
    rw [en]
    refine lc_pure (walk_range (lo := 0) (n := n)) (fun _ j v => v = V.int ((cf a j + cf b j) % p)) hD (by omega) (fun _ _ _ _ _ p => p) (fun _ _ => trivial) (fun m x H3 H4 Z hm t3 hy hz => ?_) fun H3 us t3 h1 h2 h3 => ?_
    · obtain ⟨rfl, rfl⟩ := hy
      obtain ⟨y1, e1⟩ := at_lt (pad_len a n ka) hm
      obtain ⟨y2, e2⟩ := at_lt (pad_len b n kb) hm
      have g1 := atI_nat e1
      have g2 := atI_nat e2
      obtain rfl := pad_at a n m y1 e1
      obtain rfl := pad_at b n m y2 e2
      rw [← Int.zero_add (m : Int)] at g1 g2
      exact ⟨rfl, _, rfl, _, rfl, P1, _, _, _, rfl, rfl, SqL.of (t3 _ _ (s46 _ _ p1)), g1, _, rfl, _, rfl, P2, _, _, _, rfl, rfl, SqL.of (t3 _ _ p2), g2, _, _, rfl, rfl, .inl ⟨_, rfl, _, rfl, _, _, rfl, rfl, (show (0 : Int) < p by omega), hz _ _ (Same.refl _) rfl⟩⟩
    · refine q _ D (s13.trans (s46.trans t3)) (none_of (s13.trans s46) hD) ?_
      rw [h1, ints_by h2 h3]
      unfold addL
      rw [hn]

theorem scLTimes : FnScope ["_law_one", "_law_other", "_law_prime_here", "_law_found", "_law_i", "_law_j"] ["_law_one", "_law_other", "_law_prime_here"] (defScope sLTimes) := ⟨rfl, rfl, rfl, by decide +kernel, rfl, by decide +kernel, by decide +kernel⟩
theorem ok_LTimes {f : Addr} {fd : FuncData} (F : Fun K "_law_times" "_law_times" sLTimes f fd) (T : Txt K mg C) : FnOk P w K mg base CX0 1 f fd ["_law_one", "_law_other", "_law_prime_here"] (spLTimes) := by
  refine F.ok scLTimes (fun vs H Q E h => ?_) (fun cdv A outer s H vs Q E hr h => ?_)
  · obtain ⟨p, A1, B1, a, b, rfl, _⟩ := h
    rfl
  · obtain ⟨p, A1, B1, a, b, rfl, hp, hp2, ha, hb, sa, la, lb, q⟩ := h
    refine ⟨_, (pss_cons (st 3 scLTimes.nd (pe_op op_rep (pe_lst (pa_cons pe_int pa_nil)) (pe_callB (call_max2 rfl) (by rfl) T.max boot_max (pa_cons pe_int (pa_cons (pe_op op_sub (pe_op op_add (pe_callB (lenK K) (by rfl) T.len PySem.boot_len (pa_cons (pv 0) pa_nil)) (pe_callB (lenK K) (by rfl) T.len PySem.boot_len (pa_cons (pv 1) pa_nil))) pe_int) pa_nil)))))
      (pss_cons (ps_for PassesOwn.never rfl (pi_range1 (by rfl) T.range (pa_cons (pe_callB (lenK K) (by rfl) T.len PySem.boot_len (pa_cons (pv 0) pa_nil)) pa_nil)) (gn 4 scLTimes.nd) (
        pss_one (ps_for PassesOwn.never rfl (pi_range1 (by rfl) T.range (pa_cons (pe_callB (lenK K) (by rfl) T.len PySem.boot_len (pa_cons (pv 1) pa_nil)) pa_nil)) (gn 5 scLTimes.nd) (
          pss_one (ps_asg (pe_op op_mod (pe_callTy (call_int1) (by rfl) T.int boot_int (pa_cons (pe_op op_add (pe_ix (ixL K) (pv 3) (pe_op op_add (pv 4) (pv 5)) (fun _ _ => rfl)) (pe_op op_mul (pe_ix (ixL K) (pv 0) (pv 4) (fun _ _ => rfl)) (pe_ix (ixL K) (pv 1) (pv 5) (fun _ _ => rfl)))) pa_nil)) (pv 2)) (pg_sub (pv 3) (pe_op op_add (pv 4) (pv 5)) set_list))))))
      (pss_one (ps_ret (pv 3))))), ?_⟩
    -- 0:_law_one 1:_law_other 2:_law_prime_here 3:_law_found 4:_law_i 5:_law_j
    have al : (a.map V.int).length = a.length := List.length_map ..
    have bl : (b.map V.int).length = b.length := List.length_map ..
    refine ⟨show 1 ≤ sizeLine by decide, fun Z1 hZ1 => ?_⟩
    have s1 : Same H (upd H Z1 (.lst [.int 0])) := same_new hZ1
    generalize hL : a.length + b.length - 1 = L
    have em : (if ((a.map V.int).length : Int) + ((b.map V.int).length : Int) - 1 > 0 then ((a.map V.int).length : Int) + ((b.map V.int).length : Int) - 1 else 0) = (L : Int) := by
      rw [al, bl]
      split <;> omega
    refine ⟨_, rfl, A1, _, rfl, .inl (SqL.of (s1 _ _ ha)), _, rfl, B1, _, rfl, .inl (SqL.of (s1 _ _ hb)), _, _, rfl, rfl, _, _, rfl, rfl, _, _, rfl, ?_⟩
    rw [em]
    have en : ((L : Nat) : Int).toNat = L := by omega
    refine ⟨Z1, _, _, rfl, rfl, upd_same, by omega, by omega, (by rw [sizeLine_eq]; simp only [List.length_singleton]; omega), fun D hD => ?_⟩
    rw [en, List.flatten_replicate_singleton]
    have s2 := s1.trans (same_new (o := .lst (List.replicate L (V.int 0))) hD)
    have hD0 : H D = none := none_of s1 hD
    refine ⟨_, rfl, A1, _, rfl, .inl (SqL.of (s2 _ _ ha)), _, rfl, by omega, by omega, ?_⟩
    refine for_range (lo := 0) (n := (((a.map V.int).length : Nat) : Int).toNat) (fun i σ H' => ∃ (vs : List V) (y4 y5 : Option V), σ = [some (.ref A1), some (.ref B1), some (.int p), some (.ref D), y4, y5] ∧ Same H H' ∧ H' D = some (.lst vs) ∧ vs.length = L ∧ ∀ (m : Nat) (v : V), vs[m]? = some v → v = V.int (gS a b i m % p))
      ⟨_, none, none, rfl, s2, upd_same, List.length_replicate, fun m v e => ?_⟩ ?_ ?_
    · rw [List.getElem?_replicate] at e
      split at e
      · cases e
        show V.int 0 = V.int (0 % p)
        rw [Int.zero_emod]
      · cases e
    · rintro i σ H1 hi ⟨vs, y4, y5, rfl, t1, e1, e2, e3⟩
      refine ⟨_, rfl, B1, _, rfl, .inl (SqL.of (t1 _ _ hb)), _, rfl, by omega, by omega, ?_⟩
      refine for_range (lo := 0) (n := (((b.map V.int).length : Nat) : Int).toNat) (fun k σ H' => ∃ (vs : List V) (y5 : Option V), σ = [some (.ref A1), some (.ref B1), some (.int p), some (.ref D), some (.int (0 + i)), y5] ∧ Same H H' ∧ H' D = some (.lst vs) ∧ vs.length = L ∧ ∀ (m : Nat) (v : V), vs[m]? = some v → v = V.int (gK a b i k m % p))
        ⟨vs, y5, rfl, t1, e1, e2, fun m v e => by rw [gK_zero]; exact e3 m v e⟩ ?_ ?_
      · rintro k σ H2 hk ⟨ws, y5, rfl, t2, g1, g2, g3⟩
        have hi' : i < a.length := by omega
        have hk' : k < b.length := by omega
        obtain ⟨u, eu⟩ := at_lt g2 (show i + k < L by omega)
        obtain rfl := g3 _ u eu
        obtain ⟨v1, ev1⟩ := at_lt al hi'
        obtain ⟨v2, ev2⟩ := at_lt bl hk'
        have h1 := atI_nat ev1
        have h2 := atI_nat ev2
        have h3 := atI_nat eu
        obtain rfl := cf_at ev1
        obtain rfl := cf_at ev2
        have ez : (0 : Int) + (i : Int) + (0 + (k : Int)) = ((i + k : Nat) : Int) := by omega
        rw [← Int.zero_add (i : Int)] at h1
        rw [← Int.zero_add (k : Int)] at h2
        have ej : ixN ws.length ((0 : Int) + (i : Int) + (0 + (k : Int))) = some (i + k) := by rw [ez]; exact ixNat (by omega)
        rw [← ez] at h3
        have sm := sa _ (cf_mem hi')
        refine ⟨_, rfl, _, rfl, _, rfl, _, _, rfl, rfl, D, ws, _, _, rfl, rfl, SqL.of g1, h3, _, rfl, _, rfl, A1, _, _, _, rfl, rfl, SqL.of (t2 _ _ ha), h1, _, rfl, _, rfl, B1, _, _, _, rfl, rfl, SqL.of (t2 _ _ hb), h2, _, _, rfl, rfl, .inl (small64 (by omega) (by omega)), _, _, rfl, rfl, .inl ⟨_, rfl, _, rfl, _, _, rfl, rfl, (show (0 : Int) < p by omega), ?_⟩⟩
        refine ⟨_, rfl, _, rfl, _, rfl, _, _, rfl, rfl, D, ws, _, i + k, rfl, rfl, g1, ej, ?_⟩
        refine ⟨_, _, rfl, same_over t2 hD0, upd_same, by rw [List.length_set, g2], fun m v e => ?_⟩
        by_cases hm : m = i + k
        · subst hm
          rw [List.getElem?_set_self (by omega)] at e
          cases e
          rw [gK_here]
          show V.int ((gK a b i k (i + k) % p + cf a i * cf b k) % p) = _
          rw [Int.emod_add_emod]
        · rw [List.getElem?_set_ne (fun z => hm z.symm)] at e
          rw [gK_same a b i k m hm]
          exact g3 m v e
      · rintro σ H2 ⟨ws, y5, rfl, t2, g1, g2, g3⟩
        refine ⟨ws, _, _, rfl, t2, g1, g2, fun m v e => ?_⟩
        have z := g3 m v e
        rw [bl, show ((b.length : Nat) : Int).toNat = b.length by omega, gK_all] at z
        exact z
    · rintro σ H1 ⟨vs, y4, y5, rfl, t1, e1, e2, e3⟩
      refine ⟨_, rfl, q _ D t1 hD0 ?_⟩
      rw [al, show ((a.length : Nat) : Int).toNat = a.length by omega] at e3
      rw [e1, ints_by e2 e3]
      unfold mulL
      rw [hL]
      rfl

theorem scThrough : FnScope ["_law_net_here", "_law_chosen", "_law_vector_here", "_law_prime_here", "_law_values", "_law_one", "_law_layer", "_law_more", "_law_i", "_law_total", "_law_k", "_law_weight"] ["_law_net_here", "_law_chosen", "_law_vector_here"] (defScope sThrough) := ⟨rfl, rfl, rfl, by decide +kernel, rfl, by decide +kernel, by decide +kernel⟩
theorem ok_Through {f : Addr} {fd : FuncData} (F : Fun K "_law_through" "_law_through" sThrough f fd) (T : Txt K mg C) (cP : Cal P w K mg base "_law_plus" 1 ["_law_one", "_law_other", "_law_prime_here"] spLPlus) (cT : Cal P w K mg base "_law_times" 1 ["_law_one", "_law_other", "_law_prime_here"] spLTimes) : FnOk P w K mg base CX0 2 f fd ["_law_net_here", "_law_chosen", "_law_vector_here"] (spThrough) := by
  obtain ⟨fP, fdP, GP, gP, kP, bP⟩ := cP.ex
  obtain ⟨fT, fdT, GT, gT, kT, bT⟩ := cT.ex
  refine F.ok scThrough (fun vs H Q E h => ?_) (fun cdv A outer s H vs Q E hr h => ?_)
  · obtain ⟨N, ov, xv, T0, l0, i0, k0, x, rfl, _⟩ := h
    rfl
  · obtain ⟨N, ov, xv, T0, l0, i0, k0, x, rfl, hN, hT, hx, xb, q⟩ := h
    have hrP : Room 1 _ := hr.mono (by decide)
    have hrT : Room 1 _ := hr.mono (by decide)
    refine ⟨_, (pss_cons (st 3 scThrough.nd (pe_ix (ixT K) (pv 0) pe_int (fun _ _ => rfl)))
      (pss_cons (ps_setLc (i := 4) (own := [("_law_one", 5)]) (g := (gName 5)) (tt := tYes) rfl scThrough.nd rfl rfl (sw_true rfl rfl rfl (by decide +kernel)) (tupI K (pv 2)) (blkOk_by (by kernel_rfl)) (fun _ _ _ _ _ => (gn 5 scThrough.nd)) (fun _ _ _ _ _ => pts_nil) (fun _ _ _ _ _ => (pe_lst (pa_cons (pv 5) pa_nil))))
      (pss_cons (ps_for PassesOwn.never rfl (pi_range1 (by rfl) T.range (pa_cons (pe_callB (lenK K) (by rfl) T.len PySem.boot_len (pa_cons (pe_ix (ixT K) (pv 0) pe_int (fun _ _ => rfl)) pa_nil)) pa_nil)) (gn 6 scThrough.nd) (pss_cons (st 7 scThrough.nd (pe_lst pa_nil))
        (pss_cons (ps_for PassesOwn.never rfl (pi_range1 (by rfl) T.range (pa_cons (pe_callB (lenK K) (by rfl) T.len PySem.boot_len (pa_cons (pv 4) pa_nil)) pa_nil)) (gn 8 scThrough.nd) (pss_cons (st 9 scThrough.nd (pe_lst pa_nil))
          (pss_cons (ps_for PassesOwn.never rfl (pi_range1 (by rfl) T.range (pa_cons (pe_callB (lenK K) (by rfl) T.len PySem.boot_len (pa_cons (pv 4) pa_nil)) pa_nil)) (gn 10 scThrough.nd) (pss_cons (st 11 scThrough.nd (pe_lst (pa_cons (pe_ix (ixT K) (pe_ix (ixT K) (pe_ix (ixT K) (pe_ix (ixT K) (pv 0) pe_int (fun _ _ => rfl)) (pv 6) (fun _ _ => rfl)) (pv 8) (fun _ _ => rfl)) (pv 10) (fun _ _ => rfl)) pa_nil)))
            (pss_cons (ps_if (pt_cmpR (op_eqD hr.units) (pe_tup (pa_cons (pv 6) (pa_cons (pv 8) (pa_cons (pv 10) pa_nil)))) (pv 1) (nomark _)) (
              pss_one (st 11 scThrough.nd (pe_op op_cat (pv 11) (pe_lst (pa_cons pe_int pa_nil))))) pss_nil)
            (pss_one (st 9 scThrough.nd (pe_call GP hrP (by rfl) gP kP bP .nil pass0 (pa_cons (pv 9) (pa_cons (pe_call GT hrT (by rfl) gT kT bT .nil pass0 (pa_cons (pv 11) (pa_cons (pe_ix (ixL K) (pv 4) (pv 10) (fun _ _ => rfl)) (pa_cons (pv 3) pa_nil)))) (pa_cons (pv 3) pa_nil)))))))))
          (pss_cons (ps_if (pt_cmpR op_eq (pe_ix (ixT K) (pe_ix (ixT K) (pv 0) pe_int (fun _ _ => rfl)) (pv 6) (fun _ _ => rfl)) pe_str (nomark _)) (
            pss_one (st 9 scThrough.nd (pe_call GT hrT (by rfl) gT kT bT .nil pass0 (pa_cons (pv 9) (pa_cons (pv 9) (pa_cons (pv 3) pa_nil)))))) pss_nil)
          (pss_one (ps_expr (pe_bm PySem.F.plainAttrs_list PySem.F.slot_list_append PySem.F.type_list_append mt_append (pv 7) (pa_cons (pv 9) pa_nil))))))))
        (pss_one (st 4 scThrough.nd (pv 7))))))
      (pss_one (ps_ret (pv 4)))))), ?_⟩
    -- 0:_law_net_here 1:_law_chosen 2:_law_vector_here 3:_law_prime_here 4:_law_values 5:_law_one 6:_law_layer 7:_law_more 8:_law_i 9:_law_total 10:_law_k 11:_law_weight
    obtain ⟨nA, v2, v3, rfl, hA, hW, hK⟩ := id hN
    obtain ⟨wA, wvs, rfl, w1, w2, w3⟩ := hW
    obtain ⟨kA, kvs, rfl, k1, k2, k3⟩ := hK
    obtain ⟨xA, xvs, rfl, x1, x2, x3⟩ := hx
    have hn := N.hn
    have hw := N.hw
    have hp := N.hp
    have hM2 : ∀ l i k, (lwM N l0 i0 k0 l i k).length ≤ 2 := fun l i k => by unfold lwM; split <;> simp
    have hMs : ∀ l i k, Sm (lwM N l0 i0 k0 l i k) := fun l i k y hy => by
      have b := N.hW l i k
      unfold lwM at hy
      split at hy
      · rcases List.mem_cons.mp hy with rfl | hy
        · omega
        · rw [List.mem_singleton.mp hy]; omega
      · rw [List.mem_singleton.mp hy]; omega
    have two : ∀ l, l ≤ N.n → 2 ^ (l + 1) ≤ 16 := fun l hl => Nat.le_trans (Nat.pow_le_pow_right (by decide) (show l + 1 ≤ 4 by omega)) (by decide)
    refine ⟨_, rfl, nA, _, 0, .int N.p, rfl, rfl, SqT.of hA, rfl, ?_⟩
    refine ⟨_, rfl, xA, rfl, ⟨_, SqT.of x1⟩, fun D hD => ?_⟩
    refine lc_map (wTup x2) none_ (fun H' i v => LPolX (fun b => b = D) [x i] H' v) (fun _ => True) hD (sizeSmall (by omega)) (fun z => z) trivial (fun _ _ _ _ _ => trivial) (fun H' s _ => seqT_of x1 (same_ts (kp_same s))) (fun H' H'' j v _ _ kk p => p.mono (kk.weak fun b z => z.elim (fun z => z.elim) fun z => z) fun _ z => z) (fun i u H1 H2 acc Z hi s1 _ hacc hy hz => ?_) fun H1 us s1 _ h1 h2 h3 => ?_
    · obtain ⟨rfl, eu⟩ := hy
      obtain rfl := x3 i u eu
      refine ⟨rfl, _, rfl, (show 1 ≤ sizeLine by decide), fun E hE => hz _ _ (kp_new hE) trivial ⟨E, rfl, (ne_of_none hacc hE).symm, upd_same⟩⟩
    have s1' := kp_same s1
    refine ⟨_, rfl, nA, _, 1, .ref wA, rfl, rfl, SqT.of (s1' _ _ hA), rfl, wA, _, rfl, .inr (SqT.of (s1' _ _ w1)), _, rfl, by omega, by omega, ?_⟩
    refine for_range (lo := 0) (n := ((wvs.length : Nat) : Int).toNat) (fun l σ H' => ∃ (v4 : V) (y5 y6 y7 y8 y9 y10 y11 : Option V), σ = [some (.ref nA), some (.ref T0), some (.ref xA), some (.int N.p), some v4, y5, y6, y7, y8, y9, y10, y11] ∧ Same H H' ∧ LstF N.w (fun i u => LPol (thM N.p N.w N.k (lwM N l0 i0 k0) x l i) H' u) H' v4)
      ⟨.ref D, none, none, none, none, none, none, none, rfl, s1', lst_of h1 h2 fun j v e => (h3 j v e).pol⟩ ?_ ?_
    · rintro l σ H2 hl ⟨v4, y5, y6, y7, y8, y9, y10, y11, rfl, s2, hpres⟩
      rw [Int.zero_add]
      obtain ⟨pA, pvs, rfl, _, p1, p2, p3⟩ := hpres
      have hl' : l < N.n := by omega
      have t16 := two l (by omega)
      have hlen : ∀ i, (thM N.p N.w N.k (lwM N l0 i0 k0) x l i).length ≤ 2 ^ (l + 1) - 1 := fun i => by have := (th_ok (w := N.w) (ks := N.k) hp x xb hM2 l i).2; omega
      refine ⟨Nat.zero_le _, fun E hE => ?_⟩
      have sE : Same H2 (upd H2 E (.lst [])) := same_new hE
      refine ⟨_, rfl, pA, _, rfl, .inl (SqL.of (sE _ _ p1)), _, rfl, by omega, by omega, ?_⟩
      refine for_range (lo := 0) (n := ((pvs.length : Nat) : Int).toNat) (fun i σ H' => ∃ (ms : List V) (y8 y9 y10 y11 : Option V), σ = [some (.ref nA), some (.ref T0), some (.ref xA), some (.int N.p), some (.ref pA), y5, some (.int (l : Nat)), some (.ref E), y8, y9, y10, y11] ∧ Same H2 H' ∧ H' E = some (.lst ms) ∧ ms.length = i ∧ ∀ (j : Nat) (u : V), ms[j]? = some u → LPolX (fun b => b = E) (thM N.p N.w N.k (lwM N l0 i0 k0) x (l + 1) j) H' u)
        ⟨[], y8, y9, y10, y11, rfl, sE, upd_same, rfl, fun j u e => by simp at e⟩ ?_ ?_
      · rintro i σ H4 hi ⟨ms, y8, y9, y10, y11, rfl, s4, e1, e2, e3⟩
        rw [Int.zero_add]
        refine ⟨Nat.zero_le _, fun Z0 hZ0 => ?_⟩
        have sZ : Same H4 (upd H4 Z0 (.lst [])) := same_new hZ0
        refine ⟨_, rfl, pA, _, rfl, .inl (SqL.of (sZ _ _ (s4 _ _ p1))), _, rfl, by omega, by omega, ?_⟩
        refine for_range (lo := 0) (n := ((pvs.length : Nat) : Int).toNat) (fun k σ H' => ∃ (v9 : V) (y10 y11 : Option V), σ = [some (.ref nA), some (.ref T0), some (.ref xA), some (.int N.p), some (.ref pA), y5, some (.int (l : Nat)), some (.ref E), some (.int (i : Nat)), some v9, y10, y11] ∧ Same H4 H' ∧ LPolX (fun b => b = E) (ltotM N.p (lwM N l0 i0 k0 l i) (thM N.p N.w N.k (lwM N l0 i0 k0) x l) k) H' v9)
          ⟨.ref Z0, y10, y11, rfl, sZ, Z0, rfl, (ne_of_none e1 hZ0).symm, upd_same⟩ ?_ ?_
        · rintro k σ H5 hk ⟨v9, y10, y11, rfl, s5, hv9⟩
          rw [Int.zero_add]
          have hi' : i < N.w := by omega
          have hk' : k < N.w := by omega
          have s25 := s4.trans s5
          have s05 := s2.trans s25
          obtain ⟨u1, eu1⟩ := at_lt w2 hl'
          obtain ⟨mA, mvs, rfl, m1, m2, m3⟩ := w3 l u1 eu1
          obtain ⟨u2, eu2⟩ := at_lt m2 hi'
          obtain ⟨rA, rvs, rfl, r1, r2, r3⟩ := m3 i u2 eu2
          obtain ⟨u3, eu3⟩ := at_lt r2 hk'
          obtain rfl := r3 k u3 eu3
          refine ⟨_, rfl, nA, _, 1, .ref wA, rfl, rfl, SqT.of (s05 _ _ hA), rfl, _, rfl, wA, wvs, _, _, rfl, rfl, SqT.of (s05 _ _ w1), atI_nat eu1, _, rfl, mA, mvs, _, _, rfl, rfl, SqT.of (s05 _ _ m1), atI_nat eu2, _, rfl, rA, rvs, _, _, rfl, rfl, SqT.of (s05 _ _ r1), atI_nat eu3, (show 1 ≤ sizeLine by decide), fun L hL => ?_⟩
          have sL : Same H5 (upd H5 L (.lst [.int (N.W l i k)])) := same_new hL
          have s0L := s05.trans sL
          have nEL : E ≠ L := ne_of_none (s5 _ _ e1) hL
          refine ⟨_, rfl, _, rfl, _, rfl, (show 3 ≤ sizeLine by decide), fun T3 hT3 => ?_⟩
          have sT3 : Same (upd H5 L (.lst [.int (N.W l i k)])) (upd _ T3 (.tup [.int l, .int i, .int k])) := same_new hT3
          have s0T := s0L.trans sT3
          refine ⟨_, rfl, .tuple [.int l, .int i, .int k], .tuple [.int l0, .int i0, .int k0], .tup (SqT.of upd_same) (.cons (.int _) (.cons (.int _) (.cons (.int _) .nil))), .tup (SqT.of (s0T _ _ hT)) (.cons (.int _) (.cons (.int _) (.cons (.int _) .nil))), shaped3 _ _ _, shaped3 _ _ _, _, rfl, ?_⟩
          rw [eqv3]
          have s5T := sL.trans sT3
          have hL7 := sT3 _ _ (show upd H5 L (.lst [.int (N.W l i k)]) L = some (.lst [.int (N.W l i k)]) from upd_same)
          generalize hH7 : upd (upd H5 L (.lst [.int (N.W l i k)])) T3 (.tup [.int l, .int i, .int k]) = H7 at s5T s0T hL7 sT3 ⊢
          refine ite_join (fun σ' H' => ∃ v11, σ' = [some (.ref nA), some (.ref T0), some (.ref xA), some (.int N.p), some (.ref pA), y5, some (.int (l : Nat)), some (.ref E), some (.int (i : Nat)), some v9, some (.int (k : Nat)), some v11] ∧ Same H5 H' ∧ LPol (lwM N l0 i0 k0 l i k) H' v11) (fun hc hr => ?_) (fun hc hr => hr _ _ ⟨.ref L, rfl, s5T, L, rfl, ?_⟩) ?_
          · refine ⟨_, rfl, (show 1 ≤ sizeLine by decide), fun O hO => ?_⟩
            have sO : Same H7 (upd H7 O (.lst [.int 1])) := same_new hO
            refine ⟨L, O, _, _, rfl, rfl, sO _ _ hL7, upd_same, (show 2 ≤ sizeLine by decide), fun M hM => ?_⟩
            refine hr _ _ ⟨.ref M, rfl, s5T.trans (sO.trans (same_new hM)), M, rfl, ?_⟩
            rw [upd_same]
            unfold lwM
            rw [if_pos (of_decide_eq_true hc)]
            rfl
          · rw [hL7]
            unfold lwM
            rw [if_neg (of_decide_eq_false hc)]
            rfl
          · rintro σ' H8 ⟨v11, rfl, s8, h11⟩
            obtain ⟨A11, rfl, q11⟩ := h11
            obtain ⟨V9, rfl, n9, q9⟩ := hv9
            obtain ⟨u4, eu4⟩ := at_lt p2 hk'
            obtain ⟨B4, rfl, q4⟩ := p3 k u4 eu4
            have s28 := s25.trans s8
            have ht := ltot_ok hp (A := lwM N l0 i0 k0 l i) (B := thM N.p N.w N.k (lwM N l0 i0 k0) x l) (hM2 l i) hlen k
            have hb2 := hM2 l i k
            have hb3 := hlen k
            refine ⟨_, rfl, _, rfl, _, rfl, _, rfl, pA, pvs, _, _, rfl, rfl, SqL.of (s28 _ _ p1), atI_nat eu4, _, rfl, N.p, A11, B4, _, _, rfl, hp.1, hp.2, q11, s28 _ _ q4, hMs l i k, by omega, by omega, fun H9 l9 s9 f9 h9 => ?_⟩
            refine ⟨_, rfl, N.p, V9, l9, _, _, rfl, hp.1, hp.2, s9 _ _ (s8 _ _ q9), h9, by omega, by rw [mulL_len]; omega, fun H10 l10 s10 f10 h10 => ?_⟩
            have s5_10 := s8.trans (s9.trans s10)
            have e9 := s9 _ _ (s8 _ _ (s5 _ _ e1))
            exact ⟨_, _, _, rfl, s5.trans s5_10, l10, rfl, (ne_of_none e9 f10).symm, h10⟩
        · rintro σ H5 ⟨v9, y10, y11, rfl, s5, hv9⟩
          rw [p2, show ((N.w : Nat) : Int).toNat = N.w by omega] at hv9
          have ht := ltot_ok hp (A := lwM N l0 i0 k0 l i) (B := thM N.p N.w N.k (lwM N l0 i0 k0) x l) (hM2 l i) hlen N.w
          have s25 := s4.trans s5
          have s05 := s2.trans s25
          have eE := s5 _ _ e1
          obtain ⟨u1, eu1⟩ := at_lt k2 hl'
          obtain rfl := k3 l u1 eu1
          refine ⟨_, rfl, nA, _, 2, .ref kA, rfl, rfl, SqT.of (s05 _ _ hA), rfl, _, rfl, kA, kvs, _, _, rfl, rfl, SqT.of (s05 _ _ k1), atI_nat eu1, rfl, _, rfl, ?_⟩
          rw [kStr_sq]
          have fin : ∀ H8 v, Same H5 H8 → LPolX (fun b => b = E) (thM N.p N.w N.k (lwM N l0 i0 k0) x (l + 1) i) H8 v → H8 E = some (.lst ms) ∧ Same H2 (upd H8 E (.lst (ms ++ [v]))) ∧ ∀ (j : Nat) (u : V), (ms ++ [v])[j]? = some u → LPolX (fun b => b = E) (thM N.p N.w N.k (lwM N l0 i0 k0) x (l + 1) j) (upd H8 E (.lst (ms ++ [v]))) u := fun H8 v s8 hv => by
            have dL8 := s8 _ _ eE
            refine ⟨dL8, same_over (s25.trans s8) hE, at_app e2 (fun j u e => ?_) (hv.mono (kp_upd rfl) fun _ z => z)⟩
            exact ((e3 j u e).same (s5.trans s8)).mono (kp_upd rfl) fun _ z => z
          cases hk : N.k l with
          | true =>
            obtain ⟨V9, rfl, n9, q9⟩ := hv9
            refine iteT ⟨_, rfl, _, rfl, _, rfl, N.p, V9, V9, _, _, rfl, hp.1, hp.2, q9, q9, ht.1, by omega, by omega, fun H8 l8 s8 f8 h8 => ?_⟩
            obtain ⟨z1, z2, z3⟩ := fin H8 (.ref l8) s8 (by show LPolX _ (if N.k l = true then _ else _) H8 (.ref l8); rw [if_pos hk]; exact ⟨l8, rfl, (ne_of_none eE f8).symm, h8⟩)
            exact ⟨_, rfl, .inl ⟨rfl, _, SqL.of z1⟩, _, rfl, E, ms, _, rfl, rfl, z1, sizeSmall (by omega), ms ++ [.ref l8], _, _, _, _, rfl, z2, upd_same, by rw [List.length_append, e2] <;> rfl, z3⟩
          | false =>
            refine iteF ?_
            obtain ⟨z1, z2, z3⟩ := fin H5 v9 (Same.refl _) (by show LPolX _ (if N.k l = true then _ else _) H5 v9; rw [if_neg (by rw [hk]; decide)]; exact hv9)
            exact ⟨_, rfl, .inl ⟨rfl, _, SqL.of z1⟩, _, rfl, E, ms, _, rfl, rfl, z1, sizeSmall (by omega), ms ++ [v9], _, _, _, _, rfl, z2, upd_same, by rw [List.length_append, e2] <;> rfl, z3⟩
      · rintro σ H4 ⟨ms, y8, y9, y10, y11, rfl, s4, e1, e2, e3⟩
        exact ⟨_, rfl, .ref E, _, _, _, _, _, _, _, rfl, s2.trans s4, lst_of e1 (by omega) fun j u e => (e3 j u e).pol⟩
    · rintro σ H2 ⟨v4, y5, y6, y7, y8, y9, y10, y11, rfl, s2, hpres⟩
      rw [w2, show ((N.n : Nat) : Int).toNat = N.n by omega] at hpres
      exact ⟨_, rfl, q _ _ s2 hpres⟩

theorem scLPoly : FnScope ["_law_net_here", "_law_batch", "_law_chosen", "_law_prime_here", "_law_total", "_law_portion_here", "_law_vector_here", "_law_target", "_law_values", "_law_k", "_law_less", "_law_step"] ["_law_net_here", "_law_batch", "_law_chosen"] (defScope sLPoly) := ⟨rfl, rfl, rfl, by decide +kernel, rfl, by decide +kernel, by decide +kernel⟩
theorem ok_LPoly {f : Addr} {fd : FuncData} (F : Fun K "_law_polynomial" "_law_polynomial" sLPoly f fd) (T : Txt K mg C) (cP : Cal P w K mg base "_law_plus" 1 ["_law_one", "_law_other", "_law_prime_here"] spLPlus) (cT : Cal P w K mg base "_law_times" 1 ["_law_one", "_law_other", "_law_prime_here"] spLTimes) (cH : Cal P w K mg base "_law_through" 2 ["_law_net_here", "_law_chosen", "_law_vector_here"] spThrough) : FnOk P w K mg base CX0 3 f fd ["_law_net_here", "_law_batch", "_law_chosen"] (spLPoly) := by
  obtain ⟨fP, fdP, GP, gP, kP, bP⟩ := cP.ex
  obtain ⟨fT, fdT, GT, gT, kT, bT⟩ := cT.ex
  obtain ⟨fH, fdH, GH, gH, kH, bH⟩ := cH.ex
  refine F.ok scLPoly (fun vs H Q E h => ?_) (fun cdv A outer s H vs Q E hr h => ?_)
  · obtain ⟨N, B, ov, bv, T0, l0, i0, k0, rfl, _⟩ := h
    rfl
  · obtain ⟨N, B, ov, bv, T0, l0, i0, k0, rfl, hN, hB, hT, q⟩ := h
    have hrP : Room 1 _ := hr.mono (by decide)
    have hrT : Room 1 _ := hr.mono (by decide)
    have hrH : Room 2 _ := hr.mono (by decide)
    refine ⟨_, (pss_cons (st 3 scLPoly.nd (pe_ix (ixT K) (pv 0) pe_int (fun _ _ => rfl)))
      (pss_cons (st 4 scLPoly.nd (pe_lst pa_nil))
      (pss_cons (ps_for PassesOwn.never rfl (lstI K (pv 1)) (gn 5 scLPoly.nd) (
        pss_one (ps_for PassesOwn.never rfl (tupI K (pv 5)) (gtupK K (pgs_cons (gn 6 scLPoly.nd) (pgs_cons (gn 7 scLPoly.nd) pgs_nil))) (pss_cons (st 8 scLPoly.nd (pe_call GH hrH (by rfl) gH kH bH .nil pass0 (pa_cons (pv 0) (pa_cons (pv 2) (pa_cons (pv 6) pa_nil)))))
          (pss_one (ps_for PassesOwn.never rfl (pi_range1 (by rfl) T.range (pa_cons (pe_callB (lenK K) (by rfl) T.len PySem.boot_len (pa_cons (pv 7) pa_nil)) pa_nil)) (gn 9 scLPoly.nd) (pss_cons (st 10 scLPoly.nd (pe_call GP hrP (by rfl) gP kP bP .nil pass0 (pa_cons (pe_ix (ixL K) (pv 8) (pv 9) (fun _ _ => rfl)) (pa_cons (pe_lst (pa_cons (pe_op op_sub pe_int (pe_ix (ixT K) (pv 7) (pv 9) (fun _ _ => rfl))) pa_nil)) (pa_cons (pv 3) pa_nil)))))
            (pss_one (st 4 scLPoly.nd (pe_call GP hrP (by rfl) gP kP bP .nil pass0 (pa_cons (pv 4) (pa_cons (pe_call GT hrT (by rfl) gT kT bT .nil pass0 (pa_cons (pv 10) (pa_cons (pv 10) (pa_cons (pv 3) pa_nil)))) (pa_cons (pv 3) pa_nil)))))))))))))
      (pss_cons (ps_for PassesOwn.never rfl (pi_range1 (by rfl) T.range (pa_cons (pe_callB (lenK K) (by rfl) T.len PySem.boot_len (pa_cons (pv 4) pa_nil)) pa_nil)) (gn 11 scLPoly.nd) (
        pss_one (ps_if (PW.pt (pw_and (pt_cmpR op_gt (pe_callB (lenK K) (by rfl) T.len PySem.boot_len (pa_cons (pv 4) pa_nil)) pe_int (nomark _)) (pw_and1 (pt_cmpR op_eq (pe_ix (ixL K) (pv 4) (pe_un un_neg pe_int) (fun _ _ => rfl)) pe_int (nomark _))))) (
          pss_one (st 4 scLPoly.nd (pe_slice (slL K) (pv 4) po_none (po_some (pe_un un_neg pe_int))))) pss_nil)))
      (pss_one (ps_ret (pv 4))))))), ?_⟩
    -- 0:_law_net_here 1:_law_batch 2:_law_chosen 3:_law_prime_here 4:_law_total 5:_law_portion_here 6:_law_vector_here 7:_law_target 8:_law_values 9:_law_k 10:_law_less 11:_law_step
    obtain ⟨nA, v2, v3, rfl, hA, hW, hK⟩ := id hN
    obtain ⟨bA, bvs, rfl, _, b1, b2, b3⟩ := hB
    have hw := N.hw
    have hp := N.hp
    have hn := N.hn
    have hM2 : ∀ l i k, (lwM N l0 i0 k0 l i k).length ≤ 2 := fun l i k => by unfold lwM; split <;> simp
    have hO : ∀ x : Nat → Int, (∀ i, 0 ≤ x i ∧ x i < N.p) → ∀ i, (thM N.p N.w N.k (lwM N l0 i0 k0) x N.n i).length ≤ 15 := fun x xb i => by
      have h1 := (th_ok (w := N.w) (ks := N.k) hp x xb hM2 N.n i).2
      have h2 : 2 ^ (N.n + 1) ≤ 16 := Nat.le_trans (Nat.pow_le_pow_right (by decide) (show N.n + 1 ≤ 4 by omega)) (by decide)
      omega
    refine ⟨_, rfl, nA, _, 0, .int N.p, rfl, rfl, SqT.of hA, rfl, ?_⟩
    refine ⟨Nat.zero_le _, fun Z0 hZ0 => ?_⟩
    have sZ : Same H (upd H Z0 (.lst [])) := same_new hZ0
    refine ⟨_, rfl, bA, rfl, ⟨_, SqL.of (sZ _ _ b1)⟩, ?_⟩
    generalize hOO : (fun x => thM N.p N.w N.k (lwM N l0 i0 k0) x N.n) = O
    have hO' : ∀ x : Nat → Int, (∀ i, 0 ≤ x i ∧ x i < N.p) → ∀ i, (O x i).length ≤ 15 := fun x xb i => by rw [← hOO]; exact hO x xb i
    refine for_it (wLst b2) (fun r σ H' => ∃ (v4 : V) (y5 y6 y7 y8 y9 y10 : Option V), σ = [some (.ref nA), some (.ref bA), some (.ref T0), some (.int N.p), some v4, y5, y6, y7, y8, y9, y10, none] ∧ Same H H' ∧ LPol (lbtP N.p N.w O B r) H' v4 ∧ (lbtP N.p N.w O B r).length ≤ 29)
      ⟨.ref Z0, none, none, none, none, none, none, rfl, sZ, ⟨Z0, rfl, upd_same⟩, Nat.zero_le _⟩ (fun i σ H' _ p => ?_) ?_ ?_
    · obtain ⟨_, _, _, _, _, _, _, _, s, _⟩ := p
      exact SqL.of (s _ _ b1)
    · rintro r u σ H2 H3 hr ⟨v4, y5, y6, y7, y8, y9, y10, rfl, s2, hv4, hl4⟩ ⟨rfl, eu⟩
      obtain ⟨pA, pvs, rfl, p1, p2, p3⟩ := b3 r u eu
      refine ⟨_, rfl, pA, rfl, ⟨_, SqT.of (s2 _ _ p1)⟩, ?_⟩
      refine for_it (wTup p2) (fun e σ H' => ∃ (v4 : V) (y6 y7 y8 y9 y10 : Option V), σ = [some (.ref nA), some (.ref bA), some (.ref T0), some (.int N.p), some v4, some (.ref pA), y6, y7, y8, y9, y10, none] ∧ Same H H' ∧ LPol (lptP N.p N.w O (B.x r) (B.t r) (lbtP N.p N.w O B r) e) H' v4 ∧ (lptP N.p N.w O (B.x r) (B.t r) (lbtP N.p N.w O B r) e).length ≤ 29)
        ⟨v4, y6, y7, y8, y9, y10, rfl, s2, hv4, hl4⟩ (fun i σ H' _ p => ?_) ?_ ?_
      · obtain ⟨_, _, _, _, _, _, _, s, _⟩ := p
        exact SqT.of (s _ _ p1)
      · rintro e u σ H4 H5 he ⟨v4, y6, y7, y8, y9, y10, rfl, s4, hv4, hl4⟩ ⟨rfl, eu'⟩
        obtain ⟨Te, v1, v2', rfl, hTe, hx, ht⟩ := p3 e u eu'
        refine ⟨Te, [v1, v2'], rfl, SqT.of (s4 _ _ hTe), rfl, v1, [v2'], rfl, v2', [], rfl, rfl, ?_⟩
        refine ⟨_, rfl, _, rfl, _, rfl, N, _, v1, T0, l0, i0, k0, B.x r e, rfl, lnet_mono hN (same_ts s4), s4 _ _ hT, vec_mono hx (same_ts s4), B.hx r e, fun H6 ov s6 ho => ?_⟩
        obtain ⟨oA, ovs, rfl, _, o1, o2, o3⟩ := ho
        obtain ⟨tA, tvs, rfl, t1, t2, t3⟩ := ht
        have s06 := s4.trans s6
        refine ⟨_, rfl, tA, _, rfl, .inr (SqT.of (s06 _ _ t1)), _, rfl, by omega, by omega, ?_⟩
        refine for_range (lo := 0) (n := ((tvs.length : Nat) : Int).toNat) (fun k σ H' => ∃ (v4 : V) (y9 y10 : Option V), σ = [some (.ref nA), some (.ref bA), some (.ref T0), some (.int N.p), some v4, some (.ref pA), some v1, some (.ref tA), some (.ref oA), y9, y10, none] ∧ Same H6 H' ∧ LPol (lexP N.p (O (B.x r e)) (B.t r e) (lptP N.p N.w O (B.x r) (B.t r) (lbtP N.p N.w O B r) e) k) H' v4)
          ⟨v4, y9, y10, rfl, Same.refl _, lpol_same hv4 s6⟩ ?_ ?_
        · rintro k σ H7 hk ⟨v4, y9, y10, rfl, s7, hv4⟩
          rw [Int.zero_add]
          have hk' : k < N.w := by omega
          have s07 := s06.trans s7
          obtain ⟨u1, eu1⟩ := at_lt o2 hk'
          obtain ⟨u2, eu2⟩ := at_lt t2 hk'
          have g1 : LPol (O (B.x r e) k) H6 u1 := by
            rw [← hOO]
            exact o3 k u1 eu1
          obtain ⟨G1, rfl, g1⟩ := g1
          obtain rfl := t3 k u2 eu2
          obtain ⟨V4, rfl, q4⟩ := hv4
          have hok := hO' (B.x r e) (B.hx r e) k
          have lx := lex_len (p := N.p) (O (B.x r e)) (B.t r e) _ hl4 (hO' (B.x r e) (B.hx r e)) k
          refine ⟨_, rfl, _, rfl, oA, ovs, _, _, rfl, rfl, SqL.of (s7 _ _ o1), atI_nat eu1, _, rfl, _, rfl, tA, tvs, _, _, rfl, rfl, SqT.of (s07 _ _ t1), atI_nat eu2, _, _, rfl, rfl, (show 1 ≤ sizeLine by decide), fun L hL => ?_⟩
          have sL : Same H7 (upd H7 L (.lst [.int (0 - B.t r e k)])) := same_new hL
          refine ⟨_, rfl, N.p, G1, L, O (B.x r e) k, [0 - B.t r e k], rfl, hp.1, hp.2, sL _ _ (s7 _ _ g1), upd_same, by omega, by rw [List.length_singleton]; omega, fun H8 l8 s8 f8 h8 => ?_⟩
          have ll : (addL N.p (O (B.x r e) k) [0 - B.t r e k]).length ≤ 15 := by rw [addL_len, List.length_singleton]; omega
          refine ⟨_, rfl, _, rfl, _, rfl, _, rfl, N.p, l8, l8, _, _, rfl, hp.1, hp.2, h8, h8, sm_addL hp _ _, by omega, by omega, fun H9 l9 s9 f9 h9 => ?_⟩
          refine ⟨_, rfl, N.p, V4, l9, _, _, rfl, hp.1, hp.2, s9 _ _ (s8 _ _ (sL _ _ q4)), h9, by omega, by rw [mulL_len]; omega, fun H10 l10 s10 f10 h10 => ?_⟩
          exact ⟨_, _, _, rfl, s7.trans (sL.trans (s8.trans (s9.trans s10))), l10, rfl, h10⟩
        · rintro σ H7 ⟨v4, y9, y10, rfl, s7, hv4⟩
          rw [t2, show ((N.w : Nat) : Int).toNat = N.w by omega] at hv4
          exact ⟨v4, _, _, _, _, _, rfl, s06.trans s7, hv4, lex_len (p := N.p) (O (B.x r e)) (B.t r e) _ hl4 (hO' (B.x r e) (B.hx r e)) N.w⟩
      · rintro σ H4 ⟨v4, y6, y7, y8, y9, y10, rfl, s4, hv4, hl4⟩
        exact ⟨v4, _, _, _, _, _, _, rfl, s4, hv4, hl4⟩
    · rintro σ H2 ⟨v4, y5, y6, y7, y8, y9, y10, rfl, s2, hv4, hl4⟩
      generalize hns : lbtP N.p N.w O B B.b = ns at hv4 hl4
      obtain ⟨V4, rfl, q4⟩ := hv4
      refine ⟨_, rfl, V4, _, rfl, .inl (SqL.of q4), _, rfl, by omega, by rw [List.length_map]; omega, ?_⟩
      refine for_range (lo := 0) (n := (((ns.map V.int).length : Nat) : Int).toNat) (fun m σ H' => ∃ (V5 : Addr) (us : List Int) (y11 : Option V), σ = [some (.ref nA), some (.ref bA), some (.ref T0), some (.int N.p), some (.ref V5), y5, y6, y7, y8, y9, y10, y11] ∧ Same H H' ∧ H' V5 = some (.lst (us.map V.int)) ∧ trim us = trim ns ∧ (us = trim us ∨ us.length + m = ns.length))
        ⟨V4, ns, none, rfl, s2, q4, rfl, .inr rfl⟩ ?_ ?_
      · rintro m σ H3 hm ⟨V5, us, y11, rfl, s3, q5, e1, e2⟩
        rw [Int.zero_add]
        refine ⟨_, rfl, V5, _, rfl, .inl (SqL.of q5), _, _, rfl, rfl, _, rfl, ?_⟩
        rcases List.eq_nil_or_concat us with rfl | ⟨vs, c, ec⟩
        · exact iteF ⟨V5, [], _, rfl, s3, q5, e1, .inl rfl⟩
        · rw [List.concat_eq_append] at ec
          subst ec
          have hl : (0 : Int) < (((vs ++ [c]).map V.int).length : Int) := by simp only [List.length_map, List.length_append, List.length_singleton]; omega
          rw [decide_eq_true hl]
          have hla : atI ((vs ++ [c]).map V.int) (-1) = some (.int c) := by
            rw [List.map_append]
            exact atI_last _ _
          refine iteT ⟨_, rfl, 1, rfl, V5, _, -1, _, rfl, rfl, SqL.of q5, hla, rfl, _, rfl, ?_⟩
          by_cases hc : c = 0
          · subst hc
            rw [decide_eq_true rfl]
            refine iteT ⟨_, rfl, 1, rfl, -1, rfl, V5, _, rfl, SqL.of q5, fun E1 hE1 => ?_⟩
            refine ⟨E1, vs, _, rfl, s3.trans (same_new hE1), ?_, by rw [← e1, trim_zero], ?_⟩
            · rw [upd_same, cut_last]
              simp
            · rcases e2 with e2 | e2
              · rw [trim_zero] at e2
                have := trim_len vs
                rw [← e2] at this
                simp at this
                omega
              · rw [List.length_append, List.length_singleton] at e2
                exact .inr (by omega)
          · rw [decide_eq_false (fun z => hc (V.int.inj z))]
            exact iteF ⟨V5, vs ++ [c], _, rfl, s3, q5, e1, .inl (trim_keep vs hc).symm⟩
      · rintro σ H3 ⟨V5, us, y11, rfl, s3, q5, e1, e2⟩
        have eus : us = trim ns := by
          rcases e2 with e2 | e2
          · rw [← e1]; exact e2
          · have : us = [] := List.length_eq_zero_iff.mp (by rw [List.length_map] at e2; omega)
            subst this
            exact e1
        refine ⟨_, rfl, q _ _ s3 ⟨V5, rfl, ?_⟩⟩
        rw [q5, eus]
        unfold llM
        rw [hOO, hns]

theorem scLVal : FnScope ["_law_polynomial_here", "_law_number", "_law_prime_here", "_law_value_here", "_law_k"] ["_law_polynomial_here", "_law_number", "_law_prime_here"] (defScope sLVal) := ⟨rfl, rfl, rfl, by decide +kernel, rfl, by decide +kernel, by decide +kernel⟩
theorem ok_LVal {f : Addr} {fd : FuncData} (F : Fun K "_law_value" "_law_value" sLVal f fd) (T : Txt K mg C) : FnOk P w K mg base CX0 1 f fd ["_law_polynomial_here", "_law_number", "_law_prime_here"] (spLVal) := by
  refine F.ok scLVal (fun vs H Q E h => ?_) (fun cdv A outer s H vs Q E hr h => ?_)
  · obtain ⟨p, A1, a, t, rfl, _⟩ := h
    rfl
  · obtain ⟨p, A1, a, t, rfl, hp, hp2, ha, la, q⟩ := h
    refine ⟨_, (pss_cons (st 3 scLVal.nd pe_int)
      (pss_cons (ps_for PassesOwn.never rfl (pi_range1 (by rfl) T.range (pa_cons (pe_callB (lenK K) (by rfl) T.len PySem.boot_len (pa_cons (pv 0) pa_nil)) pa_nil)) (gn 4 scLVal.nd) (
        pss_one (st 3 scLVal.nd (pe_op op_mod (pe_callTy (call_int1) (by rfl) T.int boot_int (pa_cons (pe_op op_add (pe_op op_mul (pv 3) (pv 1)) (pe_ix (ixL K) (pv 0) (pe_op op_sub (pe_op op_sub (pe_callB (lenK K) (by rfl) T.len PySem.boot_len (pa_cons (pv 0) pa_nil)) pe_int) (pv 4)) (fun _ _ => rfl))) pa_nil)) (pv 2)))))
      (pss_one (ps_ret (pv 3))))), ?_⟩
    -- 0:_law_polynomial_here 1:_law_number 2:_law_prime_here 3:_law_value_here 4:_law_k
    have al : (a.map V.int).length = a.length := List.length_map ..
    refine ⟨_, rfl, A1, _, rfl, .inl (SqL.of ha), _, rfl, by omega, by omega, ?_⟩
    refine for_range (lo := 0) (n := (((a.map V.int).length : Nat) : Int).toNat) (fun i σ H' => ∃ y : Option V, σ = [some (.ref A1), some (.int t), some (.int p), some (.int (horn p t (a.drop (a.length - i)))), y] ∧ H' = H)
      ⟨none, by rw [Nat.sub_zero, List.drop_length]; rfl, rfl⟩ ?_ ?_
    · rintro i σ H1 hi ⟨y, rfl, rfl⟩
      rw [al] at hi
      have hb := horn_bd (show 0 < p by omega) t (a.drop (a.length - i))
      have hi2 : a.length - 1 - i < a.length := by omega
      have ix : atI (a.map V.int) ((((a.map V.int).length : Nat) : Int) - 1 - (0 + (i : Int))) = some (.int (a[a.length - 1 - i]'hi2)) := by
        have e : (a.map V.int)[a.length - 1 - i]? = some (.int (a[a.length - 1 - i]'hi2)) := by rw [List.getElem?_map, List.getElem?_eq_getElem hi2]; rfl
        have z := atI_nat e
        rwa [show ((a.length - 1 - i : Nat) : Int) = ((((a.map V.int).length : Nat) : Int) - 1 - (0 + (i : Int))) by omega] at z
      refine ⟨_, rfl, _, rfl, _, _, rfl, rfl, .inl (small64 (by omega) (by omega)), _, rfl, _, rfl, A1, _, rfl, .inl (SqL.of ha), _, _, rfl, rfl, _, rfl, _, _, rfl, rfl, A1, _, _, _, rfl, rfl, SqL.of ha, ix, _, _, rfl, rfl, .inl ⟨_, rfl, _, rfl, _, _, rfl, rfl, (show (0 : Int) < p by omega), ?_⟩⟩
      refine ⟨some (.int (0 + i)), ?_, rfl⟩
      have e2 : a.drop (a.length - (i + 1)) = a[a.length - 1 - i]'hi2 :: a.drop (a.length - i) := by
        have e3 : a.length - (i + 1) = a.length - 1 - i := by omega
        have e4 : a.length - i = (a.length - 1 - i) + 1 := by omega
        rw [e3, e4]
        exact List.drop_eq_getElem_cons (by omega)
      rw [e2]
      rfl
    · rintro σ H1 ⟨y, rfl, rfl⟩
      rw [al, show ((a.length : Nat) : Int).toNat = a.length by omega, Nat.sub_self, List.drop_zero]
      exact ⟨_, rfl, q⟩

theorem scWith : FnScope ["_law_net_here", "_law_chosen", "_law_number", "_law_layer", "_law_i", "_law_k", "_law_weights", "_law_row", "_law_matrix"] ["_law_net_here", "_law_chosen", "_law_number"] (defScope sWith) := ⟨rfl, rfl, rfl, by decide +kernel, rfl, by decide +kernel, by decide +kernel⟩
theorem yes_te {σ : L2.St} {H : Hp} {te : TE} {Z : VK} {W : Hp → Prop} (h : te σ H Z) : tYes σ H fun b H3 => if b = true then te σ H3 Z else W H3 := by
  unfold tYes
  exact iteT h
/-- a row j, i in a list of its own, owned by its place -/
def RowAt (own : Addr → Nat × Nat) (F : Addr → Prop) (w : Nat) (W : Nat → Nat → Nat → Int) (H : Hp) (j i : Nat) (v : V) : Prop :=
  ∃ b vs, v = .ref b ∧ ¬ F b ∧ own b = (j, i) ∧ H b = some (.lst vs) ∧ vs.length = w ∧ ∀ (k : Nat) (u : V), vs[k]? = some u → u = V.int (W j i k)
theorem RowAt.mono {own own' : Addr → Nat × Nat} {F G : Addr → Prop} {w : Nat} {W : Nat → Nat → Nat → Int} {H H' : Hp} {j i : Nat} {v : V} (h : RowAt own F w W H j i v) (k : Kp F H H') (ho : ∀ b o, H b = some o → own' b = own b) (hf : ∀ b, G b → F b) : RowAt own' G w W H' j i v :=
  let ⟨b, vs, e, n, o, h1, h2, h3⟩ := h
  ⟨b, vs, e, fun z => n (hf b z), (ho b _ h1).trans o, k _ _ n h1, h2, h3⟩
def MxAt (own : Addr → Nat × Nat) (F : Addr → Prop) (w : Nat) (W : Nat → Nat → Nat → Int) (H : Hp) (j : Nat) (v : V) : Prop :=
  ∃ a rs, v = .ref a ∧ ¬ F a ∧ H a = some (.lst rs) ∧ rs.length = w ∧ ∀ (i : Nat) (u : V), rs[i]? = some u → RowAt own F w W H j i u
theorem MxAt.mono {own own' : Addr → Nat × Nat} {F G : Addr → Prop} {w : Nat} {W : Nat → Nat → Nat → Int} {H H' : Hp} {j : Nat} {v : V} (h : MxAt own F w W H j v) (k : Kp F H H') (ho : ∀ b o, H b = some o → own' b = own b) (hf : ∀ b, G b → F b) : MxAt own' G w W H' j v :=
  let ⟨a, rs, e, n, h1, h2, h3⟩ := h
  ⟨a, rs, e, fun z => n (hf a z), k _ _ n h1, h2, fun i u q => (h3 i u q).mono k ho hf⟩
theorem ok_With {f : Addr} {fd : FuncData} (F : Fun K "_law_with" "_law_with" sWith f fd) (T : Txt K mg C) {fI : Addr} {fdI : FuncData} (M : Mk K C fI) (GI : FnOk P w K mg base CX0 3 fI fdI ["self", "prime", "weights", "kinds"] (spInit C)) (bI : Binds K fdI ["self", "prime", "weights", "kinds"] []) : FnOk P w K mg base CX0 5 f fd ["_law_net_here", "_law_chosen", "_law_number"] (spWith C) := by
  refine F.ok scWith (fun vs H Q E h => ?_) (fun cdv A outer s H vs Q E hr h => ?_)
  · obtain ⟨N, ov, T0, l0, i0, k0, t, rfl, _⟩ := h
    rfl
  · obtain ⟨N, ov, T0, l0, i0, k0, t, rfl, hN, hT, hl0, hi0, hk0, q⟩ := h
    refine ⟨_, (pss_cons (ps_asg (pv 1) (gtupK K (pgs_cons (gn 3 scWith.nd) (pgs_cons (gn 4 scWith.nd) (pgs_cons (gn 5 scWith.nd) pgs_nil)))))
      (pss_cons (ps_setLc (i := 6) (own := [("_law_matrix", 8)]) (g := (gName 8)) (tt := tYes) rfl scWith.nd rfl rfl (sw_true rfl rfl rfl (by decide +kernel)) (tupI K (pe_ix (ixT K) (pv 0) pe_int (fun _ _ => rfl))) (blkOk_by (by kernel_rfl)) (fun _ _ _ _ _ => (gn 8 scWith.nd)) (fun _ _ _ _ _ => pts_nil) (fun _ _ _ _ _ => (pe_lc (own := [("_law_row", 7)]) (g := (gName 7)) (tt := tYes) rfl scWith.nd (tupI K (pv 8)) (blkOk_by (by kernel_rfl)) (fun _ _ _ _ _ => (gn 7 scWith.nd)) (fun _ _ _ _ _ => pts_nil) (fun _ _ _ _ _ => (pe_callTy (listK K) (by rfl) T.list boot_list (pa_cons (pv 7) pa_nil))))))
      (pss_cons (ps_asg (pe_op op_mod (pe_callTy (call_int1) (by rfl) T.int boot_int (pa_cons (pe_op op_add (pe_ix (ixL K) (pe_ix (ixL K) (pe_ix (ixL K) (pv 6) (pv 3) (fun _ _ => rfl)) (pv 4) (fun _ _ => rfl)) (pv 5) (fun _ _ => rfl)) (pv 2)) pa_nil)) (pe_ix (ixT K) (pv 0) pe_int (fun _ _ => rfl))) (pg_sub (pe_ix (ixL K) (pe_ix (ixL K) (pv 6) (pv 3) (fun _ _ => rfl)) (pv 4) (fun _ _ => rfl)) (pv 5) set_list))
      (pss_one (ps_ret (pe_make M GI hr (by rfl) T.mgC bI .nil pass0 (pa_cons (pe_ix (ixT K) (pv 0) pe_int (fun _ _ => rfl)) (pa_cons (pv 6) (pa_cons (pe_ix (ixT K) (pv 0) pe_int (fun _ _ => rfl)) pa_nil))))))))), ?_⟩
    -- 0:_law_net_here 1:_law_chosen 2:_law_number 3:_law_layer 4:_law_i 5:_law_k 6:_law_weights 7:_law_row 8:_law_matrix
    obtain ⟨nA, v2, v3, rfl, hA, hW, hK⟩ := id hN
    obtain ⟨wA, wvs, rfl, w1, w2, w3⟩ := hW
    obtain ⟨kA, kvs, rfl, k1, k2, k3⟩ := hK
    have hw := N.hw
    have hp := N.hp
    have hn := N.hn
    refine ⟨_, rfl, T0, [.int l0, .int i0, .int k0], rfl, SqT.of hT, rfl, .int l0, [.int i0, .int k0], rfl, .int i0, [.int k0], rfl, .int k0, [], rfl, rfl, ?_⟩
    refine ⟨_, rfl, nA, _, 1, .ref wA, rfl, rfl, SqT.of hA, rfl, wA, rfl, ⟨_, SqT.of w1⟩, fun D hD => ?_⟩
    refine lc_it (wTup w2) (fun l H' => Same H H' ∧ ∃ (us : List V) (own : Addr → Nat × Nat), H' D = some (.lst us) ∧ us.length = l ∧ ∀ (j : Nat) (u : V), us[j]? = some u → MxAt own (fun b => b = D ∨ H b ≠ none) N.w N.W H' j u)
      ⟨same_new hD, [], fun _ => (0, 0), upd_same, rfl, fun j u e => by simp at e⟩ (fun i H' _ p => SqT.of (p.1 _ _ w1)) (fun l x H1 H2 hl pv hy => ?_) fun H1 pv => ?_
    · obtain ⟨rfl, eu⟩ := hy
      obtain ⟨s1, us, own, e1, e2, e3⟩ := pv
      obtain ⟨mA, mvs, rfl, m1, m2, m3⟩ := w3 l x eu
      refine ⟨rfl, yes_te ?_⟩
      refine ⟨_, rfl, mA, rfl, ⟨_, SqT.of (s1 _ _ m1)⟩, fun L hL => ?_⟩
      have nDL : D ≠ L := ne_of_none e1 hL
      refine lc_it (wTup m2) (fun i H' => Same H2 H' ∧ ∃ (rs : List V) (own' : Addr → Nat × Nat), (∀ b o, H2 b = some o → own' b = own b) ∧ H' L = some (.lst rs) ∧ rs.length = i ∧ ∀ (i : Nat) (u : V), rs[i]? = some u → RowAt own' (fun b => (b = D ∨ H b ≠ none) ∨ b = L) N.w N.W H' l i u)
        ⟨same_new hL, [], own, fun _ _ _ => rfl, upd_same, rfl, fun j u e => by simp at e⟩ (fun i H' _ p => SqT.of (p.1 _ _ (s1 _ _ m1))) (fun i x H3 H4 hi pv hy => ?_) fun H3 pv => ?_
      · obtain ⟨rfl, eu'⟩ := hy
        obtain ⟨s3, rs, own', o1, f1, f2, f3⟩ := pv
        obtain ⟨rA, rvs, rfl, r1, r2, r3⟩ := m3 i x eu'
        refine ⟨rfl, yes_te ?_⟩
        refine ⟨_, rfl, rA, rvs, rfl, .inr (SqT.of (s3 _ _ (s1 _ _ r1))), fun R hR => ?_⟩
        have sR : Same H4 (upd H4 R (.lst rvs)) := same_new hR
        have nLR : L ≠ R := ne_of_none f1 hR
        have nDR : D ≠ R := ne_of_none (s3 _ _ e1) hR
        refine ⟨rs, sR _ _ f1, sizeSmall (by omega), same_over (s3.trans sR) hL, rs ++ [.ref R], fun c => if c = R then (l, i) else own' c, fun b o hb => ?_, upd_same, by rw [List.length_append, f2] <;> rfl, at_app f2 (fun j u e => ?_) ?_⟩
        · show (if b = R then _ else _) = _
          rw [if_neg (fun z => by rw [z] at hb; have := s3 _ _ hb; rw [hR] at this; cases this)]
          exact o1 b o hb
        · refine (f3 j u e).mono ((Kp.same sR).trans (kp_upd (.inr rfl))) (fun b o hb => ?_) fun _ z => z
          show (if b = R then _ else _) = _
          rw [if_neg (fun z => by rw [z, hR] at hb; cases hb)]
        · refine ⟨R, rvs, rfl, fun z => z.elim (fun z => z.elim (fun z => nDR z.symm) fun z => z (none_of (s1.trans s3) hR)) fun z => nLR z.symm, if_pos rfl, by rw [upd_ne nLR.symm]; exact upd_same, r2, r3⟩
      · obtain ⟨s3, rs, own', o1, f1, f2, f3⟩ := pv
        have d3 := s3 _ _ e1
        refine ⟨us, d3, sizeSmall (by omega), same_over (s1.trans s3) hD, us ++ [.ref L], own', upd_same, by rw [List.length_append, e2] <;> rfl, at_app e2 (fun j u e => ?_) ?_⟩
        · exact (e3 j u e).mono ((Kp.same s3).trans (kp_upd (.inl rfl))) o1 fun _ z => z
        · exact ⟨L, rs, rfl, fun z => z.elim (fun z => nDL z.symm) fun z => z (none_of s1 hL), by rw [upd_ne nDL.symm]; exact f1, f2, fun i u e => ((f3 i u e).mono (G := fun b => b = D ∨ H b ≠ none) (Kp.refl _ _) (fun _ _ _ => rfl) fun _ z => .inl z).mono (kp_upd (.inl rfl)) (fun _ _ _ => rfl) fun _ z => z⟩
    · obtain ⟨s1, us, own, e1, e2, e3⟩ := pv
      obtain ⟨u0, eu0⟩ := at_lt e2 hl0
      obtain ⟨a0, rs, rfl, na0, a1, a2, a3⟩ := e3 l0 u0 eu0
      obtain ⟨u1, eu1⟩ := at_lt a2 hi0
      obtain ⟨b0, vs, rfl, nb0, ow, b1, b2, b3⟩ := a3 i0 u1 eu1
      obtain ⟨u2, eu2⟩ := at_lt b2 hk0
      obtain rfl := b3 k0 u2 eu2
      refine ⟨_, rfl, _, rfl, D, us, _, _, rfl, rfl, SqL.of e1, atI_nat eu0, _, rfl, a0, rs, _, _, rfl, rfl, SqL.of a1, atI_nat eu1, _, rfl, b0, vs, _, _, rfl, rfl, SqL.of b1, atI_nat eu2, _, rfl, _, _, rfl, rfl, .inl ⟨_, rfl, _, rfl, nA, _, 0, .int N.p, rfl, rfl, SqT.of (s1 _ _ hA), rfl, _, _, rfl, rfl, (show 0 < N.p by omega), ?_⟩⟩
      refine ⟨_, rfl, _, rfl, D, us, _, _, rfl, rfl, SqL.of e1, atI_nat eu0, _, rfl, a0, rs, _, _, rfl, rfl, SqL.of a1, atI_nat eu1, _, rfl, b0, vs, _, k0, rfl, rfl, b1, ixNat (by omega), ?_⟩
      have nb : ∀ {b o}, H b = some o → b ≠ b0 → upd H1 b0 (.lst (vs.set k0 (.int ((N.W l0 i0 k0 + t) % N.p)))) b = some o := fun hb n => by rw [upd_ne n]; exact s1 _ _ hb
      have tb : ∀ {b ys}, H b = some (.tup ys) → upd H1 b0 (.lst (vs.set k0 (.int ((N.W l0 i0 k0 + t) % N.p)))) b = some (.tup ys) := fun hb => nb hb fun z => by
        have := s1 _ _ hb
        rw [z, b1] at this
        cases this
      have row_of : ∀ {c : Addr} {qs : List V} {j : Nat}, H1 c = some (.lst qs) → qs.length = N.w → (∀ (i : Nat) (u : V), qs[i]? = some u → RowAt own (fun b => b = D ∨ H b ≠ none) N.w N.W H1 j i u) → c ≠ b0 := fun {c qs j} hc hl hq z => by
        rw [z, b1] at hc
        cases hc
        obtain ⟨y, ey⟩ := at_lt hl (show 0 < N.w by omega)
        obtain ⟨_, _, ez, _⟩ := hq 0 y ey
        rw [b3 0 y ey] at ez
        cases ez
      refine ⟨_, rfl, nA, _, 0, .int N.p, rfl, rfl, SqT.of (tb hA), rfl, _, rfl, _, rfl, nA, _, 2, .ref kA, rfl, rfl, SqT.of (tb hA), rfl, fun x dx hx hdx hne => ?_⟩
      generalize hH2 : upd H1 b0 (.lst (vs.set k0 (.int ((N.W l0 i0 k0 + t) % N.p)))) = H2 at nb tb hx hdx ⊢
      have s2 : Same H2 (upd (upd H2 dx (.own x)) x (.ins C dx [])) := (same_new hdx).trans (same_new (by rw [upd_ne hne.symm]; exact hx))
      have q2 : ∀ {b o}, H1 b = some o → b ≠ b0 → H2 b = some o := fun hb n => by rw [← hH2, upd_ne n]; exact hb
      have hD2 : H2 D = some (.lst us) := q2 e1 fun z => nb0 (.inl z.symm)
      refine ⟨withN N l0 i0 k0 t, x, dx, .ref D, .ref kA, rfl, upd_same, ?_, ?_, fun H' kp hnet => ⟨rfl, q H' (.ref x) ?_ hnet⟩⟩
      · refine ⟨D, us, rfl, .inl (s2 _ _ hD2), e2, fun j u e => ?_⟩
        obtain ⟨a, qs, rfl, na, c1, c2, c3⟩ := e3 j u e
        have ha := s2 _ _ (q2 c1 (row_of c1 c2 c3))
        refine ⟨a, qs, rfl, .inl ha, c2, fun i u e' => ?_⟩
        obtain ⟨b, ws, rfl, nb', ow', d1, d2, d3⟩ := c3 i u e'
        by_cases hji : j = l0 ∧ i = i0
        · obtain ⟨rfl, rfl⟩ := hji
          rw [eu0] at e
          cases e
          rw [a1] at c1
          cases c1
          rw [eu1] at e'
          cases e'
          rw [b1] at d1
          cases d1
          refine ⟨b0, vs.set k0 (.int ((N.W j i k0 + t) % N.p)), rfl, .inl (s2 _ _ (by rw [← hH2]; exact upd_same)), by rw [List.length_set]; exact b2, fun k u e => ?_⟩
          show u = V.int (if j = j ∧ i = i ∧ k = k0 then (N.W j i k + t) % N.p else N.W j i k)
          by_cases hk : k = k0
          · subst hk
            rw [List.getElem?_set_self (by omega)] at e
            cases e
            rw [if_pos ⟨rfl, rfl, rfl⟩]
          · rw [List.getElem?_set_ne (fun z => hk z.symm)] at e
            rw [if_neg (fun z => hk z.2.2)]
            exact b3 k u e
        · have nbb : b ≠ b0 := fun z => by
            rw [z, ow] at ow'
            cases ow'
            exact hji ⟨rfl, rfl⟩
          refine ⟨b, ws, rfl, .inl (s2 _ _ (q2 d1 nbb)), d2, fun k u e => ?_⟩
          show u = V.int (if j = l0 ∧ i = i0 ∧ k = k0 then (N.W j i k + t) % N.p else N.W j i k)
          rw [if_neg (fun z => hji ⟨z.1, z.2.1⟩)]
          exact d3 k u e
      · exact ⟨kA, kvs, rfl, s2 _ _ (tb k1), k2, k3⟩
      · intro b o hb
        have n : b ≠ b0 := fun z => nb0 (.inr fun y => by rw [z, y] at hb; cases hb)
        have hb2 := nb hb n
        exact kp _ _ (fun z => by rw [z, hx] at hb2; cases hb2) (s2 _ _ hb2)

theorem scLaw : FnScope ["_law_script", "_law_hand", "_law_own", "_law_width", "_law_net_here", "_law_many", "_law_batch", "_law_k", "_law_chosen", "_law_due", "_law_found", "_law_number", "_law_value_here", "_law_slope", "_law_portion_here"] ["_law_script"] (defScope sLaw) := ⟨rfl, rfl, rfl, by decide +kernel, rfl, by decide +kernel, by decide +kernel⟩
theorem body_Law (T : Txt K mg C) (cDr : Cal P w K mg base "_law_draws" 1 ["_law_script", "_law_many"] (spDraws K)) (cTk : Cal P w K mg base "_law_take" 1 ["_law_hand", "_law_many"] spTake) (cLn : Cal P w K mg base "_law_net" 3 ["_law_hand", "_law_most"] spLNet) (cPo : Cal P w K mg base "_law_portion" 3 ["_law_hand", "_law_prime_here", "_law_width", "_law_most"] spLPort) (cPy : Cal P w K mg base "_law_polynomial" 3 ["_law_net_here", "_law_batch", "_law_chosen"] spLPoly) (cVa : Cal P w K mg base "_law_value" 1 ["_law_polynomial_here", "_law_number", "_law_prime_here"] spLVal) (cWi : Cal P w K mg base "_law_with" 5 ["_law_net_here", "_law_chosen", "_law_number"] (spWith C)) (cPs : Cal P w K mg base "portion_slopes" 4 ["net", "portion"] (spPortSl C)) (cLp : CalK P w K mg base "loss_polynomial" 4 ["net", "batch", "layer", "i", "k"] (spLPol C)) (cLo : CalK P w K mg base "loss" 5 ["net", "batch"] (spLoss C)) (cAt : CalK P w K mg base "at" 1 ["net", "polynomial", "number"] (spAt C)) {fI : Addr} {fdI : FuncData} (M : Mk K C fI) (GI : FnOk P w K mg base CX0 3 fI fdI ["self", "prime", "weights", "kinds"] (spInit C)) (bI : Binds K fdI ["self", "prime", "weights", "kinds"] []) {f s0 : Addr} {cdv : Value} {s : Shared} {H : Hp} {ns : List Int} (hs : SqL K H s0 (ns.map V.int)) (hl : ns.length ≤ 63) (plain : ∀ (N : Nw) (B : Bt N) (l0 i0 k0 : Nat), l0 < N.n → i0 < N.w → k0 < N.w → Plain N B l0 i0 k0) (hr : Room 8 (callerA.deeper (envOfC "law" (defScope sLaw) s.heap.objs.size f cdv))) : ∃ t, PSs (cxOf CX0 P w K mg base ["_law_script", "_law_hand", "_law_own", "_law_width", "_law_net_here", "_law_many", "_law_batch", "_law_k", "_law_chosen", "_law_due", "_law_found", "_law_number", "_law_value_here", "_law_slope", "_law_portion_here"] "law" (defScope sLaw) f cdv callerA [] s H E0).nox (defBody sLaw) t ∧ t { nx := fun _ _ => False, rt := fun v _ => v = .bl true } (L2.start ["_law_script", "_law_hand", "_law_own", "_law_width", "_law_net_here", "_law_many", "_law_batch", "_law_k", "_law_chosen", "_law_due", "_law_found", "_law_number", "_law_value_here", "_law_slope", "_law_portion_here"] [.ref s0]) H := by
  obtain ⟨fDr, fdDr, GDr, gDr, kDr, bDr⟩ := cDr.ex
  obtain ⟨fTk, fdTk, GTk, gTk, kTk, bTk⟩ := cTk.ex
  obtain ⟨fLn, fdLn, GLn, gLn, kLn, bLn⟩ := cLn.ex
  obtain ⟨fPo, fdPo, GPo, gPo, kPo, bPo⟩ := cPo.ex
  obtain ⟨fPy, fdPy, GPy, gPy, kPy, bPy⟩ := cPy.ex
  obtain ⟨fVa, fdVa, GVa, gVa, kVa, bVa⟩ := cVa.ex
  obtain ⟨fWi, fdWi, GWi, gWi, kWi, bWi⟩ := cWi.ex
  obtain ⟨fPs, fdPs, GPs, gPs, kPs, bPs⟩ := cPs.ex
  obtain ⟨fLp, fdLp, GLp, gLp, kLp, bLp, kbLp⟩ := cLp.ex
  obtain ⟨fLo, fdLo, GLo, gLo, kLo, bLo, kbLo⟩ := cLo.ex
  obtain ⟨fAt, fdAt, GAt, gAt, kAt, bAt, kbAt⟩ := cAt.ex
  have hrI : Room 4 _ := hr.mono (by decide)
  have hrDr : Room 1 _ := hr.mono (by decide)
  have hrTk : Room 1 _ := hr.mono (by decide)
  have hrLn : Room 3 _ := hr.mono (by decide)
  have hrPo : Room 3 _ := hr.mono (by decide)
  have hrPy : Room 3 _ := hr.mono (by decide)
  have hrVa : Room 1 _ := hr.mono (by decide)
  have hrWi : Room 5 _ := hr.mono (by decide)
  have hrPs : Room 4 _ := hr.mono (by decide)
  have hrLp : Room 4 _ := hr.mono (by decide)
  have hrLo : Room 5 _ := hr.mono (by decide)
  have hrAt : Room 1 _ := hr.mono (by decide)
  refine ⟨_, (pss_cons (st 1 scLaw.nd (pe_lst (pa_cons (pe_call GDr hrDr (by rfl) gDr kDr bDr .nil pass0 (pa_cons (pv 0) (pa_cons pe_int pa_nil))) (pa_cons pe_int pa_nil))))
      (pss_cons (st 2 scLaw.nd (pe_call GLn hrLn (by rfl) gLn kLn bLn .nil pass0 (pa_cons (pv 1) (pa_cons pe_int pa_nil))))
      (pss_cons (st 3 scLaw.nd (pe_callB (lenK K) (by rfl) T.len PySem.boot_len (pa_cons (pe_ix (ixT K) (pe_ix (ixT K) (pv 2) pe_int (fun _ _ => rfl)) pe_int (fun _ _ => rfl)) pa_nil)))
      (pss_cons (st 4 scLaw.nd (pe_make M GI hrI (by rfl) T.mgC bI .nil pass0 (pa_cons (pe_ix (ixT K) (pv 2) pe_int (fun _ _ => rfl)) (pa_cons (pe_ix (ixT K) (pv 2) pe_int (fun _ _ => rfl)) (pa_cons (pe_ix (ixT K) (pv 2) pe_int (fun _ _ => rfl)) pa_nil)))))
      (pss_cons (st 5 scLaw.nd (pe_ix (ixL K) (pe_lst (pa_cons pe_int (pa_cons pe_int (pa_cons pe_int pa_nil)))) (pe_op op_sub (pe_callB (lenK K) (by rfl) T.len PySem.boot_len (pa_cons (pe_ix (ixT K) (pv 2) pe_int (fun _ _ => rfl)) pa_nil)) pe_int) (fun _ _ => rfl)))
      (pss_cons (st 6 scLaw.nd (pe_slice (slL K) (pe_lc (own := [("_law_k", 7)]) (g := (gName 7)) (tt := tYes) rfl scLaw.nd (pi_range1 (by rfl) T.range (pa_cons (pe_op op_add pe_int (pe_call GTk hrTk (by rfl) gTk kTk bTk .nil pass0 (pa_cons (pv 1) (pa_cons (pv 5) pa_nil)))) pa_nil)) (blkOk_by (by kernel_rfl)) (fun _ _ _ _ _ => (gn 7 scLaw.nd)) (fun _ _ _ _ _ => pts_nil) (fun _ _ _ _ _ => (pe_call GPo hrPo (by rfl) gPo kPo bPo .nil pass0 (pa_cons (pv 1) (pa_cons (pe_ix (ixT K) (pv 2) pe_int (fun _ _ => rfl)) (pa_cons (pv 3) (pa_cons pe_int pa_nil))))))) po_none (po_some pe_int)))
      (pss_cons (st 8 scLaw.nd (pe_tup (pa_cons (pe_call GTk hrTk (by rfl) gTk kTk bTk .nil pass0 (pa_cons (pv 1) (pa_cons (pe_callB (lenK K) (by rfl) T.len PySem.boot_len (pa_cons (pe_ix (ixT K) (pv 2) pe_int (fun _ _ => rfl)) pa_nil)) pa_nil))) (pa_cons (pe_call GTk hrTk (by rfl) gTk kTk bTk .nil pass0 (pa_cons (pv 1) (pa_cons (pv 3) pa_nil))) (pa_cons (pe_call GTk hrTk (by rfl) gTk kTk bTk .nil pass0 (pa_cons (pv 1) (pa_cons (pv 3) pa_nil))) pa_nil)))))
      (pss_cons (st 9 scLaw.nd (pe_call GPy hrPy (by rfl) gPy kPy bPy .nil pass0 (pa_cons (pv 2) (pa_cons (pv 6) (pa_cons (pv 8) pa_nil)))))
      (pss_cons (st 10 scLaw.nd (pe_callKw GLp hrLp (by rfl) gLp kLp kbLp (pk_cons (pv 4) (pk_cons (pv 6) (pk_cons (pe_ix (ixT K) (pv 8) pe_int (fun _ _ => rfl)) (pk_cons (pe_ix (ixT K) (pv 8) pe_int (fun _ _ => rfl)) (pk_cons (pe_ix (ixT K) (pv 8) pe_int (fun _ _ => rfl)) pk_nil)))))))
      (pss_cons (ps_if (PW.pt (pw_or (pt_cmpR op_ne (pe_callB (call_reprT rfl hr.units) (by rfl) T.repr (by decide +kernel) (pa_cons (pv 10) pa_nil)) (pe_callB (call_reprT rfl hr.units) (by rfl) T.repr (by decide +kernel) (pa_cons (pe_callTy (tupK K) (by rfl) T.tuple boot_tuple (pa_cons (pv 9) pa_nil)) pa_nil)) (nomark _)) (pw_or1 (pt_cmpR op_ne (pe_callB (SkE.call_repr_int) (by rfl) T.repr (by decide +kernel) (pa_cons (pe_callKw GLo hrLo (by rfl) gLo kLo kbLo (pk_cons (pv 4) (pk_cons (pv 6) pk_nil))) pa_nil)) (pe_callB (SkE.call_repr_int) (by rfl) T.repr (by decide +kernel) (pa_cons (pe_call GVa hrVa (by rfl) gVa kVa bVa .nil pass0 (pa_cons (pv 9) (pa_cons pe_int (pa_cons (pe_ix (ixT K) (pv 2) pe_int (fun _ _ => rfl)) pa_nil)))) pa_nil)) (nomark _))))) (
        pss_one (ps_ret pe_bl)) pss_nil)
      (pss_cons (ps_for PassesOwn.never rfl (lstI K (pe_lst (pa_cons pe_int (pa_cons pe_int (pa_cons (pe_op op_sub (pe_ix (ixT K) (pv 2) pe_int (fun _ _ => rfl)) pe_int) (pa_cons (pe_call GTk hrTk (by rfl) gTk kTk bTk .nil pass0 (pa_cons (pv 1) (pa_cons (pe_ix (ixT K) (pv 2) pe_int (fun _ _ => rfl)) pa_nil))) (pa_cons (pe_call GTk hrTk (by rfl) gTk kTk bTk .nil pass0 (pa_cons (pv 1) (pa_cons (pe_ix (ixT K) (pv 2) pe_int (fun _ _ => rfl)) pa_nil))) pa_nil))))))) (gn 11 scLaw.nd) (pss_cons (st 12 scLaw.nd (pe_call GVa hrVa (by rfl) gVa kVa bVa .nil pass0 (pa_cons (pv 9) (pa_cons (pv 11) (pa_cons (pe_ix (ixT K) (pv 2) pe_int (fun _ _ => rfl)) pa_nil)))))
        (pss_cons (ps_if (pt_cmpR op_ne (pe_callB (SkE.call_repr_int) (by rfl) T.repr (by decide +kernel) (pa_cons (pe_callKw GAt hrAt (by rfl) gAt kAt kbAt (pk_cons (pv 4) (pk_cons (pv 10) (pk_cons (pv 11) pk_nil)))) pa_nil)) (pe_callB (SkE.call_repr_int) (by rfl) T.repr (by decide +kernel) (pa_cons (pv 12) pa_nil)) (nomark _)) (
          pss_one (ps_ret pe_bl)) pss_nil)
        (pss_one (ps_if (pt_cmpR op_ne (pe_callB (SkE.call_repr_int) (by rfl) T.repr (by decide +kernel) (pa_cons (pe_call GLo hrLo (by rfl) gLo kLo bLo .nil pass0 (pa_cons (pe_call GWi hrWi (by rfl) gWi kWi bWi .nil pass0 (pa_cons (pv 2) (pa_cons (pv 8) (pa_cons (pv 11) pa_nil)))) (pa_cons (pv 6) pa_nil))) pa_nil)) (pe_callB (SkE.call_repr_int) (by rfl) T.repr (by decide +kernel) (pa_cons (pv 12) pa_nil)) (nomark _)) (
          pss_one (ps_ret pe_bl)) pss_nil)))))
      (pss_cons (st 13 scLaw.nd pe_int)
      (pss_cons (ps_for PassesOwn.never rfl (lstI K (pv 6)) (gn 14 scLaw.nd) (
        pss_one (st 13 scLaw.nd (pe_op op_add (pv 13) (pe_ix (ixT K) (pe_ix (ixT K) (pe_ix (ixT K) (pe_call GPs hrPs (by rfl) gPs kPs bPs .nil pass0 (pa_cons (pv 4) (pa_cons (pv 14) pa_nil))) (pe_ix (ixT K) (pv 8) pe_int (fun _ _ => rfl)) (fun _ _ => rfl)) (pe_ix (ixT K) (pv 8) pe_int (fun _ _ => rfl)) (fun _ _ => rfl)) (pe_ix (ixT K) (pv 8) pe_int (fun _ _ => rfl)) (fun _ _ => rfl))))))
      (pss_one (ps_ret (pe_cmpR op_eq (pe_op op_mod (pe_callTy (call_int1) (by rfl) T.int boot_int (pa_cons (pv 13) pa_nil)) (pe_ix (ixT K) (pv 2) pe_int (fun _ _ => rfl))) (pe_ix (ixL K) (pe_op op_cat (pv 9) (pe_lst (pa_cons pe_int (pa_cons pe_int pa_nil)))) pe_int (fun _ _ => rfl)) (nomark _))))))))))))))))), ?_⟩
  -- 0:_law_script 1:_law_hand 2:_law_own 3:_law_width 4:_law_net_here 5:_law_many 6:_law_batch 7:_law_k 8:_law_chosen 9:_law_due 10:_law_found 11:_law_number 12:_law_value_here 13:_law_slope 14:_law_portion_here
  refine ⟨_, rfl, s0, ns, rfl, hs, hl, fun H1 a ds s1 e1 => ⟨(show 2 ≤ sizeLine by decide), fun h hh => ?_⟩⟩
  have hand2 : HandAt (upd H1 h (.lst [.ref a, .int 0])) h a := ⟨0, ds, upd_same, Int.le_refl _, by rw [upd_ne (ne_of_none e1 hh)]; exact e1⟩
  generalize upd H1 h (.lst [.ref a, .int 0]) = H2 at hand2
  -- own, width
  refine ⟨_, rfl, h, a, rfl, hand2, fun N H3 ov hand3 k3 hov => ?_⟩
  have hn := N.hn
  have hw := N.hw
  have hp := N.hp
  obtain ⟨nA, v2, v3, rfl, hA, hW, hK⟩ := id hov
  obtain ⟨wA, wvs, rfl, w1, w2, w3⟩ := id hW
  obtain ⟨u0, eu0⟩ := at_lt w2 (show 0 < N.n by omega)
  obtain ⟨mA, mvs, rfl, m1, m2, m3⟩ := w3 0 u0 eu0
  refine ⟨_, rfl, nA, _, 1, .ref wA, rfl, rfl, SqT.of hA, rfl, wA, wvs, 0, .ref mA, rfl, rfl, SqT.of w1, atI_nat eu0, mA, mvs, rfl, .inr (SqT.of m1), ?_⟩
  rw [m2]
  -- the net
  refine ⟨_, rfl, nA, _, 0, .int N.p, rfl, rfl, SqT.of hA, rfl, _, rfl, nA, _, 1, .ref wA, rfl, rfl, SqT.of hA, rfl, _, rfl, nA, _, 2, v3, rfl, rfl, SqT.of hA, rfl, fun x dx hx hdx hne => ?_⟩
  have s34 : Same H3 (upd (upd H3 dx (.own x)) x (.ins C dx [])) := (same_new hdx).trans (same_new (by rw [upd_ne hne.symm]; exact hx))
  refine ⟨N, x, dx, .ref wA, v3, rfl, upd_same, seq_tup (TupF.mono hW (same_ts s34) fun _ _ q => q) (fun l u q => seq_tup (TupF.mono q (same_ts s34) fun _ _ q => q) fun i u q => seq_tup (TupF.mono q (same_ts s34) fun _ _ q => q) fun _ _ q => q), hK.mono (same_ts s34) fun _ _ q => q, fun H5 kp hnet => ⟨rfl, ?_⟩⟩
  have s35 : Same H3 H5 := fun b o hb => kp _ _ (fun z => by rw [z, hx] at hb; cases hb) (s34 _ _ hb)
  have hand5 := hand3.same s35
  -- how many portions at most
  refine ⟨(show 3 ≤ sizeLine by decide), fun L hL => ?_⟩
  have s5L : Same H5 (upd H5 L (.lst [.int 3, .int 2, .int 1])) := same_new hL
  have s36 := s35.trans s5L
  obtain ⟨z, z0, z3, ez⟩ : ∃ z : Int, 0 < z ∧ z ≤ 3 ∧ atI [V.int 3, V.int 2, V.int 1] (((wvs.length : Nat) : Int) - 1) = some (.int z) := by
    rw [w2]
    rcases (show N.n = 1 ∨ N.n = 2 ∨ N.n = 3 by omega) with e | e | e
    · rw [e]; exact ⟨3, by decide, by decide, rfl⟩
    · rw [e]; exact ⟨2, by decide, by decide, rfl⟩
    · rw [e]; exact ⟨1, by decide, by decide, rfl⟩
  refine ⟨_, rfl, nA, _, 1, .ref wA, rfl, rfl, SqT.of (s36 _ _ hA), rfl, wA, wvs, rfl, .inr (SqT.of (s36 _ _ w1)), _, _, rfl, rfl, L, _, _, .int z, rfl, rfl, SqL.of upd_same, ez, ?_⟩
  generalize upd H5 L (.lst [.int 3, .int 2, .int 1]) = H6 at s5L s36
  have hand6 := hand5.same s5L
  -- the batch
  refine ⟨_, rfl, _, rfl, h, a, z, rfl, z0, hand6, fun r H7 r0 r1 hand7 k7 => ?_⟩
  refine ⟨_, _, rfl, rfl, _, rfl, by omega, by omega, fun D hD => ?_⟩
  have hD2 := hand7.new hD
  have ts37 := (same_ts s36).trans (kh_ts hand6 k7)
  let R : Nat × (Nat → Nat → Int) × (Nat → Nat → Int) → Prop := fun z => (1 ≤ z.1 ∧ z.1 ≤ 2) ∧ (∀ e i, 0 ≤ z.2.1 e i ∧ z.2.1 e i < N.p) ∧ ∀ e i, 0 ≤ z.2.2 e i ∧ z.2.2 e i < N.p
  refine lc_map (walk_range (lo := 0) (n := (1 + r).toNat)) (fun b => b = h) (fun H _ v => ∃ z, R z ∧ Port N.w z.1 z.2.1 z.2.2 H v) (fun H => HandAt H h a) hD (sizeSmall (by omega)) hD2.1 (hand7.over hD2.1 hD2.2) (fun H acc acc' _ z => z.over hD2.1 hD2.2) (fun _ _ _ => trivial) (fun H H' j v hl iv kk p => ?_) (fun i x H8 H9 acc Z hi k8 hand8 f1 hy hz => ?_) fun H8 us k8 hand8 h1 h2 h3 => ?_
  · obtain ⟨z, z1, z2⟩ := p
    refine ⟨z, z1, port_mono z2 (kk.ts fun b hb => ?_)⟩
    rcases hb with rfl | rfl
    · exact iv.is
    · exact hl
  · obtain ⟨rfl, rfl⟩ := hy
    have ts79 := k8.ts fun b (hb : b = h) => by rw [hb]; exact hand7.is
    exact ⟨rfl, _, rfl, _, rfl, nA, _, 0, .int N.p, rfl, rfl, SqT.of (ts79 _ _ (ts37 _ _ hA)), rfl, _, rfl, h, a, N.p, N.w, rfl, hp.1, hw.2, hand8, fun m x t H' v hm hx ht hand' k' hp => hz _ _ k' hand' ⟨(m, x, t), ⟨hm, hx, ht⟩, hp⟩⟩
  refine ⟨2, rfl, D, us, rfl, SqL.of h1, fun bA hbA => ?_⟩
  rw [cut_two]
  have hb2 := hand8.new hbA
  have hand9 := hand8.over (o := .lst (us.take 2)) hb2.1 hb2.2
  have k79 : KH h H7 (upd H8 bA (.lst (us.take 2))) := k8.trans (kp_new hbA)
  obtain ⟨zs, zs1, zs2⟩ := pick R (1, fun _ _ => 0, fun _ _ => 0) ⟨⟨by decide, by decide⟩, fun _ _ => ⟨Int.le_refl _, show (0 : Int) < N.p by omega⟩, fun _ _ => ⟨Int.le_refl _, show (0 : Int) < N.p by omega⟩⟩ h3
  let B : Bt N := { b := (us.take 2).length, m := fun q => (zs q).1, x := fun q => (zs q).2.1, t := fun q => (zs q).2.2, hb := by rw [List.length_take]; omega, hm := fun q => (zs1 q).1, hx := fun q => (zs1 q).2.1, ht := fun q => (zs1 q).2.2 }
  have hB9 : LstX (fun b => b = h) B.b (fun q u => Port N.w (B.m q) (B.x q) (B.t q) (upd H8 bA (.lst (us.take 2))) u) (upd H8 bA (.lst (us.take 2))) (.ref bA) :=
    ⟨bA, _, rfl, hb2.1, upd_same, rfl, fun q u e => port_mono (zs2 q u (take_at e)) (ts_new hbA)⟩
  clear_value B
  generalize upd H8 bA (.lst (us.take 2)) = H9 at hand9 k79 hB9
  have ts39 := ts37.trans (k79.ts fun b (hb : b = h) => by rw [hb]; exact hand7.is)
  -- the place
  refine ⟨_, rfl, _, rfl, nA, _, 1, .ref wA, rfl, rfl, SqT.of (ts39 _ _ hA), rfl, wA, wvs, rfl, .inr (SqT.of (ts39 _ _ w1)), h, a, _, rfl, by omega, hand9, fun l0 H10 l00 l01 hand10 k10 => ?_⟩
  refine ⟨_, rfl, _, rfl, h, a, _, rfl, by omega, hand10, fun i0 H11 i00 i01 hand11 k11 => ?_⟩
  refine ⟨_, rfl, _, rfl, h, a, _, rfl, by omega, hand11, fun k0 H12 k00 k01 hand12 k12 => ?_⟩
  refine ⟨(show 3 ≤ sizeLine by decide), fun T0 hT0 => ?_⟩
  have hand13 := hand12.same (same_new (o := .tup [.int l0, .int i0, .int k0]) hT0)
  have k9 : KH h H9 (upd H12 T0 (.tup [.int l0, .int i0, .int k0])) := ((k10.trans k11).trans k12).trans (kp_new hT0)
  have hT13 : upd H12 T0 (.tup [.int l0, .int i0, .int k0]) T0 = some (.tup [.int l0, .int i0, .int k0]) := upd_same
  generalize upd H12 T0 (.tup [.int l0, .int i0, .int k0]) = H13 at hand13 k9 hT13
  obtain ⟨l0, rfl⟩ := Int.eq_ofNat_of_zero_le l00
  obtain ⟨i0, rfl⟩ := Int.eq_ofNat_of_zero_le i00
  obtain ⟨k0, rfl⟩ := Int.eq_ofNat_of_zero_le k00
  have ts9 : TS H9 H13 := k9.ts fun b (hb : b = h) => by rw [hb]; exact hand9.is
  have hov13 : LNet N H13 (.ref nA) := lnet_mono hov (ts39.trans ts9)
  have hnet13 : NetAt C N H13 (.ref x) := hand9.net (hand7.net (hand6.net (hnet.same s5L) k7) k79) k9
  have hB13 : LstX (fun b => b = h) B.b (fun q u => Port N.w (B.m q) (B.x q) (B.t q) H13 u) H13 (.ref bA) := hB9.mono k9 (fun _ _ q => port_mono q ts9) fun _ z => z
  obtain ⟨psame, plen, plo, pat0, patt, pslope⟩ := plain N B l0 i0 k0 (by omega) (by omega) (by omega)
  have loose : ∀ {H : Hp} {v : V}, LstX (fun b => b = h) B.b (fun q u => Port N.w (B.m q) (B.x q) (B.t q) H u) H v → BatchAt B H v := fun q => q.mono (G := none_) (Kp.refl _ _) (fun _ _ q => q) fun _ z => z.elim
  -- what is due and what is found
  refine ⟨_, rfl, _, rfl, _, rfl, N, B, _, _, T0, l0, i0, k0, rfl, hov13, loose hB13, hT13, fun H14 dv s14 hd14 => ?_⟩
  refine ⟨_, rfl, _, rfl, _, rfl, T0, _, 0, .int l0, rfl, rfl, SqT.of (s14 _ _ hT13), rfl, _, rfl, T0, _, 1, .int i0, rfl, rfl, SqT.of (s14 _ _ hT13), rfl, _, rfl, T0, _, 2, .int k0, rfl, rfl, SqT.of (s14 _ _ hT13), rfl, N, B, _, _, l0, i0, k0, rfl, hnet13.same s14, batch_same (loose hB13) s14, fun H15 fv s15 hf15 => ?_⟩
  rw [psame] at hf15
  obtain ⟨dA, rfl, hd14⟩ := hd14
  obtain ⟨fA, rfl, hf15⟩ := hf15
  generalize hLL : llM N B l0 i0 k0 = F at hd14 hf15 plen plo pat0 patt pslope
  have fit := repr_fit plen plo
  have hb0 := horn_bd (show 0 < N.p by omega) 0 F
  have hd15 := s15 _ _ hd14
  refine ⟨_, rfl, fA, F, rfl, SqT.of hf15, fit.1, fit.2.1, fit.2.2.1, fit.2.2.2, _, rfl, dA, _, rfl, .inl ⟨SqL.of hd15, fun T1 hT1 => ⟨T1, F, rfl, SqT.of upd_same, fit.1, fit.2.1, fit.2.2.1, fit.2.2.2, rfl, _, rfl, ?_⟩⟩⟩
  have s16 : Same H15 (upd H15 T1 (.tup (F.map V.int))) := same_new hT1
  rw [ne_same]
  refine iteF ?_
  generalize upd H15 T1 (.tup (F.map V.int)) = H16 at s16
  have s13_16 := s14.trans (s15.trans s16)
  refine ⟨_, rfl, _, rfl, N, N, B, _, _, rfl, hnet13.same s13_16, rfl, rfl, batch_same (loose hB13) s13_16, fun H17 s17 => ?_⟩
  have s13_17 := s13_16.trans s17
  have hA17 := s13_17 _ _ (ts9 _ _ (ts39 _ _ hA))
  refine ⟨_, rfl, small_log (loss_bd N B) hp.2, _, rfl, _, rfl, nA, _, 0, .int N.p, rfl, rfl, SqT.of hA17, rfl, N.p, dA, F, 0, rfl, hp.1, hp.2, s17 _ _ (s16 _ _ hd15), by omega, _, rfl, small_log hb0 hp.2, rfl, _, rfl, ?_⟩
  rw [pat0, ne_same]
  refine iteF ?_
  -- the five numbers
  have hand17 := hand13.same s13_17
  refine ⟨_, rfl, nA, _, 0, .int N.p, rfl, rfl, SqT.of hA17, rfl, _, _, rfl, rfl, _, rfl, _, rfl, nA, _, 0, .int N.p, rfl, rfl, SqT.of hA17, rfl, h, a, N.p, rfl, by omega, hand17, fun r1 H18 r10 r11 hand18 k18 => ?_⟩
  have hA18 := kh_ts hand17 k18 _ _ hA17
  refine ⟨_, rfl, _, rfl, nA, _, 0, .int N.p, rfl, rfl, SqT.of hA18, rfl, h, a, N.p, rfl, by omega, hand18, fun r2 H19 r20 r21 hand19 k19 => ?_⟩
  refine ⟨(show 5 ≤ sizeLine by decide), fun D5 hD5 => ?_⟩
  have s20 : Same H19 (upd H19 D5 (.lst [.int 0, .int 1, .int (N.p - 1), .int r1, .int r2])) := same_new hD5
  have k20 : KH h H17 (upd H19 D5 (.lst [.int 0, .int 1, .int (N.p - 1), .int r1, .int r2])) := (k18.trans k19).trans (Kp.same s20)
  have f20 : upd H19 D5 (.lst [.int 0, .int 1, .int (N.p - 1), .int r1, .int r2]) D5 = some (.lst [.int 0, .int 1, .int (N.p - 1), .int r1, .int r2]) := upd_same
  have fives : ∀ v : V, v ∈ [V.int 0, .int 1, .int (N.p - 1), .int r1, .int r2] → ∃ t : Int, v = .int t ∧ 0 ≤ t ∧ t < N.p := fun v hv => by
    simp only [List.mem_cons, List.not_mem_nil, or_false] at hv
    rcases hv with rfl | rfl | rfl | rfl | rfl
    · exact ⟨0, rfl, by omega, by omega⟩
    · exact ⟨1, rfl, by omega, by omega⟩
    · exact ⟨_, rfl, by omega, by omega⟩
    · exact ⟨_, rfl, r10, r11⟩
    · exact ⟨_, rfl, r20, r21⟩
  refine ⟨D5, rfl, ⟨_, SqL.of f20⟩, ?_⟩
  generalize upd H19 D5 (.lst [.int 0, .int 1, .int (N.p - 1), .int r1, .int r2]) = H20 at k20 f20
  have ts20 := kh_ts hand17 k20
  have hov20 : LNet N H20 (.ref nA) := lnet_mono hov13 ((same_ts s13_17).trans ts20)
  have hnet20 : NetAt C N H20 (.ref x) := hand17.net (hnet13.same s13_17) k20
  have hB20 : BatchAt B H20 (.ref bA) := loose (hB13.mono ((Kp.same s13_17).trans k20) (fun _ _ q => port_mono q ((same_ts s13_17).trans ts20)) fun _ z => z)
  have hT20 : H20 T0 = some (.tup [.int l0, .int i0, .int k0]) := ts20 _ _ (s13_17 _ _ hT13)
  have hd17 := s17 _ _ (s16 _ _ hd15)
  have hd20 : H20 dA = some (.lst (F.map V.int)) := k20 _ _ (hand17.ints hd17) hd17
  have hf20 : H20 fA = some (.tup (F.map V.int)) := ts20 _ _ (s17 _ _ (s16 _ _ hf15))
  have hA20 := ts20 _ _ hA17
  refine for_it (wLst (xs := [.int 0, .int 1, .int (N.p - 1), .int r1, .int r2]) (n := 5) rfl) (fun i σ H' => ∃ y11 y12 : Option V, σ = [some (.ref s0), some (.ref h), some (.ref nA), some (.int (N.w : Nat)), some (.ref x), some (.int z), some (.ref bA), none, some (.ref T0), some (.ref dA), some (.ref fA), y11, y12, none, none] ∧ Same H20 H')
    ⟨none, none, rfl, Same.refl _⟩ (fun i σ H' _ p => ?_) ?_ ?_
  · obtain ⟨_, _, _, s⟩ := p
    exact SqL.of (s _ _ f20)
  · rintro i v σ H21 H22 hi ⟨y11, y12, rfl, s21⟩ ⟨rfl, ev⟩
    obtain ⟨t, rfl, t0, t1⟩ := fives v (List.mem_of_getElem? ev)
    have hbt := horn_bd (show 0 < N.p by omega) t F
    refine ⟨_, rfl, _, rfl, _, rfl, nA, _, 0, .int N.p, rfl, rfl, SqT.of (s21 _ _ hA20), rfl, N.p, dA, F, t, rfl, hp.1, hp.2, s21 _ _ hd20, by omega, ?_⟩
    refine ⟨_, rfl, _, rfl, _, rfl, N, _, _, F, t, rfl, hnet20.same s21, ⟨fA, rfl, s21 _ _ hf20⟩, fun H23 s23 => ?_⟩
    refine ⟨_, rfl, small_log hbt hp.2, _, rfl, _, rfl, small_log hbt hp.2, rfl, _, rfl, ?_⟩
    rw [ne_same]
    refine iteF ?_
    have s20_23 := s21.trans s23
    refine ⟨_, rfl, _, rfl, _, rfl, N, _, T0, l0, i0, k0, t, rfl, lnet_mono hov20 (same_ts s20_23), s20_23 _ _ hT20, by omega, by omega, by omega, fun H24 wv s24 hwv => ?_⟩
    have s20_24 := s20_23.trans s24
    refine ⟨_, rfl, withN N l0 i0 k0 t, N, B, _, _, rfl, hwv, rfl, rfl, batch_same hB20 s20_24, fun H25 s25 => ?_⟩
    refine ⟨_, rfl, small_log (loss_bd (withN N l0 i0 k0 t) B) hp.2, _, rfl, _, rfl, small_log hbt hp.2, rfl, _, rfl, ?_⟩
    rw [patt t t0 t1, ne_same]
    exact iteF ⟨_, _, rfl, s20_24.trans s25⟩
  · rintro σ H21 ⟨y11, y12, rfl, s21⟩
    refine ⟨_, rfl, bA, ?_⟩
    obtain ⟨bA', bvs, eb, _, b1, b2, b3⟩ := id hB20
    cases eb
    refine ⟨rfl, ⟨_, SqL.of (s21 _ _ b1)⟩, ?_⟩
    refine for_it (wLst b2) (fun q σ H' => ∃ y14 : Option V, σ = [some (.ref s0), some (.ref h), some (.ref nA), some (.int (N.w : Nat)), some (.ref x), some (.int z), some (.ref bA), none, some (.ref T0), some (.ref dA), some (.ref fA), y11, y12, some (.int (sumF q fun q => psM N (B.x q) (B.t q) (B.m q) l0 i0 k0)), y14] ∧ Same H20 H')
      ⟨none, rfl, s21⟩ (fun i σ H' _ p => ?_) ?_ ?_
    · obtain ⟨_, _, s⟩ := p
      exact SqL.of (s _ _ b1)
    · rintro q u σ H22 H23 hq ⟨y14, rfl, s22⟩ ⟨rfl, eu⟩
      have hT22 := s22 _ _ hT20
      refine ⟨_, rfl, _, rfl, _, rfl, N, _, u, B.m q, B.x q, B.t q, rfl, hnet20.same s22, port_mono (b3 q u eu) (same_ts s22), (B.hm q).2, fun H24 v s24 hv => ?_⟩
      obtain ⟨gA, gvs, rfl, g1, g2, g3⟩ := hv
      obtain ⟨u1, eu1⟩ := at_lt g2 (show l0 < N.n by omega)
      obtain ⟨gB, gws, rfl, g4, g5, g6⟩ := g3 l0 u1 eu1
      obtain ⟨u2, eu2⟩ := at_lt g5 (show i0 < N.w by omega)
      obtain ⟨gC, gxs, rfl, g7, g8, g9⟩ := g6 i0 u2 eu2
      obtain ⟨u3, eu3⟩ := at_lt g8 (show k0 < N.w by omega)
      obtain rfl := g9 k0 u3 eu3
      have hT24 := s24 _ _ hT22
      refine ⟨_, rfl, T0, _, 0, .int l0, rfl, rfl, SqT.of hT24, rfl, gA, gvs, l0, _, rfl, rfl, SqT.of g1, atI_nat eu1, _, rfl, T0, _, 1, .int i0, rfl, rfl, SqT.of hT24, rfl, gB, gws, i0, _, rfl, rfl, SqT.of g4, atI_nat eu2, _, rfl, T0, _, 2, .int k0, rfl, rfl, SqT.of hT24, rfl, gC, gxs, k0, _, rfl, rfl, SqT.of g7, atI_nat eu3, _, _, rfl, rfl, ?_⟩
      exact ⟨_, rfl, s22.trans s24⟩
    · rintro σ H22 ⟨y14, rfl, s22⟩
      have hA22 := s22 _ _ hA20
      have hd22 := s22 _ _ hd20
      refine ⟨_, rfl, .inl ⟨_, rfl, _, rfl, nA, _, 0, .int N.p, rfl, rfl, SqT.of hA22, rfl, _, _, rfl, rfl, (show 0 < N.p by omega), ?_⟩⟩
      refine ⟨_, rfl, (show 2 ≤ sizeLine by decide), fun Z hZ => ?_⟩
      have sZ : Same H22 (upd H22 Z (.lst [.int 0, .int 0])) := same_new hZ
      refine ⟨dA, Z, _, _, rfl, rfl, sZ _ _ hd22, upd_same, (by rw [List.length_map, sizeLine_eq]; simp only [List.length_cons, List.length_nil]; omega), fun P hP => ?_⟩
      have e1' : atI (F.map V.int ++ [V.int 0, V.int 0]) 1 = some (.int (cf F 1)) := atI_nat (j := 1) (by rcases F with _ | ⟨c, _ | ⟨d, G⟩⟩ <;> rfl)
      refine ⟨P, _, 1, _, rfl, rfl, SqL.of upd_same, e1', rfl, ?_⟩
      exact congrArg V.bl (decide_eq_true (congrArg V.int pslope))

end
end K55

/-! Ma: the plain mathematics -/
namespace K55

/-! ### the same behind % p -/
def Cg (p a b : Int) : Prop := a % p = b % p
section
variable {p a b c d : Int}
theorem Cg.refl (p a : Int) : Cg p a a := rfl
theorem Cg.symm (h : Cg p a b) : Cg p b a := Eq.symm h
theorem Cg.trans (h : Cg p a b) (k : Cg p b c) : Cg p a c := Eq.trans h k
theorem Cg.mod (p a : Int) : Cg p (a % p) a := Int.emod_emod_of_dvd a (Int.dvd_refl p)
theorem Cg.add (h : Cg p a b) (k : Cg p c d) : Cg p (a + c) (b + d) := by
  unfold Cg at *
  rw [Int.add_emod, h, k, ← Int.add_emod]
theorem Cg.mul (h : Cg p a b) (k : Cg p c d) : Cg p (a * c) (b * d) := by
  unfold Cg at *
  rw [Int.mul_emod, h, k, ← Int.mul_emod]
theorem Cg.sub (h : Cg p a b) (k : Cg p c d) : Cg p (a - c) (b - d) := by
  unfold Cg at *
  rw [Int.sub_emod, h, k, ← Int.sub_emod]
theorem Cg.of (h : a = b) : Cg p a b := congrArg (· % p) h
theorem Cg.eq (h : Cg p a b) (h1 : 0 ≤ a ∧ a < p) (h2 : 0 ≤ b ∧ b < p) : a = b := by
  unfold Cg at h
  rwa [Int.emod_eq_of_lt h1.1 h1.2, Int.emod_eq_of_lt h2.1 h2.2] at h
end

/-! ### sums -/
theorem sumF_congr {n : Nat} {f g : Nat → Int} (h : ∀ i, i < n → f i = g i) : sumF n f = sumF n g := by
  induction n with
  | zero => rfl
  | succ n ih =>
    show sumF n f + f n = sumF n g + g n
    rw [ih fun i hi => h i (by omega), h n (by omega)]
theorem sumF_cg {p : Int} {n : Nat} {f g : Nat → Int} (h : ∀ i, i < n → Cg p (f i) (g i)) : Cg p (sumF n f) (sumF n g) := by
  induction n with
  | zero => rfl
  | succ n ih => exact (ih fun i hi => h i (by omega)).add (h n (by omega))
theorem sumF_add (n : Nat) (f g : Nat → Int) : sumF n (fun i => f i + g i) = sumF n f + sumF n g := by
  induction n with
  | zero => rfl
  | succ n ih =>
    show sumF n (fun i => f i + g i) + (f n + g n) = (sumF n f + f n) + (sumF n g + g n)
    rw [ih]
    omega
theorem sumF_mul (n : Nat) (c : Int) (f : Nat → Int) : sumF n (fun i => c * f i) = c * sumF n f := by
  induction n with
  | zero => exact (Int.mul_zero c).symm
  | succ n ih =>
    show sumF n (fun i => c * f i) + c * f n = c * (sumF n f + f n)
    rw [ih, Int.mul_add]
theorem sumF_mulr (n : Nat) (c : Int) (f : Nat → Int) : sumF n (fun i => f i * c) = sumF n f * c := by
  rw [Int.mul_comm, ← sumF_mul]
  exact sumF_congr fun i _ => Int.mul_comm _ _
theorem sumF_swap (n m : Nat) (f : Nat → Nat → Int) : sumF n (fun i => sumF m (f i)) = sumF m (fun j => sumF n fun i => f i j) := by
  induction n with
  | zero => exact (sumF_zero fun _ _ => rfl).symm
  | succ n ih =>
    show sumF n (fun i => sumF m (f i)) + sumF m (f n) = _
    rw [ih, ← sumF_add]
    rfl
/-- all but one are zero -/
theorem sumF_one {n j : Nat} {f : Nat → Int} (hj : j < n) (h : ∀ i, i < n → i ≠ j → f i = 0) : sumF n f = f j := by
  induction n with
  | zero => omega
  | succ n ih =>
    show sumF n f + f n = f j
    by_cases e : j = n
    · subst e
      rw [sumF_zero fun i hi => h i (by omega) (by omega), Int.zero_add]
    · rw [ih (by omega) fun i hi => h i (by omega), h n (by omega) (fun z => e z.symm), Int.add_zero]
/-- zeros behind do not matter -/
theorem sumF_more {n m : Nat} {f : Nat → Int} (hn : n ≤ m) (h : ∀ i, n ≤ i → f i = 0) : sumF m f = sumF n f := by
  induction m with
  | zero => rw [Nat.le_zero.mp hn]
  | succ m ih =>
    by_cases e : n = m + 1
    · rw [e]
    · show sumF m f + f m = _
      rw [ih (by omega), h m (by omega), Int.add_zero]
/-- .. zeros ahead neither -/
theorem sumF_shift (j n : Nat) (f : Nat → Int) : sumF (j + n) (fun m => if j ≤ m then f (m - j) else 0) = sumF n f := by
  induction n with
  | zero => exact sumF_zero fun i hi => if_neg (by omega)
  | succ n ih =>
    show sumF (j + n) (fun m => if j ≤ m then f (m - j) else 0) + (if j ≤ j + n then f (j + n - j) else 0) = sumF n f + f n
    rw [ih, if_pos (by omega), Nat.add_sub_cancel_left]

/-! ### lists of numbers -/
theorem cf_map {n m : Nat} {f : Nat → Int} : cf ((List.range n).map f) m = if m < n then f m else 0 := by
  unfold cf
  rw [List.getD_eq_getElem?_getD, List.getElem?_map]
  by_cases h : m < n
  · rw [List.getElem?_range h, if_pos h]
    rfl
  · rw [List.getElem?_eq_none (by rw [List.length_range]; omega), if_neg h]
    rfl
theorem cf_addL (p : Int) (a b : List Int) (m : Nat) : cf (addL p a b) m = (cf a m + cf b m) % p := by
  unfold addL
  rw [cf_map]
  split
  · rfl
  · rw [cf_ge (l := a) (by omega), cf_ge (l := b) (by omega)]
    exact (Int.zero_emod p).symm
theorem convS_ge {a b : List Int} {m : Nat} (h : a.length + b.length - 1 ≤ m) : convS a b m = 0 := by
  unfold convS
  refine sumF_zero fun j hj => ?_
  split
  · rw [cf_ge (l := b) (by omega), Int.mul_zero]
  · rfl
theorem cf_mulL (p : Int) (a b : List Int) (m : Nat) : cf (mulL p a b) m = convS a b m % p := by
  unfold mulL
  rw [cf_map]
  split
  · rfl
  · rw [convS_ge (by omega)]
    exact (Int.zero_emod p).symm
theorem cf_snoc (us : List Int) (m : Nat) : cf (us ++ [0]) m = cf us m := by
  unfold cf
  rw [List.getD_eq_getElem?_getD, List.getD_eq_getElem?_getD]
  by_cases h : m < us.length
  · rw [List.getElem?_append_left h]
  · rw [List.getElem?_append_right (by omega), List.getElem?_eq_none (l := us) (by omega)]
    rcases Nat.eq_or_lt_of_le (Nat.le_of_not_lt h) with e | e
    · rw [← e, Nat.sub_self]
      rfl
    · rw [List.getElem?_eq_none (by simp; omega)]
theorem cf_last (us : List Int) (c : Int) : cf (us ++ [c]) ((us ++ [c]).length - 1) = c := by
  unfold cf
  rw [List.getD_eq_getElem?_getD, List.length_append, List.length_singleton, Nat.add_sub_cancel, List.getElem?_append_right (Nat.le_refl _), Nat.sub_self]
  rfl
/-- without zeros at the end -/
def Cn (l : List Int) : Prop := l = [] ∨ cf l (l.length - 1) ≠ 0
theorem trim_is : ∀ (n : Nat) (l : List Int), l.length = n → Cn (trim l) ∧ ∀ m, cf (trim l) m = cf l m
  | 0, l, h => by
    rw [List.length_eq_zero_iff.mp h]
    exact ⟨.inl rfl, fun _ => rfl⟩
  | n + 1, l, h => by
    rcases List.eq_nil_or_concat l with rfl | ⟨vs, c, e⟩
    · cases h
    · rw [List.concat_eq_append] at e
      subst e
      have hv : vs.length = n := by simpa using h
      by_cases hc : c = 0
      · subst hc
        obtain ⟨h1, h2⟩ := trim_is n vs hv
        rw [trim_zero]
        exact ⟨h1, fun m => (h2 m).trans (cf_snoc vs m).symm⟩
      · rw [trim_keep vs hc]
        exact ⟨.inr (by rw [cf_last]; exact hc), fun _ => rfl⟩
theorem cn_trim (l : List Int) : Cn (trim l) := (trim_is _ l rfl).1
theorem cf_trim (l : List Int) (m : Nat) : cf (trim l) m = cf l m := (trim_is _ l rfl).2 m
theorem cn_len {a b : List Int} (hb : Cn b) (h : ∀ m, cf a m = cf b m) : b.length ≤ a.length := by
  rcases hb with rfl | hb
  · exact Nat.zero_le _
  · refine Nat.le_of_not_lt fun z => hb ?_
    rw [← h]
    exact cf_ge (by omega)
theorem cn_eq {a b : List Int} (ha : Cn a) (hb : Cn b) (h : ∀ m, cf a m = cf b m) : a = b := by
  have e : a.length = b.length := Nat.le_antisymm (cn_len ha fun m => (h m).symm) (cn_len hb h)
  refine List.ext_getElem e fun i h1 h2 => ?_
  have z := h i
  unfold cf at z
  rwa [List.getD_eq_getElem?_getD, List.getD_eq_getElem?_getD, List.getElem?_eq_getElem h1, List.getElem?_eq_getElem h2] at z
end K55

/-! Mb: the program's polynomial is the law's -/
namespace K55

def Rp (p : Int) (a b : List Int) : Prop := ∀ m, Cg p (cf a m) (cf b m)
section
variable {p : Int} {a a' b b' : List Int}
theorem Rp.refl (p : Int) (a : List Int) : Rp p a a := fun _ => rfl
theorem Rp.add (h : Rp p a a') (k : Rp p b b') : Rp p (addL p a b) (addL p a' b') := fun m => by
  rw [cf_addL, cf_addL]
  exact ((Cg.mod _ _).trans ((h m).add (k m))).trans (Cg.mod _ _).symm
theorem conv_to {L : Nat} (h : a.length ≤ L) (m : Nat) : convS a b m = sumF L fun j => if j ≤ m then cf a j * cf b (m - j) else 0 :=
  (sumF_more h fun i hi => by
    rw [cf_ge (l := a) hi, Int.zero_mul, ite_self]).symm
theorem Rp.mul (h : Rp p a a') (k : Rp p b b') : Rp p (mulL p a b) (mulL p a' b') := fun m => by
  rw [cf_mulL, cf_mulL]
  refine ((Cg.mod _ _).trans ?_).trans (Cg.mod _ _).symm
  rw [conv_to (L := max a.length a'.length) (by omega), conv_to (L := max a.length a'.length) (by omega)]
  refine sumF_cg fun j _ => ?_
  split
  · exact (h j).mul (k (m - j))
  · rfl
theorem Rp.trim (h : Rp p a b) : Rp p (trim a) b := fun m => by
  rw [cf_trim]
  exact h m
theorem Rp.one {c d : Int} (h : Cg p c d) : Rp p [c] [d] := fun m => by
  cases m with
  | zero => exact h
  | succ m => rw [cf_ge (Nat.le_add_left 1 m), cf_ge (Nat.le_add_left 1 m)]; rfl
theorem rp_tot {A A' B B' : Nat → List Int} (hA : ∀ k, Rp p (A k) (A' k)) (hB : ∀ k, Rp p (B k) (B' k)) : ∀ k, Rp p (totM p A B k) (ltotM p A' B' k)
  | 0 => Rp.refl _ _
  | k + 1 => ((rp_tot hA hB k).add ((hA k).mul (hB k)).trim).trim
theorem rp_po {w : Nat} {ks : Nat → Bool} {M M' : Nat → Nat → Nat → List Int} (x : Nat → Int) (hM : ∀ l i k, Rp p (M l i k) (M' l i k)) : ∀ l i, Rp p (poM p w ks M x l i) (thM p w ks M' x l i)
  | 0, i => (Rp.one (Cg.mod p (x i))).trim
  | l + 1, i => by
    have z := rp_tot (hM l i) (rp_po (w := w) (ks := ks) x hM l) w
    show Rp p (if ks l = true then _ else _) (if ks l = true then _ else _)
    split
    · exact (z.mul z).trim
    · exact z
theorem rp_ex {o o' : Nat → List Int} (t : Nat → Int) {tot tot' : List Int} (ho : ∀ k, Rp p (o k) (o' k)) (ht : Rp p tot tot') : ∀ k, Rp p (exP p o t tot k) (lexP p o' t tot' k)
  | 0 => ht
  | k + 1 => by
    have g : Rp p (K55.trim (addL p (o k) (K55.trim [(-t k) % p]))) (addL p (o' k) [0 - t k]) :=
      ((ho k).add (Rp.one ((Cg.mod p (-t k)).trans (Cg.of (Int.zero_sub (t k)).symm))).trim).trim
    exact ((rp_ex t ho ht k).add (g.mul g).trim).trim
theorem rp_pt {w : Nat} {O O' : (Nat → Int) → Nat → List Int} (x t : Nat → Nat → Int) {tot tot' : List Int} (ho : ∀ x k, Rp p (O x k) (O' x k)) (ht : Rp p tot tot') : ∀ e, Rp p (ptP p w O x t tot e) (lptP p w O' x t tot' e)
  | 0 => ht
  | e + 1 => rp_ex (t e) (ho (x e)) (rp_pt x t ho ht e) w
theorem rp_bt {N : Nw} {w : Nat} {O O' : (Nat → Int) → Nat → List Int} (B : Bt N) (ho : ∀ x k, Rp p (O x k) (O' x k)) : ∀ q, Rp p (btP p w O B q) (lbtP p w O' B q)
  | 0 => Rp.refl _ _
  | q + 1 => rp_pt (B.x q) (B.t q) ho (rp_bt B ho q) (B.m q)
theorem rp_w (N : Nw) (l0 i0 k0 l i k : Nat) : Rp N.p (wpM N l0 i0 k0 l i k) (lwM N l0 i0 k0 l i k) := by
  unfold wpM lwM
  split
  · exact (Rp.refl _ _).trim
  · exact (Rp.one (Cg.mod _ _)).trim
theorem rp_lp (N : Nw) (B : Bt N) (l0 i0 k0 : Nat) : Rp N.p (lpM N B l0 i0 k0) (llM N B l0 i0 k0) := fun m => by
  unfold llM
  rw [cf_trim]
  exact rp_bt B (fun x k => rp_po x (rp_w N l0 i0 k0) N.n k) B.b m

/-! ### bounds -/
def Bd (p : Int) (l : List Int) : Prop := ∀ x, x ∈ l → 0 ≤ x ∧ x < p
theorem bd_add (hp : 0 < p) (a b : List Int) : Bd p (addL p a b) := fun x hx => by
  unfold addL at hx
  obtain ⟨m, _, rfl⟩ := List.mem_map.mp hx
  exact ⟨Int.emod_nonneg _ (by omega), Int.emod_lt_of_pos _ hp⟩
theorem bd_trim (h : Bd p a) : Bd p (trim a) := fun x hx => h x (trim_mem hx)
theorem bd_nil : Bd p [] := fun x hx => by cases hx
theorem bd_cf (hp : 0 < p) (h : Bd p a) (m : Nat) : 0 ≤ cf a m ∧ cf a m < p := by
  by_cases hm : m < a.length
  · exact h _ (cf_mem hm)
  · rw [cf_ge (by omega)]
    exact ⟨Int.le_refl _, hp⟩
theorem bd_ex (hp : 0 < p) (o : Nat → List Int) (t : Nat → Int) {tot : List Int} (ht : Bd p tot ∧ Cn tot) : ∀ k, Bd p (exP p o t tot k) ∧ Cn (exP p o t tot k)
  | 0 => ht
  | k + 1 => ⟨bd_trim (bd_add hp _ _), cn_trim _⟩
theorem bd_pt (hp : 0 < p) {w : Nat} {O : (Nat → Int) → Nat → List Int} (x t : Nat → Nat → Int) {tot : List Int} (ht : Bd p tot ∧ Cn tot) : ∀ e, Bd p (ptP p w O x t tot e) ∧ Cn (ptP p w O x t tot e)
  | 0 => ht
  | e + 1 => bd_ex hp _ _ (bd_pt hp x t ht e) w
theorem bd_bt (hp : 0 < p) {N : Nw} {w : Nat} {O : (Nat → Int) → Nat → List Int} (B : Bt N) : ∀ q, Bd p (btP p w O B q) ∧ Cn (btP p w O B q)
  | 0 => ⟨bd_nil, .inl rfl⟩
  | q + 1 => bd_pt hp _ _ (bd_bt hp B q) (B.m q)
theorem lbd_ex (hp : 0 < p) (o : Nat → List Int) (t : Nat → Int) {tot : List Int} (ht : Bd p tot) : ∀ k, Bd p (lexP p o t tot k)
  | 0 => ht
  | k + 1 => bd_add hp _ _
theorem lbd_pt (hp : 0 < p) {w : Nat} {O : (Nat → Int) → Nat → List Int} (x t : Nat → Nat → Int) {tot : List Int} (ht : Bd p tot) : ∀ e, Bd p (lptP p w O x t tot e)
  | 0 => ht
  | e + 1 => lbd_ex hp _ _ (lbd_pt hp x t ht e) w
theorem lbd_bt (hp : 0 < p) {N : Nw} {w : Nat} {O : (Nat → Int) → Nat → List Int} (B : Bt N) : ∀ q, Bd p (lbtP p w O B q)
  | 0 => bd_nil
  | q + 1 => lbd_pt hp _ _ (lbd_bt hp B q) (B.m q)
end
theorem lp_same (N : Nw) (B : Bt N) (l0 i0 k0 : Nat) : lpM N B l0 i0 k0 = llM N B l0 i0 k0 := by
  have hp : 0 < N.p := by have := N.hp; omega
  have h1 := bd_bt hp (w := N.w) (O := fun x => poM N.p N.w N.k (wpM N l0 i0 k0) x N.n) B B.b
  have h2 : Bd N.p (llM N B l0 i0 k0) := bd_trim (lbd_bt hp B B.b)
  exact cn_eq h1.2 (cn_trim _) fun m => (rp_lp N B l0 i0 k0 m).eq (bd_cf hp h1.1 m) (bd_cf hp h2 m)
theorem ll_lo (N : Nw) (B : Bt N) (l0 i0 k0 : Nat) : ∀ x, x ∈ llM N B l0 i0 k0 → 0 ≤ x ∧ x < 97 := fun x hx => by
  have hp := N.hp
  have h2 : Bd N.p (llM N B l0 i0 k0) := bd_trim (lbd_bt (by omega) B B.b)
  have := h2 x hx
  omega
theorem ll_len (N : Nw) (B : Bt N) (l0 i0 k0 : Nat) : (llM N B l0 i0 k0).length ≤ 100 := by
  have hp := N.hp
  have hn := N.hn
  have hM2 : ∀ l i k, (lwM N l0 i0 k0 l i k).length ≤ 2 := fun l i k => by unfold lwM; split <;> simp
  have hO : ∀ x : Nat → Int, (∀ i, 0 ≤ x i ∧ x i < N.p) → ∀ i, (thM N.p N.w N.k (lwM N l0 i0 k0) x N.n i).length ≤ 15 := fun x xb i => by
    have h1 := (th_ok (w := N.w) (ks := N.k) hp x xb hM2 N.n i).2
    have h2 : 2 ^ (N.n + 1) ≤ 16 := Nat.le_trans (Nat.pow_le_pow_right (by decide) (show N.n + 1 ≤ 4 by omega)) (by decide)
    omega
  generalize hOO : (fun x => thM N.p N.w N.k (lwM N l0 i0 k0) x N.n) = O
  have hO' : ∀ x : Nat → Int, (∀ i, 0 ≤ x i ∧ x i < N.p) → ∀ i, (O x i).length ≤ 15 := fun x xb i => by rw [← hOO]; exact hO x xb i
  have hpt : ∀ (q : Nat) (tot : List Int), tot.length ≤ 29 → ∀ e, (lptP N.p N.w O (B.x q) (B.t q) tot e).length ≤ 29 := fun q tot ht e => by
    induction e with
    | zero => exact ht
    | succ e ih => exact lex_len _ _ _ ih (hO' (B.x q e) (B.hx q e)) N.w
  have hbt : ∀ q, (lbtP N.p N.w O B q).length ≤ 29 := fun q => by
    induction q with
    | zero => exact Nat.zero_le _
    | succ q ih => exact hpt q _ ih (B.m q)
  unfold llM
  rw [hOO]
  have := trim_len (lbtP N.p N.w O B B.b)
  have := hbt B.b
  omega
end K55

/-! Mc: the polynomial's value is the loss with the weight changed -/
namespace K55

def ev (t : Int) (l : List Int) : Int := sumF l.length fun m => cf l m * t ^ m
section
variable {p : Int} {a b : List Int}
theorem ev_to {L : Nat} {l : List Int} (t : Int) (h : l.length ≤ L) : ev t l = sumF L fun m => cf l m * t ^ m :=
  (sumF_more h fun i hi => by rw [cf_ge (l := l) hi, Int.zero_mul]).symm
theorem ev_trim (t : Int) (l : List Int) : ev t (trim l) = ev t l := by
  rw [ev_to t (trim_len l)]
  exact sumF_congr fun m _ => by rw [cf_trim]
theorem ev_add (t : Int) (a b : List Int) : Cg p (ev t (addL p a b)) (ev t a + ev t b) := by
  have e : ev t a + ev t b = sumF (max a.length b.length) fun m => (cf a m + cf b m) * t ^ m := by
    rw [ev_to (l := a) t (Nat.le_max_left a.length b.length), ev_to (l := b) t (Nat.le_max_right a.length b.length), ← sumF_add]
    exact sumF_congr fun m _ => (Int.add_mul _ _ _).symm
  rw [e, ev_to (l := addL p a b) (L := max a.length b.length) t (Nat.le_of_eq (addL_len p a b))]
  refine sumF_cg fun m _ => ?_
  rw [cf_addL]
  exact (Cg.mod _ _).mul (Cg.refl _ _)
theorem ev_mul (t : Int) (a b : List Int) : Cg p (ev t (mulL p a b)) (ev t a * ev t b) := by
  have e : sumF (a.length + b.length) (fun m => convS a b m * t ^ m) = ev t a * ev t b := by
    have e1 : sumF (a.length + b.length) (fun m => convS a b m * t ^ m) = sumF (a.length + b.length) (fun m => sumF a.length fun j => (if j ≤ m then cf a j * cf b (m - j) else 0) * t ^ m) :=
      sumF_congr fun m _ => (sumF_mulr _ _ _).symm
    rw [e1, sumF_swap]
    have e2 : ∀ j, j < a.length → sumF (a.length + b.length) (fun m => (if j ≤ m then cf a j * cf b (m - j) else 0) * t ^ m) = cf a j * t ^ j * ev t b := fun j hj => by
      have e3 : a.length + b.length = j + (a.length + b.length - j) := by omega
      have e4 := sumF_shift j (a.length + b.length - j) fun i => cf a j * t ^ j * (cf b i * t ^ i)
      rw [sumF_mul, ← ev_to (l := b) t (by omega), ← e3] at e4
      rw [← e4]
      refine sumF_congr fun m _ => ?_
      by_cases h : j ≤ m
      · rw [if_pos h, if_pos h]
        obtain ⟨i, rfl⟩ := Nat.exists_eq_add_of_le h
        rw [Nat.add_sub_cancel_left, Int.pow_add]
        grind
      · rw [if_neg h, if_neg h, Int.zero_mul]
    rw [sumF_congr e2, sumF_mulr]
    rfl
  rw [← e, ev_to (l := mulL p a b) (L := a.length + b.length) t (by rw [mulL_len]; omega)]
  refine sumF_cg fun m _ => ?_
  rw [cf_mulL]
  exact (Cg.mod _ _).mul (Cg.refl _ _)
theorem ev_one (t c : Int) : ev t [c] = c := by
  show 0 + c * t ^ 0 = c
  rw [Int.pow_zero]
  omega
theorem ev_two (t c d : Int) : ev t [c, d] = c + d * t := by
  show 0 + c * t ^ 0 + d * t ^ 1 = _
  rw [Int.pow_zero, Int.pow_succ, Int.pow_zero]
  grind
theorem sumF_head (n : Nat) (f : Nat → Int) : sumF (n + 1) f = f 0 + sumF n fun i => f (i + 1) := by
  induction n with
  | zero =>
    show 0 + f 0 = f 0 + 0
    omega
  | succ n ih =>
    show sumF (n + 1) f + f (n + 1) = f 0 + (sumF n (fun i => f (i + 1)) + f (n + 1))
    rw [ih]
    omega
theorem ev_cons (t c : Int) (l : List Int) : ev t (c :: l) = c + ev t l * t := by
  unfold ev
  rw [List.length_cons, sumF_head, ← sumF_mulr]
  have e : cf (c :: l) 0 * t ^ 0 = c := by
    rw [Int.pow_zero, Int.mul_one]
    rfl
  rw [e]
  congr 1
  refine sumF_congr fun i _ => ?_
  show cf l i * t ^ (i + 1) = _
  rw [Int.pow_succ, Int.mul_assoc]
theorem horn_ev (t : Int) : ∀ l : List Int, Cg p (horn p t l) (ev t l)
  | [] => rfl
  | c :: l => by
    rw [ev_cons, Int.add_comm]
    exact (Cg.mod _ _).trans (((horn_ev t l).mul (Cg.refl _ _)).add (Cg.refl _ _))
theorem ev_tot (t : Int) (A B : Nat → List Int) : ∀ k, Cg p (ev t (ltotM p A B k)) (sumF k fun k => ev t (A k) * ev t (B k))
  | 0 => rfl
  | k + 1 => (ev_add t _ _).trans ((ev_tot t A B k).add (ev_mul t _ _))
end

theorem ev_lw (N : Nw) (l0 i0 k0 : Nat) (t : Int) (l i k : Nat) : Cg N.p (ev t (lwM N l0 i0 k0 l i k)) ((withN N l0 i0 k0 t).W l i k) := by
  unfold lwM
  show Cg N.p _ (if l = l0 ∧ i = i0 ∧ k = k0 then (N.W l i k + t) % N.p else N.W l i k)
  split
  · rw [ev_two, Int.one_mul]
    exact (Cg.mod _ _).symm
  · rw [ev_one]
    rfl
theorem ev_th (N : Nw) (l0 i0 k0 : Nat) (t : Int) (x : Nat → Int) : ∀ l i, Cg N.p (ev t (thM N.p N.w N.k (lwM N l0 i0 k0) x l i)) (inM (withN N l0 i0 k0 t) x l i)
  | 0, i => by
    show Cg N.p (ev t [x i]) (x i)
    rw [ev_one]
    rfl
  | l + 1, i => by
    have z : Cg N.p (ev t (ltotM N.p (lwM N l0 i0 k0 l i) (thM N.p N.w N.k (lwM N l0 i0 k0) x l) N.w)) (prodM (withN N l0 i0 k0 t) l (inM (withN N l0 i0 k0 t) x l) i) :=
      ((ev_tot t _ _ N.w).trans (sumF_cg fun k _ => (ev_lw N l0 i0 k0 t l i k).mul (ev_th N l0 i0 k0 t x l k))).trans (Cg.mod _ _).symm
    show Cg N.p (ev t (if N.k l = true then _ else _)) (if N.k l = true then _ else _)
    split
    · exact ((ev_mul t _ _).trans (z.mul z)).trans (Cg.mod _ _).symm
    · exact z
theorem ev_ex {p : Int} {o : Nat → List Int} {y : Nat → Int} (s : Int) (t : Nat → Int) (tot : List Int) (ho : ∀ k, Cg p (ev s (o k)) (y k)) : ∀ k, Cg p (ev s (lexP p o t tot k)) (ev s tot + sumF k fun k => (y k - t k) ^ 2)
  | 0 => Cg.of (Int.add_zero _).symm
  | k + 1 => by
    have g : Cg p (ev s (addL p (o k) [0 - t k])) (y k - t k) := by
      refine (ev_add s _ _).trans (((ho k).add (Cg.refl _ _)).trans (Cg.of ?_))
      rw [ev_one]
      omega
    refine ((ev_add s _ _).trans ((ev_ex s t tot ho k).add ((ev_mul s _ _).trans (g.mul g)))).trans (Cg.of ?_)
    show _ = ev s tot + (sumF k (fun k => (y k - t k) ^ 2) + (y k - t k) ^ 2)
    rw [Int.pow_succ, Int.pow_succ, Int.pow_zero, Int.one_mul, Int.add_assoc]
theorem ev_pt (N : Nw) {w : Nat} (hw : w = N.w) {p : Int} {O : (Nat → Int) → Nat → List Int} (s : Int) (x t : Nat → Nat → Int) (tot : List Int) (ho : ∀ x k, Cg p (ev s (O x k)) (inM N x N.n k)) : ∀ e, Cg p (ev s (lptP p w O x t tot e)) (ev s tot + sumF e fun e => lossE N (x e) (t e))
  | 0 => Cg.of (Int.add_zero _).symm
  | e + 1 => by
    refine (ev_ex s (t e) _ (ho (x e)) w).trans (((ev_pt N hw s x t tot ho e).add (Cg.refl _ _)).trans (Cg.of ?_))
    subst hw
    exact Int.add_assoc _ _ _
theorem ev_bt (N : Nw) {N0 : Nw} {w : Nat} (hw : w = N.w) {p : Int} {O : (Nat → Int) → Nat → List Int} (s : Int) (B : Bt N0) (ho : ∀ x k, Cg p (ev s (O x k)) (inM N x N.n k)) : ∀ q, Cg p (ev s (lbtP p w O B q)) (sumF q fun q => sumF (B.m q) fun e => lossE N (B.x q e) (B.t q e))
  | 0 => rfl
  | q + 1 => (ev_pt N hw s (B.x q) (B.t q) _ ho (B.m q)).trans ((ev_bt N hw s B ho q).add (Cg.refl _ _))
theorem ll_at (N : Nw) (B : Bt N) (l0 i0 k0 : Nat) (t : Int) : lossM (withN N l0 i0 k0 t) B = horn N.p t (llM N B l0 i0 k0) := by
  have hp := N.hp
  refine Cg.eq ?_ (loss_bd (withN N l0 i0 k0 t) B) (horn_bd (by omega) t _)
  refine (Cg.mod _ _).trans ((horn_ev t _).trans ?_).symm
  unfold llM
  rw [ev_trim]
  exact ev_bt (withN N l0 i0 k0 t) rfl t B (fun x k => ev_th N l0 i0 k0 t x N.n k) B.b
theorem with_zero (N : Nw) (l0 i0 k0 : Nat) : withN N l0 i0 k0 0 = N := by
  have e : (withN N l0 i0 k0 0).W = N.W := by
    funext l i k
    show (if l = l0 ∧ i = i0 ∧ k = k0 then (N.W l i k + 0) % N.p else N.W l i k) = N.W l i k
    split
    · rw [Int.add_zero, Int.emod_eq_of_lt (N.hW l i k).1 (N.hW l i k).2]
    · rfl
  cases N with
  | mk p n w W k hp hn hw hW pr =>
    unfold withN at e ⊢
    simp only at e ⊢
    congr
theorem ll_at0 (N : Nw) (B : Bt N) (l0 i0 k0 : Nat) : lossM N B = horn N.p 0 (llM N B l0 i0 k0) := by
  have z := ll_at N B l0 i0 k0 0
  rwa [with_zero] at z
end K55

/-! Md: the polynomial's number of t is the slope that goes back through the layers -/
namespace K55

theorem conv0 (a b : List Int) : convS a b 0 = cf a 0 * cf b 0 := by
  rw [conv_to (L := a.length + 1) (Nat.le_succ _), sumF_head, sumF_zero fun i _ => if_neg (by omega), if_pos (Nat.le_refl _), Nat.sub_zero, Int.add_zero]
theorem conv1 (a b : List Int) : convS a b 1 = cf a 0 * cf b 1 + cf a 1 * cf b 0 := by
  rw [conv_to (L := a.length + 1 + 1) (by omega), sumF_head, sumF_head, sumF_zero fun i _ => if_neg (by omega), if_pos (by omega), if_pos (by omega)]
  show _ + (cf a 1 * cf b (1 - 1) + 0) = _
  rw [Int.add_zero]
/-- the way forward: how the numbers change with t -/
def dM (N : Nw) (l0 i0 k0 : Nat) (x : Nat → Int) : Nat → Nat → Int
  | 0 => fun _ => 0
  | l + 1 => fun i => (if N.k l = true then 2 * prodM N l (inM N x l) i else 1) * (sumF N.w (fun k => N.W l i k * dM N l0 i0 k0 x l k) + if l = l0 ∧ i = i0 then inM N x l k0 else 0)
theorem d_tot {p : Int} {A B : Nat → List Int} : ∀ k, Cg p (cf (ltotM p A B k) 0) (sumF k fun k => cf (A k) 0 * cf (B k) 0) ∧ Cg p (cf (ltotM p A B k) 1) (sumF k fun k => cf (A k) 0 * cf (B k) 1 + cf (A k) 1 * cf (B k) 0)
  | 0 => ⟨rfl, rfl⟩
  | k + 1 => by
    obtain ⟨h0, h1⟩ := d_tot (p := p) (A := A) (B := B) k
    constructor
    · show Cg p (cf (addL p (ltotM p A B k) (mulL p (A k) (B k))) 0) _
      rw [cf_addL, cf_mulL, conv0]
      exact (Cg.mod _ _).trans (h0.add (Cg.mod _ _))
    · show Cg p (cf (addL p (ltotM p A B k) (mulL p (A k) (B k))) 1) _
      rw [cf_addL, cf_mulL, conv1]
      exact (Cg.mod _ _).trans (h1.add (Cg.mod _ _))
theorem d_lw (N : Nw) (l0 i0 k0 l i k : Nat) : cf (lwM N l0 i0 k0 l i k) 0 = N.W l i k ∧ cf (lwM N l0 i0 k0 l i k) 1 = if l = l0 ∧ i = i0 ∧ k = k0 then 1 else 0 := by
  unfold lwM
  split
  · exact ⟨rfl, rfl⟩
  · exact ⟨rfl, rfl⟩
theorem d_th (N : Nw) {l0 i0 k0 : Nat} (hk : k0 < N.w) (x : Nat → Int) : ∀ l i, Cg N.p (cf (thM N.p N.w N.k (lwM N l0 i0 k0) x l i) 0) (inM N x l i) ∧ Cg N.p (cf (thM N.p N.w N.k (lwM N l0 i0 k0) x l i) 1) (dM N l0 i0 k0 x l i)
  | 0, i => ⟨rfl, rfl⟩
  | l + 1, i => by
    have ih := d_th N (l0 := l0) (i0 := i0) hk x l
    obtain ⟨t0, t1⟩ := d_tot (p := N.p) (A := lwM N l0 i0 k0 l i) (B := thM N.p N.w N.k (lwM N l0 i0 k0) x l) N.w
    have z0 : Cg N.p (cf (ltotM N.p (lwM N l0 i0 k0 l i) (thM N.p N.w N.k (lwM N l0 i0 k0) x l) N.w) 0) (prodM N l (inM N x l) i) := by
      refine (t0.trans (sumF_cg fun k _ => ?_)).trans (Cg.mod _ _).symm
      rw [(d_lw N l0 i0 k0 l i k).1]
      exact (Cg.refl _ _).mul (ih k).1
    have z1 : Cg N.p (cf (ltotM N.p (lwM N l0 i0 k0 l i) (thM N.p N.w N.k (lwM N l0 i0 k0) x l) N.w) 1) (sumF N.w (fun k => N.W l i k * dM N l0 i0 k0 x l k) + if l = l0 ∧ i = i0 then inM N x l k0 else 0) := by
      have e : sumF N.w (fun k => (if l = l0 ∧ i = i0 ∧ k = k0 then 1 else 0) * inM N x l k) = if l = l0 ∧ i = i0 then inM N x l k0 else 0 := by
        rw [sumF_one hk fun k _ hne => by rw [if_neg (fun z => hne z.2.2), Int.zero_mul]]
        by_cases h : l = l0 ∧ i = i0
        · rw [if_pos ⟨h.1, h.2, rfl⟩, if_pos h, Int.one_mul]
        · rw [if_neg (fun z => h ⟨z.1, z.2.1⟩), if_neg h, Int.zero_mul]
      rw [← e, ← sumF_add]
      refine t1.trans (sumF_cg fun k _ => ?_)
      rw [(d_lw N l0 i0 k0 l i k).1, (d_lw N l0 i0 k0 l i k).2]
      exact ((Cg.refl _ _).mul (ih k).2).add ((Cg.refl _ _).mul (ih k).1)
    show Cg N.p (cf (if N.k l = true then _ else _) 0) (if N.k l = true then _ else _) ∧ Cg N.p (cf (if N.k l = true then _ else _) 1) ((if N.k l = true then _ else _) * _)
    by_cases hs : N.k l = true
    · rw [if_pos hs, if_pos hs, if_pos hs]
      constructor
      · rw [cf_mulL, conv0]
        exact ((Cg.mod _ _).trans (z0.mul z0)).trans (Cg.mod _ _).symm
      · rw [cf_mulL, conv1]
        refine ((Cg.mod _ _).trans ((z0.mul z1).add (z1.mul z0))).trans (Cg.of ?_)
        grind
    · rw [if_neg hs, if_neg hs, if_neg hs]
      refine ⟨z0, z1.trans (Cg.of (Int.one_mul _).symm)⟩

/-- what one example adds -/
def dE (N : Nw) (l0 i0 k0 : Nat) (x t : Nat → Int) : Int := sumF N.w fun k => 2 * (inM N x N.n k - t k) * dM N l0 i0 k0 x N.n k
section
variable {N : Nw} {l0 i0 k0 : Nat} {O : (Nat → Int) → Nat → List Int} (ho : ∀ x k, Cg N.p (cf (O x k) 0) (inM N x N.n k) ∧ Cg N.p (cf (O x k) 1) (dM N l0 i0 k0 x N.n k))
include ho
theorem d_ex (x t : Nat → Int) (tot : List Int) : ∀ k, Cg N.p (cf (lexP N.p (O x) t tot k) 1) (cf tot 1 + sumF k fun k => 2 * (inM N x N.n k - t k) * dM N l0 i0 k0 x N.n k)
  | 0 => Cg.of (Int.add_zero _).symm
  | k + 1 => by
    have g0 : Cg N.p (cf (addL N.p (O x k) [0 - t k]) 0) (inM N x N.n k - t k) := by
      rw [cf_addL]
      refine (Cg.mod _ _).trans (((ho x k).1.add (Cg.refl _ _)).trans (Cg.of ?_))
      show _ + (0 - t k) = _
      omega
    have g1 : Cg N.p (cf (addL N.p (O x k) [0 - t k]) 1) (dM N l0 i0 k0 x N.n k) := by
      rw [cf_addL]
      exact (Cg.mod _ _).trans (((ho x k).2.add (Cg.refl _ _)).trans (Cg.of (Int.add_zero _)))
    show Cg N.p (cf (addL N.p (lexP N.p (O x) t tot k) (mulL N.p (addL N.p (O x k) [0 - t k]) (addL N.p (O x k) [0 - t k]))) 1) (cf tot 1 + (sumF k _ + _))
    rw [cf_addL, cf_mulL, conv1]
    refine (Cg.mod _ _).trans (((d_ex x t tot k).add ((Cg.mod _ _).trans ((g0.mul g1).add (g1.mul g0)))).trans (Cg.of ?_))
    grind
theorem d_pt (x t : Nat → Nat → Int) (tot : List Int) : ∀ e, Cg N.p (cf (lptP N.p N.w O x t tot e) 1) (cf tot 1 + sumF e fun e => dE N l0 i0 k0 (x e) (t e))
  | 0 => Cg.of (Int.add_zero _).symm
  | e + 1 => (d_ex ho (x e) (t e) _ N.w).trans (((d_pt x t tot e).add (Cg.refl _ _)).trans (Cg.of (Int.add_assoc _ _ _)))
theorem d_bt {N0 : Nw} (B : Bt N0) : ∀ q, Cg N.p (cf (lbtP N.p N.w O B q) 1) (sumF q fun q => sumF (B.m q) fun e => dE N l0 i0 k0 (B.x q e) (B.t q e))
  | 0 => rfl
  | q + 1 => (d_pt ho (B.x q) (B.t q) _ (B.m q)).trans ((d_bt B q).add (Cg.refl _ _))
end

/-! ### the way back -/
theorem g_cg (N : Nw) (l : Nat) (x s : Nat → Int) (i : Nat) : Cg N.p (gM N l x s i) (s i * if N.k l = true then 2 * prodM N l x i else 1) := by
  unfold gM
  split
  · refine (Cg.mod _ _).trans (((Cg.refl _ _).mul (Cg.mod _ _)).trans (Cg.of (Int.mul_comm _ _)))
  · exact (Cg.mod _ _).trans (Cg.of (Int.mul_one _).symm)
theorem back_one (N : Nw) {l0 i0 k0 : Nat} (hi : i0 < N.w) (l : Nat) (x s d : Nat → Int) :
    Cg N.p (sumF N.w fun i => s i * ((if N.k l = true then 2 * prodM N l x i else 1) * (sumF N.w (fun k => N.W l i k * d k) + if l = l0 ∧ i = i0 then x k0 else 0)))
      ((sumF N.w fun k => backM N l x s k * d k) + if l = l0 then gradM N l x s i0 k0 else 0) := by
  have e1 : Cg N.p (sumF N.w fun i => s i * ((if N.k l = true then 2 * prodM N l x i else 1) * (sumF N.w (fun k => N.W l i k * d k) + if l = l0 ∧ i = i0 then x k0 else 0)))
      (sumF N.w fun i => gM N l x s i * (sumF N.w (fun k => N.W l i k * d k) + if l = l0 ∧ i = i0 then x k0 else 0)) := sumF_cg fun i _ => by
    rw [← Int.mul_assoc]
    exact (g_cg N l x s i).symm.mul (Cg.refl _ _)
  have e2 : sumF N.w (fun i => gM N l x s i * (sumF N.w (fun k => N.W l i k * d k) + if l = l0 ∧ i = i0 then x k0 else 0)) =
      (sumF N.w fun k => sumF N.w (fun i => gM N l x s i * N.W l i k) * d k) + if l = l0 then gM N l x s i0 * x k0 else 0 := by
    have a1 : sumF N.w (fun i => gM N l x s i * (sumF N.w (fun k => N.W l i k * d k) + if l = l0 ∧ i = i0 then x k0 else 0)) =
        sumF N.w (fun i => sumF N.w (fun k => gM N l x s i * N.W l i k * d k)) + sumF N.w (fun i => gM N l x s i * if l = l0 ∧ i = i0 then x k0 else 0) := by
      rw [← sumF_add]
      refine sumF_congr fun i _ => ?_
      rw [Int.mul_add, ← sumF_mul]
      congr 1
      exact sumF_congr fun k _ => (Int.mul_assoc _ _ _).symm
    have a2 : sumF N.w (fun i => sumF N.w (fun k => gM N l x s i * N.W l i k * d k)) = sumF N.w fun k => sumF N.w (fun i => gM N l x s i * N.W l i k) * d k := by
      rw [sumF_swap]
      exact sumF_congr fun k _ => sumF_mulr _ _ _
    have a3 : sumF N.w (fun i => gM N l x s i * if l = l0 ∧ i = i0 then x k0 else 0) = if l = l0 then gM N l x s i0 * x k0 else 0 := by
      rw [sumF_one hi fun i _ hne => by rw [if_neg (fun z => hne z.2), Int.mul_zero]]
      by_cases h : l = l0
      · rw [if_pos ⟨h, rfl⟩, if_pos h]
      · rw [if_neg (fun z => h z.1), if_neg h, Int.mul_zero]
    rw [a1, a2, a3]
  rw [e2] at e1
  refine e1.trans ((sumF_cg fun k _ => (Cg.mod _ _).symm.mul (Cg.refl _ _)).add ?_)
  split
  · exact (Cg.mod _ _).symm
  · rfl
theorem back_all (N : Nw) {l0 i0 k0 : Nat} (hi : i0 < N.w) (x s : Nat → Int) : ∀ j, j ≤ N.n →
    Cg N.p (sumF N.w fun i => s i * dM N l0 i0 k0 x N.n i) ((sumF N.w fun i => sM N (inM N x) s j i * dM N l0 i0 k0 x (N.n - j) i) + if N.n - j ≤ l0 ∧ l0 < N.n then gradsM N (inM N x) s l0 i0 k0 else 0)
  | 0, _ => by
    rw [if_neg (by omega), Int.add_zero]
    rfl
  | j + 1, hj => by
    refine (back_all N hi x s j (by omega)).trans ?_
    obtain ⟨l, hl⟩ : ∃ l, N.n - j = l + 1 := ⟨N.n - j - 1, by omega⟩
    have el : N.n - (j + 1) = l := by omega
    have el2 : N.n - 1 - j = l := by omega
    rw [hl, el]
    have z := back_one N (l0 := l0) (k0 := k0) hi l (inM N x l) (sM N (inM N x) s j) (dM N l0 i0 k0 x l)
    have eb : ∀ k, sM N (inM N x) s (j + 1) k = backM N l (inM N x l) (sM N (inM N x) s j) k := fun k => by
      show backM N (N.n - 1 - j) (inM N x (N.n - 1 - j)) (sM N (inM N x) s j) k = _
      rw [el2]
    have es : (sumF N.w fun k => sM N (inM N x) s (j + 1) k * dM N l0 i0 k0 x l k) = sumF N.w fun k => backM N l (inM N x l) (sM N (inM N x) s j) k * dM N l0 i0 k0 x l k :=
      sumF_congr fun k _ => by rw [eb k]
    rw [es]
    refine (z.add (Cg.refl _ _)).trans (Cg.of ?_)
    rw [Int.add_assoc]
    congr 1
    by_cases h : l = l0
    · subst h
      rw [if_pos rfl, if_neg (by omega), if_pos (by omega), Int.add_zero]
      unfold gradsM
      have : N.n - 1 - l = j := by omega
      rw [this]
    · rw [if_neg h, Int.zero_add]
      by_cases h2 : l + 1 ≤ l0 ∧ l0 < N.n
      · rw [if_pos h2, if_pos (by omega)]
      · rw [if_neg h2, if_neg (by omega)]
theorem ex_cg (N : Nw) {l0 i0 k0 : Nat} (hl : l0 < N.n) (hi : i0 < N.w) (x t : Nat → Int) : Cg N.p (exM N x t l0 i0 k0) (dE N l0 i0 k0 x t) := by
  have z := back_all N (l0 := l0) (k0 := k0) hi x (lsM N (inM N x N.n) t) N.n (Nat.le_refl _)
  have ez : (sumF N.w fun i => sM N (inM N x) (lsM N (inM N x N.n) t) N.n i * dM N l0 i0 k0 x 0 i) = 0 := sumF_zero fun i _ => Int.mul_zero _
  rw [if_pos (by omega), Nat.sub_self, ez, Int.zero_add] at z
  refine z.symm.trans (sumF_cg fun k _ => ?_)
  exact (Cg.mod _ _).mul (Cg.refl _ _)
theorem ps_cg (N : Nw) {l0 i0 k0 : Nat} (hl : l0 < N.n) (hi : i0 < N.w) (xs ts : Nat → Nat → Int) : ∀ e, Cg N.p (psM N xs ts e l0 i0 k0) (sumF e fun e => dE N l0 i0 k0 (xs e) (ts e))
  | 0 => rfl
  | e + 1 => by
    refine (Cg.mod _ _).trans ((ps_cg N hl hi xs ts e).add ?_)
    rw [Int.one_mul]
    exact ex_cg N hl hi (xs e) (ts e)
theorem ll_slope (N : Nw) (B : Bt N) {l0 i0 k0 : Nat} (hl : l0 < N.n) (hi : i0 < N.w) (hk : k0 < N.w) : sumF B.b (fun q => psM N (B.x q) (B.t q) (B.m q) l0 i0 k0) % N.p = cf (llM N B l0 i0 k0) 1 := by
  have hp : 0 < N.p := by have := N.hp; omega
  have h2 : Bd N.p (llM N B l0 i0 k0) := bd_trim (lbd_bt hp B B.b)
  refine Cg.eq ?_ ⟨Int.emod_nonneg _ (by omega), Int.emod_lt_of_pos _ hp⟩ (bd_cf hp h2 1)
  refine (Cg.mod _ _).trans ?_
  unfold llM
  rw [cf_trim]
  exact (sumF_cg fun q _ => ps_cg N hl hi (B.x q) (B.t q) (B.m q)).trans (d_bt (fun x k => d_th N hk x N.n k) B B.b).symm
theorem plain_all (N : Nw) (B : Bt N) (l0 i0 k0 : Nat) (hl : l0 < N.n) (hi : i0 < N.w) (hk : k0 < N.w) : Plain N B l0 i0 k0 :=
  ⟨lp_same N B l0 i0 k0, ll_len N B l0 i0 k0, ll_lo N B l0 i0 k0, ll_at0 N B l0 i0 k0, fun t _ _ => ll_at N B l0 i0 k0 t, ll_slope N B hl hi hk⟩
end K55

/-! E1: the law's def run at the caller's own place, where nothing is being shown -/
namespace K55
open PySem PySem.Spec PyProof.Rows L2

theorem room8 : Room 9 callerA := ⟨rfl, by decide +kernel, by decide +kernel⟩
section
variable {P : Program} {w : World} {K : PySem.W.Frag} {mg : Str → Option Value}
/-- entered once, at callerA alone -/
theorem run_at {base : Heap} {f a : Addr} {fd : FuncData} {N : List Str} {s : Shared} {H : Hp} (F : Fun K "law" "law" sLaw f fd) (S : FnScope N ["_law_script"] (defScope sLaw))
    (e : Env0 P w K mg base callerA [] s H) (hb : BindsTo s fd ⟨[.ref a], []⟩ [("_law_script", .ref a)])
    (body : ∀ cdv : Value, ∃ t, PSs (cxOf CX0 P w K mg base N "law" (defScope sLaw) f cdv callerA [] s H E0).nox (defBody sLaw) t ∧ t { nx := fun _ _ => False, rt := fun v _ => v = .bl true } (L2.start N [.ref a]) H) :
    codeAny (model P w) callerA (.call (.ref f) ⟨[.ref a], []⟩) (fun r s' => ∃ (u : Value) (H' : Hp), r = .ok (.ret u) ∧ u = .bool true ∧ s'.os = s.os ∧ AllBare s'.gens ∧ Un (frs []) [] H H' s.heap s'.heap ∧ HOk P w H' s'.heap) s := by
  obtain ⟨oc, od, kV, doc, pm, an, cdv, ct, osl, rfl, look, code⟩ := F.ex
  have inK : K.In s.heap := e.mod.kin.keeps fun b o q => (e.bs b o q).1
  refine codeAny_call_function room8.depth (inK _ _ look) rfl S.co S.gen rfl (PySem.W.codeRec_of inK code) (hb _ _ _ _ ?_)
  refine wpAny_newFunctionEnv_cells S.kind (fun y hy => ?_) fun env he s1 x => ?_
  · rw [List.mem_singleton.mp hy]
    rcases S.par "_law_script" List.mem_cons_self with q | q
    · exact .inl q
    · exact .inr ⟨q, PySem.W.cellsFrom_some _ _ _ (.inl q)⟩
  subst he
  refine ⟨(e.mod.nolimit.keeps fun b o q => (e.bs b o q).1).keeps x.toInCall.keep, codeAny_func ?_⟩
  obtain ⟨t, ht, hq⟩ := body cdv
  have I0 := inv_start (CX := CX0) (E := E0) (us := [Value.ref a]) (vs := [V.ref a]) S (rfl : callerA.handled = none) e rfl (.cons rfl .nil) x
  refine wpAny_mono (ht.nox.run [] s1 _ H _ I0 hq) (fun fl s' z => ?_) fun er s' z => ?_
  · cases fl with
    | ret u =>
      obtain ⟨v, σ', H', J, rv, q⟩ := z
      obtain rfl : v = .bl true := q
      exact ⟨u, H', rfl, rv, J.os, J.bare, J.base, J.hok⟩
    | next => obtain ⟨_, _, _, q⟩ := z; exact q.elim
    | brk => obtain ⟨_, _, _, q⟩ := z; exact False.elim q
    | cont => obtain ⟨_, _, _, q⟩ := z; exact False.elim q
  · exact wpAny_mono z (fun _ _ q => False.elim q) fun _ _ q => False.elim q
/-- .. over what may be tracked of the script: nothing, or the script's list alone, known to the object -/
theorem run_over {fa a : Addr} {fd : FuncData} {N : List Str} {mb : Str → Option Value} {s1 : Shared} {vs : List Value} {ns : List Int} {H : Hp} (inK : K.In s1.heap) (hns : s1.heap.Ns mainGlobals mg) (hb : s1.heap.Ns builtinsNs mb)
    (hbb : ∀ x : Str, x ≠ "__name__" → mb x = bootBuiltins x) (hlim : s1.heap.NoLimit) (hg : s1.gens = #[]) (ha : s1.heap.get? a = some { cls := .type "list", data := .seq vs.toArray })
    (only : ∀ b u, H b = some u → b = a ∧ K.lookup a = none ∧ u = .frz { cls := .type "list", data := .seq vs.toArray } (.lst (ns.map V.int))) (hok : HOk P w H s1.heap) (hS : SqL K H a (ns.map V.int))
    (F : Fun K "law" "law" sLaw fa fd) (S : FnScope N ["_law_script"] (defScope sLaw)) (bind : ∀ (s : Shared) (u : Value), BindsTo s fd ⟨[u], []⟩ [("_law_script", u)])
    (body : ∀ (base : Heap) (s : Shared) (H : Hp) (a : Addr) (cdv : Value), K.In base → base.Ns mainGlobals mg → SqL K H a (ns.map V.int) →
      ∃ t, PSs (cxOf CX0 P w K mg base N "law" (defScope sLaw) fa cdv callerA [] s H E0).nox (defBody sLaw) t ∧ t { nx := fun _ _ => False, rt := fun v _ => v = .bl true } (L2.start N [.ref a]) H) :
    codeAny (model P w) callerA (.call (.ref fa) ⟨[.ref a], []⟩) (fun r s' => r = .ok (.ret (.bool true)) ∧ OldK s1.heap s'.heap ∧ s'.os = s1.os ∧ AllBare s'.gens) s1 := by
  -- what is no list of the script's stands in the base too
  have put : ∀ {b : Addr} {o : Obj}, s1.heap.get? b = some o → (b = a → K.lookup a = none → False) → (hidT s1.heap H).get? b = some o := fun {b o} q n => hidT_get q (by
    cases z : H b with
    | none => rfl
    | some u =>
      obtain ⟨n1, n2, _⟩ := only b u z
      exact (n n1 n2).elim)
  have names : ∀ {b : Addr} {m : Str → Option Value}, s1.heap.Ns b m → (hidT s1.heap H).Ns b m := fun {b m} ⟨o, es, ep, q, d, r⟩ => ⟨o, es, ep, put q (fun n _ => by
    subst n
    rw [ha] at q
    cases q
    exact absurd (show Data.seq vs.toArray _ = Data.dict es ep from d) (fun z => by cases z)), d, r⟩
  have kb : K.In (hidT s1.heap H) := fun b o q => put (inK b o q) fun n z => by rw [n, z] at q; cases q
  have modb : Mod K mg (hidT s1.heap H) := ⟨kb, names hns, ⟨mb, names hb, hbb⟩, let ⟨mc, q1, q2⟩ := hlim; ⟨mc, names q1, q2⟩⟩
  have e : Env0 P w K mg (hidT s1.heap H) callerA [] s1 H := ⟨rfl, modb, fun _ _ q => of_hidT q, Nat.le_of_eq (hidT_size _ _), trivial, fun b q => absurd (show b ∈ ([] : List Addr) from q) List.not_mem_nil, hok, .of_eq hg⟩
  refine codeAny_mono (run_at F S e (bind s1 (.ref a)) fun cdv => body _ _ _ _ cdv kb (names hns) hS) fun r s' z => ?_
  obtain ⟨u, H', rfl, rfl, os, bare, un, hok'⟩ := z
  refine ⟨rfl, OldK.of_keep fun b o q => ?_, os, bare⟩
  cases z : H b with
  | none => exact un.keep b o q z (fun y => absurd (show b ∈ ([] : List Addr) from y) List.not_mem_nil) List.not_mem_nil
  | some v =>
    obtain ⟨_, _, rfl⟩ := only b v z
    obtain ⟨q1, _⟩ := hok b _ z
    obtain ⟨q2, _⟩ := hok' b _ (un.frzs b _ _ z)
    rw [q] at q1
    cases q1
    exact q2
/-- .. at the heap behind the top -/
theorem run_law {fa a : Addr} {fd : FuncData} {N : List Str} {mb : Str → Option Value} {s1 : Shared} {vs : List Value} {ns : List Int} (inK : K.In s1.heap) (hns : s1.heap.Ns mainGlobals mg) (hb : s1.heap.Ns builtinsNs mb)
    (hbb : ∀ x : Str, x ≠ "__name__" → mb x = bootBuiltins x) (hlim : s1.heap.NoLimit) (hg : s1.gens = #[]) (ha : s1.heap.get? a = some { cls := .type "list", data := .seq vs.toArray }) (hi : IntsAre vs ns) (hl : ns.length ≤ 63)
    (F : Fun K "law" "law" sLaw fa fd) (S : FnScope N ["_law_script"] (defScope sLaw)) (bind : ∀ (s : Shared) (u : Value), BindsTo s fd ⟨[u], []⟩ [("_law_script", u)])
    (body : ∀ (base : Heap) (s : Shared) (H : Hp) (a : Addr) (cdv : Value), K.In base → base.Ns mainGlobals mg → SqL K H a (ns.map V.int) →
      ∃ t, PSs (cxOf CX0 P w K mg base N "law" (defScope sLaw) fa cdv callerA [] s H E0).nox (defBody sLaw) t ∧ t { nx := fun _ _ => False, rt := fun v _ => v = .bl true } (L2.start N [.ref a]) H) :
    codeAny (model P w) callerA (.call (.ref fa) ⟨[.ref a], []⟩) (fun r s' => r = .ok (.ret (.bool true)) ∧ OldK s1.heap s'.heap ∧ s'.os = s1.os ∧ AllBare s'.gens) s1 := by
  have rv := vals_ints hi
  have small : ns.length ≤ sizeLine := Nat.le_trans hl (by decide)
  cases look : K.lookup a with
  | some o =>
    have q := inK a o look
    rw [ha] at q
    cases q
    refine run_over (H := fun _ => none) inK hns hb hbb hlim hg ha (fun b u z => nomatch z) (fun b u z => nomatch z) (.inr ⟨_, vs.toArray, _, look, rfl, rfl, rfl, ?_, ?_⟩) F S bind body
    · rw [List.size_toArray, hi.length]; exact small
    · exact rv
  | none =>
    refine run_over (H := fun b => if b = a then some (.frz { cls := .type "list", data := .seq vs.toArray } (.lst (ns.map V.int))) else none) inK hns hb hbb hlim hg ha (fun b u z => ?_) (fun b u z => ?_) (.inl (.inr ⟨_, if_pos rfl⟩)) F S bind body
    · replace z : (if b = a then some (HO.frz { cls := .type "list", data := .seq vs.toArray } (.lst (ns.map V.int))) else none) = some u := z
      by_cases n : b = a
      · rw [if_pos n] at z
        cases z
        exact ⟨n, look, rfl⟩
      · rw [if_neg n] at z
        cases z
    · replace z : (if b = a then some (HO.frz { cls := .type "list", data := .seq vs.toArray } (.lst (ns.map V.int))) else none) = some u := z
      by_cases n : b = a
      · rw [if_pos n] at z
        cases z
        subst n
        exact ⟨ha, by rw [List.length_map]; exact small, vs, _, rv, ha⟩
      · rw [if_neg n] at z
        cases z
end
end K55

namespace K55
open PySem PySem.Spec PyProof.Rows L2
/-- a def of the module where it stands -/
structure Got (K : PySem.W.Frag) (x : Str) (st : Stmt) : Prop where
  ex : ∃ f fd, PySem.W.nsIn K mainGlobals x = some (some (.ref f)) ∧ Fun K x x st f fd
theorem got_mk {K : PySem.W.Frag} {x : Str} {st : Stmt} {f : Addr} {oc : Value} {od an : Option Addr} {osl : Array (Option Value)} {kV doc pm cdv ct : Value} (a : PySem.W.nsIn K mainGlobals x = some (some (.ref f)))
    (l : K.lookup f = some ⟨oc, od, .func (PySem.W.fnOf x x (defArgs st) (defBody st) (defScope st) .none kV doc pm an cdv ct), osl⟩) (c : PySem.W.codeIn K cdv x = true) (k : PySem.W.keepIn K (.ref f) = true) : Got K x st := ⟨f, _, a, fun_mk l c k⟩
/-- a method of the class -/
structure GotM (K : PySem.W.Frag) (C : Addr) (x y : Str) (st : Stmt) : Prop where
  ex : ∃ f fd, PySem.W.findIn K (.ref C) x = some (some (.ref f)) ∧ PySem.W.isFn K (.ref f) = true ∧ Fun K x y st f fd
theorem gotm_mk {K : PySem.W.Frag} {C : Addr} {x y : Str} {st : Stmt} {f : Addr} {oc : Value} {od an : Option Addr} {osl : Array (Option Value)} {kV doc pm cdv ct : Value} (a : PySem.W.findIn K (.ref C) x = some (some (.ref f))) (i : PySem.W.isFn K (.ref f) = true)
    (l : K.lookup f = some ⟨oc, od, .func (PySem.W.fnOf x y (defArgs st) (defBody st) (defScope st) .none kV doc pm an cdv ct), osl⟩) (c : PySem.W.codeIn K cdv y = true) (k : PySem.W.keepIn K (.ref f) = true) : GotM K C x y st := ⟨f, _, a, i, fun_mk l c k⟩
theorem most_mk {K : PySem.W.Frag} {t : Tok} (h : PySem.W.nsIn K mainGlobals "MOST_PRIME" = some (some (.int 97 t))) : ∃ t, PySem.W.nsIn K mainGlobals "MOST_PRIME" = some (some (.int 97 t)) := ⟨t, h⟩
structure AllGot (K : PySem.W.Frag) (C : Addr) : Prop where
  aC : PySem.W.nsIn K mainGlobals "Net" = some (some (.ref C))
  pg : PySem.W.plainGet K C Str.empty = true
  hd : PySem.W.hasDictIn K C = true
  po : PySem.W.plainOver K C = true
  sa : PySem.W.findIn K (.ref C) "__setattr__" = some (some (.builtin "object.__setattr__"))
  mks : PySem.W.makesIn K C = true
  kc : PySem.W.keepIn K (.ref C) = true
  nP : PySem.W.findIn K (.ref C) "prime" = some none
  nW : PySem.W.findIn K (.ref C) "weights" = some none
  nK : PySem.W.findIn K (.ref C) "kinds" = some none
  most : ∃ t, PySem.W.nsIn K mainGlobals "MOST_PRIME" = some (some (.int 97 t))
  z_sum : PySem.W.nsIn K mainGlobals "sum" = some none
  z_zip : PySem.W.nsIn K mainGlobals "zip" = some none
  z_range : PySem.W.nsIn K mainGlobals "range" = some none
  z_len : PySem.W.nsIn K mainGlobals "len" = some none
  z_tuple : PySem.W.nsIn K mainGlobals "tuple" = some none
  z_list : PySem.W.nsIn K mainGlobals "list" = some none
  z_reversed : PySem.W.nsIn K mainGlobals "reversed" = some none
  z_enumerate : PySem.W.nsIn K mainGlobals "enumerate" = some none
  z_max : PySem.W.nsIn K mainGlobals "max" = some none
  z_int : PySem.W.nsIn K mainGlobals "int" = some none
  z_bool : PySem.W.nsIn K mainGlobals "bool" = some none
  z_abs : PySem.W.nsIn K mainGlobals "abs" = some none
  z_isinstance : PySem.W.nsIn K mainGlobals "isinstance" = some none
  z_repr : PySem.W.nsIn K mainGlobals "repr" = some none
  gBetween : Got K "is_between" sBetween
  gPrime : Got K "is_prime" sPrime
  gMatrix : Got K "as_matrix" sMatrix
  gInit : GotM K C "__init__" "Net.__init__" sInit
  gLen : GotM K C "__len__" "Net.__len__" sLen
  gProduct : Got K "product" sProduct
  gLayF : Got K "layer_forward" sLayF
  gLayB : Got K "layer_back" sLayB
  gInputs : Got K "layer_inputs" sInputs
  gForward : Got K "forward" sForward
  gSlBack : Got K "slopes_back" sSlBack
  gLossSl : Got K "loss_slopes" sLossSl
  gNoSl : Got K "no_slopes" sNoSl
  gAdded : Got K "added" sAdded
  gPortSl : Got K "portion_slopes" sPortSl
  gTrim : Got K "trimmed" sTrim
  gPlus : Got K "plus" sPlus
  gTimes : Got K "times" sTimes
  gConst : Got K "constant" sConst
  gWPol : Got K "weight_polynomials" sWPol
  gOPol : Got K "out_polynomials" sOPol
  gLoss : Got K "loss" sLoss
  gLPol : Got K "loss_polynomial" sLPol
  gAt : Got K "at" sAt
  gDraws : Got K "_law_draws" sDraws
  gTake : Got K "_law_take" sTake
  gLPrime : Got K "_law_prime" sLPrime
  gLVec : Got K "_law_vector" sLVec
  gLNet : Got K "_law_net" sLNet
  gLPort : Got K "_law_portion" sLPort
  gLPlus : Got K "_law_plus" sLPlus
  gLTimes : Got K "_law_times" sLTimes
  gThrough : Got K "_law_through" sThrough
  gLPoly : Got K "_law_polynomial" sLPoly
  gLVal : Got K "_law_value" sLVal
  gWith : Got K "_law_with" sWith
  gLaw : Got K "law" sLaw
theorem law_of {P : Program} {w : World} {K : PySem.W.Frag} {mg mb : Str → Option Value} {C fa a : Addr} {s1 : Shared} {vs : List Value} {ns : List Int} (A : AllGot K C) (inK : K.In s1.heap) (hns : s1.heap.Ns mainGlobals mg) (hb : s1.heap.Ns builtinsNs mb)
    (hbb : ∀ x : Str, x ≠ "__name__" → mb x = bootBuiltins x) (hlim : s1.heap.NoLimit) (hg : s1.gens = #[]) (ha : s1.heap.get? a = some { cls := .type "list", data := .seq vs.toArray }) (hi : IntsAre vs ns) (hl : ns.length ≤ 63) (hfa : mg "law" = some (.ref fa)) :
    codeAny (model P w) callerA (.call (.ref fa) ⟨[.ref a], []⟩) (fun r s' => r = .ok (.ret (.bool true)) ∧ OldK s1.heap s'.heap ∧ s'.os = s1.os ∧ AllBare s'.gens) s1 := by
  have T : Txt K mg C := ⟨⟨A.pg, A.hd, A.po, A.sa⟩, A.nP, A.nW, A.nK, PySem.W.mg_of inK hns A.aC, let ⟨t, q⟩ := A.most; ⟨t, PySem.W.mg_of inK hns q⟩, PySem.W.mg_none_of inK hns A.z_sum, PySem.W.mg_none_of inK hns A.z_zip, PySem.W.mg_none_of inK hns A.z_range, PySem.W.mg_none_of inK hns A.z_len, PySem.W.mg_none_of inK hns A.z_tuple, PySem.W.mg_none_of inK hns A.z_list, PySem.W.mg_none_of inK hns A.z_reversed, PySem.W.mg_none_of inK hns A.z_enumerate, PySem.W.mg_none_of inK hns A.z_max, PySem.W.mg_none_of inK hns A.z_int, PySem.W.mg_none_of inK hns A.z_bool, PySem.W.mg_none_of inK hns A.z_abs, PySem.W.mg_none_of inK hns A.z_isinstance, PySem.W.mg_none_of inK hns A.z_repr⟩
  obtain ⟨fBetween, fdBetween, aBetween, FBetween⟩ := A.gBetween.ex
  obtain ⟨fPrime, fdPrime, aPrime, FPrime⟩ := A.gPrime.ex
  obtain ⟨fMatrix, fdMatrix, aMatrix, FMatrix⟩ := A.gMatrix.ex
  obtain ⟨fInit, fdInit, aInit, iInit, FInit⟩ := A.gInit.ex
  obtain ⟨fLen, fdLen, aLen, iLen, FLen⟩ := A.gLen.ex
  obtain ⟨fProduct, fdProduct, aProduct, FProduct⟩ := A.gProduct.ex
  obtain ⟨fLayF, fdLayF, aLayF, FLayF⟩ := A.gLayF.ex
  obtain ⟨fLayB, fdLayB, aLayB, FLayB⟩ := A.gLayB.ex
  obtain ⟨fInputs, fdInputs, aInputs, FInputs⟩ := A.gInputs.ex
  obtain ⟨fForward, fdForward, aForward, FForward⟩ := A.gForward.ex
  obtain ⟨fSlBack, fdSlBack, aSlBack, FSlBack⟩ := A.gSlBack.ex
  obtain ⟨fLossSl, fdLossSl, aLossSl, FLossSl⟩ := A.gLossSl.ex
  obtain ⟨fNoSl, fdNoSl, aNoSl, FNoSl⟩ := A.gNoSl.ex
  obtain ⟨fAdded, fdAdded, aAdded, FAdded⟩ := A.gAdded.ex
  obtain ⟨fPortSl, fdPortSl, aPortSl, FPortSl⟩ := A.gPortSl.ex
  obtain ⟨fTrim, fdTrim, aTrim, FTrim⟩ := A.gTrim.ex
  obtain ⟨fPlus, fdPlus, aPlus, FPlus⟩ := A.gPlus.ex
  obtain ⟨fTimes, fdTimes, aTimes, FTimes⟩ := A.gTimes.ex
  obtain ⟨fConst, fdConst, aConst, FConst⟩ := A.gConst.ex
  obtain ⟨fWPol, fdWPol, aWPol, FWPol⟩ := A.gWPol.ex
  obtain ⟨fOPol, fdOPol, aOPol, FOPol⟩ := A.gOPol.ex
  obtain ⟨fLoss, fdLoss, aLoss, FLoss⟩ := A.gLoss.ex
  obtain ⟨fLPol, fdLPol, aLPol, FLPol⟩ := A.gLPol.ex
  obtain ⟨fAt, fdAt, aAt, FAt⟩ := A.gAt.ex
  obtain ⟨fDraws, fdDraws, aDraws, FDraws⟩ := A.gDraws.ex
  obtain ⟨fTake, fdTake, aTake, FTake⟩ := A.gTake.ex
  obtain ⟨fLPrime, fdLPrime, aLPrime, FLPrime⟩ := A.gLPrime.ex
  obtain ⟨fLVec, fdLVec, aLVec, FLVec⟩ := A.gLVec.ex
  obtain ⟨fLNet, fdLNet, aLNet, FLNet⟩ := A.gLNet.ex
  obtain ⟨fLPort, fdLPort, aLPort, FLPort⟩ := A.gLPort.ex
  obtain ⟨fLPlus, fdLPlus, aLPlus, FLPlus⟩ := A.gLPlus.ex
  obtain ⟨fLTimes, fdLTimes, aLTimes, FLTimes⟩ := A.gLTimes.ex
  obtain ⟨fThrough, fdThrough, aThrough, FThrough⟩ := A.gThrough.ex
  obtain ⟨fLPoly, fdLPoly, aLPoly, FLPoly⟩ := A.gLPoly.ex
  obtain ⟨fLVal, fdLVal, aLVal, FLVal⟩ := A.gLVal.ex
  obtain ⟨fWith, fdWith, aWith, FWith⟩ := A.gWith.ex
  obtain ⟨fLaw, fdLaw, aLaw, FLaw⟩ := A.gLaw.ex
  have bBetween := FBetween.binds (ps := ["value", "least", "most"]) fun _ _ _ _ _ _ us hl => match us, hl with | [_, _, _], _ => rfl
  have bPrime := FPrime.binds (ps := ["value"]) fun _ _ _ _ _ _ us hl => match us, hl with | [_], _ => rfl
  have bMatrix := FMatrix.binds (ps := ["rows"]) fun _ _ _ _ _ _ us hl => match us, hl with | [_], _ => rfl
  have bInit := FInit.binds (ps := ["self", "prime", "weights", "kinds"]) fun _ _ _ _ _ _ us hl => match us, hl with | [_, _, _, _], _ => rfl
  have bLen := FLen.binds (ps := ["self"]) fun _ _ _ _ _ _ us hl => match us, hl with | [_], _ => rfl
  have bProduct := FProduct.binds (ps := ["net", "layer", "vector"]) fun _ _ _ _ _ _ us hl => match us, hl with | [_, _, _], _ => rfl
  have bLayF := FLayF.binds (ps := ["net", "layer", "vector"]) fun _ _ _ _ _ _ us hl => match us, hl with | [_, _, _], _ => rfl
  have bLayB := FLayB.binds (ps := ["net", "layer", "vector", "slopes"]) fun _ _ _ _ _ _ us hl => match us, hl with | [_, _, _, _], _ => rfl
  have bInputs := FInputs.binds (ps := ["net", "vector"]) fun _ _ _ _ _ _ us hl => match us, hl with | [_, _], _ => rfl
  have bForward := FForward.binds (ps := ["net", "vector"]) fun _ _ _ _ _ _ us hl => match us, hl with | [_, _], _ => rfl
  have bSlBack := FSlBack.binds (ps := ["net", "inputs", "slopes"]) fun _ _ _ _ _ _ us hl => match us, hl with | [_, _, _], _ => rfl
  have bLossSl := FLossSl.binds (ps := ["net", "out", "target"]) fun _ _ _ _ _ _ us hl => match us, hl with | [_, _, _], _ => rfl
  have bNoSl := FNoSl.binds (ps := ["net"]) fun _ _ _ _ _ _ us hl => match us, hl with | [_], _ => rfl
  have bAdded := FAdded.binds (ps := ["net", "one", "other", "times"]) fun _ _ _ _ _ _ us hl => match us, hl with | [_, _, _, _], _ => rfl
  have bPortSl := FPortSl.binds (ps := ["net", "portion"]) fun _ _ _ _ _ _ us hl => match us, hl with | [_, _], _ => rfl
  have bTrim := FTrim.binds (ps := ["numbers"]) fun _ _ _ _ _ _ us hl => match us, hl with | [_], _ => rfl
  have bPlus := FPlus.binds (ps := ["net", "one", "two"]) fun _ _ _ _ _ _ us hl => match us, hl with | [_, _, _], _ => rfl
  have bTimes := FTimes.binds (ps := ["net", "one", "two"]) fun _ _ _ _ _ _ us hl => match us, hl with | [_, _, _], _ => rfl
  have bConst := FConst.binds (ps := ["net", "number"]) fun _ _ _ _ _ _ us hl => match us, hl with | [_, _], _ => rfl
  have bWPol := FWPol.binds (ps := ["net", "place"]) fun _ _ _ _ _ _ us hl => match us, hl with | [_, _], _ => rfl
  have bOPol := FOPol.binds (ps := ["net", "matrices", "vector"]) fun _ _ _ _ _ _ us hl => match us, hl with | [_, _, _], _ => rfl
  have bLoss := FLoss.binds (ps := ["net", "batch"]) fun _ _ _ _ _ _ us hl => match us, hl with | [_, _], _ => rfl
  have bLPol := FLPol.binds (ps := ["net", "batch", "layer", "i", "k"]) fun _ _ _ _ _ _ us hl => match us, hl with | [_, _, _, _, _], _ => rfl
  have bAt := FAt.binds (ps := ["net", "polynomial", "number"]) fun _ _ _ _ _ _ us hl => match us, hl with | [_, _, _], _ => rfl
  have bDraws := FDraws.binds (ps := ["_law_script", "_law_many"]) fun _ _ _ _ _ _ us hl => match us, hl with | [_, _], _ => rfl
  have bTake := FTake.binds (ps := ["_law_hand", "_law_many"]) fun _ _ _ _ _ _ us hl => match us, hl with | [_, _], _ => rfl
  have bLPrime := FLPrime.binds (ps := ["_law_hand"]) fun _ _ _ _ _ _ us hl => match us, hl with | [_], _ => rfl
  have bLVec := FLVec.binds (ps := ["_law_hand", "_law_prime_here", "_law_width"]) fun _ _ _ _ _ _ us hl => match us, hl with | [_, _, _], _ => rfl
  have bLNet := FLNet.binds (ps := ["_law_hand", "_law_most"]) fun _ _ _ _ _ _ us hl => match us, hl with | [_, _], _ => rfl
  have bLPort := FLPort.binds (ps := ["_law_hand", "_law_prime_here", "_law_width", "_law_most"]) fun _ _ _ _ _ _ us hl => match us, hl with | [_, _, _, _], _ => rfl
  have bLPlus := FLPlus.binds (ps := ["_law_one", "_law_other", "_law_prime_here"]) fun _ _ _ _ _ _ us hl => match us, hl with | [_, _, _], _ => rfl
  have bLTimes := FLTimes.binds (ps := ["_law_one", "_law_other", "_law_prime_here"]) fun _ _ _ _ _ _ us hl => match us, hl with | [_, _, _], _ => rfl
  have bThrough := FThrough.binds (ps := ["_law_net_here", "_law_chosen", "_law_vector_here"]) fun _ _ _ _ _ _ us hl => match us, hl with | [_, _, _], _ => rfl
  have bLPoly := FLPoly.binds (ps := ["_law_net_here", "_law_batch", "_law_chosen"]) fun _ _ _ _ _ _ us hl => match us, hl with | [_, _, _], _ => rfl
  have bLVal := FLVal.binds (ps := ["_law_polynomial_here", "_law_number", "_law_prime_here"]) fun _ _ _ _ _ _ us hl => match us, hl with | [_, _, _], _ => rfl
  have bWith := FWith.binds (ps := ["_law_net_here", "_law_chosen", "_law_number"]) fun _ _ _ _ _ _ us hl => match us, hl with | [_, _, _], _ => rfl
  have kwAt : ∀ (s : Shared) (ws : List Value), ws.length = (["net", "polynomial", "number"] : List Str).length → BindsTo s fdAt ⟨[], List.zip (["net", "polynomial", "number"] : List Str) ws⟩ (List.zip (["net", "polynomial", "number"] : List Str) ws) := by
    obtain ⟨oc, od, kV, doc, pm, an, cdv, ct, osl, rfl, _, _⟩ := FAt.ex
    exact fun s ws hl => match ws, hl with | [_, _, _], _ => .of_eq rfl
  have kwLoss : ∀ (s : Shared) (ws : List Value), ws.length = (["net", "batch"] : List Str).length → BindsTo s fdLoss ⟨[], List.zip (["net", "batch"] : List Str) ws⟩ (List.zip (["net", "batch"] : List Str) ws) := by
    obtain ⟨oc, od, kV, doc, pm, an, cdv, ct, osl, rfl, _, _⟩ := FLoss.ex
    exact fun s ws hl => match ws, hl with | [_, _], _ => .of_eq rfl
  have kwLPol : ∀ (s : Shared) (ws : List Value), ws.length = (["net", "batch", "layer", "i", "k"] : List Str).length → BindsTo s fdLPol ⟨[], List.zip (["net", "batch", "layer", "i", "k"] : List Str) ws⟩ (List.zip (["net", "batch", "layer", "i", "k"] : List Str) ws) := by
    obtain ⟨oc, od, kV, doc, pm, an, cdv, ct, osl, rfl, _, _⟩ := FLPol.ex
    exact fun s ws hl => match ws, hl with | [_, _, _, _, _], _ => .of_eq rfl
  have e := hfa.symm.trans (PySem.W.mg_of inK hns aLaw)
  cases e
  refine run_law inK hns hb hbb hlim hg ha hi hl FLaw scLaw (fun s u => ?_) fun base s H s0 cdv kb nb hS => ?_
  · obtain ⟨oc, od, kV, doc, pm, an, cdv, ct, osl, rfl, _, _⟩ := FLaw.ex
    exact .of_eq rfl
  have oBetween : FnOk P w K mg base CX0 1 fBetween fdBetween ["value", "least", "most"] (spBetween) := ok_Between FBetween T
  have cBetween : Cal P w K mg base "is_between" 1 ["value", "least", "most"] (spBetween) := ⟨fBetween, fdBetween, oBetween, PySem.W.mg_of inK hns aBetween, FBetween.kp, bBetween⟩
  have oPrime : FnOk P w K mg base CX0 2 fPrime fdPrime ["value"] (spPrime) := ok_Prime FPrime T cBetween
  have cPrime : Cal P w K mg base "is_prime" 2 ["value"] (spPrime) := ⟨fPrime, fdPrime, oPrime, PySem.W.mg_of inK hns aPrime, FPrime.kp, bPrime⟩
  have oMatrix : FnOk P w K mg base CX0 1 fMatrix fdMatrix ["rows"] (spMatrix) := ok_Matrix FMatrix T
  have cMatrix : Cal P w K mg base "as_matrix" 1 ["rows"] (spMatrix) := ⟨fMatrix, fdMatrix, oMatrix, PySem.W.mg_of inK hns aMatrix, FMatrix.kp, bMatrix⟩
  have oInit : FnOk P w K mg base CX0 3 fInit fdInit ["self", "prime", "weights", "kinds"] (spInit C) := ok_Init FInit T cPrime cMatrix
  have oLen : FnOk P w K mg base CX0 1 fLen fdLen ["self"] (spLen C) := ok_Len FLen T
  have oProduct : FnOk P w K mg base CX0 1 fProduct fdProduct ["net", "layer", "vector"] (spProduct C) := ok_Product FProduct T
  have cProduct : Cal P w K mg base "product" 1 ["net", "layer", "vector"] (spProduct C) := ⟨fProduct, fdProduct, oProduct, PySem.W.mg_of inK hns aProduct, FProduct.kp, bProduct⟩
  have oLayF : FnOk P w K mg base CX0 2 fLayF fdLayF ["net", "layer", "vector"] (spLayF C) := ok_LayF FLayF T cProduct
  have cLayF : Cal P w K mg base "layer_forward" 2 ["net", "layer", "vector"] (spLayF C) := ⟨fLayF, fdLayF, oLayF, PySem.W.mg_of inK hns aLayF, FLayF.kp, bLayF⟩
  have oLayB : FnOk P w K mg base CX0 2 fLayB fdLayB ["net", "layer", "vector", "slopes"] (spLayB C) := ok_LayB FLayB T cProduct
  have cLayB : Cal P w K mg base "layer_back" 2 ["net", "layer", "vector", "slopes"] (spLayB C) := ⟨fLayB, fdLayB, oLayB, PySem.W.mg_of inK hns aLayB, FLayB.kp, bLayB⟩
  have oInputs : FnOk P w K mg base CX0 3 fInputs fdInputs ["net", "vector"] (spInputs C) := ok_Inputs FInputs T cLayF ⟨aLen, iLen⟩ oLen bLen
  have cInputs : Cal P w K mg base "layer_inputs" 3 ["net", "vector"] (spInputs C) := ⟨fInputs, fdInputs, oInputs, PySem.W.mg_of inK hns aInputs, FInputs.kp, bInputs⟩
  have oForward : FnOk P w K mg base CX0 4 fForward fdForward ["net", "vector"] (spForward C) := ok_Forward FForward T cInputs
  have cForward : Cal P w K mg base "forward" 4 ["net", "vector"] (spForward C) := ⟨fForward, fdForward, oForward, PySem.W.mg_of inK hns aForward, FForward.kp, bForward⟩
  have oSlBack : FnOk P w K mg base CX0 3 fSlBack fdSlBack ["net", "inputs", "slopes"] (spSlBack C) := ok_SlBack FSlBack T cLayB ⟨aLen, iLen⟩ oLen bLen
  have cSlBack : Cal P w K mg base "slopes_back" 3 ["net", "inputs", "slopes"] (spSlBack C) := ⟨fSlBack, fdSlBack, oSlBack, PySem.W.mg_of inK hns aSlBack, FSlBack.kp, bSlBack⟩
  have oLossSl : FnOk P w K mg base CX0 1 fLossSl fdLossSl ["net", "out", "target"] (spLossSl C) := ok_LossSl FLossSl T
  have cLossSl : Cal P w K mg base "loss_slopes" 1 ["net", "out", "target"] (spLossSl C) := ⟨fLossSl, fdLossSl, oLossSl, PySem.W.mg_of inK hns aLossSl, FLossSl.kp, bLossSl⟩
  have oNoSl : FnOk P w K mg base CX0 1 fNoSl fdNoSl ["net"] (spNoSl C) := ok_NoSl FNoSl T
  have cNoSl : Cal P w K mg base "no_slopes" 1 ["net"] (spNoSl C) := ⟨fNoSl, fdNoSl, oNoSl, PySem.W.mg_of inK hns aNoSl, FNoSl.kp, bNoSl⟩
  have oAdded : FnOk P w K mg base CX0 1 fAdded fdAdded ["net", "one", "other", "times"] (spAdded C) := ok_Added FAdded T
  have cAdded : Cal P w K mg base "added" 1 ["net", "one", "other", "times"] (spAdded C) := ⟨fAdded, fdAdded, oAdded, PySem.W.mg_of inK hns aAdded, FAdded.kp, bAdded⟩
  have oPortSl : FnOk P w K mg base CX0 4 fPortSl fdPortSl ["net", "portion"] (spPortSl C) := ok_PortSl FPortSl T cNoSl cInputs cSlBack cLossSl cAdded
  have cPortSl : Cal P w K mg base "portion_slopes" 4 ["net", "portion"] (spPortSl C) := ⟨fPortSl, fdPortSl, oPortSl, PySem.W.mg_of inK hns aPortSl, FPortSl.kp, bPortSl⟩
  have oTrim : FnOk P w K mg base CX0 1 fTrim fdTrim ["numbers"] (spTrim K) := ok_Trim FTrim T
  have cTrim : Cal P w K mg base "trimmed" 1 ["numbers"] (spTrim K) := ⟨fTrim, fdTrim, oTrim, PySem.W.mg_of inK hns aTrim, FTrim.kp, bTrim⟩
  have oPlus : FnOk P w K mg base CX0 2 fPlus fdPlus ["net", "one", "two"] (spPlus C) := ok_Plus FPlus T cTrim
  have cPlus : Cal P w K mg base "plus" 2 ["net", "one", "two"] (spPlus C) := ⟨fPlus, fdPlus, oPlus, PySem.W.mg_of inK hns aPlus, FPlus.kp, bPlus⟩
  have oTimes : FnOk P w K mg base CX0 2 fTimes fdTimes ["net", "one", "two"] (spTimes C) := ok_Times FTimes T cTrim
  have cTimes : Cal P w K mg base "times" 2 ["net", "one", "two"] (spTimes C) := ⟨fTimes, fdTimes, oTimes, PySem.W.mg_of inK hns aTimes, FTimes.kp, bTimes⟩
  have oConst : FnOk P w K mg base CX0 2 fConst fdConst ["net", "number"] (spConst C) := ok_Const FConst T cTrim
  have cConst : Cal P w K mg base "constant" 2 ["net", "number"] (spConst C) := ⟨fConst, fdConst, oConst, PySem.W.mg_of inK hns aConst, FConst.kp, bConst⟩
  have oWPol : FnOk P w K mg base CX0 3 fWPol fdWPol ["net", "place"] (spWPol C) := ok_WPol FWPol T cTrim cConst
  have cWPol : Cal P w K mg base "weight_polynomials" 3 ["net", "place"] (spWPol C) := ⟨fWPol, fdWPol, oWPol, PySem.W.mg_of inK hns aWPol, FWPol.kp, bWPol⟩
  have oOPol : FnOk P w K mg base CX0 3 fOPol fdOPol ["net", "matrices", "vector"] (spOPol C) := ok_OPol FOPol T cConst cPlus cTimes
  have cOPol : Cal P w K mg base "out_polynomials" 3 ["net", "matrices", "vector"] (spOPol C) := ⟨fOPol, fdOPol, oOPol, PySem.W.mg_of inK hns aOPol, FOPol.kp, bOPol⟩
  have oLoss : FnOk P w K mg base CX0 5 fLoss fdLoss ["net", "batch"] (spLoss C) := ok_Loss FLoss T cForward
  have cLoss : Cal P w K mg base "loss" 5 ["net", "batch"] (spLoss C) := ⟨fLoss, fdLoss, oLoss, PySem.W.mg_of inK hns aLoss, FLoss.kp, bLoss⟩
  have ckLoss : CalK P w K mg base "loss" 5 ["net", "batch"] (spLoss C) := ⟨fLoss, fdLoss, oLoss, PySem.W.mg_of inK hns aLoss, FLoss.kp, bLoss, kwLoss⟩
  have oLPol : FnOk P w K mg base CX0 4 fLPol fdLPol ["net", "batch", "layer", "i", "k"] (spLPol C) := ok_LPol FLPol T cWPol cOPol cConst cPlus cTimes
  have cLPol : Cal P w K mg base "loss_polynomial" 4 ["net", "batch", "layer", "i", "k"] (spLPol C) := ⟨fLPol, fdLPol, oLPol, PySem.W.mg_of inK hns aLPol, FLPol.kp, bLPol⟩
  have ckLPol : CalK P w K mg base "loss_polynomial" 4 ["net", "batch", "layer", "i", "k"] (spLPol C) := ⟨fLPol, fdLPol, oLPol, PySem.W.mg_of inK hns aLPol, FLPol.kp, bLPol, kwLPol⟩
  have oAt : FnOk P w K mg base CX0 1 fAt fdAt ["net", "polynomial", "number"] (spAt C) := ok_At FAt T
  have cAt : Cal P w K mg base "at" 1 ["net", "polynomial", "number"] (spAt C) := ⟨fAt, fdAt, oAt, PySem.W.mg_of inK hns aAt, FAt.kp, bAt⟩
  have ckAt : CalK P w K mg base "at" 1 ["net", "polynomial", "number"] (spAt C) := ⟨fAt, fdAt, oAt, PySem.W.mg_of inK hns aAt, FAt.kp, bAt, kwAt⟩
  have oDraws : FnOk P w K mg base CX0 1 fDraws fdDraws ["_law_script", "_law_many"] (spDraws K) := ok_Draws FDraws T
  have cDraws : Cal P w K mg base "_law_draws" 1 ["_law_script", "_law_many"] (spDraws K) := ⟨fDraws, fdDraws, oDraws, PySem.W.mg_of inK hns aDraws, FDraws.kp, bDraws⟩
  have oTake : FnOk P w K mg base CX0 1 fTake fdTake ["_law_hand", "_law_many"] (spTake) := ok_Take FTake T
  have cTake : Cal P w K mg base "_law_take" 1 ["_law_hand", "_law_many"] (spTake) := ⟨fTake, fdTake, oTake, PySem.W.mg_of inK hns aTake, FTake.kp, bTake⟩
  have oLPrime : FnOk P w K mg base CX0 2 fLPrime fdLPrime ["_law_hand"] (spLPrime) := ok_LPrime FLPrime T cTake
  have cLPrime : Cal P w K mg base "_law_prime" 2 ["_law_hand"] (spLPrime) := ⟨fLPrime, fdLPrime, oLPrime, PySem.W.mg_of inK hns aLPrime, FLPrime.kp, bLPrime⟩
  have oLVec : FnOk P w K mg base CX0 2 fLVec fdLVec ["_law_hand", "_law_prime_here", "_law_width"] (spLVec) := ok_LVec FLVec T cTake
  have cLVec : Cal P w K mg base "_law_vector" 2 ["_law_hand", "_law_prime_here", "_law_width"] (spLVec) := ⟨fLVec, fdLVec, oLVec, PySem.W.mg_of inK hns aLVec, FLVec.kp, bLVec⟩
  have oLNet : FnOk P w K mg base CX0 3 fLNet fdLNet ["_law_hand", "_law_most"] (spLNet) := ok_LNet FLNet T cTake cLPrime cLVec
  have cLNet : Cal P w K mg base "_law_net" 3 ["_law_hand", "_law_most"] (spLNet) := ⟨fLNet, fdLNet, oLNet, PySem.W.mg_of inK hns aLNet, FLNet.kp, bLNet⟩
  have oLPort : FnOk P w K mg base CX0 3 fLPort fdLPort ["_law_hand", "_law_prime_here", "_law_width", "_law_most"] (spLPort) := ok_LPort FLPort T cTake cLVec
  have cLPort : Cal P w K mg base "_law_portion" 3 ["_law_hand", "_law_prime_here", "_law_width", "_law_most"] (spLPort) := ⟨fLPort, fdLPort, oLPort, PySem.W.mg_of inK hns aLPort, FLPort.kp, bLPort⟩
  have oLPlus : FnOk P w K mg base CX0 1 fLPlus fdLPlus ["_law_one", "_law_other", "_law_prime_here"] (spLPlus) := ok_LPlus FLPlus T
  have cLPlus : Cal P w K mg base "_law_plus" 1 ["_law_one", "_law_other", "_law_prime_here"] (spLPlus) := ⟨fLPlus, fdLPlus, oLPlus, PySem.W.mg_of inK hns aLPlus, FLPlus.kp, bLPlus⟩
  have oLTimes : FnOk P w K mg base CX0 1 fLTimes fdLTimes ["_law_one", "_law_other", "_law_prime_here"] (spLTimes) := ok_LTimes FLTimes T
  have cLTimes : Cal P w K mg base "_law_times" 1 ["_law_one", "_law_other", "_law_prime_here"] (spLTimes) := ⟨fLTimes, fdLTimes, oLTimes, PySem.W.mg_of inK hns aLTimes, FLTimes.kp, bLTimes⟩
  have oThrough : FnOk P w K mg base CX0 2 fThrough fdThrough ["_law_net_here", "_law_chosen", "_law_vector_here"] (spThrough) := ok_Through FThrough T cLPlus cLTimes
  have cThrough : Cal P w K mg base "_law_through" 2 ["_law_net_here", "_law_chosen", "_law_vector_here"] (spThrough) := ⟨fThrough, fdThrough, oThrough, PySem.W.mg_of inK hns aThrough, FThrough.kp, bThrough⟩
  have oLPoly : FnOk P w K mg base CX0 3 fLPoly fdLPoly ["_law_net_here", "_law_batch", "_law_chosen"] (spLPoly) := ok_LPoly FLPoly T cLPlus cLTimes cThrough
  have cLPoly : Cal P w K mg base "_law_polynomial" 3 ["_law_net_here", "_law_batch", "_law_chosen"] (spLPoly) := ⟨fLPoly, fdLPoly, oLPoly, PySem.W.mg_of inK hns aLPoly, FLPoly.kp, bLPoly⟩
  have oLVal : FnOk P w K mg base CX0 1 fLVal fdLVal ["_law_polynomial_here", "_law_number", "_law_prime_here"] (spLVal) := ok_LVal FLVal T
  have cLVal : Cal P w K mg base "_law_value" 1 ["_law_polynomial_here", "_law_number", "_law_prime_here"] (spLVal) := ⟨fLVal, fdLVal, oLVal, PySem.W.mg_of inK hns aLVal, FLVal.kp, bLVal⟩
  have oWith : FnOk P w K mg base CX0 5 fWith fdWith ["_law_net_here", "_law_chosen", "_law_number"] (spWith C) := ok_With FWith T ⟨A.mks, aInit, iInit, A.kc⟩ oInit bInit
  have cWith : Cal P w K mg base "_law_with" 5 ["_law_net_here", "_law_chosen", "_law_number"] (spWith C) := ⟨fWith, fdWith, oWith, PySem.W.mg_of inK hns aWith, FWith.kp, bWith⟩
  exact body_Law T cDraws cTake cLNet cLPort cLPoly cLVal cWith cPortSl ckLPol ckLoss ckAt ⟨A.mks, aInit, iInit, A.kc⟩ oInit bInit hS hl plain_all (room8.deeper _)
theorem walk55 {l : PySem.W.OpenLaw} {q : Program} {loose : List Str} {XP : (Str → Option Value) → Heap → Prop} {YP : World → Heap → Prop} {d : DefRec} {K : Params → PySem.W.Frag} (hn : l.most = some 63) (hdf : d.params.defaults = []) (hname : d.name = "law")
    (hY : ∀ (w : World) (h : Heap), YP w h → (K w.params).In h) (facts : ∀ w : World, ∃ C, AllGot (K w.params) C) : PySem.W.WalkO q loose XP YP l.row.toRowW d [] (fun f vs => PySem.call f vs) := by
  refine Att.attach_call hn hdf fun w s₀ s₁ mg mb fa o pm cd doc a vs ns G Y ho hd hcd hmg hobj hints hlen hg => ?_
  obtain ⟨C, A⟩ := facts w
  rw [hname] at hmg
  exact law_of A (hY w _ Y) G.T.g G.T.b G.T.builtins G.T.nolimit hg hobj hints hlen hmg
end K55

open PySem PySem.W PyProof.Rows
set_option maxRecDepth 100000 in
set_option maxHeartbeats 0 in
theorem PySem.Challenge.cw_stagesfull_k55_whole_polynomials_holds : PySem.Challenge.rw_stagesfull_k55_whole_polynomials.Holds := by
  w_on; o_law; k_head; (case hw => w_witness2)
  k_fill
  refine K55.walk55 (l := PySem.Challenge.rw_stagesfull_k55_whole_polynomials) rfl rfl rfl (fun w h Y => PySem.W.kIn_of Y) ?F
  case F =>
    intro w
    refine' ⟨_, ⟨?aC, ?pg, ?hd, ?po, ?sa, ?mks, ?kc, ?nP, ?nW, ?nK, ?most, ?z_sum, ?z_zip, ?z_range, ?z_len, ?z_tuple, ?z_list, ?z_reversed, ?z_enumerate, ?z_max, ?z_int, ?z_bool, ?z_abs, ?z_isinstance, ?z_repr, ?gBetween, ?gPrime, ?gMatrix, ?gInit, ?gLen, ?gProduct, ?gLayF, ?gLayB, ?gInputs, ?gForward, ?gSlBack, ?gLossSl, ?gNoSl, ?gAdded, ?gPortSl, ?gTrim, ?gPlus, ?gTimes, ?gConst, ?gWPol, ?gOPol, ?gLoss, ?gLPol, ?gAt, ?gDraws, ?gTake, ?gLPrime, ?gLVec, ?gLNet, ?gLPort, ?gLPlus, ?gLTimes, ?gThrough, ?gLPoly, ?gLVal, ?gWith, ?gLaw⟩⟩
    (case aC => k_is)
    (case pg => k_is)
    (case hd => k_is)
    (case po => k_is)
    (case sa => k_is)
    (case mks => k_is)
    (case kc => k_is)
    (case nP => k_is)
    (case nW => k_is)
    (case nK => k_is)
    (case most => refine' K55.most_mk ?m; (case m => k_is))
    (case z_sum => k_is)
    (case z_zip => k_is)
    (case z_range => k_is)
    (case z_len => k_is)
    (case z_tuple => k_is)
    (case z_list => k_is)
    (case z_reversed => k_is)
    (case z_enumerate => k_is)
    (case z_max => k_is)
    (case z_int => k_is)
    (case z_bool => k_is)
    (case z_abs => k_is)
    (case z_isinstance => k_is)
    (case z_repr => k_is)
    (case gBetween => refine' K55.got_mk ?a ?l ?c ?k; (case a => k_is); (case l => k_is); (case c => k_is); (case k => k_is))
    (case gPrime => refine' K55.got_mk ?a ?l ?c ?k; (case a => k_is); (case l => k_is); (case c => k_is); (case k => k_is))
    (case gMatrix => refine' K55.got_mk ?a ?l ?c ?k; (case a => k_is); (case l => k_is); (case c => k_is); (case k => k_is))
    (case gInit => refine' K55.gotm_mk ?a ?i ?l ?c ?k; (case a => k_is); (case i => k_is); (case l => k_is); (case c => k_is); (case k => k_is))
    (case gLen => refine' K55.gotm_mk ?a ?i ?l ?c ?k; (case a => k_is); (case i => k_is); (case l => k_is); (case c => k_is); (case k => k_is))
    (case gProduct => refine' K55.got_mk ?a ?l ?c ?k; (case a => k_is); (case l => k_is); (case c => k_is); (case k => k_is))
    (case gLayF => refine' K55.got_mk ?a ?l ?c ?k; (case a => k_is); (case l => k_is); (case c => k_is); (case k => k_is))
    (case gLayB => refine' K55.got_mk ?a ?l ?c ?k; (case a => k_is); (case l => k_is); (case c => k_is); (case k => k_is))
    (case gInputs => refine' K55.got_mk ?a ?l ?c ?k; (case a => k_is); (case l => k_is); (case c => k_is); (case k => k_is))
    (case gForward => refine' K55.got_mk ?a ?l ?c ?k; (case a => k_is); (case l => k_is); (case c => k_is); (case k => k_is))
    (case gSlBack => refine' K55.got_mk ?a ?l ?c ?k; (case a => k_is); (case l => k_is); (case c => k_is); (case k => k_is))
    (case gLossSl => refine' K55.got_mk ?a ?l ?c ?k; (case a => k_is); (case l => k_is); (case c => k_is); (case k => k_is))
    (case gNoSl => refine' K55.got_mk ?a ?l ?c ?k; (case a => k_is); (case l => k_is); (case c => k_is); (case k => k_is))
    (case gAdded => refine' K55.got_mk ?a ?l ?c ?k; (case a => k_is); (case l => k_is); (case c => k_is); (case k => k_is))
    (case gPortSl => refine' K55.got_mk ?a ?l ?c ?k; (case a => k_is); (case l => k_is); (case c => k_is); (case k => k_is))
    (case gTrim => refine' K55.got_mk ?a ?l ?c ?k; (case a => k_is); (case l => k_is); (case c => k_is); (case k => k_is))
    (case gPlus => refine' K55.got_mk ?a ?l ?c ?k; (case a => k_is); (case l => k_is); (case c => k_is); (case k => k_is))
    (case gTimes => refine' K55.got_mk ?a ?l ?c ?k; (case a => k_is); (case l => k_is); (case c => k_is); (case k => k_is))
    (case gConst => refine' K55.got_mk ?a ?l ?c ?k; (case a => k_is); (case l => k_is); (case c => k_is); (case k => k_is))
    (case gWPol => refine' K55.got_mk ?a ?l ?c ?k; (case a => k_is); (case l => k_is); (case c => k_is); (case k => k_is))
    (case gOPol => refine' K55.got_mk ?a ?l ?c ?k; (case a => k_is); (case l => k_is); (case c => k_is); (case k => k_is))
    (case gLoss => refine' K55.got_mk ?a ?l ?c ?k; (case a => k_is); (case l => k_is); (case c => k_is); (case k => k_is))
    (case gLPol => refine' K55.got_mk ?a ?l ?c ?k; (case a => k_is); (case l => k_is); (case c => k_is); (case k => k_is))
    (case gAt => refine' K55.got_mk ?a ?l ?c ?k; (case a => k_is); (case l => k_is); (case c => k_is); (case k => k_is))
    (case gDraws => refine' K55.got_mk ?a ?l ?c ?k; (case a => k_is); (case l => k_is); (case c => k_is); (case k => k_is))
    (case gTake => refine' K55.got_mk ?a ?l ?c ?k; (case a => k_is); (case l => k_is); (case c => k_is); (case k => k_is))
    (case gLPrime => refine' K55.got_mk ?a ?l ?c ?k; (case a => k_is); (case l => k_is); (case c => k_is); (case k => k_is))
    (case gLVec => refine' K55.got_mk ?a ?l ?c ?k; (case a => k_is); (case l => k_is); (case c => k_is); (case k => k_is))
    (case gLNet => refine' K55.got_mk ?a ?l ?c ?k; (case a => k_is); (case l => k_is); (case c => k_is); (case k => k_is))
    (case gLPort => refine' K55.got_mk ?a ?l ?c ?k; (case a => k_is); (case l => k_is); (case c => k_is); (case k => k_is))
    (case gLPlus => refine' K55.got_mk ?a ?l ?c ?k; (case a => k_is); (case l => k_is); (case c => k_is); (case k => k_is))
    (case gLTimes => refine' K55.got_mk ?a ?l ?c ?k; (case a => k_is); (case l => k_is); (case c => k_is); (case k => k_is))
    (case gThrough => refine' K55.got_mk ?a ?l ?c ?k; (case a => k_is); (case l => k_is); (case c => k_is); (case k => k_is))
    (case gLPoly => refine' K55.got_mk ?a ?l ?c ?k; (case a => k_is); (case l => k_is); (case c => k_is); (case k => k_is))
    (case gLVal => refine' K55.got_mk ?a ?l ?c ?k; (case a => k_is); (case l => k_is); (case c => k_is); (case k => k_is))
    (case gWith => refine' K55.got_mk ?a ?l ?c ?k; (case a => k_is); (case l => k_is); (case c => k_is); (case k => k_is))
    (case gLaw => refine' K55.got_mk ?a ?l ?c ?k; (case a => k_is); (case l => k_is); (case c => k_is); (case k => k_is))
