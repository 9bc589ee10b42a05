import PyProof.Rows.All
import Wide.All
import OpenK.AllK
import Wide.FinOn
import KE.GoesMore
import KE.GoesEnum
import HandS.Iter
import HandS.Zip
import HandS.ForExc
import HandS.CallSlots
import HandS.IsInst
import HandS.Comp
import HandS.Rev
import HandS.Conv
import HandS.Style
import HandS.TupAny
import HandS.Deep
import HandS.Flow
import HandS.SortInts
import HandS.Property
import HandS.Walk
import HandS.Defaults
import HandS.HeadEnd
import HandS.HeadHook2
import HandS.HeadHook4
import HandS.Head0
import HandS.Head1
import HandS.Head2
import KE.OsArith
import HandS.WideBits
import KE.BitLaws
import PyProof.P3Eq
import PySem.Challenge.RW_truealarms_k05_whole_next_and_back_lots
set_option Elab.async false
set_option linter.all false
set_option maxRecDepth 100000
set_option maxHeartbeats 0
/-! enumerate over a tuple -/
namespace Mp
open PySem PySem.Spec PyProof.Rows L2
theorem meets_en1 {v : Value} {o : Obj} {H : Heap → Prop} (B : Begins v o H) :
    Meets (Builtin.«enumerate.__new__» ⟨[.type "enumerate", v], []⟩) (fun _ R s => H s.heap ∧
      R (.ok (.ret (.ref (s.heap.push o).objs.size))) { s with heap := (s.heap.push o).push { cls := .type "enumerate", data := .fields #[.none, .bool false, .ref s.heap.objs.size, rawInt 0, .none, .none] } }) :=
  .of_wp fun prog w A R s h => by
    obtain ⟨hp, gs, dr, tk, os⟩ := s
    obtain ⟨hv, hr⟩ := h
    have hsub := sub_enumerate
    have it1 : ∀ {A2 : Around} {E Q : Value → Shared → Prop}, Q (.ref hp.objs.size) ⟨hp.push o, gs, dr, tk, os⟩ → wpAny (model prog w) A2 (pyIter v) Q E ⟨hp, gs, dr, tk, os⟩ :=
      fun z => B.iter prog w _ _ ⟨hp, gs, dr, tk, os⟩ _ hv z
    wp_walk using it1
    refine wpAny_stack_any fun _ => wpAny_pure ?_
    split
    · rename_i k _ _ _ _ _
      cases (k == Value.type "enumerate") <;> (wp_walk using it1; exact ⟨_, rfl, hr⟩)
    · wp_walk using it1
      exact ⟨_, rfl, hr⟩
theorem call_en1 {prog : Program} {w : World} {A : Around} {E : Value → Shared → Prop} {s : Shared} {v : Value} {o : Obj} {H : Heap → Prop} {Q : Value → Shared → Prop} (B : Begins v o H) (hv : H s.heap)
    (h : ∀ h', IsEnum h' (s.heap.objs.size + 1) s.heap.objs.size 0 .none → h'.get? s.heap.objs.size = some o → (∀ b u, s.heap.get? b = some u → h'.get? b = some u) → Q (.ref (s.heap.objs.size + 1)) { s with heap := h' }) :
    wpAny (model prog w) A (call (.type "enumerate") [v]) Q E s := by
  refine callType_new F.called_enumerate (by decide) (F.typeCall_enumerate_1 _) (F.newCall_enumerate_1 _) (fun u => F.args_object_init_2 u _) F.entry_enumerate_new (meets_en1 B) ⟨hv, ?_⟩
  have hz : (s.heap.push o).objs.size = s.heap.objs.size + 1 := Heap.size_push ..
  show _ ∧ _
  rw [hz]
  have he := Heap.get?_push_size (s.heap.push o) (o := { cls := .type "enumerate", data := .fields #[.none, .bool false, .ref s.heap.objs.size, rawInt 0, .none, .none] }) rfl
  rw [hz] at he
  exact ⟨⟨_, he, rfl⟩, h _ he (Heap.get?_push_of_some _ (Heap.get?_push_size _ B.free)) fun b u x => Heap.get?_push_of_some _ (Heap.get?_push_of_some _ x)⟩
/-- the tuple at a, each item in a new pair -/
def ItT (K : PySem.W.Frag) (a : Addr) : It where
  go i H := ∃ (xs : List V) (x : V), SqT K H a xs ∧ xs[i]? = some x
  yld i H v H' := ∃ T x, v = .ref T ∧ H T = none ∧ H' = upd H T (.tup [.int (i : Nat), x]) ∧ ∀ xs, SqT K H a xs → xs[i]? = some x
  stop i H := ∃ xs : List V, SqT K H a xs ∧ xs.length ≤ i
theorem turn_ent {P : Program} {w : World} {K : PySem.W.Frag} {elts : List Expr} {kk : Nat} {tpos : Pos} (a e it : Addr) :
    Turn P w K (.Tuple elts kk tpos) (ItT K a) [e, it] e (fun i h => (∃ old, IsEnum h e it ((i : Nat) : Int) old) ∧ h.IsTupleIter it a i ∧ e ≠ it) where
  mem := List.mem_cons_self ..
  obj := fun i h st b hb => by
    obtain ⟨⟨old, he⟩, ⟨o, ho, hc, hd⟩, _⟩ := st
    rcases List.mem_cons.mp hb with z | z
    · subst z; exact ⟨_, he, fun v q => nomatch q⟩
    · cases List.mem_singleton.mp z
      exact ⟨o, ho, fun v q => by rw [hd] at q; cases q⟩
  keep := fun i h h' ⟨⟨old, he⟩, hi, hne⟩ k => ⟨⟨old, k e (List.mem_cons_self ..) _ he⟩, hi.at fun o q => k it (List.mem_cons_of_mem _ (List.mem_cons_self ..)) o q, hne⟩
  item := by
    intro X hP hw hK hc i pins s σ H E I hf ⟨⟨old, he⟩, hit, hne⟩ ⟨xs, x, hq, hx⟩
    subst hP hw hK
    obtain ⟨its, rv, p, hz⟩ := I.tuple hq
    obtain ⟨u, hu, ru⟩ := rv.get hx
    have hel : e < s.heap.objs.size := Heap.lt_size he
    have hil : it < s.heap.objs.size := by obtain ⟨_, q, _⟩ := hit; exact Heap.lt_size q
    have ait : a ≠ it := fun z => by
      obtain ⟨o1, q1, q2, _⟩ := hit
      obtain ⟨o2, q3, q4, _⟩ := p
      rw [z, q1] at q3
      cases q3
      rw [q2] at q4
      exact absurd q4 (by decide)
    have aen : e ≠ a := fun z => by
      obtain ⟨o2, q3, q4, _⟩ := p
      rw [← z, he] at q3
      cases q3
      have q5 : (Value.type "enumerate") = .type "tuple" := q4
      exact absurd q5 (by decide)
    have D := Draws.tuple (prog := X.prog) (w := X.w) (A := X.A.in1) (I.ok.hd hc) it a ait its.toArray
    refine wpAny_pyNext_enum_itemD D he ⟨hit, p⟩ (by have := (List.getElem?_eq_some_iff.mp hu).1; simpa using this) hne (by simp [hne, aen]) fun y h' tk hy ho hst hT hsz hk => ?_
    have hyu : y = u := by
      have hu' : its.toArray[i]? = some u := by simpa using hu
      rw [hu'] at hy
      exact (Option.some.inj hy).symm
    subst hyu
    refine ⟨_, rfl, wpAny_letOwnedTupleGo_enum (s := { s with heap := h', toks := tk + 1 }) ho fun h2 he2 sb => ?_⟩
    have hT2 := (sb.2 _ (Nat.ne_of_gt hel)).trans hT
    have new : ObjOk X.prog X.w (upd H s.heap.objs.size (.tup [.int (i : Nat), x])) h2 s.heap.objs.size (.tup [.int (i : Nat), x]) :=
      ⟨show 2 ≤ sizeLine by decide, [.int i tk, y], .cons ⟨_, rfl⟩ (.cons ru .nil), ⟨_, hT2, rfl, _, rfl⟩⟩
    have I1 : Inv X pins σ (upd H s.heap.objs.size (.tup [.int (i : Nat), x])) { s with heap := h2, toks := tk + 1 } :=
      I.turnedNew (ch := [e, it]) (fun b ob hb q => by
        have b1 : b ≠ e := fun z => hb (by simp [z])
        have b2 : b ≠ it := fun z => hb (by simp [z])
        exact (sb.2 b b1).trans (hk b ob b1 b2 q)) hf (Nat.le_refl _) new
    refine ⟨.ref s.heap.objs.size, _, I1, rfl, ⟨_, x, rfl, I.hok.fresh (Nat.le_refl _), rfl, fun ys hy => by rw [I.tuple_inj hy hq]; exact hx⟩, ⟨⟨y, ?_⟩, hst.1.at fun o q => (sb.2 it (Ne.symm hne)).trans q, hne⟩, fun b hb => ?_⟩
    · have e1 : ((i + 1 : Nat) : Int) = (i : Int) + 1 := by omega
      rw [e1]
      exact he2
    · have hb' : b < s.heap.objs.size := by
        rcases List.mem_cons.mp hb with z | z
        · rw [z]; exact hel
        · rw [List.mem_singleton.mp z]; exact hil
      rw [upd_ne (Nat.ne_of_lt hb')]
      exact (hf b hb).1
  done := by
    intro X hP hw hK hc i pins s σ H E I hf ⟨⟨old, he⟩, hit, hne⟩ ⟨xs, hq, hx⟩
    subst hP hw hK
    obtain ⟨its, rv, p, hz⟩ := I.tuple hq
    obtain ⟨f0, f1, f2, f3, f4, f5⟩ := hf it (by simp)
    have hl := rv.length
    have hT : s.TypeIs (.ref e) "enumerate" := ⟨_, he, rfl⟩
    unfold pyNext
    refine wpAny_bind (wpAny_attempt (wpAny_callSpecial?_slot (name := Str.ofString "__next__") hT F.slot_enumerate_next (wpAny_call_entry F.slot_enumerate_next hT F.entry_enumerate_next ?_ (F.args_enumerate_next_1 _))))
    show wpAny _ _ (field (.ref e) 2 >>= _) _ _ _
    refine wpAny_bind (wpAny_field he rfl (x := .ref it) rfl (wpAny_bind (wpAny_nextOf_tuple_end (I.ok.hd hc) hit p (by simp; omega) fun h' x eb hx' => ?_)))
    obtain ⟨o, ho, hcl⟩ := hx'
    exact wpAny_bind (wpAny_isInstance (T := "StopIteration") (b := true) ⟨o, ho, hcl⟩ isSubtype_stop (wpAny_pure ⟨rfl, I.turned (t' := s.toks) (fun b o hb q => eb b o hb q) f0 f1 f3 f4 f5⟩))
  self := fun A i s Q E ⟨⟨_, he⟩, _⟩ h => wpAny_pyIter_enum he h
def iEnT (K : PySem.W.Frag) (ta : TA) : TI := fun σ H R => ta σ H fun vs H1 => ∃ a xs, vs = [.ref a] ∧ SqT K H1 a xs ∧ R (ItT K a) H1
theorem pi_ent {X : Cx} {e : Expr} {ta : TA} {p pos tpos : Pos} {elts : List Expr} {kk : Nat} (hg : Gl X "enumerate") (hm : X.mg "enumerate" = none) (ha : PA X [e] ta) (hs : starEach [e] X.env = [(false, eval e X.env)] := by rfl) :
    PI X (.Tuple elts kk tpos) (.Call (.Name "enumerate" p) [e] [] pos) (iEnT X.K ta) := by
  refine ⟨fun pins s σ H R I h => Call_ (ld_blt I hg hm boot_enumerate (PyProof.Rows.callWith_type1 (thn (ha.run pos pins s σ H _ I h) fun us s1 ⟨vs, H1, I1, r1, q1⟩ => ?_) hs rfl))⟩
  obtain ⟨a, xs, rfl, hq, q⟩ := q1
  cases r1 with
  | cons r rr =>
    cases rr
    cases r
    obtain ⟨its, rv, p', hz⟩ := I1.tuple hq
    refine call_en1 (begins_tuple a its.toArray) p' fun h' he hit hk => wpAny_pyIter_enum he ?_
    have I2 : Inv X pins σ H1 { s1 with heap := h' } := I1.kept (t' := s1.toks) hk
    refine ⟨s1.heap.objs.size + 1, [s1.heap.objs.size + 1, s1.heap.objs.size], _, _, H1, rfl, I2, turn_ent a (s1.heap.objs.size + 1) s1.heap.objs.size, ⟨⟨.none, he⟩, ⟨_, hit, rfl, rfl⟩, Nat.succ_ne_self _⟩, fun b hb => ?_, q⟩
    have hle : s1.heap.objs.size ≤ b := by
      rcases List.mem_cons.mp hb with z | z
      · rw [z]; exact Nat.le_add_right _ _
      · rw [List.mem_singleton.mp z]; exact Nat.le_refl _
    exact I1.fpOk hle (I1.hok.fresh hle)
end Mp
/-! zip over a list or a tuple and another -/
namespace Mp
open PySem PySem.Spec PyProof.Rows L2
def SqB : Bool → PySem.W.Frag → Hp → Addr → List V → Prop
  | true, K, H, a, xs => SqT K H a xs
  | false, K, H, a, xs => SqL K H a xs
def ItB : Bool → Heap → Addr → Addr → Nat → Prop
  | true, h, it, a, i => h.IsTupleIter it a i
  | false, h, it, a, i => h.IsListIter it a i
def IsB : Bool → Heap → Addr → Array Value → Prop
  | true, h, a, its => h.IsTuple a its
  | false, h, a, its => h.IsList a its
def objB : Bool → Addr → Obj
  | true, a => { cls := .type "tuple_iterator", data := .fields #[.ref a, .int 0 0] }
  | false, a => { cls := .type "list_iterator", data := .fields #[.ref a, .int 0 0] }
section
variable {X : Cx} {pins : List (Addr × Obj)} {σ : L2.St} {H : Hp} {s : Shared} {t : Bool} {a b it : Addr} {xs ys : List V} {its : Array Value}
theorem seqB_of (I : Inv X pins σ H s) (h : SqB t X.K H a xs) : ∃ its : List Value, Vals xs its ∧ IsB t s.heap a its.toArray := by
  cases t with
  | true =>
    obtain ⟨its, rv, p, _⟩ := I.tuple h
    exact ⟨its, rv, p⟩
  | false =>
    obtain ⟨its, rv, p, _⟩ := I.list h
    exact ⟨its, rv, p.isList⟩
theorem seqB_inj (I : Inv X pins σ H s) (h : SqB t X.K H a xs) (h2 : SqB t X.K H a ys) : xs = ys := by
  cases t with
  | true => exact I.tuple_inj h h2
  | false => exact I.list_inj h h2
theorem IsB.lt {h : Heap} (p : IsB t h a its) : a < h.objs.size := by
  cases t with
  | true => obtain ⟨o, e, _⟩ := (show h.IsTuple a its from p); exact Heap.lt_size e
  | false => obtain ⟨o, e, _⟩ := (show h.IsList a its from p); exact Heap.lt_size e
theorem ItB.look {h : Heap} {i : Nat} (p : ItB t h it a i) : ∃ o, h.get? it = some o ∧ ∀ v, o.data ≠ .cell v := by
  cases t with
  | true => obtain ⟨o, e, _, d⟩ := (show h.IsTupleIter it a i from p); exact ⟨o, e, fun v q => by rw [d] at q; cases q⟩
  | false => obtain ⟨o, e, _, d⟩ := (show h.IsListIter it a i from p); exact ⟨o, e, fun v q => by rw [d] at q; cases q⟩
theorem ItB.to {h h' : Heap} {i : Nat} (p : ItB t h it a i) (k : ∀ o, h.get? it = some o → h'.get? it = some o) : ItB t h' it a i := by
  cases t with
  | true => exact Heap.IsTupleIter.at p k
  | false => exact Heap.IsListIter.at p k
theorem ItB.ne {h : Heap} {i : Nat} {t2 : Bool} (p : ItB t h it a i) (q : IsB t2 h b its) : b ≠ it := fun z => by
  subst z
  cases t with
  | true =>
    obtain ⟨o1, q1, q2, _⟩ := (show h.IsTupleIter b a i from p)
    cases t2 with
    | true => obtain ⟨o2, q3, q4, _⟩ := (show h.IsTuple b its from q); rw [q1] at q3; cases q3; rw [q2] at q4; exact absurd q4 (by decide)
    | false => obtain ⟨o2, q3, q4, _⟩ := (show h.IsList b its from q); rw [q1] at q3; cases q3; rw [q2] at q4; exact absurd q4 (by decide)
  | false =>
    obtain ⟨o1, q1, q2, _⟩ := (show h.IsListIter b a i from p)
    cases t2 with
    | true => obtain ⟨o2, q3, q4, _⟩ := (show h.IsTuple b its from q); rw [q1] at q3; cases q3; rw [q2] at q4; exact absurd q4 (by decide)
    | false => obtain ⟨o2, q3, q4, _⟩ := (show h.IsList b its from q); rw [q1] at q3; cases q3; rw [q2] at q4; exact absurd q4 (by decide)
theorem drawsB {prog : Program} {w : World} {A : Around} (hh : A.handled = none) (hne : a ≠ it) : Draws prog w A it [it, a] its.size (fun i v => its[i]? = some v) (fun i h => ItB t h it a i ∧ IsB t h a its) := by
  cases t with
  | true => exact Draws.tuple hh it a hne its
  | false => exact Draws.list hh it a hne its
theorem beginsB : Begins (.ref a) (objB t a) fun h => IsB t h a its := by
  cases t with
  | true => exact begins_tuple a its
  | false => exact begins_list a its
theorem objB_it {h : Heap} (e : h.get? it = some (objB t a)) : ItB t h it a 0 := by
  cases t with
  | true => exact ⟨_, e, rfl, rfl⟩
  | false => exact ⟨_, e, rfl, rfl⟩
end
/-- two sequences, the items in new pairs -/
def ItZB (t1 t2 : Bool) (K : PySem.W.Frag) (a b : Addr) : It where
  go i H := ∃ (xs ys : List V) (x y : V), SqB t1 K H a xs ∧ SqB t2 K H b ys ∧ xs[i]? = some x ∧ ys[i]? = some y
  yld i H v H' := ∃ T x y, v = .ref T ∧ H T = none ∧ H' = upd H T (.tup [x, y]) ∧ (∀ xs, SqB t1 K H a xs → xs[i]? = some x) ∧ ∀ ys, SqB t2 K H b ys → ys[i]? = some y
  stop i H := ∃ xs ys : List V, SqB t1 K H a xs ∧ SqB t2 K H b ys ∧ i ≤ xs.length ∧ i ≤ ys.length ∧ (i = xs.length ∨ i = ys.length)
theorem cellsB {c z TI TO i1 i2 : Addr} (h : c ∈ [z, TI, TO, i1, i2]) : c = z ∨ c = TI ∨ c = TO ∨ c = i1 ∨ c = i2 := by simpa using h
theorem turn_zipB {P : Program} {w : World} {K : PySem.W.Frag} {elts : List Expr} {kk : Nat} {tpos : Pos} {t1 t2 : Bool} {a b z TI TO i1 i2 : Addr} (S : ZipSep2 z TI TO i1 i2 [i1, a] [i2, b]) :
    Turn P w K (.Tuple elts kk tpos) (ItZB t1 t2 K a b) [z, TI, TO, i1, i2] z (fun i h => IsZip h z TI TO .none ∧ IsTupOf2 h TI (.ref i1) (.ref i2) ∧ (∃ x y, IsTupOf2 h TO x y) ∧ ItB t1 h i1 a i ∧ ItB t2 h i2 b i) where
  mem := List.mem_cons_self ..
  obj := fun i h ⟨hz, hTI, ⟨x, y, hTO⟩, h1, h2⟩ c hc => by
    rcases cellsB hc with q | q | q | q | q
    · rw [q]; exact ⟨_, hz, fun v q => nomatch q⟩
    · rw [q]; exact ⟨_, hTI, fun v q => nomatch q⟩
    · rw [q]; exact ⟨_, hTO, fun v q => nomatch q⟩
    · rw [q]; exact h1.look
    · rw [q]; exact h2.look
  keep := fun i h h' ⟨hz, hTI, ⟨x, y, hTO⟩, h1, h2⟩ k => ⟨k z (by simp) _ hz, k TI (by simp) _ hTI, ⟨x, y, k TO (by simp) _ hTO⟩, h1.to fun o q => k i1 (by simp) o q, h2.to fun o q => k i2 (by simp) o q⟩
  item := by
    intro X hP hw hK hc i pins s σ H E I hf ⟨hz, hTI, ⟨x0, y0, hTO⟩, h1, h2⟩ ⟨xs, ys, x, y, hqx, hqy, hx, hy⟩
    subst hP hw hK
    obtain ⟨its, rv, p1⟩ := seqB_of I hqx
    obtain ⟨its2, rv2, p2⟩ := seqB_of I hqy
    obtain ⟨u, hu, ru⟩ := rv.get hx
    obtain ⟨u2, hu2, ru2⟩ := rv2.get hy
    have D1 := drawsB (prog := X.prog) (w := X.w) (A := X.A.in1) (t := t1) (its := its.toArray) (I.ok.hd hc) (h1.ne p1)
    have D2 := drawsB (prog := X.prog) (w := X.w) (A := X.A.in1) (t := t2) (its := its2.toArray) (I.ok.hd hc) (h2.ne p2)
    have hzl : z < s.heap.objs.size := Heap.lt_size hz
    refine wpAny_pyNext_zipD2_item S D1 D2 hz hTI hTO ⟨h1, p1⟩ ⟨h2, p2⟩ (by have := (List.getElem?_eq_some_iff.mp hu).1; simpa using this) (by have := (List.getElem?_eq_some_iff.mp hu2).1; simpa using this)
      fun v1 v2 h' tk e1 e2 z' TO' st1 st2 hT hsz hk => ?_
    have ev1 : v1 = u := by
      have q : its.toArray[i]? = some u := by simpa using hu
      rw [q] at e1
      exact (Option.some.inj e1).symm
    have ev2 : v2 = u2 := by
      have q : its2.toArray[i]? = some u2 := by simpa using hu2
      rw [q] at e2
      exact (Option.some.inj e2).symm
    subst ev1 ev2
    refine ⟨_, rfl, wpAny_letOwnedTupleGo_zip (s := { s with heap := h', toks := tk }) z' fun h2' z2 sb => ?_⟩
    have hT2 := (sb.2 _ (Nat.ne_of_gt hzl)).trans hT
    have new : ObjOk X.prog X.w (upd H s.heap.objs.size (.tup [x, y])) h2' s.heap.objs.size (.tup [x, y]) :=
      ⟨show 2 ≤ sizeLine by decide, [v1, v2], .cons ru (.cons ru2 .nil), ⟨_, hT2, rfl, _, rfl⟩⟩
    have I1 : Inv X pins σ (upd H s.heap.objs.size (.tup [x, y])) { s with heap := h2', toks := tk } :=
      I.turnedNew (ch := [z, TI, TO, i1, i2]) (fun c o hb q => by
        have b1 : c ≠ z := fun q' => hb (by simp [q'])
        exact (sb.2 c b1).trans (hk c o b1 (fun q' => hb (by simp [q'])) (fun q' => hb (by simp [q'])) (fun q' => hb (by simp [q'])) q)) hf (Nat.le_refl _) new
    refine ⟨.ref s.heap.objs.size, _, I1, rfl, ⟨_, x, y, rfl, I.hok.fresh (Nat.le_refl _), rfl, fun l hl => by rw [seqB_inj I hl hqx]; exact hx, fun l hl => by rw [seqB_inj I hl hqy]; exact hy⟩, ⟨z2, ?_, ⟨v1, v2, ?_⟩, ?_, ?_⟩, fun c hcm => ?_⟩
    · exact (sb.2 _ S.TIz).trans (hk _ _ S.TIz S.TITO S.TIi1 S.TIi2 hTI)
    · exact (sb.2 _ S.TOz).trans TO'
    · exact st1.1.to fun o q => (sb.2 _ (Ne.symm S.zi1)).trans q
    · exact st2.1.to fun o q => (sb.2 _ (Ne.symm S.zi2)).trans q
    · have hlt : c < s.heap.objs.size := by
        rcases cellsB hcm with q | q | q | q | q
        · rw [q]; exact hzl
        · rw [q]; exact Heap.lt_size hTI
        · rw [q]; exact Heap.lt_size hTO
        · rw [q]; obtain ⟨_, e1, _⟩ := h1.look; exact Heap.lt_size e1
        · rw [q]; obtain ⟨_, e2, _⟩ := h2.look; exact Heap.lt_size e2
      rw [upd_ne (Nat.ne_of_lt hlt)]
      exact (hf c hcm).1
  done := by
    intro X hP hw hK hc i pins s σ H E I hf ⟨hz, hTI, ⟨x0, y0, hTO⟩, h1, h2⟩ ⟨xs, ys, hqx, hqy, l1, l2, hend⟩
    subst hP hw hK
    obtain ⟨its, rv, p1⟩ := seqB_of I hqx
    obtain ⟨its2, rv2, p2⟩ := seqB_of I hqy
    have e1 := rv.length
    have e2 := rv2.length
    have D1 := drawsB (prog := X.prog) (w := X.w) (A := X.A.in1) (t := t1) (its := its.toArray) (I.ok.hd hc) (h1.ne p1)
    have D2 := drawsB (prog := X.prog) (w := X.w) (A := X.A.in1) (t := t2) (its := its2.toArray) (I.ok.hd hc) (h2.ne p2)
    exact wpAny_pyNext_zipD2_end S D1 D2 hz hTI hTO ⟨h1, p1⟩ ⟨h2, p2⟩ (by simp; omega) (by simp; omega) (by simp; omega) fun h' tk hk => ⟨rfl, I.turnedL (t' := tk) (ch := [z, TI, TO, i1, i2]) (fun c o hb q =>
      hk c o (fun q' => hb (by simp [q'])) (fun q' => hb (by simp [q'])) (fun q' => hb (by simp [q'])) (fun q' => hb (by simp [q'])) q) hf⟩
  self := fun A i s Q E st h => wpAny_pyIter_zip st.1 h
def iZipB (t1 t2 : Bool) (K : PySem.W.Frag) (ta : TA) : TI := fun σ H R => ta σ H fun vs H1 => ∃ a b xs ys, vs = [.ref a, .ref b] ∧ SqB t1 K H1 a xs ∧ SqB t2 K H1 b ys ∧ R (ItZB t1 t2 K a b) H1
theorem pi_zipB {X : Cx} {t1 t2 : Bool} {e e2 : Expr} {ta : TA} {p pos tpos : Pos} {elts : List Expr} {kk : Nat} (hg : Gl X "zip") (hm : X.mg "zip" = none) (ha : PA X [e, e2] ta)
    (hs : starEach [e, e2] X.env = (false, eval e X.env) :: starEach [e2] X.env := by rfl) (hpl : (backTo pos (starEach [e2] X.env)).any (·.1) = false := by rfl) :
    PI X (.Tuple elts kk tpos) (.Call (.Name "zip" p) [e, e2] [] pos) (iZipB t1 t2 X.K ta) := by
  refine ⟨fun pins s σ H R I h => Call_ (ld_blt I hg hm PyProof.Rows.boot_zip (PyProof.Rows.callWith_type1 (thn (ha.run pos pins s σ H _ I h) fun us s1 ⟨vs, H1, I1, r1, q1⟩ => ?_) hs hpl))⟩
  obtain ⟨a, b, xs, ys, rfl, hqx, hqy, q⟩ := q1
  cases r1 with
  | cons r rr =>
    cases rr with
    | cons r' rr =>
      cases rr
      cases r
      cases r'
      obtain ⟨its, rv, p1⟩ := seqB_of I1 hqx
      obtain ⟨its2, rv2, p2⟩ := seqB_of I1 hqy
      refine zip_begins2 beginsB beginsB p1 p2 fun h' hz hTI hTO h1 h2 hsz hk => wpAny_pyIter_zip hz ?_
      have I2 : Inv X pins σ H1 { s1 with heap := h' } := I1.kept (t' := s1.toks) hk
      have fresh5 : ∀ c, c ∈ [s1.heap.objs.size + 4, s1.heap.objs.size + 2, s1.heap.objs.size + 3, s1.heap.objs.size, s1.heap.objs.size + 1] → FpOk X pins H1 c := fun c hcm => by
        have hle : s1.heap.objs.size ≤ c := by
          rcases cellsB hcm with z | z | z | z | z <;> rw [z] <;> first | exact Nat.le_refl _ | exact Nat.le_add_right _ _
        exact I1.fpOk hle (I1.hok.fresh hle)
      exact ⟨s1.heap.objs.size + 4, [s1.heap.objs.size + 4, s1.heap.objs.size + 2, s1.heap.objs.size + 3, s1.heap.objs.size, s1.heap.objs.size + 1], _, _, H1, rfl, I2,
        turn_zipB (zip_sep2 (fun b hb => by rw [List.mem_singleton.mp hb]; exact p1.lt) fun b hb => by rw [List.mem_singleton.mp hb]; exact p2.lt), ⟨hz, hTI, ⟨_, _, hTO⟩, objB_it h1, objB_it h2⟩, fresh5, q⟩
end Mp
/-! Mp: a small evaluator for the part of Python that the laws use. Values are trees, lists and dicts stand in a logical heap. -/
namespace Mp
open PySem PySem.Spec PyProof.Rows L2

/-- values: tuples and finished instances are trees; lists, dicts and instances in the making stand in the logical heap -/
inductive W where
  | non | bl (b : Bool) | int (i : Int) | str (s : String)
  /-- a tuple; a list that nobody changes any more; a list that can't be changed (the script) -/
  | tup (xs : List W) | fl (xs : List W) | rd (xs : List W)
  | ref (n : Nat)
  | obj (c : String) (ns : List String) (fs : List W)
  | exc (c : String) (ns : List String) (fs : List W)
  deriving Inhabited
/-- what stands in the logical heap -/
inductive O where
  | lst (xs : List W) | dic (ks : List W) (vs : List W) | ins (c : String) (ns : List String) (fs : List W) | dead
  deriving Inhabited
abbrev LH := List O
abbrev Env := List (Option W)
/-- how an expression ends -/
inductive R (α : Type) where
  | ok (a : α) (h : LH) | ex (c : String) (ns : List String) (fs : List W) (h : LH) | no
def R.bind {α β : Type} (r : R α) (f : α → LH → R β) : R β := match r with
  | .ok a h => f a h
  | .ex c ns fs h => .ex c ns fs h
  | .no => .no
/-- how a statement ends -/
inductive RS where
  | nx (σ : Env) (h : LH) | brk (σ : Env) (h : LH) | cont (σ : Env) (h : LH) | ret (w : W) (h : LH)
  | ex (c : String) (ns : List String) (fs : List W) (σ : Env) (h : LH) | no
def R.toS (r : R W) (σ : Env) (f : W → LH → RS) : RS := match r with
  | .ok a h => f a h
  | .ex c ns fs h => .ex c ns fs σ h
  | .no => .no
abbrev Cl := String → List W → LH → R W

mutual
def W.beq : W → W → Bool
  | .non, .non => true
  | .bl a, .bl b => a == b
  | .int a, .int b => decide (a = b)
  | .str a, .str b => decide (a = b)
  | .tup a, .tup b => W.beqs a b
  | .fl a, .fl b => W.beqs a b
  | .rd a, .rd b => W.beqs a b
  | .ref a, .ref b => decide (a = b)
  | .obj c n a, .obj d m b => decide (c = d) && (decide (n = m) && W.beqs a b)
  | .exc c n a, .exc d m b => decide (c = d) && (decide (n = m) && W.beqs a b)
  | _, _ => false
def W.beqs : List W → List W → Bool
  | [], [] => true
  | a :: r, b :: t => W.beq a b && W.beqs r t
  | _, _ => false
end
mutual
theorem W.beq_iff : ∀ a b : W, W.beq a b = true ↔ a = b
  | .non, b => by cases b <;> simp [W.beq]
  | .bl a, b => by cases b <;> simp [W.beq]
  | .int a, b => by cases b <;> simp [W.beq]
  | .str a, b => by cases b <;> simp [W.beq]
  | .ref a, b => by cases b <;> simp [W.beq]
  | .tup a, b => by cases b <;> simp [W.beq, W.beqs_iff a]
  | .fl a, b => by cases b <;> simp [W.beq, W.beqs_iff a]
  | .rd a, b => by cases b <;> simp [W.beq, W.beqs_iff a]
  | .obj c n a, b => by cases b <;> simp [W.beq, W.beqs_iff a]
  | .exc c n a, b => by cases b <;> simp [W.beq, W.beqs_iff a]
theorem W.beqs_iff : ∀ a b : List W, W.beqs a b = true ↔ a = b
  | [], b => by cases b <;> simp [W.beqs]
  | a :: r, b => by cases b <;> simp [W.beqs, W.beq_iff a, W.beqs_iff r]
end
instance : DecidableEq W := fun a b => decidable_of_iff _ (W.beq_iff a b)

inductive Ty where | bool | int | str | list | tuple | dict | cls (c : String)
  deriving DecidableEq
inductive BOp where | add | sub | mul | mulm | fdiv | mod | pow | shl | shr | band | bor | bxor
  deriving DecidableEq
inductive UOp where | neg | inv
  deriving DecidableEq
inductive COp where | eq | ne | lt | le | gt | ge | is | isn | isin | nin
  deriving DecidableEq
/-- built-in functions of values (listm: the new list will be changed) -/
inductive Bf where | len | int | abs | tuple | list | listm | sorted | sum | min1 | max1 | min2 | max2 | any | all | str | divmod
  deriving DecidableEq
/-- methods of lists -/
inductive Lm where | append | pop | popAt | extend | index | insert
  deriving DecidableEq
/-- targets -/
inductive Tg where | one (i : Nat) | many (is : List Nat)
  deriving DecidableEq
inductive E where
  | var (i : Nat) | cst (w : W) | glo (x : String)
  | nil | cons (e es : E)
  | tup (es : E) | lst (es : E) | lstm (es : E)
  | bin (o : BOp) (a b : E) | un (o : UOp) (a : E)
  | cmp (o : COp) (a b : E) | cmp2 (o p : COp) (a b c : E)
  | and (a b : E) | or (a b : E) | not (a : E)
  | tE (a : E) | tand (a b : E) | tor (a b : E) | tnot (a : E)
  | ite (c a b : E)
  | call (f : String) (es : E) | make (c : String) (es : E) | meth (o : E) (m : String) (es : E)
  | bf (f : Bf) (es : E) | isi (a : E) (t : Ty) | isiT (a : E) (ts : List Ty)
  | lm (o : E) (m : Lm) (es : E)
  | attr (o : E) (f : String) | prop (o : E) (f : String)
  | idx (o i : E) | sl (o lo hi : E)
  | comp (m : Bool) (e : E) (tg : Tg) (it c : E) (own : List Nat)
  | itv (a : E) | rng1 (a : E) | rng2 (a b : E) | enum (a : E) | zip (a b : E) | rev (a : E)
  | lrng (m : Bool) (a : E)
  | frz (a : E)
  | stop
inductive S where
  | nil | seq (s r : S)
  | asg (i : Nat) (e : E) | unp (is : List Nat) (e : E) | par (i j : Nat) (a b : E)
  | aug (i : Nat) (o : BOp) (e : E) | setI (o i e : E) | setA (o : E) (f : String) (e : E)
  | expr (e : E) | ret (e : E) | retN | ifs (c : E) (a b : S) | wh (c : E) (b : S) | for_ (tg : Tg) (it : E) (b : S)
  | brk | cont | pass | kill (is : List Nat)
  | raise (c : String) (es : E)
  | stop

/-- what the program's top holds -/
structure Tab where
  gl : String → Option W := fun _ => none
  ex : String → Option (List String) := fun _ => none
  fld : String → List String := fun _ => []
  wf : Nat := 5000

def big : Nat := 1000000
def seqOf (h : LH) : W → Option (List W)
  | .tup xs => some xs
  | .fl xs => some xs
  | .rd xs => some xs
  | .ref n => (match h[n]? with | some (.lst xs) => some xs | _ => none)
  | _ => none
def lstOf (h : LH) : W → Option (List W)
  | .fl xs => some xs
  | .rd xs => some xs
  | .ref n => (match h[n]? with | some (.lst xs) => some xs | _ => none)
  | _ => none
/-- scalars' == -/
def scq : W → W → Option Bool
  | .int i, .int j => some (decide (i = j))
  | .str s, .str t => some (decide (s = t))
  | .bl a, .bl b => some (decide (a = b))
  | .non, .non => some true
  | .non, .int _ => some false | .int _, .non => some false | .non, .bl _ => some false | .bl _, .non => some false
  | .non, .str _ => some false | .str _, .non => some false
  | .int _, .str _ => some false | .str _, .int _ => some false | .bl _, .str _ => some false | .str _, .bl _ => some false
  | _, _ => none
/-- a value as data -/
def dat (h : LH) : Nat → W → Option PyData
  | 0, _ => none
  | _ + 1, .non => some .none
  | _ + 1, .bl b => some (.bool b)
  | _ + 1, .int i => some (.int i)
  | _ + 1, .str s => some (.str (Str.ofString s))
  | n + 1, .tup xs => (xs.mapM (dat h n)).map .tuple
  | n + 1, .fl xs => (xs.mapM (dat h n)).map .list
  | n + 1, .rd xs => (xs.mapM (dat h n)).map .list
  | n + 1, .ref a => (match h[a]? with | some (.lst xs) => (xs.mapM (dat h n)).map .list | _ => none)
  | _ + 1, _ => none
def depthMax : Nat := 24
def eqW (h : LH) (x y : W) : Option Bool := match scq x y with
  | some b => some b
  | none => (match dat h depthMax x, dat h depthMax y with
    | some d, some e => if SeqAt.shaped d && SeqAt.shaped e then some (PyData.eqv d e) else none
    | _, _ => none)
def flatW : W → Bool
  | .non => true | .bl _ => true | .int _ => true | .str _ => true | _ => false
/-- == of flat things as `in` asks it -/
def eqF : W → W → Bool
  | .non, .non => true
  | .bl a, .bl b => a == b
  | .bl a, .int i => decide ((if a then 1 else 0) = i)
  | .int i, .bl a => decide (i = (if a then 1 else 0))
  | .int i, .int j => decide (i = j)
  | .str s, .str t => decide (s = t)
  | _, _ => false
/-- x in xs: of flat things, or of data in a list -/
def inW (h : LH) (x y : W) : Option Bool := match seqOf h y with
  | some xs => if flatW x && xs.all flatW then some (xs.any fun z => eqF z x) else
    (match dat h depthMax x, dat h depthMax y with
    | some d, some (.list ds) => if SeqAt.shaped d && SeqAt.shaped (.list ds) then some (ds.any fun z => PyData.eqv z d) else none
    | _, _ => none)
  | none => none
def i2 (x y : W) (f : Int → Int → R W) : R W := match x, y with
  | .int i, .int j => f i j
  | _, _ => .no
def isNon : W → Bool
  | .non => true | _ => false
def evC (o : COp) (x y : W) (h : LH) : R W := match o with
  | .eq => (match eqW h x y with | some b => .ok (.bl b) h | none => .no)
  | .ne => (match eqW h x y with | some b => .ok (.bl (!b)) h | none => .no)
  | .lt => i2 x y fun i j => .ok (.bl (decide (i < j))) h
  | .le => i2 x y fun i j => .ok (.bl (decide (i ≤ j))) h
  | .gt => i2 x y fun i j => .ok (.bl (decide (j < i))) h
  | .ge => i2 x y fun i j => .ok (.bl (decide (j ≤ i))) h
  | .is => (match y with
    | .non => .ok (.bl (isNon x)) h
    | .bl b => (match x with | .bl a => .ok (.bl (decide (a = b))) h | _ => .no)
    | _ => .no)
  | .isn => (match y with
    | .non => .ok (.bl (!isNon x)) h
    | .bl b => (match x with | .bl a => .ok (.bl (!decide (a = b))) h | _ => .no)
    | _ => .no)
  | .isin => (match inW h x y with | some b => .ok (.bl b) h | none => .no)
  | .nin => (match inW h x y with | some b => .ok (.bl (!b)) h | none => .no)
/-- a list that may be changed, or one that nobody changes any more -/
def trk (h : LH) : W → Option (List W)
  | .fl xs => some xs
  | .ref n => (match h[n]? with | some (.lst xs) => some xs | _ => none)
  | _ => none
def evB (o : BOp) (x y : W) (h : LH) : R W := match o with
  | .add => (match x, y with
    | .int i, .int j => .ok (.int (i + j)) h
    | .str s, .str t => if s.length + t.length ≤ big then .ok (.str (s ++ t)) h else .no
    | .tup xs, .tup ys => if xs.length + ys.length ≤ big then .ok (.tup (xs ++ ys)) h else .no
    | a, b => (match trk h a, trk h b with
      | some xs, some ys => if xs.length + ys.length ≤ big then .ok (.fl (xs ++ ys)) h else .no
      | _, _ => .no))
  | .sub => i2 x y fun i j => .ok (.int (i - j)) h
  | .mul => (match x, y with
    | .int i, .int j => if (-(2 ^ 64) < i ∧ i < 2 ^ 64) ∨ (-(2 ^ 64) < j ∧ j < 2 ^ 64) then .ok (.int (i * j)) h else .no
    | a, .int k => (match trk h a with
      | some xs => if -(2 ^ 63) ≤ k ∧ k < 2 ^ 63 ∧ xs.length * k.toNat ≤ big then .ok (.fl (List.replicate k.toNat xs).flatten) h else .no
      | _ => .no)
    | _, _ => .no)
  | .mulm => (match x, y with
    | a, .int k => (match trk h a with
      | some xs => if -(2 ^ 63) ≤ k ∧ k < 2 ^ 63 ∧ xs.length * k.toNat ≤ big then .ok (.ref h.length) (h ++ [.lst (List.replicate k.toNat xs).flatten]) else .no
      | _ => .no)
    | _, _ => .no)
  | .fdiv => i2 x y fun i j => if 0 < j ∧ j < 1073741824 then .ok (.int (i / j)) h else .no
  | .mod => i2 x y fun i j => if 0 < j then .ok (.int (i % j)) h else .no
  | .pow => i2 x y fun i j => if 0 ≤ j ∧ j ≤ 1000000 ∧ i.natAbs < 2 ^ 64 then .ok (.int (i ^ j.toNat)) h else .no
  | .shl => i2 x y fun i j => if 0 ≤ j ∧ j ≤ 1000000 ∧ i.natAbs < 2 ^ 64 then .ok (.int (i * 2 ^ j.toNat)) h else .no
  | .shr => i2 x y fun i j => if 0 ≤ j then .ok (.int (i / 2 ^ j.toNat)) h else .no
  | .band => i2 x y fun i j => .ok (.int (Builtin.bitAnd i j)) h
  | .bor => i2 x y fun i j => .ok (.int (Builtin.bitOr i j)) h
  | .bxor => i2 x y fun i j => .ok (.int (Builtin.bitXor i j)) h
def evU (o : UOp) (x : W) (h : LH) : R W := match o, x with
  | .neg, .int i => .ok (.int (-i)) h
  | .inv, .int i => .ok (.int (Builtin.bitNot i)) h
  | _, _ => .no
def truW (h : LH) : W → Option Bool
  | .non => some false
  | .bl b => some b
  | .int i => some (i != 0)
  | .str s => if s.length ≤ big then some (s.length != 0) else none
  | .tup xs => some (!xs.isEmpty)
  | .fl xs => some (!xs.isEmpty)
  | .rd xs => some (!xs.isEmpty)
  | .ref n => (match h[n]? with | some (.lst xs) => some (!xs.isEmpty) | some (.dic ks _) => some (!ks.isEmpty) | _ => none)
  | _ => none
def toInts : List W → Option (List Int)
  | [] => some []
  | .int i :: r => (toInts r).map (i :: ·)
  | _ => none
def toBls : List W → Option (List Bool)
  | [] => some []
  | .bl i :: r => (toBls r).map (i :: ·)
  | _ => none
def insI (x : Int) : List Int → List Int
  | [] => [x]
  | y :: ys => if x ≤ y then x :: y :: ys else y :: insI x ys
def sortI : List Int → List Int
  | [] => []
  | x :: xs => insI x (sortI xs)
def minI : List Int → Option Int
  | [] => none
  | x :: xs => some (xs.foldl (fun a b => if b < a then b else a) x)
def maxI : List Int → Option Int
  | [] => none
  | x :: xs => some (xs.foldl (fun a b => if a < b then b else a) x)
def f1 (as : List W) (f : W → R W) : R W := match as with
  | [x] => f x
  | _ => .no
def f2 (as : List W) (f : W → W → R W) : R W := match as with
  | [x, y] => f x y
  | _ => .no
def lenW (h : LH) (x : W) : R W := match x with
  | .str s => if s.length ≤ big then .ok (.int s.length) h else .no
  | x => (match seqOf h x with
    | some xs => .ok (.int xs.length) h
    | none => .no)
def intW (h : LH) (x : W) : R W := match x with
  | .int i => .ok (.int i) h
  | .bl b => .ok (.int (if b then 1 else 0)) h
  | _ => .no
def absW (h : LH) (x : W) : R W := match x with
  | .int i => .ok (.int (if i < 0 then -i else i)) h
  | _ => .no
def tupW (h : LH) (x : W) : R W := match seqOf h x with | some xs => .ok (.tup xs) h | none => .no
def listW (h : LH) (x : W) : R W := match seqOf h x with | some xs => .ok (.fl xs) h | none => .no
def listmW (h : LH) (x : W) : R W := match seqOf h x with | some xs => .ok (.ref h.length) (h ++ [.lst xs]) | none => .no
def sumW (h : LH) (x : W) : R W := match (lstOf h x).bind toInts with | some ns => .ok (.int ns.sum) h | none => .no
def anyW (h : LH) (x : W) : R W := match (lstOf h x).bind toBls with | some ns => .ok (.bl (ns.any id)) h | none => .no
def allW (h : LH) (x : W) : R W := match (lstOf h x).bind toBls with | some ns => .ok (.bl (ns.all id)) h | none => .no
def sortW (h : LH) (x : W) : R W := match (lstOf h x).bind toInts with | some ns => .ok (.fl ((sortI ns).map .int)) h | none => .no
def min2W (h : LH) (x y : W) : R W := i2 x y fun i j => .ok (.int (if j < i then j else i)) h
def max2W (h : LH) (x y : W) : R W := i2 x y fun i j => .ok (.int (if j > i then j else i)) h
def evF (f : Bf) (as : List W) (h : LH) : R W := match f with
  | .len => f1 as (lenW h)
  | .int => f1 as (intW h)
  | .abs => f1 as (absW h)
  | .tuple => f1 as (tupW h)
  | .list => f1 as (listW h)
  | .listm => f1 as (listmW h)
  | .sorted => f1 as (sortW h)
  | .sum => f1 as (sumW h)
  | .any => f1 as (anyW h)
  | .all => f1 as (allW h)
  | .min2 => f2 as (min2W h)
  | .max2 => f2 as (max2W h)
  | .min1 => .no
  | .max1 => .no
  | .str => .no
  | .divmod => .no
def tyName : Ty → String
  | .bool => "bool" | .int => "int" | .str => "str" | .list => "list" | .tuple => "tuple" | .dict => "dict" | .cls c => c
def tyB : Ty → Bool
  | .cls _ => false | _ => true
/-- the name of a value's built-in type -/
def tyOf (h : LH) : W → Option String
  | .non => some "NoneType" | .bl _ => some "bool" | .int _ => some "int" | .str _ => some "str" | .tup _ => some "tuple" | .fl _ => some "list" | .rd _ => some "list"
  | .ref n => (match h[n]? with
    | some (.lst _) => some "list"
    | some (.dic _ _) => some "dict"
    | _ => none)
  | .obj _ _ _ => none
  | .exc _ _ _ => none
def kit (T : String) (ty : Ty) : Bool := decide (T = tyName ty) || (decide (T = "bool") && decide (ty = .int))
def tyOk (h : LH) (w : W) (ty : Ty) : Option Bool := if tyB ty then (tyOf h w).map fun T => kit T ty else none
def tyAny (h : LH) (w : W) (ts : List Ty) : Option Bool := if ts.all tyB then (tyOf h w).map fun T => ts.any (kit T) else none
def lk (f : String) : List String → List W → Option W
  | n :: ns, w :: ws => if n = f then some w else lk f ns ws
  | _, _ => none
def put (f : String) (v : W) : List String → List W → List String × List W
  | n :: ns, w :: ws => if n = f then (n :: ns, v :: ws) else (n :: (put f v ns ws).1, w :: (put f v ns ws).2)
  | _, _ => ([f], [v])
def ixn (n : Nat) (i : Int) : Option Nat := if 0 ≤ i then (if i < n then some i.toNat else none) else if -(n : Int) ≤ i then some (i + n).toNat else none
def ix {α : Type} (xs : List α) (i : Int) : Option α := (ixn xs.length i).bind fun j => xs[j]?
def clip (n d : Nat) : Option Int → Nat
  | none => d
  | some v => if v < 0 then (v + n).toNat else min v.toNat n
def cut {α : Type} (xs : List α) (lo hi : Option Int) : List α := (xs.drop (clip xs.length 0 lo)).take (clip xs.length xs.length hi - clip xs.length 0 lo)
def evIx (o i : W) (h : LH) : R W := match i with
  | .int k => (match o with
    | .str s => (match ix s.toList k with | some c => if s.length ≤ big then .ok (.str (String.ofList [c])) h else .no | none => .no)
    | _ => (match seqOf h o with
      | some xs => (match ix xs k with | some w => .ok w h | none => .no)
      | none => .no))
  | _ => .no
def isNil : E → Bool
  | .nil => true | _ => false
def part (b : Bool) : W → Option (Option Int)
  | .int i => if b then some none else some (some i)
  | _ => if b then some none else none
def optR {α : Type} (o : Option α) (h : LH) : R α := match o with
  | some a => .ok a h
  | none => .no
def evSl (o : W) (l u : Option Int) (h : LH) : R W := match o with
  | .tup xs => .ok (.tup (cut xs l u)) h
  | _ => (match lstOf h o with
    | some xs => .ok (.fl (cut xs l u)) h
    | none => .no)
def evLm (m : Lm) (o : W) (as : List W) (h : LH) : R W := match o with
  | .ref n => (match h[n]? with
    | some (.lst xs) => (match m, as with
      | .append, [w] => if xs.length < big then .ok .non (h.set n (.lst (xs ++ [w]))) else .no
      | .pop, [] => (match xs[xs.length - 1]? with | some y => .ok y (h.set n (.lst xs.dropLast)) | none => .no)
      | _, _ => .no)
    | _ => .no)
  | _ => .no
def isLst (h : LH) : W → Bool
  | .ref n => (match h[n]? with | some (.lst _) => true | _ => false)
  | _ => false
def evAt (fld : String → List String) (o : W) (f : String) (h : LH) : R W := match o with
  | .obj c ns fs => if (fld c).contains f then (match lk f ns fs with | some w => .ok w h | none => .no) else .no
  | .ref n => (match h[n]? with
    | some (.ins c ns fs) => if (fld c).contains f then (match lk f ns fs with | some w => .ok w h | none => .no) else .no
    | _ => .no)
  | _ => .no
/-- lists that are walked: they must stand as they were -/
abbrev Gd := List (Nat × List W)
def gOk (g : Gd) (h : LH) : Bool := g.all fun p => match h[p.1]? with
  | some (.lst ys) => decide (ys = p.2)
  | _ => false
def setAll : List Nat → List W → Env → Option Env
  | [], [], σ => some σ
  | i :: is, w :: ws, σ => setAll is ws (σ.set i (some w))
  | _, _, _ => none
def bindT (t : Tg) (w : W) (σ : Env) : Option Env := match t with
  | .one i => some (σ.set i (some w))
  | .many is => (match w with
    | .tup ws => setAll is ws σ
    | _ => none)
def wipeE (σ : Env) : List Nat → Env
  | [] => σ
  | i :: is => (wipeE σ is).set i none
def R.noex {α : Type} (r : R α) : R α := match r with
  | .ex _ _ _ _ => .no
  | r => r
/-- the turns of a comprehension -/
def compL (f c : Env → LH → R W) (tg : Tg) (σ : Env) (g : Gd) : List W → LH → R (List W)
  | [], h => if gOk g h then .ok [] h else .no
  | w :: ws, h => if gOk g h then (match bindT tg w σ with
    | some σ1 => (c σ1 h).noex.bind fun b h1 => (match b with
      | .bl true => (f σ1 h1).noex.bind fun y h2 => (compL f c tg σ g ws h2).bind fun ys h3 => .ok (y :: ys) h3
      | .bl false => compL f c tg σ g ws h1
      | _ => .no)
    | none => .no) else .no
/-- the turns of a for -/
def forL (body : Env → LH → RS) (tg : Tg) (g : Gd) : List W → Env → LH → RS
  | [], σ, h => if gOk g h then .nx σ h else .no
  | w :: ws, σ, h => if gOk g h then (match bindT tg w σ with
    | some σ1 => (match body σ1 h with
      | .nx σ2 h2 => forL body tg g ws σ2 h2
      | .cont σ2 h2 => forL body tg g ws σ2 h2
      | .brk σ2 h2 => .nx σ2 h2
      | r => r)
    | none => .no) else .no
def whL (c : Env → LH → R W) (body : Env → LH → RS) : Nat → Env → LH → RS
  | 0, _, _ => .no
  | n + 1, σ, h => (c σ h).toS σ fun b h1 => (match b with
    | .bl true => (match body σ h1 with
      | .nx σ2 h2 => whL c body n σ2 h2
      | .cont σ2 h2 => whL c body n σ2 h2
      | .brk σ2 h2 => .nx σ2 h2
      | r => r)
    | .bl false => .nx σ h1
    | _ => .no)
def items : W → List W
  | .tup xs => xs
  | _ => []
def rngW (a b : Int) : List W := (List.range (b - a).toNat).map fun (i : Nat) => W.int (a + (i : Int))
def enumW : Nat → List W → List W
  | _, [] => []
  | i, x :: xs => .tup [.int i, x] :: enumW (i + 1) xs
def zipW : List W → List W → List W
  | x :: xs, y :: ys => .tup [x, y] :: zipW xs ys
  | _, _ => []
def zip2 (h : LH) (x y : W) : Option (List W × List W) := match seqOf h x, seqOf h y with
  | some xs, some ys => some (xs, ys)
  | _, _ => none
def gdOf (h : LH) : W → Gd
  | .ref n => (match h[n]? with | some (.lst xs) => [(n, xs)] | _ => [])
  | _ => []
def okRng (a b : Int) : Bool := decide (-(2 ^ 62) ≤ a ∧ a < 2 ^ 62 ∧ -(2 ^ 62) ≤ b ∧ b < 2 ^ 62 ∧ (b - a).toNat ≤ big)
def rng (a b : W) (h : LH) : R (List W × Gd) := match a, b with
  | .int i, .int j => if okRng i j then .ok (rngW i j, []) h else .no
  | _, _ => .no
mutual
def evE (T : Tab) (cl : Cl) : E → Env → LH → R W
  | .var i, σ, h => (match σ[i]? with | some (some w) => .ok w h | _ => .no)
  | .cst w, _, h => .ok w h
  | .glo x, _, h => (match T.gl x with | some w => .ok w h | none => .no)
  | .nil, _, h => .ok (.tup []) h
  | .cons e es, σ, h => (evE T cl e σ h).bind fun w h1 => (evE T cl es σ h1).bind fun ws h2 => .ok (.tup (w :: items ws)) h2
  | .tup es, σ, h => (evE T cl es σ h).bind fun ws h1 => .ok (.tup (items ws)) h1
  | .lst es, σ, h => (evE T cl es σ h).bind fun ws h1 => .ok (.fl (items ws)) h1
  | .lstm es, σ, h => (evE T cl es σ h).bind fun ws h1 => .ok (.ref h1.length) (h1 ++ [.lst (items ws)])
  | .bin o a b, σ, h => (evE T cl a σ h).bind fun x h1 => (evE T cl b σ h1).bind fun y h2 => evB o x y h2
  | .un o a, σ, h => (evE T cl a σ h).bind fun x h1 => evU o x h1
  | .cmp o a b, σ, h => (evE T cl a σ h).bind fun x h1 => (evE T cl b σ h1).bind fun y h2 => evC o x y h2
  | .cmp2 o p a b c, σ, h => (evE T cl a σ h).bind fun x h1 => (evE T cl b σ h1).bind fun y h2 => (evC o x y h2).bind fun k h3 => (match k with
    | .bl true => (evE T cl c σ h3).bind fun z h4 => evC p y z h4
    | .bl false => .ok (.bl false) h3
    | _ => .no)
  | .and a b, σ, h => (evE T cl a σ h).bind fun x h1 => (match x with
    | .bl true => evE T cl b σ h1
    | .bl false => .ok (.bl false) h1
    | _ => .no)
  | .or a b, σ, h => (evE T cl a σ h).bind fun x h1 => (match x with
    | .bl true => .ok (.bl true) h1
    | .bl false => evE T cl b σ h1
    | _ => .no)
  | .not a, σ, h => (evE T cl a σ h).bind fun x h1 => (match truW h1 x with
    | some b => .ok (.bl (!b)) h1
    | none => .no)
  | .tE a, σ, h => (evE T cl a σ h).bind fun x h1 => (match truW h1 x with
    | some b => .ok (.bl b) h1
    | none => .no)
  | .tand a b, σ, h => (evE T cl a σ h).bind fun x h1 => (match x with
    | .bl true => evE T cl b σ h1
    | .bl false => .ok (.bl false) h1
    | _ => .no)
  | .tor a b, σ, h => (evE T cl a σ h).bind fun x h1 => (match x with
    | .bl true => .ok (.bl true) h1
    | .bl false => evE T cl b σ h1
    | _ => .no)
  | .tnot a, σ, h => (evE T cl a σ h).bind fun x h1 => (match x with
    | .bl b => .ok (.bl (!b)) h1
    | _ => .no)
  | .ite c a b, σ, h => (evE T cl c σ h).bind fun x h1 => (match x with
    | .bl true => evE T cl a σ h1
    | .bl false => evE T cl b σ h1
    | _ => .no)
  | .call f es, σ, h => (evE T cl es σ h).bind fun ws h1 => cl f (items ws) h1
  | .make c es, σ, h => (evE T cl es σ h).bind fun ws h1 =>
      (cl (c ++ ".__init__") (.ref h1.length :: items ws) (h1 ++ [.ins c [] []])).bind fun _ h2 => (match h2[h1.length]? with
      | some (.ins d ns fs) => .ok (.obj d ns fs) (h2.set h1.length .dead)
      | _ => .no)
  | .meth o m es, σ, h => (evE T cl o σ h).bind fun x h1 => (evE T cl es σ h1).bind fun ws h2 => (match x with
    | .obj c _ _ => cl (c ++ "." ++ m) (x :: items ws) h2
    | .ref n => (match h1[n]? with
      | some (.ins c _ _) => cl (c ++ "." ++ m) (x :: items ws) h2
      | _ => .no)
    | _ => .no)
  | .bf f es, σ, h => (evE T cl es σ h).bind fun ws h1 => evF f (items ws) h1
  | .isi a t, σ, h => (evE T cl a σ h).bind fun x h1 => (match tyOk h1 x t with
    | some b => .ok (.bl b) h1
    | none => .no)
  | .isiT a ts, σ, h => (evE T cl a σ h).bind fun x h1 => (match tyAny h1 x ts with
    | some b => .ok (.bl b) h1
    | none => .no)
  | .lm o m es, σ, h => (evE T cl o σ h).bind fun x h1 => if isLst h1 x then (evE T cl es σ h1).bind fun ws h2 => evLm m x (items ws) h2 else .no
  | .attr o f, σ, h => (evE T cl o σ h).bind fun x h1 => evAt T.fld x f h1
  | .prop o f, σ, h => (evE T cl o σ h).bind fun x h1 => (match x with
    | .obj c _ _ => cl (c ++ "." ++ f) [x] h1
    | _ => .no)
  | .idx o i, σ, h => (evE T cl o σ h).bind fun x h1 => (evE T cl i σ h1).bind fun y h2 => evIx x y h2
  | .sl o lo hi, σ, h => (evE T cl o σ h).bind fun x h1 => ((evE T cl lo σ h1).bind fun y h2 => optR (part (isNil lo) y) h2).bind fun l h2 => ((evE T cl hi σ h2).bind fun z h3 => optR (part (isNil hi) z) h3).bind fun u h3 => evSl x l u h3
  | .comp m e tg it c own, σ, h => (evI T cl it σ h).bind fun p h1 =>
      if p.1.length ≤ big then (compL (fun σ' h' => evE T cl e σ' h') (fun σ' h' => evE T cl c σ' h') tg (wipeE σ own) p.2 p.1 h1).bind fun ys h2 =>
        if m then .ok (.ref h2.length) (h2 ++ [.lst ys]) else .ok (.fl ys) h2
      else .no
  | .lrng m a, σ, h => (evE T cl a σ h).bind fun x h1 => (rng (.int 0) x h1).bind fun p h2 =>
      if m then .ok (.ref h2.length) (h2 ++ [.lst p.1]) else .ok (.fl p.1) h2
  | .frz a, σ, h => (evE T cl a σ h).bind fun x h1 => (match x with
    | .ref n => (match h1[n]? with
      | some (.lst xs) => .ok (.fl xs) (h1.set n .dead)
      | _ => .no)
    | _ => .no)
  | .stop, _, _ => .no
  | .itv _, _, _ => .no
  | .rng1 _, _, _ => .no
  | .rng2 _ _, _, _ => .no
  | .enum _, _, _ => .no
  | .zip _ _, _, _ => .no
  | .rev _, _, _ => .no
def evI (T : Tab) (cl : Cl) : E → Env → LH → R (List W × Gd)
  | .itv a, σ, h => (evE T cl a σ h).bind fun x h1 => (match seqOf h1 x with
    | some xs => .ok (xs, gdOf h1 x) h1
    | none => .no)
  | .rng1 a, σ, h => (evE T cl a σ h).bind fun x h1 => rng (.int 0) x h1
  | .rng2 a b, σ, h => (evE T cl a σ h).bind fun x h1 => (evE T cl b σ h1).bind fun y h2 => rng x y h2
  | .enum a, σ, h => (evE T cl a σ h).bind fun x h1 => (match seqOf h1 x with
    | some xs => .ok (enumW 0 xs, gdOf h1 x) h1
    | none => .no)
  | .zip a b, σ, h => (evE T cl a σ h).bind fun x h1 => (evE T cl b σ h1).bind fun y h2 => (match zip2 h2 x y with
    | some p => .ok (zipW p.1 p.2, gdOf h2 x ++ gdOf h2 y) h2
    | none => .no)
  | .rev a, σ, h => (evE T cl a σ h).bind fun x h1 => (match seqOf h1 x with
    | some xs => .ok (xs.reverse, gdOf h1 x) h1
    | none => .no)
  | _, _, _ => .no
end
def evS (T : Tab) (cl : Cl) : S → Env → LH → RS
  | .nil, σ, h => .nx σ h
  | .seq s r, σ, h => (match evS T cl s σ h with
    | .nx σ1 h1 => evS T cl r σ1 h1
    | q => q)
  | .asg i e, σ, h => (evE T cl e σ h).toS σ fun w h1 => .nx (σ.set i (some w)) h1
  | .unp is e, σ, h => (evE T cl e σ h).toS σ fun w h1 => (match bindT (.many is) w σ with
    | some σ1 => .nx σ1 h1
    | none => .no)
  | .par i j a b, σ, h => (evE T cl a σ h).toS σ fun x h1 => (evE T cl b σ h1).toS σ fun y h2 => .nx ((σ.set i (some x)).set j (some y)) h2
  | .aug i o e, σ, h => (match σ[i]? with
    | some (some x) => (evE T cl e σ h).toS σ fun y h1 => (match x, y with
      | .int _, .int _ => (evB o x y h1).toS σ fun z h2 => .nx (σ.set i (some z)) h2
      | _, _ => .no)
    | _ => .no)
  | .setI o i e, σ, h => (evE T cl e σ h).toS σ fun w h1 => (evE T cl o σ h1).toS σ fun x h2 => (evE T cl i σ h2).toS σ fun k h3 => (match x, k with
    | .ref n, .int k => (match h3[n]? with
      | some (.lst xs) => (match ixn xs.length k with
        | some j => .nx σ (h3.set n (.lst (xs.set j w)))
        | none => .no)
      | _ => .no)
    | _, _ => .no)
  | .setA o f e, σ, h => (evE T cl e σ h).toS σ fun w h1 => (evE T cl o σ h1).toS σ fun x h2 => (match x with
    | .ref n => (match h2[n]? with
      | some (.ins c ns fs) => if fs.length < 900 then .nx σ (h2.set n (.ins c (put f w ns fs).1 (put f w ns fs).2)) else .no
      | _ => .no)
    | _ => .no)
  | .expr e, σ, h => (evE T cl e σ h).toS σ fun _ h1 => .nx σ h1
  | .ret e, σ, h => (evE T cl e σ h).toS σ fun w h1 => .ret w h1
  | .retN, _, h => .ret .non h
  | .ifs c a b, σ, h => (evE T cl c σ h).toS σ fun x h1 => (match x with
    | .bl true => evS T cl a σ h1
    | .bl false => evS T cl b σ h1
    | _ => .no)
  | .wh c b, σ, h => whL (fun σ' h' => evE T cl c σ' h') (fun σ' h' => evS T cl b σ' h') T.wf σ h
  | .for_ tg it b, σ, h => (match evI T cl it σ h with
    | .ok p h1 => forL (fun σ' h' => evS T cl b σ' h') tg p.2 p.1 σ h1
    | .ex c ns fs h1 => .ex c ns fs σ h1
    | .no => .no)
  | .brk, σ, h => .brk σ h
  | .cont, σ, h => .cont σ h
  | .pass, σ, h => .nx σ h
  | .kill is, σ, h => .nx (wipeE σ is) h
  | .stop, _, _ => .no
  | .raise c es, σ, h => (evE T cl es σ h).toS σ fun ws h1 => (match T.ex c with
    | some ns => if ns.length = (items ws).length then .ex c ns (items ws) σ h1 else .no
    | none => .no)
/-- a def: its parameters' number, its slots' number, its body, its defaults -/
structure Def where
  np : Nat
  n : Nat
  body : S
  dfl : List W := []
def RS.toR : RS → R W
  | .nx _ h1 => .ok .non h1
  | .ret w h1 => .ok w h1
  | .ex c ns fs _ h1 => .ex c ns fs h1
  | _ => .no
def callD (T : Tab) (cl : Cl) (d : Def) (ws : List W) (h : LH) : R W :=
  let vs := ws ++ d.dfl.drop (d.dfl.length - (d.np - ws.length))
  if vs.length = d.np then (evS T cl d.body (vs.map some ++ List.replicate (d.n - d.np) none) h).toR else .no
/-- calls, at most n deep -/
def call (T : Tab) (D : String → Option Def) : Nat → Cl
  | 0 => fun _ _ _ => .no
  | n + 1 => fun f ws h => match D f with
    | some d => callD T (call T D n) d ws h
    | none => .no
end Mp
namespace Mp
open PySem PySem.Spec PyProof.Rows L2

/-- what the walk knows of the top -/
structure Gw where
  K : PySem.W.Frag
  ca : String → Addr
/-- where the logical heap's things stand; what is frozen; what is kept from everybody -/
structure Gh where
  io : List Addr
  Fz : Addr → Prop
  Pr : Addr → Prop

/-- a list that can't be changed -/
def SqR (K : PySem.W.Frag) (H : Hp) (a : Addr) (xs : List V) : Prop :=
  (∃ o, H a = some (.frz o (.lst xs))) ∨
    ∃ (o : Obj) (its : Array Value) (n : Nat), K.lookup a = some o ∧ o.cls = .type "list" ∧ o.dict = none ∧ o.data = .seq its n ∧ its.size ≤ sizeLine ∧ Vals xs its.toList
theorem SqR.sqL {K : PySem.W.Frag} {H : Hp} {a : Addr} {xs : List V} (h : SqR K H a xs) : SqL K H a xs := by
  rcases h with ⟨o, h⟩ | h
  · exact .inl (.inr ⟨o, h⟩)
  · exact .inr h

mutual
def RV (g : Gw) (G : Gh) (H : Hp) : W → V → Prop
  | .non, v => v = .non
  | .bl b, v => v = .bl b
  | .int i, v => v = .int i
  | .str s, v => v = .str (Str.ofString s)
  | .tup ws, v => ∃ p xs, v = .ref p ∧ SqT g.K H p xs ∧ RVs g G H ws xs
  | .fl ws, v => ∃ p xs, v = .ref p ∧ G.Fz p ∧ H p = some (.lst xs) ∧ RVs g G H ws xs
  | .rd ws, v => ∃ p xs, v = .ref p ∧ SqR g.K H p xs ∧ RVs g G H ws xs
  | .ref n, v => ∃ p, v = .ref p ∧ G.io[n]? = some p
  | .obj c ns fs, v => ∃ p dx xs, v = .ref p ∧ G.Fz p ∧ H p = some (.ins (g.ca c) dx ((ns.map Str.ofString).zip xs)) ∧ ns.length = fs.length ∧ RVs g G H fs xs
  | .exc _ _ _, _ => False
def RVs (g : Gw) (G : Gh) (H : Hp) : List W → List V → Prop
  | [], xs => xs = []
  | w :: ws, xs => ∃ x r, xs = x :: r ∧ RV g G H w x ∧ RVs g G H ws r
end

/-- values stay what they are -/
structure Mono (g : Gw) (G : Gh) (H : Hp) (G' : Gh) (H' : Hp) : Prop where
  pre : ∀ (i : Nat) (p : Addr), G.io[i]? = some p → G'.io[i]? = some p
  fz : ∀ p, G.Fz p → G'.Fz p ∧ H' p = H p
  tup : ∀ p xs, SqT g.K H p xs → SqT g.K H' p xs
  rd : ∀ p xs, SqR g.K H p xs → SqR g.K H' p xs
mutual
theorem RV.mono {g : Gw} {G G' : Gh} {H H' : Hp} (m : Mono g G H G' H') : ∀ {w : W} {v : V}, RV g G H w v → RV g G' H' w v
  | .non, _, h => h
  | .bl _, _, h => h
  | .int _, _, h => h
  | .str _, _, h => h
  | .tup ws, _, h => by
    unfold RV at h ⊢
    obtain ⟨p, xs, e, s, r⟩ := h
    exact ⟨p, xs, e, m.tup _ _ s, RVs.mono m r⟩
  | .fl ws, _, h => by
    unfold RV at h ⊢
    obtain ⟨p, xs, e, s, q, r⟩ := h
    exact ⟨p, xs, e, (m.fz _ s).1, (m.fz _ s).2.trans q, RVs.mono m r⟩
  | .rd ws, _, h => by
    unfold RV at h ⊢
    obtain ⟨p, xs, e, s, r⟩ := h
    exact ⟨p, xs, e, m.rd _ _ s, RVs.mono m r⟩
  | .ref n, _, h => by
    unfold RV at h ⊢
    obtain ⟨p, e, s⟩ := h
    exact ⟨p, e, m.pre _ _ s⟩
  | .obj c ns fs, _, h => by
    unfold RV at h ⊢
    obtain ⟨p, dx, xs, e, s, q, l, r⟩ := h
    exact ⟨p, dx, xs, e, (m.fz _ s).1, (m.fz _ s).2.trans q, l, RVs.mono m r⟩
  | .exc _ _ _, _, h => by unfold RV at h; exact h.elim
theorem RVs.mono {g : Gw} {G G' : Gh} {H H' : Hp} (m : Mono g G H G' H') : ∀ {ws : List W} {xs : List V}, RVs g G H ws xs → RVs g G' H' ws xs
  | [], _, h => h
  | w :: ws, _, h => by
    unfold RVs at h ⊢
    obtain ⟨x, r, e, a, b⟩ := h
    exact ⟨x, r, e, RV.mono m a, RVs.mono m b⟩
end

section
variable {g : Gw} {G G' G1 G2 : Gh} {H H' H1 H2 : Hp}
theorem RVs.nil : RVs g G H [] [] := by unfold RVs; rfl
theorem RVs.cons {w : W} {ws : List W} {x : V} {xs : List V} (a : RV g G H w x) (b : RVs g G H ws xs) : RVs g G H (w :: ws) (x :: xs) := by
  unfold RVs; exact ⟨x, xs, rfl, a, b⟩
theorem RVs.length : ∀ {ws : List W} {xs : List V}, RVs g G H ws xs → ws.length = xs.length
  | [], _, h => by unfold RVs at h; subst h; rfl
  | w :: ws, _, h => by
    unfold RVs at h
    obtain ⟨x, r, rfl, _, b⟩ := h
    exact congrArg Nat.succ (RVs.length b)
theorem RVs.get : ∀ {ws : List W} {xs : List V} {i : Nat} {w : W}, RVs g G H ws xs → ws[i]? = some w → ∃ x, xs[i]? = some x ∧ RV g G H w x
  | [], _, _, _, _, e => by simp at e
  | v :: ws, _, 0, w, h, e => by
    unfold RVs at h
    obtain ⟨x, r, rfl, a, _⟩ := h
    simp at e
    subst e
    exact ⟨x, rfl, a⟩
  | v :: ws, _, i + 1, w, h, e => by
    unfold RVs at h
    obtain ⟨x, r, rfl, _, b⟩ := h
    have e' : ws[i]? = some w := by simpa using e
    obtain ⟨y, h1, h2⟩ := RVs.get b e'
    exact ⟨y, by simpa using h1, h2⟩
theorem RVs.append : ∀ {ws us : List W} {xs ys : List V}, RVs g G H ws xs → RVs g G H us ys → RVs g G H (ws ++ us) (xs ++ ys)
  | [], _, _, _, h, k => by unfold RVs at h; subst h; exact k
  | w :: ws, _, _, _, h, k => by
    unfold RVs at h
    obtain ⟨x, r, rfl, a, b⟩ := h
    exact RVs.cons a (RVs.append b k)
theorem RVs.take : ∀ {ws : List W} {xs : List V} (n : Nat), RVs g G H ws xs → RVs g G H (ws.take n) (xs.take n)
  | _, _, 0, _ => by simp; exact RVs.nil
  | [], _, n + 1, h => by unfold RVs at h; subst h; exact RVs.nil
  | w :: ws, _, n + 1, h => by
    unfold RVs at h
    obtain ⟨x, r, rfl, a, b⟩ := h
    exact RVs.cons a (RVs.take n b)
theorem RVs.drop : ∀ {ws : List W} {xs : List V} (n : Nat), RVs g G H ws xs → RVs g G H (ws.drop n) (xs.drop n)
  | _, _, 0, h => h
  | [], _, n + 1, h => by unfold RVs at h; subst h; exact RVs.nil
  | w :: ws, _, n + 1, h => by
    unfold RVs at h
    obtain ⟨x, r, rfl, a, b⟩ := h
    exact RVs.drop n b
theorem RVs.set {v : W} {y : V} (q : RV g G H v y) : ∀ {ws : List W} {xs : List V} (n : Nat), RVs g G H ws xs → RVs g G H (ws.set n v) (xs.set n y)
  | [], _, _, h => by unfold RVs at h; subst h; exact RVs.nil
  | w :: ws, _, 0, h => by
    unfold RVs at h
    obtain ⟨x, r, rfl, a, b⟩ := h
    exact RVs.cons q b
  | w :: ws, _, n + 1, h => by
    unfold RVs at h
    obtain ⟨x, r, rfl, a, b⟩ := h
    exact RVs.cons a (RVs.set q n b)
theorem RVs.reverse : ∀ {ws : List W} {xs : List V}, RVs g G H ws xs → RVs g G H ws.reverse xs.reverse
  | [], _, h => by unfold RVs at h; subst h; exact RVs.nil
  | w :: ws, _, h => by
    unfold RVs at h
    obtain ⟨x, r, rfl, a, b⟩ := h
    rw [List.reverse_cons, List.reverse_cons]
    exact RVs.append (RVs.reverse b) (RVs.cons a RVs.nil)
theorem RVs.ints : ∀ {ns : List Int} {xs : List V}, RVs g G H (ns.map W.int) xs → xs = ns.map V.int
  | [], _, h => by unfold RVs at h; subst h; rfl
  | n :: ns, _, h => by
    rw [List.map_cons] at h
    unfold RVs at h
    obtain ⟨x, r, rfl, a, b⟩ := h
    unfold RV at a
    subst a
    rw [RVs.ints b]; rfl
theorem RVs.of_ints : ∀ ns : List Int, RVs g G H (ns.map W.int) (ns.map V.int)
  | [] => RVs.nil
  | n :: ns => RVs.cons (by unfold RV; rfl) (RVs.of_ints ns)
theorem RVs.bls : ∀ {ns : List Bool} {xs : List V}, RVs g G H (ns.map W.bl) xs → xs = ns.map V.bl
  | [], _, h => by unfold RVs at h; subst h; rfl
  | n :: ns, _, h => by
    rw [List.map_cons] at h
    unfold RVs at h
    obtain ⟨x, r, rfl, a, b⟩ := h
    unfold RV at a
    subst a
    rw [RVs.bls b]; rfl

/-- the world goes on -/
structure Ext (g : Gw) (G : Gh) (H : Hp) (G' : Gh) (H' : Hp) : Prop extends Mono g G H G' H' where
  pr : G'.Pr = G.Pr
  kept : ∀ p, G.Pr p → H' p = H p
theorem Ext.refl : Ext g G H G H := ⟨⟨fun _ _ h => h, fun _ h => ⟨h, rfl⟩, fun _ _ h => h, fun _ _ h => h⟩, rfl, fun _ _ => rfl⟩
theorem Ext.trans (a : Ext g G H G1 H1) (b : Ext g G1 H1 G2 H2) : Ext g G H G2 H2 :=
  ⟨⟨fun i p h => b.pre i p (a.pre i p h), fun p h => ⟨(b.fz p (a.fz p h).1).1, (b.fz p (a.fz p h).1).2.trans (a.fz p h).2⟩, fun p xs h => b.tup p xs (a.tup p xs h), fun p xs h => b.rd p xs (a.rd p xs h)⟩,
    b.pr.trans a.pr, fun p h => (b.kept p (by rw [a.pr]; exact h)).trans (a.kept p h)⟩

/-- what an object of the logical heap is -/
def RO (g : Gw) (G : Gh) (H : Hp) : O → HO → Prop
  | .lst ws, ho => ∃ xs, ho = .lst xs ∧ RVs g G H ws xs
  | .ins c ns fs, ho => ∃ dx xs, ho = .ins (g.ca c) dx ((ns.map Str.ofString).zip xs) ∧ ns.length = fs.length ∧ RVs g G H fs xs
  | .dic _ _, _ => False
  | .dead, _ => True
theorem RO.mono (m : Mono g G H G' H') : ∀ {o : O} {ho : HO}, RO g G H o ho → RO g G' H' o ho
  | .lst ws, _, ⟨xs, e, r⟩ => ⟨xs, e, r.mono m⟩
  | .ins c ns fs, _, ⟨dx, xs, e, l, r⟩ => ⟨dx, xs, e, l, r.mono m⟩
  | .dic _ _, _, h => h.elim
  | .dead, _, _ => trivial
/-- the logical heap stands -/
structure Rep (g : Gw) (G : Gh) (lh : LH) (H : Hp) : Prop where
  len : G.io.length = lh.length
  nd : G.io.Nodup
  ob : ∀ (i : Nat) (o : O), lh[i]? = some o → ∃ p ho, G.io[i]? = some p ∧ H p = some ho ∧ RO g G H o ho
  fz : ∀ p, G.Fz p → H p ≠ none
  pr : ∀ p, G.Pr p → H p ≠ none
  sep : ∀ (i : Nat) (o : O) (p : Addr), lh[i]? = some o → G.io[i]? = some p → o ≠ .dead → ¬ G.Fz p ∧ ¬ G.Pr p
  inn : ∀ p, p ∈ G.io → H p ≠ none
  pz : ∀ p, G.Pr p → ¬ G.Fz p
  ip : ∀ p, p ∈ G.io → ¬ G.Pr p

theorem upd_at {H : Hp} {p q : Addr} {o : HO} (h : H q ≠ none) (hp : H p = none) : upd H p o q = H q := upd_ne (fun e => h (e ▸ hp))
theorem SqT.updn {K : PySem.W.Frag} {p q : Addr} {xs : List V} {o : HO} (h : SqT K H q xs) (hp : ∀ u, H p = some u → ¬ (∃ ys, u = .tup ys) ∧ ¬ (∃ ob ys, u = .frz ob (.tup ys))) : SqT K (upd H p o) q xs := by
  rcases h with h | h
  · refine .inl ?_
    rcases h with h | ⟨ob, h⟩
    · refine .inl ?_
      rw [upd_ne]
      · exact h
      · intro e
        subst e
        exact (hp _ h).1 ⟨xs, rfl⟩
    · refine .inr ⟨ob, ?_⟩
      rw [upd_ne]
      · exact h
      · intro e
        subst e
        exact (hp _ h).2 ⟨ob, xs, rfl⟩
  · exact .inr h
theorem SqR.updn {K : PySem.W.Frag} {p q : Addr} {xs : List V} {o : HO} (h : SqR K H q xs) (hp : ∀ u, H p = some u → ¬ (∃ ob ys, u = .frz ob (.lst ys))) : SqR K (upd H p o) q xs := by
  rcases h with ⟨ob, h⟩ | h
  · refine .inl ⟨ob, ?_⟩
    rw [upd_ne]
    · exact h
    · intro e
      subst e
      exact hp _ h ⟨ob, xs, rfl⟩
  · exact .inr h
/-- an object that is neither frozen nor kept nor a tuple is written -/
def Wri (G : Gh) (p : Addr) (u : HO) : Prop := ¬ G.Fz p ∧ ((∃ xs, u = .lst xs) ∨ (∃ C dx fs, u = .ins C dx fs) ∨ (∃ kvs, u = .dK kvs) ∨ (∃ kvs, u = .dT kvs))
theorem Mono.write {p : Addr} {u o : HO} (h : H p = some u) (w : Wri G p u) : Mono g G H G (upd H p o) := by
  have hu : ∀ v, H p = some v → ¬ (∃ ys, v = .tup ys) ∧ ¬ (∃ ob ys, v = .frz ob (.tup ys)) ∧ ¬ (∃ ob ys, v = .frz ob (.lst ys)) := fun v e => by
    rw [h] at e; cases e
    rcases w.2 with ⟨_, rfl⟩ | ⟨_, _, _, rfl⟩ | ⟨_, rfl⟩ | ⟨_, rfl⟩ <;> refine ⟨?_, ?_, ?_⟩ <;> simp
  refine ⟨fun _ _ h => h, fun q hq => ⟨hq, upd_ne fun e => w.1 (e ▸ hq)⟩, fun q xs s => SqT.updn s fun v e => ⟨(hu v e).1, (hu v e).2.1⟩, fun q xs s => SqR.updn s fun v e => (hu v e).2.2⟩
theorem Ext.write {p : Addr} {u o : HO} (h : H p = some u) (w : Wri G p u) (k : ¬ G.Pr p) : Ext g G H G (upd H p o) :=
  ⟨Mono.write h w, rfl, fun q hq => upd_ne fun e => k (e ▸ hq)⟩
theorem Mono.fresh {p : Addr} {o : HO} (hp : H p = none) (fz : ∀ q, G.Fz q → H q ≠ none) (pre : ∀ (i : Nat) (q : Addr), G.io[i]? = some q → G'.io[i]? = some q) (fz' : ∀ q, G.Fz q → G'.Fz q) : Mono g G H G' (upd H p o) := by
  have no : ∀ u, H p = some u → False := fun u e => by rw [hp] at e; cases e
  exact ⟨pre, fun q hq => ⟨fz' q hq, upd_at (fz q hq) hp⟩, fun q xs s => SqT.updn s fun u e => (no u e).elim, fun q xs s => SqR.updn s fun u e => (no u e).elim⟩
/-- a new thing that the logical heap does not hold (a tuple, a frozen list, a pair that is handed over) -/
theorem Rep.new {lh : LH} {p : Addr} {o : HO} (r : Rep g G lh H) (hp : H p = none) (P : Prop) :
    Ext g G H ⟨G.io, fun q => G.Fz q ∨ (P ∧ q = p), G.Pr⟩ (upd H p o) ∧ Rep g ⟨G.io, fun q => G.Fz q ∨ (P ∧ q = p), G.Pr⟩ lh (upd H p o) := by
  have m : Mono g G H ⟨G.io, fun q => G.Fz q ∨ (P ∧ q = p), G.Pr⟩ (upd H p o) := Mono.fresh hp r.fz (fun _ _ h => h) fun _ h => .inl h
  have ne : ∀ q, H q ≠ none → upd H p o q = H q := fun q hq => upd_at hq hp
  refine ⟨⟨m, rfl, fun q hq => ne q (r.pr q hq)⟩, ⟨r.len, r.nd, fun i ob e => ?_, fun q hq => ?_, fun q hq => by rw [ne q (r.pr q hq)]; exact r.pr q hq, fun i ob q e e2 d => ?_, fun q hq => by rw [ne q (r.inn q hq)]; exact r.inn q hq, fun q hq => ?_, r.ip⟩⟩
  · obtain ⟨q, ho, h1, h2, h3⟩ := r.ob i ob e
    exact ⟨q, ho, h1, by rw [ne q (by rw [h2]; simp)]; exact h2, h3.mono m⟩
  · rcases hq with hq | ⟨_, rfl⟩
    · rw [ne q (r.fz q hq)]; exact r.fz q hq
    · rw [upd_same]; simp
  · obtain ⟨h1, h2⟩ := r.sep i ob q e e2 d
    refine ⟨fun hq => ?_, h2⟩
    rcases hq with hq | ⟨_, rfl⟩
    · exact h1 hq
    · obtain ⟨q2, ho, k1, k2, _⟩ := r.ob i ob e
      have : q2 = q := Option.some.inj (k1.symm.trans e2)
      subst this
      rw [hp] at k2; cases k2
  · rintro (h | ⟨_, rfl⟩)
    · exact r.pz q hq h
    · exact r.pr q hq hp
/-- nothing is frozen: a new tuple -/
theorem Rep.tup {lh : LH} {p : Addr} {xs : List V} (r : Rep g G lh H) (hp : H p = none) : Ext g G H G (upd H p (.tup xs)) ∧ Rep g G lh (upd H p (.tup xs)) := by
  have h := r.new (o := .tup xs) hp False
  have e : (fun q => G.Fz q ∨ (False ∧ q = p)) = G.Fz := by funext q; simp
  rw [e] at h
  exact h
/-- a new frozen thing -/
theorem Rep.frozen {lh : LH} {p : Addr} {o : HO} (r : Rep g G lh H) (hp : H p = none) : Ext g G H ⟨G.io, fun q => G.Fz q ∨ q = p, G.Pr⟩ (upd H p o) ∧ Rep g ⟨G.io, fun q => G.Fz q ∨ q = p, G.Pr⟩ lh (upd H p o) := by
  have h := r.new (o := o) hp True
  have e : (fun q => G.Fz q ∨ (True ∧ q = p)) = fun q => G.Fz q ∨ q = p := by funext q; simp
  rw [e] at h
  exact h
/-- a new thing of the logical heap -/
theorem Rep.alloc {lh : LH} {p : Addr} {o : HO} {ob : O} (r : Rep g G lh H) (hp : H p = none) (ro : RO g ⟨G.io ++ [p], G.Fz, G.Pr⟩ (upd H p o) ob o) :
    Ext g G H ⟨G.io ++ [p], G.Fz, G.Pr⟩ (upd H p o) ∧ Rep g ⟨G.io ++ [p], G.Fz, G.Pr⟩ (lh ++ [ob]) (upd H p o) := by
  have pre : ∀ (i : Nat) q, G.io[i]? = some q → (G.io ++ [p])[i]? = some q := fun i q h => by
    rw [List.getElem?_append_left (List.getElem?_eq_some_iff.mp h).1]; exact h
  have m : Mono g G H ⟨G.io ++ [p], G.Fz, G.Pr⟩ (upd H p o) := Mono.fresh hp r.fz pre fun _ h => h
  have ne : ∀ q, H q ≠ none → upd H p o q = H q := fun q hq => upd_at hq hp
  have np : p ∉ G.io := fun h => r.inn p h hp
  refine ⟨⟨m, rfl, fun q hq => ne q (r.pr q hq)⟩, ⟨by simp [r.len], ?_, fun i u e => ?_, fun q hq => by rw [ne q (r.fz q hq)]; exact r.fz q hq, fun q hq => by rw [ne q (r.pr q hq)]; exact r.pr q hq, fun i u q e e2 d => ?_, fun q hq => ?_, r.pz, fun q hq => ?_⟩⟩
  · rw [List.nodup_append]
    exact ⟨r.nd, by simp, fun a ha b hb e => np (by simp at hb; rw [← hb, ← e]; exact ha)⟩
  · by_cases hi : i < lh.length
    · rw [List.getElem?_append_left hi] at e
      obtain ⟨q, ho, h1, h2, h3⟩ := r.ob i u e
      exact ⟨q, ho, pre i q h1, by rw [ne q (by rw [h2]; simp)]; exact h2, h3.mono m⟩
    · have hl : i < (lh ++ [ob]).length := (List.getElem?_eq_some_iff.mp e).1
      have hi2 : i = lh.length := by simp at hl; omega
      subst hi2
      simp at e
      subst e
      exact ⟨p, o, by rw [← r.len]; simp, upd_same, ro⟩
  · by_cases hi : i < lh.length
    · rw [List.getElem?_append_left hi] at e
      have e3 : G.io[i]? = some q := by
        have e2' : (G.io ++ [p])[i]? = some q := e2
        rw [List.getElem?_append_left (by rw [r.len]; exact hi)] at e2'
        exact e2'
      exact r.sep i u q e e3 d
    · have hl : i < (lh ++ [ob]).length := (List.getElem?_eq_some_iff.mp e).1
      have hi2 : i = lh.length := by simp at hl; omega
      subst hi2
      have e2' : (G.io ++ [p])[lh.length]? = some q := e2
      rw [← r.len] at e2'
      simp at e2'
      subst e2'
      exact ⟨fun h => r.fz _ h hp, fun h => r.pr _ h hp⟩
  · rcases List.mem_append.mp hq with h | h
    · rw [ne q (r.inn q h)]; exact r.inn q h
    · simp at h
      subst h
      rw [upd_same]; simp
  · rcases List.mem_append.mp hq with h | h
    · exact r.ip q h
    · simp at h
      subst h
      exact fun z => r.pr _ z hp
theorem Rep.at (r : Rep g G lh H) {n : Nat} {p : Addr} {o : O} (hn : lh[n]? = some o) (hp : G.io[n]? = some p) : ∃ ho, H p = some ho ∧ RO g G H o ho := by
  obtain ⟨q, ho, h1, h2, h3⟩ := r.ob n o hn
  have : q = p := Option.some.inj (h1.symm.trans hp)
  subst this
  exact ⟨ho, h2, h3⟩
theorem Rep.lst (r : Rep g G lh H) {n : Nat} {p : Addr} {ws : List W} (hn : lh[n]? = some (.lst ws)) (hp : G.io[n]? = some p) : ∃ xs, H p = some (.lst xs) ∧ RVs g G H ws xs := by
  obtain ⟨ho, h1, xs, rfl, h2⟩ := r.at hn hp
  exact ⟨xs, h1, h2⟩
theorem io_inj (r : Rep g G lh H) {i j : Nat} {p : Addr} (hi : G.io[i]? = some p) (hj : G.io[j]? = some p) : i = j := by
  obtain ⟨li, ei⟩ := List.getElem?_eq_some_iff.mp hi
  obtain ⟨lj, ej⟩ := List.getElem?_eq_some_iff.mp hj
  exact (List.getElem_inj r.nd).mp (ei.trans ej.symm)
/-- a thing of the logical heap is changed -/
theorem Rep.write {lh : LH} {n : Nat} {p : Addr} {o o' : O} {ho ho' : HO} (r : Rep g G lh H) (hn : lh[n]? = some o) (hp : G.io[n]? = some p) (hd : o ≠ .dead) (hH : H p = some ho)
    (hw : (∃ xs, ho = .lst xs) ∨ (∃ C dx fs, ho = .ins C dx fs) ∨ (∃ kvs, ho = .dK kvs) ∨ (∃ kvs, ho = .dT kvs)) (ro : RO g G (upd H p ho') o' ho') :
    Ext g G H G (upd H p ho') ∧ Rep g G (lh.set n o') (upd H p ho') := by
  obtain ⟨s1, s2⟩ := r.sep n o p hn hp hd
  have x : Ext g G H G (upd H p ho') := Ext.write hH ⟨s1, hw⟩ s2
  have nn : ∀ q, H q ≠ none → upd H p ho' q ≠ none := fun q hq => by
    by_cases e : q = p
    · subst e; rw [upd_same]; simp
    · rw [upd_ne e]; exact hq
  refine ⟨x, ⟨by simp [r.len], r.nd, fun i u e => ?_, fun q hq => nn q (r.fz q hq), fun q hq => nn q (r.pr q hq), fun i u q e e2 d => ?_, fun q hq => nn q (r.inn q hq), r.pz, r.ip⟩⟩
  · by_cases hi : i = n
    · subst hi
      have : u = o' := by
        rw [List.getElem?_set_self (List.getElem?_eq_some_iff.mp hn).1] at e
        exact (Option.some.inj e).symm
      subst this
      exact ⟨p, ho', hp, upd_same, ro⟩
    · rw [List.getElem?_set_ne (Ne.symm hi)] at e
      obtain ⟨q, h1, k1, k2, k3⟩ := r.ob i u e
      have : q ≠ p := fun z => hi (io_inj r k1 (z ▸ hp))
      exact ⟨q, h1, k1, by rw [upd_ne this]; exact k2, k3.mono x.toMono⟩
  · by_cases hi : i = n
    · subst hi
      exact r.sep i o q hn e2 hd
    · rw [List.getElem?_set_ne (Ne.symm hi)] at e
      exact r.sep i u q e e2 d
/-- a thing of the logical heap is frozen -/
theorem Rep.freeze {lh : LH} {n : Nat} {p : Addr} {o : O} (r : Rep g G lh H) (hn : lh[n]? = some o) (hp : G.io[n]? = some p) (hd : o ≠ .dead) :
    Ext g G H ⟨G.io, fun q => G.Fz q ∨ q = p, G.Pr⟩ H ∧ Rep g ⟨G.io, fun q => G.Fz q ∨ q = p, G.Pr⟩ (lh.set n .dead) H := by
  obtain ⟨s1, s2⟩ := r.sep n o p hn hp hd
  have x : Ext g G H ⟨G.io, fun q => G.Fz q ∨ q = p, G.Pr⟩ H := ⟨⟨fun _ _ h => h, fun _ h => ⟨.inl h, rfl⟩, fun _ _ h => h, fun _ _ h => h⟩, rfl, fun _ _ => rfl⟩
  obtain ⟨p', ho, a1, a2, _⟩ := r.ob n o hn
  have : p' = p := Option.some.inj (a1.symm.trans hp)
  subst this
  refine ⟨x, ⟨by simp [r.len], r.nd, fun i u e => ?_, fun q hq => ?_, r.pr, fun i u q e e2 d => ?_, r.inn, fun q hq => ?_, r.ip⟩⟩
  · by_cases hi : i = n
    · subst hi
      rw [List.getElem?_set_self (List.getElem?_eq_some_iff.mp hn).1] at e
      cases e
      exact ⟨p', ho, hp, a2, trivial⟩
    · rw [List.getElem?_set_ne (Ne.symm hi)] at e
      obtain ⟨q, h1, k1, k2, k3⟩ := r.ob i u e
      exact ⟨q, h1, k1, k2, k3.mono x.toMono⟩
  · rcases hq with h | h
    · exact r.fz q h
    · subst h; rw [a2]; simp
  · by_cases hi : i = n
    · subst hi
      rw [List.getElem?_set_self (List.getElem?_eq_some_iff.mp hn).1] at e
      cases e
      exact absurd rfl d
    · rw [List.getElem?_set_ne (Ne.symm hi)] at e
      obtain ⟨k1, k2⟩ := r.sep i u q e e2 d
      refine ⟨?_, k2⟩
      rintro (h | h)
      · exact k1 h
      · subst h
        exact hi (io_inj r e2 hp)
  · rintro (h | h)
    · exact r.pz q hq h
    · subst h; exact s2 hq
/-- only what is kept from everybody differs -/
theorem RV.io {P P' : Addr → Prop} {io : List Addr} {Fz : Addr → Prop} {w : W} {v : V} (r : RV g ⟨io, Fz, P⟩ H w v) : RV g ⟨io, Fz, P'⟩ H w v :=
  RV.mono (G := ⟨io, Fz, P⟩) (G' := ⟨io, Fz, P'⟩) ⟨fun _ _ h => h, fun _ h => ⟨h, rfl⟩, fun _ _ h => h, fun _ _ h => h⟩ r
/-- a new thing of our own -/
theorem Rep.own {lh : LH} {D : Addr} {o : HO} (r : Rep g G lh H) (hD : H D = none) :
    Mono g G H ⟨G.io, G.Fz, fun q => G.Pr q ∨ q = D⟩ (upd H D o) ∧ Rep g ⟨G.io, G.Fz, fun q => G.Pr q ∨ q = D⟩ lh (upd H D o) := by
  have m : Mono g G H ⟨G.io, G.Fz, fun q => G.Pr q ∨ q = D⟩ (upd H D o) := Mono.fresh hD r.fz (fun _ _ h => h) fun _ h => h
  have ne : ∀ q, H q ≠ none → upd H D o q = H q := fun q hq => upd_at hq hD
  refine ⟨m, ⟨r.len, r.nd, fun i ob e => ?_, fun q hq => by rw [ne q (r.fz q hq)]; exact r.fz q hq, fun q hq => ?_, fun i ob q e e2 d => ?_, fun q hq => by rw [ne q (r.inn q hq)]; exact r.inn q hq, fun q hq => ?_, fun q hq => ?_⟩⟩
  · obtain ⟨q, ho, h1, h2, h3⟩ := r.ob i ob e
    exact ⟨q, ho, h1, by rw [ne q (by rw [h2]; simp)]; exact h2, h3.mono m⟩
  · rcases hq with hq | rfl
    · rw [ne q (r.pr q hq)]; exact r.pr q hq
    · rw [upd_same]; simp
  · obtain ⟨h1, h2⟩ := r.sep i ob q e e2 d
    refine ⟨h1, ?_⟩
    rintro (h | h)
    · exact h2 h
    · subst h
      exact r.inn _ (List.mem_of_getElem? e2) hD
  · rcases hq with hq | rfl
    · exact r.pz q hq
    · exact fun h => r.fz _ h hD
  · rintro (h | rfl)
    · exact r.ip q hq h
    · exact r.inn _ hq hD
/-- our own thing is changed -/
theorem Rep.mine {lh : LH} {D : Addr} {u o : HO} (r : Rep g G lh H) (hP : G.Pr D) (hD : H D = some u) (hu : (∃ xs, u = .lst xs) ∨ (∃ C dx fs, u = .ins C dx fs) ∨ (∃ kvs, u = .dK kvs) ∨ (∃ kvs, u = .dT kvs)) :
    Mono g G H G (upd H D o) ∧ Rep g G lh (upd H D o) := by
  have m : Mono g G H G (upd H D o) := Mono.write hD ⟨r.pz D hP, hu⟩
  have nn : ∀ q, H q ≠ none → upd H D o q ≠ none := fun q hq => by
    by_cases e : q = D
    · subst e; rw [upd_same]; simp
    · rw [upd_ne e]; exact hq
  refine ⟨m, ⟨r.len, r.nd, fun i ob e => ?_, fun q hq => nn q (r.fz q hq), fun q hq => nn q (r.pr q hq), r.sep, fun q hq => nn q (r.inn q hq), r.pz, r.ip⟩⟩
  obtain ⟨q, ho, h1, h2, h3⟩ := r.ob i ob e
  have qd : q ≠ D := fun z => r.ip q (List.mem_of_getElem? h1) (by rw [z]; exact hP)
  exact ⟨q, ho, h1, by rw [upd_ne qd]; exact h2, h3.mono m⟩
/-- our own thing is given away, frozen -/
theorem Rep.giveF {lh : LH} {D : Addr} {P : Addr → Prop} (r : Rep g G lh H) (hP : G.Pr = fun q => P q ∨ q = D) (hn : ¬ P D) (hD : H D ≠ none) :
    Mono g G H ⟨G.io, fun q => G.Fz q ∨ q = D, P⟩ H ∧ Rep g ⟨G.io, fun q => G.Fz q ∨ q = D, P⟩ lh H := by
  have m : Mono g G H ⟨G.io, fun q => G.Fz q ∨ q = D, P⟩ H := ⟨fun _ _ h => h, fun _ h => ⟨.inl h, rfl⟩, fun _ _ h => h, fun _ _ h => h⟩
  have p1 : ∀ q, P q → G.Pr q := fun q h => by rw [hP]; exact .inl h
  have p2 : G.Pr D := by rw [hP]; exact .inr rfl
  refine ⟨m, ⟨r.len, r.nd, fun i ob e => ?_, fun q hq => ?_, fun q hq => r.pr q (p1 q hq), fun i ob q e e2 d => ?_, r.inn, fun q hq => ?_, fun q hq h => r.ip q hq (p1 q h)⟩⟩
  · obtain ⟨q, ho, h1, h2, h3⟩ := r.ob i ob e
    exact ⟨q, ho, h1, h2, h3.mono m⟩
  · rcases hq with h | rfl
    · exact r.fz q h
    · exact hD
  · obtain ⟨h1, h2⟩ := r.sep i ob q e e2 d
    refine ⟨?_, fun h => h2 (p1 q h)⟩
    rintro (h | rfl)
    · exact h1 h
    · exact h2 p2
  · rintro (h | rfl)
    · exact r.pz q (p1 q hq) h
    · exact hn hq
/-- our own thing is given away -/
theorem Rep.giveL {lh : LH} {D : Addr} {P : Addr → Prop} {ws : List W} {xs : List V} (r : Rep g G lh H) (hP : G.Pr = fun q => P q ∨ q = D) (hn : ¬ P D) (hD : H D = some (.lst xs)) (rs : RVs g G H ws xs) :
    Mono g G H ⟨G.io ++ [D], G.Fz, P⟩ H ∧ Rep g ⟨G.io ++ [D], G.Fz, P⟩ (lh ++ [.lst ws]) H := by
  have pre : ∀ (i : Nat) q, G.io[i]? = some q → (G.io ++ [D])[i]? = some q := fun i q h => by
    rw [List.getElem?_append_left (List.getElem?_eq_some_iff.mp h).1]; exact h
  have m : Mono g G H ⟨G.io ++ [D], G.Fz, P⟩ H := ⟨pre, fun _ h => ⟨h, rfl⟩, fun _ _ h => h, fun _ _ h => h⟩
  have p1 : ∀ q, P q → G.Pr q := fun q h => by rw [hP]; exact .inl h
  have p2 : G.Pr D := by rw [hP]; exact .inr rfl
  have np : D ∉ G.io := fun h => r.ip D h p2
  refine ⟨m, ⟨by simp [r.len], ?_, fun i u e => ?_, r.fz, fun q hq => r.pr q (p1 q hq), fun i u q e e2 d => ?_, fun q hq => ?_, fun q hq => r.pz q (p1 q hq), fun q hq => ?_⟩⟩
  · rw [List.nodup_append]
    exact ⟨r.nd, by simp, fun a ha b hb e => np (by simp at hb; rw [← hb, ← e]; exact ha)⟩
  · by_cases hi : i < lh.length
    · rw [List.getElem?_append_left hi] at e
      obtain ⟨q, ho, h1, h2, h3⟩ := r.ob i u e
      exact ⟨q, ho, pre i q h1, h2, h3.mono m⟩
    · have hl : i < (lh ++ [O.lst ws]).length := (List.getElem?_eq_some_iff.mp e).1
      have hi2 : i = lh.length := by simp at hl; omega
      subst hi2
      simp at e
      subst e
      exact ⟨D, _, by rw [← r.len]; simp, hD, xs, rfl, rs.mono m⟩
  · by_cases hi : i < lh.length
    · rw [List.getElem?_append_left hi] at e
      have e3 : G.io[i]? = some q := by
        have e2' : (G.io ++ [D])[i]? = some q := e2
        rw [List.getElem?_append_left (by rw [r.len]; exact hi)] at e2'
        exact e2'
      exact ⟨(r.sep i u q e e3 d).1, fun h => (r.sep i u q e e3 d).2 (p1 q h)⟩
    · have hl : i < (lh ++ [O.lst ws]).length := (List.getElem?_eq_some_iff.mp e).1
      have hi2 : i = lh.length := by simp at hl; omega
      subst hi2
      have e2' : (G.io ++ [D])[lh.length]? = some q := e2
      rw [← r.len] at e2'
      simp at e2'
      subst e2'
      exact ⟨r.pz _ p2, hn⟩
  · rcases List.mem_append.mp hq with h | h
    · exact r.inn q h
    · simp at h
      subst h
      rw [hD]; simp
  · rcases List.mem_append.mp hq with h | h
    · exact fun z => r.ip q h (p1 q z)
    · simp at h
      subst h
      exact hn
end
end Mp
namespace Mp
open PySem PySem.Spec PyProof.Rows L2

/-- an exception on its way -/
def RX (g : Gw) (G : Gh) (H : Hp) (c : String) (ns : List String) (fs : List W) (cls : Value) (d : Option Addr) : Prop :=
  cls = Value.ref (g.ca c) ∧ ns.length = fs.length ∧ (ns = [] ∨ ∃ dd xs, d = some dd ∧ H dd = some (.xd ((ns.map Str.ofString).zip xs)) ∧ RVs g G H fs xs)
def PostG {α β : Type} (g : Gw) (rel : Gh → Hp → α → β → Prop) (G : Gh) (H : Hp) (r : R α) (Q : β → Hp → Prop) (E : XK) : Prop := match r with
  | .ok a lh => ∀ G' H' b, Ext g G H G' H' → Rep g G' lh H' → rel G' H' a b → Q b H'
  | .ex c ns fs lh => ∀ G' H' cls d, Ext g G H G' H' → Rep g G' lh H' → RX g G' H' c ns fs cls d → E cls d H'
  | .no => False
section
variable {α β γ δ : Type} {g : Gw} {G G' G1 : Gh} {H H' H1 : Hp} {E : XK}
theorem PostG.mono {rel : Gh → Hp → α → β → Prop} {r : R α} {Q : β → Hp → Prop} (h : PostG g rel G H r Q E) (e : Ext g G H G' H') : PostG g rel G' H' r Q E := by
  cases r with
  | ok a lh => exact fun G2 H2 b e2 => h G2 H2 b (e.trans e2)
  | ex c ns fs lh => exact fun G2 H2 cls d e2 => h G2 H2 cls d (e.trans e2)
  | no => exact h
theorem PostG.bind {rel1 : Gh → Hp → α → β → Prop} {rel2 : Gh → Hp → γ → δ → Prop} {r : R α} {f : α → LH → R γ} {Q : δ → Hp → Prop} {Q1 : β → Hp → Prop} (h : PostG g rel2 G H (r.bind f) Q E)
    (k : ∀ a lh G1 H1 b, r = .ok a lh → Ext g G H G1 H1 → Rep g G1 lh H1 → rel1 G1 H1 a b → PostG g rel2 G1 H1 (f a lh) Q E → Q1 b H1) : PostG g rel1 G H r Q1 E := by
  cases r with
  | ok a lh => exact fun G2 H2 b e2 rp rb => k a lh G2 H2 b rfl e2 rp rb (PostG.mono (show PostG g rel2 G H (f a lh) Q E from h) e2)
  | ex c ns fs lh => exact h
  | no => exact h
theorem PostG.here {rel : Gh → Hp → α → β → Prop} {a : α} {lh : LH} {Q : β → Hp → Prop} {b : β} (h : PostG g rel G H (.ok a lh) Q E) (rp : Rep g G lh H) (rb : rel G H a b) : Q b H := h G H b Ext.refl rp rb
theorem PostG.at {rel : Gh → Hp → α → β → Prop} {a : α} {lh : LH} {Q : β → Hp → Prop} {b : β} (h : PostG g rel G H (.ok a lh) Q E) (e : Ext g G H G' H') (rp : Rep g G' lh H') (rb : rel G' H' a b) : Q b H' := h G' H' b e rp rb
end

section
variable {g : Gw} {G : Gh} {H : Hp} {lh : LH} {w : W} {ws : List W} {v : V}
theorem trk_spec (rp : Rep g G lh H) (rv : RV g G H w v) (e : trk lh w = some ws) : ∃ p xs, v = .ref p ∧ H p = some (.lst xs) ∧ RVs g G H ws xs := by
  unfold trk at e
  split at e
  · cases e
    unfold RV at rv
    obtain ⟨p, xs, a, _, b, c⟩ := rv
    exact ⟨p, xs, a, b, c⟩
  · rename_i n
    unfold RV at rv
    obtain ⟨p, a, b⟩ := rv
    split at e
    · rename_i xs hn
      cases e
      obtain ⟨ys, c, d⟩ := rp.lst hn b
      exact ⟨p, ys, a, c, d⟩
    · cases e
  · cases e
theorem lstOf_spec (rp : Rep g G lh H) (rv : RV g G H w v) (e : lstOf lh w = some ws) : ∃ p xs, v = .ref p ∧ SqL g.K H p xs ∧ RVs g G H ws xs := by
  unfold lstOf at e
  split at e
  · cases e
    unfold RV at rv
    obtain ⟨p, xs, a, _, b, c⟩ := rv
    exact ⟨p, xs, a, SqL.of b, c⟩
  · cases e
    unfold RV at rv
    obtain ⟨p, xs, a, b, c⟩ := rv
    exact ⟨p, xs, a, b.sqL, c⟩
  · rename_i n
    unfold RV at rv
    obtain ⟨p, a, b⟩ := rv
    split at e
    · rename_i xs hn
      cases e
      obtain ⟨ys, c, d⟩ := rp.lst hn b
      exact ⟨p, ys, a, SqL.of c, d⟩
    · cases e
  · cases e
theorem seqOf_spec (rp : Rep g G lh H) (rv : RV g G H w v) (e : seqOf lh w = some ws) : ∃ p xs, v = .ref p ∧ ((lstOf lh w = some ws ∧ SqL g.K H p xs) ∨ (w = .tup ws ∧ SqT g.K H p xs)) ∧ RVs g G H ws xs := by
  by_cases h : ∃ us, w = .tup us
  · obtain ⟨us, rfl⟩ := h
    unfold seqOf at e
    cases e
    unfold RV at rv
    obtain ⟨p, xs, a, b, c⟩ := rv
    exact ⟨p, xs, a, .inr ⟨rfl, b⟩, c⟩
  · have e2 : lstOf lh w = some ws := by
      cases w <;> first | exact e | exact (h ⟨_, rfl⟩).elim
    obtain ⟨p, xs, a, b, c⟩ := lstOf_spec rp rv e2
    exact ⟨p, xs, a, .inl ⟨e2, b⟩, c⟩
end

/-- an operation of two values -/
def rOp (g : Gw) (f : W → W → LH → R W) : R2 := fun x y H Q => ∃ (G : Gh) (lh : LH) (wx wy : W) (E : XK), Rep g G lh H ∧ RV g G H wx x ∧ RV g G H wy y ∧ PostG g (RV g) G H (f wx wy lh) Q E
theorem RV.int_eq {g : Gw} {G : Gh} {H : Hp} {i : Int} {v : V} (h : RV g G H (.int i) v) : v = .int i := by unfold RV at h; exact h
theorem RV.bl_eq {g : Gw} {G : Gh} {H : Hp} {i : Bool} {v : V} (h : RV g G H (.bl i) v) : v = .bl i := by unfold RV at h; exact h
theorem RV.non_eq {g : Gw} {G : Gh} {H : Hp} {v : V} (h : RV g G H .non v) : v = .non := by unfold RV at h; exact h
theorem RV.str_eq {g : Gw} {G : Gh} {H : Hp} {i : String} {v : V} (h : RV g G H (.str i) v) : v = .str (Str.ofString i) := by unfold RV at h; exact h
theorem rv_int {g : Gw} {G : Gh} {H : Hp} {i : Int} : RV g G H (.int i) (.int i) := by unfold RV; rfl
theorem rv_bl {g : Gw} {G : Gh} {H : Hp} {i : Bool} : RV g G H (.bl i) (.bl i) := by unfold RV; rfl
theorem rv_non {g : Gw} {G : Gh} {H : Hp} : RV g G H .non .non := by unfold RV; rfl
theorem rv_str {g : Gw} {G : Gh} {H : Hp} {i : String} : RV g G H (.str i) (.str (Str.ofString i)) := by unfold RV; rfl
theorem RV.tup_eq {g : Gw} {G : Gh} {H : Hp} {ws : List W} {v : V} (h : RV g G H (.tup ws) v) : ∃ p xs, v = .ref p ∧ SqT g.K H p xs ∧ RVs g G H ws xs := by unfold RV at h; exact h
theorem rv_tup {g : Gw} {G : Gh} {H : Hp} {ws : List W} {p : Addr} {xs : List V} (h : SqT g.K H p xs) (r : RVs g G H ws xs) : RV g G H (.tup ws) (.ref p) := by unfold RV; exact ⟨p, xs, rfl, h, r⟩
theorem rv_fl {g : Gw} {G : Gh} {H : Hp} {ws : List W} {p : Addr} {xs : List V} (z : G.Fz p) (h : H p = some (.lst xs)) (r : RVs g G H ws xs) : RV g G H (.fl ws) (.ref p) := by unfold RV; exact ⟨p, xs, rfl, z, h, r⟩
theorem rv_ref {g : Gw} {G : Gh} {H : Hp} {n : Nat} {p : Addr} (h : G.io[n]? = some p) : RV g G H (.ref n) (.ref p) := by unfold RV; exact ⟨p, rfl, h⟩
theorem big_line {n : Nat} (h : n ≤ big) : n ≤ sizeLine := Nat.le_trans h (by rw [sizeLine_eq]; decide)
theorem str_len (s : String) : (Str.ofString s).length = s.length := by
  rw [PySem.Str.ofString_eq_toList]
  show ((s.toList.map Char.toNat).toArray).size = s.length
  rw [List.size_toArray, List.length_map]
  exact String.length_toList
theorem str_app (s t : String) : Str.ofString (s ++ t) = Str.ofString s ++ Str.ofString t := by
  rw [PySem.Str.ofString_eq_toList, PySem.Str.ofString_eq_toList, PySem.Str.ofString_eq_toList]
  show (⟨_⟩ : Str) = ⟨_ ++ _⟩
  congr 1
  simp
theorem char_nat_inj {a b : Char} (h : a.toNat = b.toNat) : a = b := by
  apply Char.ext
  apply UInt32.toNat_inj.mp
  exact h
theorem map_nat_inj : ∀ {a b : List Char}, a.map Char.toNat = b.map Char.toNat → a = b
  | [], [], _ => rfl
  | [], _ :: _, h => by simp at h
  | _ :: _, [], h => by simp at h
  | x :: a, y :: b, h => by
    simp only [List.map_cons, List.cons.injEq] at h
    rw [char_nat_inj h.1, map_nat_inj h.2]
theorem str_inj {s t : String} (h : Str.ofString s = Str.ofString t) : s = t := by
  rw [PySem.Str.ofString_eq_toList, PySem.Str.ofString_eq_toList] at h
  have h2 : (s.toList.map Char.toNat).toArray = (t.toList.map Char.toNat).toArray := congrArg Str.cps h
  have h3 : s.toList.map Char.toNat = t.toList.map Char.toNat := by simpa using h2
  exact String.toList_inj.mp (map_nat_inj h3)
/-- a new frozen list is handed on -/
theorem post_fl {g : Gw} {G : Gh} {H : Hp} {lh : LH} {ws : List W} {xs : List V} {Q : VK} {E : XK} {p : Addr} (rp : Rep g G lh H) (r : RVs g G H ws xs) (h : PostG g (RV g) G H (.ok (.fl ws) lh) Q E) (hp : H p = none) : Q (.ref p) (upd H p (.lst xs)) := by
  obtain ⟨e, rp2⟩ := rp.frozen (o := .lst xs) hp
  exact h.at e rp2 (rv_fl (.inr rfl) upd_same (r.mono e.toMono))
theorem post_tup {g : Gw} {G : Gh} {H : Hp} {lh : LH} {ws : List W} {xs : List V} {Q : VK} {E : XK} {p : Addr} (rp : Rep g G lh H) (r : RVs g G H ws xs) (h : PostG g (RV g) G H (.ok (.tup ws) lh) Q E) (hp : H p = none) : Q (.ref p) (upd H p (.tup xs)) := by
  obtain ⟨e, rp2⟩ := rp.tup (xs := xs) hp
  exact h.at e rp2 (rv_tup (SqT.of upd_same) (r.mono e.toMono))
/-- a new list of the logical heap is handed on -/
theorem post_ref {g : Gw} {G : Gh} {H : Hp} {lh : LH} {ws : List W} {xs : List V} {Q : VK} {E : XK} {p : Addr} (rp : Rep g G lh H) (r : RVs g G H ws xs) (h : PostG g (RV g) G H (.ok (.ref lh.length) (lh ++ [.lst ws])) Q E) (hp : H p = none) : Q (.ref p) (upd H p (.lst xs)) := by
  have m : Mono g G H ⟨G.io ++ [p], G.Fz, G.Pr⟩ (upd H p (.lst xs)) := Mono.fresh hp rp.fz (fun i q h => by rw [List.getElem?_append_left (List.getElem?_eq_some_iff.mp h).1]; exact h) fun _ h => h
  obtain ⟨e, rp2⟩ := rp.alloc (ob := .lst ws) (o := .lst xs) hp ⟨xs, rfl, r.mono m⟩
  exact h.at e rp2 (rv_ref (by rw [← rp.len]; simp))

section
variable {X : Cx} {g : Gw} (hK : X.K = g.K)
include hK
theorem snd_add : OpR X (binaryOp .Add) (rOp g (evB .add)) := by
  intro pins s σ H x y v u Q I rx ry h
  obtain ⟨G, lh, wx, wy, E, rp, r1, r2, h⟩ := h
  simp only [evB] at h
  split at h
  · rw [r1.int_eq] at rx; rw [r2.int_eq] at ry
    exact op_add pins s σ H _ _ v u Q I rx ry ⟨_, _, rfl, rfl, h.here rp rv_int⟩
  · rw [r1.str_eq] at rx; rw [r2.str_eq] at ry
    split at h
    · rename_i hl
      refine op_add_str pins s σ H _ _ v u Q I rx ry ⟨_, _, rfl, rfl, by rw [str_len, str_len]; exact big_line hl, h.here rp ?_⟩
      unfold RV; rw [str_app]
    · exact h.elim
  · rename_i as bs
    obtain ⟨p, xs, rfl, sp, rps⟩ := r1.tup_eq
    obtain ⟨q, ys, rfl, sq, rqs⟩ := r2.tup_eq
    split at h
    · rename_i hl
      rw [rps.length, rqs.length] at hl
      refine op_catA pins s σ H _ _ v u Q I rx ry ⟨p, q, xs, ys, rfl, rfl, by rw [hK]; exact sp, by rw [hK]; exact sq, big_line hl, fun e => ?_, fun _ e => ?_, fun _ _ r hr => ?_⟩
      · subst e
        refine h.here rp (rv_tup sq ?_)
        have : as = [] := List.length_eq_zero_iff.mp rps.length
        rw [this]; exact rqs
      · subst e
        refine h.here rp (rv_tup sp ?_)
        have : bs = [] := List.length_eq_zero_iff.mp rqs.length
        rw [this, List.append_nil]; exact rps
      · exact post_tup rp (rps.append rqs) h hr
    · exact h.elim
  · split at h
    · rename_i a b e1 e2
      obtain ⟨p, xs, rfl, sp, rps⟩ := trk_spec rp r1 e1
      obtain ⟨q, ys, rfl, sq, rqs⟩ := trk_spec rp r2 e2
      split at h
      · rename_i hl
        rw [rps.length, rqs.length] at hl
        exact op_cat pins s σ H _ _ v u Q I rx ry ⟨p, q, xs, ys, rfl, rfl, sp, sq, big_line hl, fun r hr => post_fl rp (rps.append rqs) h hr⟩
      · exact h.elim
    · exact h.elim
omit hK
theorem i2_of {g : Gw} {G : Gh} {H : Hp} {wx wy : W} {x y : V} {f : Int → Int → R W} {Q : VK} {E : XK} (r1 : RV g G H wx x) (r2 : RV g G H wy y) (h : PostG g (RV g) G H (i2 wx wy f) Q E) : ∃ i j, x = .int i ∧ y = .int j ∧ PostG g (RV g) G H (f i j) Q E := by
  unfold i2 at h
  split at h
  · exact ⟨_, _, r1.int_eq, r2.int_eq, h⟩
  · exact h.elim
theorem snd_sub : OpR X (binaryOp .Sub) (rOp g (evB .sub)) := by
  intro pins s σ H x y v u Q I rx ry h
  obtain ⟨G, lh, wx, wy, E, rp, r1, r2, h⟩ := h
  simp only [evB] at h
  obtain ⟨i, j, rfl, rfl, h⟩ := i2_of r1 r2 h
  exact op_sub pins s σ H _ _ v u Q I rx ry ⟨_, _, rfl, rfl, h.here rp rv_int⟩
theorem rep_rel {g : Gw} {G : Gh} {H : Hp} {ws : List W} {xs : List V} (r : RVs g G H ws xs) : ∀ n : Nat, RVs g G H (List.replicate n ws).flatten (List.replicate n xs).flatten
  | 0 => by simp; exact RVs.nil
  | n + 1 => by
    rw [List.replicate_succ, List.replicate_succ, List.flatten_cons, List.flatten_cons]
    exact RVs.append r (rep_rel r n)
theorem snd_mul : OpR X (binaryOp .Mult) (rOp g (evB .mul)) := by
  intro pins s σ H x y v u Q I rx ry h
  obtain ⟨G, lh, wx, wy, E, rp, r1, r2, h⟩ := h
  simp only [evB] at h
  split at h
  · rw [r1.int_eq] at rx; rw [r2.int_eq] at ry
    split at h
    · rename_i hc
      exact op_mul pins s σ H _ _ v u Q I rx ry ⟨_, _, rfl, rfl, hc, h.here rp rv_int⟩
    · exact h.elim
  · rw [r2.int_eq] at ry
    split at h
    · rename_i a e1
      obtain ⟨p, xs, rfl, sp, rps⟩ := trk_spec rp r1 e1
      split at h
      · rename_i hl
        obtain ⟨h1, h2, hl⟩ := hl
        rw [rps.length] at hl
        exact op_rep pins s σ H _ _ v u Q I rx ry ⟨p, _, xs, rfl, rfl, sp, h1, h2, big_line hl, fun r hr => post_fl rp (rep_rel rps _) h hr⟩
      · exact h.elim
    · exact h.elim
  · exact h.elim
theorem snd_mulm : OpR X (binaryOp .Mult) (rOp g (evB .mulm)) := by
  intro pins s σ H x y v u Q I rx ry h
  obtain ⟨G, lh, wx, wy, E, rp, r1, r2, h⟩ := h
  simp only [evB] at h
  split at h
  · rw [r2.int_eq] at ry
    split at h
    · rename_i a e1
      obtain ⟨p, xs, rfl, sp, rps⟩ := trk_spec rp r1 e1
      split at h
      · rename_i hl
        obtain ⟨h1, h2, hl⟩ := hl
        rw [rps.length] at hl
        exact op_rep pins s σ H _ _ v u Q I rx ry ⟨p, _, xs, rfl, rfl, sp, h1, h2, big_line hl, fun r hr => post_ref rp (rep_rel rps _) h hr⟩
      · exact h.elim
    · exact h.elim
  · exact h.elim
theorem snd_fdiv : OpR X (binaryOp .FloorDiv) (rOp g (evB .fdiv)) := by
  intro pins s σ H x y v u Q I rx ry h
  obtain ⟨G, lh, wx, wy, E, rp, r1, r2, h⟩ := h
  simp only [evB] at h
  obtain ⟨i, j, rfl, rfl, h⟩ := i2_of r1 r2 h
  split at h
  · rename_i hc
    exact op_fdiv pins s σ H _ _ v u Q I rx ry ⟨_, _, rfl, rfl, hc, h.here rp rv_int⟩
  · exact h.elim
theorem snd_mod : OpR X (binaryOp .Mod) (rOp g (evB .mod)) := by
  intro pins s σ H x y v u Q I rx ry h
  obtain ⟨G, lh, wx, wy, E, rp, r1, r2, h⟩ := h
  simp only [evB] at h
  obtain ⟨i, j, rfl, rfl, h⟩ := i2_of r1 r2 h
  split at h
  · rename_i hc
    exact op_mod pins s σ H _ _ v u Q I rx ry ⟨_, _, rfl, rfl, hc, h.here rp rv_int⟩
  · exact h.elim
theorem snd_pow : OpR X (binaryOp .Pow) (rOp g (evB .pow)) := by
  intro pins s σ H x y v u Q I rx ry h
  obtain ⟨G, lh, wx, wy, E, rp, r1, r2, h⟩ := h
  simp only [evB] at h
  obtain ⟨i, j, rfl, rfl, h⟩ := i2_of r1 r2 h
  split at h
  · rename_i hc
    exact op_pow pins s σ H _ _ v u Q I rx ry ⟨_, _, rfl, rfl, hc, h.here rp rv_int⟩
  · exact h.elim
theorem snd_shl : OpR X (binaryOp .LShift) (rOp g (evB .shl)) := by
  intro pins s σ H x y v u Q I rx ry h
  obtain ⟨G, lh, wx, wy, E, rp, r1, r2, h⟩ := h
  simp only [evB] at h
  obtain ⟨i, j, rfl, rfl, h⟩ := i2_of r1 r2 h
  split at h
  · rename_i hc
    exact op_shl pins s σ H _ _ v u Q I rx ry ⟨_, _, rfl, rfl, hc, h.here rp rv_int⟩
  · exact h.elim
theorem snd_shr : OpR X (binaryOp .RShift) (rOp g (evB .shr)) := by
  intro pins s σ H x y v u Q I rx ry h
  obtain ⟨G, lh, wx, wy, E, rp, r1, r2, h⟩ := h
  simp only [evB] at h
  obtain ⟨i, j, rfl, rfl, h⟩ := i2_of r1 r2 h
  split at h
  · rename_i hc
    exact op_shr pins s σ H _ _ v u Q I rx ry ⟨_, _, rfl, rfl, hc, h.here rp rv_int⟩
  · exact h.elim
theorem snd_band : OpR X (binaryOp .BitAnd) (rOp g (evB .band)) := by
  intro pins s σ H x y v u Q I rx ry h
  obtain ⟨G, lh, wx, wy, E, rp, r1, r2, h⟩ := h
  simp only [evB] at h
  obtain ⟨i, j, rfl, rfl, h⟩ := i2_of r1 r2 h
  exact op_and pins s σ H _ _ v u Q I rx ry ⟨_, _, rfl, rfl, h.here rp rv_int⟩
theorem snd_bor : OpR X (binaryOp .BitOr) (rOp g (evB .bor)) := by
  intro pins s σ H x y v u Q I rx ry h
  obtain ⟨G, lh, wx, wy, E, rp, r1, r2, h⟩ := h
  simp only [evB] at h
  obtain ⟨i, j, rfl, rfl, h⟩ := i2_of r1 r2 h
  exact op_or pins s σ H _ _ v u Q I rx ry ⟨_, _, rfl, rfl, h.here rp rv_int⟩
theorem snd_bxor : OpR X (binaryOp .BitXor) (rOp g (evB .bxor)) := by
  intro pins s σ H x y v u Q I rx ry h
  obtain ⟨G, lh, wx, wy, E, rp, r1, r2, h⟩ := h
  simp only [evB] at h
  obtain ⟨i, j, rfl, rfl, h⟩ := i2_of r1 r2 h
  exact op_xor pins s σ H _ _ v u Q I rx ry ⟨_, _, rfl, rfl, h.here rp rv_int⟩
end
end Mp
namespace Mp
open PySem PySem.Spec PyProof.Rows L2
section
variable {g : Gw} {G : Gh} {H : Hp} {lh : LH}
mutual
theorem dat_dp (rp : Rep g G lh H) : ∀ (n : Nat) (w : W) (v : V) (d : PyData), RV g G H w v → dat lh n w = some d → Dp g.K H v d
  | 0, _, _, _, _, e => by simp [dat] at e
  | n + 1, .non, _, _, r, e => by
    rw [r.non_eq]; simp only [dat, Option.some.injEq] at e; subst e; exact .non
  | n + 1, .bl b, _, _, r, e => by
    rw [r.bl_eq]; simp only [dat, Option.some.injEq] at e; subst e; exact .bl b
  | n + 1, .int b, _, _, r, e => by
    rw [r.int_eq]; simp only [dat, Option.some.injEq] at e; subst e; exact .int b
  | n + 1, .str b, _, _, r, e => by
    rw [r.str_eq]; simp only [dat, Option.some.injEq] at e; subst e; exact .str _
  | n + 1, .tup ws, _, _, r, e => by
    obtain ⟨p, xs, rfl, s, rs⟩ := r.tup_eq
    simp only [dat, Option.map_eq_some_iff] at e
    obtain ⟨ds, e1, rfl⟩ := e
    exact .tup s (dats_dp rp n ws xs ds rs e1)
  | n + 1, .fl ws, v, _, r, e => by
    unfold RV at r
    obtain ⟨p, xs, rfl, _, s, rs⟩ := r
    simp only [dat, Option.map_eq_some_iff] at e
    obtain ⟨ds, e1, rfl⟩ := e
    exact .lst (SqL.of s) (dats_dp rp n ws xs ds rs e1)
  | n + 1, .rd ws, v, _, r, e => by
    unfold RV at r
    obtain ⟨p, xs, rfl, s, rs⟩ := r
    simp only [dat, Option.map_eq_some_iff] at e
    obtain ⟨ds, e1, rfl⟩ := e
    exact .lst s.sqL (dats_dp rp n ws xs ds rs e1)
  | n + 1, .ref m, v, _, r, e => by
    unfold RV at r
    obtain ⟨p, rfl, hp⟩ := r
    simp only [dat] at e
    split at e
    · rename_i ws hm
      simp only [Option.map_eq_some_iff] at e
      obtain ⟨ds, e1, rfl⟩ := e
      obtain ⟨xs, s, rs⟩ := rp.lst hm hp
      exact .lst (SqL.of s) (dats_dp rp n ws xs ds rs e1)
    · cases e
  | n + 1, .obj _ _ _, _, _, _, e => by simp [dat] at e
  | n + 1, .exc _ _ _, _, _, _, e => by simp [dat] at e
theorem dats_dp (rp : Rep g G lh H) : ∀ (n : Nat) (ws : List W) (xs : List V) (ds : List PyData), RVs g G H ws xs → ws.mapM (dat lh n) = some ds → DpAll g.K H xs ds
  | n, [], _, _, r, e => by
    unfold RVs at r; subst r
    simp at e; subst e; exact .nil
  | n, w :: ws, _, _, r, e => by
    unfold RVs at r
    obtain ⟨x, xr, rfl, a, b⟩ := r
    rw [List.mapM_cons] at e
    cases e1 : dat lh n w with
    | none => rw [e1] at e; simp at e
    | some d =>
      rw [e1] at e
      cases e2 : ws.mapM (dat lh n) with
      | none => rw [e2] at e; simp at e
      | some ds =>
        rw [e2] at e
        simp at e
        subst e
        exact .cons (dat_dp rp n w x d a e1) (dats_dp rp n ws xr ds b e2)
end
theorem scq_ok {a b : W} {x y : V} {r : Bool} (h : scq a b = some r) (ra : RV g G H a x) (rb : RV g G H b y) : scal x y = true ∧ decide (x = y) = r := by
  unfold scq at h
  split at h <;> first | (cases h; done) | skip
  all_goals simp only [Option.some.injEq] at h
  all_goals subst h
  · rw [ra.int_eq, rb.int_eq]; exact ⟨rfl, by simp⟩
  · rw [ra.str_eq, rb.str_eq]
    refine ⟨rfl, ?_⟩
    rename_i s t
    by_cases e : s = t
    · subst e; simp
    · have : ¬ Str.ofString s = Str.ofString t := fun z => e (str_inj z)
      simp [e, this]
  · rw [ra.bl_eq, rb.bl_eq]; exact ⟨rfl, by simp⟩
  · rw [ra.non_eq, rb.non_eq]; exact ⟨rfl, by simp⟩
  · rw [ra.non_eq, rb.int_eq]; exact ⟨rfl, by simp⟩
  · rw [ra.int_eq, rb.non_eq]; exact ⟨rfl, by simp⟩
  · rw [ra.non_eq, rb.bl_eq]; exact ⟨rfl, by simp⟩
  · rw [ra.bl_eq, rb.non_eq]; exact ⟨rfl, by simp⟩
  · rw [ra.non_eq, rb.str_eq]; exact ⟨rfl, by simp⟩
  · rw [ra.str_eq, rb.non_eq]; exact ⟨rfl, by simp⟩
  · rw [ra.int_eq, rb.str_eq]; exact ⟨rfl, by simp⟩
  · rw [ra.str_eq, rb.int_eq]; exact ⟨rfl, by simp⟩
  · rw [ra.bl_eq, rb.str_eq]; exact ⟨rfl, by simp⟩
  · rw [ra.str_eq, rb.bl_eq]; exact ⟨rfl, by simp⟩
theorem flat_ok {a : W} {x : V} (h : flatW a = true) (ra : RV g G H a x) : flatV x = true := by
  cases a <;> first | (cases h; done) | skip
  · rw [ra.non_eq]; rfl
  · rw [ra.bl_eq]; rfl
  · rw [ra.int_eq]; rfl
  · rw [ra.str_eq]; rfl
theorem flats_ok : ∀ {as : List W} {xs : List V}, as.all flatW = true → RVs g G H as xs → xs.all flatV = true
  | [], _, _, r => by unfold RVs at r; subst r; rfl
  | a :: as, _, h, r => by
    unfold RVs at r
    obtain ⟨x, xr, rfl, ra, rb⟩ := r
    rw [List.all_cons, Bool.and_eq_true] at h
    rw [List.all_cons, flat_ok h.1 ra, flats_ok h.2 rb]; rfl
theorem eqF_ok {a b : W} {x y : V} (fa : flatW a = true) (fb : flatW b = true) (ra : RV g G H a x) (rb : RV g G H b y) : eqV x y = eqF a b := by
  cases a <;> first | (cases fa; done) | skip
  all_goals (cases b <;> first | (cases fb; done) | skip)
  all_goals first | (rw [ra.non_eq]) | (rw [ra.bl_eq]) | (rw [ra.int_eq]) | (rw [ra.str_eq])
  all_goals first | (rw [rb.non_eq]) | (rw [rb.bl_eq]) | (rw [rb.int_eq]) | (rw [rb.str_eq])
  all_goals first | rfl | skip
  all_goals simp only [eqV, eqF]
  all_goals first | (rw [Bool.eq_iff_iff]; simp; done) | skip
  rename_i s t
  by_cases e : s = t
  · subst e; simp
  · have : ¬ Str.ofString s = Str.ofString t := fun z => e (str_inj z)
    simp [e, this]
theorem any_ok {b : W} {y : V} (fb : flatW b = true) (rb : RV g G H b y) : ∀ {as : List W} {xs : List V}, as.all flatW = true → RVs g G H as xs → inV y xs = as.any fun z => eqF z b
  | [], _, _, r => by unfold RVs at r; subst r; rfl
  | a :: as, _, h, r => by
    unfold RVs at r
    obtain ⟨x, xr, rfl, ra, rr⟩ := r
    rw [List.all_cons, Bool.and_eq_true] at h
    have := any_ok fb rb h.2 rr
    unfold inV at this ⊢
    rw [List.any_cons, List.any_cons, eqF_ok h.1 fb ra rb, this]
end
section
variable {X : Cx} {g : Gw} {n : Nat} (hK : X.K = g.K) (hr : Room n X.A)
include hK hr
theorem snd_eq : OpR X (compareOp .Eq) (rOp g (evC .eq)) := by
  intro pins s σ H x y v u Q I rx ry h
  obtain ⟨G, lh, wx, wy, E, rp, r1, r2, h⟩ := h
  simp only [evC] at h
  split at h
  · rename_i b e
    unfold eqW at e
    split at e
    · rename_i r hs
      cases e
      obtain ⟨a1, a2⟩ := scq_ok hs r1 r2
      refine op_eq pins s σ H x y v u Q I rx ry ⟨a1, ?_⟩
      rw [a2]
      exact h.here rp rv_bl
    · split at e
      · rename_i d d' e1 e2
        split at e
        · rename_i hsh
          cases e
          rw [Bool.and_eq_true] at hsh
          exact op_eqD hr.units pins s σ H x y v u Q I rx ry ⟨d, d', by rw [hK]; exact dat_dp rp _ _ _ _ r1 e1, by rw [hK]; exact dat_dp rp _ _ _ _ r2 e2, hsh.1, hsh.2, h.here rp rv_bl⟩
        · cases e
      · cases e
  · exact h.elim
theorem snd_ne : OpR X (compareOp .NotEq) (rOp g (evC .ne)) := by
  intro pins s σ H x y v u Q I rx ry h
  obtain ⟨G, lh, wx, wy, E, rp, r1, r2, h⟩ := h
  simp only [evC] at h
  split at h
  · rename_i b e
    unfold eqW at e
    split at e
    · rename_i r hs
      cases e
      obtain ⟨a1, a2⟩ := scq_ok hs r1 r2
      refine op_ne pins s σ H x y v u Q I rx ry ⟨a1, ?_⟩
      rw [a2]
      exact h.here rp rv_bl
    · split at e
      · rename_i d d' e1 e2
        split at e
        · rename_i hsh
          cases e
          rw [Bool.and_eq_true] at hsh
          exact op_neD hr.units pins s σ H x y v u Q I rx ry ⟨d, d', by rw [hK]; exact dat_dp rp _ _ _ _ r1 e1, by rw [hK]; exact dat_dp rp _ _ _ _ r2 e2, hsh.1, hsh.2, h.here rp rv_bl⟩
        · cases e
      · cases e
  · exact h.elim
theorem snd_in : OpR X (compareOp .In) (rOp g (evC .isin)) := by
  intro pins s σ H x y v u Q I rx ry h
  obtain ⟨G, lh, wx, wy, E, rp, r1, r2, h⟩ := h
  simp only [evC] at h
  split at h
  · rename_i b e
    unfold inW at e
    split at e
    · rename_i ws hs
      split at e
      · rename_i hf
        cases e
        rw [Bool.and_eq_true] at hf
        obtain ⟨p, xs, rfl, hq, rs⟩ := seqOf_spec rp r2 hs
        refine op_in_seq pins s σ H x _ v u Q I rx ry ⟨p, xs, rfl, ?_, flat_ok hf.1 r1, flats_ok hf.2 rs, ?_⟩
        · rw [hK]
          rcases hq with ⟨_, q⟩ | ⟨_, q⟩
          · exact .inl q
          · exact .inr q
        · simp only [Bool.false_eq_true, if_false]
          rw [any_ok hf.1 r1 hf.2 rs]
          exact h.here rp rv_bl
      · split at e
        · rename_i d ds e1 e2
          split at e
          · rename_i hsh
            cases e
            rw [Bool.and_eq_true] at hsh
            have hu : X.A.units + 65 < cLine := by have := hr.un; omega
            exact op_inD hu pins s σ H x y v u Q I rx ry ⟨d, ds, by rw [hK]; exact dat_dp rp _ _ _ _ r1 e1, by rw [hK]; exact dat_dp rp _ _ _ _ r2 e2, hsh.1, hsh.2, h.here rp rv_bl⟩
          · cases e
        · cases e
    · cases e
  · exact h.elim
theorem snd_nin : OpR X (compareOp .NotIn) (rOp g (evC .nin)) := by
  intro pins s σ H x y v u Q I rx ry h
  obtain ⟨G, lh, wx, wy, E, rp, r1, r2, h⟩ := h
  simp only [evC] at h
  split at h
  · rename_i b e
    unfold inW at e
    split at e
    · rename_i ws hs
      split at e
      · rename_i hf
        cases e
        rw [Bool.and_eq_true] at hf
        obtain ⟨p, xs, rfl, hq, rs⟩ := seqOf_spec rp r2 hs
        refine op_notIn_seq pins s σ H x _ v u Q I rx ry ⟨p, xs, rfl, ?_, flat_ok hf.1 r1, flats_ok hf.2 rs, ?_⟩
        · rw [hK]
          rcases hq with ⟨_, q⟩ | ⟨_, q⟩
          · exact .inl q
          · exact .inr q
        · simp only [if_true]
          rw [any_ok hf.1 r1 hf.2 rs]
          exact h.here rp rv_bl
      · split at e
        · rename_i d ds e1 e2
          split at e
          · rename_i hsh
            cases e
            rw [Bool.and_eq_true] at hsh
            have hu : X.A.units + 65 < cLine := by have := hr.un; omega
            exact op_notInD hu pins s σ H x y v u Q I rx ry ⟨d, ds, by rw [hK]; exact dat_dp rp _ _ _ _ r1 e1, by rw [hK]; exact dat_dp rp _ _ _ _ r2 e2, hsh.1, hsh.2, h.here rp rv_bl⟩
          · cases e
        · cases e
    · cases e
  · exact h.elim
omit hK hr
theorem snd_lt : OpR X (compareOp .Lt) (rOp g (evC .lt)) := by
  intro pins s σ H x y v u Q I rx ry h
  obtain ⟨G, lh, wx, wy, E, rp, r1, r2, h⟩ := h
  simp only [evC] at h
  obtain ⟨i, j, rfl, rfl, h⟩ := i2_of r1 r2 h
  exact op_lt pins s σ H _ _ v u Q I rx ry ⟨_, _, rfl, rfl, h.here rp rv_bl⟩
theorem snd_le : OpR X (compareOp .LtE) (rOp g (evC .le)) := by
  intro pins s σ H x y v u Q I rx ry h
  obtain ⟨G, lh, wx, wy, E, rp, r1, r2, h⟩ := h
  simp only [evC] at h
  obtain ⟨i, j, rfl, rfl, h⟩ := i2_of r1 r2 h
  exact op_le pins s σ H _ _ v u Q I rx ry ⟨_, _, rfl, rfl, h.here rp rv_bl⟩
theorem snd_gt : OpR X (compareOp .Gt) (rOp g (evC .gt)) := by
  intro pins s σ H x y v u Q I rx ry h
  obtain ⟨G, lh, wx, wy, E, rp, r1, r2, h⟩ := h
  simp only [evC] at h
  obtain ⟨i, j, rfl, rfl, h⟩ := i2_of r1 r2 h
  exact op_gt pins s σ H _ _ v u Q I rx ry ⟨_, _, rfl, rfl, h.here rp rv_bl⟩
theorem snd_ge : OpR X (compareOp .GtE) (rOp g (evC .ge)) := by
  intro pins s σ H x y v u Q I rx ry h
  obtain ⟨G, lh, wx, wy, E, rp, r1, r2, h⟩ := h
  simp only [evC] at h
  obtain ⟨i, j, rfl, rfl, h⟩ := i2_of r1 r2 h
  exact op_ge pins s σ H _ _ v u Q I rx ry ⟨_, _, rfl, rfl, h.here rp rv_bl⟩
theorem is_non {g : Gw} {G : Gh} {H : Hp} {w : W} {x : V} (r : RV g G H w x) : decide (x = .non) = isNon w := by
  cases w with
  | non => rw [r.non_eq]; rfl
  | bl b => rw [r.bl_eq]; rfl
  | int b => rw [r.int_eq]; rfl
  | str b => rw [r.str_eq]; rfl
  | tup b => obtain ⟨p, xs, rfl, _⟩ := r.tup_eq; rfl
  | fl b => unfold RV at r; obtain ⟨p, xs, rfl, _⟩ := r; rfl
  | rd b => unfold RV at r; obtain ⟨p, xs, rfl, _⟩ := r; rfl
  | ref b => unfold RV at r; obtain ⟨p, rfl, _⟩ := r; rfl
  | obj c ns b => unfold RV at r; obtain ⟨p, dx, xs, rfl, _⟩ := r; rfl
  | exc c ns b => unfold RV at r; exact r.elim
theorem snd_is : OpR X (compareOp .Is) (rOp g (evC .is)) := by
  intro pins s σ H x y v u Q I rx ry h
  obtain ⟨G, lh, wx, wy, E, rp, r1, r2, h⟩ := h
  simp only [evC] at h
  split at h
  · refine op_isN pins s σ H x y v u Q I rx ry ⟨r2.non_eq, ?_⟩
    rw [is_non r1]
    exact h.here rp rv_bl
  · split at h
    · exact op_isBl pins s σ H x y v u Q I rx ry ⟨_, _, r1.bl_eq, r2.bl_eq, h.here rp rv_bl⟩
    · exact h.elim
  · exact h.elim
theorem snd_isn : OpR X (compareOp .IsNot) (rOp g (evC .isn)) := by
  intro pins s σ H x y v u Q I rx ry h
  obtain ⟨G, lh, wx, wy, E, rp, r1, r2, h⟩ := h
  simp only [evC] at h
  split at h
  · refine op_notN pins s σ H x y v u Q I rx ry ⟨r2.non_eq, ?_⟩
    rw [is_non r1]
    exact h.here rp rv_bl
  · split at h
    · exact op_notBl pins s σ H x y v u Q I rx ry ⟨_, _, r1.bl_eq, r2.bl_eq, h.here rp rv_bl⟩
    · exact h.elim
  · exact h.elim
def toOp : BOp → Operator
  | .add => .Add | .sub => .Sub | .mul => .Mult | .mulm => .Mult | .fdiv => .FloorDiv | .mod => .Mod | .pow => .Pow | .shl => .LShift | .shr => .RShift | .band => .BitAnd | .bor => .BitOr | .bxor => .BitXor
def toCmp : COp → CmpOp
  | .eq => .Eq | .ne => .NotEq | .lt => .Lt | .le => .LtE | .gt => .Gt | .ge => .GtE | .is => .Is | .isn => .IsNot | .isin => .In | .nin => .NotIn
def toUn : UOp → UnaryOp
  | .neg => .USub | .inv => .Invert
theorem snd_bin (hK : X.K = g.K) (o : BOp) : OpR X (binaryOp (toOp o)) (rOp g (evB o)) := by
  cases o
  · exact snd_add hK
  · exact snd_sub
  · exact snd_mul
  · exact snd_mulm
  · exact snd_fdiv
  · exact snd_mod
  · exact snd_pow
  · exact snd_shl
  · exact snd_shr
  · exact snd_band
  · exact snd_bor
  · exact snd_bxor
theorem snd_cmp (hK : X.K = g.K) (hr : Room n X.A) (o : COp) : OpR X (compareOp (toCmp o)) (rOp g (evC o)) := by
  cases o
  · exact snd_eq hK hr
  · exact snd_ne hK hr
  · exact snd_lt
  · exact snd_le
  · exact snd_gt
  · exact snd_ge
  · exact snd_is
  · exact snd_isn
  · exact snd_in hK hr
  · exact snd_nin hK hr
def rUn (g : Gw) (f : W → LH → R W) : V → Hp → VK → Prop := fun x H Q => ∃ (G : Gh) (lh : LH) (wx : W) (E : XK), Rep g G lh H ∧ RV g G H wx x ∧ PostG g (RV g) G H (f wx lh) Q E
theorem snd_un (o : UOp) : UnR X (unaryOp (toUn o)) (rUn g (evU o)) := by
  intro pins s σ H x v Q I rx h
  obtain ⟨G, lh, wx, E, rp, r1, h⟩ := h
  unfold evU at h
  split at h
  · exact un_neg pins s σ H x v Q I rx ⟨_, r1.int_eq, h.here rp rv_int⟩
  · exact un_inv pins s σ H x v Q I rx ⟨_, r1.int_eq, h.here rp rv_int⟩
  · exact h.elim
theorem emp_of {g : Gw} {G : Gh} {H : Hp} {ws : List W} {xs : List V} (r : RVs g G H ws xs) : (!ws.isEmpty) = !xs.isEmpty := by
  have := r.length
  cases ws <;> cases xs <;> simp_all
theorem tru_spec {G : Gh} {H : Hp} {lh : LH} {w : W} {x : V} {b : Bool} (rp : Rep g G lh H) (r : RV g G H w x) (e : truW lh w = some b) : TruV g.K x H b := by
  unfold truW at e
  split at e
  · cases e; rw [r.non_eq]; rfl
  · cases e; rw [r.bl_eq]; rfl
  · cases e; rw [r.int_eq]; rfl
  · split at e
    · rename_i hl
      cases e; rw [r.str_eq]
      refine ⟨by rw [str_len]; exact big_line hl, ?_⟩
      rw [str_len]
      rw [Bool.eq_iff_iff]; simp
    · cases e
  · cases e
    obtain ⟨p, xs, rfl, sp, rs⟩ := r.tup_eq
    refine .inr (.inl ⟨xs, sp, emp_of rs⟩)
  · cases e
    unfold RV at r
    obtain ⟨p, xs, rfl, _, sp, rs⟩ := r
    refine .inl ⟨xs, SqL.of sp, emp_of rs⟩
  · cases e
    unfold RV at r
    obtain ⟨p, xs, rfl, sp, rs⟩ := r
    refine .inl ⟨xs, sp.sqL, emp_of rs⟩
  · unfold RV at r
    obtain ⟨p, rfl, hp⟩ := r
    split at e
    · rename_i ws hm
      cases e
      obtain ⟨xs, sp, rs⟩ := rp.lst hm hp
      refine .inl ⟨xs, SqL.of sp, emp_of rs⟩
    · rename_i hm
      obtain ⟨ho, _, k⟩ := rp.at hm hp
      exact k.elim
    · cases e
  · cases e
end
end Mp
namespace Mp
open PySem PySem.Spec PyProof.Rows L2
/-- a call of values -/
def rCa (g : Gw) (f : List W → LH → R W) : List V → Hp → VK → Prop := fun xs H Q => ∃ (G : Gh) (lh : LH) (ws : List W) (E : XK), Rep g G lh H ∧ RVs g G H ws xs ∧ PostG g (RV g) G H (f ws lh) Q E
section
variable {g : Gw} {G : Gh} {H : Hp} {lh : LH}
theorem rvs1 {w : W} {xs : List V} (r : RVs g G H [w] xs) : ∃ x, xs = [x] ∧ RV g G H w x := by
  unfold RVs at r
  obtain ⟨x, t, rfl, a, b⟩ := r
  unfold RVs at b
  subst b
  exact ⟨x, rfl, a⟩
theorem rvs2 {w u : W} {xs : List V} (r : RVs g G H [w, u] xs) : ∃ x y, xs = [x, y] ∧ RV g G H w x ∧ RV g G H u y := by
  unfold RVs at r
  obtain ⟨x, t, rfl, a, b⟩ := r
  obtain ⟨y, e, c⟩ := rvs1 b
  subst e
  exact ⟨x, y, rfl, a, c⟩
theorem rvs0 {xs : List V} (r : RVs g G H [] xs) : xs = [] := by unfold RVs at r; exact r
theorem toInts_spec : ∀ {ws : List W} {ns : List Int}, toInts ws = some ns → ws = ns.map .int
  | [], _, h => by simp [toInts] at h; subst h; rfl
  | w :: ws, _, h => by
    cases w <;> simp only [toInts] at h <;> first | (cases h; done) | skip
    obtain ⟨ns, e, rfl⟩ := Option.map_eq_some_iff.mp h
    rw [toInts_spec e]; rfl
theorem toBls_spec : ∀ {ws : List W} {ns : List Bool}, toBls ws = some ns → ws = ns.map .bl
  | [], _, h => by simp [toBls] at h; subst h; rfl
  | w :: ws, _, h => by
    cases w <;> simp only [toBls] at h <;> first | (cases h; done) | skip
    obtain ⟨ns, e, rfl⟩ := Option.map_eq_some_iff.mp h
    rw [toBls_spec e]; rfl
end
theorem insI_perm (x : Int) : ∀ l, (insI x l).Perm (x :: l)
  | [] => .refl _
  | y :: ys => by
    unfold insI
    split
    · exact .refl _
    · exact (List.Perm.cons y (insI_perm x ys)).trans (List.Perm.swap x y ys)
theorem sortI_perm : ∀ l, (sortI l).Perm l
  | [] => .refl _
  | x :: xs => (insI_perm x (sortI xs)).trans (.cons x (sortI_perm xs))
theorem insI_sorted (x : Int) : ∀ {l}, l.Pairwise (· ≤ ·) → (insI x l).Pairwise (· ≤ ·)
  | [], _ => by simp [insI]
  | y :: ys, h => by
    unfold insI
    split
    · rename_i hxy
      refine .cons (fun z hz => ?_) h
      rcases List.mem_cons.mp hz with rfl | hz
      · exact hxy
      · exact Int.le_trans hxy ((List.pairwise_cons.mp h).1 z hz)
    · rename_i hxy
      refine .cons (fun z hz => ?_) (insI_sorted x (List.pairwise_cons.mp h).2)
      rcases List.mem_cons.mp ((insI_perm x ys).mem_iff.mp hz) with rfl | hz
      · omega
      · exact (List.pairwise_cons.mp h).1 z hz
theorem sortI_sorted : ∀ l, (sortI l).Pairwise (· ≤ ·)
  | [] => .nil
  | x :: xs => insI_sorted x (sortI_sorted xs)
theorem sorted_uniq : ∀ {l m : List Int}, l.Perm m → l.Pairwise (· ≤ ·) → m.Pairwise (· ≤ ·) → l = m
  | [], m, p, _, _ => by rw [List.nil_perm.mp p]
  | x :: xs, [], p, _, _ => by simpa using p.length_eq
  | x :: xs, y :: ys, p, h1, h2 => by
    have e : x = y := by
      have a : x ∈ y :: ys := p.mem_iff.mp (List.mem_cons_self ..)
      have b : y ∈ x :: xs := p.mem_iff.mpr (List.mem_cons_self ..)
      have a2 : y ≤ x := by
        rcases List.mem_cons.mp a with e | a
        · omega
        · exact (List.pairwise_cons.mp h2).1 x a
      have b2 : x ≤ y := by
        rcases List.mem_cons.mp b with e | b
        · omega
        · exact (List.pairwise_cons.mp h1).1 y b
      omega
    subst e
    rw [sorted_uniq ((List.perm_cons x).mp p) (List.pairwise_cons.mp h1).2 (List.pairwise_cons.mp h2).2]
def bfName : Bf → String
  | .len => "len" | .int => "int" | .abs => "abs" | .tuple => "tuple" | .list => "list" | .listm => "list" | .sorted => "sorted" | .sum => "sum"
  | .min1 => "min" | .max1 => "max" | .min2 => "min" | .max2 => "max" | .any => "any" | .all => "all" | .str => "str" | .divmod => "divmod"
def bfTy : Bf → Bool
  | .int => true | .tuple => true | .list => true | .listm => true | .str => true | _ => false
def bfVal (f : Bf) : Value := if bfTy f then .type (bfName f) else .builtin (bfName f)
section
variable {X : Cx} {g : Gw}
theorem f1_of {G : Gh} {H : Hp} {ws : List W} {xs : List V} {f : W → R W} {Q : VK} {E : XK} (r : RVs g G H ws xs) (h : PostG g (RV g) G H (f1 ws f) Q E) : ∃ w x, xs = [x] ∧ RV g G H w x ∧ PostG g (RV g) G H (f w) Q E := by
  unfold f1 at h
  split at h
  · obtain ⟨x, rfl, a⟩ := rvs1 r
    exact ⟨_, x, rfl, a, h⟩
  · exact h.elim
theorem f2_of {G : Gh} {H : Hp} {ws : List W} {xs : List V} {f : W → W → R W} {Q : VK} {E : XK} (r : RVs g G H ws xs) (h : PostG g (RV g) G H (f2 ws f) Q E) : ∃ w u x y, xs = [x, y] ∧ RV g G H w x ∧ RV g G H u y ∧ PostG g (RV g) G H (f w u) Q E := by
  unfold f2 at h
  split at h
  · obtain ⟨x, y, rfl, a, b⟩ := rvs2 r
    exact ⟨_, _, x, y, rfl, a, b, h⟩
  · exact h.elim
theorem seq_or {G : Gh} {H : Hp} {lh : LH} {w : W} {ws : List W} {v : V} (hK : X.K = g.K) (rp : Rep g G lh H) (rv : RV g G H w v) (e : seqOf lh w = some ws) : ∃ p xs, v = .ref p ∧ (SqL X.K H p xs ∨ SqT X.K H p xs) ∧ RVs g G H ws xs := by
  obtain ⟨p, xs, rfl, hq, rs⟩ := seqOf_spec rp rv e
  refine ⟨p, xs, rfl, ?_, rs⟩
  rw [hK]
  rcases hq with ⟨_, q⟩ | ⟨_, q⟩
  · exact .inl q
  · exact .inr q
theorem ca_len (hK : X.K = g.K) : CallR X (.builtin "len") (rCa g (evF .len)) := by
  intro pins s σ H xs us Q I r h
  obtain ⟨G, lh, ws, E, rp, rs, h⟩ := h
  obtain ⟨w, x, rfl, rx, h⟩ := f1_of rs (show PostG g (RV g) G H (f1 ws (lenW lh)) Q E from h)
  unfold lenW at h
  split at h
  · split at h
    · rename_i hl
      rw [rx.str_eq] at r
      refine call_len_str pins s σ H _ us Q I r ⟨_, rfl, by rw [str_len]; exact big_line hl, ?_⟩
      rw [str_len]
      exact h.here rp rv_int
    · exact h.elim
  · split at h
    · rename_i ys hy
      obtain ⟨p, xs, rfl, hq, rs⟩ := seq_or hK rp rx hy
      refine call_len_seq pins s σ H _ us Q I r ⟨p, xs, rfl, hq, ?_⟩
      rw [← rs.length]
      exact h.here rp rv_int
    · exact h.elim
theorem ca_int : CallR X (.type "int") (rCa g (evF .int)) := by
  intro pins s σ H xs us Q I r h
  obtain ⟨G, lh, ws, E, rp, rs, h⟩ := h
  obtain ⟨w, x, rfl, rx, h⟩ := f1_of rs (show PostG g (RV g) G H (f1 ws (intW lh)) Q E from h)
  unfold intW at h
  split at h
  · rw [rx.int_eq] at r
    exact call_int1 pins s σ H _ us Q I r (.inl ⟨_, rfl, h.here rp rv_int⟩)
  · rw [rx.bl_eq] at r
    exact call_int1 pins s σ H _ us Q I r (.inr ⟨_, rfl, h.here rp rv_int⟩)
  · exact h.elim
theorem ca_abs : CallR X (.builtin "abs") (rCa g (evF .abs)) := by
  intro pins s σ H xs us Q I r h
  obtain ⟨G, lh, ws, E, rp, rs, h⟩ := h
  obtain ⟨w, x, rfl, rx, h⟩ := f1_of rs (show PostG g (RV g) G H (f1 ws (absW lh)) Q E from h)
  unfold absW at h
  split at h
  · rw [rx.int_eq] at r
    exact call_abs pins s σ H _ us Q I r ⟨_, rfl, h.here rp rv_int⟩
  · exact h.elim
theorem ca_tuple (hK : X.K = g.K) : CallR X (.type "tuple") (rCa g (evF .tuple)) := by
  intro pins s σ H xs us Q I r h
  obtain ⟨G, lh, ws, E, rp, rs, h⟩ := h
  obtain ⟨w, x, rfl, rx, h⟩ := f1_of rs (show PostG g (RV g) G H (f1 ws (tupW lh)) Q E from h)
  unfold tupW at h
  split at h
  · rename_i ys hy
    obtain ⟨p, xs, rfl, hq, rs⟩ := seqOf_spec rp rx hy
    refine call_tuple_of pins s σ H _ us Q I r ⟨p, xs, rfl, ?_⟩
    rw [hK]
    rcases hq with ⟨_, q⟩ | ⟨_, q⟩
    · exact .inl ⟨q, fun l hl => post_tup rp rs h hl⟩
    · exact .inr ⟨q, h.here rp (rv_tup q rs)⟩
  · exact h.elim
theorem ca_list (hK : X.K = g.K) : CallR X (.type "list") (rCa g (evF .list)) := by
  intro pins s σ H xs us Q I r h
  obtain ⟨G, lh, ws, E, rp, rs, h⟩ := h
  obtain ⟨w, x, rfl, rx, h⟩ := f1_of rs (show PostG g (RV g) G H (f1 ws (listW lh)) Q E from h)
  unfold listW at h
  split at h
  · rename_i ys hy
    obtain ⟨p, xs, rfl, hq, rs⟩ := seq_or hK rp rx hy
    exact call_list_of pins s σ H _ us Q I r ⟨p, xs, rfl, hq, fun l hl => post_fl rp rs h hl⟩
  · exact h.elim
theorem ca_listm (hK : X.K = g.K) : CallR X (.type "list") (rCa g (evF .listm)) := by
  intro pins s σ H xs us Q I r h
  obtain ⟨G, lh, ws, E, rp, rs, h⟩ := h
  obtain ⟨w, x, rfl, rx, h⟩ := f1_of rs (show PostG g (RV g) G H (f1 ws (listmW lh)) Q E from h)
  unfold listmW at h
  split at h
  · rename_i ys hy
    obtain ⟨p, xs, rfl, hq, rs⟩ := seq_or hK rp rx hy
    exact call_list_of pins s σ H _ us Q I r ⟨p, xs, rfl, hq, fun l hl => post_ref rp rs h hl⟩
  · exact h.elim
theorem ca_sum (hK : X.K = g.K) (hc : X.calm = true) : CallR X (.builtin "sum") (rCa g (evF .sum)) := by
  intro pins s σ H xs us Q I r h
  obtain ⟨G, lh, ws, E, rp, rs, h⟩ := h
  obtain ⟨w, x, rfl, rx, h⟩ := f1_of rs (show PostG g (RV g) G H (f1 ws (sumW lh)) Q E from h)
  unfold sumW at h
  split at h
  · rename_i ns hy
    obtain ⟨ys, hy, hn⟩ := Option.bind_eq_some_iff.mp hy
    have e := toInts_spec hn
    subst e
    obtain ⟨p, xs, rfl, hq, rs⟩ := lstOf_spec rp rx hy
    have e2 := rs.ints
    subst e2
    exact cr_sum hc pins s σ H _ us Q I r ⟨p, ns, rfl, by rw [hK]; exact hq, h.here rp rv_int⟩
  · exact h.elim
theorem ca_any (hK : X.K = g.K) (hc : X.calm = true) : CallR X (.builtin "any") (rCa g (evF .any)) := by
  intro pins s σ H xs us Q I r h
  obtain ⟨G, lh, ws, E, rp, rs, h⟩ := h
  obtain ⟨w, x, rfl, rx, h⟩ := f1_of rs (show PostG g (RV g) G H (f1 ws (anyW lh)) Q E from h)
  unfold anyW at h
  split at h
  · rename_i ns hy
    obtain ⟨ys, hy, hn⟩ := Option.bind_eq_some_iff.mp hy
    have e := toBls_spec hn
    subst e
    obtain ⟨p, xs, rfl, hq, rs⟩ := lstOf_spec rp rx hy
    have e2 := rs.bls
    subst e2
    exact cr_any hc pins s σ H _ us Q I r ⟨p, ns, rfl, by rw [hK]; exact hq, h.here rp rv_bl⟩
  · exact h.elim
theorem ca_all (hK : X.K = g.K) (hc : X.calm = true) : CallR X (.builtin "all") (rCa g (evF .all)) := by
  intro pins s σ H xs us Q I r h
  obtain ⟨G, lh, ws, E, rp, rs, h⟩ := h
  obtain ⟨w, x, rfl, rx, h⟩ := f1_of rs (show PostG g (RV g) G H (f1 ws (allW lh)) Q E from h)
  unfold allW at h
  split at h
  · rename_i ns hy
    obtain ⟨ys, hy, hn⟩ := Option.bind_eq_some_iff.mp hy
    have e := toBls_spec hn
    subst e
    obtain ⟨p, xs, rfl, hq, rs⟩ := lstOf_spec rp rx hy
    have e2 := rs.bls
    subst e2
    exact cr_all hc pins s σ H _ us Q I r ⟨p, ns, rfl, by rw [hK]; exact hq, h.here rp rv_bl⟩
  · exact h.elim
theorem ca_sorted (hK : X.K = g.K) : CallR X (.builtin "sorted") (rCa g (evF .sorted)) := by
  intro pins s σ H xs us Q I r h
  obtain ⟨G, lh, ws, E, rp, rs, h⟩ := h
  obtain ⟨w, x, rfl, rx, h⟩ := f1_of rs (show PostG g (RV g) G H (f1 ws (sortW lh)) Q E from h)
  unfold sortW at h
  split at h
  · rename_i ns hy
    obtain ⟨ys, hy, hn⟩ := Option.bind_eq_some_iff.mp hy
    have e := toInts_spec hn
    subst e
    obtain ⟨p, xs, rfl, hq, rs⟩ := lstOf_spec rp rx hy
    have e2 := rs.ints
    subst e2
    refine cr_sortedI pins s σ H _ us Q I r ⟨p, ns, rfl, by rw [hK]; exact hq, fun ns' q pm st hq => ?_⟩
    have : ns' = sortI ns := sorted_uniq (pm.trans (sortI_perm ns).symm) st (sortI_sorted ns)
    subst this
    exact post_fl rp (RVs.of_ints _) h hq
  · exact h.elim
theorem ca_min2 (hc : X.calm = true) : CallR X (.builtin "min") (rCa g (evF .min2)) := by
  intro pins s σ H xs us Q I r h
  obtain ⟨G, lh, ws, E, rp, rs, h⟩ := h
  obtain ⟨w, u, x, y, rfl, rx, ry, h⟩ := f2_of rs (show PostG g (RV g) G H (f2 ws (min2W lh)) Q E from h)
  unfold min2W at h
  obtain ⟨i, j, rfl, rfl, h⟩ := i2_of rx ry h
  exact call_min2 hc pins s σ H _ us Q I r ⟨i, j, rfl, h.here rp rv_int⟩
theorem ca_max2 (hc : X.calm = true) : CallR X (.builtin "max") (rCa g (evF .max2)) := by
  intro pins s σ H xs us Q I r h
  obtain ⟨G, lh, ws, E, rp, rs, h⟩ := h
  obtain ⟨w, u, x, y, rfl, rx, ry, h⟩ := f2_of rs (show PostG g (RV g) G H (f2 ws (max2W lh)) Q E from h)
  unfold max2W at h
  obtain ⟨i, j, rfl, rfl, h⟩ := i2_of rx ry h
  exact call_max2 hc pins s σ H _ us Q I r ⟨i, j, rfl, h.here rp rv_int⟩
theorem ca_no {f : Bf} {v : Value} (hf : ∀ ws lh, evF f ws lh = .no) : CallR X v (rCa g (evF f)) := by
  intro pins s σ H xs us Q I r h
  obtain ⟨G, lh, ws, E, rp, rs, h⟩ := h
  rw [hf] at h
  exact h.elim
theorem ca_all_of (hK : X.K = g.K) (hc : X.calm = true) (f : Bf) : CallR X (bfVal f) (rCa g (evF f)) := by
  cases f
  · exact ca_len hK
  · exact ca_int
  · exact ca_abs
  · exact ca_tuple hK
  · exact ca_list hK
  · exact ca_listm hK
  · exact ca_sorted hK
  · exact ca_sum hK hc
  · exact ca_no fun _ _ => rfl
  · exact ca_no fun _ _ => rfl
  · exact ca_min2 hc
  · exact ca_max2 hc
  · exact ca_any hK hc
  · exact ca_all hK hc
  · exact ca_no fun _ _ => rfl
  · exact ca_no fun _ _ => rfl
/-! ### subscripts, slices -/
theorem ixn_eq (n : Nat) (i : Int) : ixn n i = L2.ixN n i := rfl
theorem ix_str_of {s : String} {k : Int} {c : Char} (e : ix s.toList k = some c) : atI (Str.ofString s).cps.toList k = some c.toNat := by
  have e2 : (Str.ofString s).cps.toList = s.toList.map Char.toNat := by
    rw [PySem.Str.ofString_eq_toList]
  rw [e2]
  unfold ix at e
  unfold atI
  rw [List.length_map]
  obtain ⟨j, h1, h2⟩ := Option.bind_eq_some_iff.mp e
  rw [ixn_eq] at h1
  rw [h1]
  show (s.toList.map Char.toNat)[j]? = some c.toNat
  rw [List.getElem?_map, h2]; rfl
theorem str_one (c : Char) : Str.ofString (String.ofList [c]) = ⟨#[c.toNat]⟩ := by
  rw [PySem.Str.ofString_eq_toList]
  simp
theorem snd_ix (hK : X.K = g.K) : IxR X (rOp g evIx) := by
  intro value slice pins s σ H x y v u Q I rx ry h hs
  obtain ⟨G, lh, wx, wy, E, rp, r1, r2, h⟩ := h
  unfold evIx at h
  split at h
  · rename_i k
    rw [r2.int_eq] at ry
    split at h
    · rename_i z
      split at h
      · rename_i c hc
        split at h
        · rename_i hl
          rw [r1.str_eq] at rx
          refine ix_str value slice pins s σ H _ _ v u Q I rx ry ⟨_, k, c.toNat, rfl, rfl, by rw [str_len]; exact big_line hl, ix_str_of hc, h.here rp ?_⟩ hs
          unfold RV
          rw [str_one]
        · exact h.elim
      · exact h.elim
    · split at h
      · rename_i ws hw
        split at h
        · rename_i w he
          obtain ⟨p, xs, rfl, hq, rs⟩ := seqOf_spec rp r1 hw
          obtain ⟨j, h1, h2⟩ := Option.bind_eq_some_iff.mp he
          obtain ⟨z, hz, rz⟩ := rs.get h2
          have ha : atI xs k = some z := by
            unfold atI
            rw [← rs.length, ← ixn_eq, h1]
            exact hz
          rcases hq with ⟨_, q⟩ | ⟨_, q⟩
          · exact ix_list value slice pins s σ H _ _ v u Q I rx ry ⟨p, xs, k, z, rfl, rfl, by rw [hK]; exact q, ha, h.here rp rz⟩ hs
          · exact ix_tup value slice pins s σ H _ _ v u Q I rx ry ⟨p, xs, k, z, rfl, rfl, by rw [hK]; exact q, ha, h.here rp rz⟩ hs
        · exact h.elim
      · exact h.elim
  · exact h.elim
theorem clip_eq (n d : Nat) (o : Option Int) : clip n d o = HT.sIx n d o := by
  cases o with
  | none => rfl
  | some v =>
    show (if v < 0 then (v + n).toNat else min v.toNat n) = HT.sIx n d (some v)
    have h := HT.clip_eq v n d
    split at h
    · rename_i hv
      rw [if_pos hv]
      omega
    · rename_i hv
      rw [if_neg hv]
      omega
theorem cut_rel {G : Gh} {H : Hp} {ws : List W} {xs : List V} (r : RVs g G H ws xs) (lo hi : Option Int) : RVs g G H (cut ws lo hi) (cutV xs lo hi) := by
  unfold cut cutV
  rw [clip_eq, clip_eq, r.length]
  exact (r.drop _).take _
def rSl (g : Gw) : V → Option Int → Option Int → Hp → VK → Prop := fun x lo hi H Q => ∃ (G : Gh) (lh : LH) (w : W) (E : XK), Rep g G lh H ∧ RV g G H w x ∧ PostG g (RV g) G H (evSl w lo hi lh) Q E
theorem snd_sl (hK : X.K = g.K) : SlR X (rSl g) := by
  intro pins s σ H x v vl vu lo hi sl Q I rx hs pl pu h
  obtain ⟨G, lh, w, E, rp, r1, h⟩ := h
  unfold evSl at h
  split at h
  · rename_i ws
    obtain ⟨p, xs, rfl, hq, rs⟩ := r1.tup_eq
    refine sl_tupA pins s σ H _ v vl vu lo hi sl Q I rx hs pl pu ⟨p, xs, rfl, by rw [hK]; exact hq, fun hw => ?_, fun _ q hq2 => post_tup rp (cut_rel rs lo hi) h hq2⟩
    refine h.here rp (rv_tup hq ?_)
    have e : cut ws lo hi = ws := by
      unfold cut
      rw [clip_eq, clip_eq, rs.length, hw.1, hw.2, List.drop_zero, Nat.sub_zero, ← rs.length, List.take_length]
    rw [e]; exact rs
  · split at h
    · rename_i ws hw
      obtain ⟨p, xs, rfl, hq, rs⟩ := lstOf_spec rp r1 hw
      exact sl_list pins s σ H _ v vl vu lo hi sl Q I rx hs pl pu ⟨p, xs, rfl, by rw [hK]; exact hq, fun q hq2 => post_fl rp (cut_rel rs lo hi) h hq2⟩
    · exact h.elim
/-! ### methods of lists -/
theorem snd_append {pins : List (Addr × Obj)} {σ : L2.St} {H : Hp} {G : Gh} {lh : LH} {w u : W} {x y : V} {Q : VK} {E : XK} (rp : Rep g G lh H) (rx : RV g G H w x) (ry : RV g G H u y) (h : PostG g (RV g) G H (evLm .append w [u] lh) Q E) : rAppend x [y] H Q := by
  unfold evLm at h
  split at h
  · rename_i n
    unfold RV at rx
    obtain ⟨p, rfl, hp⟩ := rx
    split at h
    · rename_i ws hn
      dsimp only at h
      split at h
      · rename_i hl
        obtain ⟨xs, hx, rs⟩ := rp.lst hn hp
        refine ⟨p, xs, y, rfl, rfl, hx, by rw [← rs.length]; exact Nat.lt_of_lt_of_le hl (big_line (Nat.le_refl _)), ?_⟩
        have sp := rp.sep n _ p hn hp (by simp)
        have m := Mono.write (g := g) (G := G) (H := H) (p := p) (o := .lst (xs ++ [y])) hx ⟨sp.1, .inl ⟨xs, rfl⟩⟩
        obtain ⟨e, rp2⟩ := rp.write (o' := .lst (ws ++ [u])) (ho' := .lst (xs ++ [y])) hn hp (by simp) hx (.inl ⟨xs, rfl⟩) ⟨_, rfl, (rs.mono m).append (.cons (ry.mono m) .nil)⟩
        exact h.at e rp2 rv_non
      · exact h.elim
    · exact h.elim
  · exact h.elim
end
end Mp
namespace Mp
open PySem PySem.Spec PyProof.Rows L2
/-! ### the checker: own text against the model's text -/
/-- a def's arity: its parameters, its defaults -/
abbrev Ar := String → Option (Nat × Nat)
def vis (sc : Scope) (x : Str) : Bool := match sc.names.lookup x with
  | some .local => true | some .cell => true | some .free => true | _ => false
def gl (sc : Scope) (x : Str) : Bool := match sc.names.lookup x with
  | some .globalImplicit => true | _ => false
def stOk (fn : Str → Bool) (sc : Scope) (x : Str) : Bool := match sc.names.lookup x with
  | some .local => true | some .cell => fn x | _ => false
def seq (x : Str) (f : String) : Bool := decide (x = Str.ofString f)
def nst : Expr → Bool
  | .Starred _ _ => false | _ => true
def ncall0 : Expr → Bool
  | .Call (.Name _ _) [] [] _ => false | _ => true
def nslice : Expr → Bool
  | .Slice _ _ _ _ => false | _ => true
def nset : Expr → Bool
  | .Set _ _ _ => false | _ => true
def ncomp : Expr → Bool
  | .ListComp _ _ _ _ => false | .SetComp _ _ _ _ => false | .DictComp _ _ _ _ _ => false | _ => true
def isT : E → Bool
  | .cst (.bl true) => true | _ => false
def ntup : Expr → Bool
  | .Tuple _ _ _ => false | _ => true
/-- an expression whose truth is asked of its value -/
def plainT : Expr → Bool
  | .UnaryOp .Not _ _ => false | .BoolOp _ _ _ => false | .IfExp _ _ _ _ => false | .Compare _ _ _ _ => false | _ => true
def cstOk : W → Const → Bool
  | .non, .none => true
  | .bl b, .bool c => b == c
  | .int i, .int j => decide (i = j)
  | .str s, .str x => decide (x = Str.ofString s)
  | _, _ => false
def okName (x : Str) : Bool := !(x == ("__debug__" : Str)) && (!(x == ("__classdict__" : Str)) && decide (x ≠ ("__name__" : Str)))
def slotOk (N : List Str) (i : Nat) (x : Str) : Bool := decide (N[i]? = some x)
def chkNames (N : List Str) (fn : Str → Bool) (sc : Scope) : List Nat → List Expr → Bool
  | [], [] => true
  | i :: is, .Name x _ :: es => slotOk N i x && (stOk fn sc x && chkNames N fn sc is es)
  | _, _ => false
def chkTg (N : List Str) (fn : Str → Bool) (sc : Scope) : Tg → Expr → Bool
  | .one i, .Name x _ => slotOk N i x && stOk fn sc x
  | .many is, .Tuple es _ _ => chkNames N fn sc is es
  | _, _ => false
def tgIn (own : List Nat) : Tg → Bool
  | .one i => own.contains i
  | .many is => is.all own.contains
def chkTys (sc : Scope) : List Ty → List Expr → Bool
  | [], [] => true
  | t :: ts, .Name x _ :: es => tyB t && (seq x (tyName t) && (gl sc x && chkTys sc ts es))
  | _, _ => false
def lmName : Lm → String
  | .append => "append" | .pop => "pop" | .popAt => "pop" | .extend => "extend" | .index => "index" | .insert => "insert"
def arOk (ar : Ar) (f : String) (n : Nat) : Bool := match ar f with
  | some (np, nd) => decide (n ≤ np ∧ np - n ≤ nd)
  | none => false
def ownP (N : List Str) (own : List Nat) : List (Str × Nat) := own.map fun i => (N.getD i Str.empty, i)
def blkFn (scope : Scope) : Str → Bool := fun x => scope.names.lookup x == some .cell
mutual
def chkE (ar : Ar) (N : List Str) : E → (Str → Bool) → Scope → Expr → Bool
  | .var i, _, sc, .Name x _ => slotOk N i x && (vis sc x && okName x)
  | .cst w, _, _, .Constant c _ _ => cstOk w c
  | .glo x, _, sc, .Name y _ => seq y x && (gl sc y && okName y)
  | .tup es, fn, sc, .Tuple xs _ _ => decide (xs.length ≤ big) && chkA ar N es fn sc xs
  | .lst es, fn, sc, .List xs _ => decide (xs.length ≤ big) && chkA ar N es fn sc xs
  | .lstm es, fn, sc, .List xs _ => decide (xs.length ≤ big) && chkA ar N es fn sc xs
  | .bin o a b, fn, sc, .BinOp x op y _ => decide (op = toOp o) && (chkE ar N a fn sc x && chkE ar N b fn sc y)
  | .un o a, fn, sc, .UnaryOp op x _ => decide (op = toUn o) && chkE ar N a fn sc x
  | .cmp o a b, fn, sc, .Compare x [op] [y] _ => decide (op = toCmp o) && (!behindInMarks op y && (chkE ar N a fn sc x && chkE ar N b fn sc y))
  | .cmp2 o p a b c, fn, sc, .Compare x [op, op'] [y, z] _ => decide (op = toCmp o) && (decide (op' = toCmp p) && (!lastMarks [op, op'] [y, z] && (chkE ar N a fn sc x && (chkE ar N b fn sc y && chkE ar N c fn sc z))))
  | .and a b, fn, sc, .BoolOp .And [x, y] _ => chkE ar N a fn sc x && chkE ar N b fn sc y
  | .and a b, fn, sc, .BoolOp .And (x :: y :: z :: r) pos => chkE ar N a fn sc x && chkE ar N b fn sc (.BoolOp .And (y :: z :: r) pos)
  | .or a b, fn, sc, .BoolOp .Or [x, y] _ => chkE ar N a fn sc x && chkE ar N b fn sc y
  | .or a b, fn, sc, .BoolOp .Or (x :: y :: z :: r) pos => chkE ar N a fn sc x && chkE ar N b fn sc (.BoolOp .Or (y :: z :: r) pos)
  | .not a, fn, sc, .UnaryOp .Not x _ => chkE ar N a fn sc x
  | .ite c a b, fn, sc, .IfExp z x y _ => chkT ar N c fn sc z && (chkE ar N a fn sc x && chkE ar N b fn sc y)
  | .call f es, fn, sc, .Call (.Name y _) (x :: xs) [] _ => seq y f && (gl sc y && (okName y && (arOk ar f (xs.length + 1) && chkA ar N es fn sc (x :: xs))))
  | .call f .nil, fn, sc, .Call (.Name y _) [] [] _ => seq y f && (gl sc y && (okName y && arOk ar f 0))
  | .bf f es, fn, sc, .Call (.Name y _) (x :: xs) [] _ => seq y (bfName f) && (gl sc y && (okName y && chkA ar N es fn sc (x :: xs)))
  | .isi a t, fn, sc, .Call (.Name y _) [x, .Name z _] [] _ => seq y "isinstance" && (gl sc y && (tyB t && (seq z (tyName t) && (gl sc z && (nst x && chkE ar N a fn sc x)))))
  | .isiT a ts, fn, sc, .Call (.Name y _) [x, .Tuple zs _ _] [] _ => seq y "isinstance" && (gl sc y && (decide (ts.length ≤ 8) && (chkTys sc ts zs && (nst x && chkE ar N a fn sc x))))
  | .lm o m es, fn, sc, .Call (.Attribute x y apos) (z :: zs) [] cpos => decide (m = .append) && (seq y (lmName m) && (ncall0 x && ((apos.endLine == cpos.line) && (decide (zs.length < 20) && (chkE ar N o fn sc x && chkA ar N es fn sc (z :: zs))))))
  | .attr o f, fn, sc, .Attribute x y _ => seq y f && (ncall0 x && chkE ar N o fn sc x)
  | .idx o i, fn, sc, .Subscript x y _ => nslice y && (chkE ar N o fn sc x && chkE ar N i fn sc y)
  | .comp m e tg it c own, fn, sc, .ListComp elt [⟨t, iter, ifs, .ofNat 0⟩] scope _ =>
      nset iter && (chkI ar N it fn sc t iter && (blkC N sc scope (ownP N own) && (tgIn own tg && (chkTg N (blkFn scope) (relS scope sc) tg t && (chkE ar N e (blkFn scope) (relS scope sc) elt &&
        (match ifs with
        | [] => isT c
        | [q] => chkT ar N c (blkFn scope) (relS scope sc) q
        | _ => false))))))
  | .lrng _ a, fn, sc, .Call (.Name y _) [.Call (.Name z _) [x] [] _] [] _ => seq y "list" && (gl sc y && (seq z "range" && (gl sc z && (nst x && chkE ar N a fn sc x))))
  | .frz a, fn, sc, x => chkE ar N a fn sc x
  | .stop, _, _, _ => true
  | .sl o lo hi, fn, sc, .Subscript x (.Slice l u none _) _ => chkE ar N o fn sc x && ((match l with
      | none => isNil lo
      | some l => !isNil lo && chkE ar N lo fn sc l) && (match u with
      | none => isNil hi
      | some u => !isNil hi && chkE ar N hi fn sc u))
  | _, _, _, _ => false
def chkA (ar : Ar) (N : List Str) : E → (Str → Bool) → Scope → List Expr → Bool
  | .nil, _, _, [] => true
  | .cons e es, fn, sc, x :: xs => nst x && (chkE ar N e fn sc x && chkA ar N es fn sc xs)
  | _, _, _, _ => false
def chkT (ar : Ar) (N : List Str) : E → (Str → Bool) → Scope → Expr → Bool
  | .tE (.cmp o a b), fn, sc, .Compare x [op] [y] _ => decide (op = toCmp o) && (!behindInMarks op y && (chkE ar N a fn sc x && chkE ar N b fn sc y))
  | .tE (.cmp2 o p a b c), fn, sc, .Compare x [op, op'] [y, z] _ => decide (op = toCmp o) && (decide (op' = toCmp p) && (!lastMarks [op, op'] [y, z] && (chkE ar N a fn sc x && (chkE ar N b fn sc y && chkE ar N c fn sc z))))
  | .tE a, fn, sc, x => plainT x && chkE ar N a fn sc x
  | .tand a b, fn, sc, .BoolOp .And [x, y] _ => chkT ar N a fn sc x && chkT ar N b fn sc y
  | .tand a b, fn, sc, .BoolOp .And (x :: y :: z :: r) pos => chkT ar N a fn sc x && chkT ar N b fn sc (.BoolOp .And (y :: z :: r) pos)
  | .tor a b, fn, sc, .BoolOp .Or [x, y] _ => chkT ar N a fn sc x && chkT ar N b fn sc y
  | .tor a b, fn, sc, .BoolOp .Or (x :: y :: z :: r) pos => chkT ar N a fn sc x && chkT ar N b fn sc (.BoolOp .Or (y :: z :: r) pos)
  | .tnot a, fn, sc, .UnaryOp .Not x _ => chkT ar N a fn sc x
  | _, _, _, _ => false
/-- what a loop walks; its target is asked, too -/
def chkI (ar : Ar) (N : List Str) : E → (Str → Bool) → Scope → Expr → Expr → Bool
  | .itv a, fn, sc, _, x => chkE ar N a fn sc x
  | .rng1 a, fn, sc, _, .Call (.Name y _) [x] [] _ => seq y "range" && (gl sc y && (nst x && chkE ar N a fn sc x))
  | .rng2 a b, fn, sc, _, .Call (.Name y _) [x, z] [] _ => seq y "range" && (gl sc y && (nst x && (nst z && (chkE ar N a fn sc x && chkE ar N b fn sc z))))
  | .enum a, fn, sc, .Tuple _ _ _, .Call (.Name y _) [x] [] _ => seq y "enumerate" && (gl sc y && (nst x && chkE ar N a fn sc x))
  | .zip a b, fn, sc, .Tuple _ _ _, .Call (.Name y _) [x, z] [] _ => seq y "zip" && (gl sc y && (nst x && (nst z && (chkE ar N a fn sc x && chkE ar N b fn sc z))))
  | .rev a, fn, sc, _, .Call (.Name y _) [x] [] _ => seq y "reversed" && (gl sc y && (nst x && chkE ar N a fn sc x))
  | _, _, _, _, _ => false
end
/-- a list comprehension that is stored straight into a local of the same line -/
def swB (sc : Scope) (x : Str) (px : Pos) (scope : Scope) (pos : Pos) : Bool := decide (sc.names.lookup x = some .local) && ((px.line == pos.line) && !(scope.names.any fun (n, k) => n == x && (k == .local || k == .cell)))
mutual
def chk1 (ar : Ar) (N : List Str) : S → (Str → Bool) → Scope → Stmt → Bool
  | .asg i (.comp m e tg it c own), fn, sc, .Assign [.Name x _] (.ListComp elt gs scope pos) _ => slotOk N i x && (stOk fn sc x && chkE ar N (.comp m e tg it c own) fn sc (.ListComp elt gs scope pos))
  | .asg i e, fn, sc, .Assign [.Name x _] v _ => slotOk N i x && (stOk fn sc x && (ncomp v && chkE ar N e fn sc v))
  | .unp is e, fn, sc, .Assign [.Tuple xs _ _] v _ => chkNames N fn sc is xs && (ncomp v && (ntup v && chkE ar N e fn sc v))
  | .aug i o e, fn, sc, .AugAssign (.Name x _) op v _ => slotOk N i x && (stOk fn sc x && (decide (op = toOp o) && (decide (o = .add) && chkE ar N e fn sc v)))
  | .setI o i e, fn, sc, .Assign [.Subscript x y _] v _ => nslice y && ((chkE ar N o fn sc x && (chkE ar N i fn sc y && chkE ar N e fn sc v)))
  | .expr e, fn, sc, .Expr v _ => ncomp v && (chkE ar N e fn sc v && (match v with | .Constant _ _ _ => false | _ => true))
  | .ret e, fn, sc, .Return (some v) _ => chkE ar N e fn sc v
  | .retN, _, _, .Return none _ => true
  | .ifs c a b, fn, sc, .If z x y _ => chkT ar N c fn sc z && (chkS ar N a fn sc x && chkS ar N b fn sc y)
  | .wh c b, fn, sc, .While z x [] _ => chkT ar N c fn sc z && chkS ar N b fn sc x
  | .for_ tg it b, fn, sc, .For t iter x [] _ => nset iter && (chkI ar N it fn sc t iter && (chkTg N fn sc tg t && chkS ar N b fn sc x))
  | .stop, _, _, _ => true
  | .brk, _, _, .Break _ => true
  | .cont, _, _, .Continue _ => true
  | .pass, _, _, .Pass _ => true
  | _, _, _, _ => false
def chkS (ar : Ar) (N : List Str) : S → (Str → Bool) → Scope → List Stmt → Bool
  | .nil, _, _, [] => true
  | .seq (.kill _) r, fn, sc, sts => chkS ar N r fn sc sts
  | .seq s r, fn, sc, st :: sts => chk1 ar N s fn sc st && chkS ar N r fn sc sts
  | _, _, _, _ => false
end
end Mp
namespace Mp
open PySem PySem.Spec PyProof.Rows L2
abbrev Sst := L2.St
/-! ### weakening -/
theorem pe_imp {X : Cx} {e : Expr} {t t' : TE} (h : PE X e t) (i : ∀ σ H Q, t' σ H Q → t σ H Q) : PE X e t' := ⟨fun pins s σ H Q I q => h.run pins s σ H Q I (i σ H Q q)⟩
theorem pt_imp {X : Cx} {e : Expr} {t t' : TT} (h : PT X e t) (i : ∀ σ H Q, t' σ H Q → t σ H Q) : PT X e t' := ⟨fun pins s σ H Q I q => h.run pins s σ H Q I (i σ H Q q)⟩
theorem pw_imp {X : Cx} {e : Expr} {t t' : TT} (h : PW X e t) (i : ∀ σ H Q, t' σ H Q → t σ H Q) : PW X e t' := ⟨fun wh pins s σ H Q I q => h.run wh pins s σ H Q I (i σ H Q q)⟩
theorem pa_imp {X : Cx} {e : List Expr} {t t' : TA} (h : PA X e t) (i : ∀ σ H Q, t' σ H Q → t σ H Q) : PA X e t' := ⟨fun pos pins s σ H Q I q => h.run pos pins s σ H Q I (i σ H Q q)⟩
theorem ps_imp {X : Cx} {e : Stmt} {t t' : TS} (h : PS X e t) (i : ∀ D σ H, t' D σ H → t D σ H) : PS X e t' := ⟨fun pins s σ H D I q => h.run pins s σ H D I (i D σ H q)⟩
theorem pss_imp {X : Cx} {e : List Stmt} {t t' : TS} (h : PSs X e t) (i : ∀ D σ H, t' D σ H → t D σ H) : PSs X e t' := ⟨fun pins s σ H D I q => h.run pins s σ H D I (i D σ H q)⟩
theorem pi_imp {X : Cx} {tg e : Expr} {t t' : TI} (h : PI X tg e t) (i : ∀ σ H Q, t' σ H Q → t σ H Q) : PI X tg e t' := ⟨fun pins s σ H Q I q => h.run pins s σ H Q I (i σ H Q q)⟩
theorem pg_imp {X : Cx} {tg : Expr} {t t' : TG} (h : PG X tg t) (i : ∀ v σ H Q, t' v σ H Q → t v σ H Q) : PG X tg t' := ⟨fun pins s σ H v u Q I r q => h.run pins s σ H v u Q I r (i v σ H Q q)⟩
/-- the rule may be chosen when the values are known -/
theorem pi_dep {X : Cx} {tg e : Expr} {t : TI} (h : ∀ σ H Q, t σ H Q → ∃ t', PI X tg e t' ∧ t' σ H Q) : PI X tg e t := ⟨fun pins s σ H Q I q => by
  obtain ⟨t', a, b⟩ := h σ H Q q
  exact a.run pins s σ H Q I b⟩
theorem pe_dep {X : Cx} {e : Expr} {t : TE} (h : ∀ σ H Q, t σ H Q → ∃ t', PE X e t' ∧ t' σ H Q) : PE X e t := ⟨fun pins s σ H Q I q => by
  obtain ⟨t', a, b⟩ := h σ H Q q
  exact a.run pins s σ H Q I b⟩

/-! ### the top, the context -/
/-- the built-ins' names that the walk uses -/
def bnames : List String := ["len", "int", "abs", "tuple", "list", "sorted", "sum", "min", "max", "any", "all", "str", "divmod", "isinstance", "range", "enumerate", "zip", "reversed", "bool", "dict", "set", "repr"]
structure Tp where
  P : Program
  w : World
  mg : Str → Option Value
  base : Heap
  g : Gw
  T : Tab
  D : String → Option Def
  fa : String → Addr
  fd : String → FuncData
  ps : String → List Str
structure Tp.Ok (t : Tp) : Prop where
  fn : ∀ f d, t.D f = some d → t.mg (Str.ofString f) = some (.ref (t.fa f)) → PySem.W.keepIn t.g.K (.ref (t.fa f)) = true
  np : ∀ f d, t.D f = some d → (t.ps f).length = d.np
  bi : ∀ f d n, t.D f = some d → n ≤ d.np → d.np - n ≤ d.dfl.length → ∃ ds dvs, dvs.length = d.np - n ∧ (∀ G H, RVs t.g G H (d.dfl.drop (d.dfl.length - (d.np - n))) dvs) ∧ Vals dvs ds ∧ Binds t.g.K (t.fd f) (t.ps f) ds
  free : ∀ x, x ∈ bnames → t.mg (Str.ofString x) = none
  fld : ∀ c f, (t.T.fld c).contains f = true → Cls t.g.K (t.g.ca c) ∧ NoAttr t.g.K (t.g.ca c) (Str.ofString f)
  gl : ∀ x w, t.T.gl x = some w → ∃ v u, t.mg (Str.ofString x) = some u ∧ RelV v u ∧ ∀ G H, RV t.g G H w v
/-- the names that a call by name may meet -/
def Tp.named (t : Tp) : Prop := ∀ f d, t.D f = some d → t.mg (Str.ofString f) = some (.ref (t.fa f))
structure Cok (t : Tp) (X : Cx) (W : WX) (n : Nat) (N : List Str) (fn : Str → Bool) (sc : Scope) : Prop where
  hP : X.prog = t.P
  hw : X.w = t.w
  hK : X.K = t.g.K
  hmg : X.mg = t.mg
  hb : X.base = t.base
  hN : X.N = N
  hsc : X.env.scope = sc
  hfn : X.fn = fn
  hfun : sc.kind = .function
  nd : N.Nodup
  calm : X.calm = true
  room : Room n X.A
  tk : Takes X W
  pas : PassesOwn (model X.prog X.w) X.A X.env X.xe
/-- the slots -/
def REnv (g : Gw) (G : Gh) (H : Hp) (ls : Env) (σ : Sst) : Prop := ls.length = σ.length ∧ ∀ (i : Nat) (w : W), ls[i]? = some (some w) → ∃ v, σ[i]? = some (some v) ∧ RV g G H w v
theorem REnv.mono {g : Gw} {G G' : Gh} {H H' : Hp} {ls : Env} {σ : Sst} (r : REnv g G H ls σ) (m : Mono g G H G' H') : REnv g G' H' ls σ :=
  ⟨r.1, fun i w e => by obtain ⟨v, a, b⟩ := r.2 i w e; exact ⟨v, a, b.mono m⟩⟩
theorem REnv.set {g : Gw} {G : Gh} {H : Hp} {ls : Env} {σ : Sst} {i : Nat} {w : W} {v : V} (r : REnv g G H ls σ) (a : RV g G H w v) : REnv g G H (ls.set i (some w)) (σ.set i (some v)) := by
  refine ⟨by simp [r.1], fun j u e => ?_⟩
  by_cases h : i = j
  · subst h
    have hl : i < ls.length := by
      have := (List.getElem?_eq_some_iff.mp e).1
      simpa using this
    rw [List.getElem?_set_self hl] at e
    cases e
    exact ⟨v, List.getElem?_set_self (by rw [← r.1]; exact hl), a⟩
  · rw [List.getElem?_set_ne h] at e
    rw [List.getElem?_set_ne h]
    exact r.2 j u e
theorem REnv.unset {g : Gw} {G : Gh} {H : Hp} {ls : Env} {σ : Sst} (r : REnv g G H ls σ) (i : Nat) : REnv g G H (ls.set i none) σ := by
  refine ⟨by simp [r.1], fun j u e => ?_⟩
  by_cases h : i = j
  · subst h
    have hl : i < ls.length := by
      have := (List.getElem?_eq_some_iff.mp e).1
      simpa using this
    rw [List.getElem?_set_self hl] at e
    cases e
  · rw [List.getElem?_set_ne h] at e
    exact r.2 j u e
theorem REnv.unset2 {g : Gw} {G : Gh} {H : Hp} {ls : Env} {σ : Sst} (r : REnv g G H ls σ) (i : Nat) : REnv g G H (ls.set i none) (σ.set i none) := by
  refine ⟨by simp [r.1], fun j u e => ?_⟩
  by_cases h : i = j
  · subst h
    have hl : i < ls.length := by
      have := (List.getElem?_eq_some_iff.mp e).1
      simpa using this
    rw [List.getElem?_set_self hl] at e
    cases e
  · rw [List.getElem?_set_ne h] at e
    rw [List.getElem?_set_ne h]
    exact r.2 j u e
theorem REnv.wipeE {g : Gw} {G : Gh} {H : Hp} {ls : Env} {σ : Sst} (r : REnv g G H ls σ) : ∀ is : List Nat, REnv g G H (Mp.wipeE ls is) σ
  | [] => r
  | i :: is => (REnv.wipeE r is).unset i
theorem REnv.wipe2 {g : Gw} {G : Gh} {H : Hp} {ls : Env} {σ : Sst} (r : REnv g G H ls σ) : ∀ is : List Nat, REnv g G H (Mp.wipeE ls is) (wipe σ is)
  | [] => r
  | i :: is => (REnv.wipe2 r is).unset2 i

/-! ### the readings -/
section
variable (t : Tp) (cl : Cl)
def tE (W : WX) (e : E) : TE := fun σ H Q => ∃ (G : Gh) (ls : Env) (lh : LH), REnv t.g G H ls σ ∧ Rep t.g G lh H ∧ PostG t.g (RV t.g) G H (evE t.T cl e ls lh) Q (fun cls d H' => W cls d σ H')
def relA (g : Gw) (G : Gh) (H : Hp) (w : W) (xs : List V) : Prop := RVs g G H (items w) xs
def tA (W : WX) (e : E) : TA := fun σ H Q => ∃ (G : Gh) (ls : Env) (lh : LH), REnv t.g G H ls σ ∧ Rep t.g G lh H ∧ PostG t.g (relA t.g) G H (evE t.T cl e ls lh) Q (fun cls d H' => W cls d σ H')
def relT (G : Gh) (H : Hp) (w : W) (b : Bool) : Prop := w = .bl b
def tT (W : WX) (e : E) : TT := fun σ H Q => ∃ (G : Gh) (ls : Env) (lh : LH), REnv t.g G H ls σ ∧ Rep t.g G lh H ∧ PostG t.g relT G H (evE t.T cl e ls lh) Q (fun cls d H' => W cls d σ H')
/-- what an iterator gives -/
def WalkW (g : Gw) (G : Gh) (H : Hp) (p : List W × Gd) (J : It) : Prop := ∀ G2 H2 lh2, Mono g G H G2 H2 → Rep g G2 lh2 H2 → gOk p.2 lh2 = true →
  J.stop p.1.length H2 ∧ ∀ (i : Nat) (w : W), p.1[i]? = some w → J.go i H2 ∧ ∀ x H3, J.yld i H2 x H3 → ∃ G3, Ext g G2 H2 G3 H3 ∧ Rep g G3 lh2 H3 ∧ RV g G3 H3 w x
def tI (W : WX) (e : E) : TI := fun σ H R => ∃ (G : Gh) (ls : Env) (lh : LH), REnv t.g G H ls σ ∧ Rep t.g G lh H ∧ PostG t.g (WalkW t.g) G H (evI t.T cl e ls lh) R (fun cls d H' => W cls d σ H')
def PostS (g : Gw) (G : Gh) (H : Hp) (r : RS) (D : Ends) (W : WX) : Prop := match r with
  | .nx ls lh => ∀ G' H' σ', Ext g G H G' H' → Rep g G' lh H' → REnv g G' H' ls σ' → D.nx σ' H'
  | .brk ls lh => ∀ G' H' σ', Ext g G H G' H' → Rep g G' lh H' → REnv g G' H' ls σ' → D.bk σ' H'
  | .cont ls lh => ∀ G' H' σ', Ext g G H G' H' → Rep g G' lh H' → REnv g G' H' ls σ' → D.ct σ' H'
  | .ret w lh => ∀ G' H' v, Ext g G H G' H' → Rep g G' lh H' → RV g G' H' w v → D.rt v H'
  | .ex c ns fs ls lh => ∀ G' H' σ' cls d, Ext g G H G' H' → Rep g G' lh H' → REnv g G' H' ls σ' → RX g G' H' c ns fs cls d → W cls d σ' H'
  | .no => False
theorem PostS.mono {g : Gw} {G G' : Gh} {H H' : Hp} {r : RS} {D : Ends} {W : WX} (h : PostS g G H r D W) (e : Ext g G H G' H') : PostS g G' H' r D W := by
  cases r with
  | nx ls lh => exact fun G2 H2 s e2 => h G2 H2 s (e.trans e2)
  | brk ls lh => exact fun G2 H2 s e2 => h G2 H2 s (e.trans e2)
  | cont ls lh => exact fun G2 H2 s e2 => h G2 H2 s (e.trans e2)
  | ret w lh => exact fun G2 H2 v e2 => h G2 H2 v (e.trans e2)
  | ex c ns fs ls lh => exact fun G2 H2 s cls d e2 => h G2 H2 s cls d (e.trans e2)
  | no => exact h
def tS (W : WX) (s : S) : TS := fun D σ H => ∃ (G : Gh) (ls : Env) (lh : LH), REnv t.g G H ls σ ∧ Rep t.g G lh H ∧ PostS t.g G H (evS t.T cl s ls lh) D W
end
/-- an expression within a statement -/
theorem PostS.toS {g : Gw} {rel : Gh → Hp → W → V → Prop} {G : Gh} {H : Hp} {ls : Env} {σ : Sst} {r : R W} {f : W → LH → RS} {D : Ends} {W' : WX} {Q : VK} (hr : REnv g G H ls σ) (h : PostS g G H (r.toS ls f) D W')
    (k : ∀ a lh G1 H1 b, r = .ok a lh → Ext g G H G1 H1 → Rep g G1 lh H1 → rel G1 H1 a b → PostS g G1 H1 (f a lh) D W' → Q b H1) : PostG g rel G H r Q (fun cls d H' => W' cls d σ H') := by
  cases r with
  | ok a lh => exact fun G2 H2 b e2 rp rb => k a lh G2 H2 b rfl e2 rp rb (PostS.mono (show PostS g G H (f a lh) D W' from h) e2)
  | ex c ns fs lh => exact fun G2 H2 cls d e2 rp rx => h G2 H2 σ cls d e2 rp (hr.mono e2.toMono) rx
  | no => exact h
theorem PostS.toS' {α : Type} {g : Gw} {rel : Gh → Hp → W → α → Prop} {G : Gh} {H : Hp} {ls : Env} {σ : Sst} {r : R W} {f : W → LH → RS} {D : Ends} {W' : WX} {Q : α → Hp → Prop} (hr : REnv g G H ls σ) (h : PostS g G H (r.toS ls f) D W')
    (k : ∀ a lh G1 H1 b, r = .ok a lh → Ext g G H G1 H1 → Rep g G1 lh H1 → rel G1 H1 a b → PostS g G1 H1 (f a lh) D W' → Q b H1) : PostG g rel G H r Q (fun cls d H' => W' cls d σ H') := by
  cases r with
  | ok a lh => exact fun G2 H2 b e2 rp rb => k a lh G2 H2 b rfl e2 rp rb (PostS.mono (show PostS g G H (f a lh) D W' from h) e2)
  | ex c ns fs lh => exact fun G2 H2 cls d e2 rp rx => h G2 H2 σ cls d e2 rp (hr.mono e2.toMono) rx
  | no => exact h

/-! ### side conditions -/
theorem seq_eq {x : Str} {f : String} (h : seq x f = true) : x = Str.ofString f := of_decide_eq_true h
theorem ba {a b : Bool} (h : (a && b) = true) : a = true ∧ b = true := Bool.and_eq_true_iff.mp h
theorem okName_d {x : Str} (h : okName x = true) : (x == ("__debug__" : Str)) = false := by
  unfold okName at h
  have := (ba h).1
  simpa using this
theorem okName_c {x : Str} (h : okName x = true) : (x == ("__classdict__" : Str)) = false := by
  unfold okName at h
  have := (ba (ba h).2).1
  simpa using this
theorem okName_n {x : Str} (h : okName x = true) : x ≠ ("__name__" : Str) := by
  unfold okName at h
  exact of_decide_eq_true (ba (ba h).2).2
theorem star_cons {e : Expr} {es : List Expr} {env : PySem.Env} (h : nst e = true) : starEach (e :: es) env = (false, eval e env) :: starEach es env := by
  cases e <;> first | rfl | (cases h; done)
theorem star_any : ∀ {es : List Expr} {env : PySem.Env} {pos : Pos}, es.all nst = true → (backTo pos (starEach es env)).any (·.1) = false
  | [], _, _, _ => rfl
  | e :: es, env, pos, h => by
    rw [List.all_cons] at h
    obtain ⟨h1, h2⟩ := ba h
    rw [star_cons h1]
    show (false || (backTo pos (starEach es env)).any (·.1)) = false
    rw [star_any h2]; rfl
theorem star_all : ∀ {es : List Expr} {env : PySem.Env} {pos : Pos}, es.all nst = true → (backTo pos (starEach es env)).all (fun x => !x.1) = true
  | [], _, _, _ => rfl
  | e :: es, env, pos, h => by
    rw [List.all_cons] at h
    obtain ⟨h1, h2⟩ := ba h
    rw [star_cons h1]
    show (true && (backTo pos (starEach es env)).all (fun x => !x.1)) = true
    rw [star_all h2]; rfl
theorem attr_base {o : Expr} {f : Str} {env : PySem.Env} {wh : Sem Value} (h : ncall0 o = true) : attributeBase o f env wh = wh := by
  unfold attributeBase
  split
  · cases h
  · rfl
theorem isTrue_plain {e : Expr} {env : PySem.Env} (h : plainT e = true) : ∀ whole, PySem.isTrue e env whole = (do let v ← whole; standAt e.pos; holding [v] (truthy v)) := by
  intro whole
  cases e <;> first | rfl | (cases h; done) | skip
  rename_i op x pos
  cases op <;> first | rfl | (cases h; done)
theorem swaps_n {v : Expr} {tg : Option Expr} {l : Nat} {env : PySem.Env} (h : ncomp v = true) : swapsWith v tg l env = pure false := by
  unfold swapsWith
  cases v <;> first | rfl | (cases h; done)
theorem plain_ix {y : Expr} (h : nslice y = true) : PlainIx y := by
  intro o i
  cases y <;> first | rfl | (cases h; done)
theorem folded_n {e : Expr} {env : PySem.Env} (h : nset e = true) : ∀ x, foldedSetIterable e env x = pure x := by
  intro x
  cases e <;> first | rfl | (cases h; done)
theorem vis_of {sc : Scope} {x : Str} (h : vis sc x = true) : Vis sc x := by
  unfold vis at h
  unfold Vis
  split at h
  · rename_i e; exact .inl e
  · rename_i e; exact .inr (.inl e)
  · rename_i e; exact .inr (.inr e)
  · cases h
theorem gl_of {sc : Scope} {x : Str} (h : gl sc x = true) : sc.names.lookup x = some .globalImplicit := by
  unfold gl at h
  split at h
  · assumption
  · cases h
theorem stOk_loc {fn : Str → Bool} {sc : Scope} {x : Str} (h : stOk fn sc x = true) : Loc sc x := by
  unfold stOk at h
  split at h
  · rename_i e; exact .inl e
  · rename_i e; exact .inr e
  · cases h
theorem stOk_fn {fn : Str → Bool} {sc : Scope} {x : Str} (h : stOk fn sc x = true) : fn x = true ∨ sc.names.lookup x = some .local := by
  unfold stOk at h
  split at h
  · rename_i e; exact .inr e
  · exact .inl h
  · cases h
section
variable {t : Tp} {X : Cx} {Wx : WX} {n : Nat} {N : List Str} {fn : Str → Bool} {sc : Scope}
theorem Cok.gl (c : Cok t X Wx n N fn sc) {x : Str} (h : gl sc x = true) : Gl X x := by
  show X.env.scope.names.lookup x = some .globalImplicit
  rw [c.hsc]; exact gl_of h
theorem Cok.free (c : Cok t X Wx n N fn sc) (o : t.Ok) {x : String} (h : x ∈ bnames) : X.mg (Str.ofString x) = none := by
  rw [c.hmg]; exact o.free x h
end

theorem evC_bl {o : COp} {x y w : W} {h h' : LH} (e : evC o x y h = .ok w h') : ∃ b, w = .bl b := by
  have i2b : ∀ {f : Int → Int → Bool}, i2 x y (fun i j => .ok (.bl (f i j)) h) = .ok w h' → ∃ b, w = .bl b := fun {f} e => by
    unfold i2 at e
    split at e
    · injection e with e1 _; exact ⟨_, e1.symm⟩
    · cases e
  cases o <;> simp only [evC] at e
  all_goals first | exact i2b e | skip
  all_goals (repeat' split at e)
  all_goals first | (cases e; done) | (injection e with e1 _; exact ⟨_, e1.symm⟩)
theorem lenA {T : Tab} {cl : Cl} {ar : Ar} {N : List Str} {fn : Str → Bool} {sc : Scope} : ∀ {es : E} {xs : List Expr} {ls : Env} {lh l1 : LH} {w : W}, chkA ar N es fn sc xs = true → evE T cl es ls lh = .ok w l1 → (items w).length = xs.length
  | .nil, [], ls, lh, l1, w, _, e => by
    simp only [evE] at e
    injection e with e1 _
    subst e1; rfl
  | .cons a es, x :: xs, ls, lh, l1, w, h, e => by
    simp only [chkA] at h
    simp only [evE] at e
    cases e1 : evE T cl a ls lh with
    | ex => rw [e1] at e; cases e
    | no => rw [e1] at e; cases e
    | ok v h1 =>
      rw [e1] at e
      dsimp only [R.bind] at e
      cases e2 : evE T cl es ls h1 with
      | ex => rw [e2] at e; cases e
      | no => rw [e2] at e; cases e
      | ok ws h2 =>
        rw [e2] at e
        injection e with e3 _
        subst e3
        show (_ :: items ws).length = _
        rw [List.length_cons, List.length_cons, lenA (ba (ba h).2).2 e2]
/-! ### expressions, one lemma a construct -/
section
variable {t : Tp} {cl : Cl} {X : Cx} {Wx : WX} {n : Nat} {ar : Ar} {N : List Str} {fn : Str → Bool} {sc : Scope} (c : Cok t X Wx n N fn sc) (o : t.Ok)
include c
theorem snd_var {i : Nat} {x : Str} {pos : Pos} (h1 : slotOk N i x = true) (h2 : vis sc x = true) (h3 : okName x = true) : PE X (.Name x pos) (tE t cl Wx (.var i)) := by
  refine pe_imp (pe_var (i := i) (by rw [c.hN]; exact of_decide_eq_true h1) (by rw [c.hsc]; exact vis_of h2) (okName_d h3) (okName_c h3)) fun σ H Q h => ?_
  obtain ⟨G, ls, lh, re, rp, h⟩ := h
  simp only [evE] at h
  split at h
  · rename_i w hw
    obtain ⟨v, e, rv⟩ := re.2 i w hw
    exact ⟨v, e, h.here rp rv⟩
  · exact h.elim
omit c in
theorem snd_cst {w : W} {k : Const} {j : Nat} {pos : Pos} (h : cstOk w k = true) : PE X (.Constant k j pos) (tE t cl Wx (.cst w)) := by
  cases w <;> cases k <;> first | (cases h; done) | skip
  · exact pe_imp pe_non fun σ H Q ⟨G, ls, lh, re, rp, h⟩ => PostG.here (rel := RV t.g) h rp rv_non
  · rename_i a b
    have : a = b := by simpa [cstOk] using h
    subst this
    exact pe_imp pe_bl fun σ H Q ⟨G, ls, lh, re, rp, h⟩ => PostG.here (rel := RV t.g) h rp rv_bl
  · rename_i a b
    have : a = b := of_decide_eq_true h
    subst this
    exact pe_imp pe_int fun σ H Q ⟨G, ls, lh, re, rp, h⟩ => PostG.here (rel := RV t.g) h rp rv_int
  · rename_i a b
    have : b = Str.ofString a := of_decide_eq_true h
    subst this
    exact pe_imp pe_str fun σ H Q ⟨G, ls, lh, re, rp, h⟩ => PostG.here (rel := RV t.g) h rp rv_str
include o in
theorem snd_glo {x : String} {y : Str} {pos : Pos} (h1 : seq y x = true) (h2 : Mp.gl sc y = true) (h3 : okName y = true) : PE X (.Name y pos) (tE t cl Wx (.glo x)) := by
  refine pe_dep fun σ H Q h => ?_
  obtain ⟨G, ls, lh, re, rp, h⟩ := h
  simp only [evE] at h
  split at h
  · rename_i w hw
    obtain ⟨v, u, e1, e2, e3⟩ := o.gl x w hw
    refine ⟨_, pe_glob (v := v) (c.gl h2) ?_ e2 (okName_d h3), h.here rp (e3 _ _)⟩
    rw [seq_eq h1, c.hmg]; exact e1
  · exact h.elim
omit c in
theorem snd_nil : PA X [] (tA t cl Wx .nil) := pa_imp pa_nil fun σ H Q ⟨G, ls, lh, re, rp, h⟩ => PostG.here (rel := relA t.g) h rp RVs.nil
omit c in
theorem snd_cons {e es : E} {x : Expr} {xs : List Expr} (h1 : nst x = true) (ha : PE X x (tE t cl Wx e)) (hb : PA X xs (tA t cl Wx es)) : PA X (x :: xs) (tA t cl Wx (.cons e es)) := by
  refine pa_imp (pa_cons ha hb (star_cons h1)) fun σ H Q ⟨G, ls, lh, re, rp, h⟩ => ?_
  simp only [evE] at h
  refine ⟨G, ls, lh, re, rp, h.bind fun w l1 G1 H1 v _ e1 rp1 rv h1 => ⟨G1, ls, l1, re.mono e1.toMono, rp1, h1.bind fun w2 l2 G2 H2 vs _ e2 rp2 rvs h2 => ?_⟩⟩
  exact h2.here rp2 (RVs.cons (rv.mono e2.toMono) rvs)
omit c in
theorem snd_tup {es : E} {xs : List Expr} {k : Nat} {pos : Pos} (ha : PA X xs (tA t cl Wx es)) (hc : chkA ar N es fn sc xs = true) (hl : xs.length ≤ big) : PE X (.Tuple xs k pos) (tE t cl Wx (.tup es)) := by
  refine pe_imp (pe_tup ha) fun σ H Q ⟨G, ls, lh, re, rp, h⟩ => ?_
  simp only [evE] at h
  refine ⟨G, ls, lh, re, rp, h.bind fun w l1 G1 H1 vs eq e1 rp1 rv h1 => ⟨?_, fun p hp => post_tup rp1 rv h1 hp⟩⟩
  rw [← RVs.length rv]
  rw [lenA hc eq]
  exact big_line hl
omit c in
theorem snd_lst {es : E} {xs : List Expr} {pos : Pos} (ha : PA X xs (tA t cl Wx es)) (hc : chkA ar N es fn sc xs = true) (hl : xs.length ≤ big) : PE X (.List xs pos) (tE t cl Wx (.lst es)) := by
  refine pe_imp (pe_lst ha) fun σ H Q ⟨G, ls, lh, re, rp, h⟩ => ?_
  simp only [evE] at h
  refine ⟨G, ls, lh, re, rp, h.bind fun w l1 G1 H1 vs eq e1 rp1 rv h1 => ⟨?_, fun p hp => post_fl rp1 rv h1 hp⟩⟩
  rw [← RVs.length rv]
  rw [lenA hc eq]
  exact big_line hl
omit c in
theorem snd_lstm {es : E} {xs : List Expr} {pos : Pos} (ha : PA X xs (tA t cl Wx es)) (hc : chkA ar N es fn sc xs = true) (hl : xs.length ≤ big) : PE X (.List xs pos) (tE t cl Wx (.lstm es)) := by
  refine pe_imp (pe_lst ha) fun σ H Q ⟨G, ls, lh, re, rp, h⟩ => ?_
  simp only [evE] at h
  refine ⟨G, ls, lh, re, rp, h.bind fun w l1 G1 H1 vs eq e1 rp1 rv h1 => ⟨?_, fun p hp => post_ref rp1 rv h1 hp⟩⟩
  rw [← RVs.length rv]
  rw [lenA hc eq]
  exact big_line hl
theorem snd_binE {op : BOp} {a b : E} {x y : Expr} {pos : Pos} (ha : PE X x (tE t cl Wx a)) (hb : PE X y (tE t cl Wx b)) : PE X (.BinOp x (toOp op) y pos) (tE t cl Wx (.bin op a b)) := by
  refine pe_imp (pe_op (snd_bin c.hK op) ha hb) fun σ H Q ⟨G, ls, lh, re, rp, h⟩ => ?_
  simp only [evE] at h
  exact ⟨G, ls, lh, re, rp, h.bind fun w l1 G1 H1 v _ e1 rp1 rv h1 => ⟨G1, ls, l1, re.mono e1.toMono, rp1, h1.bind fun w2 l2 G2 H2 v2 _ e2 rp2 rv2 h2 => ⟨G2, l2, w, w2, _, rp2, rv.mono e2.toMono, rv2, h2⟩⟩⟩
omit c in
theorem snd_unE {op : UOp} {a : E} {x : Expr} {pos : Pos} (ha : PE X x (tE t cl Wx a)) : PE X (.UnaryOp (toUn op) x pos) (tE t cl Wx (.un op a)) := by
  refine pe_imp (pe_un (snd_un (g := t.g) op) ha) fun σ H Q ⟨G, ls, lh, re, rp, h⟩ => ?_
  simp only [evE] at h
  exact ⟨G, ls, lh, re, rp, h.bind fun w l1 G1 H1 v _ e1 rp1 rv h1 => ⟨G1, l1, w, _, rp1, rv, h1⟩⟩
theorem snd_cmpE {op : COp} {a b : E} {x y : Expr} {pos : Pos} (hm : behindInMarks (toCmp op) y = false) (ha : PE X x (tE t cl Wx a)) (hb : PE X y (tE t cl Wx b)) : PE X (.Compare x [toCmp op] [y] pos) (tE t cl Wx (.cmp op a b)) := by
  refine pe_imp (pe_cmpR (snd_cmp c.hK c.room op) ha hb hm) fun σ H Q ⟨G, ls, lh, re, rp, h⟩ => ?_
  simp only [evE] at h
  exact ⟨G, ls, lh, re, rp, h.bind fun w l1 G1 H1 v _ e1 rp1 rv h1 => ⟨G1, ls, l1, re.mono e1.toMono, rp1, h1.bind fun w2 l2 G2 H2 v2 _ e2 rp2 rv2 h2 => ⟨G2, l2, w, w2, _, rp2, rv.mono e2.toMono, rv2, h2⟩⟩⟩
theorem snd_cmpT {op : COp} {a b : E} {x y : Expr} {pos : Pos} (hm : behindInMarks (toCmp op) y = false) (ha : PE X x (tE t cl Wx a)) (hb : PE X y (tE t cl Wx b)) : PT X (.Compare x [toCmp op] [y] pos) (tT t cl Wx (.tE (.cmp op a b))) := by
  refine pt_imp (pt_cmpR (snd_cmp c.hK c.room op) ha hb hm) fun σ H Q ⟨G, ls, lh, re, rp, h⟩ => ?_
  rw [show evE t.T cl (.tE (.cmp op a b)) ls lh = (evE t.T cl a ls lh).bind fun x h1 => (evE t.T cl b ls h1).bind fun y h2 => (evC op x y h2).bind fun x h1 => (match truW h1 x with | some b => .ok (.bl b) h1 | none => .no) from by
    simp only [evE, R.bind]
    cases evE t.T cl a ls lh with
    | ok x l1 =>
      dsimp only
      cases evE t.T cl b ls l1 <;> rfl
    | ex => rfl
    | no => rfl] at h
  refine ⟨G, ls, lh, re, rp, h.bind fun w l1 G1 H1 v _ e1 rp1 rv h1 => ⟨G1, ls, l1, re.mono e1.toMono, rp1, h1.bind fun w2 l2 G2 H2 v2 _ e2 rp2 rv2 h2 => ⟨G2, l2, w, w2, _, rp2, rv.mono e2.toMono, rv2, h2.bind fun k l3 G3 H3 z ek e3 rp3 rz h3 => ?_⟩⟩⟩
  -- a comparison gives a truth value
  obtain ⟨b, rfl⟩ := evC_bl ek
  exact ⟨b, rz.bl_eq, h3.here rp3 rfl⟩
theorem snd_cmp2E {op op2 : COp} {a b d : E} {x y z : Expr} {pos : Pos} (hm : lastMarks [toCmp op, toCmp op2] [y, z] = false) (ha : PE X x (tE t cl Wx a)) (hb : PE X y (tE t cl Wx b)) (hd : PE X z (tE t cl Wx d)) : PE X (.Compare x [toCmp op, toCmp op2] [y, z] pos) (tE t cl Wx (.cmp2 op op2 a b d)) := by
  refine pe_imp (pe_chain (snd_cmp c.hK c.room op) (snd_cmp c.hK c.room op2) ha hb hd hm) fun σ H Q ⟨G, ls, lh, re, rp, h⟩ => ?_
  simp only [evE] at h
  refine ⟨G, ls, lh, re, rp, h.bind fun w l1 G1 H1 v _ e1 rp1 rv h1 => ⟨G1, ls, l1, re.mono e1.toMono, rp1, h1.bind fun w2 l2 G2 H2 v2 _ e2 rp2 rv2 h2 => ⟨G2, l2, w, w2, _, rp2, rv.mono e2.toMono, rv2, h2.bind fun k l3 G3 H3 q ek e3 rp3 rk h3 => ?_⟩⟩⟩
  obtain ⟨b, rfl⟩ := evC_bl ek
  refine ⟨b, rk.bl_eq, ?_⟩
  cases b with
  | true =>
    refine iteT ⟨G3, ls, l3, ((re.mono e1.toMono).mono e2.toMono).mono e3.toMono, rp3, PostG.bind (rel2 := RV t.g) h3 fun w4 l4 G4 H4 v4 _ e4 rp4 rv4 h4 => ⟨G4, l4, w2, w4, _, rp4, (rv2.mono e3.toMono).mono e4.toMono, rv4, h4⟩⟩
  | false => exact iteF (PostG.here (rel := RV t.g) h3 rp3 rv_bl)
theorem snd_cmp2T {op op2 : COp} {a b d : E} {x y z : Expr} {pos : Pos} (hm : lastMarks [toCmp op, toCmp op2] [y, z] = false) (ha : PE X x (tE t cl Wx a)) (hb : PE X y (tE t cl Wx b)) (hd : PE X z (tE t cl Wx d)) : PT X (.Compare x [toCmp op, toCmp op2] [y, z] pos) (tT t cl Wx (.tE (.cmp2 op op2 a b d))) := by
  refine pt_imp (pt_chain (snd_cmp c.hK c.room op) (snd_cmp c.hK c.room op2) ha hb hd hm) fun σ H Q ⟨G, ls, lh, re, rp, h⟩ => ?_
  have ee : evE t.T cl (.tE (.cmp2 op op2 a b d)) ls lh = (evE t.T cl a ls lh).bind fun x h1 => (evE t.T cl b ls h1).bind fun y h2 => (evC op x y h2).bind fun k h3 => (match k with
      | .bl true => (evE t.T cl d ls h3).bind fun z h4 => (evC op2 y z h4).bind fun x h1 => (match truW h1 x with | some b => .ok (.bl b) h1 | none => .no)
      | .bl false => .ok (.bl false) h3
      | _ => .no) := by
    simp only [evE, R.bind]
    cases evE t.T cl a ls lh with
    | ok x l1 =>
      dsimp only
      cases evE t.T cl b ls l1 with
      | ok y l2 =>
        dsimp only
        cases evC op x y l2 with
        | ok k l3 =>
          cases k with
          | bl kb =>
            cases kb with
            | true =>
              dsimp only
              cases evE t.T cl d ls l3 <;> rfl
            | false => rfl
          | _ => rfl
        | ex => rfl
        | no => rfl
      | ex => rfl
      | no => rfl
    | ex => rfl
    | no => rfl
  rw [ee] at h
  refine ⟨G, ls, lh, re, rp, h.bind fun w l1 G1 H1 v _ e1 rp1 rv h1 => ⟨G1, ls, l1, re.mono e1.toMono, rp1, h1.bind fun w2 l2 G2 H2 v2 _ e2 rp2 rv2 h2 => ⟨G2, l2, w, w2, _, rp2, rv.mono e2.toMono, rv2, h2.bind fun k l3 G3 H3 q ek e3 rp3 rk h3 => ?_⟩⟩⟩
  obtain ⟨b, rfl⟩ := evC_bl ek
  refine ⟨b, rk.bl_eq, ?_⟩
  cases b with
  | true =>
    refine iteT ⟨G3, ls, l3, ((re.mono e1.toMono).mono e2.toMono).mono e3.toMono, rp3, PostG.bind (rel2 := relT) h3 fun w4 l4 G4 H4 v4 _ e4 rp4 rv4 h4 => ⟨G4, l4, w2, w4, _, rp4, (rv2.mono e3.toMono).mono e4.toMono, rv4, h4.bind fun k2 l5 G5 H5 z ek2 e5 rp5 rz h5 => ?_⟩⟩
    obtain ⟨b2, rfl⟩ := evC_bl ek2
    exact ⟨b2, rz.bl_eq, h5.here rp5 rfl⟩
  | false => exact iteF ⟨false, rfl, PostG.here (rel := relT) h3 rp3 rfl⟩
omit c in
theorem snd_and {a b : E} {x y : Expr} {rest : List Expr} {pos : Pos} (ha : PE X x (tE t cl Wx a)) (hb : PE X (.BoolOp .And (y :: rest) pos) (tE t cl Wx b)) : PE X (.BoolOp .And (x :: y :: rest) pos) (tE t cl Wx (.and a b)) := by
  refine pe_imp (pe_and ha hb) fun σ H Q ⟨G, ls, lh, re, rp, h⟩ => ?_
  simp only [evE] at h
  refine ⟨G, ls, lh, re, rp, h.bind fun w l1 G1 H1 v _ e1 rp1 rv h1 => ?_⟩
  split at h1
  · exact ⟨true, rv.bl_eq, iteT ⟨G1, ls, l1, re.mono e1.toMono, rp1, h1⟩⟩
  · exact ⟨false, rv.bl_eq, iteF (h1.here rp1 rv_bl)⟩
  · exact h1.elim
omit c in
theorem snd_or {a b : E} {x y : Expr} {rest : List Expr} {pos : Pos} (ha : PE X x (tE t cl Wx a)) (hb : PE X (.BoolOp .Or (y :: rest) pos) (tE t cl Wx b)) : PE X (.BoolOp .Or (x :: y :: rest) pos) (tE t cl Wx (.or a b)) := by
  refine pe_imp (pe_or ha hb) fun σ H Q ⟨G, ls, lh, re, rp, h⟩ => ?_
  simp only [evE] at h
  refine ⟨G, ls, lh, re, rp, h.bind fun w l1 G1 H1 v _ e1 rp1 rv h1 => ?_⟩
  split at h1
  · exact ⟨true, rv.bl_eq, iteT (h1.here rp1 rv_bl)⟩
  · exact ⟨false, rv.bl_eq, iteF ⟨G1, ls, l1, re.mono e1.toMono, rp1, h1⟩⟩
  · exact h1.elim
theorem snd_not {a : E} {x : Expr} {pos : Pos} (ha : PE X x (tE t cl Wx a)) : PE X (.UnaryOp .Not x pos) (tE t cl Wx (.not a)) := by
  refine pe_imp (pe_notT ha) fun σ H Q ⟨G, ls, lh, re, rp, h⟩ => ?_
  simp only [evE] at h
  refine ⟨G, ls, lh, re, rp, h.bind fun w l1 G1 H1 v _ e1 rp1 rv h1 => ?_⟩
  split at h1
  · rename_i b hb
    exact ⟨b, by rw [c.hK]; exact tru_spec rp1 rv hb, h1.here rp1 rv_bl⟩
  · exact h1.elim
theorem snd_tE {a : E} {x : Expr} (hx : plainT x = true) (ha : PE X x (tE t cl Wx a)) : PT X x (tT t cl Wx (.tE a)) := by
  refine pt_imp (pt_truth ha (isTrue_plain hx)) fun σ H Q ⟨G, ls, lh, re, rp, h⟩ => ?_
  simp only [evE] at h
  refine ⟨G, ls, lh, re, rp, h.bind fun w l1 G1 H1 v _ e1 rp1 rv h1 => ?_⟩
  split at h1
  · rename_i b hb
    exact ⟨b, by rw [c.hK]; exact tru_spec rp1 rv hb, h1.here rp1 rfl⟩
  · exact h1.elim
omit c in
theorem snd_tnot {a : E} {x : Expr} {pos : Pos} (ha : PT X x (tT t cl Wx a)) : PT X (.UnaryOp .Not x pos) (tT t cl Wx (.tnot a)) := by
  refine pt_imp (pt_not ha) fun σ H Q ⟨G, ls, lh, re, rp, h⟩ => ?_
  simp only [evE] at h
  refine ⟨G, ls, lh, re, rp, h.bind fun w l1 G1 H1 v _ e1 rp1 rv h1 => ?_⟩
  subst rv
  exact h1.here rp1 rfl
omit c in
theorem snd_tand {a b : E} {x y : Expr} {rest : List Expr} {pos : Pos} (ha : PT X x (tT t cl Wx a)) (hb : PW X (.BoolOp .And (y :: rest) pos) (tT t cl Wx b)) : PW X (.BoolOp .And (x :: y :: rest) pos) (tT t cl Wx (.tand a b)) := by
  refine pw_imp (pw_and ha hb) fun σ H Q ⟨G, ls, lh, re, rp, h⟩ => ?_
  simp only [evE] at h
  refine ⟨G, ls, lh, re, rp, h.bind fun w l1 G1 H1 v _ e1 rp1 rv h1 => ?_⟩
  subst rv
  cases v with
  | true => exact iteT ⟨G1, ls, l1, re.mono e1.toMono, rp1, h1⟩
  | false => exact iteF (PostG.here (rel := relT) h1 rp1 rfl)
omit c in
theorem snd_tor {a b : E} {x y : Expr} {rest : List Expr} {pos : Pos} (ha : PT X x (tT t cl Wx a)) (hb : PW X (.BoolOp .Or (y :: rest) pos) (tT t cl Wx b)) : PW X (.BoolOp .Or (x :: y :: rest) pos) (tT t cl Wx (.tor a b)) := by
  refine pw_imp (pw_or ha hb) fun σ H Q ⟨G, ls, lh, re, rp, h⟩ => ?_
  simp only [evE] at h
  refine ⟨G, ls, lh, re, rp, h.bind fun w l1 G1 H1 v _ e1 rp1 rv h1 => ?_⟩
  subst rv
  cases v with
  | true => exact iteT (PostG.here (rel := relT) h1 rp1 rfl)
  | false => exact iteF ⟨G1, ls, l1, re.mono e1.toMono, rp1, h1⟩
omit c in
theorem snd_ite {q a b : E} {z x y : Expr} {pos : Pos} (hq : PT X z (tT t cl Wx q)) (ha : PE X x (tE t cl Wx a)) (hb : PE X y (tE t cl Wx b)) : PE X (.IfExp z x y pos) (tE t cl Wx (.ite q a b)) := by
  refine pe_imp (pe_ifExp hq ha hb) fun σ H Q ⟨G, ls, lh, re, rp, h⟩ => ?_
  simp only [evE] at h
  refine ⟨G, ls, lh, re, rp, h.bind fun w l1 G1 H1 v _ e1 rp1 rv h1 => ?_⟩
  subst rv
  cases v with
  | true => exact iteT ⟨G1, ls, l1, re.mono e1.toMono, rp1, h1⟩
  | false => exact iteF ⟨G1, ls, l1, re.mono e1.toMono, rp1, h1⟩
omit c in
theorem bn_mem (f : Bf) : bfName f ∈ bnames := by cases f <;> decide
omit c in
theorem bn_boot : ∀ f : Bf, bootBuiltins (Str.ofString (bfName f)) = some (bfVal f) := by
  intro f
  cases f <;> decide +kernel
include o in
theorem snd_bf {f : Bf} {es : E} {y : Str} {x : Expr} {xs : List Expr} {p pos : Pos} (h1 : seq y (bfName f) = true) (h2 : Mp.gl sc y = true) (h3 : okName y = true) (hs : (x :: xs).all nst = true) (ha : PA X (x :: xs) (tA t cl Wx es)) : PE X (.Call (.Name y p) (x :: xs) [] pos) (tE t cl Wx (.bf f es)) := by
  have e := seq_eq h1
  have hs2 := ba (show (nst x && xs.all nst) = true from hs)
  have hm : X.mg y = none := by rw [e]; exact c.free o (bn_mem f)
  have fin : ∀ σ H Q, tE t cl Wx (.bf f es) σ H Q → tCB (rCa t.g (evF f)) (tA t cl Wx es) σ H Q := fun σ H Q ⟨G, ls, lh, re, rp, h⟩ => by
    simp only [evE] at h
    exact ⟨G, ls, lh, re, rp, h.bind fun w l1 G1 H1 vs _ e1 rp1 rv h1 => ⟨G1, l1, items w, _, rp1, rv, h1⟩⟩
  have hb : bootBuiltins y = some (bfVal f) := by rw [e]; exact bn_boot f
  have hc := ca_all_of c.hK c.calm f
  by_cases ht : bfTy f = true
  · have ev : bfVal f = .type (bfName f) := if_pos ht
    rw [ev] at hc hb
    exact pe_imp (pe_callTy hc (c.gl h2) hm hb ha (okName_n h3) (okName_d h3) (star_cons hs2.1) (star_any hs2.2)) fin
  · have ev : bfVal f = .builtin (bfName f) := if_neg ht
    rw [ev] at hc hb
    exact pe_imp (pe_callB hc (c.gl h2) hm hb ha (okName_n h3) (okName_d h3) (star_cons hs2.1) (star_any hs2.2)) fin
theorem snd_idx {a b : E} {x y : Expr} {pos : Pos} (hy : nslice y = true) (ha : PE X x (tE t cl Wx a)) (hb : PE X y (tE t cl Wx b)) : PE X (.Subscript x y pos) (tE t cl Wx (.idx a b)) := by
  refine pe_imp (pe_ix (snd_ix c.hK) ha hb (plain_ix hy)) fun σ H Q ⟨G, ls, lh, re, rp, h⟩ => ?_
  simp only [evE] at h
  exact ⟨G, ls, lh, re, rp, h.bind fun w l1 G1 H1 v _ e1 rp1 rv h1 => ⟨G1, ls, l1, re.mono e1.toMono, rp1, h1.bind fun w2 l2 G2 H2 v2 _ e2 rp2 rv2 h2 => ⟨G2, l2, w, w2, _, rp2, rv.mono e2.toMono, rv2, h2⟩⟩⟩
/-- a part of a slice -/
def evP (T : Tab) (cl : Cl) (e : E) (ls : Env) (lh : LH) : R (Option Int) := (evE T cl e ls lh).bind fun y h2 => optR (part (isNil e) y) h2
def tO (t : Tp) (cl : Cl) (Wx : WX) (e : E) : TO := fun σ H Q => ∃ (G : Gh) (ls : Env) (lh : LH), REnv t.g G H ls σ ∧ Rep t.g G lh H ∧ PostG t.g (fun _ _ a b => a = b) G H (evP t.T cl e ls lh) Q (fun cls d H' => Wx cls d σ H')
omit c in
theorem snd_po0 {e : E} (he : isNil e = true) : PO X none (tO t cl Wx e) := ⟨fun pins s σ H Q I ⟨G, ls, lh, re, rp, h⟩ => po_none.run pins s σ H Q I (by
  cases e <;> first | (cases he; done) | exact PostG.here (rel := fun _ _ a b => a = b) h rp rfl)⟩
omit c in
theorem snd_po1 {e : E} {x : Expr} (he : isNil e = false) (ha : PE X x (tE t cl Wx e)) : PO X (some x) (tO t cl Wx e) := by
  refine ⟨fun pins s σ H Q I ⟨G, ls, lh, re, rp, h⟩ => (po_some ha).run pins s σ H Q I ⟨G, ls, lh, re, rp, ?_⟩⟩
  unfold evP at h
  rw [he] at h
  refine h.bind fun w l1 G1 H1 v _ e1 rp1 rv h1 => ?_
  cases w <;> first | exact h1.elim | skip
  exact ⟨_, rv.int_eq, PostG.here (rel := fun _ _ a b => a = b) h1 rp1 rfl⟩
theorem snd_slE {a lo hi : E} {x : Expr} {l u : Option Expr} {p2 pos : Pos} (ha : PE X x (tE t cl Wx a)) (hl : PO X l (tO t cl Wx lo)) (hu : PO X u (tO t cl Wx hi)) : PE X (.Subscript x (.Slice l u none p2) pos) (tE t cl Wx (.sl a lo hi)) := by
  refine pe_imp (pe_slice (snd_sl c.hK) ha hl hu) fun σ H Q ⟨G, ls, lh, re, rp, h⟩ => ?_
  simp only [evE] at h
  refine ⟨G, ls, lh, re, rp, h.bind fun w l1 G1 H1 v _ e1 rp1 rv h1 => ⟨G1, ls, l1, re.mono e1.toMono, rp1, h1.bind (r := evP t.T cl lo ls l1) fun o1 l2 G2 H2 o2 _ e2 rp2 ro h2 => ?_⟩⟩
  subst ro
  refine ⟨G2, ls, l2, (re.mono e1.toMono).mono e2.toMono, rp2, h2.bind (r := evP t.T cl hi ls l2) fun o3 l3 G3 H3 o4 _ e3 rp3 ro3 h3 => ?_⟩
  subst ro3
  exact ⟨G3, l3, w, _, rp3, (rv.mono e2.toMono).mono e3.toMono, h3⟩
/-! ### isinstance -/
omit c in
theorem ty_spec {g : Gw} {G : Gh} {H : Hp} {lh : LH} {w : W} {x : V} {T : String} (rp : Rep g G lh H) (r : RV g G H w x) (e : tyOf lh w = some T) : TyX g.K H x (.type T) := by
  cases w with
  | non => simp only [tyOf] at e; cases e; rw [r.non_eq]; exact .base .non
  | bl q => simp only [tyOf] at e; cases e; rw [r.bl_eq]; exact .base (.bl q)
  | int q => simp only [tyOf] at e; cases e; rw [r.int_eq]; exact .base (.int q)
  | str q => simp only [tyOf] at e; cases e; rw [r.str_eq]; exact .base (.str _)
  | tup q =>
    simp only [tyOf] at e; cases e
    obtain ⟨p, xs, rfl, s, _⟩ := r.tup_eq
    rcases s with (s | ⟨o, s⟩) | ⟨o, its, n, s1, s2, _⟩
    · exact .base (.tup s)
    · exact .fTuple s
    · exact .kTuple s1 s2
  | fl q =>
    simp only [tyOf] at e; cases e
    unfold RV at r
    obtain ⟨p, xs, rfl, _, s, _⟩ := r
    exact .base (.lst s)
  | rd q =>
    simp only [tyOf] at e; cases e
    unfold RV at r
    obtain ⟨p, xs, rfl, s, _⟩ := r
    rcases s with ⟨o, s⟩ | ⟨o, its, n, s1, s2, _⟩
    · exact .base (.frz s)
    · exact .kList s1 s2
  | ref m =>
    unfold RV at r
    obtain ⟨p, rfl, hp⟩ := r
    simp only [tyOf] at e
    split at e
    · rename_i ws hm
      cases e
      obtain ⟨xs, s, _⟩ := rp.lst hm hp
      exact .base (.lst s)
    · rename_i hm
      obtain ⟨ho, _, k⟩ := rp.at hm hp
      exact k.elim
    · cases e
  | obj => simp only [tyOf] at e; cases e
  | exc => simp only [tyOf] at e; cases e
omit c in
theorem kit_spec {lh : LH} {w : W} {T : String} {K : PySem.W.Frag} (e : tyOf lh w = some T) (ty : Ty) (hb : tyB ty = true) : PySem.W.kitOne K (.type T) (.type (tyName ty)) = some (kit T ty) := by
  apply kit_ty
  have : T ∈ ["NoneType", "bool", "int", "str", "tuple", "list", "dict"] := by
    unfold tyOf at e
    split at e <;> first | (cases e; decide) | skip
    all_goals first | (cases e; done) | (split at e <;> first | (cases e; decide) | (cases e; done))
  simp only [List.mem_cons, List.mem_nil_iff, or_false] at this
  rcases this with rfl | rfl | rfl | rfl | rfl | rfl | rfl <;> cases ty <;> first | (cases hb; done) | decide +kernel
omit c in
theorem ty_bn (ty : Ty) (hb : tyB ty = true) : tyName ty ∈ bnames ∧ bootBuiltins (Str.ofString (tyName ty)) = some (.type (tyName ty)) ∧ okName (Str.ofString (tyName ty)) = true := by
  cases ty <;> first | (cases hb; done) | exact ⟨by decide, by decide +kernel, by decide +kernel⟩
include o in
theorem pe_ty {z : Str} {ty : Ty} {pos : Pos} (hb : tyB ty = true) (h1 : seq z (tyName ty) = true) (h2 : Mp.gl sc z = true) : PE X (.Name z pos) (tC (.ty (tyName ty))) := by
  have e := seq_eq h1
  obtain ⟨m1, m2, m3⟩ := ty_bn ty hb
  exact pe_bltn (c.gl h2) (by rw [e]; exact c.free o m1) (by rw [e]; exact m2) rfl (by rw [e]; exact okName_n m3) (by rw [e]; exact okName_d m3)
omit c in
theorem isinst_nm : okName (Str.ofString "isinstance") = true ∧ bootBuiltins (Str.ofString "isinstance") = some (.builtin "isinstance") := ⟨by decide +kernel, by decide +kernel⟩
include o in
theorem snd_isi {a : E} {ty : Ty} {y z : Str} {x : Expr} {p p2 pos : Pos} (h1 : seq y "isinstance" = true) (h2 : Mp.gl sc y = true) (hb : tyB ty = true) (h3 : seq z (tyName ty) = true) (h4 : Mp.gl sc z = true) (hx : nst x = true) (ha : PE X x (tE t cl Wx a)) : PE X (.Call (.Name y p) [x, .Name z p2] [] pos) (tE t cl Wx (.isi a ty)) := by
  have e := seq_eq h1
  subst e
  refine pe_imp (pe_callB call_isi (c.gl h2) (c.free o (by decide)) isinst_nm.2 (pa_cons ha (pa_cons (pe_ty c o hb h3 h4) pa_nil (star_cons rfl)) (star_cons hx)) (okName_n isinst_nm.1) (okName_d isinst_nm.1) (star_cons hx) (star_any rfl)) fun σ H Q ⟨G, ls, lh, re, rp, h⟩ => ?_
  simp only [evE] at h
  refine ⟨G, ls, lh, re, rp, h.bind fun w l1 G1 H1 v _ e1 rp1 rv h1 => ?_⟩
  show ∃ (x c : V) (t u : Value) (b : Bool), _
  split at h1
  · rename_i b hk
    unfold tyOk at hk
    rw [if_pos hb] at hk
    obtain ⟨T, hT, rfl⟩ := Option.map_eq_some_iff.mp hk
    refine ⟨v, _, .type T, .type (tyName ty), _, rfl, .ty _, ?_, kit_spec hT ty hb, h1.here rp1 rv_bl⟩
    rw [c.hK]
    exact ty_spec rp1 rv hT
  · exact h1.elim
include o in
theorem pa_tys : ∀ {ts : List Ty} {es : List Expr}, ts.all tyB = true → chkTys sc ts es = true → PA X es (fun _ H Q => Q (ts.map fun ty => V.ty (tyName ty)) H)
  | [], [], _, _ => pa_nil
  | [], _ :: _, _, h => by simp [chkTys] at h
  | ty :: ts, [], _, h => by simp [chkTys] at h
  | ty :: ts, e :: es, hb, h => by
    cases e <;> first | (simp [chkTys] at h; done) | skip
    simp only [chkTys] at h
    rw [List.all_cons] at hb
    obtain ⟨a1, a2⟩ := ba h
    obtain ⟨a3, a4⟩ := ba a2
    obtain ⟨a5, a6⟩ := ba a4
    exact pa_imp (pa_cons (pe_ty c o a1 a3 a5) (pa_tys (ba hb).2 a6) (star_cons rfl)) fun σ H Q h => h
omit c in
theorem tys_nst : ∀ {ts : List Ty} {es : List Expr}, chkTys sc ts es = true → es.length = ts.length ∧ ts.all tyB = true
  | [], [], _ => ⟨rfl, rfl⟩
  | [], _ :: _, h => by simp [chkTys] at h
  | ty :: ts, [], h => by simp [chkTys] at h
  | ty :: ts, e :: es, h => by
    cases e <;> first | (simp [chkTys] at h; done) | skip
    simp only [chkTys] at h
    obtain ⟨a1, a2⟩ := ba h
    obtain ⟨i1, i2⟩ := tys_nst (ba (ba a2).2).2
    exact ⟨by rw [List.length_cons, List.length_cons, i1], by rw [List.all_cons, a1, i2]; rfl⟩
omit c in
theorem kits {lh : LH} {w : W} {T : String} {K : PySem.W.Frag} (e : tyOf lh w = some T) : ∀ ts : List Ty, ts.all tyB = true → PySem.W.kitAny K (.type T) (ts.map fun ty => Value.type (tyName ty)) = some (ts.any (kit T))
  | [], _ => kitAny_nil
  | ty :: ts, h => by
    rw [List.all_cons] at h
    rw [List.map_cons, List.any_cons]
    refine kitAny_cons (kit_spec e ty (ba h).1) (fun hf => ?_) (fun ht => ?_)
    · rw [hf, Bool.false_or]; exact kits e ts (ba h).2
    · rw [ht, Bool.true_or]
omit c in
theorem tys_cls : ∀ ts : List Ty, Paired ClsV (ts.map fun ty => V.ty (tyName ty)) (ts.map fun ty => Value.type (tyName ty))
  | [] => .nil
  | ty :: ts => .cons (.ty _) (tys_cls ts)
include o in
theorem snd_isiT {a : E} {ts : List Ty} {y : Str} {x : Expr} {zs : List Expr} {k : Nat} {p p2 pos : Pos} (h1 : seq y "isinstance" = true) (h2 : Mp.gl sc y = true) (hl : ts.length ≤ 8) (h3 : chkTys sc ts zs = true) (hx : nst x = true) (ha : PE X x (tE t cl Wx a)) : PE X (.Call (.Name y p) [x, .Tuple zs k p2] [] pos) (tE t cl Wx (.isiT a ts)) := by
  have e := seq_eq h1
  subst e
  obtain ⟨n1, n2⟩ := tys_nst h3
  refine pe_imp (pe_callB call_isiT (c.gl h2) (c.free o (by decide)) isinst_nm.2 (pa_cons ha (pa_cons (pe_tup (pa_tys c o n2 h3)) pa_nil (star_cons rfl)) (star_cons hx)) (okName_n isinst_nm.1) (okName_d isinst_nm.1) (star_cons hx) (star_any rfl)) fun σ H Q ⟨G, ls, lh, re, rp, h⟩ => ?_
  simp only [evE] at h
  refine ⟨G, ls, lh, re, rp, h.bind fun w l1 G1 H1 v _ e1 rp1 rv h1 => ⟨?_, fun q hq => ?_⟩⟩
  · rw [List.length_map]
    exact big_line (Nat.le_trans hl (by decide))
  · split at h1
    · rename_i b hk
      unfold tyAny at hk
      rw [if_pos n2] at hk
      obtain ⟨T, hT, rfl⟩ := Option.map_eq_some_iff.mp hk
      obtain ⟨e2, rp2⟩ := rp1.tup (xs := ts.map fun ty => V.ty (tyName ty)) hq
      refine ⟨v, q, _, .type T, _, _, rfl, upd_same, tys_cls ts, ?_, kits hT ts n2, h1.at e2 rp2 rv_bl⟩
      rw [c.hK]
      exact ty_spec rp2 (rv.mono e2.toMono) hT
    · exact h1.elim
/-! ### calls -/
/-- what a def keeps, by the evaluator -/
def spM (g : Gw) (cl : Cl) (f : String) (np : Nat) : Sp := fun vs H Q E => ∃ (G : Gh) (ws : List W) (lh : LH), RVs g G H ws vs ∧ Rep g G lh H ∧ vs.length = np ∧ PostG g (RV g) G H (cl f ws lh) Q E
/-- the defs are there -/
structure Fns (t : Tp) (ar : Ar) (cl : Cl) (k : Nat) : Prop where
  ok : ∀ f d, t.D f = some d → FnOk t.P t.w t.g.K t.mg t.base (L2.CX t.P t.w) k (t.fa f) (t.fd f) (t.ps f) (spM t.g cl f d.np)
  fill : ∀ f d ws lh, t.D f = some d → ws.length ≤ d.np → d.np - ws.length ≤ d.dfl.length → cl f ws lh = cl f (ws ++ d.dfl.drop (d.dfl.length - (d.np - ws.length))) lh
  ar : ∀ f np nd, ar f = some (np, nd) → ∃ d, t.D f = some d ∧ d.np = np ∧ d.dfl.length = nd ∧ t.mg (Str.ofString f) = some (.ref (t.fa f))
omit c in
theorem arOk_spec {ar : Ar} {f : String} {k : Nat} (h : arOk ar f k = true) : ∃ np nd, ar f = some (np, nd) ∧ k ≤ np ∧ np - k ≤ nd := by
  unfold arOk at h
  split at h
  · rename_i np nd e
    exact ⟨np, nd, e, of_decide_eq_true h⟩
  · cases h
include o in
theorem snd_call (F : Fns t ar cl n) {f : String} {es : E} {y : Str} {x : Expr} {xs : List Expr} {p pos : Pos} (h1 : seq y f = true) (h2 : Mp.gl sc y = true) (h3 : okName y = true) (h4 : arOk ar f (xs.length + 1) = true) (hs : (x :: xs).all nst = true) (hc : chkA ar N es fn sc (x :: xs) = true) (ha : PA X (x :: xs) (tA t cl Wx es)) : PE X (.Call (.Name y p) (x :: xs) [] pos) (tE t cl Wx (.call f es)) := by
  have e := seq_eq h1
  subst e
  have hs2 := ba (show (nst x && xs.all nst) = true from hs)
  obtain ⟨np, nd, ea, q1, q2⟩ := arOk_spec h4
  obtain ⟨d, hd, rfl, rfl, hg⟩ := F.ar f np nd ea
  obtain ⟨ds, dvs, l1, r1, v1, b1⟩ := o.bi f d _ hd q1 q2
  have Fo := F.ok f d hd
  rw [← c.hP, ← c.hw, ← c.hK, ← c.hmg, ← c.hb] at Fo
  refine pe_imp (pe_callSD (E := WE Wx) Fo c.room (c.gl h2) (by rw [c.hmg]; exact hg) (by rw [c.hK]; exact o.fn f d hd hg) (by rw [c.hK]; exact b1) v1 (passAt c.tk) ha (okName_d h3) (star_cons hs2.1) (star_any hs2.2)) fun σ H Q ⟨G, ls, lh, re, rp, h⟩ => ?_
  simp only [evE] at h
  refine ⟨G, ls, lh, re, rp, h.bind fun w l1' G1 H1 vs eq e1 rp1 rv h1 => ?_⟩
  have hl : (items w).length = xs.length + 1 := lenA hc eq
  have hv : vs.length = xs.length + 1 := by rw [← RVs.length rv, hl]
  rw [F.fill f d _ _ hd (by rw [hl]; exact q1) (by rw [hl]; exact q2), hl] at h1
  exact ⟨G1, _, l1', RVs.append rv (r1 G1 H1), rp1, by rw [List.length_append, l1, hv]; omega, h1⟩
include o in
theorem snd_call0 (F : Fns t ar cl n) {f : String} {y : Str} {p pos : Pos} (h1 : seq y f = true) (h2 : Mp.gl sc y = true) (h3 : okName y = true) (h4 : arOk ar f 0 = true) : PE X (.Call (.Name y p) [] [] pos) (tE t cl Wx (.call f .nil)) := by
  have e := seq_eq h1
  subst e
  obtain ⟨np, nd, ea, q1, q2⟩ := arOk_spec h4
  obtain ⟨d, hd, rfl, rfl, hg⟩ := F.ar f np nd ea
  obtain ⟨ds, dvs, l1, r1, v1, b1⟩ := o.bi f d _ hd q1 q2
  have Fo := F.ok f d hd
  rw [← c.hP, ← c.hw, ← c.hK, ← c.hmg, ← c.hb] at Fo
  refine ⟨fun pins s σ H Q I ⟨G, ls, lh, re, rp, h⟩ => ?_⟩
  refine wpAny_Call_Name_kw (ld_glob I (c.gl h2) (by rw [c.hmg]; exact hg) ?_ (okName_d h3))
  have hb' : Binds X.K (t.fd f) (t.ps f) ds := by rw [c.hK]; exact b1
  have hk : PySem.W.keepIn X.K (.ref (t.fa f)) = true := by rw [c.hK]; exact o.fn f d hd hg
  refine PySem.W.callWith_K0 I.kIn hk (run_fnSD (E := WE Wx) (us := []) (vs := []) Fo c.room hb' v1 (passAt c.tk σ) I .nil ?_)
  simp only [evE] at h
  have h1 : PostG t.g (RV t.g) G H (cl f [] lh) Q (fun cls d H' => Wx cls d σ H') := h
  rw [F.fill f d [] lh hd q1 q2] at h1
  exact ⟨G, _, lh, r1 G H, rp, l1, h1⟩
end
end Mp
namespace Mp
open PySem PySem.Spec PyProof.Rows L2
/-! ### methods of lists, attributes, ranges, freezing -/
theorem kwNone {env : PySem.Env} {cpos : Pos} : (backToKw cpos (keywordEach [] env)).all (fun x => x.1.isSome) = true := rfl
theorem lm_one {w : W} {as : List W} {h : LH} (hne : evLm .append w as h ≠ .no) : ∃ u, as = [u] := by
  match as with
  | [] =>
    refine (hne ?_).elim
    unfold evLm
    split <;> first | rfl | (split <;> rfl)
  | [u] => exact ⟨u, rfl⟩
  | _ :: _ :: _ =>
    refine (hne ?_).elim
    unfold evLm
    split <;> first | rfl | (split <;> rfl)
section
variable {t : Tp} {cl : Cl} {X : Cx} {Wx : WX} {n : Nat} {ar : Ar} {N : List Str} {fn : Str → Bool} {sc : Scope} (c : Cok t X Wx n N fn sc) (o : t.Ok)
include c
theorem snd_lm {a es : E} {x z : Expr} {m : Lm} {zs : List Expr} {y : Str} {apos cpos : Pos} (hm : m = .append) (h1 : seq y (lmName m) = true) (hb : ncall0 x = true) (hl : (apos.endLine == cpos.line) = true) (hn : zs.length < 20) (hs : (z :: zs).all nst = true) (hc : chkA ar N es fn sc (z :: zs) = true)
    (ha : PE X x (tE t cl Wx a)) (he : PA X (z :: zs) (tA t cl Wx es)) : PE X (.Call (.Attribute x y apos) (z :: zs) [] cpos) (tE t cl Wx (.lm a m es)) := by
  subst hm
  have e := seq_eq h1
  subst e
  have hs2 := ba (show (nst z && zs.all nst) = true from hs)
  refine pe_imp (pe_bm (cpos := cpos) PySem.F.plainAttrs_list PySem.F.slot_list_append PySem.F.type_list_append mt_append ha he (attr_base hb) ?_ hl (star_cons hs2.1) (star_any hs2.2)) fun σ H Q ⟨G, ls, lh, re, rp, h⟩ => ?_
  · rw [star_all hs, kwNone]
    have : decide ((z :: zs).length + ([] : List Keyword).length + (if ([] : List Keyword).isEmpty then 0 else 1) < 30) = true := by
      apply decide_eq_true
      simp only [List.length_cons, List.length_nil, List.isEmpty_nil, if_true]
      omega
    rw [this]; rfl
  · simp only [evE] at h
    refine ⟨G, ls, lh, re, rp, h.bind fun w l1 G1 H1 v _ e1 rp1 rv h1 => ?_⟩
    split at h1
    case isFalse => exact h1.elim
    rename_i hi
    refine ⟨?_, G1, ls, l1, re.mono e1.toMono, rp1, h1.bind fun w2 l2 G2 H2 vs eq e2 rp2 rvs h2 => ?_⟩
    · unfold isLst at hi
      split at hi
      · rename_i k
        unfold RV at rv
        obtain ⟨p, rfl, hp⟩ := rv
        split at hi
        · rename_i xs hk
          obtain ⟨ys, hy, _⟩ := rp1.lst hk hp
          exact .inl ⟨rfl, ys, SqL.of hy⟩
        · cases hi
      · cases hi
    · have hone := lm_one (w := w) (as := items w2) (h := l2) fun z => by rw [z] at h2; exact h2
      obtain ⟨u, hu⟩ := hone
      have rvs' : RVs t.g G2 H2 (items w2) vs := rvs
      rw [hu] at rvs' h2
      unfold RVs at rvs'
      obtain ⟨x1, r1, rfl, r2, r3⟩ := rvs'
      unfold RVs at r3
      subst r3
      exact snd_append (pins := []) (σ := σ) rp2 (rv.mono e2.toMono) r2 h2
omit c in
theorem lk_spec {g : Gw} {G : Gh} {H : Hp} {f : String} : ∀ {ns : List String} {fs : List W} {xs : List V} {w : W}, RVs g G H fs xs → lk f ns fs = some w → ∃ v, ((ns.map Str.ofString).zip xs).lookup (Str.ofString f) = some v ∧ RV g G H w v
  | [], _, _, _, _, e => by simp [lk] at e
  | _ :: _, [], _, _, _, e => by simp [lk] at e
  | n :: ns, x :: fs, _, w, r, e => by
    unfold RVs at r
    obtain ⟨v, q, rfl, a, b⟩ := r
    unfold lk at e
    rw [List.map_cons, List.zip_cons_cons]
    split at e
    · rename_i hn
      subst hn
      cases e
      exact ⟨v, by simp, a⟩
    · rename_i hn
      obtain ⟨v', h1, h2⟩ := lk_spec b e
      refine ⟨v', ?_, h2⟩
      have : (Str.ofString f == Str.ofString n) = false := by
        rw [beq_eq_false_iff_ne]
        exact fun z => hn (str_inj z).symm
      rw [List.lookup_cons, this]
      exact h1
include o in
theorem snd_attr {a : E} {x : Expr} {y : Str} {f : String} {pos : Pos} (h1 : seq y f = true) (hb : ncall0 x = true) (ha : PE X x (tE t cl Wx a)) : PE X (.Attribute x y pos) (tE t cl Wx (.attr a f)) := by
  have e := seq_eq h1
  subst e
  refine pe_imp (pe_fld ha (attr_base hb)) fun σ H Q ⟨G, ls, lh, re, rp, h⟩ => ?_
  simp only [evE] at h
  refine ⟨G, ls, lh, re, rp, h.bind fun w l1 G1 H1 v _ e1 rp1 rv h1 => ?_⟩
  unfold evAt at h1
  rw [c.hK]
  split at h1
  · rename_i C ns fs _
    split at h1
    · rename_i hf
      obtain ⟨k1, k2⟩ := o.fld C f hf
      split at h1
      · rename_i u hu
        unfold RV at rv
        obtain ⟨p, dx, xs, rfl, _, hp, _, rs⟩ := rv
        obtain ⟨v2, q1, q2⟩ := lk_spec rs hu
        exact ⟨p, _, dx, _, v2, rfl, hp, k1, k2, q1, h1.here rp1 q2⟩
      · exact h1.elim
    · exact h1.elim
  · rename_i k _
    unfold RV at rv
    obtain ⟨p, rfl, hp⟩ := rv
    split at h1
    · rename_i C ns fs hk
      split at h1
      · rename_i hf
        obtain ⟨k1, k2⟩ := o.fld C f hf
        split at h1
        · rename_i u hu
          obtain ⟨ho, q0, dx, xs, rfl, _, rs⟩ := rp1.at hk hp
          obtain ⟨v2, q1, q2⟩ := lk_spec rs hu
          exact ⟨p, _, dx, _, v2, rfl, q0, k1, k2, q1, h1.here rp1 q2⟩
        · exact h1.elim
      · exact h1.elim
    · exact h1.elim
  · exact h1.elim
theorem snd_lrng {m : Bool} {a : E} {x : Expr} {y z : Str} {p p2 pos pos2 : Pos} (h1 : seq y "list" = true) (h2 : Mp.gl sc y = true) (h3 : seq z "range" = true) (h4 : Mp.gl sc z = true) (hx : nst x = true) (o : t.Ok) (ha : PE X x (tE t cl Wx a)) :
    PE X (.Call (.Name y p) [.Call (.Name z p2) [x] [] pos2] [] pos) (tE t cl Wx (.lrng m a)) := by
  have e1 := seq_eq h1
  have e2 := seq_eq h3
  subst e1
  subst e2
  refine pe_imp (pe_listRg c.calm (c.gl h2) (c.free o (by decide)) (prg_1 (c.gl h4) (c.free o (by decide)) ha (star_cons hx)) (star_cons rfl)) fun σ H Q ⟨G, ls, lh, re, rp, h⟩ => ?_
  simp only [evE] at h
  refine ⟨G, ls, lh, re, rp, h.bind fun w l1 G1 H1 v _ e1 rp1 rv h1 => ?_⟩
  unfold rng at h1
  cases w <;> first | exact h1.elim | skip
  rename_i j _
  refine ⟨j, rv.int_eq, ?_⟩
  dsimp only at h1
  split at h1
  · rename_i hr
    have hr' := of_decide_eq_true hr
    refine ⟨⟨hr'.1, hr'.2.1, hr'.2.2.1, hr'.2.2.2.1, Nat.le_trans hr'.2.2.2.2 (show big ≤ 2 ^ 24 by decide)⟩, fun q hq => ?_⟩
    have hv : RVs t.g G1 H1 (rngW 0 j) (rgV 0 j) := by
      have : rngW 0 j = ((List.range (j - 0).toNat).map fun (i : Nat) => (0 + (i : Int))).map W.int := by unfold rngW; rw [List.map_map]; rfl
      rw [this]
      have e2 : rgV 0 j = ((List.range (j - 0).toNat).map fun (i : Nat) => (0 + (i : Int))).map V.int := by unfold rgV; rw [List.map_map]; rfl
      rw [e2]
      exact RVs.of_ints _
    dsimp only [R.bind] at h1
    cases m with
    | true => exact post_ref rp1 hv h1 hq
    | false => exact post_fl rp1 hv h1 hq
  · exact h1.elim
theorem snd_frz {a : E} {x : Expr} (ha : PE X x (tE t cl Wx a)) : PE X x (tE t cl Wx (.frz a)) := by
  refine pe_imp ha fun σ H Q ⟨G, ls, lh, re, rp, h⟩ => ?_
  simp only [evE] at h
  refine ⟨G, ls, lh, re, rp, h.bind fun w l1 G1 H1 v _ e1 rp1 rv h1 => ?_⟩
  cases w <;> first | exact h1.elim | skip
  rename_i k
  dsimp only at h1
  split at h1
  · rename_i xs hk
    unfold RV at rv
    obtain ⟨p, rfl, hp⟩ := rv
    obtain ⟨ys, hy, rs⟩ := rp1.lst hk hp
    obtain ⟨e2, rp2⟩ := rp1.freeze hk hp (fun z => by cases z)
    refine h1.at e2 rp2 ?_
    unfold RV
    exact ⟨p, ys, rfl, .inr rfl, hy, rs.mono e2.toMono⟩
  · exact h1.elim
end
end Mp
namespace Mp
open PySem PySem.Spec PyProof.Rows L2
/-! ### what loops walk -/
section
variable {g : Gw} {G G2 : Gh} {H H2 : Hp} {lh lh2 : LH} {w : W} {ws : List W} {a : Addr}
theorem gok_mem {gd : Gd} (h : gOk gd lh = true) {n : Nat} {xs : List W} (hm : (n, xs) ∈ gd) : lh[n]? = some (.lst xs) := by
  unfold gOk at h
  have := List.all_eq_true.mp h (n, xs) hm
  dsimp only at this
  split at this
  · rename_i ys e
    have e2 : ys = xs := of_decide_eq_true this
    rw [e, e2]
  · cases this
theorem gok_app {g1 g2 : Gd} (h : gOk (g1 ++ g2) lh = true) : gOk g1 lh = true ∧ gOk g2 lh = true := by
  unfold gOk at h ⊢
  rw [List.all_append] at h
  exact ba h
/-- a list that is walked stands -/
theorem sq_at (rv : RV g G H w (.ref a)) (e : lstOf lh w = some ws) (m : Mono g G H G2 H2) (rp2 : Rep g G2 lh2 H2) (hg : gOk (gdOf lh w) lh2 = true) : ∃ ys, SqL g.K H2 a ys ∧ RVs g G2 H2 ws ys := by
  have rv2 := rv.mono m
  unfold lstOf at e
  split at e
  · cases e
    unfold RV at rv2
    obtain ⟨p, xs, e1, _, b, c⟩ := rv2
    cases e1
    exact ⟨xs, SqL.of b, c⟩
  · cases e
    unfold RV at rv2
    obtain ⟨p, xs, e1, b, c⟩ := rv2
    cases e1
    exact ⟨xs, b.sqL, c⟩
  · rename_i n
    split at e
    · rename_i xs hn
      cases e
      have : (n, ws) ∈ gdOf lh (.ref n) := by
        unfold gdOf
        dsimp only
        rw [hn]
        exact List.mem_singleton.mpr rfl
      have h2 := gok_mem hg this
      unfold RV at rv2
      obtain ⟨p, e1, hp⟩ := rv2
      cases e1
      obtain ⟨ys, q1, q2⟩ := rp2.lst h2 hp
      exact ⟨ys, SqL.of q1, q2⟩
    · cases e
  · cases e
theorem sqt_at (rv : RV g G H (.tup ws) (.ref a)) (m : Mono g G H G2 H2) : ∃ ys, SqT g.K H2 a ys ∧ RVs g G2 H2 ws ys := by
  obtain ⟨p, xs, e, s, r⟩ := (rv.mono m).tup_eq
  cases e
  exact ⟨xs, s, r⟩
/-- what a walk of the same heap gives -/
theorem wk_same {J : It} {n : Nat} {Gp : Hp → Prop} {ys : List V} (wk : Walk J n Gp fun i H x H' => H' = H ∧ ys[i]? = some x) (hn : ws.length = n) (hg : Gp H2) (rp2 : Rep g G2 lh2 H2) (rs : RVs g G2 H2 ws ys) :
    J.stop ws.length H2 ∧ ∀ (i : Nat) (w : W), ws[i]? = some w → J.go i H2 ∧ ∀ x H3, J.yld i H2 x H3 → ∃ G3, Ext g G2 H2 G3 H3 ∧ Rep g G3 lh2 H3 ∧ RV g G3 H3 w x := by
  refine ⟨by rw [hn]; exact wk.stops _ hg, fun i w hw => ?_⟩
  have hi : i < n := by rw [← hn]; exact (List.getElem?_eq_some_iff.mp hw).1
  refine ⟨wk.goes i _ hi hg, fun x H3 hy => ?_⟩
  obtain ⟨rfl, hx⟩ := wk.yields i _ x H3 hi hg hy
  obtain ⟨x', q1, q2⟩ := rs.get hw
  rw [hx] at q1
  cases q1
  exact ⟨G2, Ext.refl, rp2, q2⟩
/-- what a walk that makes pairs gives -/
theorem wk_pair {J : It} {n : Nat} {Gp : Hp → Prop} {ps : List (W × W)} {us vs : List V} (wk : Walk J n Gp (YPair (fun i => us[i]?) (fun i => vs[i]?))) (hn : ps.length = n) (hg : Gp H2) (rp2 : Rep g G2 lh2 H2)
    (r1 : ∀ (i : Nat) p, ps[i]? = some p → ∃ x y, us[i]? = some x ∧ vs[i]? = some y ∧ RV g G2 H2 p.1 x ∧ RV g G2 H2 p.2 y) :
    J.stop ps.length H2 ∧ ∀ (i : Nat) (p : W × W), ps[i]? = some p → J.go i H2 ∧ ∀ x H3, J.yld i H2 x H3 → ∃ G3, Ext g G2 H2 G3 H3 ∧ Rep g G3 lh2 H3 ∧ RV g G3 H3 (.tup [p.1, p.2]) x := by
  refine ⟨by rw [hn]; exact wk.stops _ hg, fun i p hw => ?_⟩
  have hi : i < n := by rw [← hn]; exact (List.getElem?_eq_some_iff.mp hw).1
  refine ⟨wk.goes i _ hi hg, fun x H3 hy => ?_⟩
  obtain ⟨T, x1, y1, rfl, hT, rfl, q1, q2⟩ := wk.yields i _ x H3 hi hg hy
  obtain ⟨x2, y2, q3, q4, q5, q6⟩ := r1 i p hw
  dsimp only at q1 q2
  rw [q1] at q3
  rw [q2] at q4
  cases q3
  cases q4
  obtain ⟨e, rp3⟩ := rp2.tup (xs := [x1, y1]) hT
  refine ⟨G2, e, rp3, ?_⟩
  unfold RV
  exact ⟨T, _, rfl, .inl (.inl upd_same), RVs.cons (q5.mono e.toMono) (RVs.cons (q6.mono e.toMono) RVs.nil)⟩
theorem enumW_len : ∀ (xs : List W) (k : Nat), (enumW k xs).length = xs.length
  | [], _ => rfl
  | _ :: xs, k => congrArg Nat.succ (enumW_len xs (k + 1))
theorem enumW_get : ∀ (xs : List W) (k i : Nat), (enumW k xs)[i]? = (xs[i]?).map fun x => W.tup [.int ((k + i : Nat) : Int), x]
  | [], _, _ => by simp [enumW]
  | x :: xs, k, 0 => by simp [enumW]
  | x :: xs, k, i + 1 => by
    have := enumW_get xs (k + 1) i
    simp only [enumW, List.getElem?_cons_succ, this]
    have e : k + 1 + i = k + (i + 1) := by omega
    rw [e]
theorem zipW_eq : ∀ xs ys : List W, zipW xs ys = (xs.zip ys).map fun p => W.tup [p.1, p.2]
  | [], _ => by simp [zipW]
  | _ :: _, [] => by simp [zipW]
  | x :: xs, y :: ys => by simp [zipW, zipW_eq xs ys]
end
section
variable {t : Tp} {cl : Cl} {X : Cx} {Wx : WX} {n : Nat} {ar : Ar} {N : List Str} {fn : Str → Bool} {sc : Scope} (c : Cok t X Wx n N fn sc) (o : t.Ok)
include c
theorem snd_itv {a : E} {x tg : Expr} (ha : PE X x (tE t cl Wx a)) : PI X tg x (tI t cl Wx (.itv a)) := by
  refine pi_dep fun σ H R ⟨G, ls, lh, re, rp, h⟩ => ?_
  simp only [evI] at h
  by_cases ht : ∃ ws l1, evE t.T cl a ls lh = .ok (.tup ws) l1
  · obtain ⟨ws, l1, e⟩ := ht
    refine ⟨_, pi_tup ha, G, ls, lh, re, rp, h.bind fun w l2 G1 H1 v e2 e1 rp1 rv h1 => ?_⟩
    rw [e] at e2
    cases e2
    obtain ⟨p, xs, rfl, s, r⟩ := rv.tup_eq
    rw [c.hK]
    refine ⟨p, rfl, ⟨xs, s⟩, ?_⟩
    refine h1.here rp1 fun G2 H2 lh2 m rp2 hg => ?_
    obtain ⟨ys, s2, r2⟩ := sqt_at rv m
    exact wk_same walk_tup (RVs.length r2) s2 rp2 r2
  · refine ⟨_, pi_list ha, G, ls, lh, re, rp, h.bind fun w l1 G1 H1 v e2 e1 rp1 rv h1 => ?_⟩
    split at h1
    · rename_i xs hs
      obtain ⟨p, ys, rfl, hq, rs⟩ := seqOf_spec rp1 rv hs
      rcases hq with ⟨hl, s⟩ | ⟨rfl, s⟩
      · rw [c.hK]
        refine ⟨p, rfl, ⟨ys, s⟩, ?_⟩
        refine h1.here rp1 fun G2 H2 lh2 m rp2 hg => ?_
        obtain ⟨ys2, s2, r2⟩ := sq_at rv hl m rp2 hg
        exact wk_same walk_list (RVs.length r2) s2 rp2 r2
      · exact (ht ⟨_, _, e2⟩).elim
    · exact h1.elim
omit c in
theorem rng_walk {g : Gw} {G1 : Gh} {H1 : Hp} {i j : Int} : WalkW g G1 H1 (rngW i j, []) (Itr i (j - i).toNat) := by
  intro G2 H2 lh2 m rp2 hg
  have hl : (rngW i j).length = (j - i).toNat := by unfold rngW; rw [List.length_map, List.length_range]
  refine ⟨?_, fun k w hk => ?_⟩
  · show (j - i).toNat ≤ (rngW i j).length
    omega
  · have hk' : (rngW i j)[k]? = some w := hk
    have hi : k < (j - i).toNat := by rw [← hl]; exact (List.getElem?_eq_some_iff.mp hk').1
    refine ⟨hi, fun x H3 ⟨e1, e2⟩ => ?_⟩
    subst e1
    subst e2
    refine ⟨G2, Ext.refl, rp2, ?_⟩
    unfold rngW at hk'
    rw [List.getElem?_map, List.getElem?_range hi] at hk'
    cases hk'
    exact rv_int
include o in
theorem snd_rng1 {a : E} {x tg : Expr} {y : Str} {p pos : Pos} (h1 : seq y "range" = true) (h2 : Mp.gl sc y = true) (hx : nst x = true) (ha : PE X x (tE t cl Wx a)) : PI X tg (.Call (.Name y p) [x] [] pos) (tI t cl Wx (.rng1 a)) := by
  have e := seq_eq h1
  subst e
  refine pi_imp (pi_range1 (c.gl h2) (c.free o (by decide)) (pa_cons ha pa_nil (star_cons hx)) (star_cons hx)) fun σ H R ⟨G, ls, lh, re, rp, h⟩ => ?_
  simp only [evI] at h
  refine ⟨G, ls, lh, re, rp, h.bind fun w l1 G1 H1 v _ e1 rp1 rv h1 => ?_⟩
  unfold rng at h1
  cases w <;> first | exact h1.elim | skip
  rename_i j _
  dsimp only at h1
  split at h1
  · rename_i hr
    have hr' := of_decide_eq_true hr
    refine ⟨j, by rw [rv.int_eq], hr'.2.2.1, hr'.2.2.2.1, ?_⟩
    have := h1.here rp1 (rng_walk (i := 0) (j := j))
    rwa [Int.sub_zero] at this
  · exact h1.elim
include o in
theorem snd_rng2 {a b : E} {x z tg : Expr} {y : Str} {p pos : Pos} (h1 : seq y "range" = true) (h2 : Mp.gl sc y = true) (hx : nst x = true) (hz : nst z = true) (ha : PE X x (tE t cl Wx a)) (hb : PE X z (tE t cl Wx b)) : PI X tg (.Call (.Name y p) [x, z] [] pos) (tI t cl Wx (.rng2 a b)) := by
  have e := seq_eq h1
  subst e
  refine pi_imp (pi_range2 (c.gl h2) (c.free o (by decide)) (pa_cons ha (pa_cons hb pa_nil (star_cons hz)) (star_cons hx)) (by rw [star_cons hx, star_cons hz]; rfl) (star_cons hz)) fun σ H R ⟨G, ls, lh, re, rp, h⟩ => ?_
  simp only [evI] at h
  refine ⟨G, ls, lh, re, rp, h.bind fun w l1 G1 H1 v _ e1 rp1 rv h1 => ⟨G1, ls, l1, re.mono e1.toMono, rp1, h1.bind fun w2 l2 G2 H2 v2 _ e2 rp2 rv2 h2 => ?_⟩⟩
  unfold rng at h2
  cases w <;> first | exact h2.elim | skip
  rename_i i _
  cases w2 <;> first | exact h2.elim | skip
  rename_i j _
  dsimp only at h2
  split at h2
  · rename_i hr
    have hr' := of_decide_eq_true hr
    exact ⟨i, j, by rw [rv.int_eq, rv2.int_eq], ⟨hr'.1, hr'.2.1, hr'.2.2.1, hr'.2.2.2.1⟩, h2.here rp2 rng_walk⟩
  · exact h2.elim
omit c in
/-- what an enumeration gives -/
theorem en_yld {g : Gw} {G2 : Gh} {H2 H3 : Hp} {lh2 : LH} {xs : List W} {zs : List V} {i : Nat} {w : W} {v : V} (rp2 : Rep g G2 lh2 H2) (r2 : RVs g G2 H2 xs zs) (hw : (enumW 0 xs)[i]? = some w) (hy : ∃ T x, v = .ref T ∧ H2 T = none ∧ H3 = upd H2 T (.tup [.int (i : Nat), x]) ∧ zs[i]? = some x) :
    ∃ G3, Ext g G2 H2 G3 H3 ∧ Rep g G3 lh2 H3 ∧ RV g G3 H3 w v := by
  rw [enumW_get] at hw
  obtain ⟨u, hu, rfl⟩ := Option.map_eq_some_iff.mp hw
  obtain ⟨T, y1, rfl, hT, rfl, q2⟩ := hy
  obtain ⟨x2, q3, q4⟩ := r2.get hu
  rw [q2] at q3
  cases q3
  obtain ⟨e, rp3⟩ := rp2.tup (xs := [V.int (i : Nat), y1]) hT
  refine ⟨G2, e, rp3, ?_⟩
  unfold RV
  refine ⟨T, _, rfl, .inl (.inl upd_same), RVs.cons ?_ (RVs.cons (q4.mono e.toMono) RVs.nil)⟩
  rw [Nat.zero_add]
  exact rv_int
omit c in
theorem en_lt {xs : List W} {i : Nat} {w : W} (hw : (enumW 0 xs)[i]? = some w) : i < xs.length := by
  have := (List.getElem?_eq_some_iff.mp hw).1
  rwa [enumW_len] at this
include o in
theorem snd_enum {a : E} {x : Expr} {y : Str} {es : List Expr} {k : Nat} {p pos tpos : Pos} (h1 : seq y "enumerate" = true) (h2 : Mp.gl sc y = true) (hx : nst x = true) (ha : PE X x (tE t cl Wx a)) : PI X (.Tuple es k tpos) (.Call (.Name y p) [x] [] pos) (tI t cl Wx (.enum a)) := by
  have e := seq_eq h1
  subst e
  refine pi_dep fun σ H R ⟨G, ls, lh, re, rp, h⟩ => ?_
  simp only [evI] at h
  by_cases ht : ∃ ws l1, evE t.T cl a ls lh = .ok (.tup ws) l1
  · obtain ⟨ws, l1, e⟩ := ht
    refine ⟨_, pi_ent (c.gl h2) (c.free o (by decide)) (pa_cons ha pa_nil (star_cons hx)) (star_cons hx), G, ls, lh, re, rp, h.bind fun w l2 G1 H1 v e2 e1 rp1 rv h1 => ?_⟩
    rw [e] at e2
    cases e2
    obtain ⟨q, xs, rfl, s, r⟩ := rv.tup_eq
    rw [c.hK]
    refine ⟨q, xs, rfl, s, h1.here rp1 fun G2 H2 lh2 m rp2 hg => ?_⟩
    obtain ⟨zs, s2, r2⟩ := sqt_at rv m
    have hl := RVs.length r2
    refine ⟨⟨zs, s2, by rw [enumW_len, hl]; exact Nat.le_refl _⟩, fun i w hw => ?_⟩
    have hi := en_lt hw
    refine ⟨⟨zs, zs[i]'(by omega), s2, by simp [show i < zs.length by omega]⟩, fun x H3 hy => ?_⟩
    obtain ⟨T, y1, q1, q2, q3, q4⟩ := hy
    exact en_yld rp2 r2 hw ⟨T, y1, q1, q2, q3, q4 zs s2⟩
  · refine ⟨_, pi_enum (c.gl h2) (c.free o (by decide)) (pa_cons ha pa_nil (star_cons hx)) (star_cons hx), G, ls, lh, re, rp, h.bind fun w l1 G1 H1 v e2 e1 rp1 rv h1 => ?_⟩
    split at h1
    · rename_i xs hs
      obtain ⟨q, ys, rfl, hq, rs⟩ := seqOf_spec rp1 rv hs
      rcases hq with ⟨hl, s⟩ | ⟨rfl, s⟩
      · rw [c.hK]
        refine ⟨q, ys, rfl, s, h1.here rp1 fun G2 H2 lh2 m rp2 hg => ?_⟩
        obtain ⟨zs, s2, r2⟩ := sq_at rv hl m rp2 hg
        have hl2 := RVs.length r2
        refine ⟨⟨zs, s2, by rw [enumW_len, hl2]; exact Nat.le_refl _⟩, fun i w hw => ?_⟩
        have hi := en_lt hw
        refine ⟨⟨zs, zs[i]'(by omega), s2, by simp [show i < zs.length by omega]⟩, fun x H3 hy => ?_⟩
        obtain ⟨T, y1, q1, q2, q3, q4⟩ := hy
        exact en_yld rp2 r2 hw ⟨T, y1, q1, q2, q3, q4 zs s2⟩
      · exact (ht ⟨_, _, e2⟩).elim
    · exact h1.elim
include o in
theorem snd_rev {a : E} {x tg : Expr} {y : Str} {p pos : Pos} (h1 : seq y "reversed" = true) (h2 : Mp.gl sc y = true) (hx : nst x = true) (ha : PE X x (tE t cl Wx a)) : PI X tg (.Call (.Name y p) [x] [] pos) (tI t cl Wx (.rev a)) := by
  have e := seq_eq h1
  subst e
  refine pi_imp (RT.pi_revA (c.gl h2) (c.free o (by decide)) ha (star_cons hx)) fun σ H R ⟨G, ls, lh, re, rp, h⟩ => ?_
  simp only [evI] at h
  refine ⟨G, ls, lh, re, rp, h.bind fun w l1 G1 H1 v _ e1 rp1 rv h1 => ?_⟩
  split at h1
  · rename_i xs hs
    have back : ∀ (zs : List V) (G2 : Gh) (H2 : Hp) (i : Nat) (u : W) (z : V), RVs t.g G2 H2 xs zs → xs.reverse[i]? = some u → zs[zs.length - 1 - i]? = some z → RV t.g G2 H2 u z := fun zs G2 H2 i u z r hu hz => by
      have hi : i < xs.reverse.length := (List.getElem?_eq_some_iff.mp hu).1
      rw [List.length_reverse] at hi
      rw [List.getElem?_reverse hi, RVs.length r] at hu
      obtain ⟨z', q1, q2⟩ := r.get hu
      rw [hz] at q1
      cases q1
      exact q2
    obtain ⟨q, ys, rfl, hq, rs⟩ := seqOf_spec rp1 rv hs
    rw [c.hK]
    rcases hq with ⟨hl, s⟩ | ⟨rfl, s⟩
    · refine ⟨q, ys, rfl, .inl ⟨s, h1.here rp1 fun G2 H2 lh2 m rp2 hg => ?_⟩⟩
      obtain ⟨zs, s2, r2⟩ := sq_at rv hl m rp2 hg
      have hz : ys.length = zs.length := (RVs.length rs).symm.trans (RVs.length r2)
      rw [hz]
      refine ⟨?_, fun i u hu => ?_⟩
      · show zs.length ≤ xs.reverse.length
        rw [List.length_reverse, RVs.length r2]; exact Nat.le_refl _
      · have hu' : xs.reverse[i]? = some u := hu
        have hi : i < xs.reverse.length := (List.getElem?_eq_some_iff.mp hu').1
        rw [List.length_reverse, RVs.length r2] at hi
        refine ⟨walk_rev.goes i _ hi s2, fun x H3 hy => ?_⟩
        obtain ⟨rfl, hx⟩ := walk_rev.yields i _ x H3 hi s2 hy
        exact ⟨G2, Ext.refl, rp2, back zs G2 H3 i u x r2 hu' hx⟩
    · refine ⟨q, ys, rfl, .inr ⟨s, h1.here rp1 fun G2 H2 lh2 m rp2 hg => ?_⟩⟩
      obtain ⟨zs, s2, r2⟩ := sqt_at rv m
      have hz : ys.length = zs.length := (RVs.length rs).symm.trans (RVs.length r2)
      rw [hz]
      refine ⟨?_, fun i u hu => ?_⟩
      · show zs.length ≤ xs.reverse.length
        rw [List.length_reverse, RVs.length r2]; exact Nat.le_refl _
      · have hu' : xs.reverse[i]? = some u := hu
        have hi : i < xs.reverse.length := (List.getElem?_eq_some_iff.mp hu').1
        rw [List.length_reverse, RVs.length r2] at hi
        refine ⟨⟨hi, zs, zs[zs.length - 1 - i]'(by omega), s2, by simp [show zs.length - 1 - i < zs.length by omega]⟩, fun x H3 ⟨e1, hy⟩ => ?_⟩
        subst e1
        exact ⟨G2, Ext.refl, rp2, back zs G2 H3 i u x r2 hu' (hy zs s2)⟩
  · exact h1.elim
omit c in
theorem zip_get {xs ys : List W} {zs us : List V} {g : Gw} {G2 : Gh} {H2 : Hp} (r1 : RVs g G2 H2 xs zs) (r2 : RVs g G2 H2 ys us) (i : Nat) (p : W × W) (h : (xs.zip ys)[i]? = some p) : ∃ x y, zs[i]? = some x ∧ us[i]? = some y ∧ RV g G2 H2 p.1 x ∧ RV g G2 H2 p.2 y := by
  rw [List.getElem?_zip_eq_some] at h
  obtain ⟨x, a1, a2⟩ := r1.get h.1
  obtain ⟨y, b1, b2⟩ := r2.get h.2
  exact ⟨x, y, a1, b1, a2, b2⟩
omit c in
/-- a sequence that is walked stands -/
theorem sqB_at {g : Gw} {G G2 : Gh} {H H2 : Hp} {lh lh2 : LH} {w : W} {ws : List W} {a : Addr} {t1 : Bool} (rv : RV g G H w (.ref a)) (e : seqOf lh w = some ws) (ht : t1 = true ↔ ∃ us, w = .tup us) (m : Mono g G H G2 H2) (rp2 : Rep g G2 lh2 H2) (hg : gOk (gdOf lh w) lh2 = true) : ∃ ys, SqB t1 g.K H2 a ys ∧ RVs g G2 H2 ws ys := by
  cases t1 with
  | true =>
    obtain ⟨us, rfl⟩ := ht.mp rfl
    unfold seqOf at e
    cases e
    exact sqt_at rv m
  | false =>
    have hn : ¬ ∃ us, w = .tup us := fun z => by cases ht.mpr z
    have e2 : lstOf lh w = some ws := by
      cases w <;> first | exact e | exact (hn ⟨_, rfl⟩).elim
    exact sq_at rv e2 m rp2 hg
omit c in
theorem sqB_now {g : Gw} {G : Gh} {H : Hp} {lh : LH} {w : W} {ws : List W} {v : V} {t1 : Bool} (rp : Rep g G lh H) (rv : RV g G H w v) (e : seqOf lh w = some ws) (ht : t1 = true ↔ ∃ us, w = .tup us) : ∃ a xs, v = .ref a ∧ SqB t1 g.K H a xs := by
  obtain ⟨p, xs, rfl, hq, _⟩ := seqOf_spec rp rv e
  cases t1 with
  | true =>
    obtain ⟨us, rfl⟩ := ht.mp rfl
    rcases hq with ⟨h, _⟩ | ⟨_, s⟩
    · cases h
    · exact ⟨p, xs, rfl, s⟩
  | false =>
    rcases hq with ⟨_, s⟩ | ⟨rfl, _⟩
    · exact ⟨p, xs, rfl, s⟩
    · cases ht.mpr ⟨_, rfl⟩
omit c in
theorem bool_of (p : Prop) : ∃ b : Bool, b = true ↔ p := by
  by_cases h : p
  · exact ⟨true, by simp [h]⟩
  · exact ⟨false, by simp [h]⟩
include o in
theorem snd_zip {a b : E} {x z : Expr} {y : Str} {es : List Expr} {k : Nat} {p pos tpos : Pos} (h1 : seq y "zip" = true) (h2 : Mp.gl sc y = true) (hx : nst x = true) (hz : nst z = true) (ha : PE X x (tE t cl Wx a)) (hb : PE X z (tE t cl Wx b)) : PI X (.Tuple es k tpos) (.Call (.Name y p) [x, z] [] pos) (tI t cl Wx (.zip a b)) := by
  have e := seq_eq h1
  subst e
  refine pi_dep fun σ H R ⟨G, ls, lh, re, rp, h⟩ => ?_
  obtain ⟨t1, ht1⟩ := bool_of (∃ us l1, evE t.T cl a ls lh = .ok (.tup us) l1)
  obtain ⟨t2, ht2⟩ := bool_of (∃ w l1 us l2, evE t.T cl a ls lh = .ok w l1 ∧ evE t.T cl b ls l1 = .ok (.tup us) l2)
  refine ⟨_, pi_zipB (t1 := t1) (t2 := t2) (c.gl h2) (c.free o (by decide)) (pa_cons ha (pa_cons hb pa_nil (star_cons hz)) (star_cons hx)) (star_cons hx) (by rw [star_cons hz]; rfl), ?_⟩
  simp only [evI] at h
  refine ⟨G, ls, lh, re, rp, h.bind fun w l1 G1 H1 v q1 e1 rp1 rv h1 => ⟨G1, ls, l1, re.mono e1.toMono, rp1, h1.bind fun w2 l2 G2 H2 v2 q2 e2 rp2 rv2 h2 => ?_⟩⟩
  have k1 : t1 = true ↔ ∃ us, w = .tup us := ht1.trans ⟨fun ⟨us, l, z⟩ => by rw [q1] at z; cases z; exact ⟨us, rfl⟩, fun ⟨us, z⟩ => ⟨us, l1, by rw [q1, z]⟩⟩
  have k2 : t2 = true ↔ ∃ us, w2 = .tup us := ht2.trans ⟨fun ⟨w', l, us, l', z1, z2⟩ => by rw [q1] at z1; cases z1; rw [q2] at z2; cases z2; exact ⟨us, rfl⟩, fun ⟨us, z⟩ => ⟨w, l1, us, l2, q1, by rw [q2, z]⟩⟩
  have rv1 := rv.mono e2.toMono
  split at h2
  case h_2 => exact h2.elim
  rename_i q hq
  obtain ⟨xs, ys⟩ := q
  unfold zip2 at hq
  split at hq
  case h_2 => cases hq
  rename_i us vs s1 s2
  cases hq
  rw [c.hK]
  obtain ⟨p1, a1, rfl, z1⟩ := sqB_now rp2 rv1 s1 k1
  obtain ⟨p2, a2, rfl, z2⟩ := sqB_now rp2 rv2 s2 k2
  refine ⟨p1, p2, a1, a2, rfl, z1, z2, h2.here rp2 fun G3 H3 l3 m rp3 hg => ?_⟩
  obtain ⟨hg1, hg2⟩ := gok_app hg
  obtain ⟨b1, c1, d1⟩ := sqB_at rv1 s1 k1 m rp3 hg1
  obtain ⟨b2, c2, d2⟩ := sqB_at rv2 s2 k2 m rp3 hg2
  have n1 := RVs.length d1
  have n2 := RVs.length d2
  rw [zipW_eq]
  refine ⟨⟨b1, b2, c1, c2, ?_, ?_, ?_⟩, fun i w hw => ?_⟩
  · show ((xs.zip ys).map _).length ≤ _
    rw [List.length_map, List.length_zip]; omega
  · show ((xs.zip ys).map _).length ≤ _
    rw [List.length_map, List.length_zip]; omega
  · show ((xs.zip ys).map _).length = _ ∨ ((xs.zip ys).map _).length = _
    rw [List.length_map, List.length_zip]; omega
  · have hw' : ((xs.zip ys).map fun p => W.tup [p.1, p.2])[i]? = some w := hw
    rw [List.getElem?_map] at hw'
    obtain ⟨p, hp, rfl⟩ := Option.map_eq_some_iff.mp hw'
    rw [List.getElem?_zip_eq_some] at hp
    obtain ⟨x1, r1, r2⟩ := d1.get hp.1
    obtain ⟨y1, r3, r4⟩ := d2.get hp.2
    refine ⟨⟨b1, b2, x1, y1, c1, c2, r1, r3⟩, fun x H4 hy => ?_⟩
    obtain ⟨T, x2, y2, rfl, hT, rfl, f1, f2⟩ := hy
    have g1 := f1 b1 c1
    have g2 := f2 b2 c2
    rw [r1] at g1
    rw [r3] at g2
    cases g1
    cases g2
    obtain ⟨e, rp4⟩ := rp3.tup (xs := [x1, y1]) hT
    refine ⟨G3, e, rp4, ?_⟩
    unfold RV
    exact ⟨T, _, rfl, .inl (.inl upd_same), RVs.cons (r2.mono e.toMono) (RVs.cons (r4.mono e.toMono) RVs.nil)⟩
end
end Mp
namespace Mp
open PySem PySem.Spec PyProof.Rows L2
/-! ### targets -/
def gNames : List Nat → TGs
  | [] => gNil
  | i :: is => gCons (gName i) (gNames is)
def gT (K : PySem.W.Frag) : Tg → TG
  | .one i => gName i
  | .many is => gTup K is.length (gNames is)
theorem wipe_get : ∀ (vs : List Nat) (σ : Sst) (j : Nat), (wipe σ vs)[j]? = if j ∈ vs then (σ[j]?).map fun _ => none else σ[j]?
  | [], σ, j => by simp [wipe]
  | v :: vs, σ, j => by
    show ((wipe σ vs).set v none)[j]? = _
    have ih := wipe_get vs σ j
    by_cases h : v = j
    · subst h
      rw [if_pos (List.mem_cons_self ..)]
      by_cases hl : v < (wipe σ vs).length
      · rw [List.getElem?_set_self hl]
        have : v < σ.length := by
          have : (wipe σ vs)[v]? ≠ none := by simp [hl]
          rw [ih] at this
          refine Classical.byContradiction fun z => this ?_
          have : σ[v]? = none := by simp; omega
          rw [this]; simp
        simp [this]
      · have : (wipe σ vs)[v]? = none := by simp; omega
        rw [List.getElem?_set, if_pos rfl, if_neg hl]
        rw [ih] at this
        split at this
        · exact this.symm
        · rw [this]; rfl
    · rw [List.getElem?_set_ne h, ih]
      have : (j ∈ v :: vs) ↔ j ∈ vs := by simp [Ne.symm h]
      simp only [this]
theorem wipe_set {σ : Sst} {i : Nat} {v : Option V} {own : List Nat} (h : i ∈ own) : wipe (σ.set i v) own = wipe σ own := by
  apply List.ext_getElem?
  intro j
  rw [wipe_get, wipe_get]
  by_cases hj : j ∈ own
  · rw [if_pos hj, if_pos hj, List.getElem?_set]
    split
    · rename_i e
      subst e
      by_cases hl : i < σ.length
      · simp [hl]
      · simp [hl]
    · rfl
  · rw [if_neg hj, if_neg hj, List.getElem?_set_ne]
    exact fun e => hj (e ▸ h)
theorem wipe_idem {σ : Sst} {own : List Nat} : wipe (wipe σ own) own = wipe σ own := by
  apply List.ext_getElem?
  intro j
  rw [wipe_get, wipe_get]
  by_cases hj : j ∈ own
  · simp only [if_pos hj]
    cases σ[j]? <;> rfl
  · simp only [if_neg hj]
section
variable {g : Gw} {G : Gh} {H : Hp}
theorem names_sp {Q : Sst → Hp → Prop} : ∀ {is : List Nat} {ws : List W} {xs : List V} {ls ls1 : Env} {σ : Sst}, setAll is ws ls = some ls1 → REnv g G H ls σ → RVs g G H ws xs →
    (∀ σ1, REnv g G H ls1 σ1 → (∀ own : List Nat, is.all own.contains = true → wipe σ1 own = wipe σ own) → Q σ1 H) → gNames is xs σ H Q
  | [], [], _, ls, ls1, σ, e, re, r, k => by
    unfold RVs at r
    subst r
    unfold setAll at e
    cases e
    exact ⟨rfl, k σ re fun _ _ => rfl⟩
  | [], _ :: _, _, _, _, _, e, _, _, _ => by simp [setAll] at e
  | _ :: _, [], _, _, _, _, e, _, _, _ => by simp [setAll] at e
  | i :: is, w :: ws, _, ls, ls1, σ, e, re, r, k => by
    unfold RVs at r
    obtain ⟨x, xs, rfl, a, b⟩ := r
    unfold setAll at e
    refine ⟨x, xs, rfl, names_sp e (re.set a) b fun σ1 r1 hw => k σ1 r1 fun own ho => ?_⟩
    rw [List.all_cons] at ho
    obtain ⟨h1, h2⟩ := ba ho
    rw [hw own h2, wipe_set (by simpa using h1)]
theorem setAll_len : ∀ {is : List Nat} {ws : List W} {ls ls1 : Env}, setAll is ws ls = some ls1 → is.length = ws.length
  | [], [], _, _, _ => rfl
  | [], _ :: _, _, _, e => by simp [setAll] at e
  | _ :: _, [], _, _, e => by simp [setAll] at e
  | _ :: _, _ :: _, _, _, e => by
    unfold setAll at e
    exact congrArg Nat.succ (setAll_len e)
theorem bind_sp {Q : Sst → Hp → Prop} {tg : Tg} {w : W} {x : V} {ls ls1 : Env} {σ : Sst} (e : bindT tg w ls = some ls1) (re : REnv g G H ls σ) (rv : RV g G H w x)
    (k : ∀ σ1, REnv g G H ls1 σ1 → (∀ own : List Nat, tgIn own tg = true → wipe σ1 own = wipe σ own) → Q σ1 H) : gT g.K tg x σ H Q := by
  cases tg with
  | one i =>
    unfold bindT at e
    cases e
    exact k _ (re.set rv) fun own ho => wipe_set (by simpa [tgIn] using ho)
  | many is =>
    unfold bindT at e
    split at e
    · rename_i is' e1
      cases e1
    · rename_i is' e1
      cases e1
      split at e
      · rename_i ws
        obtain ⟨p, xs, rfl, s, r⟩ := rv.tup_eq
        exact ⟨p, xs, rfl, s, by rw [setAll_len e]; exact (RVs.length r).symm, names_sp e re r k⟩
      · cases e
end
section
variable {t : Tp} {cl : Cl} {X : Cx} {Wx : WX} {n : Nat} {ar : Ar} {N : List Str} {fn : Str → Bool} {sc : Scope} (c : Cok t X Wx n N fn sc) (o : t.Ok)
include c
theorem pg_slot {i : Nat} {x : Str} {pos : Pos} (h1 : slotOk N i x = true) (h2 : stOk fn sc x = true) : PG X (.Name x pos) (gName i) :=
  pg_name (by rw [c.hN]; exact c.nd) (by rw [c.hN]; exact of_decide_eq_true h1) (by rw [c.hsc]; exact stOk_loc h2) (by rw [c.hfn, c.hsc]; exact stOk_fn h2)
theorem pgs_slots : ∀ {is : List Nat} {es : List Expr}, chkNames N fn sc is es = true → PGs X es (gNames is) ∧ (assignEach es X.env).length = is.length ∧ (assignEach es X.env).findIdx? (·.1) = none
  | [], [], _ => ⟨pgs_nil, rfl, rfl⟩
  | [], _ :: _, h => by simp [chkNames] at h
  | _ :: _, [], h => by simp [chkNames] at h
  | i :: is, e :: es, h => by
    cases e <;> first | (simp [chkNames] at h; done) | skip
    simp only [chkNames] at h
    obtain ⟨h1, h2⟩ := ba h
    obtain ⟨h3, h4⟩ := ba h2
    obtain ⟨i1, i2, i3⟩ := pgs_slots h4
    refine ⟨pgs_cons (pg_slot c h1 h3) i1, congrArg Nat.succ i2, ?_⟩
    show List.findIdx? (·.1) ((false, _) :: assignEach es X.env) = none
    rw [List.findIdx?_cons, i3]
    rfl
theorem pg_tg {tg : Tg} {e : Expr} (h : chkTg N fn sc tg e = true) : PG X e (gT X.K tg) := by
  cases tg with
  | one i =>
    cases e <;> first | (simp [chkTg] at h; done) | skip
    simp only [chkTg] at h
    exact pg_slot c (ba h).1 (ba h).2
  | many is =>
    cases e <;> first | (simp [chkTg] at h; done) | skip
    simp only [chkTg] at h
    obtain ⟨i1, i2, i3⟩ := pgs_slots c h
    exact pg_tup c.calm i1 i2 i3
end
/-! ### comprehensions -/
theorem Cok.blk {t : Tp} {X : Cx} {Wx : WX} {n : Nat} {N : List Str} {fn : Str → Bool} {sc scope : Scope} {own : List (Str × Nat)} (c : Cok t X Wx n N fn sc) (ok : BlkOk N sc scope own) (s : Shared) (H : Hp) (C : Addr) (cl : List (Str × Addr)) (fp : List Addr) :
    Cok t (X.blk s H scope (compEnvC scope cl C X.env) fp) (fun _ _ _ _ => False) n N (blkFn scope) (relS scope sc) where
  hP := c.hP
  hw := c.hw
  hK := c.hK
  hmg := c.hmg
  hb := c.hb
  hN := c.hN
  hsc := by rw [← c.hsc]; rfl
  hfn := rfl
  hfun := ok.kind
  nd := c.nd
  calm := c.calm
  room := c.room
  tk := fun _ _ x => by
    obtain ⟨a, B, sI, pins, σ, H, cls, d, e, I, nb, up, sky, na, os, ag, w⟩ := x
    exact w
  pas := PassesOwn.never
theorem bind_ok {α β : Type} {r : R α} {f : α → LH → R β} {b : β} {l : LH} (h : r.bind f = .ok b l) : ∃ a l1, r = .ok a l1 ∧ f a l1 = .ok b l := by
  cases r with
  | ok a l1 => exact ⟨a, l1, rfl, h⟩
  | ex => cases h
  | no => cases h
theorem noex_ok {α : Type} {r : R α} {b : α} {l : LH} (h : r.noex = .ok b l) : r = .ok b l := by
  cases r with
  | ok a l1 => exact h
  | ex => cases h
  | no => cases h
theorem noex_ex {α : Type} {r : R α} {c : String} {ns : List String} {fs : List W} {l : LH} : r.noex ≠ .ex c ns fs l := by
  cases r <;> intro h <;> cases h
theorem compL_ex {f q : Env → LH → R W} {tg : Tg} {σ : Env} {g : Gd} : ∀ {ws : List W} {l l2 : LH} {c : String} {ns : List String} {fs : List W}, compL f q tg σ g ws l ≠ .ex c ns fs l2
  | [], l, l2, c, ns, fs => by
    unfold compL
    split <;> intro h <;> cases h
  | w :: ws, l, l2, c, ns, fs => by
    unfold compL
    split
    · split
      · rename_i σ1 _
        cases h1 : (q σ1 l).noex with
        | ex => exact (noex_ex h1).elim
        | no => intro h; cases h
        | ok b l1 =>
          dsimp only [R.bind]
          split
          · cases h2 : (f σ1 l1).noex with
            | ex => exact (noex_ex h2).elim
            | no => intro h; cases h
            | ok y l3 =>
              dsimp only
              cases h3 : compL f q tg σ g ws l3 with
              | ex => exact (compL_ex h3).elim
              | no => intro h; cases h
              | ok ys l4 => intro h; cases h
          · exact compL_ex
          · intro h; cases h
      · intro h; cases h
    · intro h; cases h
section
variable {t : Tp} {cl : Cl}
abbrev W0 : WX := fun _ _ _ _ => False
theorem lc_imp {Wx : WX} {m : Bool} {e it q : E} {tg : Tg} {own : List Nat} (hown : tgIn own tg = true) {σ : Sst} {H : Hp} {Q : VK} (h0 : tE t cl Wx (.comp m e tg it q own) σ H Q) :
    tLc (tI t cl Wx it) (gT t.g.K tg) (tT t cl W0 q) (tE t cl W0 e) own σ H Q := by
  obtain ⟨G, ls, lh, re, rp, h⟩ := h0
  simp only [evE] at h
  refine ⟨G, ls, lh, re, rp, h.bind fun p l1 G1 H1 J _ e1 rp1 wk h1 => ?_⟩
  intro D hD
  have re1 := (re.mono e1.toMono).wipe2 own
  split at h1
  case isFalse => exact h1.elim
  rename_i hbig
  cases hcl : compL (fun σ' h' => evE t.T cl e σ' h') (fun σ' h' => evE t.T cl q σ' h') tg (wipeE ls own) p.2 p.1 l1 with
  | ex => exact (compL_ex hcl).elim
  | no => rw [hcl] at h1; exact h1.elim
  | ok ys l2 =>
  rw [hcl] at h1
  dsimp only [R.bind] at h1
  have nD : ¬ G1.Pr D := fun z => rp1.pr D z hD
  let Inv : Nat → Hp → Prop := fun i H => ∃ (G2 : Gh) (l : LH) (dn : List W) (acc : List V), i ≤ p.1.length ∧ (G2.Pr = fun q => G1.Pr q ∨ q = D) ∧ Mono t.g G1 H1 G2 H ∧ (∀ q, G1.Pr q → H q = H1 q) ∧ Rep t.g G2 l H ∧ H D = some (.lst acc) ∧ RVs t.g G2 H dn acc ∧
    dn.length ≤ i ∧ ∃ rest, compL (fun σ' h' => evE t.T cl e σ' h') (fun σ' h' => evE t.T cl q σ' h') tg (wipeE ls own) p.2 (p.1.drop i) l = .ok rest l2 ∧ dn ++ rest = ys
  refine ⟨fun i m H => m = p.1.length - i ∧ Inv i H, ⟨p.1.length, by simp, ?_⟩, ?_⟩
  · obtain ⟨m0, rp0⟩ := rp1.own (D := D) (o := .lst []) hD
    exact ⟨_, l1, [], [], Nat.zero_le _, rfl, m0, fun q hq => upd_ne fun z => nD (z ▸ hq), rp0, upd_same, RVs.nil, Nat.le_refl _, ys, hcl, rfl⟩
  · rintro i mm H2 ⟨rfl, G2, l, dn, acc, hi, hpr, mo, kp, rp2, hacc, racc, hdn, rest, hc, hys⟩
    by_cases hlt : i < p.1.length
    · have hdrop : p.1.drop i = p.1[i] :: p.1.drop (i + 1) := List.drop_eq_getElem_cons hlt
      rw [hdrop] at hc
      unfold compL at hc
      split at hc
      case isFalse => cases hc
      rename_i hg
      obtain ⟨_, w2⟩ := wk G2 H2 l mo rp2 hg
      obtain ⟨w3, w4⟩ := w2 i p.1[i] (by simp [hlt])
      split at hc
      case h_2 => cases hc
      rename_i ls1 hb
      obtain ⟨b, l3, hq, hc⟩ := bind_ok hc
      have hq := noex_ok hq
      refine .inr ⟨w3, Inv (i + 1), fun H' p' => ⟨p.1.length - (i + 1), by omega, rfl, p'⟩, fun x H3 hy => ?_⟩
      obtain ⟨G3, e3, rp3, rv3⟩ := w4 x H3 hy
      have re3 : REnv t.g G3 H3 (wipeE ls own) (wipe σ own) := (re1.mono mo).mono e3.toMono
      refine bind_sp hb re3 rv3 fun σ2 re4 hw => ⟨by rw [hw own hown, wipe_idem], ?_⟩
      refine ⟨G3, ls1, l, re4, rp3, ?_⟩
      rw [hq]
      intro G4 H4 b' e4 rp4 hb'
      have e34 := e3.trans e4
      unfold relT at hb'
      subst hb'
      cases b' with
      | true =>
        rw [if_pos rfl]
        dsimp only at hc
        obtain ⟨y, l5, hy5, hc⟩ := bind_ok hc
        have hy5 := noex_ok hy5
        obtain ⟨ys5, l6, hc6, hc⟩ := bind_ok hc
        cases hc
        refine ⟨G4, ls1, l3, re4.mono e4.toMono, rp4, ?_⟩
        rw [hy5]
        intro G5 H5 v e5 rp5 rv5
        have e25 := e34.trans e5
        have hprD : G5.Pr D := by rw [e25.pr, hpr]; exact .inr rfl
        have hD5 : H5 D = some (.lst acc) := (e25.kept D (by rw [hpr]; exact .inr rfl)).trans hacc
        obtain ⟨m6, rp6⟩ := rp5.mine (o := .lst (acc ++ [v])) hprD hD5 (.inl ⟨_, rfl⟩)
        have hlen : acc.length ≤ i := by rw [← RVs.length racc]; exact hdn
        refine ⟨acc, hD5, ?_, G5, l5, dn ++ [y], acc ++ [v], hlt, by rw [e25.pr, hpr], ?_, ?_, rp6, upd_same, ?_, ?_, ys5, hc6, ?_⟩
        · exact Nat.lt_of_le_of_lt hlen (Nat.lt_of_lt_of_le hlt (big_line hbig))
        · exact ⟨fun i q h => m6.pre i q (e25.pre i q (mo.pre i q h)), fun q h => ⟨(e25.fz q (mo.fz q h).1).1, ((m6.fz q (e25.fz q (mo.fz q h).1).1).2.trans (e25.fz q (mo.fz q h).1).2).trans (mo.fz q h).2⟩,
            fun q xs h => m6.tup q xs (e25.tup q xs (mo.tup q xs h)), fun q xs h => m6.rd q xs (e25.rd q xs (mo.rd q xs h))⟩
        · intro q hq
          have : q ≠ D := fun z => nD (z ▸ hq)
          rw [upd_ne this, e25.kept q (by rw [hpr]; exact .inl hq)]
          exact kp q hq
        · exact RVs.append ((racc.mono e25.toMono).mono m6) (RVs.cons (rv5.mono m6) RVs.nil)
        · rw [List.length_append, List.length_singleton]; omega
        · rw [← hys]; simp
      | false =>
        rw [if_neg Bool.false_ne_true]
        dsimp only at hc
        exact ⟨G4, l3, dn, acc, hlt, by rw [e34.pr, hpr], ⟨fun i q h => e34.pre i q (mo.pre i q h), fun q h => ⟨(e34.fz q (mo.fz q h).1).1, (e34.fz q (mo.fz q h).1).2.trans (mo.fz q h).2⟩,
            fun q xs h => e34.tup q xs (mo.tup q xs h), fun q xs h => e34.rd q xs (mo.rd q xs h)⟩, fun q hq => (e34.kept q (by rw [hpr]; exact .inl hq)).trans (kp q hq), rp4,
            (e34.kept D (by rw [hpr]; exact .inr rfl)).trans hacc, racc.mono e34.toMono, by omega, rest, hc, hys⟩
    · have hie : i = p.1.length := by omega
      subst hie
      rw [List.drop_length] at hc
      unfold compL at hc
      split at hc
      case isFalse => cases hc
      rename_i hg
      cases hc
      rw [List.append_nil] at hys
      subst hys
      refine .inl ⟨(wk G2 H2 _ mo rp2 hg).1, ?_⟩
      cases m with
      | true =>
        rw [if_pos rfl] at h1
        obtain ⟨m7, rp7⟩ := rp2.giveL hpr nD hacc racc
        refine h1 ⟨G2.io ++ [D], G2.Fz, G1.Pr⟩ H2 (.ref D) ⟨⟨fun i q h => m7.pre i q (mo.pre i q h), fun q h => ⟨(m7.fz q (mo.fz q h).1).1, (mo.fz q h).2⟩, fun q xs h => mo.tup q xs h, fun q xs h => mo.rd q xs h⟩, rfl, kp⟩ rp7 ?_
        exact rv_ref (by rw [← rp2.len]; simp)
      | false =>
        rw [if_neg Bool.false_ne_true] at h1
        obtain ⟨m7, rp7⟩ := rp2.giveF hpr nD (by rw [hacc]; simp)
        refine h1 ⟨G2.io, fun q => G2.Fz q ∨ q = D, G1.Pr⟩ H2 (.ref D) ⟨⟨fun i q h => m7.pre i q (mo.pre i q h), fun q h => ⟨(m7.fz q (mo.fz q h).1).1, (mo.fz q h).2⟩, fun q xs h => mo.tup q xs h, fun q xs h => mo.rd q xs h⟩, rfl, kp⟩ rp7 ?_
        exact rv_fl (.inr rfl) hacc (racc.mono m7)
end
end Mp
namespace Mp
open PySem PySem.Spec PyProof.Rows L2
theorem chkA_nst {ar : Ar} {N : List Str} {fn : Str → Bool} {sc : Scope} : ∀ {e : E} {xs : List Expr}, chkA ar N e fn sc xs = true → xs.all nst = true
  | .nil, [], _ => rfl
  | .cons e es, x :: xs, h => by
    simp only [chkA] at h
    rw [List.all_cons, (ba h).1, chkA_nst (ba (ba h).2).2]; rfl
  | .nil, _ :: _, h => by simp [chkA] at h
  | .cons _ _, [], h => by simp [chkA] at h
structure Snd (t : Tp) (cl : Cl) (n : Nat) (ar : Ar) (N : List Str) (e : E) : Prop where
  pe : ∀ {X : Cx} {Wx : WX} {fn : Str → Bool} {sc : Scope} {x : Expr}, Cok t X Wx n N fn sc → chkE ar N e fn sc x = true → PE X x (tE t cl Wx e)
  pa : ∀ {X : Cx} {Wx : WX} {fn : Str → Bool} {sc : Scope} {xs : List Expr}, Cok t X Wx n N fn sc → chkA ar N e fn sc xs = true → PA X xs (tA t cl Wx e)
  pt : ∀ {X : Cx} {Wx : WX} {fn : Str → Bool} {sc : Scope} {x : Expr}, Cok t X Wx n N fn sc → chkT ar N e fn sc x = true → PT X x (tT t cl Wx e)
  pw : ∀ {X : Cx} {Wx : WX} {fn : Str → Bool} {sc : Scope} {op : BoolOp} {xs : List Expr} {pos : Pos}, Cok t X Wx n N fn sc → chkT ar N e fn sc (.BoolOp op xs pos) = true → PW X (.BoolOp op xs pos) (tT t cl Wx e)
  pi : ∀ {X : Cx} {Wx : WX} {fn : Str → Bool} {sc : Scope} {tg x : Expr}, Cok t X Wx n N fn sc → chkI ar N e fn sc tg x = true → PI X tg x (tI t cl Wx e)
/-- the parts of a comprehension -/
structure LcP (t : Tp) (cl : Cl) (X : Cx) (Wx : WX) (elt tg iter : Expr) (ifs : List Expr) (scope : Scope) (it e q : E) (g : Tg) (own : List (Str × Nat)) : Prop where
  hi : PI X tg iter (tI t cl Wx it)
  ok : BlkOk X.N X.env.scope scope own
  hg : ∀ (s : Shared) (H : Hp) (C : Addr) (cl : List (Str × Addr)) (fp : List Addr), PG (X.blk s H scope (compEnvC scope cl C X.env) fp) tg (gT t.g.K g)
  ht : ∀ (s : Shared) (H : Hp) (C : Addr) (cl' : List (Str × Addr)) (fp : List Addr), PTs (X.blk s H scope (compEnvC scope cl' C X.env) fp) ifs (tT t cl W0 q)
  he : ∀ (s : Shared) (H : Hp) (C : Addr) (cl' : List (Str × Addr)) (fp : List Addr), PE (X.blk s H scope (compEnvC scope cl' C X.env) fp) elt (tE t cl W0 e)
theorem ownP_snd {N : List Str} : ∀ own : List Nat, (ownP N own).map (·.2) = own
  | [] => rfl
  | i :: is => congrArg (i :: ·) (ownP_snd is)
theorem pts_imp {X : Cx} {e : List Expr} {t t' : TT} (h : PTs X e t) (i : ∀ σ H Q, t' σ H Q → t σ H Q) : PTs X e t' := ⟨fun pins s σ H Q I q => h.run pins s σ H Q I (i σ H Q q)⟩
section
variable {t : Tp} {cl : Cl} {n : Nat} {ar : Ar} {N : List Str} {X : Cx} {Wx : WX} {fn : Str → Bool} {sc : Scope}
theorem lc_parts {e it q : E} {g : Tg} {own : List Nat} {elt iter tg : Expr} {ifs : List Expr} {scope : Scope} (c : Cok t X Wx n N fn sc) (h : (nset iter && (chkI ar N it fn sc tg iter && (blkC N sc scope (ownP N own) && (tgIn own g && (chkTg N (blkFn scope) (relS scope sc) g tg && (chkE ar N e (blkFn scope) (relS scope sc) elt &&
        (match ifs with
        | [] => isT q
        | [x] => chkT ar N q (blkFn scope) (relS scope sc) x
        | _ => false))))))) = true)
    (Se : Snd t cl n ar N e) (Si : Snd t cl n ar N it) (Sq : Snd t cl n ar N q) : LcP t cl X Wx elt tg iter ifs scope it e q g (ownP N own) ∧ nset iter = true ∧ tgIn own g = true := by
  obtain ⟨h1, k1⟩ := ba h
  obtain ⟨h2, k2⟩ := ba k1
  obtain ⟨h3, k3⟩ := ba k2
  obtain ⟨h4, k4⟩ := ba k3
  obtain ⟨h5, k5⟩ := ba k4
  obtain ⟨h6, h⟩ := ba k5
  have ok := blkOk_by h3
  refine ⟨⟨Si.pi c h2, by rw [c.hN, c.hsc]; exact ok, fun s H C cl' fp => ?_, fun s H C cl' fp => ?_, fun s H C cl' fp => Se.pe (c.blk ok s H C cl' fp) h6⟩, h1, h4⟩
  · have := pg_tg (c.blk ok s H C cl' fp) h5
    rw [← c.hK]
    exact this
  · split at h
    · unfold isT at h
      split at h
      · refine pts_imp pts_nil fun σ H' Q ⟨G, ls, lh, re, rp, hh⟩ => ?_
        simp only [evE] at hh
        exact PostG.here (rel := relT) hh rp rfl
      · cases h
    · exact pts_one (Sq.pt (c.blk ok s H C cl' fp) h)
    · cases h
theorem snd_comp {m : Bool} {e it q : E} {g : Tg} {own : List Nat} {elt iter tg : Expr} {ifs : List Expr} {scope : Scope} {pos : Pos} (c : Cok t X Wx n N fn sc) (h : (nset iter && (chkI ar N it fn sc tg iter && (blkC N sc scope (ownP N own) && (tgIn own g && (chkTg N (blkFn scope) (relS scope sc) g tg && (chkE ar N e (blkFn scope) (relS scope sc) elt &&
        (match ifs with
        | [] => isT q
        | [x] => chkT ar N q (blkFn scope) (relS scope sc) x
        | _ => false))))))) = true)
    (Se : Snd t cl n ar N e) (Si : Snd t cl n ar N it) (Sq : Snd t cl n ar N q) : PE X (.ListComp elt [⟨tg, iter, ifs, .ofNat 0⟩] scope pos) (tE t cl Wx (.comp m e g it q own)) := by
  obtain ⟨P, h1, h2⟩ := lc_parts c h Se Si Sq
  refine pe_imp (pe_lc c.calm (by rw [c.hN]; exact c.nd) P.hi P.ok P.hg P.ht P.he (folded_n h1)) fun σ H Q hh => ?_
  rw [ownP_snd]
  exact lc_imp h2 hh
theorem tE_tE {a : E} {σ : Sst} {H : Hp} {Q : VK} (h : tE t cl Wx a σ H Q) : tE t cl Wx a σ H Q := h
/-- THE EXPRESSIONS -/
theorem snd_all (o : t.Ok) (F : Fns t ar cl n) : ∀ (k : Nat) (e : E), sizeOf e < k → Snd t cl n ar N e
  | 0, e, hk => by omega
  | k + 1, e, hk => by
    have ih : ∀ a : E, sizeOf a < k → Snd t cl n ar N a := fun a ha => snd_all o F k a ha
    refine ⟨fun {X Wx fn sc x} c h => ?_, fun {X Wx fn sc xs} c h => ?_, fun {X Wx fn sc x} c h => ?_, fun {X Wx fn sc op xs pos} c h => ?_, fun {X Wx fn sc tg x} c h => ?_⟩
    · unfold chkE at h
      split at h
      all_goals first | (cases h; done) | skip
      case h_1 => exact snd_var c (ba h).1 (ba (ba h).2).1 (ba (ba h).2).2
      case h_2 => exact snd_cst h
      case h_3 => exact snd_glo c o (ba h).1 (ba (ba h).2).1 (ba (ba h).2).2
      case h_4 => exact snd_tup ((ih _ (by simp at hk; omega)).pa c (ba h).2) (ba h).2 (of_decide_eq_true (ba h).1)
      case h_5 => exact snd_lst ((ih _ (by simp at hk; omega)).pa c (ba h).2) (ba h).2 (of_decide_eq_true (ba h).1)
      case h_6 => exact snd_lstm ((ih _ (by simp at hk; omega)).pa c (ba h).2) (ba h).2 (of_decide_eq_true (ba h).1)
      case h_7 =>
        obtain ⟨a1, a2⟩ := ba h
        obtain ⟨a3, a4⟩ := ba a2
        have z := of_decide_eq_true a1
        rw [z]
        exact snd_binE c ((ih _ (by simp at hk; omega)).pe c a3) ((ih _ (by simp at hk; omega)).pe c a4)
      case h_8 =>
        obtain ⟨a1, a2⟩ := ba h
        have z := of_decide_eq_true a1
        rw [z]
        exact snd_unE ((ih _ (by simp at hk; omega)).pe c a2)
      case h_9 =>
        obtain ⟨a1, a2⟩ := ba h
        obtain ⟨a3, a4⟩ := ba a2
        obtain ⟨a5, a6⟩ := ba a4
        have z := of_decide_eq_true a1
        rw [z]
        rw [z] at a3
        exact snd_cmpE c (by simpa using a3) ((ih _ (by simp at hk; omega)).pe c a5) ((ih _ (by simp at hk; omega)).pe c a6)
      case h_10 =>
        obtain ⟨a1, a2⟩ := ba h
        obtain ⟨a3, a4⟩ := ba a2
        obtain ⟨a5, a6⟩ := ba a4
        obtain ⟨a7, a8⟩ := ba a6
        obtain ⟨a9, a10⟩ := ba a8
        have z := of_decide_eq_true a1
        have z2 := of_decide_eq_true a3
        rw [z, z2]
        rw [z, z2] at a5
        exact snd_cmp2E c (by simpa using a5) ((ih _ (by simp at hk; omega)).pe c a7) ((ih _ (by simp at hk; omega)).pe c a9) ((ih _ (by simp at hk; omega)).pe c a10)
      case h_11 => exact snd_and ((ih _ (by simp at hk; omega)).pe c (ba h).1) (pe_one ((ih _ (by simp at hk; omega)).pe c (ba h).2))
      case h_12 => exact snd_and ((ih _ (by simp at hk; omega)).pe c (ba h).1) ((ih _ (by simp at hk; omega)).pe c (ba h).2)
      case h_13 => exact snd_or ((ih _ (by simp at hk; omega)).pe c (ba h).1) (pe_one ((ih _ (by simp at hk; omega)).pe c (ba h).2))
      case h_14 => exact snd_or ((ih _ (by simp at hk; omega)).pe c (ba h).1) ((ih _ (by simp at hk; omega)).pe c (ba h).2)
      case h_15 => exact snd_not c ((ih _ (by simp at hk; omega)).pe c h)
      case h_16 => exact snd_ite ((ih _ (by simp at hk; omega)).pt c (ba h).1) ((ih _ (by simp at hk; omega)).pe c (ba (ba h).2).1) ((ih _ (by simp at hk; omega)).pe c (ba (ba h).2).2)
      case h_17 =>
        obtain ⟨a1, a2⟩ := ba h
        obtain ⟨a3, a4⟩ := ba a2
        obtain ⟨a5, a6⟩ := ba a4
        obtain ⟨a7, a8⟩ := ba a6
        exact snd_call c o F a1 a3 a5 a7 (chkA_nst a8) a8 ((ih _ (by simp at hk; omega)).pa c a8)
      case h_18 =>
        obtain ⟨a1, a2⟩ := ba h
        obtain ⟨a3, a4⟩ := ba a2
        obtain ⟨a5, a6⟩ := ba a4
        exact snd_call0 c o F a1 a3 a5 a6
      case h_19 =>
        obtain ⟨a1, a2⟩ := ba h
        obtain ⟨a3, a4⟩ := ba a2
        obtain ⟨a5, a6⟩ := ba a4
        exact snd_bf c o a1 a3 a5 (chkA_nst a6) ((ih _ (by simp at hk; omega)).pa c a6)
      case h_20 =>
        obtain ⟨a1, a2⟩ := ba h
        obtain ⟨a3, a4⟩ := ba a2
        obtain ⟨a5, a6⟩ := ba a4
        obtain ⟨a7, a8⟩ := ba a6
        obtain ⟨a9, a10⟩ := ba a8
        obtain ⟨a11, a12⟩ := ba a10
        exact snd_isi c o a1 a3 a5 a7 a9 a11 ((ih _ (by simp at hk; omega)).pe c a12)
      case h_21 =>
        obtain ⟨a1, a2⟩ := ba h
        obtain ⟨a3, a4⟩ := ba a2
        obtain ⟨a5, a6⟩ := ba a4
        obtain ⟨a7, a8⟩ := ba a6
        obtain ⟨a9, a10⟩ := ba a8
        exact snd_isiT c o a1 a3 (of_decide_eq_true a5) a7 a9 ((ih _ (by simp at hk; omega)).pe c a10)
      case h_22 =>
        obtain ⟨a1, a2⟩ := ba h
        obtain ⟨a3, a4⟩ := ba a2
        obtain ⟨a5, a6⟩ := ba a4
        obtain ⟨a7, a8⟩ := ba a6
        obtain ⟨a9, a10⟩ := ba a8
        obtain ⟨a11, a12⟩ := ba a10
        exact snd_lm c (of_decide_eq_true a1) a3 a5 a7 (of_decide_eq_true a9) (chkA_nst a12) a12 ((ih _ (by simp at hk; omega)).pe c a11) ((ih _ (by simp at hk; omega)).pa c a12)
      case h_23 => exact snd_attr c o (ba h).1 (ba (ba h).2).1 ((ih _ (by simp at hk; omega)).pe c (ba (ba h).2).2)
      case h_24 => exact snd_idx c (ba h).1 ((ih _ (by simp at hk; omega)).pe c (ba (ba h).2).1) ((ih _ (by simp at hk; omega)).pe c (ba (ba h).2).2)
      case h_25 => exact snd_comp c h (ih _ (by simp at hk; omega)) (ih _ (by simp at hk; omega)) (ih _ (by simp at hk; omega))
      case h_26 =>
        obtain ⟨a1, a2⟩ := ba h
        obtain ⟨a3, a4⟩ := ba a2
        obtain ⟨a5, a6⟩ := ba a4
        obtain ⟨a7, a8⟩ := ba a6
        obtain ⟨a9, a10⟩ := ba a8
        exact snd_lrng c a1 a3 a5 a7 a9 o ((ih _ (by simp at hk; omega)).pe c a10)
      case h_27 => exact snd_frz c ((ih _ (by simp at hk; omega)).pe c h)
      case h_28 => exact ⟨fun pins s σ H Q I ⟨G, ls, lh, re, rp, h⟩ => by simp only [evE] at h; exact h.elim⟩
      case h_29 =>
        obtain ⟨a1, a2⟩ := ba h
        obtain ⟨a3, a4⟩ := ba a2
        refine snd_slE c ((ih _ (by simp at hk; omega)).pe c a1) ?_ ?_
        · split at a3
          · exact snd_po0 a3
          · exact snd_po1 (by simpa using (ba a3).1) ((ih _ (by simp at hk; omega)).pe c (ba a3).2)
        · split at a4
          · exact snd_po0 a4
          · exact snd_po1 (by simpa using (ba a4).1) ((ih _ (by simp at hk; omega)).pe c (ba a4).2)
    · unfold chkA at h
      split at h
      all_goals first | (cases h; done) | skip
      · exact snd_nil
      · obtain ⟨a1, h⟩ := ba h
        exact snd_cons a1 ((ih _ (by simp at hk; omega)).pe c (ba h).1) ((ih _ (by simp at hk; omega)).pa c (ba h).2)
    · unfold chkT at h
      split at h
      all_goals first | (cases h; done) | skip
      case h_1 =>
        obtain ⟨a1, a2⟩ := ba h
        obtain ⟨a3, a4⟩ := ba a2
        obtain ⟨a5, a6⟩ := ba a4
        have z := of_decide_eq_true a1
        rw [z]
        rw [z] at a3
        exact snd_cmpT c (by simpa using a3) ((ih _ (by simp at hk; omega)).pe c a5) ((ih _ (by simp at hk; omega)).pe c a6)
      case h_2 =>
        obtain ⟨a1, a2⟩ := ba h
        obtain ⟨a3, a4⟩ := ba a2
        obtain ⟨a5, a6⟩ := ba a4
        obtain ⟨a7, a8⟩ := ba a6
        obtain ⟨a9, a10⟩ := ba a8
        have z := of_decide_eq_true a1
        have z2 := of_decide_eq_true a3
        rw [z, z2]
        rw [z, z2] at a5
        exact snd_cmp2T c (by simpa using a5) ((ih _ (by simp at hk; omega)).pe c a7) ((ih _ (by simp at hk; omega)).pe c a9) ((ih _ (by simp at hk; omega)).pe c a10)
      case h_3 => exact snd_tE c (ba h).1 ((ih _ (by simp at hk; omega)).pe c (ba h).2)
      case h_4 => exact (snd_tand ((ih _ (by simp at hk; omega)).pt c (ba h).1) (pw_and1 ((ih _ (by simp at hk; omega)).pt c (ba h).2))).pt
      case h_5 => exact (snd_tand ((ih _ (by simp at hk; omega)).pt c (ba h).1) ((ih _ (by simp at hk; omega)).pw c (ba h).2)).pt
      case h_6 => exact (snd_tor ((ih _ (by simp at hk; omega)).pt c (ba h).1) (pw_or1 ((ih _ (by simp at hk; omega)).pt c (ba h).2))).pt
      case h_7 => exact (snd_tor ((ih _ (by simp at hk; omega)).pt c (ba h).1) ((ih _ (by simp at hk; omega)).pw c (ba h).2)).pt
      case h_8 => exact snd_tnot ((ih _ (by simp at hk; omega)).pt c h)
    · generalize hx : Expr.BoolOp op xs pos = x at h ⊢
      unfold chkT at h
      split at h
      all_goals first | (cases h; done) | (cases hx; done) | skip
      case h_3 =>
        subst hx
        exact Bool.noConfusion (ba h).1
      case h_4 => exact snd_tand ((ih _ (by simp at hk; omega)).pt c (ba h).1) (pw_and1 ((ih _ (by simp at hk; omega)).pt c (ba h).2))
      case h_5 => exact snd_tand ((ih _ (by simp at hk; omega)).pt c (ba h).1) ((ih _ (by simp at hk; omega)).pw c (ba h).2)
      case h_6 => exact snd_tor ((ih _ (by simp at hk; omega)).pt c (ba h).1) (pw_or1 ((ih _ (by simp at hk; omega)).pt c (ba h).2))
      case h_7 => exact snd_tor ((ih _ (by simp at hk; omega)).pt c (ba h).1) ((ih _ (by simp at hk; omega)).pw c (ba h).2)
    · unfold chkI at h
      split at h
      all_goals first | (cases h; done) | skip
      case h_1 => exact snd_itv c ((ih _ (by simp at hk; omega)).pe c h)
      case h_2 =>
        obtain ⟨a1, a2⟩ := ba h
        obtain ⟨a3, a4⟩ := ba a2
        exact snd_rng1 c o a1 a3 (ba a4).1 ((ih _ (by simp at hk; omega)).pe c (ba a4).2)
      case h_3 =>
        obtain ⟨a1, a2⟩ := ba h
        obtain ⟨a3, a4⟩ := ba a2
        obtain ⟨a5, a6⟩ := ba a4
        obtain ⟨a7, a8⟩ := ba a6
        exact snd_rng2 c o a1 a3 a5 a7 ((ih _ (by simp at hk; omega)).pe c (ba a8).1) ((ih _ (by simp at hk; omega)).pe c (ba a8).2)
      case h_4 =>
        obtain ⟨a1, a2⟩ := ba h
        obtain ⟨a3, a4⟩ := ba a2
        exact snd_enum c o a1 a3 (ba a4).1 ((ih _ (by simp at hk; omega)).pe c (ba a4).2)
      case h_5 =>
        obtain ⟨a1, a2⟩ := ba h
        obtain ⟨a3, a4⟩ := ba a2
        obtain ⟨a5, a6⟩ := ba a4
        obtain ⟨a7, a8⟩ := ba a6
        exact snd_zip c o a1 a3 a5 a7 ((ih _ (by simp at hk; omega)).pe c (ba a8).1) ((ih _ (by simp at hk; omega)).pe c (ba a8).2)
      case h_6 =>
        obtain ⟨a1, a2⟩ := ba h
        obtain ⟨a3, a4⟩ := ba a2
        exact snd_rev c o a1 a3 (ba a4).1 ((ih _ (by simp at hk; omega)).pe c (ba a4).2)
end
end Mp
namespace Mp
open PySem PySem.Spec PyProof.Rows L2
/-! ### statements -/
/-- a list comprehension is not stored straight -/
theorem sw_false {elt : Expr} {gs : List Comprehension} {scope : Scope} {pos py : Pos} {y : Str} {l : Nat} {env : PySem.Env} (hk : env.scope.kind = .function) (h : swB env.scope y py scope pos = false) : swapsWith (.ListComp elt gs scope pos) (some (.Name y py)) l env = pure false := by
  have hb : env.blockKind = .function := by unfold Env.blockKind; rw [hk]; rfl
  unfold swapsWith
  simp only [hb, Expr.pos]
  have e : (env.kindOf y == some NameKind.local) = decide (env.scope.names.lookup y = some .local) := by
    show (env.scope.names.lookup y == some NameKind.local) = _
    cases hq : env.scope.names.lookup y with
    | none => rfl
    | some k => cases k <;> rfl
  unfold swB at h
  rw [e]
  show pure ((true && decide (env.scope.names.lookup y = some .local) && (py.line == pos.line)) && !(scope.names.any fun (n, k) => n == y && (k == .local || k == .cell))) = pure false
  congr 1
  rw [Bool.true_and, Bool.and_assoc]
  exact h
theorem swB_spec {sc : Scope} {y : Str} {py : Pos} {scope : Scope} {pos : Pos} (h : swB sc y py scope pos = true) : sc.names.lookup y = some .local ∧ (py.line == pos.line) = true ∧ (scope.names.any fun (n, k) => n == y && (k == .local || k == .cell)) = false := by
  unfold swB at h
  obtain ⟨h1, h2⟩ := ba h
  obtain ⟨h3, h4⟩ := ba h2
  exact ⟨of_decide_eq_true h1, h3, by simpa using h4⟩
section
variable {t : Tp} {cl : Cl} {n : Nat} {ar : Ar} {N : List Str} {X : Cx} {Wx : WX} {fn : Str → Bool} {sc : Scope} (c : Cok t X Wx n N fn sc) (o : t.Ok)
/-- a value is stored: what the statement's reading asks -/
theorem asg_imp {i : Nat} {e : E} {D : Ends} {σ : Sst} {H : Hp} (h0 : tS t cl Wx (.asg i e) D σ H) : tE t cl Wx e σ H fun x H1 => gName i x σ H1 D.nx := by
  obtain ⟨G, ls, lh, re, rp, h⟩ := h0
  simp only [evS] at h
  exact ⟨G, ls, lh, re, rp, PostS.toS re h fun w l1 G1 H1 v _ e1 rp1 rv h1 => h1 _ _ _ Ext.refl rp1 ((re.mono e1.toMono).set rv)⟩
include c
theorem snd_asg {i : Nat} {e : E} {x : Str} {v : Expr} {p pos : Pos} (h1 : slotOk N i x = true) (h2 : stOk fn sc x = true) (hn : ncomp v = true) (he : PE X v (tE t cl Wx e)) : PS X (.Assign [.Name x p] v pos) (tS t cl Wx (.asg i e)) :=
  ps_imp (ps_set (by rw [c.hN]; exact c.nd) (by rw [c.hN]; exact of_decide_eq_true h1) (by rw [c.hsc]; exact stOk_loc h2) he (swaps_n hn) (by rw [c.hfn, c.hsc]; exact stOk_fn h2)) fun D σ H h => asg_imp h
theorem snd_asgC {i : Nat} {m : Bool} {e it q : E} {g : Tg} {own : List Nat} {elt iter tg : Expr} {ifs : List Expr} {scope : Scope} {cpos p pos : Pos} {x : Str} (h1 : slotOk N i x = true) (h2 : stOk fn sc x = true)
    (P : LcP t cl X Wx elt tg iter ifs scope it e q g (ownP N own)) (hn : nset iter = true) (hg : tgIn own g = true) (he : PE X (.ListComp elt [⟨tg, iter, ifs, .ofNat 0⟩] scope cpos) (tE t cl Wx (.comp m e g it q own))) :
    PS X (.Assign [.Name x p] (.ListComp elt [⟨tg, iter, ifs, .ofNat 0⟩] scope cpos) pos) (tS t cl Wx (.asg i (.comp m e g it q own))) := by
  by_cases hs : swB sc x p scope cpos = true
  · obtain ⟨s1, s2, s3⟩ := swB_spec hs
    rw [← c.hsc] at s1
    refine ps_imp (ps_setLc (i := i) c.calm (by rw [c.hN]; exact c.nd) (by rw [c.hN]; exact of_decide_eq_true h1) s1 (sw_true (by rw [c.hsc]; exact c.hfun) s1 s2 s3) P.hi P.ok P.hg P.ht P.he (folded_n hn)) fun D σ H h => ?_
    rw [ownP_snd]
    exact lc_imp hg (asg_imp h)
  · have hs : swB sc x p scope cpos = false := by simpa using hs
    refine ps_imp (ps_set (by rw [c.hN]; exact c.nd) (by rw [c.hN]; exact of_decide_eq_true h1) (by rw [c.hsc]; exact stOk_loc h2) he (sw_false (by rw [c.hsc]; exact c.hfun) (by rw [c.hsc]; exact hs)) (by rw [c.hfn, c.hsc]; exact stOk_fn h2)) fun D σ H h => asg_imp h
theorem snd_unp {is : List Nat} {e : E} {xs : List Expr} {v : Expr} {k : Nat} {p pos : Pos} (h1 : chkNames N fn sc is xs = true) (hn : ncomp v = true) (ht : ntup v = true) (he : PE X v (tE t cl Wx e)) : PS X (.Assign [.Tuple xs k p] v pos) (tS t cl Wx (.unp is e)) := by
  have hg : PG X (.Tuple xs k p) (gT X.K (.many is)) := pg_tg c (tg := .many is) h1
  refine ps_imp (ps_asg he hg (by unfold swapsWithSole; exact swaps_n hn) ?_) fun D σ H ⟨G, ls, lh, re, rp, h⟩ => ?_
  · unfold swappedStores
    cases v <;> first | rfl | (cases ht; done)
  · simp only [evS] at h
    refine ⟨G, ls, lh, re, rp, PostS.toS re h fun w l1 G1 H1 v _ e1 rp1 rv h1 => ?_⟩
    split at h1
    · rename_i ls1 hb
      rw [c.hK]
      exact bind_sp hb (re.mono e1.toMono) rv fun σ1 r1 _ => h1 _ _ _ Ext.refl rp1 r1
    · exact h1.elim
theorem snd_aug {i : Nat} {e : E} {x : Str} {v : Expr} {p pos : Pos} (h1 : slotOk N i x = true) (h2 : stOk fn sc x = true) (he : PE X v (tE t cl Wx e)) : PS X (.AugAssign (.Name x p) .Add v pos) (tS t cl Wx (.aug i .add e)) := by
  refine ps_imp (ps_aug (by rw [c.hN]; exact c.nd) (by rw [c.hN]; exact of_decide_eq_true h1) (by rw [c.hsc]; exact stOk_loc h2) he ip_add (by rw [c.hfn, c.hsc]; exact stOk_fn h2)) fun D σ H ⟨G, ls, lh, re, rp, h⟩ => ?_
  simp only [evS] at h
  split at h
  · rename_i w0 hw
    obtain ⟨v0, q1, q2⟩ := re.2 i w0 hw
    refine ⟨v0, q1, G, ls, lh, re, rp, PostS.toS re h fun w l1 G1 H1 v _ e1 rp1 rv h1 => ?_⟩
    split at h1
    · rename_i a b _
      refine ⟨a, b, q2.int_eq, rv.int_eq, h1 _ _ _ Ext.refl rp1 ((re.mono e1.toMono).set rv_int)⟩
    · exact h1.elim
  · exact h.elim
theorem snd_setI {a i e : E} {x y v : Expr} {p pos : Pos} (hy : nslice y = true) (ha : PE X x (tE t cl Wx a)) (hi : PE X y (tE t cl Wx i)) (he : PE X v (tE t cl Wx e)) : PS X (.Assign [.Subscript x y p] v pos) (tS t cl Wx (.setI a i e)) := by
  refine ps_imp (ps_asg he (pg_sub ha hi set_list ?_) ?_ ?_) fun D σ H ⟨G, ls, lh, re, rp, h⟩ => ?_
  · intro u
    cases y <;> first | rfl | (cases hy; done)
  · unfold swapsWithSole swapsWith
    cases v <;> rfl
  · unfold swappedStores
    cases v <;> rfl
  · simp only [evS] at h
    refine ⟨G, ls, lh, re, rp, PostS.toS re h fun w l1 G1 H1 v _ e1 rp1 rv h1 => ⟨G1, ls, l1, re.mono e1.toMono, rp1, PostS.toS (re.mono e1.toMono) h1 fun w2 l2 G2 H2 v2 _ e2 rp2 rv2 h2 => ⟨G2, ls, l2, (re.mono e1.toMono).mono e2.toMono, rp2, PostS.toS ((re.mono e1.toMono).mono e2.toMono) h2 fun w3 l3 G3 H3 v3 _ e3 rp3 rv3 h3 => ?_⟩⟩⟩
    split at h3
    · rename_i m k _ _
      split at h3
      · rename_i ws hm
        split at h3
        · rename_i j hj
          have rv2' := rv2.mono e3.toMono
          unfold RV at rv2'
          obtain ⟨q, rfl, hq⟩ := rv2'
          obtain ⟨xs, hx, rs⟩ := rp3.lst hm hq
          refine ⟨q, xs, k, j, rfl, rv3.int_eq, hx, by rw [← RVs.length rs, ← hj]; rfl, ?_⟩
          have rv' := (rv.mono e2.toMono).mono e3.toMono
          have re' := ((re.mono e1.toMono).mono e2.toMono).mono e3.toMono
          have x1 : Ext t.g G3 H3 G3 (upd H3 q (.lst (xs.set j v))) := Ext.write hx ⟨(rp3.sep m _ q hm hq (fun z => by cases z)).1, .inl ⟨_, rfl⟩⟩ (rp3.sep m _ q hm hq (fun z => by cases z)).2
          obtain ⟨x2, rp4⟩ := rp3.write (o' := .lst (ws.set j w)) (ho' := .lst (xs.set j v)) hm hq (fun z => by cases z) hx (.inl ⟨_, rfl⟩) ⟨_, rfl, (RVs.set rv' j rs).mono x1.toMono⟩
          exact h3 _ _ _ x2 rp4 (re'.mono x2.toMono)
        · exact h3.elim
      · exact h3.elim
    · exact h3.elim
omit c in
theorem snd_expr {e : E} {v : Expr} {pos : Pos} (hn : ncomp v = true) (he : PE X v (tE t cl Wx e)) : PS X (.Expr v pos) (tS t cl Wx (.expr e)) := by
  refine ps_imp (ps_expr he (swaps_n hn)) fun D σ H ⟨G, ls, lh, re, rp, h⟩ => ?_
  simp only [evS] at h
  exact ⟨G, ls, lh, re, rp, PostS.toS re h fun w l1 G1 H1 v _ e1 rp1 rv h1 => h1 _ _ _ Ext.refl rp1 (re.mono e1.toMono)⟩
omit c in
theorem snd_ret {e : E} {v : Expr} {pos : Pos} (he : PE X v (tE t cl Wx e)) : PS X (.Return (some v) pos) (tS t cl Wx (.ret e)) := by
  refine ps_imp (ps_ret he) fun D σ H ⟨G, ls, lh, re, rp, h⟩ => ?_
  simp only [evS] at h
  exact ⟨G, ls, lh, re, rp, PostS.toS re h fun w l1 G1 H1 v _ e1 rp1 rv h1 => h1 _ _ _ Ext.refl rp1 rv⟩
omit c in
theorem snd_retN {pos : Pos} : PS X (.Return none pos) (tS t cl Wx .retN) := by
  refine ps_imp ps_retN fun D σ H ⟨G, ls, lh, re, rp, h⟩ => ?_
  simp only [evS] at h
  exact h _ _ _ Ext.refl rp rv_non
omit c in
theorem snd_ifs {q : E} {a b : S} {z : Expr} {x y : List Stmt} {pos : Pos} (hq : PT X z (tT t cl Wx q)) (ha : PSs X x (tS t cl Wx a)) (hb : PSs X y (tS t cl Wx b)) : PS X (.If z x y pos) (tS t cl Wx (.ifs q a b)) := by
  refine ps_imp (ps_if hq ha hb) fun D σ H ⟨G, ls, lh, re, rp, h⟩ => ?_
  simp only [evS] at h
  refine ⟨G, ls, lh, re, rp, PostS.toS' re h fun w l1 G1 H1 v _ e1 rp1 rv h1 => ?_⟩
  subst rv
  cases v with
  | true => exact iteT ⟨G1, ls, l1, re.mono e1.toMono, rp1, h1⟩
  | false => exact iteF ⟨G1, ls, l1, re.mono e1.toMono, rp1, h1⟩
/-- a step's end is a next -/
def PostS.turn (g : Gw) (G : Gh) (H : Hp) (f : Env → LH → RS) (D : Ends) (W : WX) : RS → Prop
  | .nx ls lh => PostS g G H (f ls lh) D W
  | .cont ls lh => PostS g G H (f ls lh) D W
  | .brk ls lh => PostS g G H (.nx ls lh) D W
  | r => PostS g G H r D W
theorem snd_wh {q : E} {b : S} {z : Expr} {x : List Stmt} {pos : Pos} (hq : PT X z (tT t cl Wx q)) (hb : PSs X x (tS t cl Wx b)) : PS X (.While z x [] pos) (tS t cl Wx (.wh q b)) := by
  refine ps_imp (ps_while c.pas hq hb) fun D σ H ⟨G, ls, lh, re, rp, h⟩ => ?_
  simp only [evS] at h
  refine ⟨fun m σ H => ∃ G ls lh, REnv t.g G H ls σ ∧ Rep t.g G lh H ∧ PostS t.g G H (whL (fun σ' h' => evE t.T cl q σ' h') (fun σ' h' => evS t.T cl b σ' h') m ls lh) D Wx, ⟨_, G, ls, lh, re, rp, h⟩, ?_⟩
  rintro m σ H ⟨G, ls, lh, re, rp, h⟩
  cases m with
  | zero => exact h.elim
  | succ m =>
    unfold whL at h
    refine ⟨G, ls, lh, re, rp, PostS.toS' re h fun w l1 G1 H1 v _ e1 rp1 rv h1 => ?_⟩
    subst rv
    cases v with
    | false => exact iteF (h1 _ _ _ Ext.refl rp1 (re.mono e1.toMono))
    | true =>
      refine iteT ⟨fun σ H => ∃ G ls lh, REnv t.g G H ls σ ∧ Rep t.g G lh H ∧ PostS t.g G H (whL (fun σ' h' => evE t.T cl q σ' h') (fun σ' h' => evS t.T cl b σ' h') m ls lh) D Wx, fun σ' H' hh => ⟨m, Nat.lt_succ_self _, hh⟩, G1, ls, l1, re.mono e1.toMono, rp1, ?_⟩
      dsimp only at h1
      cases hr : evS t.T cl b ls l1 with
      | nx ls2 l2 => rw [hr] at h1; exact fun G2 H2 σ2 e2 rp2 re2 => ⟨G2, ls2, l2, re2, rp2, PostS.mono h1 e2⟩
      | cont ls2 l2 => rw [hr] at h1; exact fun G2 H2 σ2 e2 rp2 re2 => ⟨G2, ls2, l2, re2, rp2, PostS.mono h1 e2⟩
      | brk ls2 l2 => rw [hr] at h1; exact fun G2 H2 σ2 e2 rp2 re2 => h1 _ _ _ e2 rp2 re2
      | ret w l2 => rw [hr] at h1; exact h1
      | ex c ns fs ls2 l2 => rw [hr] at h1; exact h1
      | no => rw [hr] at h1; exact h1
theorem snd_for {tg : Tg} {it : E} {b : S} {e iter : Expr} {x : List Stmt} {pos : Pos} (hn : nset iter = true) (hi : PI X e iter (tI t cl Wx it)) (hg : PG X e (gT X.K tg)) (hb : PSs X x (tS t cl Wx b)) : PS X (.For e iter x [] pos) (tS t cl Wx (.for_ tg it b)) := by
  refine ps_imp (ps_for c.pas c.calm hi hg hb (folded_n hn)) fun D σ H ⟨G, ls, lh, re, rp, h⟩ => ?_
  simp only [evS] at h
  refine ⟨G, ls, lh, re, rp, ?_⟩
  cases hit : evI t.T cl it ls lh with
  | no => rw [hit] at h; exact h.elim
  | ex c ns fs l1 => rw [hit] at h; exact fun G2 H2 cls d e2 rp2 rx => h G2 H2 σ cls d e2 rp2 (re.mono e2.toMono) rx
  | ok p l1 =>
  rw [hit] at h
  intro G1 H1 J e1 rp1 wk
  have h1 := PostS.mono (show PostS t.g G H (forL (fun σ' h' => evS t.T cl b σ' h') tg p.2 p.1 ls l1) D Wx from h) e1
  let Inv : Nat → Sst → Hp → Prop := fun i σ H => ∃ G2 ls lh, i ≤ p.1.length ∧ Mono t.g G1 H1 G2 H ∧ REnv t.g G2 H ls σ ∧ Rep t.g G2 lh H ∧ PostS t.g G2 H (forL (fun σ' h' => evS t.T cl b σ' h') tg p.2 (p.1.drop i) ls lh) D Wx
  refine ⟨fun i m σ H => m = p.1.length - i ∧ Inv i σ H, ⟨p.1.length, by simp, G1, ls, l1, Nat.zero_le _, Ext.refl.toMono, re.mono e1.toMono, rp1, h1⟩, ?_⟩
  rintro i m σ H2 ⟨rfl, G2, ls2, l2, hi, mo, re2, rp2, h2⟩
  by_cases hlt : i < p.1.length
  · have hdrop : p.1.drop i = p.1[i] :: p.1.drop (i + 1) := List.drop_eq_getElem_cons hlt
    rw [hdrop] at h2
    unfold forL at h2
    split at h2
    case isFalse => exact h2.elim
    rename_i hgd
    obtain ⟨_, w2⟩ := wk G2 H2 l2 mo rp2 hgd
    obtain ⟨w3, w4⟩ := w2 i p.1[i] (by simp [hlt])
    split at h2
    case h_2 => exact h2.elim
    rename_i ls3 hbd
    refine .inr ⟨w3, Inv (i + 1), fun σ' H' p' => ⟨p.1.length - (i + 1), by omega, rfl, p'⟩, fun x H3 hy => ?_⟩
    obtain ⟨G3, e3, rp3, rv3⟩ := w4 x H3 hy
    rw [c.hK]
    refine bind_sp hbd (re2.mono e3.toMono) rv3 fun σ3 re3 _ => ⟨G3, ls3, l2, re3, rp3, ?_⟩
    have h3 := h2
    have mo3 : Mono t.g G1 H1 G3 H3 := ⟨fun i q h => e3.pre i q (mo.pre i q h), fun q h => ⟨(e3.fz q (mo.fz q h).1).1, (e3.fz q (mo.fz q h).1).2.trans (mo.fz q h).2⟩, fun q xs h => e3.tup q xs (mo.tup q xs h), fun q xs h => e3.rd q xs (mo.rd q xs h)⟩
    have go : ∀ {G4 : Gh} {H4 : Hp}, Ext t.g G3 H3 G4 H4 → Mono t.g G1 H1 G4 H4 := fun e4 => ⟨fun i q h => e4.pre i q (mo3.pre i q h), fun q h => ⟨(e4.fz q (mo3.fz q h).1).1, (e4.fz q (mo3.fz q h).1).2.trans (mo3.fz q h).2⟩, fun q xs h => e4.tup q xs (mo3.tup q xs h), fun q xs h => e4.rd q xs (mo3.rd q xs h)⟩
    cases hr : evS t.T cl b ls3 l2 with
    | nx ls4 l4 => rw [hr] at h3; exact fun G4 H4 σ4 e4 rp4 re4 => ⟨G4, ls4, l4, hlt, go e4, re4, rp4, PostS.mono h3 (e3.trans e4)⟩
    | cont ls4 l4 => rw [hr] at h3; exact fun G4 H4 σ4 e4 rp4 re4 => ⟨G4, ls4, l4, hlt, go e4, re4, rp4, PostS.mono h3 (e3.trans e4)⟩
    | brk ls4 l4 => rw [hr] at h3; exact fun G4 H4 σ4 e4 rp4 re4 => h3 _ _ _ (e3.trans e4) rp4 re4
    | ret w l4 => rw [hr] at h3; exact fun G4 H4 v e4 rp4 rv => h3 _ _ _ (e3.trans e4) rp4 rv
    | ex c ns fs ls4 l4 => rw [hr] at h3; exact fun G4 H4 σ4 cls d e4 rp4 re4 rx => h3 _ _ _ _ _ (e3.trans e4) rp4 re4 rx
    | no => rw [hr] at h3; exact h3
  · have hie : i = p.1.length := by omega
    subst hie
    rw [List.drop_length] at h2
    unfold forL at h2
    split at h2
    case isFalse => exact h2.elim
    rename_i hgd
    exact .inl ⟨(wk G2 H2 l2 mo rp2 hgd).1, h2 _ _ _ Ext.refl rp2 re2⟩
omit c in
theorem snd_seq {s r : S} {st : Stmt} {sts : List Stmt} (h1 : PS X st (tS t cl Wx s)) (h2 : PSs X sts (tS t cl Wx r)) : PSs X (st :: sts) (tS t cl Wx (.seq s r)) := by
  refine pss_imp (pss_cons h1 h2) fun D σ H ⟨G, ls, lh, re, rp, h⟩ => ⟨G, ls, lh, re, rp, ?_⟩
  simp only [evS] at h
  cases hr : evS t.T cl s ls lh with
  | nx ls2 l2 => rw [hr] at h; exact fun G2 H2 σ2 e2 rp2 re2 => ⟨G2, ls2, l2, re2, rp2, PostS.mono h e2⟩
  | cont ls2 l2 => rw [hr] at h; exact h
  | brk ls2 l2 => rw [hr] at h; exact h
  | ret w l2 => rw [hr] at h; exact h
  | ex c ns fs ls2 l2 => rw [hr] at h; exact h
  | no => rw [hr] at h; exact h
omit c in
theorem snd_kill {is : List Nat} {r : S} {sts : List Stmt} (h2 : PSs X sts (tS t cl Wx r)) : PSs X sts (tS t cl Wx (.seq (.kill is) r)) := by
  refine pss_imp h2 fun D σ H ⟨G, ls, lh, re, rp, h⟩ => ?_
  simp only [evS] at h
  exact ⟨G, wipeE ls is, lh, re.wipeE is, rp, h⟩
omit c in
theorem snd_snil : PSs X [] (tS t cl Wx .nil) := pss_imp pss_nil fun D σ H ⟨G, ls, lh, re, rp, h⟩ => by
  simp only [evS] at h
  exact h _ _ _ Ext.refl rp re
omit c in
theorem chk_comp {m : Bool} {e it q : E} {g : Tg} {own : List Nat} {elt : Expr} {gs : List Comprehension} {scope : Scope} {pos : Pos} (h : chkE ar N (.comp m e g it q own) fn sc (.ListComp elt gs scope pos) = true) : ∃ tg iter ifs, gs = [⟨tg, iter, ifs, .ofNat 0⟩] ∧ (nset iter && (chkI ar N it fn sc tg iter && (blkC N sc scope (ownP N own) && (tgIn own g && (chkTg N (blkFn scope) (relS scope sc) g tg && (chkE ar N e (blkFn scope) (relS scope sc) elt &&
        (match ifs with
        | [] => isT q
        | [x] => chkT ar N q (blkFn scope) (relS scope sc) x
        | _ => false))))))) = true := by
  generalize hE : E.comp m e g it q own = E0 at h
  generalize hX : Expr.ListComp elt gs scope pos = X0 at h
  unfold chkE at h
  split at h
  all_goals first | (cases h; done) | (cases hE; done) | (cases hX; done) | skip
  cases hE
  cases hX
  exact ⟨_, _, _, rfl, h⟩
/-- THE STATEMENTS -/
theorem snd_sts (A : ∀ e : E, Snd t cl n ar N e) : ∀ (k : Nat) (s : S), sizeOf s < k → (∀ st, chk1 ar N s fn sc st = true → PS X st (tS t cl Wx s)) ∧ ∀ sts, chkS ar N s fn sc sts = true → PSs X sts (tS t cl Wx s)
  | 0, s, hk => by omega
  | k + 1, s, hk => by
    have ih := fun (a : S) (ha : sizeOf a < k) => snd_sts A k a ha
    refine ⟨fun st h => ?_, fun sts h => ?_⟩
    · unfold chk1 at h
      split at h
      all_goals first | (cases h; done) | skip
      case h_1 =>
        obtain ⟨a1, a2⟩ := ba h
        obtain ⟨a3, a4⟩ := ba a2
        obtain ⟨tg, iter, ifs, rfl, hf⟩ := chk_comp a4
        obtain ⟨P, q1, q2⟩ := lc_parts c hf (A _) (A _) (A _)
        exact snd_asgC c a1 a3 P q1 q2 (snd_comp c hf (A _) (A _) (A _))
      case h_2 =>
        obtain ⟨a1, a2⟩ := ba h
        obtain ⟨a3, a4⟩ := ba a2
        exact snd_asg c a1 a3 (ba a4).1 ((A _).pe c (ba a4).2)
      case h_3 =>
        obtain ⟨a1, a2⟩ := ba h
        obtain ⟨a3, a4⟩ := ba a2
        obtain ⟨a5, a6⟩ := ba a4
        exact snd_unp c a1 a3 a5 ((A _).pe c a6)
      case h_4 =>
        obtain ⟨a1, a2⟩ := ba h
        obtain ⟨a3, a4⟩ := ba a2
        obtain ⟨a5, a6⟩ := ba a4
        obtain ⟨a7, a8⟩ := ba a6
        have z := of_decide_eq_true a5
        have z2 := of_decide_eq_true a7
        rw [z, z2]
        exact snd_aug c a1 a3 ((A _).pe c a8)
      case h_5 =>
        obtain ⟨a1, a2⟩ := ba h
        obtain ⟨a3, a4⟩ := ba a2
        obtain ⟨a5, a6⟩ := ba a4
        exact snd_setI c a1 ((A _).pe c a3) ((A _).pe c a5) ((A _).pe c a6)
      case h_6 =>
        obtain ⟨a1, a2⟩ := ba h
        obtain ⟨a3, a4⟩ := ba a2
        exact snd_expr a1 ((A _).pe c a3)
      case h_7 => exact snd_ret ((A _).pe c h)
      case h_8 => exact snd_retN
      case h_9 =>
        obtain ⟨a1, a2⟩ := ba h
        obtain ⟨a3, a4⟩ := ba a2
        exact snd_ifs ((A _).pt c a1) ((ih _ (by simp at hk; omega)).2 _ a3) ((ih _ (by simp at hk; omega)).2 _ a4)
      case h_10 =>
        obtain ⟨a1, a2⟩ := ba h
        exact snd_wh c ((A _).pt c a1) ((ih _ (by simp at hk; omega)).2 _ a2)
      case h_11 =>
        obtain ⟨a1, a2⟩ := ba h
        obtain ⟨a3, a4⟩ := ba a2
        obtain ⟨a5, a6⟩ := ba a4
        exact snd_for c a1 ((A _).pi c a3) (pg_tg c a5) ((ih _ (by simp at hk; omega)).2 _ a6)
      case h_12 => exact ⟨fun pins s σ H D I ⟨G, ls, lh, re, rp, h⟩ => by simp only [evS] at h; exact h.elim⟩
      case h_13 =>
       exact ps_imp ps_break fun D σ H ⟨G, ls, lh, re, rp, h⟩ => by
        simp only [evS] at h
        exact h _ _ _ Ext.refl rp re
      case h_14 =>
       exact ps_imp ps_continue fun D σ H ⟨G, ls, lh, re, rp, h⟩ => by
        simp only [evS] at h
        exact h _ _ _ Ext.refl rp re
      case h_15 =>
       exact ps_imp ps_pass fun D σ H ⟨G, ls, lh, re, rp, h⟩ => by
        simp only [evS] at h
        exact h _ _ _ Ext.refl rp re
    · unfold chkS at h
      split at h
      all_goals first | (cases h; done) | skip
      case h_1 => exact snd_snil
      case h_2 => exact snd_kill ((ih _ (by simp at hk; omega)).2 _ h)
      case h_3 => exact snd_seq ((ih _ (by simp at hk; omega)).1 _ (ba h).1) ((ih _ (by simp at hk; omega)).2 _ (ba h).2)
end
end Mp
namespace Mp
open PySem PySem.Spec PyProof.Rows L2
/-! ### defs -/
/-- a def's text is what the evaluator runs -/
structure DOk (t : Tp) (ar : Ar) (f : String) (d : Def) : Prop where
  ex : ∃ (x qual : Str) (params : Arguments) (body : List Stmt) (scope : Scope) (dvs : List V) (N : List Str), FunD t.g.K x qual params body scope dvs [] (t.fa f) (t.fd f) ∧ FnScope N (t.ps f) scope ∧ N.length = d.n ∧ chkS ar N d.body (fun _ => true) scope body = true
theorem renv_start {g : Gw} {G : Gh} {H : Hp} {ws : List W} {vs : List V} (r : RVs g G H ws vs) (k : Nat) : REnv g G H (ws.map some ++ List.replicate k none) (vs.map some ++ List.replicate k none) := by
  have hl := RVs.length r
  refine ⟨by simp [hl], fun i w e => ?_⟩
  by_cases hi : i < ws.length
  · rw [List.getElem?_append_left (by simpa using hi), List.getElem?_map] at e
    obtain ⟨w', h1, h2⟩ := Option.map_eq_some_iff.mp e
    cases h2
    obtain ⟨v, q1, q2⟩ := r.get h1
    refine ⟨v, ?_, q2⟩
    rw [List.getElem?_append_left (by simp; omega), List.getElem?_map, q1]; rfl
  · rw [List.getElem?_append_right (by simp; omega)] at e
    rw [List.getElem?_replicate] at e
    split at e <;> cases e
theorem callD_len {T : Tab} {cl : Cl} {d : Def} {ws : List W} {lh : LH} (h : ws.length = d.np) : callD T cl d ws lh = (evS T cl d.body (ws.map some ++ List.replicate (d.n - d.np) none) lh).toR := by
  unfold callD
  have e : ws ++ d.dfl.drop (d.dfl.length - (d.np - ws.length)) = ws := by rw [h]; simp
  simp only [e]
  rw [if_pos h]
theorem callD_fill {T : Tab} {cl : Cl} {d : Def} {ws : List W} {lh : LH} (h1 : ws.length ≤ d.np) (h2 : d.np - ws.length ≤ d.dfl.length) : callD T cl d ws lh = callD T cl d (ws ++ d.dfl.drop (d.dfl.length - (d.np - ws.length))) lh := by
  have hl : (ws ++ d.dfl.drop (d.dfl.length - (d.np - ws.length))).length = d.np := by simp; omega
  rw [callD_len hl]
  unfold callD
  simp only []
  rw [if_pos hl]
/-- ALL DEFS KEEP WHAT THE EVALUATOR SAYS -/
theorem fns {t : Tp} {ar : Ar} (o : t.Ok) (ds : ∀ f d, t.D f = some d → DOk t ar f d)
    (arS : ∀ f np nd, ar f = some (np, nd) → ∃ d, t.D f = some d ∧ d.np = np ∧ d.dfl.length = nd ∧ t.mg (Str.ofString f) = some (.ref (t.fa f))) : ∀ n, Fns t ar (call t.T t.D n) n
  | 0 => ⟨fun f d hd => ⟨fun vs H Q E ⟨G, ws, lh, _, _, hl, _⟩ => hl.trans (o.np f d hd).symm, fun A outer s H args us vs Q E _ _ _ _ ⟨G, ws, lh, _, _, _, h⟩ => h.elim⟩, fun f d ws lh _ _ _ => rfl, arS⟩
  | n + 1 => by
    have F := fns o ds arS n
    refine ⟨fun f d hd => ?_, fun f d ws lh hd h1 h2 => ?_, arS⟩
    · obtain ⟨x, qual, params, body, scope, dvs, N, FD, S, hN, hc⟩ := (ds f d hd).ex
      refine FD.ok S (fun vs H Q E ⟨G, ws, lh, _, _, hl, _⟩ => hl.trans (o.np f d hd).symm) fun cdv A outer s H vs Q E hr h => ?_
      have c : Cok t (cxOf (CX t.P t.w) t.P t.w t.g.K t.mg t.base N qual scope (t.fa f) cdv A outer s H E) (fun cls dd _ H => E cls dd H) n N (fun _ => true) scope :=
        ⟨rfl, rfl, rfl, rfl, rfl, rfl, rfl, rfl, S.kind, S.nd, rfl, hr, takes_of rfl rfl rfl rfl, passes_of rfl⟩
      refine ⟨tS t (call t.T t.D n) (fun cls dd _ H => E cls dd H) d.body, (snd_sts c (fun e => snd_all o F _ e (Nat.lt_succ_self _)) _ d.body (Nat.lt_succ_self _)).2 body hc, ?_⟩
      obtain ⟨G, ws, lh, r, rp, hl, h⟩ := h
      have hw : ws.length = d.np := (RVs.length r).trans hl
      have e : call t.T t.D (n + 1) f ws lh = callD t.T (call t.T t.D n) d ws lh := by
        show (match t.D f with | some d => callD t.T (call t.T t.D n) d ws lh | none => .no) = _
        rw [hd]
      rw [e, callD_len hw] at h
      refine ⟨G, ws.map some ++ List.replicate (d.n - d.np) none, lh, ?_, rp, ?_⟩
      · show REnv t.g G H _ (vs.map some ++ List.replicate (N.length - vs.length) none)
        rw [hN, hl]
        exact renv_start r _
      · cases hq : evS t.T (call t.T t.D n) d.body (ws.map some ++ List.replicate (d.n - d.np) none) lh with
        | nx ls l2 => rw [hq] at h; exact fun G2 H2 σ2 e2 rp2 re2 => h G2 H2 .non e2 rp2 rv_non
        | ret w l2 => rw [hq] at h; exact h
        | ex c ns fs ls l2 => rw [hq] at h; exact fun G2 H2 σ2 cls dd e2 rp2 _ rx => h G2 H2 cls dd e2 rp2 rx
        | brk ls l2 => rw [hq] at h; exact h.elim
        | cont ls l2 => rw [hq] at h; exact h.elim
        | no => rw [hq] at h; exact h.elim
    · show (match t.D f with | some d => callD t.T (call t.T t.D n) d ws lh | none => .no) = (match t.D f with | some d => callD t.T (call t.T t.D n) d _ lh | none => .no)
      rw [hd]
      exact callD_fill h1 h2
end Mp
namespace Mp
open PySem PySem.Spec PyProof.Rows L2
/-! ### constants of the top -/
def vOf : Value → V
  | .bool b => .bl b
  | .int i _ => .int i
  | .str x _ => .str x
  | .ref a => .ref a
  | _ => .non
mutual
def wB (K : PySem.W.Frag) : W → Value → Bool
  | .non, .none => true
  | .bl b, .bool c => b == c
  | .int i, .int j _ => decide (i = j)
  | .str s, .str x _ => decide (x = Str.ofString s)
  | .tup ws, .ref a => (match K.lookup a with
    | some ⟨.type c, _, .seq its _, _⟩ => decide (c = "tuple") && (decide (its.size ≤ sizeLine) && wBs K ws its.toList)
    | _ => false)
  | .rd ws, .ref a => (match K.lookup a with
    | some ⟨.type c, none, .seq its _, _⟩ => decide (c = "list") && (decide (its.size ≤ sizeLine) && wBs K ws its.toList)
    | _ => false)
  | _, _ => false
def wBs (K : PySem.W.Frag) : List W → List Value → Bool
  | [], [] => true
  | w :: ws, u :: us => wB K w u && wBs K ws us
  | _, _ => false
end
mutual
theorem wB_ok {g : Gw} : ∀ {w : W} {u : Value}, wB g.K w u = true → RelV (vOf u) u ∧ ∀ G H, RV g G H w (vOf u)
  | .non, u, h => by
    cases u <;> first | (simp [wB] at h; done) | skip
    exact ⟨rfl, fun _ _ => rv_non⟩
  | .bl b, u, h => by
    cases u <;> first | (simp [wB] at h; done) | skip
    simp [wB] at h
    subst h
    exact ⟨rfl, fun _ _ => rv_bl⟩
  | .int i, u, h => by
    cases u <;> first | (simp [wB] at h; done) | skip
    simp [wB] at h
    subst h
    exact ⟨⟨_, rfl⟩, fun _ _ => rv_int⟩
  | .str s, u, h => by
    cases u <;> first | (simp [wB] at h; done) | skip
    simp [wB] at h
    subst h
    exact ⟨⟨_, rfl⟩, fun _ _ => rv_str⟩
  | .tup ws, u, h => by
    cases u <;> first | (simp [wB] at h; done) | skip
    rename_i a
    unfold wB at h
    split at h
    · rename_i c od its n sl hl
      obtain ⟨h1, h2⟩ := ba h
      obtain ⟨h3, h4⟩ := ba h2
      obtain ⟨q1, q2⟩ := wBs_ok h4
      refine ⟨rfl, fun G H => ?_⟩
      unfold RV
      exact ⟨a, _, rfl, .inr ⟨_, its, n, hl, congrArg Value.type (of_decide_eq_true h1), rfl, of_decide_eq_true h3, q1⟩, q2 G H⟩
    · cases h
  | .rd ws, u, h => by
    cases u <;> first | (simp [wB] at h; done) | skip
    rename_i a
    unfold wB at h
    split at h
    · rename_i c its n sl hl
      obtain ⟨h1, h2⟩ := ba h
      obtain ⟨h3, h4⟩ := ba h2
      obtain ⟨q1, q2⟩ := wBs_ok h4
      refine ⟨rfl, fun G H => ?_⟩
      unfold RV
      exact ⟨a, _, rfl, .inr ⟨_, its, n, hl, congrArg Value.type (of_decide_eq_true h1), rfl, rfl, of_decide_eq_true h3, q1⟩, q2 G H⟩
    · cases h
  | .fl _, u, h => by simp [wB] at h
  | .ref _, u, h => by simp [wB] at h
  | .obj _ _ _, u, h => by simp [wB] at h
  | .exc _ _ _, u, h => by simp [wB] at h
theorem wBs_ok {g : Gw} : ∀ {ws : List W} {us : List Value}, wBs g.K ws us = true → Vals (us.map vOf) us ∧ ∀ G H, RVs g G H ws (us.map vOf)
  | [], [], _ => ⟨.nil, fun _ _ => RVs.nil⟩
  | [], _ :: _, h => by simp [wBs] at h
  | _ :: _, [], h => by simp [wBs] at h
  | w :: ws, u :: us, h => by
    unfold wBs at h
    obtain ⟨h1, h2⟩ := ba h
    obtain ⟨a1, a2⟩ := wB_ok h1
    obtain ⟨b1, b2⟩ := wBs_ok h2
    exact ⟨.cons a1 b1, fun G H => RVs.cons (a2 G H) (b2 G H)⟩
end
def conB (K : PySem.W.Frag) (p : String × W) : Bool := match PySem.W.nsIn K mainGlobals (Str.ofString p.1) with
  | some (some u) => wB K p.2 u
  | _ => false
/-! ### a law's defs as data -/
structure Row where
  f : String
  d : Def
  N : List Str
  ps : List Str
  at_ : Str × Option Str
  nm : Str
  qual : Str
  st : Stmt
def dvOf : W → He.Dv
  | .bl b => .bl b
  | .int i => .int i
  | .str s => .str (Str.ofString s)
  | _ => .non
def Row.dvs (r : Row) (K : PySem.W.Frag) : List V := (r.d.dfl.map dvOf).map (He.Dv.v K)
def Row.dd (r : Row) : He.DefD := ⟨r.at_, r.nm, r.qual, defArgs r.st, defBody r.st, defScope r.st, r.d.dfl.map dvOf, []⟩
structure RowOk (ar : Ar) (r : Row) : Prop where
  chk : chkS ar r.N r.d.body (fun _ => true) (defScope r.st) (defBody r.st) = true
  sc : FnScope r.N r.ps (defScope r.st)
  np : r.ps.length = r.d.np
  n : r.N.length = r.d.n
  flat : r.d.dfl.all flatW = true
  bi : ∀ (K : PySem.W.Frag) (f : Addr) (fd : FuncData), FunD K r.nm r.qual (defArgs r.st) (defBody r.st) (defScope r.st) (r.dvs K) [] f fd → ∀ n, n ≤ r.d.np → r.d.np - n ≤ r.d.dfl.length → ∃ ds, Vals ((r.dvs K).drop (r.d.dfl.length - (r.d.np - n))) ds ∧ Binds K fd r.ps ds
def rowOf (rows : List Row) (f : String) : Option Row := rows.find? fun r => r.f == f
def dOf (rows : List Row) (f : String) : Option Def := (rowOf rows f).map (·.d)
def arOf (rows : List Row) (f : String) : Option (Nat × Nat) := (rowOf rows f).bind fun r => if r.at_.2.isNone then some (r.d.np, r.d.dfl.length) else none
theorem rowOf_spec {rows : List Row} {f : String} {r : Row} (h : rowOf rows f = some r) : r ∈ rows ∧ r.f = f := by
  unfold rowOf at h
  exact ⟨List.mem_of_find?_eq_some h, by simpa using List.find?_some h⟩
theorem dv_flat {g : Gw} : ∀ {ws : List W}, ws.all flatW = true → ∀ G H, RVs g G H ws ((ws.map dvOf).map (He.Dv.v g.K))
  | [], _, _, _ => RVs.nil
  | w :: ws, h, G, H => by
    rw [List.all_cons] at h
    obtain ⟨h1, h2⟩ := ba h
    refine RVs.cons ?_ (dv_flat h2 G H)
    cases w <;> first | (cases h1; done) | skip
    · exact rv_non
    · exact rv_bl
    · exact rv_int
    · exact rv_str
def lawFa (rows : List Row) : List He.Fa := (bnames.map fun x => He.Fa.free (Str.ofString x)) ++ (rows.filter fun r => r.at_.2.isNone).map fun r => He.Fa.glo (Str.ofString r.f)
def lawEx (cs : List (String × W)) (K : PySem.W.Frag) : Bool := cs.all (conB K)
def glOf (cs : List (String × W)) (x : String) : Option W := (cs.find? fun p => p.1 == x).map (·.2)
section
variable {rows : List Row} {cs : List (String × W)}
/-- what the top's end gives of a law -/
theorem law_facts {T : Tab} {P : Program} {w : World} {K : PySem.W.Frag} {h : Heap} {mg : Str → Option Value} (hT : T.gl = glOf cs) (hF : T.fld = fun _ => []) (ok : ∀ r ∈ rows, RowOk (arOf rows) r) (at0 : ∀ r ∈ rows, r.at_.2 = none → r.at_.1 = Str.ofString r.f)
    (X : K.In h) (G : h.Ns mainGlobals mg) (c : He.SaysX (lawFa rows) (rows.map Row.dd) [] [] (lawEx cs) w h K) {r : Row} (hr : rowOf rows "law" = some r) (hat : r.at_.2 = none) (hp : r.d.np = 1) (hd : r.d.dfl = []) {x : Str} (hps : r.ps = [x])
    (bA : ∀ (K : PySem.W.Frag) (f : Addr) (fd : FuncData), FunD K r.nm r.qual (defArgs r.st) (defBody r.st) (defScope r.st) [] [] f fd → ∀ (s : Shared) (v : Value), BindsTo s fd ⟨[v], []⟩ [(x, v)]) (n : Nat) :
    ∃ fd : FuncData, mg (Str.ofString "law") = some (.ref (He.fAd K r.at_)) ∧ (∀ (s : Shared) (v : Value), BindsTo s fd ⟨[v], []⟩ [(x, v)]) ∧ ∀ base : Heap, FnOk P w K mg base (CX P w) n (He.fAd K r.at_) fd [x] (spM ⟨K, fun c => He.ga K (Str.ofString c)⟩ (call T (dOf rows) n) "law" 1) := by
  have cd := c.t.d
  have fdx : ∀ f : String, ∃ fd : FuncData, ∀ r, rowOf rows f = some r → FunD K r.nm r.qual (defArgs r.st) (defBody r.st) (defScope r.st) (r.dvs K) [] (He.fAd K r.at_) fd := fun f => by
    cases e : rowOf rows f with
    | none => exact ⟨default, fun r h => by cases h⟩
    | some r =>
      obtain ⟨fd, F⟩ := cd.defs (d := r.dd) (List.mem_map.mpr ⟨r, (rowOf_spec e).1, rfl⟩)
      exact ⟨fd, fun r' h => by cases h; exact F⟩
  have ⟨fd, hfd⟩ := Classical.axiomOfChoice fdx
  have hglo : ∀ r ∈ rows, r.at_.2 = none → mg (Str.ofString r.f) = some (.ref (He.fAd K r.at_)) := fun r hr hn => by
    have hm : He.Fa.glo (Str.ofString r.f) ∈ lawFa rows := List.mem_append.mpr (.inr (List.mem_map.mpr ⟨r, List.mem_filter.mpr ⟨hr, by rw [hn]; rfl⟩, rfl⟩))
    have e : He.fAd K r.at_ = He.ga K (Str.ofString r.f) := by
      unfold He.fAd
      rw [hn, at0 r hr hn]
    rw [e]
    exact He.glo_ok X G (cd.facts hm)
  have main : ∀ base : Heap, ∃ t : Tp, t.P = P ∧ t.w = w ∧ t.g = ⟨K, fun c => He.ga K (Str.ofString c)⟩ ∧ t.mg = mg ∧ t.base = base ∧ t.T = T ∧ t.D = dOf rows ∧ t.fa "law" = He.fAd K r.at_ ∧ t.fd = fd ∧ t.ps "law" = [x] ∧ Fns t (arOf rows) (call t.T t.D n) n := fun base => by
    let t : Tp := { P := P, w := w, mg := mg, base := base, g := ⟨K, fun c => He.ga K (Str.ofString c)⟩, T := T, D := dOf rows, fa := fun f => match rowOf rows f with | some r => He.fAd K r.at_ | none => 0, fd := fd, ps := fun f => match rowOf rows f with | some r => r.ps | none => [] }
    have dsp : ∀ f d, t.D f = some d → ∃ r, rowOf rows f = some r ∧ r.d = d ∧ t.fa f = He.fAd K r.at_ ∧ t.ps f = r.ps := fun f d h => by
      obtain ⟨r, h1, h2⟩ := Option.map_eq_some_iff.mp (show (rowOf rows f).map (·.d) = some d from h)
      refine ⟨r, h1, h2, ?_, ?_⟩
      · show (match rowOf rows f with | some r => He.fAd K r.at_ | none => 0) = _
        rw [h1]
      · show (match rowOf rows f with | some r => r.ps | none => []) = _
        rw [h1]
    have o : t.Ok := by
      refine ⟨fun f d hd _ => ?_, fun f d hd => ?_, fun f d n hd h1 h2 => ?_, fun y hy => ?_, fun c f hf => ?_, fun y w' hy => ?_⟩
      · obtain ⟨r, h1, h2, h3, h4⟩ := dsp f d hd
        rw [h3]
        exact (hfd f r h1).kp
      · obtain ⟨r, h1, h2, h3, h4⟩ := dsp f d hd
        rw [h4, ← h2]
        exact (ok r (rowOf_spec h1).1).np
      · obtain ⟨r, q1, rfl, q3, q4⟩ := dsp f d hd
        have ro := ok r (rowOf_spec q1).1
        obtain ⟨ds, a1, a2⟩ := ro.bi K _ _ (hfd f r q1) n h1 h2
        refine ⟨ds, _, ?_, fun G H => (dv_flat (g := t.g) ro.flat G H).drop _, a1, by rw [q4]; exact a2⟩
        show (((r.d.dfl.map dvOf).map (He.Dv.v K)).drop (r.d.dfl.length - (r.d.np - n))).length = _
        rw [List.length_drop, List.length_map, List.length_map]
        omega
      · exact He.free_ok X G (cd.facts (List.mem_append.mpr (.inl (List.mem_map.mpr ⟨y, hy, rfl⟩))))
      · have : t.T.fld = fun _ => [] := hF
        rw [this] at hf
        cases hf
      · have : t.T.gl = glOf cs := hT
        rw [this] at hy
        obtain ⟨p, p1, p2⟩ := Option.map_eq_some_iff.mp (show (cs.find? fun p => p.1 == y).map (·.2) = some w' from hy)
        have p3 : p.1 = y := by simpa using List.find?_some p1
        have p4 := List.all_eq_true.mp (show cs.all (conB K) = true from c.more) p (List.mem_of_find?_eq_some p1)
        unfold conB at p4
        split at p4
        · rename_i u hu
          obtain ⟨k1, k2⟩ := wB_ok (g := t.g) p4
          refine ⟨vOf u, u, ?_, k1, by rw [← p2]; exact k2⟩
          rw [← p3]
          exact PySem.W.mg_of X G hu
        · cases p4
    refine ⟨t, rfl, rfl, rfl, rfl, rfl, rfl, rfl, ?_, rfl, ?_, fns o (fun f d hd => ?_) (fun f np nd ha => ?_) n⟩
    · show (match rowOf rows "law" with | some r => He.fAd K r.at_ | none => 0) = _
      rw [hr]
    · show (match rowOf rows "law" with | some r => r.ps | none => []) = _
      rw [hr]
      exact hps
    · obtain ⟨r, q1, rfl, q3, q4⟩ := dsp f d hd
      have ro := ok r (rowOf_spec q1).1
      refine ⟨r.nm, r.qual, defArgs r.st, defBody r.st, defScope r.st, r.dvs K, r.N, ?_, by rw [q4]; exact ro.sc, ro.n, ro.chk⟩
      rw [q3]
      exact hfd f r q1
    · unfold arOf at ha
      obtain ⟨r, q1, q2⟩ := Option.bind_eq_some_iff.mp ha
      split at q2
      · rename_i hn
        have hn' : r.at_.2 = none := by simpa using hn
        simp only [Option.some.injEq, Prod.mk.injEq] at q2
        refine ⟨r.d, by show (rowOf rows f).map (·.d) = _; rw [q1]; rfl, q2.1, q2.2, ?_⟩
        have := hglo r (rowOf_spec q1).1 hn'
        rw [(rowOf_spec q1).2] at this
        show mg (Str.ofString f) = some (.ref (match rowOf rows f with | some r => He.fAd K r.at_ | none => 0))
        rw [q1]
        exact this
      · cases q2
  refine ⟨fd "law", ?_, fun s v => ?_, fun base => ?_⟩
  · have := hglo r (rowOf_spec hr).1 hat
    rwa [(rowOf_spec hr).2] at this
  · have F := hfd "law" r hr
    have e : r.dvs K = [] := by
      unfold Row.dvs
      rw [hd]; rfl
    rw [e] at F
    exact bA K _ _ F s v
  · obtain ⟨t, rfl, rfl, e3, rfl, rfl, rfl, e7, e8, e9, e10, F⟩ := main base
    have hdd : t.D "law" = some r.d := by
      rw [e7]
      show (rowOf rows "law").map (·.d) = _
      rw [hr]; rfl
    have := F.ok "law" r.d hdd
    rw [e8, e9, e10, e3, hp, e7] at this
    exact this
/-- the law is asked at its script -/
theorem law_sp {g : Gw} {cl : Cl} {H : Hp} {a : Addr} {ns : List Int} {lh : LH} (hl : cl "law" [.rd (ns.map .int)] [] = .ok (.bl true) lh) (hO : Only H) (hS : SqL g.K H a (ns.map V.int)) : spM g cl "law" 1 [.ref a] H (fun v _ => v = .bl true) fun _ _ _ => False := by
  have hR : SqR g.K H a (ns.map V.int) := by
    rcases hS with (h | h) | h
    · rcases hO a with z | ⟨o, xs, z⟩
      · rw [z] at h; cases h
      · rw [z] at h; cases h
    · exact .inl h
    · exact .inr h
  refine ⟨⟨[], fun _ => False, fun _ => False⟩, [.rd (ns.map .int)], [], RVs.cons ?_ RVs.nil, ?_, rfl, ?_⟩
  · unfold RV
    exact ⟨a, _, rfl, hR, RVs.of_ints ns⟩
  · exact ⟨rfl, List.nodup_nil, fun i o e => by simp at e, fun p h => h.elim, fun p h => h.elim, fun i o p e => by simp at e, fun p h => by simp at h, fun p h => h.elim, fun p h => by simp at h⟩
  · rw [hl]
    exact fun G' H' b _ _ r => r.bl_eq
end
end Mp
namespace Mp
open PySem PySem.Spec PyProof.Rows L2
/-- an exception that nobody wished for has not left -/
def CXe : CXT := fun _ _ _ E _ _ => ∃ c d H, E c d H
theorem FnOk.weak {P : Program} {w : World} {K : PySem.W.Frag} {mg : Str → Option Value} {base : Heap} {k : Nat} {f : Addr} {fd : FuncData} {ps : List Str} {sp : Sp} (F : FnOk P w K mg base (CX P w) k f fd ps sp) : FnOk P w K mg base CXe k f fd ps sp :=
  ⟨F.len, fun A outer s H args us vs Q E hr he hb hv hs => codeAny_mono (F.run A outer s H args us vs Q E hr he hb hv hs) fun r s' h => by
    cases r with
    | ok fl => cases fl <;> exact h
    | error e =>
      obtain ⟨a, B, H', cls, d, _, _, _, _, _, _, _, q⟩ := h
      exact ⟨cls, d, H', q⟩⟩
end Mp
namespace Mp
/-! ### reasoning about the evaluator -/
def Ok {α : Type} (r : R α) (P : α → LH → Prop) : Prop := match r with
  | .ok a h => P a h
  | _ => False
def Sk (r : RS) (nx : Env → LH → Prop) (rt : W → LH → Prop) (ct bk : Env → LH → Prop) : Prop := match r with
  | .nx σ h => nx σ h
  | .ret w h => rt w h
  | .cont σ h => ct σ h
  | .brk σ h => bk σ h
  | _ => False
section
variable {α β : Type} {P Q : α → LH → Prop}
theorem Ok_ok {a : α} {h : LH} : Ok (.ok a h) P = P a h := rfl
theorem Ok_bind {r : R α} {f : α → LH → R β} {P : β → LH → Prop} : Ok (r.bind f) P = Ok r fun a h => Ok (f a h) P := by cases r <;> rfl
theorem Ok.mono {r : R α} (h : Ok r P) (i : ∀ a l, P a l → Q a l) : Ok r Q := by
  cases r with
  | ok a l => exact i a l h
  | ex => exact h
  | no => exact h
theorem Ok.eq {r : R α} {v : α} {l : LH} (h : Ok r fun w l' => w = v ∧ l' = l) : r = .ok v l := by
  cases r with
  | ok a l' => obtain ⟨rfl, rfl⟩ := h; rfl
  | ex => exact h.elim
  | no => exact h.elim
theorem Ok.get {r : R α} (h : Ok r P) : ∃ a l, r = .ok a l ∧ P a l := by
  cases r with
  | ok a l => exact ⟨a, l, rfl, h⟩
  | ex => exact h.elim
  | no => exact h.elim
end
section
variable {nx ct bk : Env → LH → Prop} {rt : W → LH → Prop}
theorem Sk_nx {σ : Env} {h : LH} : Sk (.nx σ h) nx rt ct bk = nx σ h := rfl
theorem Sk_ret {w : W} {h : LH} : Sk (.ret w h) nx rt ct bk = rt w h := rfl
theorem Sk_cont {σ : Env} {h : LH} : Sk (.cont σ h) nx rt ct bk = ct σ h := rfl
theorem Sk_brk {σ : Env} {h : LH} : Sk (.brk σ h) nx rt ct bk = bk σ h := rfl
theorem Sk_toS {r : R W} {σ : Env} {f : W → LH → RS} : Sk (r.toS σ f) nx rt ct bk = Ok r fun a h => Sk (f a h) nx rt ct bk := by cases r <;> rfl
theorem Sk_seq {T : Tab} {cl : Cl} {s r : S} {σ : Env} {h : LH} : Sk (evS T cl (.seq s r) σ h) nx rt ct bk = Sk (evS T cl s σ h) (fun σ1 h1 => Sk (evS T cl r σ1 h1) nx rt ct bk) rt ct bk := by
  simp only [evS]
  cases evS T cl s σ h <;> rfl
theorem Sk.mono {r : RS} {nx' ct' bk' : Env → LH → Prop} {rt' : W → LH → Prop} (h : Sk r nx rt ct bk) (h1 : ∀ σ l, nx σ l → nx' σ l) (h2 : ∀ w l, rt w l → rt' w l) (h3 : ∀ σ l, ct σ l → ct' σ l) (h4 : ∀ σ l, bk σ l → bk' σ l) : Sk r nx' rt' ct' bk' := by
  cases r with
  | nx σ l => exact h1 _ _ h
  | ret w l => exact h2 _ _ h
  | cont σ l => exact h3 _ _ h
  | brk σ l => exact h4 _ _ h
  | ex => exact h
  | no => exact h
end
theorem Ok_call {T : Tab} {D : String → Option Def} {n : Nat} {f : String} {d : Def} {ws : List W} {h : LH} {P : W → LH → Prop} (hd : D f = some d) (hl : ws.length = d.np) :
    Ok (call T D (n + 1) f ws h) P = Sk (evS T (call T D n) d.body (ws.map some ++ List.replicate (d.n - d.np) none) h) (fun _ l => P .non l) P (fun _ _ => False) (fun _ _ => False) := by
  show Ok (match D f with | some d => callD T (call T D n) d ws h | none => .no) P = _
  rw [hd]
  show Ok (callD T (call T D n) d ws h) P = _
  rw [callD_len hl]
  cases evS T (call T D n) d.body (ws.map some ++ List.replicate (d.n - d.np) none) h <;> rfl
/-- a call with defaults -/
theorem call_fill {T : Tab} {D : String → Option Def} {n : Nat} {f : String} {d : Def} {ws us : List W} {h : LH} (hd : D f = some d) (h1 : ws.length ≤ d.np) (h2 : d.np - ws.length ≤ d.dfl.length) (e : ws ++ d.dfl.drop (d.dfl.length - (d.np - ws.length)) = us) : call T D n f ws h = call T D n f us h := by
  cases n with
  | zero => rfl
  | succ n =>
    show (match D f with | some d => callD T (call T D n) d ws h | none => .no) = (match D f with | some d => callD T (call T D n) d us h | none => .no)
    rw [hd]
    show callD T (call T D n) d ws h = callD T (call T D n) d us h
    rw [callD_fill h1 h2, e]
/-! ### loops -/
theorem forL_ok {body : Env → LH → RS} {tg : Tg} {g : Gd} {nx ct bk : Env → LH → Prop} {rt : W → LH → Prop} (I : List W → Env → LH → Prop) (h0 : ∀ σ h, I [] σ h → gOk g h = true ∧ nx σ h)
    (hs : ∀ w ws σ h, I (w :: ws) σ h → gOk g h = true ∧ ∃ σ1, bindT tg w σ = some σ1 ∧ Sk (body σ1 h) (I ws) rt (I ws) nx) : ∀ {ws : List W} {σ : Env} {h : LH}, I ws σ h → Sk (forL body tg g ws σ h) nx rt ct bk
  | [], σ, h, i => by
    unfold forL
    obtain ⟨h1, h2⟩ := h0 σ h i
    rw [if_pos h1]
    exact h2
  | w :: ws, σ, h, i => by
    obtain ⟨h1, σ1, h2, h3⟩ := hs w ws σ h i
    unfold forL
    rw [if_pos h1, h2]
    dsimp only
    cases hb : body σ1 h with
    | nx σ2 l2 => rw [hb] at h3; exact forL_ok I h0 hs h3
    | cont σ2 l2 => rw [hb] at h3; exact forL_ok I h0 hs h3
    | brk σ2 l2 => rw [hb] at h3; exact h3
    | ret w l2 => rw [hb] at h3; exact h3
    | ex => rw [hb] at h3; exact h3
    | no => rw [hb] at h3; exact h3
theorem compL_ok {f c : Env → LH → R W} {tg : Tg} {σ : Env} {g : Gd} (I : List W → List W → LH → Prop) (hg : ∀ ws ys h, I ws ys h → gOk g h = true)
    (hs : ∀ w ws ys h, I (w :: ws) ys h → ∃ σ1, bindT tg w σ = some σ1 ∧ Ok (c σ1 h) fun b h1 => (b = .bl true ∧ Ok (f σ1 h1) fun y h2 => I ws (ys ++ [y]) h2) ∨ (b = .bl false ∧ I ws ys h1)) :
    ∀ {ws ys : List W} {h : LH}, I ws ys h → Ok (compL f c tg σ g ws h) fun zs h' => I [] (ys ++ zs) h'
  | [], ys, h, i => by
    unfold compL
    rw [if_pos (hg _ _ _ i)]
    show I [] (ys ++ []) h
    rwa [List.append_nil]
  | w :: ws, ys, h, i => by
    obtain ⟨σ1, h2, h3⟩ := hs w ws ys h i
    obtain ⟨b, l1, e1, h4⟩ := h3.get
    unfold compL
    rw [if_pos (hg _ _ _ i), h2]
    dsimp only
    rw [e1]
    rcases h4 with ⟨rfl, h5⟩ | ⟨rfl, h5⟩
    · obtain ⟨y, l2, e2, h6⟩ := h5.get
      show Ok ((f σ1 l1).noex.bind fun y h2 => (compL f c tg σ g ws h2).bind fun ys h3 => .ok (y :: ys) h3) _
      rw [e2]
      show Ok ((compL f c tg σ g ws l2).bind fun ys h3 => .ok (y :: ys) h3) _
      rw [Ok_bind]
      refine (compL_ok I hg hs h6).mono fun zs l h7 => ?_
      rw [Ok_ok]
      rwa [List.append_assoc] at h7
    · exact compL_ok I hg hs h5
/-- a comprehension that only looks -/
theorem compL_map {f c : Env → LH → R W} {tg : Tg} {σ : Env} {g : Gd} {h : LH} (F : W → W) (hg : gOk g h = true) : ∀ {ws : List W}, (∀ w ∈ ws, ∃ σ1, bindT tg w σ = some σ1 ∧ c σ1 h = .ok (.bl true) h ∧ f σ1 h = .ok (F w) h) → compL f c tg σ g ws h = .ok (ws.map F) h
  | [], _ => by unfold compL; rw [if_pos hg]; rfl
  | w :: ws, hs => by
    obtain ⟨σ1, h1, h2, h3⟩ := hs w (List.mem_cons_self ..)
    unfold compL
    rw [if_pos hg, h1]
    dsimp only
    rw [h2]
    show ((f σ1 h).noex.bind fun y h2 => (compL f c tg σ g ws h2).bind fun ys h3 => .ok (y :: ys) h3) = _
    rw [h3]
    show ((compL f c tg σ g ws h).bind fun ys h3 => .ok (F w :: ys) h3) = _
    rw [compL_map F hg fun w hw => hs w (List.mem_cons_of_mem _ hw)]
    rfl
/-- a comprehension that only looks, with a test -/
theorem compL_filter {f c : Env → LH → R W} {tg : Tg} {σ : Env} {g : Gd} {h : LH} (F : W → W) (p : W → Bool) (hg : gOk g h = true) : ∀ {ws : List W}, (∀ w ∈ ws, ∃ σ1, bindT tg w σ = some σ1 ∧ c σ1 h = .ok (.bl (p w)) h ∧ (p w = true → f σ1 h = .ok (F w) h)) → compL f c tg σ g ws h = .ok ((ws.filter p).map F) h
  | [], _ => by unfold compL; rw [if_pos hg]; rfl
  | w :: ws, hs => by
    obtain ⟨σ1, h1, h2, h3⟩ := hs w (List.mem_cons_self ..)
    have ih := compL_filter F p hg fun w hw => hs w (List.mem_cons_of_mem _ hw)
    unfold compL
    rw [if_pos hg, h1]
    dsimp only
    rw [h2]
    cases hp : p w with
    | true =>
      show ((f σ1 h).noex.bind fun y h2 => (compL f c tg σ g ws h2).bind fun ys h3 => .ok (y :: ys) h3) = _
      rw [h3 hp]
      show ((compL f c tg σ g ws h).bind fun ys h3 => .ok (F w :: ys) h3) = _
      rw [ih, List.filter_cons_of_pos hp]
      rfl
    | false =>
      show compL f c tg σ g ws h = _
      rw [ih, List.filter_cons_of_neg (by simp [hp])]
/-- a comprehension that draws -/
theorem compL_draw {f c : Env → LH → R W} {tg : Tg} {σ : Env} {g : Gd} (J : LH → Prop) (Q : W → Prop) (hg : ∀ h, J h → gOk g h = true) : ∀ {ws : List W} {h : LH}, (∀ w ∈ ws, ∀ h, J h → ∃ σ1, bindT tg w σ = some σ1 ∧ c σ1 h = .ok (.bl true) h ∧ Ok (f σ1 h) fun y h' => Q y ∧ J h') → J h → Ok (compL f c tg σ g ws h) fun ys h' => ys.length = ws.length ∧ (∀ y ∈ ys, Q y) ∧ J h'
  | [], h, _, j => by
    unfold compL
    rw [if_pos (hg h j)]
    exact ⟨rfl, fun y hy => (by cases hy), j⟩
  | w :: ws, h, hs, j => by
    obtain ⟨σ1, h1, h2, h3⟩ := hs w (List.mem_cons_self ..) h j
    obtain ⟨y, l, e, q, j2⟩ := h3.get
    unfold compL
    rw [if_pos (hg h j), h1]
    dsimp only
    rw [h2]
    show Ok ((f σ1 h).noex.bind fun y h2 => (compL f c tg σ g ws h2).bind fun ys h3 => .ok (y :: ys) h3) _
    rw [e]
    show Ok ((compL f c tg σ g ws l).bind fun ys h3 => .ok (y :: ys) h3) _
    rw [Ok_bind]
    refine (compL_draw J Q hg (fun w hw => hs w (List.mem_cons_of_mem _ hw)) j2).mono fun ys l2 ⟨a1, a2, a3⟩ => ?_
    rw [Ok_ok]
    refine ⟨congrArg Nat.succ a1, fun z hz => ?_, a3⟩
    rcases List.mem_cons.mp hz with rfl | hz
    · exact q
    · exact a2 z hz
end Mp
namespace Mp
/-- a proof that simp writes down (the kernel is not left to find it) -/
theorem nrfl {α : Sort _} {a b : α} (h : a = b) : a = b := by cases h; exact Eq.refl _
/-! ### the rules that run the evaluator in a goal -/
section
variable {T : Tab} {cl : Cl} {σ : Env} {h : LH} {P : W → LH → Prop} {a b c e es : E}
@[simp ↓] theorem okOk {α : Type} {a : α} {P : α → LH → Prop} : Ok (.ok a h) P = P a h := nrfl rfl
@[simp] theorem items_tup {xs : List W} : items (.tup xs) = xs := nrfl rfl
@[simp ↓] theorem ok_var {i : Nat} : Ok (evE T cl (.var i) σ h) P = ∃ w, σ[i]? = some (some w) ∧ P w h := by
  simp only [evE]
  split
  · rename_i w hw; simp [hw, Ok]
  · rename_i hw
    simp only [Ok, eq_iff_iff, false_iff]
    rintro ⟨w, h1, _⟩
    exact hw w h1
@[simp ↓] theorem ok_cst {w : W} : Ok (evE T cl (.cst w) σ h) P = P w h := by simp only [evE, Ok]
@[simp ↓] theorem ok_glo {x : String} : Ok (evE T cl (.glo x) σ h) P = ∃ w, T.gl x = some w ∧ P w h := by
  simp only [evE]
  cases T.gl x <;> simp [Ok]
@[simp ↓] theorem ok_nil : Ok (evE T cl .nil σ h) P = P (.tup []) h := by simp only [evE, Ok]
@[simp ↓] theorem ok_cons : Ok (evE T cl (.cons e es) σ h) P = Ok (evE T cl e σ h) fun w h1 => Ok (evE T cl es σ h1) fun ws h2 => P (.tup (w :: items ws)) h2 := by simp only [evE, Ok_bind, Ok_ok]
@[simp ↓] theorem ok_tup : Ok (evE T cl (.tup es) σ h) P = Ok (evE T cl es σ h) fun ws h1 => P (.tup (items ws)) h1 := by simp only [evE, Ok_bind, Ok_ok]
@[simp ↓] theorem ok_lst : Ok (evE T cl (.lst es) σ h) P = Ok (evE T cl es σ h) fun ws h1 => P (.fl (items ws)) h1 := by simp only [evE, Ok_bind, Ok_ok]
@[simp ↓] theorem ok_lstm : Ok (evE T cl (.lstm es) σ h) P = Ok (evE T cl es σ h) fun ws h1 => P (.ref h1.length) (h1 ++ [.lst (items ws)]) := by simp only [evE, Ok_bind, Ok_ok]
@[simp ↓] theorem ok_bin {o : BOp} : Ok (evE T cl (.bin o a b) σ h) P = Ok (evE T cl a σ h) fun x h1 => Ok (evE T cl b σ h1) fun y h2 => Ok (evB o x y h2) P := by simp only [evE, Ok_bind]
@[simp ↓] theorem ok_un {o : UOp} : Ok (evE T cl (.un o a) σ h) P = Ok (evE T cl a σ h) fun x h1 => Ok (evU o x h1) P := by simp only [evE, Ok_bind]
@[simp ↓] theorem ok_cmp {o : COp} : Ok (evE T cl (.cmp o a b) σ h) P = Ok (evE T cl a σ h) fun x h1 => Ok (evE T cl b σ h1) fun y h2 => Ok (evC o x y h2) P := by simp only [evE, Ok_bind]
theorem ok_if {α : Type} {x : W} {A B : R α} {P : α → LH → Prop} : Ok (match x with | .bl true => A | .bl false => B | _ => .no) P = ∃ b, x = .bl b ∧ if b = true then Ok A P else Ok B P := by
  cases x <;> simp [Ok]
  rename_i b
  cases b <;> simp [Ok]
theorem ok_match {A B : W → LH → R W} {r : R W} : (Ok r fun x h1 => Ok (match x with | .bl true => A x h1 | .bl false => B x h1 | _ => .no) P) = Ok r fun x h1 => ∃ b, x = .bl b ∧ if b = true then Ok (A x h1) P else Ok (B x h1) P := by
  congr 1
  funext x h1
  cases x <;> simp [Ok]
  rename_i b
  cases b <;> simp [Ok]
theorem ok_guard {α : Type} {q : Prop} [Decidable q] {r : R α} {P : α → LH → Prop} : Ok (if q then r else .no) P = (q ∧ Ok r P) := by
  split <;> simp [*, Ok]
@[simp ↓] theorem ok_cmp2 {o p : COp} : Ok (evE T cl (.cmp2 o p a b c) σ h) P = Ok (evE T cl a σ h) fun x h1 => Ok (evE T cl b σ h1) fun y h2 => Ok (evC o x y h2) fun k h3 => ∃ q, k = .bl q ∧ if q = true then Ok (evE T cl c σ h3) (fun z h4 => Ok (evC p y z h4) P) else P (.bl false) h3 := by
  simp only [evE, Ok_bind]
  congr 1; funext x h1; congr 1; funext y h2; congr 1; funext k h3
  cases k <;> simp [Ok]
  rename_i q
  cases q with
  | true => simp only [if_true]; exact Iff.of_eq Ok_bind
  | false => simp
@[simp ↓] theorem ok_and : Ok (evE T cl (.and a b) σ h) P = Ok (evE T cl a σ h) fun x h1 => ∃ q, x = .bl q ∧ if q = true then Ok (evE T cl b σ h1) P else P (.bl false) h1 := by
  simp only [evE, Ok_bind]
  congr 1; funext x h1
  cases x <;> simp [Ok]
  rename_i q
  cases q <;> simp [Ok]
@[simp ↓] theorem ok_or : Ok (evE T cl (.or a b) σ h) P = Ok (evE T cl a σ h) fun x h1 => ∃ q, x = .bl q ∧ if q = true then P (.bl true) h1 else Ok (evE T cl b σ h1) P := by
  simp only [evE, Ok_bind]
  congr 1; funext x h1
  cases x <;> simp [Ok]
  rename_i q
  cases q <;> simp [Ok]
@[simp ↓] theorem ok_tand : Ok (evE T cl (.tand a b) σ h) P = Ok (evE T cl a σ h) fun x h1 => ∃ q, x = .bl q ∧ if q = true then Ok (evE T cl b σ h1) P else P (.bl false) h1 := by
  simp only [evE, Ok_bind]
  congr 1; funext x h1
  cases x <;> simp [Ok]
  rename_i q
  cases q <;> simp [Ok]
@[simp ↓] theorem ok_tor : Ok (evE T cl (.tor a b) σ h) P = Ok (evE T cl a σ h) fun x h1 => ∃ q, x = .bl q ∧ if q = true then P (.bl true) h1 else Ok (evE T cl b σ h1) P := by
  simp only [evE, Ok_bind]
  congr 1; funext x h1
  cases x <;> simp [Ok]
  rename_i q
  cases q <;> simp [Ok]
@[simp ↓] theorem ok_tnot : Ok (evE T cl (.tnot a) σ h) P = Ok (evE T cl a σ h) fun x h1 => ∃ q, x = .bl q ∧ P (.bl (!q)) h1 := by
  simp only [evE, Ok_bind]
  congr 1; funext x h1
  cases x <;> simp [Ok]
theorem ok_opt {α : Type} {x : Option α} {f : α → W} {l : LH} : Ok (match x with | some b => .ok (f b) l | none => .no) P = ∃ b, x = some b ∧ P (f b) l := by cases x <;> simp [Ok]
@[simp ↓] theorem ok_not : Ok (evE T cl (.not a) σ h) P = Ok (evE T cl a σ h) fun x h1 => ∃ q, truW h1 x = some q ∧ P (.bl (!q)) h1 := by
  simp only [evE, Ok_bind]
  congr 1; funext x h1
  cases truW h1 x <;> simp [Ok]
@[simp ↓] theorem ok_tE : Ok (evE T cl (.tE a) σ h) P = Ok (evE T cl a σ h) fun x h1 => ∃ q, truW h1 x = some q ∧ P (.bl q) h1 := by
  simp only [evE, Ok_bind]
  congr 1; funext x h1
  cases truW h1 x <;> simp [Ok]
@[simp ↓] theorem ok_ite : Ok (evE T cl (.ite c a b) σ h) P = Ok (evE T cl c σ h) fun x h1 => ∃ q, x = .bl q ∧ if q = true then Ok (evE T cl a σ h1) P else Ok (evE T cl b σ h1) P := by
  simp only [evE, Ok_bind]
  congr 1; funext x h1
  cases x <;> simp [Ok]
  rename_i q
  cases q <;> simp [Ok]
@[simp ↓] theorem ok_call {f : String} : Ok (evE T cl (.call f es) σ h) P = Ok (evE T cl es σ h) fun ws h1 => Ok (cl f (items ws) h1) P := by simp only [evE, Ok_bind]
@[simp ↓] theorem ok_bf {f : Bf} : Ok (evE T cl (.bf f es) σ h) P = Ok (evE T cl es σ h) fun ws h1 => Ok (evF f (items ws) h1) P := by simp only [evE, Ok_bind]
@[simp ↓] theorem ok_isi {t : Ty} : Ok (evE T cl (.isi a t) σ h) P = Ok (evE T cl a σ h) fun x h1 => ∃ q, tyOk h1 x t = some q ∧ P (.bl q) h1 := by
  simp only [evE, Ok_bind]
  congr 1; funext x h1
  cases tyOk h1 x t <;> simp [Ok]
@[simp ↓] theorem ok_isiT {ts : List Ty} : Ok (evE T cl (.isiT a ts) σ h) P = Ok (evE T cl a σ h) fun x h1 => ∃ q, tyAny h1 x ts = some q ∧ P (.bl q) h1 := by
  simp only [evE, Ok_bind]
  congr 1; funext x h1
  cases tyAny h1 x ts <;> simp [Ok]
@[simp ↓] theorem ok_lm {m : Lm} : Ok (evE T cl (.lm a m es) σ h) P = Ok (evE T cl a σ h) fun x h1 => isLst h1 x = true ∧ Ok (evE T cl es σ h1) fun ws h2 => Ok (evLm m x (items ws) h2) P := by
  simp only [evE, Ok_bind]
  congr 1; funext x h1
  split
  · rename_i q; simp [q, Ok_bind]
  · rename_i q; simp [q, Ok]
@[simp ↓] theorem ok_idx : Ok (evE T cl (.idx a b) σ h) P = Ok (evE T cl a σ h) fun x h1 => Ok (evE T cl b σ h1) fun y h2 => Ok (evIx x y h2) P := by simp only [evE, Ok_bind]
@[simp ↓] theorem ok_comp {tg : Tg} {own : List Nat} : Ok (evE T cl (.comp false e tg a c own) σ h) P = Ok (evI T cl a σ h) fun p h1 => p.1.length ≤ big ∧ Ok (compL (fun σ' h' => evE T cl e σ' h') (fun σ' h' => evE T cl c σ' h') tg (wipeE σ own) p.2 p.1 h1) fun ys h2 => P (.fl ys) h2 := by
  simp only [evE, Ok_bind]
  congr 1; funext p h1
  rw [ok_guard]
  simp only [if_true, Bool.false_eq_true, if_false, Ok_bind, Ok_ok]
@[simp ↓] theorem ok_compm {tg : Tg} {own : List Nat} : Ok (evE T cl (.comp true e tg a c own) σ h) P = Ok (evI T cl a σ h) fun p h1 => p.1.length ≤ big ∧ Ok (compL (fun σ' h' => evE T cl e σ' h') (fun σ' h' => evE T cl c σ' h') tg (wipeE σ own) p.2 p.1 h1) fun ys h2 => P (.ref h2.length) (h2 ++ [.lst ys]) := by
  simp only [evE, Ok_bind]
  congr 1; funext p h1
  rw [ok_guard]
  simp only [if_true, Bool.false_eq_true, if_false, Ok_bind, Ok_ok]
@[simp ↓] theorem ok_lrng : Ok (evE T cl (.lrng false a) σ h) P = Ok (evE T cl a σ h) fun x h1 => Ok (rng (.int 0) x h1) fun p h2 => P (.fl p.1) h2 := by
  simp only [evE, Ok_bind]
  rfl
@[simp ↓] theorem ok_frz : Ok (evE T cl (.frz a) σ h) P = Ok (evE T cl a σ h) fun x h1 => ∃ n xs, x = .ref n ∧ h1[n]? = some (.lst xs) ∧ P (.fl xs) (h1.set n .dead) := by
  simp only [evE, Ok_bind]
  congr 1; funext x h1
  cases x <;> simp [Ok]
  rename_i n
  cases hq : h1[n]? with
  | none => simp
  | some o => cases o <;> simp
variable {Q : List W × Gd → LH → Prop}
@[simp ↓] theorem ok_itv : Ok (evI T cl (.itv a) σ h) Q = Ok (evE T cl a σ h) fun x h1 => ∃ xs, seqOf h1 x = some xs ∧ Q (xs, gdOf h1 x) h1 := by
  simp only [evI, Ok_bind]
  congr 1; funext x h1
  cases seqOf h1 x <;> simp [Ok]
@[simp ↓] theorem ok_rng1 : Ok (evI T cl (.rng1 a) σ h) Q = Ok (evE T cl a σ h) fun x h1 => Ok (rng (.int 0) x h1) Q := by simp only [evI, Ok_bind]
@[simp ↓] theorem ok_rng2 : Ok (evI T cl (.rng2 a b) σ h) Q = Ok (evE T cl a σ h) fun x h1 => Ok (evE T cl b σ h1) fun y h2 => Ok (rng x y h2) Q := by simp only [evI, Ok_bind]
@[simp ↓] theorem ok_enum : Ok (evI T cl (.enum a) σ h) Q = Ok (evE T cl a σ h) fun x h1 => ∃ xs, seqOf h1 x = some xs ∧ Q (enumW 0 xs, gdOf h1 x) h1 := by
  simp only [evI, Ok_bind]
  congr 1; funext x h1
  cases seqOf h1 x <;> simp [Ok]
@[simp ↓] theorem ok_rev : Ok (evI T cl (.rev a) σ h) Q = Ok (evE T cl a σ h) fun x h1 => ∃ xs, seqOf h1 x = some xs ∧ Q (xs.reverse, gdOf h1 x) h1 := by
  simp only [evI, Ok_bind]
  congr 1; funext x h1
  cases seqOf h1 x <;> simp [Ok]
@[simp ↓] theorem ok_zip : Ok (evI T cl (.zip a b) σ h) Q = Ok (evE T cl a σ h) fun x h1 => Ok (evE T cl b σ h1) fun y h2 => ∃ xs ys, seqOf h2 x = some xs ∧ seqOf h2 y = some ys ∧ Q (zipW xs ys, gdOf h2 x ++ gdOf h2 y) h2 := by
  simp only [evI, Ok_bind]
  congr 1; funext x h1; congr 1; funext y h2
  unfold zip2
  cases seqOf h2 x <;> cases seqOf h2 y <;> simp [Ok]
@[simp ↓] theorem ok_rng {i j : Int} : Ok (rng (.int i) (.int j) h) Q = (okRng i j = true ∧ Q (rngW i j, []) h) := by
  unfold rng
  dsimp only
  split
  · rename_i q; simp [q, Ok]
  · rename_i q; simp [q, Ok]
/-! operations -/
variable {i j : Int}
@[simp ↓] theorem ok_add : Ok (evB .add (.int i) (.int j) h) P = P (.int (i + j)) h := nrfl rfl
@[simp ↓] theorem ok_sub : Ok (evB .sub (.int i) (.int j) h) P = P (.int (i - j)) h := nrfl rfl
@[simp ↓] theorem ok_mul : Ok (evB .mul (.int i) (.int j) h) P = (((-(2 ^ 64) < i ∧ i < 2 ^ 64) ∨ (-(2 ^ 64) < j ∧ j < 2 ^ 64)) ∧ P (.int (i * j)) h) := by
  show Ok (if _ then _ else .no) P = _
  rw [ok_guard]; rfl
@[simp ↓] theorem ok_fdiv : Ok (evB .fdiv (.int i) (.int j) h) P = ((0 < j ∧ j < 1073741824) ∧ P (.int (i / j)) h) := by
  show Ok (if _ then _ else .no) P = _
  rw [ok_guard]; rfl
@[simp ↓] theorem ok_mod : Ok (evB .mod (.int i) (.int j) h) P = (0 < j ∧ P (.int (i % j)) h) := by
  show Ok (if _ then _ else .no) P = _
  rw [ok_guard]; rfl
@[simp ↓] theorem ok_shl : Ok (evB .shl (.int i) (.int j) h) P = ((0 ≤ j ∧ j ≤ 1000000 ∧ i.natAbs < 2 ^ 64) ∧ P (.int (i * 2 ^ j.toNat)) h) := by
  show Ok (if _ then _ else .no) P = _
  rw [ok_guard]; rfl
@[simp ↓] theorem ok_pow : Ok (evB .pow (.int i) (.int j) h) P = ((0 ≤ j ∧ j ≤ 1000000 ∧ i.natAbs < 2 ^ 64) ∧ P (.int (i ^ j.toNat)) h) := by
  show Ok (if _ then _ else .no) P = _
  rw [ok_guard]; rfl
@[simp ↓] theorem ok_shr : Ok (evB .shr (.int i) (.int j) h) P = (0 ≤ j ∧ P (.int (i / 2 ^ j.toNat)) h) := by
  show Ok (if _ then _ else .no) P = _
  rw [ok_guard]; rfl
@[simp ↓] theorem ok_band : Ok (evB .band (.int i) (.int j) h) P = P (.int (PySem.Builtin.bitAnd i j)) h := nrfl rfl
@[simp ↓] theorem ok_bor : Ok (evB .bor (.int i) (.int j) h) P = P (.int (PySem.Builtin.bitOr i j)) h := nrfl rfl
@[simp ↓] theorem ok_bxor : Ok (evB .bxor (.int i) (.int j) h) P = P (.int (PySem.Builtin.bitXor i j)) h := nrfl rfl
@[simp ↓] theorem ok_addL {xs ys : List W} : Ok (evB .add (.fl xs) (.fl ys) h) P = (xs.length + ys.length ≤ big ∧ P (.fl (xs ++ ys)) h) := by
  show Ok (if _ then _ else .no) P = _
  rw [ok_guard]; rfl
@[simp ↓] theorem ok_eqi : Ok (evC .eq (.int i) (.int j) h) P = P (.bl (decide (i = j))) h := nrfl rfl
@[simp ↓] theorem ok_nei : Ok (evC .ne (.int i) (.int j) h) P = P (.bl (!decide (i = j))) h := nrfl rfl
@[simp ↓] theorem ok_eqb {x y : Bool} : Ok (evC .eq (.bl x) (.bl y) h) P = P (.bl (decide (x = y))) h := nrfl rfl
@[simp ↓] theorem ok_neb {x y : Bool} : Ok (evC .ne (.bl x) (.bl y) h) P = P (.bl (!decide (x = y))) h := nrfl rfl
@[simp ↓] theorem ok_lti : Ok (evC .lt (.int i) (.int j) h) P = P (.bl (decide (i < j))) h := nrfl rfl
@[simp ↓] theorem ok_lei : Ok (evC .le (.int i) (.int j) h) P = P (.bl (decide (i ≤ j))) h := nrfl rfl
@[simp ↓] theorem ok_gti : Ok (evC .gt (.int i) (.int j) h) P = P (.bl (decide (j < i))) h := nrfl rfl
@[simp ↓] theorem ok_gei : Ok (evC .ge (.int i) (.int j) h) P = P (.bl (decide (j ≤ i))) h := nrfl rfl
@[simp ↓] theorem ok_isN {x : W} : Ok (evC .is x .non h) P = P (.bl (isNon x)) h := nrfl rfl
@[simp ↓] theorem ok_isnN {x : W} : Ok (evC .isn x .non h) P = P (.bl (!isNon x)) h := nrfl rfl
@[simp ↓] theorem ok_isB {x y : Bool} : Ok (evC .is (.bl x) (.bl y) h) P = P (.bl (decide (x = y))) h := nrfl rfl
@[simp] theorem isNon_int : isNon (.int i) = false := nrfl rfl
@[simp] theorem isNon_non : isNon .non = true := nrfl rfl
@[simp ↓] theorem ok_int : Ok (evF .int [.int i] h) P = P (.int i) h := nrfl rfl
@[simp ↓] theorem ok_abs : Ok (evF .abs [.int i] h) P = P (.int (if i < 0 then -i else i)) h := nrfl rfl
@[simp ↓] theorem ok_lenT {xs : List W} : Ok (evF .len [.tup xs] h) P = P (.int xs.length) h := nrfl rfl
@[simp ↓] theorem ok_lenF {xs : List W} : Ok (evF .len [.fl xs] h) P = P (.int xs.length) h := nrfl rfl
@[simp ↓] theorem ok_lenR {xs : List W} : Ok (evF .len [.rd xs] h) P = P (.int xs.length) h := nrfl rfl
@[simp ↓] theorem ok_tupT {xs : List W} : Ok (evF .tuple [.tup xs] h) P = P (.tup xs) h := nrfl rfl
@[simp ↓] theorem ok_tupF {xs : List W} : Ok (evF .tuple [.fl xs] h) P = P (.tup xs) h := nrfl rfl
@[simp ↓] theorem ok_lstT {xs : List W} : Ok (evF .list [.tup xs] h) P = P (.fl xs) h := nrfl rfl
@[simp ↓] theorem ok_lstF {xs : List W} : Ok (evF .list [.fl xs] h) P = P (.fl xs) h := nrfl rfl
@[simp] theorem tru_bl {q : Bool} : truW h (.bl q) = some q := nrfl rfl
@[simp] theorem tru_int : truW h (.int i) = some (i != 0) := nrfl rfl
@[simp] theorem sq_tup {xs : List W} : seqOf h (.tup xs) = some xs := nrfl rfl
@[simp] theorem sq_fl {xs : List W} : seqOf h (.fl xs) = some xs := nrfl rfl
@[simp] theorem sq_rd {xs : List W} : seqOf h (.rd xs) = some xs := nrfl rfl
@[simp] theorem gd_tup {xs : List W} : gdOf h (.tup xs) = [] := nrfl rfl
@[simp] theorem gd_fl {xs : List W} : gdOf h (.fl xs) = [] := nrfl rfl
@[simp] theorem gd_rd {xs : List W} : gdOf h (.rd xs) = [] := nrfl rfl
@[simp] theorem gok_nil : gOk [] h = true := nrfl rfl
@[simp ↓] theorem ok_ixT {xs : List W} : Ok (evIx (.tup xs) (.int i) h) P = ∃ w, ix xs i = some w ∧ P w h := by
  show Ok (match ix xs i with | some w => R.ok w h | none => R.no) P = _
  cases ix xs i <;> simp [Ok]
@[simp ↓] theorem ok_ixF {xs : List W} : Ok (evIx (.fl xs) (.int i) h) P = ∃ w, ix xs i = some w ∧ P w h := by
  show Ok (match ix xs i with | some w => R.ok w h | none => R.no) P = _
  cases ix xs i <;> simp [Ok]
@[simp ↓] theorem ok_ixR {xs : List W} : Ok (evIx (.rd xs) (.int i) h) P = ∃ w, ix xs i = some w ∧ P w h := by
  show Ok (match ix xs i with | some w => R.ok w h | none => R.no) P = _
  cases ix xs i <;> simp [Ok]
@[simp ↓] theorem ok_ixr {n : Nat} : Ok (evIx (.ref n) (.int i) h) P = ∃ xs, h[n]? = some (.lst xs) ∧ ∃ w, ix xs i = some w ∧ P w h := by
  show Ok (match seqOf h (.ref n) with | some xs => (match ix xs i with | some w => R.ok w h | none => R.no) | none => R.no) P = _
  unfold seqOf
  dsimp only
  cases hq : h[n]? with
  | none => simp [Ok]
  | some o =>
    cases o <;> simp [Ok]
    rename_i xs
    cases ix xs i <;> simp
theorem ixn_nat {n k : Nat} : ixn n (k : Int) = if k < n then some k else none := by
  unfold ixn
  by_cases hk : k < n
  · simp [hk]
  · simp [hk]
theorem ix_nat {α : Type} {xs : List α} {k : Nat} : ix xs (k : Int) = xs[k]? := by
  unfold ix ixn
  by_cases hk : k < xs.length
  · simp [hk]
  · simp [hk]
@[simp] theorem ixn_0 {n : Nat} : ixn n 0 = if 0 < n then some 0 else none := ixn_nat (k := 0)
@[simp] theorem ix_0 {α : Type} {xs : List α} : ix xs 0 = xs[0]? := ix_nat (k := 0)
@[simp] theorem ixn_1 {n : Nat} : ixn n 1 = if 1 < n then some 1 else none := ixn_nat (k := 1)
@[simp] theorem ix_1 {α : Type} {xs : List α} : ix xs 1 = xs[1]? := ix_nat (k := 1)
@[simp] theorem ixn_2 {n : Nat} : ixn n 2 = if 2 < n then some 2 else none := ixn_nat (k := 2)
@[simp] theorem ix_2 {α : Type} {xs : List α} : ix xs 2 = xs[2]? := ix_nat (k := 2)
@[simp] theorem ixn_3 {n : Nat} : ixn n 3 = if 3 < n then some 3 else none := ixn_nat (k := 3)
@[simp] theorem ix_3 {α : Type} {xs : List α} : ix xs 3 = xs[3]? := ix_nat (k := 3)
@[simp] theorem ixn_4 {n : Nat} : ixn n 4 = if 4 < n then some 4 else none := ixn_nat (k := 4)
@[simp] theorem ix_4 {α : Type} {xs : List α} : ix xs 4 = xs[4]? := ix_nat (k := 4)
@[simp] theorem ixn_5 {n : Nat} : ixn n 5 = if 5 < n then some 5 else none := ixn_nat (k := 5)
@[simp] theorem ix_5 {α : Type} {xs : List α} : ix xs 5 = xs[5]? := ix_nat (k := 5)
@[simp] theorem ixn_6 {n : Nat} : ixn n 6 = if 6 < n then some 6 else none := ixn_nat (k := 6)
@[simp] theorem ix_6 {α : Type} {xs : List α} : ix xs 6 = xs[6]? := ix_nat (k := 6)
@[simp] theorem ixn_7 {n : Nat} : ixn n 7 = if 7 < n then some 7 else none := ixn_nat (k := 7)
@[simp] theorem ix_7 {α : Type} {xs : List α} : ix xs 7 = xs[7]? := ix_nat (k := 7)
@[simp] theorem ixn_8 {n : Nat} : ixn n 8 = if 8 < n then some 8 else none := ixn_nat (k := 8)
@[simp] theorem ix_8 {α : Type} {xs : List α} : ix xs 8 = xs[8]? := ix_nat (k := 8)
@[simp] theorem ixn_9 {n : Nat} : ixn n 9 = if 9 < n then some 9 else none := ixn_nat (k := 9)
@[simp] theorem ix_9 {α : Type} {xs : List α} : ix xs 9 = xs[9]? := ix_nat (k := 9)
theorem ix_map {α β : Type} {f : α → β} {xs : List α} {i : Int} : ix (xs.map f) i = (ix xs i).map f := by
  unfold ix
  rw [List.length_map]
  cases ixn xs.length i <;> simp
theorem ix_get {α : Type} {xs : List α} {i : Int} (h0 : 0 ≤ i) (h1 : i < xs.length) : ∃ x, ix xs i = some x ∧ x ∈ xs := by
  unfold ix ixn
  rw [if_pos h0, if_pos h1]
  have h2 : i.toNat < xs.length := by omega
  exact ⟨xs[i.toNat], by simp [h2], List.getElem_mem h2⟩
end
section
variable {T : Tab} {cl : Cl} {σ : Env} {h : LH} {nx ct bk : Env → LH → Prop} {rt : W → LH → Prop} {e : E} {s r : S}
@[simp ↓] theorem sk_nil : Sk (evS T cl .nil σ h) nx rt ct bk = nx σ h := by simp only [evS, Sk]
@[simp ↓] theorem sk_seq : Sk (evS T cl (.seq s r) σ h) nx rt ct bk = Sk (evS T cl s σ h) (fun σ1 h1 => Sk (evS T cl r σ1 h1) nx rt ct bk) rt ct bk := Sk_seq
@[simp ↓] theorem sk_asg {i : Nat} : Sk (evS T cl (.asg i e) σ h) nx rt ct bk = Ok (evE T cl e σ h) fun w h1 => nx (σ.set i (some w)) h1 := by simp only [evS, Sk_toS, Sk_nx]
@[simp ↓] theorem sk_expr : Sk (evS T cl (.expr e) σ h) nx rt ct bk = Ok (evE T cl e σ h) fun w h1 => nx σ h1 := by simp only [evS, Sk_toS, Sk_nx]
@[simp ↓] theorem sk_ret : Sk (evS T cl (.ret e) σ h) nx rt ct bk = Ok (evE T cl e σ h) rt := by simp only [evS, Sk_toS, Sk_ret]
@[simp ↓] theorem sk_retN : Sk (evS T cl .retN σ h) nx rt ct bk = rt .non h := by simp only [evS, Sk]
@[simp ↓] theorem sk_ifs {c : E} {a b : S} : Sk (evS T cl (.ifs c a b) σ h) nx rt ct bk = Ok (evE T cl c σ h) fun x h1 => ∃ q, x = .bl q ∧ if q = true then Sk (evS T cl a σ h1) nx rt ct bk else Sk (evS T cl b σ h1) nx rt ct bk := by
  simp only [evS, Sk_toS]
  congr 1; funext x h1
  cases x <;> simp [Sk]
  rename_i q
  cases q <;> simp
@[simp ↓] theorem sk_kill {is : List Nat} : Sk (evS T cl (.kill is) σ h) nx rt ct bk = nx (wipeE σ is) h := by simp only [evS, Sk]
@[simp ↓] theorem sk_brk : Sk (evS T cl .brk σ h) nx rt ct bk = bk σ h := by simp only [evS, Sk]
@[simp ↓] theorem sk_cont : Sk (evS T cl .cont σ h) nx rt ct bk = ct σ h := by simp only [evS, Sk]
@[simp ↓] theorem sk_pass : Sk (evS T cl .pass σ h) nx rt ct bk = nx σ h := by simp only [evS, Sk]
@[simp ↓] theorem sk_for {tg : Tg} {it : E} {b : S} : Sk (evS T cl (.for_ tg it b) σ h) nx rt ct bk = Ok (evI T cl it σ h) fun p h1 => Sk (forL (fun σ' h' => evS T cl b σ' h') tg p.2 p.1 σ h1) nx rt ct bk := by
  simp only [evS]
  cases evI T cl it σ h <;> rfl
@[simp ↓] theorem sk_setI {a k : E} : Sk (evS T cl (.setI a k e) σ h) nx rt ct bk = Ok (evE T cl e σ h) fun w h1 => Ok (evE T cl a σ h1) fun x h2 => Ok (evE T cl k σ h2) fun y h3 => ∃ n i xs j, x = .ref n ∧ y = .int i ∧ h3[n]? = some (.lst xs) ∧ ixn xs.length i = some j ∧ nx σ (h3.set n (.lst (xs.set j w))) := by
  simp only [evS, Sk_toS]
  congr 1; funext w h1; congr 1; funext x h2; congr 1; funext y h3
  cases x <;> simp [Sk]
  rename_i n
  cases y <;> simp [Sk]
  rename_i i
  cases hq : h3[n]? with
  | none => simp
  | some o =>
    cases o <;> simp
    rename_i xs
    cases ixn xs.length i <;> simp
@[simp] theorem wipe_nil : wipeE σ [] = σ := nrfl rfl
@[simp] theorem wipe_cons {i : Nat} {is : List Nat} : wipeE σ (i :: is) = (wipeE σ is).set i none := nrfl rfl
@[simp] theorem bind_one {i : Nat} {w : W} : bindT (.one i) w σ = some (σ.set i (some w)) := nrfl rfl
@[simp] theorem bind_two {i j : Nat} {w v : W} : bindT (.many [i, j]) (.tup [w, v]) σ = some ((σ.set i (some w)).set j (some v)) := nrfl rfl
/-- a comprehension, turn by turn -/
theorem compL_nil {f c : Env → LH → R W} {tg : Tg} {P : List W → LH → Prop} (hp : P [] h) : Ok (compL f c tg σ [] [] h) P := hp
theorem compL_step {f c : Env → LH → R W} {tg : Tg} {w : W} {ws : List W} {σ1 : Env} {P : List W → LH → Prop} (hb : bindT tg w σ = some σ1) (hc : c σ1 h = .ok (.bl true) h)
    (hf : Ok (f σ1 h) fun y h2 => Ok (compL f c tg σ [] ws h2) fun ys h3 => P (y :: ys) h3) : Ok (compL f c tg σ [] (w :: ws) h) P := by
  obtain ⟨y, l, e, k⟩ := hf.get
  unfold compL
  rw [if_pos (show gOk [] h = true from rfl), hb]
  dsimp only
  rw [hc]
  show Ok ((f σ1 h).noex.bind fun y h2 => (compL f c tg σ [] ws h2).bind fun ys h3 => .ok (y :: ys) h3) P
  rw [e]
  show Ok ((compL f c tg σ [] ws l).bind fun ys h3 => .ok (y :: ys) h3) P
  rw [Ok_bind]
  exact k
end
end Mp
/-! defs that most laws share (printed by gen.py) -/
namespace Lb
open Mp
def d_is_sequence : Def := { np := 1, n := 1, body :=
 (.seq (.ret (.isiT (.var 0) [.list, .tuple]))
 .nil) }
def d_is_whole : Def := { np := 3, n := 3, dfl := [.non, .non], body :=
 (.seq (.ifs (.tor (.tE (.isi (.var 0) .bool)) (.tnot (.tE (.isi (.var 0) .int)))) (.seq (.ret (.cst (.bl false)))
 .nil) .nil)
 (.seq (.ifs (.tand (.tE (.cmp .isn (.var 1) (.cst .non))) (.tE (.cmp .lt (.var 0) (.var 1)))) (.seq (.ret (.cst (.bl false)))
 .nil) .nil)
 (.seq (.ret (.or (.cmp .is (.var 2) (.cst .non)) (.cmp .le (.var 0) (.var 2))))
 .nil))) }
def d_check_stands : Def := { np := 1, n := 1, body :=
 (.seq (.ifs (.tnot (.tE (.call "is_whole" (.cons (.var 0) (.cons (.cst (.int 1)) (.cons (.cst (.int 6)) .nil)))))) (.seq .stop
 .nil) .nil)
 (.seq (.ret (.var 0))
 .nil)) }
def d_all_stands : Def := { np := 1, n := 1, body :=
 (.seq (.ret (.bin .sub (.bin .shl (.cst (.int 1)) (.call "check_stands" (.cons (.var 0) .nil))) (.cst (.int 1))))
 .nil) }
def d_check_lot : Def := { np := 2, n := 2, body :=
 (.seq (.ifs (.tnot (.tE (.call "is_whole" (.cons (.var 1) (.cons (.cst (.int 0)) (.cons (.call "all_stands" (.cons (.var 0) .nil)) .nil)))))) (.seq .stop
 .nil) .nil)
 (.seq (.ret (.var 1))
 .nil)) }
def d_check_row : Def := { np := 2, n := 4, body :=
 (.seq (.expr (.call "check_stands" (.cons (.var 0) .nil)))
 (.seq (.ifs (.tor (.tnot (.tE (.call "is_sequence" (.cons (.var 1) .nil)))) (.tE (.cmp .ne (.bf .len (.cons (.var 1) .nil)) (.var 0)))) (.seq .stop
 .nil) .nil)
 (.seq (.for_ (.many [2, 3]) (.enum (.var 1)) (.seq (.ifs (.tnot (.tE (.call "is_whole" (.cons (.var 3) (.cons (.cst (.int 0)) (.cons (.call "all_stands" (.cons (.var 0) .nil)) .nil)))))) (.seq .stop
 .nil) .nil)
 (.seq (.kill [2, 3])
 .nil)))
 (.seq (.ret (.bf .tuple (.cons (.var 1) .nil)))
 .nil)))) }
def d_check_rows : Def := { np := 2, n := 3, body :=
 (.seq (.expr (.call "check_stands" (.cons (.var 0) .nil)))
 (.seq (.ifs (.tor (.tnot (.tE (.call "is_sequence" (.cons (.var 1) .nil)))) (.tE (.cmp .gt (.bf .len (.cons (.var 1) .nil)) (.glo "MOST_ROWS")))) (.seq .stop
 .nil) .nil)
 (.seq (.ret (.bf .tuple (.cons (.comp false (.call "check_row" (.cons (.var 0) (.cons (.var 2) .nil))) (.one 2) (.itv (.var 1)) (.cst (.bl true)) [2]) .nil)))
 .nil))) }
def d_next_lot : Def := { np := 2, n := 5, body :=
 (.seq (.asg 2 (.cst (.int 0)))
 (.seq (.for_ (.many [3, 4]) (.enum (.var 0)) (.seq (.ifs (.tE (.cmp .eq (.bin .band (.bin .shr (.var 1) (.var 3)) (.cst (.int 1))) (.cst (.int 1)))) (.seq (.asg 2 (.bin .bor (.var 2) (.var 4)))
 .nil) .nil)
 (.seq (.kill [3, 4])
 .nil)))
 (.seq (.ret (.var 2))
 .nil))) }
def d_back_lot : Def := { np := 2, n := 5, body :=
 (.seq (.asg 2 (.cst (.int 0)))
 (.seq (.for_ (.many [3, 4]) (.enum (.var 0)) (.seq (.ifs (.tE (.cmp .eq (.bin .band (.var 4) (.var 1)) (.var 4))) (.seq (.asg 2 (.bin .bor (.var 2) (.bin .shl (.cst (.int 1)) (.var 3))))
 .nil) .nil)
 (.seq (.kill [3, 4])
 .nil)))
 (.seq (.ret (.var 2))
 .nil))) }
def d_test_row : Def := { np := 2, n := 3, body :=
 (.seq (.expr (.call "check_stands" (.cons (.var 0) .nil)))
 (.seq (.expr (.call "check_lot" (.cons (.var 0) (.cons (.var 1) .nil))))
 (.seq (.ret (.bf .tuple (.cons (.comp false (.bin .band (.var 1) (.bin .shl (.cst (.int 1)) (.var 2))) (.one 2) (.rng1 (.var 0)) (.cst (.bl true)) [2]) .nil)))
 .nil))) }
def d_joined_row : Def := { np := 2, n := 4, body :=
 (.seq (.ret (.bf .tuple (.cons (.comp false (.bin .bor (.var 2) (.var 3)) (.many [2, 3]) (.zip (.var 0) (.var 1)) (.cst (.bl true)) [2, 3]) .nil)))
 .nil) }
def d_behind_row : Def := { np := 2, n := 3, body :=
 (.seq (.ret (.bf .tuple (.cons (.comp false (.call "next_lot" (.cons (.var 1) (.cons (.var 2) .nil))) (.one 2) (.itv (.var 0)) (.cst (.bl true)) [2]) .nil)))
 .nil) }
def d__law_hand : Def := { np := 1, n := 4, body :=
 (.seq (.asg 1 (.bin .add (.bf .len (.cons (.var 0) .nil)) (.cst (.int 41))))
 (.seq (.asg 2 (.lstm .nil))
 (.seq (.for_ (.one 3) (.itv (.var 0)) (.seq (.asg 1 (.bin .mod (.bf .int (.cons (.bin .add (.bin .mul (.var 1) (.cst (.int 1721))) (.bf .int (.cons (.var 3) .nil))) .nil)) (.cst (.int 2147483549))))
 (.seq (.expr (.lm (.var 2) .append (.cons (.bf .abs (.cons (.bf .int (.cons (.var 3) .nil)) .nil)) .nil)))
 (.seq (.kill [3])
 .nil))))
 (.seq (.ret (.lstm (.cons (.frz (.var 2)) (.cons (.cst (.int 0)) (.cons (.cst (.int 0)) (.cons (.var 1) .nil))))))
 .nil)))) }
def d__law_mixed : Def := { np := 2, n := 4, body :=
 (.seq (.asg 2 (.bin .mod (.bf .int (.cons (.bin .add (.bin .add (.bin .mul (.var 0) (.cst (.int 48271))) (.bin .mul (.var 1) (.cst (.int 7919)))) (.cst (.int 30011))) .nil)) (.cst (.int 2147483399))))
 (.seq (.asg 3 (.bin .mod (.bf .int (.cons (.bin .add (.bin .add (.bin .mul (.var 2) (.var 2)) (.bin .mul (.var 1) (.cst (.int 92821)))) (.bin .fdiv (.var 2) (.cst (.int 131)))) .nil)) (.cst (.int 2147483629))))
 (.seq (.ret (.bin .fdiv (.bf .int (.cons (.bin .mod (.bf .int (.cons (.bin .add (.bin .mul (.var 3) (.cst (.int 69621))) (.bin .fdiv (.var 2) (.cst (.int 13)))) .nil)) (.cst (.int 2147483587))) .nil)) (.cst (.int 32))))
 .nil))) }
def d__law_take : Def := { np := 2, n := 4, body :=
 (.seq (.ifs (.tand (.tE (.cmp .eq (.idx (.var 0) (.cst (.int 2))) (.cst (.int 0)))) (.tE (.cmp .lt (.idx (.var 0) (.cst (.int 1))) (.bf .len (.cons (.idx (.var 0) (.cst (.int 0))) .nil))))) (.seq (.asg 2 (.idx (.idx (.var 0) (.cst (.int 0))) (.idx (.var 0) (.cst (.int 1)))))
 (.seq (.setI (.var 0) (.cst (.int 1)) (.bin .add (.idx (.var 0) (.cst (.int 1))) (.cst (.int 1))))
 (.seq (.ifs (.tE (.cmp .lt (.var 2) (.bin .pow (.cst (.int 10)) (.cst (.int 18))))) (.seq (.ret (.bin .mod (.bf .int (.cons (.call "_law_mixed" (.cons (.bin .mod (.bf .int (.cons (.var 2) .nil)) (.cst (.int 2147483399))) (.cons (.idx (.var 0) (.cst (.int 1))) .nil))) .nil)) (.var 1)))
 .nil) .nil)
 (.seq (.setI (.var 0) (.cst (.int 2)) (.var 2))
 .nil)))) .nil)
 (.seq (.ifs (.tE (.cmp .gt (.idx (.var 0) (.cst (.int 2))) (.cst (.int 0)))) (.seq (.asg 3 (.idx (.var 0) (.cst (.int 2))))
 (.seq (.setI (.var 0) (.cst (.int 2)) (.bin .fdiv (.bf .int (.cons (.var 3) .nil)) (.var 1)))
 (.seq (.ret (.bin .mod (.bf .int (.cons (.var 3) .nil)) (.var 1)))
 .nil))) .nil)
 (.seq (.setI (.var 0) (.cst (.int 3)) (.bin .mod (.bf .int (.cons (.bin .add (.idx (.var 0) (.cst (.int 3))) (.cst (.int 1))) .nil)) (.cst (.int 2147483549))))
 (.seq (.ret (.bin .mod (.bf .int (.cons (.call "_law_mixed" (.cons (.idx (.var 0) (.cst (.int 3))) (.cons (.idx (.var 0) (.cst (.int 1))) .nil))) .nil)) (.var 1)))
 .nil)))) }
def d__law_stands : Def := { np := 1, n := 1, body :=
 (.seq (.ret (.idx (.tup (.cons (.cst (.int 3)) (.cons (.cst (.int 4)) (.cons (.cst (.int 3)) (.cons (.cst (.int 4)) (.cons (.cst (.int 3)) (.cons (.cst (.int 4)) (.cons (.cst (.int 3)) (.cons (.cst (.int 4)) (.cons (.cst (.int 2)) (.cons (.cst (.int 2)) (.cons (.cst (.int 5)) (.cons (.cst (.int 5)) (.cons (.cst (.int 6)) (.cons (.cst (.int 6)) (.cons (.cst (.int 3)) (.cons (.cst (.int 1)) .nil))))))))))))))))) (.call "_law_take" (.cons (.var 0) (.cons (.cst (.int 16)) .nil)))))
 .nil) }
def d__law_every : Def := { np := 1, n := 1, body :=
 (.seq (.ret (.bin .sub (.bin .shl (.cst (.int 1)) (.var 0)) (.cst (.int 1))))
 .nil) }
def d__law_within : Def := { np := 2, n := 2, body :=
 (.seq (.ret (.cmp .eq (.bin .band (.var 0) (.var 1)) (.var 0)))
 .nil) }
def d__law_single : Def := { np := 2, n := 3, body :=
 (.seq (.ret (.comp false (.bin .shl (.cst (.int 1)) (.call "_law_take" (.cons (.var 0) (.cons (.var 1) .nil)))) (.one 2) (.rng1 (.var 1)) (.cst (.bl true)) [2]))
 .nil) }
def d__law_drawn_row : Def := { np := 2, n := 6, body :=
 (.seq (.asg 2 (.call "_law_take" (.cons (.var 0) (.cons (.cst (.int 8)) .nil))))
 (.seq (.ifs (.tE (.cmp .lt (.var 2) (.cst (.int 3)))) (.seq (.ret (.call "_law_single" (.cons (.var 0) (.cons (.var 1) .nil))))
 .nil) .nil)
 (.seq (.ifs (.tE (.cmp .eq (.var 2) (.cst (.int 3)))) (.seq (.asg 3 (.call "_law_take" (.cons (.var 0) (.cons (.bin .shl (.cst (.int 1)) (.var 1)) .nil))))
 (.seq (.ret (.comp false (.bin .band (.bin .shl (.cst (.int 1)) (.var 4)) (.var 3)) (.one 4) (.rng1 (.var 1)) (.cst (.bl true)) [4]))
 .nil)) .nil)
 (.seq (.ifs (.tE (.cmp .eq (.var 2) (.cst (.int 4)))) (.seq (.asg 5 (.call "_law_take" (.cons (.var 0) (.cons (.var 1) .nil))))
 (.seq (.ret (.comp false (.bin .shl (.cst (.int 1)) (.ite (.tE (.cmp .ne (.var 4) (.var 5))) (.var 4) (.call "_law_take" (.cons (.var 0) (.cons (.var 1) .nil))))) (.one 4) (.rng1 (.var 1)) (.cst (.bl true)) [4]))
 .nil)) .nil)
 (.seq (.ifs (.tE (.cmp .eq (.var 2) (.cst (.int 5)))) (.seq (.ret (.comp false (.ite (.tE (.call "_law_take" (.cons (.var 0) (.cons (.cst (.int 3)) .nil)))) (.bin .shl (.cst (.int 1)) (.call "_law_take" (.cons (.var 0) (.cons (.var 1) .nil)))) (.cst (.int 0))) (.one 4) (.rng1 (.var 1)) (.cst (.bl true)) [4]))
 .nil) .nil)
 (.seq (.ret (.comp false (.call "_law_take" (.cons (.var 0) (.cons (.bin .shl (.cst (.int 1)) (.var 1)) .nil))) (.one 4) (.rng1 (.var 1)) (.cst (.bl true)) [4]))
 .nil)))))) }
def d__law_next : Def := { np := 2, n := 4, body :=
 (.seq (.asg 2 (.cst (.int 0)))
 (.seq (.for_ (.one 3) (.rng1 (.bf .len (.cons (.var 0) .nil))) (.seq (.ifs (.tE (.cmp .eq (.bin .mod (.bf .int (.cons (.bin .shr (.var 1) (.var 3)) .nil)) (.cst (.int 2))) (.cst (.int 1)))) (.seq (.asg 2 (.bin .bor (.var 2) (.idx (.var 0) (.var 3))))
 .nil) .nil)
 (.seq (.kill [3])
 .nil)))
 (.seq (.ret (.var 2))
 .nil))) }
def d__law_back : Def := { np := 2, n := 4, body :=
 (.seq (.asg 2 (.cst (.int 0)))
 (.seq (.for_ (.one 3) (.rng1 (.bf .len (.cons (.var 0) .nil))) (.seq (.ifs (.tE (.cmp .eq (.bin .band (.idx (.var 0) (.var 3)) (.var 1)) (.idx (.var 0) (.var 3)))) (.seq (.asg 2 (.bin .bor (.var 2) (.bin .shl (.cst (.int 1)) (.var 3))))
 .nil) .nil)
 (.seq (.kill [3])
 .nil)))
 (.seq (.ret (.var 2))
 .nil))) }
def d__law_list : Def := { np := 2, n := 2, body :=
 (.seq (.ret (.ite (.tE (.call "_law_take" (.cons (.var 0) (.cons (.cst (.int 2)) .nil)))) (.bf .list (.cons (.var 1) .nil)) (.bf .tuple (.cons (.var 1) .nil))))
 .nil) }
def d__law_int : Def := { np := 1, n := 1, body :=
 (.seq (.ret (.and (.isi (.var 0) .int) (.not (.isi (.var 0) .bool))))
 .nil) }
def d__law_exact : Def := { np := 2, n := 3, body :=
 (.seq (.ifs (.tE (.isi (.var 1) .tuple)) (.seq (.ifs (.tor (.tnot (.tE (.isi (.var 0) .tuple))) (.tE (.cmp .ne (.bf .len (.cons (.var 0) .nil)) (.bf .len (.cons (.var 1) .nil))))) (.seq (.ret (.cst (.bl false)))
 .nil) .nil)
 (.seq (.ret (.cmp .eq (.comp false (.var 2) (.one 2) (.rng1 (.bf .len (.cons (.var 1) .nil))) (.tnot (.tE (.call "_law_exact" (.cons (.idx (.var 0) (.var 2)) (.cons (.idx (.var 1) (.var 2)) .nil))))) [2]) (.lst .nil)))
 .nil)) .nil)
 (.seq (.ifs (.tE (.cmp .is (.var 1) (.cst .non))) (.seq (.ret (.cmp .is (.var 0) (.cst .non)))
 .nil) .nil)
 (.seq (.ifs (.tE (.isi (.var 1) .bool)) (.seq (.ret (.ite (.tE (.var 1)) (.cmp .is (.var 0) (.cst (.bl true))) (.cmp .is (.var 0) (.cst (.bl false)))))
 .nil) .nil)
 (.seq (.ifs (.tE (.isi (.var 1) .str)) (.seq (.ret (.and (.isi (.var 0) .str) (.cmp .eq (.var 0) (.var 1))))
 .nil) .nil)
 (.seq (.ret (.and (.call "_law_int" (.cons (.var 0) .nil)) (.cmp .eq (.var 0) (.var 1))))
 .nil))))) }
end Lb
namespace Lb
open Mp
/-! ### the hand of numbers -/
def Hn (rest h : LH) : Prop := ∃ (cs : List Int) (i r s : Int), h = O.dead :: O.lst [.fl (cs.map .int), .int i, .int r, .int s] :: rest ∧ (∀ c ∈ cs, 0 ≤ c) ∧ 0 ≤ i ∧ 0 ≤ r ∧ 0 ≤ s
structure Hand (D : String → Option Def) : Prop where
  mixed : D "_law_mixed" = some d__law_mixed
  take : D "_law_take" = some d__law_take
  hand : D "_law_hand" = some d__law_hand
section
variable {T : Tab} {D : String → Option Def} {n : Nat} {rest h : LH} (d : Hand D)
include d
theorem mixed_sp {a b : Int} (ha : 0 ≤ a) (hb : 0 ≤ b) : Ok (call T D (n + 1) "_law_mixed" [.int a, .int b] h) fun w h' => h' = h ∧ ∃ r : Int, w = .int r ∧ 0 ≤ r := by
  rw [Ok_call d.mixed rfl]
  simp [d__law_mixed]
  have h1 := Int.emod_nonneg (a * 48271 + b * 7919 + 30011) (show (2147483399 : Int) ≠ 0 by decide)
  have h2 := Int.emod_lt_of_pos (a * 48271 + b * 7919 + 30011) (show (0 : Int) < 2147483399 by decide)
  refine ⟨⟨by omega, by omega⟩, ?_⟩
  apply Int.ediv_nonneg _ (by decide)
  exact Int.emod_nonneg _ (by decide)
theorem take_sp {m : Int} (hh : Hn rest h) (h0 : 0 < m) (h1 : m < 1073741824) : Ok (call T D (n + 2) "_law_take" [.ref 1, .int m] h) fun w h' => Hn rest h' ∧ ∃ r : Nat, w = .int r ∧ (r : Int) < m := by
  obtain ⟨cs, i, r, s, rfl, hc, hi, hr, hs⟩ := hh
  rw [Ok_call d.take rfl]
  have fin : ∀ {x : Int} {h : LH}, 0 ≤ x → Hn rest h → Hn rest h ∧ ∃ r : Nat, W.int (x % m) = .int r ∧ (r : Int) < m := fun {x h} hx hh => by
    have a1 := Int.emod_nonneg x (show m ≠ 0 by omega)
    have a2 := Int.emod_lt_of_pos x h0
    exact ⟨hh, (x % m).toNat, by rw [Int.toNat_of_nonneg a1], by rw [Int.toNat_of_nonneg a1]; exact a2⟩
  by_cases hr0 : r = 0
  · subst hr0
    by_cases hlt : i < cs.length
    · obtain ⟨c, hc1, hc2⟩ := ix_get hi hlt
      have hc0 := hc c hc2
      have hm : ix (cs.map W.int) i = some (.int c) := by rw [ix_map, hc1]; rfl
      by_cases hbig : c < 1000000000000000000
      · simp [d__law_take, hlt, hm, hbig]
        refine Ok.mono (mixed_sp d (Int.emod_nonneg _ (by decide)) (by omega)) ?_
        rintro _ _ ⟨rfl, x, rfl, hx⟩
        simp [h0]
        simpa using fin hx ⟨cs, i + 1, 0, s, rfl, hc, by omega, by omega, hs⟩
      · have : 0 < c := by omega
        simp [d__law_take, hlt, hm, hbig, h0, h1, this]
        simpa using fin hc0 ⟨cs, i + 1, c / m, s, rfl, hc, by omega, Int.ediv_nonneg hc0 (by omega), hs⟩
    · simp [d__law_take, hlt]
      have h5 := Int.emod_nonneg (s + 1) (show (2147483549 : Int) ≠ 0 by decide)
      refine Ok.mono (mixed_sp d h5 hi) ?_
      rintro _ _ ⟨rfl, x, rfl, hx⟩
      simp [h0]
      simpa using fin hx ⟨cs, i, 0, _, rfl, hc, hi, by omega, h5⟩
  · have : 0 < r := by omega
    simp [d__law_take, hr0, h0, h1, this]
    simpa using fin hr ⟨cs, i, r / m, s, rfl, hc, hi, Int.ediv_nonneg hr (by omega), hs⟩
theorem hand_sp {ns : List Int} (hl : ns.length ≤ 63) : Ok (call T D (n + 1) "_law_hand" [.rd (ns.map .int)] []) fun w h' => w = .ref 1 ∧ Hn [] h' := by
  rw [Ok_call d.hand rfl]
  simp [d__law_hand]
  refine forL_ok (fun ws σ h => ∃ (us cs : List Int) (t : Int), ws = us.map .int ∧ σ = [some (.rd (ns.map .int)), some (.int t), some (.ref 0), none] ∧ h = [.lst (cs.map .int)] ∧ 0 ≤ t ∧ (∀ c ∈ cs, 0 ≤ c) ∧ cs.length + us.length ≤ 63) ?_ ?_ ⟨ns, [], (ns.length : Int) + 41, rfl, rfl, rfl, by omega, by simp, by simpa using hl⟩
  · rintro σ h ⟨us, cs, t, hu, rfl, rfl, ht, hc, _⟩
    simp
    exact ⟨cs, 0, 0, t, rfl, hc, by omega, by omega, ht⟩
  · rintro w ws σ h ⟨us, cs, t, hu, rfl, rfl, ht, hc, hlen⟩
    cases us with
    | nil => cases hu
    | cons u us =>
      simp at hu hlen
      obtain ⟨rfl, rfl⟩ := hu
      refine ⟨rfl, _, rfl, ?_⟩
      have hb : cs.length < big := by unfold big; omega
      simp [isLst, evLm, hb]
      refine ⟨us, rfl, cs ++ [if u < 0 then -u else u], by simp, Int.emod_nonneg _ (by decide), ?_, by simp; omega⟩
      intro c hcm
      rcases List.mem_append.mp hcm with h1 | h1
      · exact hc c h1
      · simp at h1
        subst h1
        split <;> omega
end
end Lb
namespace Lb
open Mp
/-! ### bits -/
theorem band_nat (a b : Nat) : PySem.Builtin.bitAnd (a : Int) (b : Int) = ((a &&& b : Nat) : Int) := PySem.W.os_band a b
theorem bor_nat (a b : Nat) : PySem.Builtin.bitOr (a : Int) (b : Int) = ((a ||| b : Nat) : Int) := by
  rw [L2.bitOr_nn (Int.natCast_nonneg a) (Int.natCast_nonneg b), Int.toNat_natCast, Int.toNat_natCast]
theorem shr_nat (a k : Nat) : (a : Int) / 2 ^ k = ((a / 2 ^ k : Nat) : Int) := by simp
theorem shl_one (k : Nat) : (1 : Int) * 2 ^ k = ((2 ^ k : Nat) : Int) := by simp
theorem two_pow (k : Nat) : (2 : Int) ^ k = ((2 ^ k : Nat) : Int) := by simp
theorem bit_one (a k : Nat) : PySem.Builtin.bitAnd ((a : Int) / 2 ^ k) 1 = 1 ↔ a.testBit k = true := by
  rw [shr_nat, show (1 : Int) = ((1 : Nat) : Int) from rfl, band_nat, Nat.testBit_eq_decide_div_mod_eq, Nat.and_one_is_mod, decide_eq_true_iff]
  generalize a / 2 ^ k = z
  omega
theorem bit_mod (a k : Nat) : ((a : Int) / 2 ^ k) % 2 = 1 ↔ a.testBit k = true := by
  rw [shr_nat, Nat.testBit_eq_decide_div_mod_eq, decide_eq_true_iff]
  generalize a / 2 ^ k = z
  omega
theorem sub_iff (a b : Nat) : a &&& b = a ↔ ∀ k, a.testBit k = true → b.testBit k = true := by
  constructor
  · intro h k hk
    have := congrArg (fun z => Nat.testBit z k) h
    simp [hk] at this
    exact this
  · intro h
    apply Nat.eq_of_testBit_eq
    intro k
    rw [Nat.testBit_and]
    cases hk : a.testBit k
    · simp
    · simp [h k hk]
theorem bit_lt {a k : Nat} {v : Nat} (h : a < 2 ^ v) (hk : a.testBit k = true) : k < v := by
  refine Classical.byContradiction fun z => ?_
  have := Nat.testBit_lt_two_pow (Nat.lt_of_lt_of_le h (Nat.pow_le_pow_right (by decide) (Nat.le_of_not_lt z)))
  rw [hk] at this
  cases this
/-! ### next and back lots -/
def nxF : List Nat → Nat → Nat → Nat → Nat
  | [], _, _, acc => acc
  | r :: rs, i, lot, acc => nxF rs (i + 1) lot (if lot.testBit i = true then acc ||| r else acc)
def nx (row : List Nat) (lot : Nat) : Nat := nxF row 0 lot 0
def bkF : List Nat → Nat → Nat → Nat → Nat
  | [], _, _, acc => acc
  | r :: rs, i, lot, acc => bkF rs (i + 1) lot (if r &&& lot = r then acc ||| 2 ^ i else acc)
def bk (row : List Nat) (lot : Nat) : Nat := bkF row 0 lot 0
theorem nxF_bit : ∀ (rs : List Nat) (i lot acc k : Nat), (nxF rs i lot acc).testBit k = true ↔ acc.testBit k = true ∨ ∃ j r, rs[j]? = some r ∧ lot.testBit (i + j) = true ∧ r.testBit k = true
  | [], i, lot, acc, k => by simp [nxF]
  | r :: rs, i, lot, acc, k => by
    unfold nxF
    rw [nxF_bit rs]
    constructor
    · rintro (h | ⟨j, r', h1, h2, h3⟩)
      · split at h
        · rename_i hb
          rw [Nat.testBit_or, Bool.or_eq_true] at h
          rcases h with h | h
          · exact .inl h
          · exact .inr ⟨0, r, rfl, hb, h⟩
        · exact .inl h
      · exact .inr ⟨j + 1, r', by simpa using h1, by rw [show i + (j + 1) = i + 1 + j by omega]; exact h2, h3⟩
    · rintro (h | ⟨j, r', h1, h2, h3⟩)
      · left
        split
        · rw [Nat.testBit_or, h]; rfl
        · exact h
      · cases j with
        | zero =>
          left
          simp at h1 h2
          subst h1
          rw [if_pos h2, Nat.testBit_or, h3, Bool.or_true]
        | succ j => exact .inr ⟨j, r', by simpa using h1, by rw [show i + 1 + j = i + (j + 1) by omega]; exact h2, h3⟩
theorem nx_bit (row : List Nat) (lot k : Nat) : (nx row lot).testBit k = true ↔ ∃ j r, row[j]? = some r ∧ lot.testBit j = true ∧ r.testBit k = true := by
  unfold nx
  rw [nxF_bit]
  simp
theorem bkF_bit : ∀ (rs : List Nat) (i lot acc k : Nat), (bkF rs i lot acc).testBit k = true ↔ acc.testBit k = true ∨ ∃ j r, rs[j]? = some r ∧ r &&& lot = r ∧ k = i + j
  | [], i, lot, acc, k => by simp [bkF]
  | r :: rs, i, lot, acc, k => by
    unfold bkF
    rw [bkF_bit rs]
    constructor
    · rintro (h | ⟨j, r', h1, h2, h3⟩)
      · split at h
        · rename_i hb
          rw [Nat.testBit_or, Bool.or_eq_true] at h
          rcases h with h | h
          · exact .inl h
          · rw [Nat.testBit_two_pow] at h
            have := of_decide_eq_true h
            exact .inr ⟨0, r, rfl, hb, by omega⟩
        · exact .inl h
      · exact .inr ⟨j + 1, r', by simpa using h1, h2, by omega⟩
    · rintro (h | ⟨j, r', h1, h2, h3⟩)
      · left
        split
        · rw [Nat.testBit_or, h]; rfl
        · exact h
      · cases j with
        | zero =>
          left
          simp at h1
          subst h1
          subst h3
          rw [if_pos h2, Nat.testBit_or, Nat.testBit_two_pow]
          simp
        | succ j => exact .inr ⟨j, r', by simpa using h1, h2, by omega⟩
theorem bk_bit (row : List Nat) (lot k : Nat) : (bk row lot).testBit k = true ↔ ∃ r, row[k]? = some r ∧ r &&& lot = r := by
  unfold bk
  rw [bkF_bit]
  simp
  constructor
  · rintro ⟨j, r, h1, h2, rfl⟩; exact ⟨r, h1, h2⟩
  · rintro ⟨r, h1, h2⟩; exact ⟨k, r, h1, h2, rfl⟩
/-- next of S within T exactly if S within back of T -/
theorem adjoint {row : List Nat} {S T : Nat} (hS : S < 2 ^ row.length) : nx row S &&& T = nx row S ↔ S &&& bk row T = S := by
  rw [sub_iff, sub_iff]
  constructor
  · intro h k hk
    have hlt := bit_lt hS hk
    rw [bk_bit]
    refine ⟨row[k], by simp [hlt], ?_⟩
    rw [sub_iff]
    intro j hj
    exact h j ((nx_bit ..).mpr ⟨k, row[k], by simp [hlt], hk, hj⟩)
  · intro h k hk
    obtain ⟨j, r, h1, h2, h3⟩ := (nx_bit ..).mp hk
    obtain ⟨r', h4, h5⟩ := (bk_bit ..).mp (h j h2)
    rw [h1] at h4
    cases h4
    exact (sub_iff _ _).mp h5 k h3
theorem nat_ext {a b : Nat} (h : ∀ k, a.testBit k = true ↔ b.testBit k = true) : a = b := by
  apply Nat.eq_of_testBit_eq
  intro k
  exact Bool.eq_iff_iff.mpr (h k)
theorem nx_behind {one other : List Nat} {S : Nat} : nx (one.map (nx other)) S = nx other (nx one S) := by
  apply nat_ext
  intro k
  rw [nx_bit, nx_bit]
  constructor
  · rintro ⟨j, r, h1, h2, h3⟩
    rw [List.getElem?_map] at h1
    obtain ⟨r0, h4, rfl⟩ := Option.map_eq_some_iff.mp h1
    obtain ⟨i, q, h5, h6, h7⟩ := (nx_bit ..).mp h3
    exact ⟨i, q, h5, (nx_bit ..).mpr ⟨j, r0, h4, h2, h6⟩, h7⟩
  · rintro ⟨i, q, h5, h6, h7⟩
    obtain ⟨j, r0, h4, h2, h8⟩ := (nx_bit ..).mp h6
    exact ⟨j, nx other r0, by rw [List.getElem?_map, h4]; rfl, h2, (nx_bit ..).mpr ⟨i, q, h5, h8, h7⟩⟩
theorem bk_behind {one other : List Nat} {T : Nat} (h : ∀ r ∈ one, r < 2 ^ other.length) : bk (one.map (nx other)) T = bk one (bk other T) := by
  apply nat_ext
  intro k
  rw [bk_bit, bk_bit]
  constructor
  · rintro ⟨r, h1, h2⟩
    rw [List.getElem?_map] at h1
    obtain ⟨r0, h4, rfl⟩ := Option.map_eq_some_iff.mp h1
    exact ⟨r0, h4, (adjoint (h r0 (List.mem_of_getElem? h4))).mp h2⟩
  · rintro ⟨r0, h4, h5⟩
    exact ⟨nx other r0, by rw [List.getElem?_map, h4]; rfl, (adjoint (h r0 (List.mem_of_getElem? h4))).mpr h5⟩
def joinN (a b : List Nat) : List Nat := (a.zip b).map fun p => p.1 ||| p.2
theorem bk_join {a b : List Nat} {T : Nat} (hl : a.length = b.length) : bk (joinN a b) T = bk a T &&& bk b T := by
  apply nat_ext
  intro k
  rw [Nat.testBit_and, Bool.and_eq_true, bk_bit, bk_bit, bk_bit]
  have or_sub : ∀ x y : Nat, (x ||| y) &&& T = x ||| y ↔ x &&& T = x ∧ y &&& T = y := fun x y => by
    rw [sub_iff, sub_iff, sub_iff]
    constructor
    · intro h
      exact ⟨fun k hk => h k (by rw [Nat.testBit_or, hk]; rfl), fun k hk => h k (by rw [Nat.testBit_or, hk, Bool.or_true])⟩
    · rintro ⟨h1, h2⟩ k hk
      rw [Nat.testBit_or, Bool.or_eq_true] at hk
      rcases hk with hk | hk
      · exact h1 k hk
      · exact h2 k hk
  constructor
  · rintro ⟨r, h1, h2⟩
    unfold joinN at h1
    rw [List.getElem?_map] at h1
    obtain ⟨p, h3, rfl⟩ := Option.map_eq_some_iff.mp h1
    rw [List.getElem?_zip_eq_some] at h3
    obtain ⟨h4, h5⟩ := (or_sub _ _).mp h2
    exact ⟨⟨p.1, h3.1, h4⟩, p.2, h3.2, h5⟩
  · rintro ⟨⟨x, h1, h2⟩, y, h3, h4⟩
    refine ⟨x ||| y, ?_, (or_sub _ _).mpr ⟨h2, h4⟩⟩
    unfold joinN
    rw [List.getElem?_map, (List.getElem?_zip_eq_some (z := (x, y))).mpr ⟨h1, h3⟩]
    rfl
def testN (v kept : Nat) : List Nat := (List.range v).map fun s => 2 ^ s &&& kept
theorem testN_get {v kept k : Nat} : (testN v kept)[k]? = if k < v then some (2 ^ k &&& kept) else none := by
  unfold testN
  rw [List.getElem?_map]
  by_cases h : k < v
  · rw [List.getElem?_range h, if_pos h]; rfl
  · rw [if_neg h]
    have : (List.range v)[k]? = none := by simp; omega
    rw [this]; rfl
theorem nx_test {v kept S : Nat} (hS : S < 2 ^ v) : nx (testN v kept) S = S &&& kept := by
  apply nat_ext
  intro k
  rw [nx_bit, Nat.testBit_and, Bool.and_eq_true]
  constructor
  · rintro ⟨j, r, h1, h2, h3⟩
    rw [testN_get] at h1
    split at h1
    · cases h1
      rw [Nat.testBit_and, Nat.testBit_two_pow, Bool.and_eq_true] at h3
      have := of_decide_eq_true h3.1
      subst this
      exact ⟨h2, h3.2⟩
    · cases h1
  · rintro ⟨h1, h2⟩
    have hk := bit_lt hS h1
    exact ⟨k, _, by rw [testN_get, if_pos hk], h1, by rw [Nat.testBit_and, Nat.testBit_two_pow, h2]; simp⟩
theorem bk_test {v kept S : Nat} (hS : S < 2 ^ v) (hK : kept < 2 ^ v) : bk (testN v kept) S = ((2 ^ v - 1) ^^^ kept) ||| S := by
  apply nat_ext
  intro k
  rw [bk_bit, Nat.testBit_or, Bool.or_eq_true, Nat.testBit_xor, Nat.testBit_two_pow_sub_one]
  constructor
  · rintro ⟨r, h1, h2⟩
    rw [testN_get] at h1
    split at h1
    · rename_i hk
      cases h1
      cases hb : kept.testBit k
      · left; simp [hk]
      · right
        exact (sub_iff _ _).mp h2 k (by rw [Nat.testBit_and, Nat.testBit_two_pow, hb]; simp)
    · cases h1
  · intro h
    have hk : k < v := by
      rcases h with h | h
      · refine Classical.byContradiction fun z => ?_
        have : kept.testBit k = false := Nat.testBit_lt_two_pow (Nat.lt_of_lt_of_le hK (Nat.pow_le_pow_right (by decide) (Nat.le_of_not_lt z)))
        simp [this, z] at h
      · exact bit_lt hS h
    refine ⟨_, by rw [testN_get, if_pos hk], ?_⟩
    rw [sub_iff]
    intro j hj
    rw [Nat.testBit_and, Nat.testBit_two_pow, Bool.and_eq_true] at hj
    have := of_decide_eq_true hj.1
    subst this
    rcases h with h | h
    · simp [hj.2, hk] at h
    · exact h
end Lb
namespace Lb
open Mp
/-! ### wholes, stands, lots, rows -/
def nats (ns : List Nat) : List W := ns.map fun (n : Nat) => W.int n
theorem nats_length (ns : List Nat) : (nats ns).length = ns.length := by unfold nats; simp
theorem nats_get (ns : List Nat) (i : Nat) : (nats ns)[i]? = (ns[i]?).map fun (n : Nat) => W.int n := by unfold nats; simp
/-- a tuple, or a list that stays -/
def Sq (w : W) (xs : List W) : Prop := w = .tup xs ∨ w = .fl xs
structure Wh (D : String → Option Def) : Prop where
  isw : D "is_whole" = some d_is_whole
  isq : D "is_sequence" = some d_is_sequence
  cst : D "check_stands" = some d_check_stands
  als : D "all_stands" = some d_all_stands
  clo : D "check_lot" = some d_check_lot
structure Ro (D : String → Option Def) : Prop extends Wh D where
  cro : D "check_row" = some d_check_row
  crs : D "check_rows" = some d_check_rows
  nxt : D "next_lot" = some d_next_lot
  bck : D "back_lot" = some d_back_lot
  tst : D "test_row" = some d_test_row
  joi : D "joined_row" = some d_joined_row
  beh : D "behind_row" = some d_behind_row
section
variable {T : Tab} {D : String → Option Def} {n : Nat} {h : LH}
theorem isw_eq (d : Wh D) {x lo hi : Int} : call T D (n + 1) "is_whole" [.int x, .int lo, .int hi] h = .ok (.bl (decide (lo ≤ x ∧ x ≤ hi))) h := by
  apply Ok.eq
  rw [Ok_call d.isw rfl]
  by_cases h1 : x < lo
  · have : ¬ lo ≤ x := by omega
    simp [d_is_whole, tyOk, tyB, tyOf, kit, tyName, h1, this]
  · have : lo ≤ x := by omega
    simp [d_is_whole, tyOk, tyB, tyOf, kit, tyName, h1, this]
theorem cst_eq (d : Wh D) {v : Nat} (h1 : 1 ≤ v) (h2 : v ≤ 6) : call T D (n + 2) "check_stands" [.int v] h = .ok (.int v) h := by
  apply Ok.eq
  rw [Ok_call d.cst rfl]
  have e1 : (1 : Int) ≤ (v : Int) := by omega
  have e2 : (v : Int) ≤ 6 := by omega
  simp [d_check_stands, isw_eq d, e1, e2]
theorem als_eq (d : Wh D) {v : Nat} (h1 : 1 ≤ v) (h2 : v ≤ 6) : call T D (n + 3) "all_stands" [.int v] h = .ok (.int (2 ^ v - 1)) h := by
  apply Ok.eq
  rw [Ok_call d.als rfl]
  simp [d_all_stands, cst_eq d h1 h2]
  omega
theorem clo_eq (d : Wh D) {v l : Nat} (h1 : 1 ≤ v) (h2 : v ≤ 6) (hl : l < 2 ^ v) : call T D (n + 4) "check_lot" [.int v, .int l] h = .ok (.int l) h := by
  apply Ok.eq
  rw [Ok_call d.clo rfl]
  have e2 : (l : Int) ≤ 2 ^ v - 1 := by rw [two_pow]; omega
  simp [d_check_lot, isw_eq d, als_eq d h1 h2, e2]
theorem isq_eq (d : Wh D) {w : W} {xs : List W} (hw : Sq w xs) : call T D (n + 1) "is_sequence" [w] h = .ok (.bl true) h := by
  apply Ok.eq
  rw [Ok_call d.isq rfl]
  rcases hw with rfl | rfl <;> simp [d_is_sequence, tyAny, tyB, tyOf, kit, tyName]
theorem len_sq {w : W} {xs : List W} (hw : Sq w xs) {P : W → LH → Prop} : Ok (evF .len [w] h) P = P (.int xs.length) h := by
  rcases hw with rfl | rfl <;> rfl
theorem tup_sq {w : W} {xs : List W} (hw : Sq w xs) {P : W → LH → Prop} : Ok (evF .tuple [w] h) P = P (.tup xs) h := by
  rcases hw with rfl | rfl <;> rfl
theorem lst_sq {w : W} {xs : List W} (hw : Sq w xs) {P : W → LH → Prop} : Ok (evF .list [w] h) P = P (.fl xs) h := by
  rcases hw with rfl | rfl <;> rfl
theorem seq_sq {w : W} {xs : List W} (hw : Sq w xs) : seqOf h w = some xs := by
  rcases hw with rfl | rfl <;> rfl
theorem gd_sq {w : W} {xs : List W} (hw : Sq w xs) : gdOf h w = [] := by
  rcases hw with rfl | rfl <;> rfl
theorem ix_sq {w : W} {xs : List W} {i : Int} (hw : Sq w xs) {P : W → LH → Prop} : Ok (evIx w (.int i) h) P = ∃ v, ix xs i = some v ∧ P v h := by
  rcases hw with rfl | rfl
  · exact ok_ixT
  · exact ok_ixF
theorem cro_eq (d : Ro D) {v : Nat} {w : W} {ns : List Nat} (h1 : 1 ≤ v) (h2 : v ≤ 6) (hw : Sq w (nats ns)) (hl : ns.length = v) (hb : ∀ r ∈ ns, r < 2 ^ v) : call T D (n + 4) "check_row" [.int v, w] h = .ok (.tup (nats ns)) h := by
  apply Ok.eq
  rw [Ok_call d.cro rfl]
  have e1 : (ns.length : Int) = (v : Int) := by omega
  simp [d_check_row, cst_eq d.toWh h1 h2, isq_eq d.toWh hw, len_sq hw, nats_length, e1, seq_sq hw, gd_sq hw, tup_sq hw]
  refine forL_ok (fun ws σ h' => h' = h ∧ σ = [some (.int v), some w, none, none] ∧ ∃ k us, ws = enumW k (nats us) ∧ ∀ r ∈ us, r < 2 ^ v) ?_ ?_ ⟨rfl, rfl, 0, ns, rfl, hb⟩
  · rintro σ h' ⟨rfl, rfl, _⟩
    simp [tup_sq hw]
  · rintro x ws σ h' ⟨rfl, rfl, k, us, hu, hu2⟩
    cases us with
    | nil => cases hu
    | cons u us =>
      have hu' : x :: ws = W.tup [.int k, .int u] :: enumW (k + 1) (nats us) := hu
      cases hu'
      refine ⟨rfl, _, rfl, ?_⟩
      have e2 : (u : Int) ≤ 2 ^ v - 1 := by rw [two_pow]; have := hu2 u (List.mem_cons_self ..); omega
      simp [isw_eq d.toWh, als_eq d.toWh h1 h2, e2]
      exact ⟨k + 1, us, rfl, fun r hr => hu2 r (List.mem_cons_of_mem _ hr)⟩
theorem nxt_eq (d : Ro D) {w : W} {ns : List Nat} {lot : Nat} (hw : Sq w (nats ns)) : call T D (n + 1) "next_lot" [w, .int lot] h = .ok (.int (nx ns lot)) h := by
  apply Ok.eq
  rw [Ok_call d.nxt rfl]
  simp [d_next_lot, seq_sq hw, gd_sq hw]
  refine forL_ok (fun ws σ h' => h' = h ∧ ∃ (k acc : Nat) (us : List Nat), ws = enumW k (nats us) ∧ σ = [some w, some (.int lot), some (.int acc), none, none] ∧ nxF us k lot acc = nx ns lot) ?_ ?_ ⟨rfl, 0, 0, ns, rfl, rfl, rfl⟩
  · rintro σ h' ⟨rfl, k, acc, us, hu, rfl, e⟩
    cases us with
    | nil => simp; exact congrArg (Nat.cast : Nat → Int) (show acc = nx ns lot from e)
    | cons u us => cases hu
  · rintro x ws σ h' ⟨rfl, k, acc, us, hu, rfl, e⟩
    cases us with
    | nil => cases hu
    | cons u us =>
      have hu' : x :: ws = W.tup [.int k, .int u] :: enumW (k + 1) (nats us) := hu
      cases hu'
      refine ⟨rfl, _, rfl, ?_⟩
      unfold nxF at e
      simp [bit_one, bor_nat]
      by_cases hb : lot.testBit k = true
      · rw [if_pos hb] at e
        simp [hb]
        exact ⟨k + 1, acc ||| u, us, rfl, rfl, e⟩
      · rw [if_neg hb] at e
        simp [hb]
        exact ⟨k + 1, acc, us, rfl, rfl, e⟩
theorem bck_eq (d : Ro D) {w : W} {ns : List Nat} {lot : Nat} (hw : Sq w (nats ns)) (hl : ns.length ≤ 1000) : call T D (n + 1) "back_lot" [w, .int lot] h = .ok (.int (bk ns lot)) h := by
  apply Ok.eq
  rw [Ok_call d.bck rfl]
  simp [d_back_lot, seq_sq hw, gd_sq hw]
  refine forL_ok (fun ws σ h' => h' = h ∧ ∃ (k acc : Nat) (us : List Nat), ws = enumW k (nats us) ∧ σ = [some w, some (.int lot), some (.int acc), none, none] ∧ bkF us k lot acc = bk ns lot ∧ k + us.length ≤ 1000) ?_ ?_ ⟨rfl, 0, 0, ns, rfl, rfl, rfl, by omega⟩
  · rintro σ h' ⟨rfl, k, acc, us, hu, rfl, e, hk⟩
    cases us with
    | nil => simp; exact congrArg (Nat.cast : Nat → Int) (show acc = bk ns lot from e)
    | cons u us => cases hu
  · rintro x ws σ h' ⟨rfl, k, acc, us, hu, rfl, e, hk⟩
    cases us with
    | nil => cases hu
    | cons u us =>
      have hu' : x :: ws = W.tup [.int k, .int u] :: enumW (k + 1) (nats us) := hu
      cases hu'
      refine ⟨rfl, _, rfl, ?_⟩
      unfold bkF at e
      have e3 : (k : Int) ≤ 1000000 := by simp at hk; omega
      have e4 : ((u &&& lot : Nat) : Int) = (u : Int) ↔ u &&& lot = u := by omega
      simp [band_nat, e4, e3]
      by_cases hb : u &&& lot = u
      · rw [if_pos hb] at e
        simp [hb, two_pow, bor_nat, -Int.natCast_pow]
        exact ⟨k + 1, acc ||| 2 ^ k, us, rfl, rfl, e, by simp at hk; omega⟩
      · rw [if_neg hb] at e
        simp [hb]
        exact ⟨k + 1, acc, us, rfl, rfl, e, by simp at hk; omega⟩
theorem beh_eq (d : Ro D) {w v : W} {ns ms : List Nat} (hw : Sq w (nats ns)) (hv : Sq v (nats ms)) (hl : ns.length ≤ big) : call T D (n + 2) "behind_row" [w, v] h = .ok (.tup (nats (ns.map (nx ms)))) h := by
  apply Ok.eq
  rw [Ok_call d.beh rfl]
  simp [d_behind_row, seq_sq hw, gd_sq hw, nats_length, hl]
  rw [compL_map (fun x => match x with | .int i => .int (nx ms i.toNat) | x => x) rfl]
  · simp
    unfold nats
    rw [List.map_map, List.map_map]
    rfl
  · intro x hx
    obtain ⟨u, hu, rfl⟩ := List.mem_map.mp hx
    refine ⟨_, rfl, rfl, ?_⟩
    apply Ok.eq
    simp [nxt_eq d hv]
theorem rngW_nat (v : Nat) : rngW 0 (v : Int) = (List.range v).map fun (s : Nat) => W.int s := by
  unfold rngW
  simp
theorem tst_eq (d : Ro D) {v l : Nat} (h1 : 1 ≤ v) (h2 : v ≤ 6) (hl : l < 2 ^ v) : call T D (n + 5) "test_row" [.int v, .int l] h = .ok (.tup (nats (testN v l))) h := by
  apply Ok.eq
  rw [Ok_call d.tst rfl]
  have e1 : okRng 0 (v : Int) = true := by unfold okRng; apply decide_eq_true; unfold big; omega
  have e2 : v ≤ big := by unfold big; omega
  simp [d_test_row, cst_eq d.toWh h1 h2, clo_eq d.toWh h1 h2 hl, e1, rngW_nat, e2]
  rw [compL_map (fun x => match x with | .int i => .int ((2 ^ i.toNat &&& l : Nat) : Int) | x => x) rfl]
  · simp
    unfold nats testN
    rw [List.map_map]
    rfl
  · intro x hx
    obtain ⟨u, hu, rfl⟩ := List.mem_map.mp hx
    refine ⟨_, rfl, rfl, ?_⟩
    have hu2 := List.mem_range.mp hu
    have e3 : (u : Int) ≤ 1000000 := by omega
    apply Ok.eq
    simp [e3, two_pow, band_nat, -Int.natCast_pow]
    rw [Nat.and_comm]
theorem joi_eq (d : Ro D) {w v : W} {ns ms : List Nat} (hw : Sq w (nats ns)) (hv : Sq v (nats ms)) (hl : ns.length ≤ big) : call T D (n + 1) "joined_row" [w, v] h = .ok (.tup (nats (joinN ns ms))) h := by
  apply Ok.eq
  rw [Ok_call d.joi rfl]
  have e0 : zipW (nats ns) (nats ms) = (ns.zip ms).map fun (p : Nat × Nat) => W.tup [.int p.1, .int p.2] := by
    rw [zipW_eq]
    unfold nats
    rw [List.zip_map, List.map_map]
    rfl
  have e1 : min ns.length ms.length ≤ big := by omega
  simp [d_joined_row, seq_sq hw, seq_sq hv, gd_sq hw, gd_sq hv, e0, e1]
  rw [compL_map (fun x => match x with | .tup [.int i, .int j] => .int ((i.toNat ||| j.toNat : Nat) : Int) | x => x) rfl]
  · simp
    unfold nats joinN
    rw [List.map_map]
    rfl
  · intro x hx
    obtain ⟨p, hp, rfl⟩ := List.mem_map.mp hx
    refine ⟨_, rfl, rfl, ?_⟩
    apply Ok.eq
    simp [bor_nat]
end
end Lb
namespace Lb
open Mp
/-! ### what the laws draw, and their own sums -/
structure Lr (D : String → Option Def) : Prop extends Hand D where
  std : D "_law_stands" = some d__law_stands
  evr : D "_law_every" = some d__law_every
  wit : D "_law_within" = some d__law_within
  sin : D "_law_single" = some d__law_single
  drw : D "_law_drawn_row" = some d__law_drawn_row
  lnx : D "_law_next" = some d__law_next
  lbk : D "_law_back" = some d__law_back
  lst : D "_law_list" = some d__law_list
  lin : D "_law_int" = some d__law_int
  exa : D "_law_exact" = some d__law_exact
/-- each of them a whole below m -/
def Bel (m : Nat) (y : W) : Prop := ∃ r : Nat, y = .int r ∧ r < m
theorem nats_of {m : Nat} : ∀ {ys : List W}, (∀ y ∈ ys, Bel m y) → ∃ ns : List Nat, ys = nats ns ∧ (∀ r ∈ ns, r < m) ∧ ns.length = ys.length
  | [], _ => ⟨[], rfl, fun r hr => (by cases hr), rfl⟩
  | y :: ys, h => by
    obtain ⟨r, rfl, hr⟩ := h y (List.mem_cons_self ..)
    obtain ⟨ns, rfl, h2, h3⟩ := nats_of fun y hy => h y (List.mem_cons_of_mem _ hy)
    refine ⟨r :: ns, rfl, fun q hq => ?_, congrArg Nat.succ h3⟩
    rcases List.mem_cons.mp hq with rfl | hq
    · exact hr
    · exact h2 q hq
theorem ex_nil {h : LH} : evC .eq (.fl []) (.fl []) h = .ok (.bl true) h := by rfl
section
variable {T : Tab} {D : String → Option Def} {n : Nat} {rest h : LH} (d : Lr D)
include d
theorem std_sp (hh : Hn rest h) : Ok (call T D (n + 3) "_law_stands" [.ref 1] h) fun w h' => Hn rest h' ∧ ∃ v : Nat, w = .int v ∧ 1 ≤ v ∧ v ≤ 6 := by
  rw [Ok_call d.std rfl]
  simp [d__law_stands]
  refine Ok.mono (take_sp d.toHand hh (by decide) (by decide)) ?_
  rintro _ h' ⟨hh', r, rfl, hr⟩
  have hr' : r < 16 := by omega
  simp [ix_nat]
  have : r = 0 ∨ r = 1 ∨ r = 2 ∨ r = 3 ∨ r = 4 ∨ r = 5 ∨ r = 6 ∨ r = 7 ∨ r = 8 ∨ r = 9 ∨ r = 10 ∨ r = 11 ∨ r = 12 ∨ r = 13 ∨ r = 14 ∨ r = 15 := by omega
  rcases this with rfl | rfl | rfl | rfl | rfl | rfl | rfl | rfl | rfl | rfl | rfl | rfl | rfl | rfl | rfl | rfl <;> simp [hh'] <;> first
    | exact ⟨3, rfl, by decide, by decide⟩ | exact ⟨4, rfl, by decide, by decide⟩ | exact ⟨2, rfl, by decide, by decide⟩ | exact ⟨5, rfl, by decide, by decide⟩ | exact ⟨6, rfl, by decide, by decide⟩ | exact ⟨1, rfl, by decide, by decide⟩
theorem evr_eq {v : Nat} (hv : v ≤ 6) : call T D (n + 1) "_law_every" [.int v] h = .ok (.int ((2 ^ v - 1 : Nat) : Int)) h := by
  apply Ok.eq
  rw [Ok_call d.evr rfl]
  have e1 : (v : Int) ≤ 1000000 := by omega
  have e2 : ((2 ^ v - 1 : Nat) : Int) = 2 ^ v - 1 := by
    have := Nat.one_le_two_pow (n := v)
    rw [Int.ofNat_sub this]
    simp
  simp [d__law_every, e1, e2]
theorem wit_eq {a b : Nat} : call T D (n + 1) "_law_within" [.int a, .int b] h = .ok (.bl (decide (a &&& b = a))) h := by
  apply Ok.eq
  rw [Ok_call d.wit rfl]
  have e : ((a &&& b : Nat) : Int) = (a : Int) ↔ a &&& b = a := by omega
  simp [d__law_within, band_nat, e]
theorem rng_ok {v : Nat} (hv : v ≤ 1000) : okRng 0 (v : Int) = true ∧ v ≤ big := by
  unfold okRng big
  exact ⟨decide_eq_true (by omega), by omega⟩
theorem pow_lt {v : Nat} (hv : v ≤ 6) : (2 : Int) ^ v < 1073741824 := by
  have : v = 0 ∨ v = 1 ∨ v = 2 ∨ v = 3 ∨ v = 4 ∨ v = 5 ∨ v = 6 := by omega
  rcases this with rfl | rfl | rfl | rfl | rfl | rfl | rfl <;> decide
theorem sin_sp {v : Nat} (h1 : 1 ≤ v) (hv : v ≤ 6) (hh : Hn rest h) : Ok (call T D (n + 3) "_law_single" [.ref 1, .int v] h) fun w h' => Hn rest h' ∧ ∃ ns : List Nat, w = .fl (nats ns) ∧ ns.length = v ∧ ∀ r ∈ ns, r < 2 ^ v := by
  rw [Ok_call d.sin rfl]
  have e := rng_ok d (v := v) (by omega)
  simp [d__law_single, e.1, rngW_nat, e.2]
  refine Ok.mono (compL_draw (Hn rest) (Bel (2 ^ v)) (fun _ _ => rfl) (fun w hw h hh => ⟨_, rfl, rfl, ?_⟩) hh) ?_
  · simp
    refine Ok.mono (take_sp d.toHand hh (by omega) (by omega)) ?_
    rintro _ h' ⟨hh', r, rfl, hr⟩
    have e3 : (r : Int) ≤ 1000000 := by omega
    simp [e3, two_pow, -Int.natCast_pow, hh']
    exact ⟨_, rfl, Nat.pow_lt_pow_right (by decide) (by omega)⟩
  · rintro ys h' ⟨hl, hq, hh'⟩
    obtain ⟨ns, rfl, a1, a2⟩ := nats_of hq
    simp at hl
    exact ⟨hh', ns, rfl, by rw [a2]; exact hl, a1⟩
/-- v lots drawn one by one -/
theorem row_draw {f : Env → LH → R W} {tg : Tg} {σ : Env} {v : Nat} (hh : Hn rest h) (hf : ∀ s < v, ∀ h, Hn rest h → ∃ σ1, bindT tg (.int (s : Nat)) σ = some σ1 ∧ Ok (f σ1 h) fun y h' => Bel (2 ^ v) y ∧ Hn rest h') :
    Ok (compL f (fun σ' h' => evE T (call T D n) (.cst (.bl true)) σ' h') tg σ [] ((List.range v).map fun (s : Nat) => W.int s) h) fun ys h' => Hn rest h' ∧ ∃ ns : List Nat, ys = nats ns ∧ ns.length = v ∧ ∀ r ∈ ns, r < 2 ^ v := by
  refine Ok.mono (compL_draw (Hn rest) (Bel (2 ^ v)) (fun _ _ => rfl) (fun w hw h hh => ?_) hh) ?_
  · obtain ⟨s, hs, rfl⟩ := List.mem_map.mp hw
    obtain ⟨σ1, e1, e2⟩ := hf s (List.mem_range.mp hs) h hh
    exact ⟨σ1, e1, by simp only [evE], e2⟩
  · rintro ys h' ⟨hl, hq, hh'⟩
    obtain ⟨ns, rfl, a1, a2⟩ := nats_of hq
    simp at hl
    exact ⟨hh', ns, rfl, by rw [a2]; exact hl, a1⟩
theorem drw_sp {v : Nat} (h1 : 1 ≤ v) (hv : v ≤ 6) (hh : Hn rest h) : Ok (call T D (n + 4) "_law_drawn_row" [.ref 1, .int v] h) fun w h' => Hn rest h' ∧ ∃ ns : List Nat, w = .fl (nats ns) ∧ ns.length = v ∧ ∀ r ∈ ns, r < 2 ^ v := by
  rw [Ok_call d.drw rfl]
  have e := rng_ok d (v := v) (by omega)
  have ev : (v : Int) ≤ 1000000 := by omega
  have ep := pow_lt d hv
  have ep0 : (0 : Int) < 2 ^ v := by rw [two_pow]; have := Nat.one_le_two_pow (n := v); omega
  simp [d__law_drawn_row]
  refine Ok.mono (take_sp d.toHand hh (by decide) (by decide)) ?_
  rintro _ h' ⟨hh', r, rfl, hr⟩
  have hr' : r < 8 := by omega
  by_cases h3 : r < 3
  · have e3 : (r : Int) < 3 := by omega
    simp [e3]
    exact sin_sp d h1 hv hh'
  have e3 : ¬ (r : Int) < 3 := by omega
  by_cases h4 : r = 3
  · subst h4
    simp [ev]
    refine Ok.mono (take_sp d.toHand hh' ep0 ep) ?_
    rintro _ h2 ⟨hh2, k, rfl, hk⟩
    simp [e.1, rngW_nat, e.2]
    refine Ok.mono (row_draw d hh2 fun s hs h hh => ⟨_, rfl, ?_⟩) fun ys h' ⟨a1, ns, a2, a3⟩ => ⟨a1, ns, by rw [a2], a3⟩
    have e5 : (s : Int) ≤ 1000000 := by omega
    simp [e5, two_pow, band_nat, -Int.natCast_pow, hh]
    refine ⟨_, rfl, ?_⟩
    exact Nat.lt_of_le_of_lt Nat.and_le_left (Nat.pow_lt_pow_right (by decide) hs)
  by_cases h5 : r = 4
  · subst h5
    simp
    refine Ok.mono (take_sp d.toHand hh' (by omega) (by omega)) ?_
    rintro _ h2 ⟨hh2, k, rfl, hk⟩
    simp [e.1, rngW_nat, e.2]
    refine Ok.mono (row_draw d hh2 fun s hs h hh => ⟨_, rfl, ?_⟩) fun ys h' ⟨a1, ns, a2, a3⟩ => ⟨a1, ns, by rw [a2], a3⟩
    by_cases hsk : (s : Int) = (k : Int)
    · simp [hsk]
      refine Ok.mono (take_sp d.toHand hh (by omega) (by omega)) ?_
      rintro _ h3 ⟨hh3, j, rfl, hj⟩
      have e5 : (j : Int) ≤ 1000000 := by omega
      simp [e5, two_pow, -Int.natCast_pow, hh3]
      exact ⟨_, rfl, Nat.pow_lt_pow_right (by decide) (by omega)⟩
    · have e5 : (s : Int) ≤ 1000000 := by omega
      simp [hsk, e5, two_pow, -Int.natCast_pow, hh]
      exact ⟨_, rfl, Nat.pow_lt_pow_right (by decide) hs⟩
  by_cases h6 : r = 5
  · subst h6
    simp [e.1, rngW_nat, e.2]
    refine Ok.mono (row_draw d hh' fun s hs h hh => ⟨_, rfl, ?_⟩) fun ys h' ⟨a1, ns, a2, a3⟩ => ⟨a1, ns, by rw [a2], a3⟩
    simp
    refine Ok.mono (take_sp d.toHand hh (by decide) (by decide)) ?_
    rintro _ h3 ⟨hh3, j, rfl, hj⟩
    by_cases hj0 : j = 0
    · subst hj0
      simp
      exact ⟨⟨0, rfl, Nat.two_pow_pos v⟩, hh3⟩
    · have hj1 : ((j : Int) != 0) = true := by simp [hj0]
      simp [hj0]
      refine Ok.mono (take_sp d.toHand hh3 (by omega) (by omega)) ?_
      rintro _ h4 ⟨hh4, q, rfl, hq⟩
      have e5 : (q : Int) ≤ 1000000 := by omega
      simp [e5, two_pow, -Int.natCast_pow, hh4]
      exact ⟨_, rfl, Nat.pow_lt_pow_right (by decide) (by omega)⟩
  · have e4 : ¬ (r : Int) = 3 := by omega
    have e5 : ¬ (r : Int) = 4 := by omega
    have e6 : ¬ (r : Int) = 5 := by omega
    simp [e3, e4, e5, e6, e.1, rngW_nat, e.2]
    refine Ok.mono (row_draw d hh' fun s hs h hh => ⟨_, rfl, ?_⟩) fun ys h' ⟨a1, ns, a2, a3⟩ => ⟨a1, ns, by rw [a2], a3⟩
    simp [ev]
    refine Ok.mono (take_sp d.toHand hh ep0 ep) ?_
    rintro _ h3 ⟨hh3, j, rfl, hj⟩
    exact ⟨⟨j, rfl, by rw [two_pow] at hj; omega⟩, hh3⟩
end
end Lb
namespace Lb
open Mp
/-- what `_law_exact` takes, k deep -/
def exD : Nat → W → Prop
  | _, .non => True
  | _, .bl _ => True
  | _, .int _ => True
  | k + 1, .tup xs => xs.length ≤ 1000 ∧ ∀ x ∈ xs, exD k x
  | _, _ => False
theorem exD_tup {k : Nat} {xs : List W} (h1 : xs.length ≤ 1000) (h2 : ∀ x ∈ xs, exD k x) : exD (k + 1) (.tup xs) := by
  unfold exD
  exact ⟨h1, h2⟩
theorem exD_nats {k : Nat} {ns : List Nat} (hl : ns.length ≤ 1000) : exD (k + 1) (.tup (nats ns)) := by
  refine ⟨by rw [nats_length]; exact hl, fun x hx => ?_⟩
  obtain ⟨u, _, rfl⟩ := List.mem_map.mp hx
  cases k <;> exact trivial
section
variable {T : Tab} {D : String → Option Def} {n : Nat} {rest h : LH} (d : Lr D)
include d
theorem lin_eq {i : Int} : call T D (n + 1) "_law_int" [.int i] h = .ok (.bl true) h := by
  apply Ok.eq
  rw [Ok_call d.lin rfl]
  simp [d__law_int, tyOk, tyB, tyOf, kit, tyName]
theorem exa_sc {w : W} (hw : w = .non ∨ (∃ b, w = .bl b) ∨ ∃ i, w = .int i) : call T D (n + 2) "_law_exact" [w, w] h = .ok (.bl true) h := by
  apply Ok.eq
  rw [Ok_call d.exa rfl]
  rcases hw with rfl | ⟨b, rfl⟩ | ⟨i, rfl⟩
  · simp [d__law_exact, tyOk, tyB, tyOf, kit, tyName]
  · cases b <;> simp [d__law_exact, tyOk, tyB, tyOf, kit, tyName, isNon]
  · simp [d__law_exact, tyOk, tyB, tyOf, kit, tyName, lin_eq d]

theorem exa_eq (k : Nat) : ∀ {n : Nat} {w : W}, exD k w → call T D (n + k + 2) "_law_exact" [w, w] h = .ok (.bl true) h := by
  induction k with
  | zero =>
    intro n w he
    cases w <;> first | (exact exa_sc d (.inl rfl)) | (exact exa_sc d (.inr (.inl ⟨_, rfl⟩))) | (exact exa_sc d (.inr (.inr ⟨_, rfl⟩))) | (simp [exD] at he; done)
  | succ k ih =>
    intro n w he
    have e0 : n + (k + 1) + 2 = (n + (k + 1)) + 2 := by omega
    cases w <;> first | (exact exa_sc d (.inl rfl)) | (exact exa_sc d (.inr (.inl ⟨_, rfl⟩))) | (exact exa_sc d (.inr (.inr ⟨_, rfl⟩))) | (simp [exD] at he; done) | skip
    rename_i xs
    obtain ⟨h1, h2⟩ := he
    apply Ok.eq
    rw [Ok_call d.exa rfl]
    have e := rng_ok d (v := xs.length) h1
    simp [d__law_exact, tyOk, tyB, tyOf, kit, tyName, e.1, rngW_nat, e.2]
    rw [compL_filter (fun _ => .non) (fun _ => false) rfl]
    · have ef : List.filter (fun _ => false) ((List.range xs.length).map fun (s : Nat) => W.int s) = [] := by simp
      rw [ef, List.map_nil, okOk, ex_nil, okOk]
      exact ⟨rfl, rfl⟩
    · intro w hw
      obtain ⟨s, hs, rfl⟩ := List.mem_map.mp hw
      have hs2 := List.mem_range.mp hs
      refine ⟨_, rfl, ?_, fun z => by cases z⟩
      have hx := ih (n := n) (h2 xs[s] (List.getElem_mem hs2))
      apply Ok.eq
      have e0 : n + (k + 1) + 1 = n + k + 2 := by omega
      simp [ix_nat, hs2, e0, hx]
theorem lnx_eq {w : W} {ns : List Nat} {lot : Nat} (hw : Sq w (nats ns)) (hl : ns.length ≤ 1000) : call T D (n + 1) "_law_next" [w, .int lot] h = .ok (.int (nx ns lot)) h := by
  apply Ok.eq
  rw [Ok_call d.lnx rfl]
  have e := rng_ok d (v := ns.length) hl
  simp [d__law_next, len_sq hw, nats_length, e.1, rngW_nat, List.range_eq_range']
  refine forL_ok (fun ws σ h' => h' = h ∧ ∃ (k acc : Nat) (us : List Nat), ws = (List.range' k us.length).map (fun (s : Nat) => W.int s) ∧ σ = [some w, some (.int lot), some (.int acc), none] ∧ nxF us k lot acc = nx ns lot ∧ ns.drop k = us) ?_ ?_ ⟨rfl, 0, 0, ns, rfl, rfl, rfl, rfl⟩
  · rintro σ h' ⟨rfl, k, acc, us, hu, rfl, e, hd⟩
    cases us with
    | nil => simp; exact congrArg (Nat.cast : Nat → Int) (show acc = nx ns lot from e)
    | cons u us => rw [List.length_cons, List.range'_succ] at hu; cases hu
  · rintro x ws σ h' ⟨rfl, k, acc, us, hu, rfl, e, hd⟩
    cases us with
    | nil => cases hu
    | cons u us =>
      rw [List.length_cons, List.range'_succ, List.map_cons] at hu
      cases hu
      have hk : ns[k]? = some u := by
        have := congrArg (·[0]?) hd
        simpa using this
      have hd2 : ns.drop (k + 1) = us := by
        have := congrArg (List.drop 1) hd
        simpa using this
      refine ⟨rfl, _, rfl, ?_⟩
      unfold nxF at e
      simp [bit_mod, ix_sq hw, ix_nat, nats_get, hk]
      by_cases hb : lot.testBit k = true
      · rw [if_pos hb] at e
        simp [hb, bor_nat]
        exact ⟨k + 1, acc ||| u, us, rfl, rfl, e, hd2⟩
      · rw [if_neg hb] at e
        simp [hb]
        exact ⟨k + 1, acc, us, rfl, rfl, e, hd2⟩
theorem lbk_eq {w : W} {ns : List Nat} {lot : Nat} (hw : Sq w (nats ns)) (hl : ns.length ≤ 1000) : call T D (n + 1) "_law_back" [w, .int lot] h = .ok (.int (bk ns lot)) h := by
  apply Ok.eq
  rw [Ok_call d.lbk rfl]
  have e := rng_ok d (v := ns.length) hl
  simp [d__law_back, len_sq hw, nats_length, e.1, rngW_nat, List.range_eq_range']
  refine forL_ok (fun ws σ h' => h' = h ∧ ∃ (k acc : Nat) (us : List Nat), ws = (List.range' k us.length).map (fun (s : Nat) => W.int s) ∧ σ = [some w, some (.int lot), some (.int acc), none] ∧ bkF us k lot acc = bk ns lot ∧ ns.drop k = us ∧ k + us.length ≤ 1000) ?_ ?_ ⟨rfl, 0, 0, ns, rfl, rfl, rfl, rfl, by omega⟩
  · rintro σ h' ⟨rfl, k, acc, us, hu, rfl, e, hd, _⟩
    cases us with
    | nil => simp; exact congrArg (Nat.cast : Nat → Int) (show acc = bk ns lot from e)
    | cons u us => rw [List.length_cons, List.range'_succ] at hu; cases hu
  · rintro x ws σ h' ⟨rfl, k, acc, us, hu, rfl, e, hd, hlen⟩
    cases us with
    | nil => cases hu
    | cons u us =>
      rw [List.length_cons, List.range'_succ, List.map_cons] at hu
      cases hu
      have hk : ns[k]? = some u := by
        have := congrArg (·[0]?) hd
        simpa using this
      have hd2 : ns.drop (k + 1) = us := by
        have := congrArg (List.drop 1) hd
        simpa using this
      refine ⟨rfl, _, rfl, ?_⟩
      unfold bkF at e
      have e3 : (k : Int) ≤ 1000000 := by simp at hlen; omega
      have e4 : ((u &&& lot : Nat) : Int) = (u : Int) ↔ u &&& lot = u := by omega
      simp [band_nat, e4, e3, ix_sq hw, ix_nat, nats_get, hk]
      by_cases hb : u &&& lot = u
      · rw [if_pos hb] at e
        simp [hb, two_pow, bor_nat, -Int.natCast_pow]
        exact ⟨k + 1, acc ||| 2 ^ k, us, rfl, rfl, e, hd2, by simp at hlen; omega⟩
      · rw [if_neg hb] at e
        simp [hb]
        exact ⟨k + 1, acc, us, rfl, rfl, e, hd2, by simp at hlen; omega⟩
theorem lst_sp {w : W} {xs : List W} (hh : Hn rest h) (hw : Sq w xs) : Ok (call T D (n + 3) "_law_list" [.ref 1, w] h) fun v h' => Hn rest h' ∧ Sq v xs := by
  rw [Ok_call d.lst rfl]
  simp [d__law_list]
  refine Ok.mono (take_sp d.toHand hh (by decide) (by decide)) ?_
  rintro _ h' ⟨hh', r, rfl, hr⟩
  by_cases h0 : r = 0
  · subst h0
    simp [tup_sq hw]
    exact ⟨hh', .inl rfl⟩
  · simp [h0, lst_sq hw]
    exact ⟨hh', .inr rfl⟩
end
end Lb
namespace Lb
open Mp PySem
/-! ### data is like itself -/
def dt : Nat → W → Prop
  | _, .non => True
  | _, .bl _ => True
  | _, .int _ => True
  | k + 1, .tup xs => ∀ x ∈ xs, dt k x
  | k + 1, .fl xs => ∀ x ∈ xs, dt k x
  | _, _ => False
theorem dt_nats {k : Nat} {ns : List Nat} : dt (k + 1) (.fl (nats ns)) := by
  intro x hx
  obtain ⟨u, _, rfl⟩ := List.mem_map.mp hx
  cases k <;> exact trivial
theorem dat_list {h : LH} {k : Nat} (ih : ∀ w, dt k w → ∃ d : PyData, (∀ n, k ≤ n → dat h (n + 1) w = some d) ∧ d.canLay0 = true ∧ d.depth ≤ k) : ∀ xs : List W, (∀ x ∈ xs, dt k x) → ∃ ds : List PyData, (∀ n, k ≤ n → xs.mapM (dat h (n + 1)) = some ds) ∧ PyData.canLayAll0 ds = true ∧ PyData.depthAll ds ≤ k
  | [], _ => ⟨[], fun _ _ => rfl, rfl, Nat.zero_le _⟩
  | x :: xs, hx => by
    obtain ⟨d, d1, d2, d3⟩ := ih x (hx x (List.mem_cons_self ..))
    obtain ⟨ds, e1, e2, e3⟩ := dat_list ih xs fun y hy => hx y (List.mem_cons_of_mem _ hy)
    refine ⟨d :: ds, fun n hn => ?_, ?_, ?_⟩
    · rw [List.mapM_cons, d1 n hn, e1 n hn]; rfl
    · simp only [PyData.canLayAll0, d2, e2, Bool.and_self]
    · simp only [PyData.depthAll]; omega
theorem dat_ok {h : LH} : ∀ (k : Nat) (w : W), dt k w → ∃ d : PyData, (∀ n, k ≤ n → dat h (n + 1) w = some d) ∧ d.canLay0 = true ∧ d.depth ≤ k
  | k, .non, _ => ⟨.none, fun _ _ => rfl, rfl, Nat.zero_le _⟩
  | k, .bl b, _ => ⟨.bool b, fun _ _ => rfl, rfl, Nat.zero_le _⟩
  | k, .int i, _ => ⟨.int i, fun _ _ => rfl, rfl, Nat.zero_le _⟩
  | 0, .tup xs, h => by simp [dt] at h
  | 0, .fl xs, h => by simp [dt] at h
  | k + 1, .tup xs, hx => by
    obtain ⟨ds, e1, e2, e3⟩ := dat_list (dat_ok k) xs hx
    refine ⟨.tuple ds, fun n hn => ?_, by simpa [PyData.canLay0] using e2, by simp only [PyData.depth]; omega⟩
    obtain ⟨m, rfl⟩ : ∃ m, n = m + 1 := ⟨n - 1, by omega⟩
    show (xs.mapM (dat h (m + 1))).map PyData.tuple = _
    rw [e1 m (by omega)]; rfl
  | k + 1, .fl xs, hx => by
    obtain ⟨ds, e1, e2, e3⟩ := dat_list (dat_ok k) xs hx
    refine ⟨.list ds, fun n hn => ?_, by simpa [PyData.canLay0] using e2, by simp only [PyData.depth]; omega⟩
    obtain ⟨m, rfl⟩ : ∃ m, n = m + 1 := ⟨n - 1, by omega⟩
    show (xs.mapM (dat h (m + 1))).map PyData.list = _
    rw [e1 m (by omega)]; rfl
  | k, .str _, h => by cases k <;> simp [dt] at h
  | k, .rd _, h => by cases k <;> simp [dt] at h
  | k, .ref _, h => by cases k <;> simp [dt] at h
  | k, .obj _ _ _, h => by cases k <;> simp [dt] at h
  | k, .exc _ _ _, h => by cases k <;> simp [dt] at h
theorem eqW_self {h : LH} {xs : List W} {k : Nat} (hk : k ≤ 20) (hd : dt k (.fl xs)) : eqW h (.fl xs) (.fl xs) = some true := by
  obtain ⟨d, d1, d2, d3⟩ := dat_ok (h := h) k _ hd
  have e : dat h depthMax (.fl xs) = some d := d1 23 (by omega)
  unfold eqW
  have s0 : scq (.fl xs) (.fl xs) = none := rfl
  rw [s0]
  dsimp only
  rw [e]
  dsimp only
  have sh : SeqAt.shaped d = true := by
    unfold SeqAt.shaped
    rw [d2, decide_eq_true (by omega : d.depth ≤ 64)]; rfl
  rw [sh, SeqAt.eqv_refl d d2]
  rfl
theorem ok_eqW {x y : W} {h : LH} {b : Bool} {P : W → LH → Prop} (e : eqW h x y = some b) : Ok (evC .eq x y h) P = P (.bl b) h := by
  simp only [evC, e, okOk]
theorem ok_neW {x y : W} {h : LH} {b : Bool} {P : W → LH → Prop} (e : eqW h x y = some b) : Ok (evC .ne x y h) P = P (.bl (!b)) h := by
  simp only [evC, e, okOk]
end Lb
namespace Lw
open PySem PySem.Spec PyProof.Rows L2 Mp
abbrev pg : Program := PySem.Challenge.pw_truealarms_k05_whole_next_and_back_lots
def top (i : Nat) : Stmt := pg.main.body.getD i (.Pass ⟨0, 0, 0, 0⟩)
def mem (i j : Nat) : Stmt := match top i with
  | .ClassDef _ _ _ b _ _ _ _ _ _ _ => b.getD j (.Pass ⟨0, 0, 0, 0⟩)
  | s => s
/-- is_sequence: 0 thing -/
abbrev r_is_sequence : Mp.Row := { f := "is_sequence", d := Lb.d_is_sequence, N := ["thing"], ps := ["thing"], at_ := ("is_sequence", none), nm := "is_sequence", qual := "is_sequence", st := top 6 }
/-- is_whole: 0 thing, 1 low, 2 high -/
abbrev r_is_whole : Mp.Row := { f := "is_whole", d := Lb.d_is_whole, N := ["thing", "low", "high"], ps := ["thing", "low", "high"], at_ := ("is_whole", none), nm := "is_whole", qual := "is_whole", st := top 7 }
/-- check_stands: 0 v -/
abbrev r_check_stands : Mp.Row := { f := "check_stands", d := Lb.d_check_stands, N := ["v"], ps := ["v"], at_ := ("check_stands", none), nm := "check_stands", qual := "check_stands", st := top 9 }
/-- all_stands: 0 v -/
abbrev r_all_stands : Mp.Row := { f := "all_stands", d := Lb.d_all_stands, N := ["v"], ps := ["v"], at_ := ("all_stands", none), nm := "all_stands", qual := "all_stands", st := top 10 }
/-- check_lot: 0 v, 1 lot -/
abbrev r_check_lot : Mp.Row := { f := "check_lot", d := Lb.d_check_lot, N := ["v", "lot"], ps := ["v", "lot"], at_ := ("check_lot", none), nm := "check_lot", qual := "check_lot", st := top 11 }
/-- check_row: 0 stands, 1 row, 2 place, 3 lot -/
abbrev r_check_row : Mp.Row := { f := "check_row", d := Lb.d_check_row, N := ["stands", "row", "place", "lot"], ps := ["stands", "row"], at_ := ("check_row", none), nm := "check_row", qual := "check_row", st := top 14 }
/-- check_rows: 0 stands, 1 rows, 2 row -/
abbrev r_check_rows : Mp.Row := { f := "check_rows", d := Lb.d_check_rows, N := ["stands", "rows", "row"], ps := ["stands", "rows"], at_ := ("check_rows", none), nm := "check_rows", qual := "check_rows", st := top 15 }
/-- next_lot: 0 row, 1 lot, 2 found, 3 stand, 4 reached -/
abbrev r_next_lot : Mp.Row := { f := "next_lot", d := Lb.d_next_lot, N := ["row", "lot", "found", "stand", "reached"], ps := ["row", "lot"], at_ := ("next_lot", none), nm := "next_lot", qual := "next_lot", st := top 16 }
/-- back_lot: 0 row, 1 lot, 2 found, 3 stand, 4 reached -/
abbrev r_back_lot : Mp.Row := { f := "back_lot", d := Lb.d_back_lot, N := ["row", "lot", "found", "stand", "reached"], ps := ["row", "lot"], at_ := ("back_lot", none), nm := "back_lot", qual := "back_lot", st := top 17 }
/-- test_row: 0 stands, 1 lot, 2 stand -/
abbrev r_test_row : Mp.Row := { f := "test_row", d := Lb.d_test_row, N := ["stands", "lot", "stand"], ps := ["stands", "lot"], at_ := ("test_row", none), nm := "test_row", qual := "test_row", st := top 18 }
/-- joined_row: 0 one, 1 other, 2 left, 3 right -/
abbrev r_joined_row : Mp.Row := { f := "joined_row", d := Lb.d_joined_row, N := ["one", "other", "left", "right"], ps := ["one", "other"], at_ := ("joined_row", none), nm := "joined_row", qual := "joined_row", st := top 19 }
/-- behind_row: 0 one, 1 other, 2 reached -/
abbrev r_behind_row : Mp.Row := { f := "behind_row", d := Lb.d_behind_row, N := ["one", "other", "reached"], ps := ["one", "other"], at_ := ("behind_row", none), nm := "behind_row", qual := "behind_row", st := top 20 }
/-- _law_hand: 0 _law_script, 1 _law_total, 2 _law_cells, 3 _law_cell -/
abbrev r__law_hand : Mp.Row := { f := "_law_hand", d := Lb.d__law_hand, N := ["_law_script", "_law_total", "_law_cells", "_law_cell"], ps := ["_law_script"], at_ := ("_law_hand", none), nm := "_law_hand", qual := "_law_hand", st := top 22 }
/-- _law_mixed: 0 _law_number, 1 _law_turn, 2 _law_once, 3 _law_twice -/
abbrev r__law_mixed : Mp.Row := { f := "_law_mixed", d := Lb.d__law_mixed, N := ["_law_number", "_law_turn", "_law_once", "_law_twice"], ps := ["_law_number", "_law_turn"], at_ := ("_law_mixed", none), nm := "_law_mixed", qual := "_law_mixed", st := top 23 }
/-- _law_take: 0 _law_hand_here, 1 _law_many, 2 _law_cell, 3 _law_rest -/
abbrev r__law_take : Mp.Row := { f := "_law_take", d := Lb.d__law_take, N := ["_law_hand_here", "_law_many", "_law_cell", "_law_rest"], ps := ["_law_hand_here", "_law_many"], at_ := ("_law_take", none), nm := "_law_take", qual := "_law_take", st := top 24 }
/-- _law_stands: 0 _law_hand_here -/
abbrev r__law_stands : Mp.Row := { f := "_law_stands", d := Lb.d__law_stands, N := ["_law_hand_here"], ps := ["_law_hand_here"], at_ := ("_law_stands", none), nm := "_law_stands", qual := "_law_stands", st := top 25 }
/-- _law_every: 0 _law_v -/
abbrev r__law_every : Mp.Row := { f := "_law_every", d := Lb.d__law_every, N := ["_law_v"], ps := ["_law_v"], at_ := ("_law_every", none), nm := "_law_every", qual := "_law_every", st := top 26 }
/-- _law_within: 0 _law_one, 1 _law_other -/
abbrev r__law_within : Mp.Row := { f := "_law_within", d := Lb.d__law_within, N := ["_law_one", "_law_other"], ps := ["_law_one", "_law_other"], at_ := ("_law_within", none), nm := "_law_within", qual := "_law_within", st := top 27 }
/-- _law_single: 0 _law_hand_here, 1 _law_v, 2 _law_s -/
abbrev r__law_single : Mp.Row := { f := "_law_single", d := Lb.d__law_single, N := ["_law_hand_here", "_law_v", "_law_s"], ps := ["_law_hand_here", "_law_v"], at_ := ("_law_single", none), nm := "_law_single", qual := "_law_single", st := top 28 }
/-- _law_drawn_row: 0 _law_hand_here, 1 _law_v, 2 _law_way, 3 _law_kept, 4 _law_s, 5 _law_one -/
abbrev r__law_drawn_row : Mp.Row := { f := "_law_drawn_row", d := Lb.d__law_drawn_row, N := ["_law_hand_here", "_law_v", "_law_way", "_law_kept", "_law_s", "_law_one"], ps := ["_law_hand_here", "_law_v"], at_ := ("_law_drawn_row", none), nm := "_law_drawn_row", qual := "_law_drawn_row", st := top 29 }
/-- _law_next: 0 _law_row, 1 _law_lot, 2 _law_found, 3 _law_s -/
abbrev r__law_next : Mp.Row := { f := "_law_next", d := Lb.d__law_next, N := ["_law_row", "_law_lot", "_law_found", "_law_s"], ps := ["_law_row", "_law_lot"], at_ := ("_law_next", none), nm := "_law_next", qual := "_law_next", st := top 30 }
/-- _law_back: 0 _law_row, 1 _law_lot, 2 _law_found, 3 _law_s -/
abbrev r__law_back : Mp.Row := { f := "_law_back", d := Lb.d__law_back, N := ["_law_row", "_law_lot", "_law_found", "_law_s"], ps := ["_law_row", "_law_lot"], at_ := ("_law_back", none), nm := "_law_back", qual := "_law_back", st := top 31 }
/-- _law_list: 0 _law_hand_here, 1 _law_items -/
abbrev r__law_list : Mp.Row := { f := "_law_list", d := Lb.d__law_list, N := ["_law_hand_here", "_law_items"], ps := ["_law_hand_here", "_law_items"], at_ := ("_law_list", none), nm := "_law_list", qual := "_law_list", st := top 32 }
/-- _law_int: 0 _law_thing -/
abbrev r__law_int : Mp.Row := { f := "_law_int", d := Lb.d__law_int, N := ["_law_thing"], ps := ["_law_thing"], at_ := ("_law_int", none), nm := "_law_int", qual := "_law_int", st := top 33 }
/-- _law_exact: 0 _law_told, 1 _law_due, 2 _law_k -/
abbrev r__law_exact : Mp.Row := { f := "_law_exact", d := Lb.d__law_exact, N := ["_law_told", "_law_due", "_law_k"], ps := ["_law_told", "_law_due"], at_ := ("_law_exact", none), nm := "_law_exact", qual := "_law_exact", st := top 34 }
/-- _law_rows_agree: 0 _law_v, 1 _law_told, 2 _law_due, 3 _law_lot -/
def d__law_rows_agree : Def := { np := 3, n := 4, body :=
 (.seq (.ifs (.tnot (.tE (.call "_law_exact" (.cons (.var 1) (.cons (.bf .tuple (.cons (.var 2) .nil)) .nil))))) (.seq (.ret (.cst (.bl false)))
 .nil) .nil)
 (.seq (.for_ (.one 3) (.rng1 (.bin .shl (.cst (.int 1)) (.var 0))) (.seq (.ifs (.tnot (.tE (.call "_law_exact" (.cons (.call "next_lot" (.cons (.var 1) (.cons (.var 3) .nil))) (.cons (.call "_law_next" (.cons (.var 2) (.cons (.var 3) .nil))) .nil))))) (.seq (.ret (.cst (.bl false)))
 .nil) .nil)
 (.seq (.ifs (.tnot (.tE (.call "_law_exact" (.cons (.call "back_lot" (.cons (.var 1) (.cons (.var 3) .nil))) (.cons (.call "_law_back" (.cons (.var 2) (.cons (.var 3) .nil))) .nil))))) (.seq (.ret (.cst (.bl false)))
 .nil) .nil)
 (.seq (.kill [3])
 .nil))))
 (.seq (.ret (.cst (.bl true)))
 .nil))) }
abbrev r__law_rows_agree : Mp.Row := { f := "_law_rows_agree", d := d__law_rows_agree, N := ["_law_v", "_law_told", "_law_due", "_law_lot"], ps := ["_law_v", "_law_told", "_law_due"], at_ := ("_law_rows_agree", none), nm := "_law_rows_agree", qual := "_law_rows_agree", st := top 35 }
/-- _law_goals: 0 _law_hand_here, 1 _law_v, 2 _law_k -/
def d__law_goals : Def := { np := 2, n := 3, body :=
 (.seq (.ifs (.tE (.cmp .lt (.var 1) (.cst (.int 5)))) (.seq (.ret (.lrng false (.bin .shl (.cst (.int 1)) (.var 1))))
 .nil) .nil)
 (.seq (.ret (.bin .add (.lst (.cons (.cst (.int 0)) (.cons (.call "_law_every" (.cons (.var 1) .nil)) .nil))) (.comp false (.call "_law_take" (.cons (.var 0) (.cons (.bin .shl (.cst (.int 1)) (.var 1)) .nil))) (.one 2) (.rng1 (.cst (.int 10))) (.cst (.bl true)) [2])))
 .nil)) }
abbrev r__law_goals : Mp.Row := { f := "_law_goals", d := d__law_goals, N := ["_law_hand_here", "_law_v", "_law_k"], ps := ["_law_hand_here", "_law_v"], at_ := ("_law_goals", none), nm := "_law_goals", qual := "_law_goals", st := top 36 }
/-- _law_adjoint: 0 _law_v, 1 _law_row, 2 _law_goals_here, 3 _law_lot, 4 _law_reached, 5 _law_goal -/
def d__law_adjoint : Def := { np := 3, n := 6, body :=
 (.seq (.for_ (.one 3) (.rng1 (.bin .shl (.cst (.int 1)) (.var 0))) (.seq (.asg 4 (.call "next_lot" (.cons (.var 1) (.cons (.var 3) .nil))))
 (.seq (.for_ (.one 5) (.itv (.var 2)) (.seq (.ifs (.tE (.cmp .ne (.call "_law_within" (.cons (.var 4) (.cons (.var 5) .nil))) (.call "_law_within" (.cons (.var 3) (.cons (.call "back_lot" (.cons (.var 1) (.cons (.var 5) .nil))) .nil))))) (.seq (.ret (.cst (.bl false)))
 .nil) .nil)
 (.seq (.kill [5])
 .nil)))
 (.seq (.kill [3, 4, 5])
 .nil))))
 (.seq (.ret (.cst (.bl true)))
 .nil)) }
abbrev r__law_adjoint : Mp.Row := { f := "_law_adjoint", d := d__law_adjoint, N := ["_law_v", "_law_row", "_law_goals_here", "_law_lot", "_law_reached", "_law_goal"], ps := ["_law_v", "_law_row", "_law_goals_here"], at_ := ("_law_adjoint", none), nm := "_law_adjoint", qual := "_law_adjoint", st := top 37 }
/-- law: 0 _law_script, 1 _law_hand_here, 2 _law_v, 3 _law_rows, 4 _law_k, 5 _law_given, 6 _law_row, 7 _law_told, 8 _law_one, 9 _law_other, 10 _law_due, 11 _law_s, 12 _law_lot, 13 _law_kept -/
def d_law : Def := { np := 1, n := 14, body :=
 (.seq (.asg 1 (.call "_law_hand" (.cons (.var 0) .nil)))
 (.seq (.asg 2 (.call "_law_stands" (.cons (.var 1) .nil)))
 (.seq (.asg 3 (.comp false (.call "_law_drawn_row" (.cons (.var 1) (.cons (.var 2) .nil))) (.one 4) (.rng1 (.cst (.int 3))) (.cst (.bl true)) [4]))
 (.seq (.asg 5 (.comp false (.call "_law_list" (.cons (.var 1) (.cons (.var 6) .nil))) (.one 6) (.itv (.var 3)) (.cst (.bl true)) [6]))
 (.seq (.asg 7 (.call "check_rows" (.cons (.var 2) (.cons (.call "_law_list" (.cons (.var 1) (.cons (.var 5) .nil))) .nil))))
 (.seq (.ifs (.tnot (.tE (.call "_law_exact" (.cons (.var 7) (.cons (.bf .tuple (.cons (.comp false (.bf .tuple (.cons (.var 6) .nil)) (.one 6) (.itv (.var 3)) (.cst (.bl true)) [6]) .nil)) .nil))))) (.seq (.ret (.cst (.bl false)))
 .nil) .nil)
 (.seq (.ifs (.tnot (.tE (.call "_law_exact" (.cons (.call "check_rows" (.cons (.var 2) (.cons (.lst .nil) .nil))) (.cons (.tup .nil) .nil))))) (.seq (.ret (.cst (.bl false)))
 .nil) .nil)
 (.seq (.for_ (.one 6) (.itv (.var 5)) (.seq (.ifs (.tnot (.tE (.call "_law_exact" (.cons (.call "check_row" (.cons (.var 2) (.cons (.var 6) .nil))) (.cons (.bf .tuple (.cons (.var 6) .nil)) .nil))))) (.seq (.ret (.cst (.bl false)))
 .nil) .nil)
 (.seq (.kill [6])
 .nil)))
 (.seq (.asg 8 (.idx (.var 7) (.cst (.int 0))))
 (.seq (.asg 9 (.idx (.var 7) (.cst (.int 1))))
 (.seq (.ifs (.tor (.tnot (.tE (.call "_law_rows_agree" (.cons (.var 2) (.cons (.var 8) (.cons (.idx (.var 3) (.cst (.int 0))) .nil)))))) (.tnot (.tE (.call "_law_adjoint" (.cons (.var 2) (.cons (.idx (.var 5) (.cst (.int 2))) (.cons (.call "_law_goals" (.cons (.var 1) (.cons (.var 2) .nil))) .nil))))))) (.seq (.ret (.cst (.bl false)))
 .nil) .nil)
 (.seq (.asg 10 (.comp false (.bin .bor (.idx (.idx (.var 3) (.cst (.int 0))) (.var 11)) (.idx (.idx (.var 3) (.cst (.int 1))) (.var 11))) (.one 11) (.rng1 (.var 2)) (.cst (.bl true)) [11]))
 (.seq (.ifs (.tnot (.tE (.call "_law_rows_agree" (.cons (.var 2) (.cons (.call "joined_row" (.cons (.var 8) (.cons (.idx (.var 5) (.cst (.int 1))) .nil))) (.cons (.var 10) .nil)))))) (.seq (.ret (.cst (.bl false)))
 .nil) .nil)
 (.seq (.asg 10 (.comp false (.call "_law_next" (.cons (.idx (.var 3) (.cst (.int 1))) (.cons (.idx (.idx (.var 3) (.cst (.int 0))) (.var 11)) .nil))) (.one 11) (.rng1 (.var 2)) (.cst (.bl true)) [11]))
 (.seq (.ifs (.tnot (.tE (.call "_law_rows_agree" (.cons (.var 2) (.cons (.call "behind_row" (.cons (.idx (.var 5) (.cst (.int 0))) (.cons (.var 9) .nil))) (.cons (.var 10) .nil)))))) (.seq (.ret (.cst (.bl false)))
 .nil) .nil)
 (.seq (.for_ (.one 12) (.rng1 (.bin .shl (.cst (.int 1)) (.var 2))) (.seq (.ifs (.tE (.cmp .ne (.call "next_lot" (.cons (.call "behind_row" (.cons (.var 8) (.cons (.var 9) .nil))) (.cons (.var 12) .nil))) (.call "next_lot" (.cons (.var 9) (.cons (.call "next_lot" (.cons (.var 8) (.cons (.var 12) .nil))) .nil))))) (.seq (.ret (.cst (.bl false)))
 .nil) .nil)
 (.seq (.ifs (.tE (.cmp .ne (.call "back_lot" (.cons (.call "behind_row" (.cons (.var 8) (.cons (.var 9) .nil))) (.cons (.var 12) .nil))) (.call "back_lot" (.cons (.var 8) (.cons (.call "back_lot" (.cons (.var 9) (.cons (.var 12) .nil))) .nil))))) (.seq (.ret (.cst (.bl false)))
 .nil) .nil)
 (.seq (.ifs (.tE (.cmp .ne (.call "back_lot" (.cons (.call "joined_row" (.cons (.var 8) (.cons (.var 9) .nil))) (.cons (.var 12) .nil))) (.bin .band (.call "back_lot" (.cons (.var 8) (.cons (.var 12) .nil))) (.call "back_lot" (.cons (.var 9) (.cons (.var 12) .nil)))))) (.seq (.ret (.cst (.bl false)))
 .nil) .nil)
 (.seq (.kill [12])
 .nil)))))
 (.seq (.asg 13 (.call "_law_take" (.cons (.var 1) (.cons (.bin .shl (.cst (.int 1)) (.var 2)) .nil))))
 (.seq (.asg 6 (.call "test_row" (.cons (.var 2) (.cons (.var 13) .nil))))
 (.seq (.ifs (.tnot (.tE (.call "_law_rows_agree" (.cons (.var 2) (.cons (.var 6) (.cons (.comp false (.bin .band (.bin .shl (.cst (.int 1)) (.var 11)) (.var 13)) (.one 11) (.rng1 (.var 2)) (.cst (.bl true)) [11]) .nil)))))) (.seq (.ret (.cst (.bl false)))
 .nil) .nil)
 (.seq (.for_ (.one 12) (.rng1 (.bin .shl (.cst (.int 1)) (.var 2))) (.seq (.ifs (.tor (.tE (.cmp .ne (.call "next_lot" (.cons (.var 6) (.cons (.var 12) .nil))) (.bin .band (.var 12) (.var 13)))) (.tE (.cmp .ne (.call "back_lot" (.cons (.var 6) (.cons (.var 12) .nil))) (.bin .bor (.bin .bxor (.call "_law_every" (.cons (.var 2) .nil)) (.var 13)) (.var 12))))) (.seq (.ret (.cst (.bl false)))
 .nil) .nil)
 (.seq (.kill [12])
 .nil)))
 (.seq (.ret (.cmp .eq (.comp false (.bf .list (.cons (.var 6) .nil)) (.one 6) (.itv (.var 5)) (.cst (.bl true)) [6]) (.var 3)))
 .nil))))))))))))))))))))) }
abbrev r_law : Mp.Row := { f := "law", d := d_law, N := ["_law_script", "_law_hand_here", "_law_v", "_law_rows", "_law_k", "_law_given", "_law_row", "_law_told", "_law_one", "_law_other", "_law_due", "_law_s", "_law_lot", "_law_kept"], ps := ["_law_script"], at_ := ("law", none), nm := "law", qual := "law", st := top 38 }
def rows : List Mp.Row := [r_is_sequence, r_is_whole, r_check_stands, r_all_stands, r_check_lot, r_check_row, r_check_rows, r_next_lot, r_back_lot, r_test_row, r_joined_row, r_behind_row, r__law_hand, r__law_mixed, r__law_take, r__law_stands, r__law_every, r__law_within, r__law_single, r__law_drawn_row, r__law_next, r__law_back, r__law_list, r__law_int, r__law_exact, r__law_rows_agree, r__law_goals, r__law_adjoint, r_law]
def cs : List (String × W) := [("MOST_ROWS", (.int 8))]
def T : Mp.Tab := { gl := glOf cs }
def ar : Ar := arOf rows
theorem k_is_sequence : RowOk (arOf rows) r_is_sequence where
  chk := by decide +kernel
  sc := ⟨rfl, rfl, rfl, by decide +kernel, rfl, by decide +kernel, by decide +kernel⟩
  np := rfl
  n := rfl
  flat := rfl
  bi := fun K f fd F n h1 h2 => by
    have b := FunD.bindsN (ps := r_is_sequence.ps) F fun _ _ _ _ _ _ us hl => match us, hl with | [_], _ => rfl
    exact ⟨[], by rw [show (Mp.Row.dvs r_is_sequence K) = [] from rfl, List.drop_nil]; exact .nil, b⟩
theorem k_is_whole : RowOk (arOf rows) r_is_whole where
  chk := by decide +kernel
  sc := ⟨rfl, rfl, rfl, by decide +kernel, rfl, by decide +kernel, by decide +kernel⟩
  np := rfl
  n := rfl
  flat := rfl
  bi := fun K f fd F n h1 h2 => by
    have h3 : n ≤ 3 := h1
    have h4 : 3 - n ≤ 2 := h2
    have hn : n = 1 ∨ n = 2 ∨ n = 3 := by omega
    rcases hn with rfl | rfl | rfl
    · exact FunD.binds1 (ps := r_is_whole.ps) F 1 0 (by simp [Mp.Row.dvs, Lb.d_is_whole]) rfl fun T kV doc pm an cdv ct us its e1 e2 => match us, its, e1, e2 with | [_], [_, _], _, _ => ⟨_, rfl, rfl⟩
    · exact FunD.binds1 (ps := r_is_whole.ps) F 2 1 (by simp [Mp.Row.dvs, Lb.d_is_whole]) rfl fun T kV doc pm an cdv ct us its e1 e2 => match us, its, e1, e2 with | [_, _], [_, _], _, _ => ⟨_, rfl, rfl⟩
    · exact FunD.binds1 (ps := r_is_whole.ps) F 3 2 (by simp [Mp.Row.dvs, Lb.d_is_whole]) rfl fun T kV doc pm an cdv ct us its e1 e2 => match us, its, e1, e2 with | [_, _, _], [_, _], _, _ => ⟨_, rfl, rfl⟩
theorem k_check_stands : RowOk (arOf rows) r_check_stands where
  chk := by decide +kernel
  sc := ⟨rfl, rfl, rfl, by decide +kernel, rfl, by decide +kernel, by decide +kernel⟩
  np := rfl
  n := rfl
  flat := rfl
  bi := fun K f fd F n h1 h2 => by
    have b := FunD.bindsN (ps := r_check_stands.ps) F fun _ _ _ _ _ _ us hl => match us, hl with | [_], _ => rfl
    exact ⟨[], by rw [show (Mp.Row.dvs r_check_stands K) = [] from rfl, List.drop_nil]; exact .nil, b⟩
theorem k_all_stands : RowOk (arOf rows) r_all_stands where
  chk := by decide +kernel
  sc := ⟨rfl, rfl, rfl, by decide +kernel, rfl, by decide +kernel, by decide +kernel⟩
  np := rfl
  n := rfl
  flat := rfl
  bi := fun K f fd F n h1 h2 => by
    have b := FunD.bindsN (ps := r_all_stands.ps) F fun _ _ _ _ _ _ us hl => match us, hl with | [_], _ => rfl
    exact ⟨[], by rw [show (Mp.Row.dvs r_all_stands K) = [] from rfl, List.drop_nil]; exact .nil, b⟩
theorem k_check_lot : RowOk (arOf rows) r_check_lot where
  chk := by decide +kernel
  sc := ⟨rfl, rfl, rfl, by decide +kernel, rfl, by decide +kernel, by decide +kernel⟩
  np := rfl
  n := rfl
  flat := rfl
  bi := fun K f fd F n h1 h2 => by
    have b := FunD.bindsN (ps := r_check_lot.ps) F fun _ _ _ _ _ _ us hl => match us, hl with | [_, _], _ => rfl
    exact ⟨[], by rw [show (Mp.Row.dvs r_check_lot K) = [] from rfl, List.drop_nil]; exact .nil, b⟩
theorem k_check_row : RowOk (arOf rows) r_check_row where
  chk := by decide +kernel
  sc := ⟨rfl, rfl, rfl, by decide +kernel, rfl, by decide +kernel, by decide +kernel⟩
  np := rfl
  n := rfl
  flat := rfl
  bi := fun K f fd F n h1 h2 => by
    have b := FunD.bindsN (ps := r_check_row.ps) F fun _ _ _ _ _ _ us hl => match us, hl with | [_, _], _ => rfl
    exact ⟨[], by rw [show (Mp.Row.dvs r_check_row K) = [] from rfl, List.drop_nil]; exact .nil, b⟩
theorem k_check_rows : RowOk (arOf rows) r_check_rows where
  chk := by decide +kernel
  sc := ⟨rfl, rfl, rfl, by decide +kernel, rfl, by decide +kernel, by decide +kernel⟩
  np := rfl
  n := rfl
  flat := rfl
  bi := fun K f fd F n h1 h2 => by
    have b := FunD.bindsN (ps := r_check_rows.ps) F fun _ _ _ _ _ _ us hl => match us, hl with | [_, _], _ => rfl
    exact ⟨[], by rw [show (Mp.Row.dvs r_check_rows K) = [] from rfl, List.drop_nil]; exact .nil, b⟩
theorem k_next_lot : RowOk (arOf rows) r_next_lot where
  chk := by decide +kernel
  sc := ⟨rfl, rfl, rfl, by decide +kernel, rfl, by decide +kernel, by decide +kernel⟩
  np := rfl
  n := rfl
  flat := rfl
  bi := fun K f fd F n h1 h2 => by
    have b := FunD.bindsN (ps := r_next_lot.ps) F fun _ _ _ _ _ _ us hl => match us, hl with | [_, _], _ => rfl
    exact ⟨[], by rw [show (Mp.Row.dvs r_next_lot K) = [] from rfl, List.drop_nil]; exact .nil, b⟩
theorem k_back_lot : RowOk (arOf rows) r_back_lot where
  chk := by decide +kernel
  sc := ⟨rfl, rfl, rfl, by decide +kernel, rfl, by decide +kernel, by decide +kernel⟩
  np := rfl
  n := rfl
  flat := rfl
  bi := fun K f fd F n h1 h2 => by
    have b := FunD.bindsN (ps := r_back_lot.ps) F fun _ _ _ _ _ _ us hl => match us, hl with | [_, _], _ => rfl
    exact ⟨[], by rw [show (Mp.Row.dvs r_back_lot K) = [] from rfl, List.drop_nil]; exact .nil, b⟩
theorem k_test_row : RowOk (arOf rows) r_test_row where
  chk := by decide +kernel
  sc := ⟨rfl, rfl, rfl, by decide +kernel, rfl, by decide +kernel, by decide +kernel⟩
  np := rfl
  n := rfl
  flat := rfl
  bi := fun K f fd F n h1 h2 => by
    have b := FunD.bindsN (ps := r_test_row.ps) F fun _ _ _ _ _ _ us hl => match us, hl with | [_, _], _ => rfl
    exact ⟨[], by rw [show (Mp.Row.dvs r_test_row K) = [] from rfl, List.drop_nil]; exact .nil, b⟩
theorem k_joined_row : RowOk (arOf rows) r_joined_row where
  chk := by decide +kernel
  sc := ⟨rfl, rfl, rfl, by decide +kernel, rfl, by decide +kernel, by decide +kernel⟩
  np := rfl
  n := rfl
  flat := rfl
  bi := fun K f fd F n h1 h2 => by
    have b := FunD.bindsN (ps := r_joined_row.ps) F fun _ _ _ _ _ _ us hl => match us, hl with | [_, _], _ => rfl
    exact ⟨[], by rw [show (Mp.Row.dvs r_joined_row K) = [] from rfl, List.drop_nil]; exact .nil, b⟩
theorem k_behind_row : RowOk (arOf rows) r_behind_row where
  chk := by decide +kernel
  sc := ⟨rfl, rfl, rfl, by decide +kernel, rfl, by decide +kernel, by decide +kernel⟩
  np := rfl
  n := rfl
  flat := rfl
  bi := fun K f fd F n h1 h2 => by
    have b := FunD.bindsN (ps := r_behind_row.ps) F fun _ _ _ _ _ _ us hl => match us, hl with | [_, _], _ => rfl
    exact ⟨[], by rw [show (Mp.Row.dvs r_behind_row K) = [] from rfl, List.drop_nil]; exact .nil, b⟩
theorem k__law_hand : RowOk (arOf rows) r__law_hand where
  chk := by decide +kernel
  sc := ⟨rfl, rfl, rfl, by decide +kernel, rfl, by decide +kernel, by decide +kernel⟩
  np := rfl
  n := rfl
  flat := rfl
  bi := fun K f fd F n h1 h2 => by
    have b := FunD.bindsN (ps := r__law_hand.ps) F fun _ _ _ _ _ _ us hl => match us, hl with | [_], _ => rfl
    exact ⟨[], by rw [show (Mp.Row.dvs r__law_hand K) = [] from rfl, List.drop_nil]; exact .nil, b⟩
theorem k__law_mixed : RowOk (arOf rows) r__law_mixed where
  chk := by decide +kernel
  sc := ⟨rfl, rfl, rfl, by decide +kernel, rfl, by decide +kernel, by decide +kernel⟩
  np := rfl
  n := rfl
  flat := rfl
  bi := fun K f fd F n h1 h2 => by
    have b := FunD.bindsN (ps := r__law_mixed.ps) F fun _ _ _ _ _ _ us hl => match us, hl with | [_, _], _ => rfl
    exact ⟨[], by rw [show (Mp.Row.dvs r__law_mixed K) = [] from rfl, List.drop_nil]; exact .nil, b⟩
theorem k__law_take : RowOk (arOf rows) r__law_take where
  chk := by decide +kernel
  sc := ⟨rfl, rfl, rfl, by decide +kernel, rfl, by decide +kernel, by decide +kernel⟩
  np := rfl
  n := rfl
  flat := rfl
  bi := fun K f fd F n h1 h2 => by
    have b := FunD.bindsN (ps := r__law_take.ps) F fun _ _ _ _ _ _ us hl => match us, hl with | [_, _], _ => rfl
    exact ⟨[], by rw [show (Mp.Row.dvs r__law_take K) = [] from rfl, List.drop_nil]; exact .nil, b⟩
theorem k__law_stands : RowOk (arOf rows) r__law_stands where
  chk := by decide +kernel
  sc := ⟨rfl, rfl, rfl, by decide +kernel, rfl, by decide +kernel, by decide +kernel⟩
  np := rfl
  n := rfl
  flat := rfl
  bi := fun K f fd F n h1 h2 => by
    have b := FunD.bindsN (ps := r__law_stands.ps) F fun _ _ _ _ _ _ us hl => match us, hl with | [_], _ => rfl
    exact ⟨[], by rw [show (Mp.Row.dvs r__law_stands K) = [] from rfl, List.drop_nil]; exact .nil, b⟩
theorem k__law_every : RowOk (arOf rows) r__law_every where
  chk := by decide +kernel
  sc := ⟨rfl, rfl, rfl, by decide +kernel, rfl, by decide +kernel, by decide +kernel⟩
  np := rfl
  n := rfl
  flat := rfl
  bi := fun K f fd F n h1 h2 => by
    have b := FunD.bindsN (ps := r__law_every.ps) F fun _ _ _ _ _ _ us hl => match us, hl with | [_], _ => rfl
    exact ⟨[], by rw [show (Mp.Row.dvs r__law_every K) = [] from rfl, List.drop_nil]; exact .nil, b⟩
theorem k__law_within : RowOk (arOf rows) r__law_within where
  chk := by decide +kernel
  sc := ⟨rfl, rfl, rfl, by decide +kernel, rfl, by decide +kernel, by decide +kernel⟩
  np := rfl
  n := rfl
  flat := rfl
  bi := fun K f fd F n h1 h2 => by
    have b := FunD.bindsN (ps := r__law_within.ps) F fun _ _ _ _ _ _ us hl => match us, hl with | [_, _], _ => rfl
    exact ⟨[], by rw [show (Mp.Row.dvs r__law_within K) = [] from rfl, List.drop_nil]; exact .nil, b⟩
theorem k__law_single : RowOk (arOf rows) r__law_single where
  chk := by decide +kernel
  sc := ⟨rfl, rfl, rfl, by decide +kernel, rfl, by decide +kernel, by decide +kernel⟩
  np := rfl
  n := rfl
  flat := rfl
  bi := fun K f fd F n h1 h2 => by
    have b := FunD.bindsN (ps := r__law_single.ps) F fun _ _ _ _ _ _ us hl => match us, hl with | [_, _], _ => rfl
    exact ⟨[], by rw [show (Mp.Row.dvs r__law_single K) = [] from rfl, List.drop_nil]; exact .nil, b⟩
theorem k__law_drawn_row : RowOk (arOf rows) r__law_drawn_row where
  chk := by decide +kernel
  sc := ⟨rfl, rfl, rfl, by decide +kernel, rfl, by decide +kernel, by decide +kernel⟩
  np := rfl
  n := rfl
  flat := rfl
  bi := fun K f fd F n h1 h2 => by
    have b := FunD.bindsN (ps := r__law_drawn_row.ps) F fun _ _ _ _ _ _ us hl => match us, hl with | [_, _], _ => rfl
    exact ⟨[], by rw [show (Mp.Row.dvs r__law_drawn_row K) = [] from rfl, List.drop_nil]; exact .nil, b⟩
theorem k__law_next : RowOk (arOf rows) r__law_next where
  chk := by decide +kernel
  sc := ⟨rfl, rfl, rfl, by decide +kernel, rfl, by decide +kernel, by decide +kernel⟩
  np := rfl
  n := rfl
  flat := rfl
  bi := fun K f fd F n h1 h2 => by
    have b := FunD.bindsN (ps := r__law_next.ps) F fun _ _ _ _ _ _ us hl => match us, hl with | [_, _], _ => rfl
    exact ⟨[], by rw [show (Mp.Row.dvs r__law_next K) = [] from rfl, List.drop_nil]; exact .nil, b⟩
theorem k__law_back : RowOk (arOf rows) r__law_back where
  chk := by decide +kernel
  sc := ⟨rfl, rfl, rfl, by decide +kernel, rfl, by decide +kernel, by decide +kernel⟩
  np := rfl
  n := rfl
  flat := rfl
  bi := fun K f fd F n h1 h2 => by
    have b := FunD.bindsN (ps := r__law_back.ps) F fun _ _ _ _ _ _ us hl => match us, hl with | [_, _], _ => rfl
    exact ⟨[], by rw [show (Mp.Row.dvs r__law_back K) = [] from rfl, List.drop_nil]; exact .nil, b⟩
theorem k__law_list : RowOk (arOf rows) r__law_list where
  chk := by decide +kernel
  sc := ⟨rfl, rfl, rfl, by decide +kernel, rfl, by decide +kernel, by decide +kernel⟩
  np := rfl
  n := rfl
  flat := rfl
  bi := fun K f fd F n h1 h2 => by
    have b := FunD.bindsN (ps := r__law_list.ps) F fun _ _ _ _ _ _ us hl => match us, hl with | [_, _], _ => rfl
    exact ⟨[], by rw [show (Mp.Row.dvs r__law_list K) = [] from rfl, List.drop_nil]; exact .nil, b⟩
theorem k__law_int : RowOk (arOf rows) r__law_int where
  chk := by decide +kernel
  sc := ⟨rfl, rfl, rfl, by decide +kernel, rfl, by decide +kernel, by decide +kernel⟩
  np := rfl
  n := rfl
  flat := rfl
  bi := fun K f fd F n h1 h2 => by
    have b := FunD.bindsN (ps := r__law_int.ps) F fun _ _ _ _ _ _ us hl => match us, hl with | [_], _ => rfl
    exact ⟨[], by rw [show (Mp.Row.dvs r__law_int K) = [] from rfl, List.drop_nil]; exact .nil, b⟩
theorem k__law_exact : RowOk (arOf rows) r__law_exact where
  chk := by decide +kernel
  sc := ⟨rfl, rfl, rfl, by decide +kernel, rfl, by decide +kernel, by decide +kernel⟩
  np := rfl
  n := rfl
  flat := rfl
  bi := fun K f fd F n h1 h2 => by
    have b := FunD.bindsN (ps := r__law_exact.ps) F fun _ _ _ _ _ _ us hl => match us, hl with | [_, _], _ => rfl
    exact ⟨[], by rw [show (Mp.Row.dvs r__law_exact K) = [] from rfl, List.drop_nil]; exact .nil, b⟩
theorem k__law_rows_agree : RowOk (arOf rows) r__law_rows_agree where
  chk := by decide +kernel
  sc := ⟨rfl, rfl, rfl, by decide +kernel, rfl, by decide +kernel, by decide +kernel⟩
  np := rfl
  n := rfl
  flat := rfl
  bi := fun K f fd F n h1 h2 => by
    have b := FunD.bindsN (ps := r__law_rows_agree.ps) F fun _ _ _ _ _ _ us hl => match us, hl with | [_, _, _], _ => rfl
    exact ⟨[], by rw [show (Mp.Row.dvs r__law_rows_agree K) = [] from rfl, List.drop_nil]; exact .nil, b⟩
theorem k__law_goals : RowOk (arOf rows) r__law_goals where
  chk := by decide +kernel
  sc := ⟨rfl, rfl, rfl, by decide +kernel, rfl, by decide +kernel, by decide +kernel⟩
  np := rfl
  n := rfl
  flat := rfl
  bi := fun K f fd F n h1 h2 => by
    have b := FunD.bindsN (ps := r__law_goals.ps) F fun _ _ _ _ _ _ us hl => match us, hl with | [_, _], _ => rfl
    exact ⟨[], by rw [show (Mp.Row.dvs r__law_goals K) = [] from rfl, List.drop_nil]; exact .nil, b⟩
theorem k__law_adjoint : RowOk (arOf rows) r__law_adjoint where
  chk := by decide +kernel
  sc := ⟨rfl, rfl, rfl, by decide +kernel, rfl, by decide +kernel, by decide +kernel⟩
  np := rfl
  n := rfl
  flat := rfl
  bi := fun K f fd F n h1 h2 => by
    have b := FunD.bindsN (ps := r__law_adjoint.ps) F fun _ _ _ _ _ _ us hl => match us, hl with | [_, _, _], _ => rfl
    exact ⟨[], by rw [show (Mp.Row.dvs r__law_adjoint K) = [] from rfl, List.drop_nil]; exact .nil, b⟩
theorem k_law : RowOk (arOf rows) r_law where
  chk := by decide +kernel
  sc := ⟨rfl, rfl, rfl, by decide +kernel, rfl, by decide +kernel, by decide +kernel⟩
  np := rfl
  n := rfl
  flat := rfl
  bi := fun K f fd F n h1 h2 => by
    have b := FunD.bindsN (ps := r_law.ps) F fun _ _ _ _ _ _ us hl => match us, hl with | [_], _ => rfl
    exact ⟨[], by rw [show (Mp.Row.dvs r_law K) = [] from rfl, List.drop_nil]; exact .nil, b⟩
theorem rows_ok : ∀ r ∈ rows, RowOk (arOf rows) r := by
  unfold rows
  intro r hr
  simp only [List.mem_cons, List.mem_nil_iff, or_false] at hr
  rcases hr with rfl | rfl | rfl | rfl | rfl | rfl | rfl | rfl | rfl | rfl | rfl | rfl | rfl | rfl | rfl | rfl | rfl | rfl | rfl | rfl | rfl | rfl | rfl | rfl | rfl | rfl | rfl | rfl | rfl
  · exact k_is_sequence
  · exact k_is_whole
  · exact k_check_stands
  · exact k_all_stands
  · exact k_check_lot
  · exact k_check_row
  · exact k_check_rows
  · exact k_next_lot
  · exact k_back_lot
  · exact k_test_row
  · exact k_joined_row
  · exact k_behind_row
  · exact k__law_hand
  · exact k__law_mixed
  · exact k__law_take
  · exact k__law_stands
  · exact k__law_every
  · exact k__law_within
  · exact k__law_single
  · exact k__law_drawn_row
  · exact k__law_next
  · exact k__law_back
  · exact k__law_list
  · exact k__law_int
  · exact k__law_exact
  · exact k__law_rows_agree
  · exact k__law_goals
  · exact k__law_adjoint
  · exact k_law
theorem at0 : ∀ r ∈ rows, r.at_.2 = none → r.at_.1 = Str.ofString r.f := by
  unfold rows
  intro r hr
  simp only [List.mem_cons, List.mem_nil_iff, or_false] at hr
  rcases hr with rfl | rfl | rfl | rfl | rfl | rfl | rfl | rfl | rfl | rfl | rfl | rfl | rfl | rfl | rfl | rfl | rfl | rfl | rfl | rfl | rfl | rfl | rfl | rfl | rfl | rfl | rfl | rfl | rfl <;> exact fun _ => rfl
abbrev fa : List He.Fa := lawFa rows
abbrev fn : List He.DefD := rows.map Mp.Row.dd
abbrev hk : PySem.W.Hook := He.hookX 5 fa fn [] [] (lawEx cs)
def ob (s : PySem.W.SharedT) : He.AlX := He.obsX 5 fa fn [] [] (lawEx cs) (HandSHeadRun.getT s)
theorem ob_eq (s : PySem.W.SharedT) : ob s = hk.obs s.abs := He.obsX_eq (HandSHeadRun.getT_eq s)
abbrev RwO : PySem.W.OpenRow := PySem.W.OpenLaw.row PySem.Challenge.rw_truealarms_k05_whole_next_and_back_lots
def loose0 : List Str := [("__name__" : Str), ("CheckerError" : Str), ("BadStands" : Str), ("BadLot" : Str), ("BadRow" : Str), ("is_sequence" : Str), ("is_whole" : Str), ("check_stands" : Str), ("all_stands" : Str), ("check_lot" : Str), ("MOST_ROWS" : Str), ("check_row" : Str), ("check_rows" : Str), ("next_lot" : Str), ("back_lot" : Str), ("test_row" : Str), ("joined_row" : Str), ("behind_row" : Str), ("_law_hand" : Str), ("_law_mixed" : Str), ("_law_take" : Str), ("_law_stands" : Str), ("_law_every" : Str), ("_law_within" : Str), ("_law_single" : Str), ("_law_drawn_row" : Str), ("_law_next" : Str), ("_law_back" : Str), ("_law_list" : Str), ("_law_int" : Str), ("_law_exact" : Str), ("_law_rows_agree" : Str), ("_law_goals" : Str), ("_law_adjoint" : Str)]
def loose : List Str := loose0
theorem run (w : World) : HandSHeadRun.RunEq RwO (PySem.W.view RwO.prog [38]) hk ob 3000 loose w := by
  intro os
  kernel_rfl
theorem bA (K : PySem.W.Frag) (f : Addr) (fd : FuncData) (F : FunD K r_law.nm r_law.qual (defArgs r_law.st) (defBody r_law.st) (defScope r_law.st) [] [] f fd) (s : Shared) (v : Value) : BindsTo s fd ⟨[v], []⟩ [("_law_script", v)] := by
  have b := FunD.bindsA (ps := ["_law_script"]) F fun _ _ _ _ _ _ us hl => match us, hl with | [_], _ => rfl
  exact b s [v] rfl
/-- what the law computes -/
def asks : Prop := ∀ ns : List Int, ns.length ≤ 63 → ∃ lh, call T (dOf rows) 200 "law" [.rd (ns.map .int)] [] = .ok (.bl true) lh
end Lw

namespace Lw
open Mp Lb
abbrev D5 : String → Option Def := dOf rows
theorem dL : Lr D5 := by
  refine ⟨⟨?_, ?_, ?_⟩, ?_, ?_, ?_, ?_, ?_, ?_, ?_, ?_, ?_, ?_⟩ <;> simp [dOf, rowOf, rows, List.find?]
theorem dR : Ro D5 := by
  refine ⟨⟨?_, ?_, ?_, ?_, ?_⟩, ?_, ?_, ?_, ?_, ?_, ?_, ?_⟩ <;> simp [dOf, rowOf, rows, List.find?]
theorem dAgree : D5 "_law_rows_agree" = some d__law_rows_agree := by simp [dOf, rowOf, rows, List.find?]
theorem dGoals : D5 "_law_goals" = some d__law_goals := by simp [dOf, rowOf, rows, List.find?]
theorem dAdj : D5 "_law_adjoint" = some d__law_adjoint := by simp [dOf, rowOf, rows, List.find?]
theorem dLaw : D5 "law" = some d_law := by simp [dOf, rowOf, rows, List.find?]
section
variable {n : Nat} {h rest : LH}
theorem lots_ok {v : Nat} (hv : v ≤ 6) : okRng 0 (2 ^ v) = true ∧ 2 ^ v ≤ big ∧ (1 : Int) * 2 ^ v = ((2 ^ v : Nat) : Int) := by
  have h1 : 2 ^ v ≤ 64 := by
    have := Nat.pow_le_pow_right (show 0 < 2 by decide) hv
    simpa using this
  refine ⟨?_, by unfold big; omega, shl_one v⟩
  rw [two_pow]
  revert h1
  generalize 2 ^ v = m
  intro h1
  unfold okRng big
  exact decide_eq_true (by omega)
theorem rng_two {v : Nat} : rngW 0 (2 ^ v) = (List.range (2 ^ v)).map fun (s : Nat) => W.int s := by
  rw [two_pow, rngW_nat]
/-- a loop over all lots that only looks -/
theorem for_lots {body : Env → LH → RS} {i : Nat} {σ : Env} {nx ct bk : Env → LH → Prop} {rt : W → LH → Prop} {v : Nat} (hx : nx σ h) (hb : ∀ s < 2 ^ v, Sk (body (σ.set i (some (.int (s : Nat)))) h) (fun σ' h' => σ' = σ ∧ h' = h) rt (fun _ _ => False) (fun _ _ => False)) :
    Sk (forL body (.one i) [] ((List.range (2 ^ v)).map fun (s : Nat) => W.int s) σ h) nx rt ct bk := by
  refine forL_ok (fun ws σ' h' => σ' = σ ∧ h' = h ∧ ∃ us : List Nat, ws = us.map (fun (s : Nat) => W.int s) ∧ ∀ s ∈ us, s < 2 ^ v) ?_ ?_ ⟨rfl, rfl, _, rfl, fun s hs => List.mem_range.mp hs⟩
  · rintro σ' h' ⟨rfl, rfl, _⟩
    exact ⟨rfl, hx⟩
  · rintro w ws σ' h' ⟨rfl, rfl, us, hu, hs⟩
    cases us with
    | nil => cases hu
    | cons u us =>
      cases hu
      refine ⟨rfl, _, rfl, ?_⟩
      exact (hb u (hs u (List.mem_cons_self ..))).mono (fun σ l ⟨a, b⟩ => ⟨a, b, us, rfl, fun s hm => hs s (List.mem_cons_of_mem _ hm)⟩) (fun _ _ z => z) (fun _ _ z => z.elim) (fun _ _ z => z.elim)
theorem agree_eq {v : Nat} {w : W} {ns : List Nat} (hv : v ≤ 6) (hl : ns.length ≤ 1000) (hw : Sq w (nats ns)) : call T D5 (n + 4) "_law_rows_agree" [.int v, .tup (nats ns), w] h = .ok (.bl true) h := by
  apply Ok.eq
  rw [Ok_call dAgree rfl]
  obtain ⟨e1, e2, e3⟩ := lots_ok hv
  have e4 : (v : Int) ≤ 1000000 := by omega
  have x1 := exa_eq (T := T) (h := h) dL 1 (n := n) (exD_nats (k := 0) hl)
  simp [d__law_rows_agree, tup_sq hw, x1, e1, e4, rng_two]
  refine for_lots (by simp) fun s hs => ?_
  simp [nxt_eq dR (.inl rfl), lnx_eq dL hw hl, bck_eq dR (.inl rfl) hl, lbk_eq dL hw hl, exa_eq dL 1 (n := n) (show exD 1 (.int _) from trivial)]
theorem goals_sp {v : Nat} (h1 : 1 ≤ v) (hv : v ≤ 6) (hh : Hn rest h) : Ok (call T D5 (n + 3) "_law_goals" [.ref 1, .int v] h) fun w h' => Hn rest h' ∧ ∃ ns : List Nat, w = .fl (nats ns) := by
  rw [Ok_call dGoals rfl]
  obtain ⟨e1, e2, e3⟩ := lots_ok hv
  have e4 : (v : Int) ≤ 1000000 := by omega
  by_cases h5 : (v : Int) < 5
  · simp [d__law_goals, h5, e4, e1, rng_two, hh]
    exact ⟨List.range (2 ^ v), rfl⟩
  · have e5 : okRng 0 10 = true := by decide
    have e6 : rngW 0 10 = (List.range 10).map fun (s : Nat) => W.int s := rngW_nat 10
    have e7 : (10 : Nat) ≤ big := by unfold big; omega
    simp [d__law_goals, h5, evr_eq dL hv, e5, e6, e7]
    refine Ok.mono (compL_draw (Hn rest) (Bel (2 ^ v)) (fun _ _ => rfl) (fun w hw h hh => ⟨_, rfl, rfl, ?_⟩) hh) ?_
    · simp [e4]
      refine Ok.mono (take_sp dL.toHand hh (by rw [two_pow]; have := Nat.two_pow_pos v; omega) (pow_lt dL hv)) ?_
      rintro _ h3 ⟨hh3, j, rfl, hj⟩
      exact ⟨⟨j, rfl, by rw [two_pow] at hj; omega⟩, hh3⟩
    · rintro ys h' ⟨hl, hq, hh'⟩
      obtain ⟨ns, rfl, a1, a2⟩ := nats_of hq
      simp at hl
      rw [nats_length] at hl
      have e8 : 2 + ns.length ≤ big := by unfold big; omega
      simp [nats_length, e8, hh']
      exact ⟨0 :: (2 ^ v - 1) :: ns, rfl⟩
theorem adj_eq {v : Nat} {w : W} {ns gs : List Nat} (hv : v ≤ 6) (hl : ns.length = v) (hw : Sq w (nats ns)) : call T D5 (n + 2) "_law_adjoint" [.int v, w, .fl (nats gs)] h = .ok (.bl true) h := by
  apply Ok.eq
  rw [Ok_call dAdj rfl]
  obtain ⟨e1, e2, e3⟩ := lots_ok hv
  have e4 : (v : Int) ≤ 1000000 := by omega
  simp [d__law_adjoint, e1, e4, rng_two]
  refine for_lots (by simp) fun s hs => ?_
  simp [nxt_eq dR hw]
  refine forL_ok (fun ws σ' h' => h' = h ∧ σ' = [some (.int v), some w, some (.fl (nats gs)), some (.int s), some (.int (nx ns s)), none] ∧ ∃ us : List Nat, ws = nats us) ?_ ?_ ⟨rfl, rfl, gs, rfl⟩
  · rintro σ' h' ⟨rfl, rfl, _⟩
    simp
  · rintro x ws σ' h' ⟨rfl, rfl, us, hu⟩
    cases us with
    | nil => cases hu
    | cons u us =>
      cases hu
      refine ⟨rfl, _, rfl, ?_⟩
      have ha := adjoint (row := ns) (S := s) (T := u) (by rw [hl]; exact hs)
      simp [wit_eq dL, bck_eq dR hw (by omega), ha]
      exact ⟨us, rfl⟩
/-- a loop over things that only looks -/
theorem for_same {body : Env → LH → RS} {i : Nat} {σ : Env} {ws : List W} {nx ct bk : Env → LH → Prop} {rt : W → LH → Prop} (hx : nx σ h) (hb : ∀ w ∈ ws, Sk (body (σ.set i (some w)) h) (fun σ' h' => σ' = σ ∧ h' = h) rt (fun _ _ => False) (fun _ _ => False)) :
    Sk (forL body (.one i) [] ws σ h) nx rt ct bk := by
  refine forL_ok (fun us σ' h' => σ' = σ ∧ h' = h ∧ ∀ u ∈ us, u ∈ ws) ?_ ?_ ⟨rfl, rfl, fun _ z => z⟩
  · rintro σ' h' ⟨rfl, rfl, _⟩
    exact ⟨rfl, hx⟩
  · rintro w us σ' h' ⟨rfl, rfl, hu⟩
    refine ⟨rfl, _, rfl, ?_⟩
    exact (hb w (hu w (List.mem_cons_self ..))).mono (fun σ l ⟨a, b⟩ => ⟨a, b, fun s hm => hu s (List.mem_cons_of_mem _ hm)⟩) (fun _ _ z => z) (fun _ _ z => z.elim) (fun _ _ z => z.elim)
/-- a comprehension over a range whose items are lots -/
theorem comp_nats {f c : Env → LH → R W} {i v : Nat} {σ : Env} (g : Nat → Nat) (ns : List Nat) (hn : (List.range v).map g = ns) (hs : ∀ s < v, c (σ.set i (some (.int (s : Nat)))) h = .ok (.bl true) h ∧ f (σ.set i (some (.int (s : Nat)))) h = .ok (.int (g s)) h) :
    compL f c (.one i) σ [] ((List.range v).map fun (s : Nat) => W.int s) h = .ok (nats ns) h := by
  rw [compL_map (fun x => match x with | .int i => .int (g i.toNat) | x => x) rfl]
  · rw [← hn]
    unfold nats
    rw [List.map_map, List.map_map]
    rfl
  · intro w hw
    obtain ⟨s, hs1, rfl⟩ := List.mem_map.mp hw
    obtain ⟨a1, a2⟩ := hs s (List.mem_range.mp hs1)
    exact ⟨_, rfl, a1, a2⟩
theorem map_get {v : Nat} {a : List Nat} (F : Nat → Nat) (hl : a.length = v) : ((List.range v).map fun s => F (a.getD s 0)) = a.map F := by
  apply List.ext_getElem?
  intro k
  rw [List.getElem?_map, List.getElem?_map]
  by_cases hk : k < v
  · rw [List.getElem?_range hk]
    simp [List.getD, hl ▸ hk]
  · have e1 : (List.range v)[k]? = none := by simp; omega
    have e2 : a[k]? = none := by simp; omega
    rw [e1, e2]; rfl
theorem map_join {v : Nat} {a b : List Nat} (hl : a.length = v) (hm : b.length = v) : ((List.range v).map fun s => a.getD s 0 ||| b.getD s 0) = joinN a b := by
  unfold joinN
  apply List.ext_getElem?
  intro k
  rw [List.getElem?_map, List.getElem?_map]
  by_cases hk : k < v
  · have h1 : k < a.length := by omega
    have h2 : k < b.length := by omega
    have e : (a.zip b)[k]? = some (a[k], b[k]) := by rw [List.getElem?_zip_eq_some]; simp [h1, h2]
    rw [List.getElem?_range hk, e]
    simp [List.getD, h1, h2]
  · have e1 : (List.range v)[k]? = none := by simp; omega
    have e2 : (a.zip b)[k]? = none := by simp; omega
    rw [e1, e2]; rfl
theorem get_nats {v s : Nat} {a : List Nat} (hl : a.length = v) (hs : s < v) : a[s]? = some (a.getD s 0) := by
  have : s < a.length := by omega
  simp [List.getD, this]
theorem bxor_small : ∀ v < 7, ∀ k < 64, k < 2 ^ v → PySem.Builtin.bitXor (((2 ^ v - 1 : Nat) : Nat) : Int) ((k : Nat) : Int) = (((2 ^ v - 1) ^^^ k : Nat) : Int) := by decide +kernel
/-- rows as they are given -/
structure Given (v : Nat) (w : W) (ns : List Nat) : Prop where
  sq : Sq w (nats ns)
  len : ns.length = v
  lt : ∀ r ∈ ns, r < 2 ^ v
theorem crs_eq {v : Nat} {w w0 w1 w2 : W} {a b c : List Nat} (h1 : 1 ≤ v) (hv : v ≤ 6) (hw : Sq w [w0, w1, w2]) (g0 : Given v w0 a) (g1 : Given v w1 b) (g2 : Given v w2 c) :
    call T D5 (n + 5) "check_rows" [.int v, w] h = .ok (.tup [.tup (nats a), .tup (nats b), .tup (nats c)]) h := by
  apply Ok.eq
  rw [Ok_call dR.crs rfl]
  have e : 3 ≤ big := by unfold big; omega
  have eT : T.gl "MOST_ROWS" = some (.int 8) := by simp [T, glOf, cs]
  simp [d_check_rows, cst_eq dR.toWh h1 hv, isq_eq dR.toWh hw, len_sq hw, seq_sq hw, gd_sq hw, e, eT]
  refine compL_step rfl rfl ?_
  simp [cro_eq dR h1 hv g0.sq g0.len g0.lt]
  refine compL_step rfl rfl ?_
  simp [cro_eq dR h1 hv g1.sq g1.len g1.lt]
  refine compL_step rfl rfl ?_
  simp [cro_eq dR h1 hv g2.sq g2.len g2.lt]
  refine compL_nil ?_
  simp
theorem crs0_eq {v : Nat} (h1 : 1 ≤ v) (hv : v ≤ 6) : call T D5 (n + 5) "check_rows" [.int v, .fl []] h = .ok (.tup []) h := by
  apply Ok.eq
  rw [Ok_call dR.crs rfl]
  have eT : T.gl "MOST_ROWS" = some (.int 8) := by simp [T, glOf, cs]
  simp [d_check_rows, cst_eq dR.toWh h1 hv, isq_eq dR.toWh (.inr rfl), eT]
  refine compL_nil ?_
  simp
theorem law_ok {ns : List Int} (hns : ns.length ≤ 63) : Ok (call T D5 (n + 10) "law" [.rd (ns.map .int)] []) fun w _ => w = .bl true := by
  rw [Ok_call dLaw rfl]
  simp [d_law]
  refine Ok.mono (hand_sp dL.toHand hns) ?_
  rintro _ l ⟨rfl, hh⟩
  try simp
  refine Ok.mono (std_sp dL hh) ?_
  rintro _ l1 ⟨hh, v, rfl, v1, v6⟩
  have e3 : okRng 0 3 = true := by decide
  have r3 : rngW 0 3 = [.int 0, .int 1, .int 2] := by rfl
  have b3 : 3 ≤ big := by unfold big; omega
  simp [e3, r3, b3]
  refine compL_step rfl rfl ?_
  try simp
  refine Ok.mono (drw_sp dL v1 v6 hh) ?_
  rintro _ l2 ⟨hh, a, rfl, la, ba⟩
  refine compL_step rfl rfl ?_
  try simp
  refine Ok.mono (drw_sp dL v1 v6 hh) ?_
  rintro _ l3 ⟨hh, b, rfl, lb, bb⟩
  refine compL_step rfl rfl ?_
  try simp
  refine Ok.mono (drw_sp dL v1 v6 hh) ?_
  rintro _ l4 ⟨hh, c, rfl, lc, bc⟩
  refine compL_nil ?_
  simp [b3]
  refine compL_step rfl rfl ?_
  try simp
  refine Ok.mono (lst_sp dL hh (.inr rfl)) ?_
  rintro w0 l5 ⟨hh, s0⟩
  refine compL_step rfl rfl ?_
  try simp
  refine Ok.mono (lst_sp dL hh (.inr rfl)) ?_
  rintro w1 l6 ⟨hh, s1⟩
  refine compL_step rfl rfl ?_
  try simp
  refine Ok.mono (lst_sp dL hh (.inr rfl)) ?_
  rintro w2 l7 ⟨hh, s2⟩
  refine compL_nil ?_
  have g0 : Given v w0 a := ⟨s0, la, ba⟩
  have g1 : Given v w1 b := ⟨s1, lb, bb⟩
  have g2 : Given v w2 c := ⟨s2, lc, bc⟩
  refine Ok.mono (lst_sp dL hh (.inr rfl)) ?_
  rintro wg l8 ⟨hh, sg⟩
  rw [crs_eq v1 v6 sg g0 g1 g2]
  simp
  rw [compL_map (fun x => match x with | .fl xs => .tup xs | x => x) rfl (fun w hw => by
    simp at hw
    rcases hw with rfl | rfl | rfl <;> exact ⟨_, rfl, rfl, rfl⟩)]
  have x0 := exa_eq (T := T) (h := l8) dL 2 (n := n + 5) (w := .tup [.tup (nats a), .tup (nats b), .tup (nats c)]) (exD_tup (k := 1) (by simp) fun x hx => by
    simp at hx
    rcases hx with rfl | rfl | rfl
    · exact exD_nats (k := 0) (by omega)
    · exact exD_nats (k := 0) (by omega)
    · exact exD_nats (k := 0) (by omega))
  have x1 := exa_eq (T := T) (h := l8) dL 2 (n := n + 5) (w := .tup []) (exD_tup (k := 1) (by simp) fun x hx => by simp at hx)
  have tg : ∀ w ∈ [w0, w1, w2], ∃ ns, Given v w ns := fun w hw => by
    simp at hw
    rcases hw with rfl | rfl | rfl
    · exact ⟨_, g0⟩
    · exact ⟨_, g1⟩
    · exact ⟨_, g2⟩
  simp [x0, x1, crs0_eq v1 v6]
  refine for_same ?_ fun w hw => ?_
  case refine_2 =>
    obtain ⟨ms, gm⟩ := tg w hw
    have x2 := exa_eq (T := T) (h := l8) dL 1 (n := n + 6) (exD_nats (k := 0) (ns := ms) (by rw [gm.len]; omega))
    simp [cro_eq dR v1 v6 gm.sq gm.len gm.lt, tup_sq gm.sq, x2]
  case refine_1 =>
    have ag0 : ∀ h, call T D5 (n + 9) "_law_rows_agree" [.int v, .tup (nats a), .fl (nats a)] h = .ok (.bl true) h := fun h => agree_eq (n := n + 5) v6 (by omega) (.inr rfl)
    simp [ag0]
    refine Ok.mono (goals_sp v1 v6 hh) ?_
    rintro _ l9 ⟨hh, gs, rfl⟩
    have ad := adj_eq (n := n + 7) (h := l9) (gs := gs) v6 g2.len g2.sq
    have e := rng_ok dL (v := v) (by omega)
    simp [ad, e.1, rngW_nat, e.2]
    rw [comp_nats (fun s => a.getD s 0 ||| b.getD s 0) (joinN a b) (map_join la lb) (fun s hs => ⟨rfl, by
      apply Ok.eq
      have q1 := get_nats la hs
      have q2 := get_nats lb hs
      revert q1 q2
      generalize a.getD s 0 = x
      generalize b.getD s 0 = y
      intro q1 q2
      simp [ix_nat, nats_get, q1, q2, bor_nat]⟩)]
    have lj : (joinN a b).length = v := by unfold joinN; simp; omega
    have j1 : ∀ h, call T D5 (n + 9) "joined_row" [.tup (nats a), w1] h = .ok (.tup (nats (joinN a b))) h := fun h => joi_eq dR (n := n + 8) (.inl rfl) s1 (by unfold big; omega)
    have ag1 : ∀ h, call T D5 (n + 9) "_law_rows_agree" [.int v, .tup (nats (joinN a b)), .fl (nats (joinN a b))] h = .ok (.bl true) h := fun h => agree_eq (n := n + 5) v6 (by omega) (.inr rfl)
    simp [j1, ag1]
    rw [comp_nats (fun s => nx b (a.getD s 0)) (a.map (nx b)) (map_get (nx b) la) (fun s hs => ⟨rfl, by
      apply Ok.eq
      have q1 := get_nats la hs
      have q2 := lnx_eq (T := T) (h := l9) dL (n := n + 8) (w := .fl (nats b)) (lot := a.getD s 0) (.inr rfl) (by omega)
      revert q1 q2
      generalize a.getD s 0 = x
      intro q1 q2
      simp [ix_nat, nats_get, q1, q2]⟩)]
    have b1 : ∀ h, call T D5 (n + 9) "behind_row" [w0, .tup (nats b)] h = .ok (.tup (nats (a.map (nx b)))) h := fun h => beh_eq dR (n := n + 7) s0 (.inl rfl) (by unfold big; omega)
    have ag2 : ∀ h, call T D5 (n + 9) "_law_rows_agree" [.int v, .tup (nats (a.map (nx b))), .fl (nats (a.map (nx b)))] h = .ok (.bl true) h := fun h => agree_eq (n := n + 5) v6 (by simp; omega) (.inr rfl)
    obtain ⟨p1, p2, p3⟩ := lots_ok v6
    have p4 : (v : Int) ≤ 1000000 := by omega
    simp [b1, ag2, p1, p4, rng_two]
    refine for_lots ?_ fun s hs => ?_
    case refine_2 =>
      have b2 : ∀ h, call T D5 (n + 9) "behind_row" [.tup (nats a), .tup (nats b)] h = .ok (.tup (nats (a.map (nx b)))) h := fun h => beh_eq dR (n := n + 7) (.inl rfl) (.inl rfl) (by unfold big; omega)
      have j2 : ∀ h, call T D5 (n + 9) "joined_row" [.tup (nats a), .tup (nats b)] h = .ok (.tup (nats (joinN a b))) h := fun h => joi_eq dR (n := n + 8) (.inl rfl) (.inl rfl) (by unfold big; omega)
      have nn : ∀ (ms : List Nat) (k : Nat) (h : LH), call T D5 (n + 9) "next_lot" [.tup (nats ms), .int k] h = .ok (.int (nx ms k)) h := fun ms k h => nxt_eq dR (n := n + 8) (.inl rfl)
      have kk : ∀ (ms : List Nat) (k : Nat) (h : LH), ms.length ≤ 1000 → call T D5 (n + 9) "back_lot" [.tup (nats ms), .int k] h = .ok (.int (bk ms k)) h := fun ms k h hl => bck_eq dR (n := n + 8) (.inl rfl) hl
      have la' : a.length ≤ 1000 := by omega
      have lb' : b.length ≤ 1000 := by omega
      have lj' : (joinN a b).length ≤ 1000 := by omega
      have lm' : (a.map (nx b)).length ≤ 1000 := by simp; omega
      simp [b2, j2, nn, kk _ _ _ la', kk _ _ _ lb', kk _ _ _ lj', kk _ _ _ lm', band_nat, nx_behind, bk_behind (one := a) (other := b) (T := s) (by rw [lb]; exact ba), bk_join (T := s) (la.trans lb.symm)]
    case refine_1 =>
      have ep0 : (0 : Int) < 2 ^ v := by rw [two_pow]; have := Nat.two_pow_pos v; omega
      simp [p4]
      refine Ok.mono (take_sp dL.toHand hh ep0 (pow_lt dL v6)) ?_
      rintro _ l10 ⟨hh, kept, rfl, hk⟩
      have hk : kept < 2 ^ v := by rw [two_pow] at hk; omega
      have t1 := tst_eq (T := T) (h := l10) dR (n := n + 4) v1 v6 hk
      simp [t1, e.1, rngW_nat, e.2]
      rw [comp_nats (fun s => 2 ^ s &&& kept) (testN v kept) rfl (fun s hs => ⟨rfl, by
        apply Ok.eq
        have p5 : (s : Int) ≤ 1000000 := by omega
        simp [p5, two_pow, band_nat, -Int.natCast_pow]⟩)]
      have lt : (testN v kept).length = v := by unfold testN; simp
      have ag3 : ∀ h, call T D5 (n + 9) "_law_rows_agree" [.int v, .tup (nats (testN v kept)), .fl (nats (testN v kept))] h = .ok (.bl true) h := fun h => agree_eq (n := n + 5) v6 (by omega) (.inr rfl)
      simp [ag3, p1, p4, rng_two]
      refine for_lots ?_ fun s hs => ?_
      case refine_2 =>
        have nn : ∀ (ms : List Nat) (k : Nat) (h : LH), call T D5 (n + 9) "next_lot" [.tup (nats ms), .int k] h = .ok (.int (nx ms k)) h := fun ms k h => nxt_eq dR (n := n + 8) (.inl rfl)
        have kk : ∀ (k : Nat) (h : LH), call T D5 (n + 9) "back_lot" [.tup (nats (testN v kept)), .int k] h = .ok (.int (bk (testN v kept) k)) h := fun k h => bck_eq dR (n := n + 8) (.inl rfl) (by omega)
        have hk64 : kept < 64 := Nat.lt_of_lt_of_le hk (by have := Nat.pow_le_pow_right (show 0 < 2 by decide) v6; simpa using this)
        simp [nn, kk, band_nat, nx_test hs, bk_test hs hk, evr_eq dL v6, bxor_small v (by omega) kept hk64 hk, bor_nat]
      case refine_1 =>
        simp [b3]
        have fl : ∀ {w : W} {xs : List W}, Sq w xs → (match w with | .tup xs => .fl xs | x => x) = W.fl xs := fun {w xs} hw => by rcases hw with rfl | rfl <;> rfl
        rw [compL_map (fun x => match x with | .tup xs => .fl xs | x => x) rfl (fun w hw => by
          have hs : ∃ xs, Sq w xs := by
            simp at hw
            rcases hw with rfl | rfl | rfl
            · exact ⟨_, s0⟩
            · exact ⟨_, s1⟩
            · exact ⟨_, s2⟩
          obtain ⟨xs, hs⟩ := hs
          rcases hs with rfl | rfl <;> exact ⟨_, rfl, rfl, rfl⟩)]
        simp only [List.map_cons, List.map_nil, fl s0, fl s1, fl s2, okOk]
        have q := eqW_self (h := l10) (k := 2) (xs := [.fl (nats a), .fl (nats b), .fl (nats c)]) (by decide) (by
          unfold dt
          intro x hx
          simp at hx
          rcases hx with rfl | rfl | rfl <;> exact dt_nats (k := 0))
        rw [ok_eqW q]
end
/-- THE LAW -/
theorem asks_ok : ∀ ns : List Int, ns.length ≤ 63 → ∃ lh, call T (dOf rows) 200 "law" [.rd (ns.map .int)] [] = .ok (.bl true) lh := fun ns hn => by
  obtain ⟨w, l, e, q⟩ := (law_ok (n := 190) hn).get
  subst q
  exact ⟨l, e⟩
end Lw
open PySem PySem.W PySem.Calls PyProof.Rows
theorem Lw.holds (hl : Lw.asks) : PySem.Challenge.rw_truealarms_k05_whole_next_and_back_lots.Holds := by
  w_on; o_law
  refine HandSHeadRun.head_any (r := OpenLaw.row PySem.Challenge.rw_truealarms_k05_whole_next_and_back_lots) (q := view (OpenLaw.row PySem.Challenge.rw_truealarms_k05_whole_next_and_back_lots).prog [38]) (H := Lw.hk) (ob := Lw.ob) (M := 3000) (loose := Lw.loose) (d := HandSHeadRun.topDef (OpenLaw.row PySem.Challenge.rw_truealarms_k05_whole_next_and_back_lots).prog 38) (kwd := []) Lw.ob_eq
    (by kernel_rfl) (fun s => by kernel_rfl) Lw.run (by kernel_rfl) (by kernel_rfl) (by kernel_rfl) (by rfl) (by first | assumption | decide +kernel) (by decide +kernel) ⟨rfl, rfl, rfl, rfl, rfl, by decide +kernel⟩ ?hw ?hc
  case hw => w_witness2
  case hc =>
    refine L2.walk_ofE (l := PySem.Challenge.rw_truealarms_k05_whole_next_and_back_lots) (n := 63) (k := 200) (x := "_law_script") (CX := Mp.CXe) rfl (by decide) (by kernel_rfl) ⟨rfl, by decide, by decide⟩ ?F ?CX
    case CX =>
      rintro H s e s' ⟨c, d, H', z⟩
      exact z
    case F =>
      intro w mg fa h Y G hmg0
      obtain ⟨K, KX, c⟩ := Y
      obtain ⟨fd, f1, f2, f3⟩ := Mp.law_facts (rows := Lw.rows) (cs := Lw.cs) (T := Lw.T) (P := PySem.Challenge.pw_truealarms_k05_whole_next_and_back_lots) (w := w) (r := Lw.r_law) rfl rfl Lw.rows_ok Lw.at0 KX G c rfl rfl rfl rfl rfl Lw.bA 200
      have hmg : mg ("law" : PySem.Str) = some (.ref fa) := by
        have e : (HandSHeadRun.topDef (OpenLaw.row PySem.Challenge.rw_truealarms_k05_whole_next_and_back_lots).prog 38).name = ("law" : PySem.Str) := by kernel_rfl
        rw [← e]
        exact hmg0
      cases hmg.symm.trans f1
      refine ⟨K, fd, _, KX, f2, fun H a ns hn hO hS => ?_, fun base _ _ => Mp.FnOk.weak (f3 base)⟩
      obtain ⟨lh, h1⟩ := hl ns hn
      exact Mp.law_sp h1 hO hS
theorem PySem.Challenge.cw_truealarms_k05_whole_next_and_back_lots_holds : PySem.Challenge.rw_truealarms_k05_whole_next_and_back_lots.Holds := by
  exact Lw.holds Lw.asks_ok
