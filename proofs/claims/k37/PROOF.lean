import PyProof.Rows.All
import Wide.All
import OpenK.AllK
import Wide.FinOn
import KE.GoesMore
import KE.GoesEnum
import HandS.Iter
import HandS.Zip
import HandS.ForExc
import HandS.Text
import KE.SortData
import HandS.CallSlots
import HandS.IsInst
import HandS.Comp
import HandS.Rev
import HandS.Conv
import HandS.Style
import HandS.TupAny
import HandS.Deep
import HandS.Flow
import HandS.SortInts
import HandS.Property
import HandS.More
import HandS.ExcOwn
import HandS.TryMany
import HandS.ExcInit
import HandS.ExcField
import HandS.Walk
import HandS.Dict
import KE.KDictList
import HandS.SetFor
import HandS.Strs
import PyProof.InstNe
import HandS.Defaults
import HandS.ClsMeth
import HandS.HeadEnd
import HandS.HeadHook2
import HandS.HeadHook4
import HandS.Head0
import HandS.Head1
import HandS.Head2
import KE.OsArith
import HandS.WideBits
import KE.BitLaws
import PyProof.P3Eq
import PySem.Challenge.RW_truealarms_k37_whole_rewritings_told_and
set_option Elab.async false
set_option linter.all false
set_option maxRecDepth 100000
set_option maxHeartbeats 0
/-! enumerate over a tuple -/
namespace Mp
open PySem PySem.Spec PyProof.Rows L2
theorem meets_en1 {v : Value} {o : Obj} {H : Heap → Prop} (B : Begins v o H) :
    Meets (Builtin.«enumerate.__new__» ⟨[.type "enumerate", v], []⟩) (fun _ R s => H s.heap ∧
      R (.ok (.ret (.ref (s.heap.push o).objs.size))) { s with heap := (s.heap.push o).push { cls := .type "enumerate", data := .fields #[.none, .bool false, .ref s.heap.objs.size, rawInt 0, .none, .none] } }) :=
  .of_wp fun prog w A R s h => by
    obtain ⟨hp, gs, dr, tk, os⟩ := s
    obtain ⟨hv, hr⟩ := h
    have hsub := sub_enumerate
    have it1 : ∀ {A2 : Around} {E Q : Value → Shared → Prop}, Q (.ref hp.objs.size) ⟨hp.push o, gs, dr, tk, os⟩ → wpAny (model prog w) A2 (pyIter v) Q E ⟨hp, gs, dr, tk, os⟩ :=
      fun z => B.iter prog w _ _ ⟨hp, gs, dr, tk, os⟩ _ hv z
    wp_walk using it1
    refine wpAny_stack_any fun _ => wpAny_pure ?_
    split
    · rename_i k _ _ _ _ _
      cases (k == Value.type "enumerate") <;> (wp_walk using it1; exact ⟨_, rfl, hr⟩)
    · wp_walk using it1
      exact ⟨_, rfl, hr⟩
theorem call_en1 {prog : Program} {w : World} {A : Around} {E : Value → Shared → Prop} {s : Shared} {v : Value} {o : Obj} {H : Heap → Prop} {Q : Value → Shared → Prop} (B : Begins v o H) (hv : H s.heap)
    (h : ∀ h', IsEnum h' (s.heap.objs.size + 1) s.heap.objs.size 0 .none → h'.get? s.heap.objs.size = some o → (∀ b u, s.heap.get? b = some u → h'.get? b = some u) → Q (.ref (s.heap.objs.size + 1)) { s with heap := h' }) :
    wpAny (model prog w) A (call (.type "enumerate") [v]) Q E s := by
  refine callType_new F.called_enumerate (by decide) (F.typeCall_enumerate_1 _) (F.newCall_enumerate_1 _) (fun u => F.args_object_init_2 u _) F.entry_enumerate_new (meets_en1 B) ⟨hv, ?_⟩
  have hz : (s.heap.push o).objs.size = s.heap.objs.size + 1 := Heap.size_push ..
  show _ ∧ _
  rw [hz]
  have he := Heap.get?_push_size (s.heap.push o) (o := { cls := .type "enumerate", data := .fields #[.none, .bool false, .ref s.heap.objs.size, rawInt 0, .none, .none] }) rfl
  rw [hz] at he
  exact ⟨⟨_, he, rfl⟩, h _ he (Heap.get?_push_of_some _ (Heap.get?_push_size _ B.free)) fun b u x => Heap.get?_push_of_some _ (Heap.get?_push_of_some _ x)⟩
/-- the tuple at a, each item in a new pair -/
def ItT (K : PySem.W.Frag) (a : Addr) : It where
  go i H := ∃ (xs : List V) (x : V), SqT K H a xs ∧ xs[i]? = some x
  yld i H v H' := ∃ T x, v = .ref T ∧ H T = none ∧ H' = upd H T (.tup [.int (i : Nat), x]) ∧ ∀ xs, SqT K H a xs → xs[i]? = some x
  stop i H := ∃ xs : List V, SqT K H a xs ∧ xs.length ≤ i
theorem turn_ent {P : Program} {w : World} {K : PySem.W.Frag} {elts : List Expr} {kk : Nat} {tpos : Pos} (a e it : Addr) :
    Turn P w K (.Tuple elts kk tpos) (ItT K a) [e, it] e (fun i h => (∃ old, IsEnum h e it ((i : Nat) : Int) old) ∧ h.IsTupleIter it a i ∧ e ≠ it) where
  mem := List.mem_cons_self ..
  obj := fun i h st b hb => by
    obtain ⟨⟨old, he⟩, ⟨o, ho, hc, hd⟩, _⟩ := st
    rcases List.mem_cons.mp hb with z | z
    · subst z; exact ⟨_, he, fun v q => nomatch q⟩
    · cases List.mem_singleton.mp z
      exact ⟨o, ho, fun v q => by rw [hd] at q; cases q⟩
  keep := fun i h h' ⟨⟨old, he⟩, hi, hne⟩ k => ⟨⟨old, k e (List.mem_cons_self ..) _ he⟩, hi.at fun o q => k it (List.mem_cons_of_mem _ (List.mem_cons_self ..)) o q, hne⟩
  item := by
    intro X hP hw hK hc i pins s σ H E I hf ⟨⟨old, he⟩, hit, hne⟩ ⟨xs, x, hq, hx⟩
    subst hP hw hK
    obtain ⟨its, rv, p, hz⟩ := I.tuple hq
    obtain ⟨u, hu, ru⟩ := rv.get hx
    have hel : e < s.heap.objs.size := Heap.lt_size he
    have hil : it < s.heap.objs.size := by obtain ⟨_, q, _⟩ := hit; exact Heap.lt_size q
    have ait : a ≠ it := fun z => by
      obtain ⟨o1, q1, q2, _⟩ := hit
      obtain ⟨o2, q3, q4, _⟩ := p
      rw [z, q1] at q3
      cases q3
      rw [q2] at q4
      exact absurd q4 (by decide)
    have aen : e ≠ a := fun z => by
      obtain ⟨o2, q3, q4, _⟩ := p
      rw [← z, he] at q3
      cases q3
      have q5 : (Value.type "enumerate") = .type "tuple" := q4
      exact absurd q5 (by decide)
    have D := Draws.tuple (prog := X.prog) (w := X.w) (A := X.A.in1) (I.ok.hd hc) it a ait its.toArray
    refine wpAny_pyNext_enum_itemD D he ⟨hit, p⟩ (by have := (List.getElem?_eq_some_iff.mp hu).1; simpa using this) hne (by simp [hne, aen]) fun y h' tk hy ho hst hT hsz hk => ?_
    have hyu : y = u := by
      have hu' : its.toArray[i]? = some u := by simpa using hu
      rw [hu'] at hy
      exact (Option.some.inj hy).symm
    subst hyu
    refine ⟨_, rfl, wpAny_letOwnedTupleGo_enum (s := { s with heap := h', toks := tk + 1 }) ho fun h2 he2 sb => ?_⟩
    have hT2 := (sb.2 _ (Nat.ne_of_gt hel)).trans hT
    have new : ObjOk X.prog X.w (upd H s.heap.objs.size (.tup [.int (i : Nat), x])) h2 s.heap.objs.size (.tup [.int (i : Nat), x]) :=
      ⟨show 2 ≤ sizeLine by decide, [.int i tk, y], .cons ⟨_, rfl⟩ (.cons ru .nil), ⟨_, hT2, rfl, _, rfl⟩⟩
    have I1 : Inv X pins σ (upd H s.heap.objs.size (.tup [.int (i : Nat), x])) { s with heap := h2, toks := tk + 1 } :=
      I.turnedNew (ch := [e, it]) (fun b ob hb q => by
        have b1 : b ≠ e := fun z => hb (by simp [z])
        have b2 : b ≠ it := fun z => hb (by simp [z])
        exact (sb.2 b b1).trans (hk b ob b1 b2 q)) hf (Nat.le_refl _) new
    refine ⟨.ref s.heap.objs.size, _, I1, rfl, ⟨_, x, rfl, I.hok.fresh (Nat.le_refl _), rfl, fun ys hy => by rw [I.tuple_inj hy hq]; exact hx⟩, ⟨⟨y, ?_⟩, hst.1.at fun o q => (sb.2 it (Ne.symm hne)).trans q, hne⟩, fun b hb => ?_⟩
    · have e1 : ((i + 1 : Nat) : Int) = (i : Int) + 1 := by omega
      rw [e1]
      exact he2
    · have hb' : b < s.heap.objs.size := by
        rcases List.mem_cons.mp hb with z | z
        · rw [z]; exact hel
        · rw [List.mem_singleton.mp z]; exact hil
      rw [upd_ne (Nat.ne_of_lt hb')]
      exact (hf b hb).1
  done := by
    intro X hP hw hK hc i pins s σ H E I hf ⟨⟨old, he⟩, hit, hne⟩ ⟨xs, hq, hx⟩
    subst hP hw hK
    obtain ⟨its, rv, p, hz⟩ := I.tuple hq
    obtain ⟨f0, f1, f2, f3, f4, f5⟩ := hf it (by simp)
    have hl := rv.length
    have hT : s.TypeIs (.ref e) "enumerate" := ⟨_, he, rfl⟩
    unfold pyNext
    refine wpAny_bind (wpAny_attempt (wpAny_callSpecial?_slot (name := Str.ofString "__next__") hT F.slot_enumerate_next (wpAny_call_entry F.slot_enumerate_next hT F.entry_enumerate_next ?_ (F.args_enumerate_next_1 _))))
    show wpAny _ _ (field (.ref e) 2 >>= _) _ _ _
    refine wpAny_bind (wpAny_field he rfl (x := .ref it) rfl (wpAny_bind (wpAny_nextOf_tuple_end (I.ok.hd hc) hit p (by simp; omega) fun h' x eb hx' => ?_)))
    obtain ⟨o, ho, hcl⟩ := hx'
    exact wpAny_bind (wpAny_isInstance (T := "StopIteration") (b := true) ⟨o, ho, hcl⟩ isSubtype_stop (wpAny_pure ⟨rfl, I.turned (t' := s.toks) (fun b o hb q => eb b o hb q) f0 f1 f3 f4 f5⟩))
  self := fun A i s Q E ⟨⟨_, he⟩, _⟩ h => wpAny_pyIter_enum he h
def iEnT (K : PySem.W.Frag) (ta : TA) : TI := fun σ H R => ta σ H fun vs H1 => ∃ a xs, vs = [.ref a] ∧ SqT K H1 a xs ∧ R (ItT K a) H1
theorem pi_ent {X : Cx} {e : Expr} {ta : TA} {p pos tpos : Pos} {elts : List Expr} {kk : Nat} (hg : Gl X "enumerate") (hm : X.mg "enumerate" = none) (ha : PA X [e] ta) (hs : starEach [e] X.env = [(false, eval e X.env)] := by rfl) :
    PI X (.Tuple elts kk tpos) (.Call (.Name "enumerate" p) [e] [] pos) (iEnT X.K ta) := by
  refine ⟨fun pins s σ H R I h => Call_ (ld_blt I hg hm boot_enumerate (PyProof.Rows.callWith_type1 (thn (ha.run pos pins s σ H _ I h) fun us s1 ⟨vs, H1, I1, r1, q1⟩ => ?_) hs rfl))⟩
  obtain ⟨a, xs, rfl, hq, q⟩ := q1
  cases r1 with
  | cons r rr =>
    cases rr
    cases r
    obtain ⟨its, rv, p', hz⟩ := I1.tuple hq
    refine call_en1 (begins_tuple a its.toArray) p' fun h' he hit hk => wpAny_pyIter_enum he ?_
    have I2 : Inv X pins σ H1 { s1 with heap := h' } := I1.kept (t' := s1.toks) hk
    refine ⟨s1.heap.objs.size + 1, [s1.heap.objs.size + 1, s1.heap.objs.size], _, _, H1, rfl, I2, turn_ent a (s1.heap.objs.size + 1) s1.heap.objs.size, ⟨⟨.none, he⟩, ⟨_, hit, rfl, rfl⟩, Nat.succ_ne_self _⟩, fun b hb => ?_, q⟩
    have hle : s1.heap.objs.size ≤ b := by
      rcases List.mem_cons.mp hb with z | z
      · rw [z]; exact Nat.le_add_right _ _
      · rw [List.mem_singleton.mp z]; exact Nat.le_refl _
    exact I1.fpOk hle (I1.hok.fresh hle)
end Mp
/-! zip over a list or a tuple and another -/
namespace Mp
open PySem PySem.Spec PyProof.Rows L2
def SqB : Bool → PySem.W.Frag → Hp → Addr → List V → Prop
  | true, K, H, a, xs => SqT K H a xs
  | false, K, H, a, xs => SqL K H a xs
def ItB : Bool → Heap → Addr → Addr → Nat → Prop
  | true, h, it, a, i => h.IsTupleIter it a i
  | false, h, it, a, i => h.IsListIter it a i
def IsB : Bool → Heap → Addr → Array Value → Prop
  | true, h, a, its => h.IsTuple a its
  | false, h, a, its => h.IsList a its
def objB : Bool → Addr → Obj
  | true, a => { cls := .type "tuple_iterator", data := .fields #[.ref a, .int 0 0] }
  | false, a => { cls := .type "list_iterator", data := .fields #[.ref a, .int 0 0] }
section
variable {X : Cx} {pins : List (Addr × Obj)} {σ : L2.St} {H : Hp} {s : Shared} {t : Bool} {a b it : Addr} {xs ys : List V} {its : Array Value}
theorem seqB_of (I : Inv X pins σ H s) (h : SqB t X.K H a xs) : ∃ its : List Value, Vals xs its ∧ IsB t s.heap a its.toArray := by
  cases t with
  | true =>
    obtain ⟨its, rv, p, _⟩ := I.tuple h
    exact ⟨its, rv, p⟩
  | false =>
    obtain ⟨its, rv, p, _⟩ := I.list h
    exact ⟨its, rv, p.isList⟩
theorem seqB_inj (I : Inv X pins σ H s) (h : SqB t X.K H a xs) (h2 : SqB t X.K H a ys) : xs = ys := by
  cases t with
  | true => exact I.tuple_inj h h2
  | false => exact I.list_inj h h2
theorem IsB.lt {h : Heap} (p : IsB t h a its) : a < h.objs.size := by
  cases t with
  | true => obtain ⟨o, e, _⟩ := (show h.IsTuple a its from p); exact Heap.lt_size e
  | false => obtain ⟨o, e, _⟩ := (show h.IsList a its from p); exact Heap.lt_size e
theorem ItB.look {h : Heap} {i : Nat} (p : ItB t h it a i) : ∃ o, h.get? it = some o ∧ ∀ v, o.data ≠ .cell v := by
  cases t with
  | true => obtain ⟨o, e, _, d⟩ := (show h.IsTupleIter it a i from p); exact ⟨o, e, fun v q => by rw [d] at q; cases q⟩
  | false => obtain ⟨o, e, _, d⟩ := (show h.IsListIter it a i from p); exact ⟨o, e, fun v q => by rw [d] at q; cases q⟩
theorem ItB.to {h h' : Heap} {i : Nat} (p : ItB t h it a i) (k : ∀ o, h.get? it = some o → h'.get? it = some o) : ItB t h' it a i := by
  cases t with
  | true => exact Heap.IsTupleIter.at p k
  | false => exact Heap.IsListIter.at p k
theorem ItB.ne {h : Heap} {i : Nat} {t2 : Bool} (p : ItB t h it a i) (q : IsB t2 h b its) : b ≠ it := fun z => by
  subst z
  cases t with
  | true =>
    obtain ⟨o1, q1, q2, _⟩ := (show h.IsTupleIter b a i from p)
    cases t2 with
    | true => obtain ⟨o2, q3, q4, _⟩ := (show h.IsTuple b its from q); rw [q1] at q3; cases q3; rw [q2] at q4; exact absurd q4 (by decide)
    | false => obtain ⟨o2, q3, q4, _⟩ := (show h.IsList b its from q); rw [q1] at q3; cases q3; rw [q2] at q4; exact absurd q4 (by decide)
  | false =>
    obtain ⟨o1, q1, q2, _⟩ := (show h.IsListIter b a i from p)
    cases t2 with
    | true => obtain ⟨o2, q3, q4, _⟩ := (show h.IsTuple b its from q); rw [q1] at q3; cases q3; rw [q2] at q4; exact absurd q4 (by decide)
    | false => obtain ⟨o2, q3, q4, _⟩ := (show h.IsList b its from q); rw [q1] at q3; cases q3; rw [q2] at q4; exact absurd q4 (by decide)
theorem drawsB {prog : Program} {w : World} {A : Around} (hh : A.handled = none) (hne : a ≠ it) : Draws prog w A it [it, a] its.size (fun i v => its[i]? = some v) (fun i h => ItB t h it a i ∧ IsB t h a its) := by
  cases t with
  | true => exact Draws.tuple hh it a hne its
  | false => exact Draws.list hh it a hne its
theorem beginsB : Begins (.ref a) (objB t a) fun h => IsB t h a its := by
  cases t with
  | true => exact begins_tuple a its
  | false => exact begins_list a its
theorem objB_it {h : Heap} (e : h.get? it = some (objB t a)) : ItB t h it a 0 := by
  cases t with
  | true => exact ⟨_, e, rfl, rfl⟩
  | false => exact ⟨_, e, rfl, rfl⟩
end
/-- two sequences, the items in new pairs -/
def ItZB (t1 t2 : Bool) (K : PySem.W.Frag) (a b : Addr) : It where
  go i H := ∃ (xs ys : List V) (x y : V), SqB t1 K H a xs ∧ SqB t2 K H b ys ∧ xs[i]? = some x ∧ ys[i]? = some y
  yld i H v H' := ∃ T x y, v = .ref T ∧ H T = none ∧ H' = upd H T (.tup [x, y]) ∧ (∀ xs, SqB t1 K H a xs → xs[i]? = some x) ∧ ∀ ys, SqB t2 K H b ys → ys[i]? = some y
  stop i H := ∃ xs ys : List V, SqB t1 K H a xs ∧ SqB t2 K H b ys ∧ i ≤ xs.length ∧ i ≤ ys.length ∧ (i = xs.length ∨ i = ys.length)
theorem cellsB {c z TI TO i1 i2 : Addr} (h : c ∈ [z, TI, TO, i1, i2]) : c = z ∨ c = TI ∨ c = TO ∨ c = i1 ∨ c = i2 := by simpa using h
theorem turn_zipB {P : Program} {w : World} {K : PySem.W.Frag} {elts : List Expr} {kk : Nat} {tpos : Pos} {t1 t2 : Bool} {a b z TI TO i1 i2 : Addr} (S : ZipSep2 z TI TO i1 i2 [i1, a] [i2, b]) :
    Turn P w K (.Tuple elts kk tpos) (ItZB t1 t2 K a b) [z, TI, TO, i1, i2] z (fun i h => IsZip h z TI TO .none ∧ IsTupOf2 h TI (.ref i1) (.ref i2) ∧ (∃ x y, IsTupOf2 h TO x y) ∧ ItB t1 h i1 a i ∧ ItB t2 h i2 b i) where
  mem := List.mem_cons_self ..
  obj := fun i h ⟨hz, hTI, ⟨x, y, hTO⟩, h1, h2⟩ c hc => by
    rcases cellsB hc with q | q | q | q | q
    · rw [q]; exact ⟨_, hz, fun v q => nomatch q⟩
    · rw [q]; exact ⟨_, hTI, fun v q => nomatch q⟩
    · rw [q]; exact ⟨_, hTO, fun v q => nomatch q⟩
    · rw [q]; exact h1.look
    · rw [q]; exact h2.look
  keep := fun i h h' ⟨hz, hTI, ⟨x, y, hTO⟩, h1, h2⟩ k => ⟨k z (by simp) _ hz, k TI (by simp) _ hTI, ⟨x, y, k TO (by simp) _ hTO⟩, h1.to fun o q => k i1 (by simp) o q, h2.to fun o q => k i2 (by simp) o q⟩
  item := by
    intro X hP hw hK hc i pins s σ H E I hf ⟨hz, hTI, ⟨x0, y0, hTO⟩, h1, h2⟩ ⟨xs, ys, x, y, hqx, hqy, hx, hy⟩
    subst hP hw hK
    obtain ⟨its, rv, p1⟩ := seqB_of I hqx
    obtain ⟨its2, rv2, p2⟩ := seqB_of I hqy
    obtain ⟨u, hu, ru⟩ := rv.get hx
    obtain ⟨u2, hu2, ru2⟩ := rv2.get hy
    have D1 := drawsB (prog := X.prog) (w := X.w) (A := X.A.in1) (t := t1) (its := its.toArray) (I.ok.hd hc) (h1.ne p1)
    have D2 := drawsB (prog := X.prog) (w := X.w) (A := X.A.in1) (t := t2) (its := its2.toArray) (I.ok.hd hc) (h2.ne p2)
    have hzl : z < s.heap.objs.size := Heap.lt_size hz
    refine wpAny_pyNext_zipD2_item S D1 D2 hz hTI hTO ⟨h1, p1⟩ ⟨h2, p2⟩ (by have := (List.getElem?_eq_some_iff.mp hu).1; simpa using this) (by have := (List.getElem?_eq_some_iff.mp hu2).1; simpa using this)
      fun v1 v2 h' tk e1 e2 z' TO' st1 st2 hT hsz hk => ?_
    have ev1 : v1 = u := by
      have q : its.toArray[i]? = some u := by simpa using hu
      rw [q] at e1
      exact (Option.some.inj e1).symm
    have ev2 : v2 = u2 := by
      have q : its2.toArray[i]? = some u2 := by simpa using hu2
      rw [q] at e2
      exact (Option.some.inj e2).symm
    subst ev1 ev2
    refine ⟨_, rfl, wpAny_letOwnedTupleGo_zip (s := { s with heap := h', toks := tk }) z' fun h2' z2 sb => ?_⟩
    have hT2 := (sb.2 _ (Nat.ne_of_gt hzl)).trans hT
    have new : ObjOk X.prog X.w (upd H s.heap.objs.size (.tup [x, y])) h2' s.heap.objs.size (.tup [x, y]) :=
      ⟨show 2 ≤ sizeLine by decide, [v1, v2], .cons ru (.cons ru2 .nil), ⟨_, hT2, rfl, _, rfl⟩⟩
    have I1 : Inv X pins σ (upd H s.heap.objs.size (.tup [x, y])) { s with heap := h2', toks := tk } :=
      I.turnedNew (ch := [z, TI, TO, i1, i2]) (fun c o hb q => by
        have b1 : c ≠ z := fun q' => hb (by simp [q'])
        exact (sb.2 c b1).trans (hk c o b1 (fun q' => hb (by simp [q'])) (fun q' => hb (by simp [q'])) (fun q' => hb (by simp [q'])) q)) hf (Nat.le_refl _) new
    refine ⟨.ref s.heap.objs.size, _, I1, rfl, ⟨_, x, y, rfl, I.hok.fresh (Nat.le_refl _), rfl, fun l hl => by rw [seqB_inj I hl hqx]; exact hx, fun l hl => by rw [seqB_inj I hl hqy]; exact hy⟩, ⟨z2, ?_, ⟨v1, v2, ?_⟩, ?_, ?_⟩, fun c hcm => ?_⟩
    · exact (sb.2 _ S.TIz).trans (hk _ _ S.TIz S.TITO S.TIi1 S.TIi2 hTI)
    · exact (sb.2 _ S.TOz).trans TO'
    · exact st1.1.to fun o q => (sb.2 _ (Ne.symm S.zi1)).trans q
    · exact st2.1.to fun o q => (sb.2 _ (Ne.symm S.zi2)).trans q
    · have hlt : c < s.heap.objs.size := by
        rcases cellsB hcm with q | q | q | q | q
        · rw [q]; exact hzl
        · rw [q]; exact Heap.lt_size hTI
        · rw [q]; exact Heap.lt_size hTO
        · rw [q]; obtain ⟨_, e1, _⟩ := h1.look; exact Heap.lt_size e1
        · rw [q]; obtain ⟨_, e2, _⟩ := h2.look; exact Heap.lt_size e2
      rw [upd_ne (Nat.ne_of_lt hlt)]
      exact (hf c hcm).1
  done := by
    intro X hP hw hK hc i pins s σ H E I hf ⟨hz, hTI, ⟨x0, y0, hTO⟩, h1, h2⟩ ⟨xs, ys, hqx, hqy, l1, l2, hend⟩
    subst hP hw hK
    obtain ⟨its, rv, p1⟩ := seqB_of I hqx
    obtain ⟨its2, rv2, p2⟩ := seqB_of I hqy
    have e1 := rv.length
    have e2 := rv2.length
    have D1 := drawsB (prog := X.prog) (w := X.w) (A := X.A.in1) (t := t1) (its := its.toArray) (I.ok.hd hc) (h1.ne p1)
    have D2 := drawsB (prog := X.prog) (w := X.w) (A := X.A.in1) (t := t2) (its := its2.toArray) (I.ok.hd hc) (h2.ne p2)
    exact wpAny_pyNext_zipD2_end S D1 D2 hz hTI hTO ⟨h1, p1⟩ ⟨h2, p2⟩ (by simp; omega) (by simp; omega) (by simp; omega) fun h' tk hk => ⟨rfl, I.turnedL (t' := tk) (ch := [z, TI, TO, i1, i2]) (fun c o hb q =>
      hk c o (fun q' => hb (by simp [q'])) (fun q' => hb (by simp [q'])) (fun q' => hb (by simp [q'])) (fun q' => hb (by simp [q'])) q) hf⟩
  self := fun A i s Q E st h => wpAny_pyIter_zip st.1 h
def iZipB (t1 t2 : Bool) (K : PySem.W.Frag) (ta : TA) : TI := fun σ H R => ta σ H fun vs H1 => ∃ a b xs ys, vs = [.ref a, .ref b] ∧ SqB t1 K H1 a xs ∧ SqB t2 K H1 b ys ∧ R (ItZB t1 t2 K a b) H1
theorem pi_zipB {X : Cx} {t1 t2 : Bool} {e e2 : Expr} {ta : TA} {p pos tpos : Pos} {elts : List Expr} {kk : Nat} (hg : Gl X "zip") (hm : X.mg "zip" = none) (ha : PA X [e, e2] ta)
    (hs : starEach [e, e2] X.env = (false, eval e X.env) :: starEach [e2] X.env := by rfl) (hpl : (backTo pos (starEach [e2] X.env)).any (·.1) = false := by rfl) :
    PI X (.Tuple elts kk tpos) (.Call (.Name "zip" p) [e, e2] [] pos) (iZipB t1 t2 X.K ta) := by
  refine ⟨fun pins s σ H R I h => Call_ (ld_blt I hg hm PyProof.Rows.boot_zip (PyProof.Rows.callWith_type1 (thn (ha.run pos pins s σ H _ I h) fun us s1 ⟨vs, H1, I1, r1, q1⟩ => ?_) hs hpl))⟩
  obtain ⟨a, b, xs, ys, rfl, hqx, hqy, q⟩ := q1
  cases r1 with
  | cons r rr =>
    cases rr with
    | cons r' rr =>
      cases rr
      cases r
      cases r'
      obtain ⟨its, rv, p1⟩ := seqB_of I1 hqx
      obtain ⟨its2, rv2, p2⟩ := seqB_of I1 hqy
      refine zip_begins2 beginsB beginsB p1 p2 fun h' hz hTI hTO h1 h2 hsz hk => wpAny_pyIter_zip hz ?_
      have I2 : Inv X pins σ H1 { s1 with heap := h' } := I1.kept (t' := s1.toks) hk
      have fresh5 : ∀ c, c ∈ [s1.heap.objs.size + 4, s1.heap.objs.size + 2, s1.heap.objs.size + 3, s1.heap.objs.size, s1.heap.objs.size + 1] → FpOk X pins H1 c := fun c hcm => by
        have hle : s1.heap.objs.size ≤ c := by
          rcases cellsB hcm with z | z | z | z | z <;> rw [z] <;> first | exact Nat.le_refl _ | exact Nat.le_add_right _ _
        exact I1.fpOk hle (I1.hok.fresh hle)
      exact ⟨s1.heap.objs.size + 4, [s1.heap.objs.size + 4, s1.heap.objs.size + 2, s1.heap.objs.size + 3, s1.heap.objs.size, s1.heap.objs.size + 1], _, _, H1, rfl, I2,
        turn_zipB (zip_sep2 (fun b hb => by rw [List.mem_singleton.mp hb]; exact p1.lt) fun b hb => by rw [List.mem_singleton.mp hb]; exact p2.lt), ⟨hz, hTI, ⟨_, _, hTO⟩, objB_it h1, objB_it h2⟩, fresh5, q⟩
end Mp
/-! Mp: a small evaluator for the part of Python that the laws use. Values are trees, lists and dicts stand in a logical heap. -/
namespace Mp
open PySem PySem.Spec PyProof.Rows L2

/-- values: tuples and finished instances are trees; lists, dicts and instances in the making stand in the logical heap -/
inductive W where
  | non | bl (b : Bool) | int (i : Int) | str (s : String)
  /-- a tuple; a list that nobody changes any more; a list that can't be changed (the script) -/
  | tup (xs : List W) | fl (xs : List W) | rd (xs : List W)
  | ref (n : Nat)
  | obj (c : String) (ns : List String) (fs : List W)
  | exc (c : String) (ns : List String) (fs : List W)
  /-- a dict that nobody changes any more -/
  | dic (ks vs : List W)
  deriving Inhabited
/-- what stands in the logical heap -/
inductive O where
  | lst (xs : List W) | dic (ks : List W) (vs : List W) | ins (c : String) (ns : List String) (fs : List W) | dead
  deriving Inhabited
abbrev LH := List O
abbrev Env := List (Option W)
/-- how an expression ends -/
inductive R (α : Type) where
  | ok (a : α) (h : LH) | ex (c : String) (ns : List String) (fs : List W) (h : LH) | no
def R.bind {α β : Type} (r : R α) (f : α → LH → R β) : R β := match r with
  | .ok a h => f a h
  | .ex c ns fs h => .ex c ns fs h
  | .no => .no
/-- how a statement ends -/
inductive RS where
  | nx (σ : Env) (h : LH) | brk (σ : Env) (h : LH) | cont (σ : Env) (h : LH) | ret (w : W) (h : LH)
  | ex (c : String) (ns : List String) (fs : List W) (σ : Env) (h : LH) | no
def R.noex {α : Type} (r : R α) : R α := match r with
  | .ex _ _ _ _ => .no
  | r => r
def R.toS (r : R W) (σ : Env) (f : W → LH → RS) : RS := match r with
  | .ok a h => f a h
  | .ex c ns fs h => .ex c ns fs σ h
  | .no => .no
abbrev Cl := String → List W → LH → R W

mutual
def W.beq : W → W → Bool
  | .non, .non => true
  | .bl a, .bl b => a == b
  | .int a, .int b => decide (a = b)
  | .str a, .str b => decide (a = b)
  | .tup a, .tup b => W.beqs a b
  | .fl a, .fl b => W.beqs a b
  | .rd a, .rd b => W.beqs a b
  | .ref a, .ref b => decide (a = b)
  | .obj c n a, .obj d m b => decide (c = d) && (decide (n = m) && W.beqs a b)
  | .exc c n a, .exc d m b => decide (c = d) && (decide (n = m) && W.beqs a b)
  | .dic a x, .dic b y => W.beqs a b && W.beqs x y
  | _, _ => false
def W.beqs : List W → List W → Bool
  | [], [] => true
  | a :: r, b :: t => W.beq a b && W.beqs r t
  | _, _ => false
end
mutual
theorem W.beq_iff : ∀ a b : W, W.beq a b = true ↔ a = b
  | .non, b => by cases b <;> simp [W.beq]
  | .bl a, b => by cases b <;> simp [W.beq]
  | .int a, b => by cases b <;> simp [W.beq]
  | .str a, b => by cases b <;> simp [W.beq]
  | .ref a, b => by cases b <;> simp [W.beq]
  | .tup a, b => by cases b <;> simp [W.beq, W.beqs_iff a]
  | .fl a, b => by cases b <;> simp [W.beq, W.beqs_iff a]
  | .rd a, b => by cases b <;> simp [W.beq, W.beqs_iff a]
  | .obj c n a, b => by cases b <;> simp [W.beq, W.beqs_iff a]
  | .exc c n a, b => by cases b <;> simp [W.beq, W.beqs_iff a]
  | .dic a x, b => by cases b <;> simp [W.beq, W.beqs_iff a, W.beqs_iff x]
theorem W.beqs_iff : ∀ a b : List W, W.beqs a b = true ↔ a = b
  | [], b => by cases b <;> simp [W.beqs]
  | a :: r, b => by cases b <;> simp [W.beqs, W.beq_iff a, W.beqs_iff r]
end
instance : DecidableEq W := fun a b => decidable_of_iff _ (W.beq_iff a b)

inductive Ty where | bool | int | str | list | tuple | dict | cls (c : String)
  deriving DecidableEq
inductive BOp where | add | sub | mul | mulm | fdiv | mod | pow | shl | shr | band | bor | bxor
  deriving DecidableEq
inductive UOp where | neg | inv
  deriving DecidableEq
inductive COp where | eq | ne | lt | le | gt | ge | is | isn | isin | nin
  deriving DecidableEq
/-- built-in functions of values (listm: the new list will be changed) -/
inductive Bf where | len | int | abs | tuple | list | listm | sorted | sum | min1 | max1 | min2 | max2 | any | all | str | divmod
  deriving DecidableEq
/-- methods of lists -/
inductive Lm where | append | pop | popAt | extend | index | insert
  deriving DecidableEq
/-- targets -/
inductive Tg where | one (i : Nat) | many (is : List Nat)
  deriving DecidableEq
inductive E where
  | var (i : Nat) | cst (w : W) | glo (x : String)
  | nil | cons (e es : E)
  | tup (es : E) | lst (es : E) | lstm (es : E)
  | bin (o : BOp) (a b : E) | un (o : UOp) (a : E)
  | cmp (o : COp) (a b : E) | cmp2 (o p : COp) (a b c : E)
  | and (a b : E) | or (a b : E) | not (a : E)
  | tE (a : E) | tand (a b : E) | tor (a b : E) | tnot (a : E)
  | ite (c a b : E)
  | call (f : String) (es : E) | make (c : String) (es : E) | meth (o : E) (m : String) (es : E)
  | bf (f : Bf) (es : E) | isi (a : E) (t : Ty) | isiT (a : E) (ts : List Ty)
  | lm (o : E) (m : Lm) (es : E) | lidx (o e : E)
  | attr (o : E) (f : String) | prop (o : E) (f : String)
  | idx (o i : E) | sl (o lo hi : E)
  | comp (m : Bool) (e : E) (tg : Tg) (it c : E) (own : List Nat)
  | kin (neg : Bool) (k : E) (x : String) | kix (x : String) (k : E) | sitv (a : E)
  | itv (a : E) | rng1 (a : E) | rng2 (a b : E) | enum (a : E) | zip (a b : E) | rev (a : E)
  | lrng (m : Bool) (a : E)
  | frz (a : E) | frzd (a : E)
  | dnew | dlit (es : E) | didx (d k : E) | dhas (neg : Bool) (k d : E) | dget (d k z : E) | dkeys (d : E)
  | sset (a : E) | lset (a : E)
  | ohas (neg : Bool) (x o : E) | olen (o : E) | oeq (neg : Bool) (a b : E) | isic (a : E) (c : String)
  | x (a : E) | comp2 (m : Bool) (e : E) (tg : Tg) (it c : E) (tg1 : Tg) (it1 c1 : E) (own own1 : List Nat) | oeqx (neg : Bool) (a b : E) | sjoin (s e : E) | sfind (s e : E) | lrng2 (m : Bool) (a b : E) | rng3 (a b c : E)
  | stop
inductive S where
  | nil | seq (s r : S)
  | asg (i : Nat) (e : E) | unp (is : List Nat) (e : E) | par (i j : Nat) (a b : E) | par3 (i j k : Nat) (a b c : E)
  | aug (i : Nat) (o : BOp) (e : E) | setI (o i e : E) | setD (o i e : E) | setA (o : E) (f : String) (e : E)
  | expr (e : E) | ret (e : E) | retN | ifs (c : E) (a b : S) | wh (c : E) (b : S) | for_ (tg : Tg) (it : E) (b : S)
  | brk | cont | pass | kill (is : List Nat)
  | raise (c : String) (es : E)
  | try_ (b hs : S) | hdl (c : String) (i : Option Nat) (s r : S)
  | stop

/-- what the program's top holds -/
structure Tab where
  gl : String → Option W := fun _ => none
  ex : String → Option (List String) := fun _ => none
  fld : String → List String := fun _ => []
  mth : String → String → Nat → Bool := fun _ _ _ => false
  prp : String → String → Bool := fun _ _ => false
  /-- tables of the top, with text keys -/
  kd : String → Option (List (String × W)) := fun _ => none
  /-- classes that isinstance asks of -/
  isc : String → Bool := fun _ => false
  /-- of an own exception class: itself and its own bases -/
  sup : String → List String := fun _ => []
  /-- classes that except clauses name -/
  xh : String → Bool := fun _ => false
  wf : Nat := 5000

def big : Nat := 1000000
def seqOf (h : LH) : W → Option (List W)
  | .tup xs => some xs
  | .fl xs => some xs
  | .rd xs => some xs
  | .ref n => (match h[n]? with | some (.lst xs) => some xs | _ => none)
  | _ => none
def lstOf (h : LH) : W → Option (List W)
  | .fl xs => some xs
  | .rd xs => some xs
  | .ref n => (match h[n]? with | some (.lst xs) => some xs | _ => none)
  | _ => none
/-- scalars' == -/
def scq : W → W → Option Bool
  | .int i, .int j => some (decide (i = j))
  | .str s, .str t => some (decide (s = t))
  | .bl a, .bl b => some (decide (a = b))
  | .non, .non => some true
  | .non, .int _ => some false | .int _, .non => some false | .non, .bl _ => some false | .bl _, .non => some false
  | .non, .str _ => some false | .str _, .non => some false
  | .int _, .str _ => some false | .str _, .int _ => some false | .bl _, .str _ => some false | .str _, .bl _ => some false
  | _, _ => none
/-- a value as data -/
def dat (h : LH) : Nat → W → Option PyData
  | 0, _ => none
  | _ + 1, .non => some .none
  | _ + 1, .bl b => some (.bool b)
  | _ + 1, .int i => some (.int i)
  | _ + 1, .str s => some (.str (Str.ofString s))
  | n + 1, .tup xs => (xs.mapM (dat h n)).map .tuple
  | n + 1, .fl xs => (xs.mapM (dat h n)).map .list
  | n + 1, .rd xs => (xs.mapM (dat h n)).map .list
  | n + 1, .ref a => (match h[a]? with | some (.lst xs) => (xs.mapM (dat h n)).map .list | _ => none)
  | _ + 1, _ => none
def depthMax : Nat := 24
def eqW (h : LH) (x y : W) : Option Bool := match scq x y with
  | some b => some b
  | none => (match dat h depthMax x, dat h depthMax y with
    | some d, some e => if SeqAt.shaped d && SeqAt.shaped e then some (PyData.eqv d e) else none
    | _, _ => none)
def flatW : W → Bool
  | .non => true | .bl _ => true | .int _ => true | .str _ => true | _ => false
/-- == of flat things as `in` asks it -/
def eqF : W → W → Bool
  | .non, .non => true
  | .bl a, .bl b => a == b
  | .bl a, .int i => decide ((if a then 1 else 0) = i)
  | .int i, .bl a => decide (i = (if a then 1 else 0))
  | .int i, .int j => decide (i = j)
  | .str s, .str t => decide (s = t)
  | _, _ => false
/-- x in xs: of flat things, or of data in a list -/
def inW (h : LH) (x y : W) : Option Bool := match seqOf h y with
  | some xs => if flatW x && xs.all flatW then some (xs.any fun z => eqF z x) else
    (match dat h depthMax x, dat h depthMax y with
    | some d, some (.list ds) => if SeqAt.shaped d && SeqAt.shaped (.list ds) then some (ds.any fun z => PyData.eqv z d) else none
    | _, _ => none)
  | none => (match x, y with
    | .str s, .str t => (match s.toList with
      | [c] => some (decide (c ∈ t.toList))
      | _ => none)
    | _, _ => none)
def i2 (x y : W) (f : Int → Int → R W) : R W := match x, y with
  | .int i, .int j => f i j
  | _, _ => .no
def isNon : W → Bool
  | .non => true | _ => false
def evC (o : COp) (x y : W) (h : LH) : R W := match o with
  | .eq => (match eqW h x y with | some b => .ok (.bl b) h | none => .no)
  | .ne => (match eqW h x y with | some b => .ok (.bl (!b)) h | none => .no)
  | .lt => i2 x y fun i j => .ok (.bl (decide (i < j))) h
  | .le => i2 x y fun i j => .ok (.bl (decide (i ≤ j))) h
  | .gt => i2 x y fun i j => .ok (.bl (decide (j < i))) h
  | .ge => i2 x y fun i j => .ok (.bl (decide (j ≤ i))) h
  | .is => (match y with
    | .non => .ok (.bl (isNon x)) h
    | .bl b => (match x with | .bl a => .ok (.bl (decide (a = b))) h | _ => .no)
    | _ => .no)
  | .isn => (match y with
    | .non => .ok (.bl (!isNon x)) h
    | .bl b => (match x with | .bl a => .ok (.bl (!decide (a = b))) h | _ => .no)
    | _ => .no)
  | .isin => (match inW h x y with | some b => .ok (.bl b) h | none => .no)
  | .nin => (match inW h x y with | some b => .ok (.bl (!b)) h | none => .no)
/-- a list that may be changed, or one that nobody changes any more -/
def trk (h : LH) : W → Option (List W)
  | .fl xs => some xs
  | .ref n => (match h[n]? with | some (.lst xs) => some xs | _ => none)
  | _ => none
def evB (o : BOp) (x y : W) (h : LH) : R W := match o with
  | .add => (match x, y with
    | .int i, .int j => .ok (.int (i + j)) h
    | .str s, .str t => if s.length + t.length ≤ big then .ok (.str (s ++ t)) h else .no
    | .tup xs, .tup ys => if xs.length + ys.length ≤ big then .ok (.tup (xs ++ ys)) h else .no
    | a, b => (match trk h a, trk h b with
      | some xs, some ys => if xs.length + ys.length ≤ big then .ok (.fl (xs ++ ys)) h else .no
      | _, _ => .no))
  | .sub => i2 x y fun i j => .ok (.int (i - j)) h
  | .mul => (match x, y with
    | .int i, .int j => if (-(2 ^ 64) < i ∧ i < 2 ^ 64) ∨ (-(2 ^ 64) < j ∧ j < 2 ^ 64) then .ok (.int (i * j)) h else .no
    | a, .int k => (match trk h a with
      | some xs => if -(2 ^ 63) ≤ k ∧ k < 2 ^ 63 ∧ xs.length * k.toNat ≤ big then .ok (.fl (List.replicate k.toNat xs).flatten) h else .no
      | _ => .no)
    | _, _ => .no)
  | .mulm => (match x, y with
    | a, .int k => (match trk h a with
      | some xs => if -(2 ^ 63) ≤ k ∧ k < 2 ^ 63 ∧ xs.length * k.toNat ≤ big then .ok (.ref h.length) (h ++ [.lst (List.replicate k.toNat xs).flatten]) else .no
      | _ => .no)
    | _, _ => .no)
  | .fdiv => i2 x y fun i j => if 0 < j ∧ j < 1073741824 then .ok (.int (i / j)) h else .no
  | .mod => i2 x y fun i j => if 0 < j then .ok (.int (i % j)) h else .no
  | .pow => i2 x y fun i j => if 0 ≤ j ∧ j ≤ 1000000 ∧ i.natAbs < 2 ^ 64 then .ok (.int (i ^ j.toNat)) h else .no
  | .shl => i2 x y fun i j => if 0 ≤ j ∧ j ≤ 1000000 ∧ i.natAbs < 2 ^ 64 then .ok (.int (i * 2 ^ j.toNat)) h else .no
  | .shr => i2 x y fun i j => if 0 ≤ j then .ok (.int (i / 2 ^ j.toNat)) h else .no
  | .band => i2 x y fun i j => .ok (.int (Builtin.bitAnd i j)) h
  | .bor => i2 x y fun i j => .ok (.int (Builtin.bitOr i j)) h
  | .bxor => i2 x y fun i j => .ok (.int (Builtin.bitXor i j)) h
def evU (o : UOp) (x : W) (h : LH) : R W := match o, x with
  | .neg, .int i => .ok (.int (-i)) h
  | .inv, .int i => .ok (.int (Builtin.bitNot i)) h
  | _, _ => .no
def truW (h : LH) : W → Option Bool
  | .non => some false
  | .bl b => some b
  | .int i => some (i != 0)
  | .str s => if s.length ≤ big then some (s.length != 0) else none
  | .tup xs => some (!xs.isEmpty)
  | .fl xs => some (!xs.isEmpty)
  | .rd xs => some (!xs.isEmpty)
  | .ref n => (match h[n]? with | some (.lst xs) => some (!xs.isEmpty) | _ => none)
  | _ => none
def toInts : List W → Option (List Int)
  | [] => some []
  | .int i :: r => (toInts r).map (i :: ·)
  | _ => none
def toBls : List W → Option (List Bool)
  | [] => some []
  | .bl i :: r => (toBls r).map (i :: ·)
  | _ => none
def insI (x : Int) : List Int → List Int
  | [] => [x]
  | y :: ys => if x ≤ y then x :: y :: ys else y :: insI x ys
def sortI : List Int → List Int
  | [] => []
  | x :: xs => insI x (sortI xs)
def minI : List Int → Option Int
  | [] => none
  | x :: xs => some (xs.foldl (fun a b => if b < a then b else a) x)
def maxI : List Int → Option Int
  | [] => none
  | x :: xs => some (xs.foldl (fun a b => if a < b then b else a) x)
def f1 (as : List W) (f : W → R W) : R W := match as with
  | [x] => f x
  | _ => .no
def f2 (as : List W) (f : W → W → R W) : R W := match as with
  | [x, y] => f x y
  | _ => .no
def lenW (h : LH) (x : W) : R W := match x with
  | .str s => if s.length ≤ big then .ok (.int s.length) h else .no
  | x => (match seqOf h x with
    | some xs => .ok (.int xs.length) h
    | none => .no)
def intW (h : LH) (x : W) : R W := match x with
  | .int i => .ok (.int i) h
  | .bl b => .ok (.int (if b then 1 else 0)) h
  | _ => .no
def absW (h : LH) (x : W) : R W := match x with
  | .int i => .ok (.int (if i < 0 then -i else i)) h
  | _ => .no
def tupW (h : LH) (x : W) : R W := match seqOf h x with | some xs => .ok (.tup xs) h | none => .no
def listW (h : LH) (x : W) : R W := match seqOf h x with | some xs => .ok (.fl xs) h | none => .no
def listmW (h : LH) (x : W) : R W := match seqOf h x with | some xs => .ok (.ref h.length) (h ++ [.lst xs]) | none => .no
def sumW (h : LH) (x : W) : R W := match (lstOf h x).bind toInts with | some ns => .ok (.int ns.sum) h | none => .no
def anyW (h : LH) (x : W) : R W := match (lstOf h x).bind toBls with | some ns => .ok (.bl (ns.any id)) h | none => .no
def allW (h : LH) (x : W) : R W := match (lstOf h x).bind toBls with | some ns => .ok (.bl (ns.all id)) h | none => .no
/-- pairs of ints, by the first, then by the second -/
def toPrs : List W → Option (List (Int × Int))
  | [] => some []
  | .tup [.int i, .int j] :: r => (toPrs r).map ((i, j) :: ·)
  | _ => none
def prW (p : Int × Int) : W := .tup [.int p.1, .int p.2]
def lePr (p q : Int × Int) : Bool := decide (p.1 < q.1) || (decide (p.1 = q.1) && decide (p.2 ≤ q.2))
def insP (x : Int × Int) : List (Int × Int) → List (Int × Int)
  | [] => [x]
  | y :: ys => if lePr x y then x :: y :: ys else y :: insP x ys
def sortP : List (Int × Int) → List (Int × Int)
  | [] => []
  | x :: xs => insP x (sortP xs)
/-- lists of ints -/
def toIss : List W → Option (List (List Int))
  | [] => some []
  | .fl xs :: r => (toInts xs).bind fun ns => (toIss r).map (ns :: ·)
  | _ => none
def isW (ns : List Int) : W := .fl (ns.map .int)
def encL (ns : List Int) : PyData := .list (ns.map .int)
def sortL (L : List (List Int)) : List (List Int) := L.mergeSort (PySem.W.dataLe false encL)
def sortW (h : LH) (x : W) : R W := match (lstOf h x).bind toInts with
  | some ns => .ok (.fl ((sortI ns).map .int)) h
  | none => (match (lstOf h x).bind toPrs with
    | some ps => .ok (.fl ((sortP ps).map prW)) h
    | none => (match (lstOf h x).bind toIss with
      | some L => .ok (.fl ((sortL L).map isW)) h
      | none => .no))
def min2W (h : LH) (x y : W) : R W := i2 x y fun i j => .ok (.int (if j < i then j else i)) h
def max2W (h : LH) (x y : W) : R W := i2 x y fun i j => .ok (.int (if j > i then j else i)) h
def min1W (h : LH) (x : W) : R W := match ((lstOf h x).bind toInts).bind minI with | some m => .ok (.int m) h | none => .no
def max1W (h : LH) (x : W) : R W := match ((lstOf h x).bind toInts).bind maxI with | some m => .ok (.int m) h | none => .no
def divmodW (h : LH) (x y : W) : R W := i2 x y fun i j => if 0 < j ∧ j < 1073741824 then .ok (.tup [.int (i / j), .int (i % j)]) h else .no
def evF (f : Bf) (as : List W) (h : LH) : R W := match f with
  | .len => f1 as (lenW h)
  | .int => f1 as (intW h)
  | .abs => f1 as (absW h)
  | .tuple => f1 as (tupW h)
  | .list => f1 as (listW h)
  | .listm => f1 as (listmW h)
  | .sorted => f1 as (sortW h)
  | .sum => f1 as (sumW h)
  | .any => f1 as (anyW h)
  | .all => f1 as (allW h)
  | .min2 => f2 as (min2W h)
  | .max2 => f2 as (max2W h)
  | .min1 => f1 as (min1W h)
  | .max1 => f1 as (max1W h)
  | .str => .no
  | .divmod => f2 as (divmodW h)
def tyName : Ty → String
  | .bool => "bool" | .int => "int" | .str => "str" | .list => "list" | .tuple => "tuple" | .dict => "dict" | .cls c => c
def tyB : Ty → Bool
  | .cls _ => false | _ => true
/-- the name of a value's built-in type -/
def tyOf (h : LH) : W → Option String
  | .non => some "NoneType" | .bl _ => some "bool" | .int _ => some "int" | .str _ => some "str" | .tup _ => some "tuple" | .fl _ => some "list" | .rd _ => some "list"
  | .ref n => (match h[n]? with
    | some (.lst _) => some "list"
    | some (.dic _ _) => some "dict"
    | _ => none)
  | .obj _ _ _ => none
  | .exc _ _ _ => none
  | .dic _ _ => some "dict"
def kit (T : String) (ty : Ty) : Bool := decide (T = tyName ty) || (decide (T = "bool") && decide (ty = .int))
def tyOk (h : LH) (w : W) (ty : Ty) : Option Bool := if tyB ty then (tyOf h w).map fun T => kit T ty else none
def tyAny (h : LH) (w : W) (ts : List Ty) : Option Bool := if ts.all tyB then (tyOf h w).map fun T => ts.any (kit T) else none
def lk (f : String) : List String → List W → Option W
  | n :: ns, w :: ws => if n = f then some w else lk f ns ws
  | _, _ => none
def put (f : String) (v : W) : List String → List W → List String × List W
  | n :: ns, w :: ws => if n = f then (n :: ns, v :: ws) else (n :: (put f v ns ws).1, w :: (put f v ns ws).2)
  | _, _ => ([f], [v])
def ixn (n : Nat) (i : Int) : Option Nat := if 0 ≤ i then (if i < n then some i.toNat else none) else if -(n : Int) ≤ i then some (i + n).toNat else none
def ix {α : Type} (xs : List α) (i : Int) : Option α := (ixn xs.length i).bind fun j => xs[j]?
def clip (n d : Nat) : Option Int → Nat
  | none => d
  | some v => if v < 0 then (v + n).toNat else min v.toNat n
def cut {α : Type} (xs : List α) (lo hi : Option Int) : List α := (xs.drop (clip xs.length 0 lo)).take (clip xs.length xs.length hi - clip xs.length 0 lo)
def evIx (o i : W) (h : LH) : R W := match i with
  | .int k => (match o with
    | .str s => (match ix s.toList k with | some c => if s.length ≤ big then .ok (.str (String.ofList [c])) h else .no | none => .no)
    | _ => (match seqOf h o with
      | some xs => (match ix xs k with | some w => .ok w h | none => .no)
      | none => .no))
  | _ => .no
def isNil : E → Bool
  | .nil => true | _ => false
def part (b : Bool) : W → Option (Option Int)
  | .int i => if b then some none else some (some i)
  | _ => if b then some none else none
def optR {α : Type} (o : Option α) (h : LH) : R α := match o with
  | some a => .ok a h
  | none => .no
def evSl (o : W) (l u : Option Int) (h : LH) : R W := match o with
  | .tup xs => .ok (.tup (cut xs l u)) h
  | .str s => if s.length ≤ big then .ok (.str (String.ofList (cut s.toList l u))) h else .no
  | _ => (match lstOf h o with
    | some xs => .ok (.fl (cut xs l u)) h
    | none => .no)
def evLm (m : Lm) (o : W) (as : List W) (h : LH) : R W := match o with
  | .ref n => (match h[n]? with
    | some (.lst xs) => (match m, as with
      | .append, [w] => if xs.length < big then .ok .non (h.set n (.lst (xs ++ [w]))) else .no
      | .pop, [] => (match xs[xs.length - 1]? with | some y => .ok y (h.set n (.lst xs.dropLast)) | none => .no)
      | .popAt, [.int k] => if -(2 ^ 63) ≤ k ∧ k < 2 ^ 63 then (match ixn xs.length k with
        | some j => (match xs[j]? with | some y => .ok y (h.set n (.lst (xs.eraseIdx j))) | none => .no)
        | none => .no) else .no
      | _, _ => .no)
    | _ => .no)
  | _ => .no
def isLst (h : LH) : W → Bool
  | .ref n => (match h[n]? with | some (.lst _) => true | _ => false)
  | _ => false
def evAt (fld : String → List String) (o : W) (f : String) (h : LH) : R W := match o with
  | .obj c ns fs => if (fld c).contains f then (match lk f ns fs with | some w => .ok w h | none => .no) else .no
  | .ref n => (match h[n]? with
    | some (.ins c ns fs) => if (fld c).contains f then (match lk f ns fs with | some w => .ok w h | none => .no) else .no
    | _ => .no)
  | _ => .no
/-- the first place of an int -/
def idxI (k : Int) : List Int → Option Nat
  | [] => none
  | x :: xs => if x = k then some 0 else (idxI k xs).map (· + 1)
def evLidx (x y : W) (h : LH) : R W := match y with
  | .int k => (match ((lstOf h x).bind toInts).bind (idxI k) with
    | some j => .ok (.int j) h
    | none => .no)
  | _ => .no
/-- an instance's class, its fields' names -/
def clsOf (h : LH) : W → Option (String × List String)
  | .obj c ns _ => some (c, ns)
  | .ref n => (match h[n]? with | some (.ins c ns _) => some (c, ns) | _ => none)
  | _ => none
/-- isinstance of a class of one's own -/
def isicW (c : String) (x : W) (h : LH) : R W := match clsOf h x with
  | some q => if q.1 = c then .ok (.bl true) h else .no
  | none => (match tyOf h x with
    | some _ => .ok (.bl false) h
    | none => .no)
/-- the right side of an == of one's own -/
def okR (h : LH) (c : String) (y : W) : Bool := match clsOf h y with
  | some q => decide (q.1 = c)
  | none => (tyOf h y).isSome
def toStrs : List W → Option (List String)
  | [] => some []
  | .str s :: r => (toStrs r).map (s :: ·)
  | _ => none
def joinS (a : String) : List String → String
  | [] => ""
  | [x] => x
  | x :: y :: r => x ++ a ++ joinS a (y :: r)
/-! dicts: keys are ints and texts -/
def keyF : W → Bool
  | .int _ => true | .str _ => true | _ => false
def dlk (k : W) : List W → List W → Option W
  | n :: ns, w :: ws => if n = k then some w else dlk k ns ws
  | _, _ => none
def drepl (k v : W) : List W → List W → List W
  | n :: ns, w :: ws => (if n = k then v else w) :: drepl k v ns ws
  | _, ws => ws
def dputK (k : W) (ks : List W) : List W := if k ∈ ks then ks else ks ++ [k]
def dputV (k v : W) (ks vs : List W) : List W := if k ∈ ks then drepl k v ks vs else vs ++ [v]
def dicOf (h : LH) : W → Option (List W × List W)
  | .dic ks vs => some (ks, vs)
  | .ref n => (match h[n]? with | some (.dic ks vs) => some (ks, vs) | _ => none)
  | _ => none
/-- a display's keys and values, one behind another -/
def pairD : List W → List W → List W → Option (List W × List W)
  | k :: v :: r, ks, vs => if keyF k then pairD r (dputK k ks) (dputV k v ks vs) else none
  | [], ks, vs => some (ks, vs)
  | _, _, _ => none
/-- a dict's, a list's, a tuple's or a text's item, whichever it is -/
def evDix (d k : W) (h : LH) : R W := match dicOf h d with
  | some p => if keyF k then (match dlk k p.1 p.2 with | some w => .ok w h | none => .no) else .no
  | none => evIx d k h
def evDhas (neg : Bool) (k d : W) (h : LH) : R W := match dicOf h d with
  | some p => if keyF k then .ok (.bl ((dlk k p.1 p.2).isSome != neg)) h else .no
  | none => .no
def evDget (d k z : W) (h : LH) : R W := match dicOf h d with
  | some p => if keyF k then .ok ((dlk k p.1 p.2).getD z) h else .no
  | none => .no
def evDkeys (d : W) (h : LH) : R W := match dicOf h d with
  | some p => .ok (.fl p.1) h
  | none => .no
/-- sorted, each once -/
def uniqI : List Int → List Int
  | [] => []
  | [x] => [x]
  | x :: y :: r => if x = y then uniqI (y :: r) else x :: uniqI (y :: r)
def evSset (x : W) (h : LH) : R W := match (lstOf h x).bind toInts with
  | some ns => if ns.length ≤ 4000 then .ok (.fl ((uniqI (sortI ns)).map .int)) h else .no
  | none => .no
def evLset (x : W) (h : LH) : R W := match (lstOf h x).bind toInts with
  | some ns => if ns.length ≤ 4000 then .ok (.int (uniqI (sortI ns)).length) h else .no
  | none => .no
/-- a table's value -/
def kdl (s : String) : List (String × W) → Option W
  | [] => none
  | p :: r => if p.1 = s then some p.2 else kdl s r
/-- a text's signs -/
def chars (s : String) : List W := s.toList.map fun c => .str (String.ofList [c])
def nE : E → Nat
  | .cons _ es => nE es + 1
  | _ => 0
/-- lists that are walked: they must stand as they were -/
abbrev Gd := List (Nat × List W)
def gOk (g : Gd) (h : LH) : Bool := g.all fun p => match h[p.1]? with
  | some (.lst ys) => decide (ys = p.2)
  | _ => false
def setAll : List Nat → List W → Env → Option Env
  | [], [], σ => some σ
  | i :: is, w :: ws, σ => setAll is ws (σ.set i (some w))
  | _, _, _ => none
def bindT (t : Tg) (w : W) (σ : Env) : Option Env := match t with
  | .one i => some (σ.set i (some w))
  | .many is => (match w with
    | .tup ws => setAll is ws σ
    | .fl ws => setAll is ws σ
    | .rd ws => setAll is ws σ
    | _ => none)
def wipeE (σ : Env) : List Nat → Env
  | [] => σ
  | i :: is => (wipeE σ is).set i none
/-- the turns of a comprehension -/
def compL (f c : Env → LH → R W) (tg : Tg) (σ : Env) (g : Gd) : List W → LH → R (List W)
  | [], h => if gOk g h then .ok [] h else .no
  | w :: ws, h => if gOk g h then (match bindT tg w σ with
    | some σ1 => (c σ1 h).noex.bind fun b h1 => (match b with
      | .bl true => (f σ1 h1).noex.bind fun y h2 => (compL f c tg σ g ws h2).bind fun ys h3 => .ok (y :: ys) h3
      | .bl false => compL f c tg σ g ws h1
      | _ => .no)
    | none => .no) else .no
/-- the turns of the outer for of a comprehension with two -/
def compJ (f : Env → LH → R (List W)) (c : Env → LH → R W) (tg : Tg) (σ : Env) (g : Gd) : List W → LH → R (List W)
  | [], h => if gOk g h then .ok [] h else .no
  | w :: ws, h => if gOk g h then (match bindT tg w σ with
    | some σ1 => (c σ1 h).noex.bind fun b h1 => (match b with
      | .bl true => (f σ1 h1).noex.bind fun ys h2 => (compJ f c tg σ g ws h2).bind fun zs h3 => .ok (ys ++ zs) h3
      | .bl false => compJ f c tg σ g ws h1
      | _ => .no)
    | none => .no) else .no
/-- the turns of a for -/
def forL (body : Env → LH → RS) (tg : Tg) (g : Gd) : List W → Env → LH → RS
  | [], σ, h => if gOk g h then .nx σ h else .no
  | w :: ws, σ, h => if gOk g h then (match bindT tg w σ with
    | some σ1 => (match body σ1 h with
      | .nx σ2 h2 => forL body tg g ws σ2 h2
      | .cont σ2 h2 => forL body tg g ws σ2 h2
      | .brk σ2 h2 => .nx σ2 h2
      | r => r)
    | none => .no) else .no
def whL (c : Env → LH → R W) (body : Env → LH → RS) : Nat → Env → LH → RS
  | 0, _, _ => .no
  | n + 1, σ, h => (c σ h).toS σ fun b h1 => (match b with
    | .bl true => (match body σ h1 with
      | .nx σ2 h2 => whL c body n σ2 h2
      | .cont σ2 h2 => whL c body n σ2 h2
      | .brk σ2 h2 => .nx σ2 h2
      | r => r)
    | .bl false => .nx σ h1
    | _ => .no)
def items : W → List W
  | .tup xs => xs
  | _ => []
def rngW (a b : Int) : List W := (List.range (b - a).toNat).map fun (i : Nat) => W.int (a + (i : Int))
def enumW : Nat → List W → List W
  | _, [] => []
  | i, x :: xs => .tup [.int i, x] :: enumW (i + 1) xs
def zipW : List W → List W → List W
  | x :: xs, y :: ys => .tup [x, y] :: zipW xs ys
  | _, _ => []
def zip2 (h : LH) (x y : W) : Option (List W × List W) := match seqOf h x, seqOf h y with
  | some xs, some ys => some (xs, ys)
  | _, _ => none
def gdOf (h : LH) : W → Gd
  | .ref n => (match h[n]? with | some (.lst xs) => [(n, xs)] | _ => [])
  | _ => []
def okRng (a b : Int) : Bool := decide (-(2 ^ 62) ≤ a ∧ a < 2 ^ 62 ∧ -(2 ^ 62) ≤ b ∧ b < 2 ^ 62 ∧ (b - a).toNat ≤ big)
def rng (a b : W) (h : LH) : R (List W × Gd) := match a, b with
  | .int i, .int j => if okRng i j then .ok (rngW i j, []) h else .no
  | _, _ => .no
/-- range(a, b, c) -/
def rng3W (i c : Int) (n : Nat) : List W := (List.range n).map fun (k : Nat) => W.int (i + (k : Int) * c)
def rng3 (a b c : W) (h : LH) : R (List W × Gd) := match a, b, c with
  | .int i, .int j, .int k => if (k ≠ 0 ∧ k.natAbs < 1073741824 ∧ Builtin.Range.small i j k = true ∧ Builtin.Range.rangeSize i j k = ((Builtin.Range.rangeSize i j k).toNat : Int)) ∧ (Builtin.Range.rangeSize i j k).toNat ≤ big then .ok (rng3W i k (Builtin.Range.rangeSize i j k).toNat, []) h else .no
  | _, _, _ => .no
mutual
def evE (T : Tab) (cl : Cl) : E → Env → LH → R W
  | .var i, σ, h => (match σ[i]? with | some (some w) => .ok w h | _ => .no)
  | .cst w, _, h => .ok w h
  | .glo x, _, h => (match T.gl x with | some w => .ok w h | none => .no)
  | .nil, _, h => .ok (.tup []) h
  | .cons e es, σ, h => (evE T cl e σ h).bind fun w h1 => (evE T cl es σ h1).bind fun ws h2 => .ok (.tup (w :: items ws)) h2
  | .tup es, σ, h => (evE T cl es σ h).bind fun ws h1 => .ok (.tup (items ws)) h1
  | .lst es, σ, h => (evE T cl es σ h).bind fun ws h1 => .ok (.fl (items ws)) h1
  | .lstm es, σ, h => (evE T cl es σ h).bind fun ws h1 => .ok (.ref h1.length) (h1 ++ [.lst (items ws)])
  | .bin o a b, σ, h => (evE T cl a σ h).bind fun x h1 => (evE T cl b σ h1).bind fun y h2 => evB o x y h2
  | .un o a, σ, h => (evE T cl a σ h).bind fun x h1 => evU o x h1
  | .cmp o a b, σ, h => (evE T cl a σ h).bind fun x h1 => (evE T cl b σ h1).bind fun y h2 => evC o x y h2
  | .cmp2 o p a b c, σ, h => (evE T cl a σ h).bind fun x h1 => (evE T cl b σ h1).bind fun y h2 => (evC o x y h2).bind fun k h3 => (match k with
    | .bl true => (evE T cl c σ h3).bind fun z h4 => evC p y z h4
    | .bl false => .ok (.bl false) h3
    | _ => .no)
  | .and a b, σ, h => (evE T cl a σ h).bind fun x h1 => (match x with
    | .bl true => evE T cl b σ h1
    | .bl false => .ok (.bl false) h1
    | _ => .no)
  | .or a b, σ, h => (evE T cl a σ h).bind fun x h1 => (match x with
    | .bl true => .ok (.bl true) h1
    | .bl false => evE T cl b σ h1
    | _ => .no)
  | .not a, σ, h => (evE T cl a σ h).bind fun x h1 => (match truW h1 x with
    | some b => .ok (.bl (!b)) h1
    | none => .no)
  | .tE a, σ, h => (evE T cl a σ h).bind fun x h1 => (match truW h1 x with
    | some b => .ok (.bl b) h1
    | none => .no)
  | .tand a b, σ, h => (evE T cl a σ h).bind fun x h1 => (match x with
    | .bl true => evE T cl b σ h1
    | .bl false => .ok (.bl false) h1
    | _ => .no)
  | .tor a b, σ, h => (evE T cl a σ h).bind fun x h1 => (match x with
    | .bl true => .ok (.bl true) h1
    | .bl false => evE T cl b σ h1
    | _ => .no)
  | .tnot a, σ, h => (evE T cl a σ h).bind fun x h1 => (match x with
    | .bl b => .ok (.bl (!b)) h1
    | _ => .no)
  | .ite c a b, σ, h => (evE T cl c σ h).bind fun x h1 => (match x with
    | .bl true => evE T cl a σ h1
    | .bl false => evE T cl b σ h1
    | _ => .no)
  | .call f es, σ, h => (evE T cl es σ h).bind fun ws h1 => cl f (items ws) h1
  | .make c es, σ, h => (evE T cl es σ h).bind fun ws h1 => if T.mth c "__init__" (nE es) = true then
      (cl (c ++ "." ++ "__init__") (.ref h1.length :: items ws) (h1 ++ [.ins c [] []])).bind fun r h2 => (match r, h2[h1.length]? with
        | .non, some (.ins d ns fs) => .ok (.obj d ns fs) (h2.set h1.length .dead)
        | _, _ => .no) else .no
  | .meth o m es, σ, h => (evE T cl o σ h).bind fun x h1 => (match clsOf h1 x with
    | some (c, ns) => if T.mth c m (nE es) = true ∧ ns.contains m = false then (evE T cl es σ h1).bind fun ws h2 => cl (c ++ "." ++ m) (x :: items ws) h2 else .no
    | none => .no)
  | .bf f es, σ, h => (evE T cl es σ h).bind fun ws h1 => evF f (items ws) h1
  | .isi a t, σ, h => if tyB t = true then (evE T cl a σ h).bind fun x h1 => (match tyOk h1 x t with
    | some b => .ok (.bl b) h1
    | none => .no) else if T.isc (tyName t) = true then (evE T cl a σ h).bind fun x h1 => isicW (tyName t) x h1 else .no
  | .isiT a ts, σ, h => (evE T cl a σ h).bind fun x h1 => (match tyAny h1 x ts with
    | some b => .ok (.bl b) h1
    | none => .no)
  | .lm o m es, σ, h => (evE T cl o σ h).bind fun x h1 => if isLst h1 x then (evE T cl es σ h1).bind fun ws h2 => evLm m x (items ws) h2 else .no
  | .lidx o e, σ, h => (evE T cl o σ h).bind fun x h1 => if (lstOf h1 x).isSome then (evE T cl e σ h1).bind fun y h2 => evLidx x y h2 else .no
  | .attr o f, σ, h => (evE T cl o σ h).bind fun x h1 => evAt T.fld x f h1
  | .prop o f, σ, h => (evE T cl o σ h).bind fun x h1 => (match clsOf h1 x with
    | some (c, _) => if T.prp c f = true then (cl (c ++ "." ++ f) [x] h1).noex else .no
    | none => .no)
  | .idx o i, σ, h => (evE T cl o σ h).bind fun x h1 => (evE T cl i σ h1).bind fun y h2 => evIx x y h2
  | .sl o lo hi, σ, h => (evE T cl o σ h).bind fun x h1 => ((evE T cl lo σ h1).bind fun y h2 => optR (part (isNil lo) y) h2).bind fun l h2 => ((evE T cl hi σ h2).bind fun z h3 => optR (part (isNil hi) z) h3).bind fun u h3 => evSl x l u h3
  | .comp m e tg it c own, σ, h => (evI T cl it σ h).bind fun p h1 =>
      if p.1.length ≤ big then (compL (fun σ' h' => evE T cl e σ' h') (fun σ' h' => evE T cl c σ' h') tg (wipeE σ own) p.2 p.1 h1).bind fun ys h2 =>
        if m then .ok (.ref h2.length) (h2 ++ [.lst ys]) else .ok (.fl ys) h2
      else .no
  | .x a, σ, h => evE T cl a σ h
  | .comp2 m e tg it c tg1 it1 c1 own own1, σ, h => (evI T cl it σ h).bind fun p h1 =>
      if p.1.length ≤ big then (compJ (fun σ' h' => (evI T cl it1 σ' h').bind fun p1 h2 =>
          if p1.1.length ≤ big then compL (fun σ2 h3 => evE T cl e σ2 h3) (fun σ2 h3 => evE T cl c1 σ2 h3) tg1 (wipeE σ' own1) p1.2 p1.1 h2 else .no)
          (fun σ' h' => evE T cl c σ' h') tg (wipeE σ own) p.2 p.1 h1).bind fun ys h2 =>
        if ys.length ≤ big then (if m then .ok (.ref h2.length) (h2 ++ [.lst ys]) else .ok (.fl ys) h2) else .no
      else .no
  | .oeqx neg a b, σ, h => (evE T cl a σ h).bind fun x h1 => (evE T cl b σ h1).bind fun y h2 => (match clsOf h2 x with
    | some p => if (T.isc p.1 = true ∧ T.mth p.1 "__eq__" 1 = true) ∧ okR h2 p.1 y = true then (cl (p.1 ++ "." ++ "__eq__") [x, y] h2).bind fun b h3 => (match b with
      | .bl b => .ok (.bl (b != neg)) h3
      | _ => .no) else .no
    | none => evC (if neg = true then .ne else .eq) x y h2)
  | .sjoin s e, σ, h => (evE T cl s σ h).bind fun x h1 => (match x with
    | .str a => (evE T cl e σ h1).bind fun y h2 => (match (seqOf h2 y).bind toStrs with
      | some ys => if (ys.map String.length).sum + ys.length * a.length ≤ 16777216 then .ok (.str (joinS a ys)) h2 else .no
      | none => .no)
    | _ => .no)
  | .sfind s e, σ, h => (evE T cl s σ h).bind fun x h1 => (match x with
    | .str a => (evE T cl e σ h1).bind fun y h2 => (match y with
      | .str b => .ok (.int (Txt.find (Str.ofString a) (Str.ofString b))) h2
      | _ => .no)
    | _ => .no)
  | .lrng m a, σ, h => (evE T cl a σ h).bind fun x h1 => (rng (.int 0) x h1).bind fun p h2 =>
      if m then .ok (.ref h2.length) (h2 ++ [.lst p.1]) else .ok (.fl p.1) h2
  | .lrng2 m a b, σ, h => (evE T cl a σ h).bind fun x h1 => (evE T cl b σ h1).bind fun y h2 => (rng x y h2).bind fun p h3 =>
      if m then .ok (.ref h3.length) (h3 ++ [.lst p.1]) else .ok (.fl p.1) h3
  | .frz a, σ, h => (evE T cl a σ h).bind fun x h1 => (match x with
    | .ref n => (match h1[n]? with
      | some (.lst xs) => .ok (.fl xs) (h1.set n .dead)
      | _ => .no)
    | _ => .no)
  | .frzd a, σ, h => (evE T cl a σ h).bind fun x h1 => (match x with
    | .ref n => (match h1[n]? with
      | some (.dic ks vs) => .ok (.dic ks vs) (h1.set n .dead)
      | _ => .no)
    | _ => .no)
  | .dnew, _, h => .ok (.ref h.length) (h ++ [.dic [] []])
  | .dlit es, σ, h => (evE T cl es σ h).noex.bind fun w h1 => (match pairD (items w) [] [] with
    | some p => .ok (.ref h1.length) (h1 ++ [.dic p.1 p.2])
    | none => .no)
  | .didx d k, σ, h => (evE T cl d σ h).bind fun x h1 => (evE T cl k σ h1).bind fun y h2 => evDix x y h2
  | .dhas neg k d, σ, h => (evE T cl k σ h).bind fun y h1 => (evE T cl d σ h1).bind fun x h2 => evDhas neg y x h2
  | .dget d k z, σ, h => (evE T cl d σ h).bind fun x h1 => if (dicOf h1 x).isSome then (evE T cl k σ h1).bind fun y h2 => (evE T cl z σ h2).bind fun u h3 => evDget x y u h3 else .no
  | .dkeys d, σ, h => (evE T cl d σ h).bind fun x h1 => evDkeys x h1
  | .sset a, σ, h => (evE T cl a σ h).bind fun x h1 => evSset x h1
  | .lset a, σ, h => (evE T cl a σ h).bind fun x h1 => evLset x h1
  | .ohas neg a o, σ, h => (evE T cl a σ h).bind fun y h1 => (evE T cl o σ h1).bind fun x h2 => (match clsOf h2 x with
    | some (c, _) => if T.mth c "__contains__" 1 = true then (cl (c ++ "." ++ "__contains__") [x, y] h2).bind fun b h3 => (match b with
      | .bl b => .ok (.bl (b != neg)) h3
      | _ => .no) else .no
    | none => .no)
  | .olen o, σ, h => (evE T cl o σ h).bind fun x h1 => (match clsOf h1 x with
    | some (c, _) => if T.mth c "__len__" 0 = true then (match cl (c ++ "." ++ "__len__") [x] h1 with
      | .ok (.int i) h2 => if 0 ≤ i ∧ i < 2 ^ 63 then .ok (.int i) h2 else .no
      | _ => .no) else .no
    | none => .no)
  | .oeq neg a b, σ, h => (evE T cl a σ h).bind fun x h1 => (evE T cl b σ h1).bind fun y h2 => (match clsOf h2 x, clsOf h2 y with
    | some p, some q => if p.1 = q.1 ∧ T.mth p.1 "__eq__" 1 = true then (cl (p.1 ++ "." ++ "__eq__") [x, y] h2).bind fun b h3 => (match b with
      | .bl b => .ok (.bl (b != neg)) h3
      | _ => .no) else .no
    | _, _ => .no)
  | .kin neg k x, σ, h => (match T.kd x with
    | some ps => (evE T cl k σ h).bind fun y h1 => (match y with
      | .str s => .ok (.bl ((kdl s ps).isSome != neg)) h1
      | _ => .no)
    | none => .no)
  | .kix x k, σ, h => (match T.kd x with
    | some ps => (evE T cl k σ h).bind fun y h1 => (match y with
      | .str s => (match kdl s ps with
        | some w => .ok w h1
        | none => .no)
      | _ => .no)
    | none => .no)
  | .sitv _, _, _ => .no
  | .isic a c, σ, h => (evE T cl a σ h).bind fun x h1 => .no
  | .stop, _, _ => .no
  | .itv _, _, _ => .no
  | .rng1 _, _, _ => .no
  | .rng2 _ _, _, _ => .no
  | .rng3 _ _ _, _, _ => .no
  | .enum _, _, _ => .no
  | .zip _ _, _, _ => .no
  | .rev _, _, _ => .no
def evI (T : Tab) (cl : Cl) : E → Env → LH → R (List W × Gd)
  | .itv a, σ, h => (evE T cl a σ h).bind fun x h1 => (match seqOf h1 x with
    | some xs => .ok (xs, gdOf h1 x) h1
    | none => .no)
  | .sitv a, σ, h => (evE T cl a σ h).bind fun x h1 => (match x with
    | .str s => .ok (chars s, []) h1
    | _ => .no)
  | .rng1 a, σ, h => (evE T cl a σ h).bind fun x h1 => rng (.int 0) x h1
  | .rng2 a b, σ, h => (evE T cl a σ h).bind fun x h1 => (evE T cl b σ h1).bind fun y h2 => rng x y h2
  | .rng3 a b c, σ, h => (evE T cl a σ h).bind fun x h1 => (evE T cl b σ h1).bind fun y h2 => (evE T cl c σ h2).bind fun z h3 => rng3 x y z h3
  | .enum a, σ, h => (evE T cl a σ h).bind fun x h1 => (match seqOf h1 x with
    | some xs => .ok (enumW 0 xs, gdOf h1 x) h1
    | none => .no)
  | .zip a b, σ, h => (evE T cl a σ h).bind fun x h1 => (evE T cl b σ h1).bind fun y h2 => (match zip2 h2 x y with
    | some p => .ok (zipW p.1 p.2, gdOf h2 x ++ gdOf h2 y) h2
    | none => .no)
  | .rev a, σ, h => (evE T cl a σ h).bind fun x h1 => (match seqOf h1 x with
    | some xs => .ok (xs.reverse, gdOf h1 x) h1
    | none => .no)
  | _, _, _ => .no
end
/-- an expression of a suite; slot i holds the caught exception, an x with these fields -/
def evHx (T : Tab) (x : String) (ns : List String) (fs : List W) (i : Nat) : E → Env → LH → R W
  | .cst w, _, h => .ok w h
  | .var j, σ, h => if j = i then .no else (match σ[j]? with | some (some w) => .ok w h | _ => .no)
  | .nil, _, h => .ok (.tup []) h
  | .cons e es, σ, h => (evHx T x ns fs i e σ h).bind fun w h1 => (evHx T x ns fs i es σ h1).bind fun ws h2 => .ok (.tup (w :: items ws)) h2
  | .tup es, σ, h => (evHx T x ns fs i es σ h).bind fun ws h1 => .ok (.tup (items ws)) h1
  | .lst es, σ, h => (evHx T x ns fs i es σ h).bind fun ws h1 => .ok (.fl (items ws)) h1
  | .attr (.var j) f, _, h => if j = i ∧ T.ex x = some ns then (match lk f ns fs with | some w => .ok w h | none => .no) else .no
  | _, _, _ => .no
def evSu (T : Tab) (x : String) (ns : List String) (fs : List W) (i : Nat) : S → Env → LH → RS
  | .nil, σ, h => .nx σ h
  | .seq (.ret e) .nil, σ, h => (evHx T x ns fs i e σ h).toS σ fun w h1 => .ret w h1
  | .seq (.asg j e) r, σ, h => (evHx T x ns fs i e σ h).toS σ fun w h1 => evSu T x ns fs i r (σ.set j (some w)) h1
  | _, _, _ => .no
def RS.un (i : Nat) : RS → RS
  | .nx σ h => .nx (σ.set i none) h
  | .ret w h => .ret w h
  | _ => .no
/-- the clauses name known classes -/
def hdAll (T : Tab) : S → Bool
  | .nil => true
  | .hdl x (some _) _ r => T.xh x && hdAll T r
  | .hdl x none _ r => T.xh x && hdAll T r
  | _ => false
mutual
def evS (T : Tab) (cl : Cl) : S → Env → LH → RS
  | .nil, σ, h => .nx σ h
  | .seq s r, σ, h => (match evS T cl s σ h with
    | .nx σ1 h1 => evS T cl r σ1 h1
    | q => q)
  | .asg i e, σ, h => (evE T cl e σ h).toS σ fun w h1 => .nx (σ.set i (some w)) h1
  | .unp is e, σ, h => (evE T cl e σ h).toS σ fun w h1 => (match bindT (.many is) w σ with
    | some σ1 => .nx σ1 h1
    | none => .no)
  | .par i j a b, σ, h => (evE T cl a σ h).toS σ fun x h1 => (evE T cl b σ h1).toS σ fun y h2 => .nx ((σ.set i (some x)).set j (some y)) h2
  | .par3 i j k a b c, σ, h => (evE T cl a σ h).toS σ fun x h1 => (evE T cl b σ h1).toS σ fun y h2 => (evE T cl c σ h2).toS σ fun z h3 => .nx (((σ.set i (some x)).set j (some y)).set k (some z)) h3
  | .aug i o e, σ, h => (match σ[i]? with
    | some (some x) => (evE T cl e σ h).toS σ fun y h1 => (match x, y with
      | .int _, .int _ => (evB o x y h1).toS σ fun z h2 => .nx (σ.set i (some z)) h2
      | _, _ => .no)
    | _ => .no)
  | .setI o i e, σ, h => (evE T cl e σ h).toS σ fun w h1 => (evE T cl o σ h1).toS σ fun x h2 => (evE T cl i σ h2).toS σ fun k h3 => (match x, k with
    | .ref n, .int k => (match h3[n]? with
      | some (.lst xs) => (match ixn xs.length k with
        | some j => .nx σ (h3.set n (.lst (xs.set j w)))
        | none => .no)
      | _ => .no)
    | _, _ => .no)
  | .setD o i e, σ, h => (evE T cl e σ h).toS σ fun w h1 => (evE T cl o σ h1).toS σ fun x h2 => (evE T cl i σ h2).toS σ fun k h3 => (match x with
    | .ref n => (match h3[n]? with
      | some (.dic ks vs) => if keyF k = true ∧ ks.length < big then .nx σ (h3.set n (.dic (dputK k ks) (dputV k w ks vs))) else .no
      | _ => .no)
    | _ => .no)
  | .setA o f e, σ, h => (evE T cl e σ h).toS σ fun w h1 => (evE T cl o σ h1).toS σ fun x h2 => (match x with
    | .ref n => (match h2[n]? with
      | some (.ins c ns fs) => if (T.fld c).contains f = true ∧ fs.length < 900 then .nx σ (h2.set n (.ins c (put f w ns fs).1 (put f w ns fs).2)) else .no
      | _ => .no)
    | _ => .no)
  | .expr e, σ, h => (evE T cl e σ h).toS σ fun _ h1 => .nx σ h1
  | .ret e, σ, h => (evE T cl e σ h).toS σ fun w h1 => .ret w h1
  | .retN, _, h => .ret .non h
  | .ifs c a b, σ, h => (evE T cl c σ h).toS σ fun x h1 => (match x with
    | .bl true => evS T cl a σ h1
    | .bl false => evS T cl b σ h1
    | _ => .no)
  | .wh c b, σ, h => whL (fun σ' h' => evE T cl c σ' h') (fun σ' h' => evS T cl b σ' h') T.wf σ h
  | .for_ tg it b, σ, h => (match evI T cl it σ h with
    | .ok p h1 => forL (fun σ' h' => evS T cl b σ' h') tg p.2 p.1 σ h1
    | .ex c ns fs h1 => .ex c ns fs σ h1
    | .no => .no)
  | .brk, σ, h => .brk σ h
  | .cont, σ, h => .cont σ h
  | .pass, σ, h => .nx σ h
  | .kill is, σ, h => .nx (wipeE σ is) h
  | .stop, _, _ => .no
  | .raise c .nil, σ, h => if T.ex c = some [] then .ex c [] [] σ h else .no
  | .raise c es, σ, h => (match T.ex c with
    | some [] => .no
    | some ns => (evE T cl es σ h).toS σ fun ws h1 => if ns.length = (items ws).length then .ex c ns (items ws) σ h1 else .no
    | none => .no)
  | .try_ b hs, σ, h => if hdAll T hs = true then (match evS T cl b σ h with
    | .ex c ns fs σ1 h1 => evHd T cl c ns fs hs σ1 h1
    | q => q) else .no
  | .hdl _ _ _ _, _, _ => .no
/-- the clauses, tried one after the other -/
def evHd (T : Tab) (cl : Cl) (c : String) (ns : List String) (fs : List W) : S → Env → LH → RS
  | .nil, σ, h => .ex c ns fs σ h
  | .hdl x (some i) s r, σ, h => if T.xh x = true ∧ T.sup c ≠ [] then (if (T.sup c).contains x = true then (if i < σ.length then (evSu T c ns fs i s (σ.set i none) h).un i else .no) else evHd T cl c ns fs r σ h) else .no
  | .hdl x none s r, σ, h => if T.xh x = true ∧ T.sup c ≠ [] then (if (T.sup c).contains x = true then evS T cl s σ h else evHd T cl c ns fs r σ h) else .no
  | _, _, _ => .no
end
/-- a def: its parameters' number, its slots' number, its body, its defaults -/
structure Def where
  np : Nat
  n : Nat
  body : S
  dfl : List W := []
def RS.toR : RS → R W
  | .nx _ h1 => .ok .non h1
  | .ret w h1 => .ok w h1
  | .ex c ns fs _ h1 => .ex c ns fs h1
  | _ => .no
def callD (T : Tab) (cl : Cl) (d : Def) (ws : List W) (h : LH) : R W :=
  let vs := ws ++ d.dfl.drop (d.dfl.length - (d.np - ws.length))
  if vs.length = d.np then (evS T cl d.body (vs.map some ++ List.replicate (d.n - d.np) none) h).toR else .no
/-- calls, at most n deep -/
def call (T : Tab) (D : String → Option Def) : Nat → Cl
  | 0 => fun _ _ _ => .no
  | n + 1 => fun f ws h => match D f with
    | some d => callD T (call T D n) d ws h
    | none => .no
end Mp
namespace Mp
open PySem PySem.Spec PyProof.Rows L2

/-- what the walk knows of the top -/
structure Gw where
  K : PySem.W.Frag
  ca : String → Addr
/-- where the logical heap's things stand; what is frozen; what is kept from everybody -/
structure Gh where
  io : List Addr
  Fz : Addr → Prop
  Pr : Addr → Prop

/-- a list that can't be changed -/
def SqR (K : PySem.W.Frag) (H : Hp) (a : Addr) (xs : List V) : Prop :=
  (∃ o, H a = some (.frz o (.lst xs))) ∨
    ∃ (o : Obj) (its : Array Value) (n : Nat), K.lookup a = some o ∧ o.cls = .type "list" ∧ o.dict = none ∧ o.data = .seq its n ∧ its.size ≤ sizeLine ∧ Vals xs its.toList
theorem SqR.sqL {K : PySem.W.Frag} {H : Hp} {a : Addr} {xs : List V} (h : SqR K H a xs) : SqL K H a xs := by
  rcases h with ⟨o, h⟩ | h
  · exact .inl (.inr ⟨o, h⟩)
  · exact .inr h

/-- a key's own form -/
def keyV : W → Option Key
  | .int i => some (.inl i)
  | .str s => some (.inr (Str.ofString s))
  | _ => none
/-- what a dict's keys and values are in the heap -/
def DicHO (ks : List W) (xs : List V) (ho : HO) : Prop := ∃ kk : List Key, ks.mapM keyV = some kk ∧ ho = .dK (kk.zip xs) ∧ kk.length = xs.length
mutual
def RV (g : Gw) (G : Gh) (H : Hp) : W → V → Prop
  | .non, v => v = .non
  | .bl b, v => v = .bl b
  | .int i, v => v = .int i
  | .str s, v => v = .str (Str.ofString s)
  | .tup ws, v => ∃ p xs, v = .ref p ∧ SqT g.K H p xs ∧ RVs g G H ws xs
  | .fl ws, v => ∃ p xs, v = .ref p ∧ G.Fz p ∧ H p = some (.lst xs) ∧ RVs g G H ws xs
  | .rd ws, v => ∃ p xs, v = .ref p ∧ SqR g.K H p xs ∧ RVs g G H ws xs
  | .ref n, v => ∃ p, v = .ref p ∧ G.io[n]? = some p
  | .obj c ns fs, v => ∃ p dx xs, v = .ref p ∧ G.Fz p ∧ H p = some (.ins (g.ca c) dx ((ns.map Str.ofString).zip xs)) ∧ ns.length = fs.length ∧ RVs g G H fs xs
  | .exc _ _ _, _ => False
  | .dic ks vs, v => ∃ p ho xs, v = .ref p ∧ G.Fz p ∧ H p = some ho ∧ DicHO ks xs ho ∧ RVs g G H vs xs
def RVs (g : Gw) (G : Gh) (H : Hp) : List W → List V → Prop
  | [], xs => xs = []
  | w :: ws, xs => ∃ x r, xs = x :: r ∧ RV g G H w x ∧ RVs g G H ws r
end

/-- values stay what they are -/
structure Mono (g : Gw) (G : Gh) (H : Hp) (G' : Gh) (H' : Hp) : Prop where
  pre : ∀ (i : Nat) (p : Addr), G.io[i]? = some p → G'.io[i]? = some p
  fz : ∀ p, G.Fz p → G'.Fz p ∧ H' p = H p
  tup : ∀ p xs, SqT g.K H p xs → SqT g.K H' p xs
  rd : ∀ p xs, SqR g.K H p xs → SqR g.K H' p xs
mutual
theorem RV.mono {g : Gw} {G G' : Gh} {H H' : Hp} (m : Mono g G H G' H') : ∀ {w : W} {v : V}, RV g G H w v → RV g G' H' w v
  | .non, _, h => h
  | .bl _, _, h => h
  | .int _, _, h => h
  | .str _, _, h => h
  | .tup ws, _, h => by
    unfold RV at h ⊢
    obtain ⟨p, xs, e, s, r⟩ := h
    exact ⟨p, xs, e, m.tup _ _ s, RVs.mono m r⟩
  | .fl ws, _, h => by
    unfold RV at h ⊢
    obtain ⟨p, xs, e, s, q, r⟩ := h
    exact ⟨p, xs, e, (m.fz _ s).1, (m.fz _ s).2.trans q, RVs.mono m r⟩
  | .rd ws, _, h => by
    unfold RV at h ⊢
    obtain ⟨p, xs, e, s, r⟩ := h
    exact ⟨p, xs, e, m.rd _ _ s, RVs.mono m r⟩
  | .ref n, _, h => by
    unfold RV at h ⊢
    obtain ⟨p, e, s⟩ := h
    exact ⟨p, e, m.pre _ _ s⟩
  | .obj c ns fs, _, h => by
    unfold RV at h ⊢
    obtain ⟨p, dx, xs, e, s, q, l, r⟩ := h
    exact ⟨p, dx, xs, e, (m.fz _ s).1, (m.fz _ s).2.trans q, l, RVs.mono m r⟩
  | .exc _ _ _, _, h => by unfold RV at h; exact h.elim
  | .dic ks vs, _, h => by
    unfold RV at h ⊢
    obtain ⟨p, ho, xs, e, s, q, d, r⟩ := h
    exact ⟨p, ho, xs, e, (m.fz _ s).1, (m.fz _ s).2.trans q, d, RVs.mono m r⟩
theorem RVs.mono {g : Gw} {G G' : Gh} {H H' : Hp} (m : Mono g G H G' H') : ∀ {ws : List W} {xs : List V}, RVs g G H ws xs → RVs g G' H' ws xs
  | [], _, h => h
  | w :: ws, _, h => by
    unfold RVs at h ⊢
    obtain ⟨x, r, e, a, b⟩ := h
    exact ⟨x, r, e, RV.mono m a, RVs.mono m b⟩
end

section
variable {g : Gw} {G G' G1 G2 : Gh} {H H' H1 H2 : Hp}
theorem RVs.nil : RVs g G H [] [] := by unfold RVs; rfl
theorem RVs.cons {w : W} {ws : List W} {x : V} {xs : List V} (a : RV g G H w x) (b : RVs g G H ws xs) : RVs g G H (w :: ws) (x :: xs) := by
  unfold RVs; exact ⟨x, xs, rfl, a, b⟩
theorem RVs.length : ∀ {ws : List W} {xs : List V}, RVs g G H ws xs → ws.length = xs.length
  | [], _, h => by unfold RVs at h; subst h; rfl
  | w :: ws, _, h => by
    unfold RVs at h
    obtain ⟨x, r, rfl, _, b⟩ := h
    exact congrArg Nat.succ (RVs.length b)
theorem RVs.get : ∀ {ws : List W} {xs : List V} {i : Nat} {w : W}, RVs g G H ws xs → ws[i]? = some w → ∃ x, xs[i]? = some x ∧ RV g G H w x
  | [], _, _, _, _, e => by simp at e
  | v :: ws, _, 0, w, h, e => by
    unfold RVs at h
    obtain ⟨x, r, rfl, a, _⟩ := h
    simp at e
    subst e
    exact ⟨x, rfl, a⟩
  | v :: ws, _, i + 1, w, h, e => by
    unfold RVs at h
    obtain ⟨x, r, rfl, _, b⟩ := h
    have e' : ws[i]? = some w := by simpa using e
    obtain ⟨y, h1, h2⟩ := RVs.get b e'
    exact ⟨y, by simpa using h1, h2⟩
theorem RVs.append : ∀ {ws us : List W} {xs ys : List V}, RVs g G H ws xs → RVs g G H us ys → RVs g G H (ws ++ us) (xs ++ ys)
  | [], _, _, _, h, k => by unfold RVs at h; subst h; exact k
  | w :: ws, _, _, _, h, k => by
    unfold RVs at h
    obtain ⟨x, r, rfl, a, b⟩ := h
    exact RVs.cons a (RVs.append b k)
theorem RVs.take : ∀ {ws : List W} {xs : List V} (n : Nat), RVs g G H ws xs → RVs g G H (ws.take n) (xs.take n)
  | _, _, 0, _ => by simp; exact RVs.nil
  | [], _, n + 1, h => by unfold RVs at h; subst h; exact RVs.nil
  | w :: ws, _, n + 1, h => by
    unfold RVs at h
    obtain ⟨x, r, rfl, a, b⟩ := h
    exact RVs.cons a (RVs.take n b)
theorem RVs.drop : ∀ {ws : List W} {xs : List V} (n : Nat), RVs g G H ws xs → RVs g G H (ws.drop n) (xs.drop n)
  | _, _, 0, h => h
  | [], _, n + 1, h => by unfold RVs at h; subst h; exact RVs.nil
  | w :: ws, _, n + 1, h => by
    unfold RVs at h
    obtain ⟨x, r, rfl, a, b⟩ := h
    exact RVs.drop n b
theorem RVs.set {v : W} {y : V} (q : RV g G H v y) : ∀ {ws : List W} {xs : List V} (n : Nat), RVs g G H ws xs → RVs g G H (ws.set n v) (xs.set n y)
  | [], _, _, h => by unfold RVs at h; subst h; exact RVs.nil
  | w :: ws, _, 0, h => by
    unfold RVs at h
    obtain ⟨x, r, rfl, a, b⟩ := h
    exact RVs.cons q b
  | w :: ws, _, n + 1, h => by
    unfold RVs at h
    obtain ⟨x, r, rfl, a, b⟩ := h
    exact RVs.cons a (RVs.set q n b)
theorem RVs.reverse : ∀ {ws : List W} {xs : List V}, RVs g G H ws xs → RVs g G H ws.reverse xs.reverse
  | [], _, h => by unfold RVs at h; subst h; exact RVs.nil
  | w :: ws, _, h => by
    unfold RVs at h
    obtain ⟨x, r, rfl, a, b⟩ := h
    rw [List.reverse_cons, List.reverse_cons]
    exact RVs.append (RVs.reverse b) (RVs.cons a RVs.nil)
theorem RVs.ints : ∀ {ns : List Int} {xs : List V}, RVs g G H (ns.map W.int) xs → xs = ns.map V.int
  | [], _, h => by unfold RVs at h; subst h; rfl
  | n :: ns, _, h => by
    rw [List.map_cons] at h
    unfold RVs at h
    obtain ⟨x, r, rfl, a, b⟩ := h
    unfold RV at a
    subst a
    rw [RVs.ints b]; rfl
theorem RVs.of_ints : ∀ ns : List Int, RVs g G H (ns.map W.int) (ns.map V.int)
  | [] => RVs.nil
  | n :: ns => RVs.cons (by unfold RV; rfl) (RVs.of_ints ns)
theorem RVs.bls : ∀ {ns : List Bool} {xs : List V}, RVs g G H (ns.map W.bl) xs → xs = ns.map V.bl
  | [], _, h => by unfold RVs at h; subst h; rfl
  | n :: ns, _, h => by
    rw [List.map_cons] at h
    unfold RVs at h
    obtain ⟨x, r, rfl, a, b⟩ := h
    unfold RV at a
    subst a
    rw [RVs.bls b]; rfl

/-- the world goes on -/
structure Ext (g : Gw) (G : Gh) (H : Hp) (G' : Gh) (H' : Hp) : Prop extends Mono g G H G' H' where
  pr : G'.Pr = G.Pr
  kept : ∀ p, G.Pr p → H' p = H p
theorem Ext.refl : Ext g G H G H := ⟨⟨fun _ _ h => h, fun _ h => ⟨h, rfl⟩, fun _ _ h => h, fun _ _ h => h⟩, rfl, fun _ _ => rfl⟩
theorem Ext.trans (a : Ext g G H G1 H1) (b : Ext g G1 H1 G2 H2) : Ext g G H G2 H2 :=
  ⟨⟨fun i p h => b.pre i p (a.pre i p h), fun p h => ⟨(b.fz p (a.fz p h).1).1, (b.fz p (a.fz p h).1).2.trans (a.fz p h).2⟩, fun p xs h => b.tup p xs (a.tup p xs h), fun p xs h => b.rd p xs (a.rd p xs h)⟩,
    b.pr.trans a.pr, fun p h => (b.kept p (by rw [a.pr]; exact h)).trans (a.kept p h)⟩

/-- what an object of the logical heap is -/
def RO (g : Gw) (G : Gh) (H : Hp) : O → HO → Prop
  | .lst ws, ho => ∃ xs, ho = .lst xs ∧ RVs g G H ws xs
  | .ins c ns fs, ho => ∃ dx xs, ho = .ins (g.ca c) dx ((ns.map Str.ofString).zip xs) ∧ ns.length = fs.length ∧ RVs g G H fs xs
  | .dic ks vs, ho => ∃ xs, DicHO ks xs ho ∧ RVs g G H vs xs
  | .dead, _ => True
theorem RO.mono (m : Mono g G H G' H') : ∀ {o : O} {ho : HO}, RO g G H o ho → RO g G' H' o ho
  | .lst ws, _, ⟨xs, e, r⟩ => ⟨xs, e, r.mono m⟩
  | .ins c ns fs, _, ⟨dx, xs, e, l, r⟩ => ⟨dx, xs, e, l, r.mono m⟩
  | .dic ks vs, _, ⟨xs, d, r⟩ => ⟨xs, d, r.mono m⟩
  | .dead, _, _ => trivial
/-- the logical heap stands -/
structure Rep (g : Gw) (G : Gh) (lh : LH) (H : Hp) : Prop where
  len : G.io.length = lh.length
  nd : G.io.Nodup
  ob : ∀ (i : Nat) (o : O), lh[i]? = some o → ∃ p ho, G.io[i]? = some p ∧ H p = some ho ∧ RO g G H o ho
  fz : ∀ p, G.Fz p → H p ≠ none
  pr : ∀ p, G.Pr p → H p ≠ none
  sep : ∀ (i : Nat) (o : O) (p : Addr), lh[i]? = some o → G.io[i]? = some p → o ≠ .dead → ¬ G.Fz p ∧ ¬ G.Pr p
  inn : ∀ p, p ∈ G.io → H p ≠ none
  pz : ∀ p, G.Pr p → ¬ G.Fz p
  ip : ∀ p, p ∈ G.io → ¬ G.Pr p

theorem upd_at {H : Hp} {p q : Addr} {o : HO} (h : H q ≠ none) (hp : H p = none) : upd H p o q = H q := upd_ne (fun e => h (e ▸ hp))
theorem SqT.updn {K : PySem.W.Frag} {p q : Addr} {xs : List V} {o : HO} (h : SqT K H q xs) (hp : ∀ u, H p = some u → ¬ (∃ ys, u = .tup ys) ∧ ¬ (∃ ob ys, u = .frz ob (.tup ys))) : SqT K (upd H p o) q xs := by
  rcases h with h | h
  · refine .inl ?_
    rcases h with h | ⟨ob, h⟩
    · refine .inl ?_
      rw [upd_ne]
      · exact h
      · intro e
        subst e
        exact (hp _ h).1 ⟨xs, rfl⟩
    · refine .inr ⟨ob, ?_⟩
      rw [upd_ne]
      · exact h
      · intro e
        subst e
        exact (hp _ h).2 ⟨ob, xs, rfl⟩
  · exact .inr h
theorem SqR.updn {K : PySem.W.Frag} {p q : Addr} {xs : List V} {o : HO} (h : SqR K H q xs) (hp : ∀ u, H p = some u → ¬ (∃ ob ys, u = .frz ob (.lst ys))) : SqR K (upd H p o) q xs := by
  rcases h with ⟨ob, h⟩ | h
  · refine .inl ⟨ob, ?_⟩
    rw [upd_ne]
    · exact h
    · intro e
      subst e
      exact hp _ h ⟨ob, xs, rfl⟩
  · exact .inr h
/-- an object that is neither frozen nor kept nor a tuple is written -/
def Wri (G : Gh) (p : Addr) (u : HO) : Prop := ¬ G.Fz p ∧ ((∃ xs, u = .lst xs) ∨ (∃ C dx fs, u = .ins C dx fs) ∨ (∃ kvs, u = .dK kvs) ∨ (∃ kvs, u = .dT kvs))
theorem Mono.write {p : Addr} {u o : HO} (h : H p = some u) (w : Wri G p u) : Mono g G H G (upd H p o) := by
  have hu : ∀ v, H p = some v → ¬ (∃ ys, v = .tup ys) ∧ ¬ (∃ ob ys, v = .frz ob (.tup ys)) ∧ ¬ (∃ ob ys, v = .frz ob (.lst ys)) := fun v e => by
    rw [h] at e; cases e
    rcases w.2 with ⟨_, rfl⟩ | ⟨_, _, _, rfl⟩ | ⟨_, rfl⟩ | ⟨_, rfl⟩ <;> refine ⟨?_, ?_, ?_⟩ <;> simp
  refine ⟨fun _ _ h => h, fun q hq => ⟨hq, upd_ne fun e => w.1 (e ▸ hq)⟩, fun q xs s => SqT.updn s fun v e => ⟨(hu v e).1, (hu v e).2.1⟩, fun q xs s => SqR.updn s fun v e => (hu v e).2.2⟩
theorem Ext.write {p : Addr} {u o : HO} (h : H p = some u) (w : Wri G p u) (k : ¬ G.Pr p) : Ext g G H G (upd H p o) :=
  ⟨Mono.write h w, rfl, fun q hq => upd_ne fun e => k (e ▸ hq)⟩
theorem Mono.fresh {p : Addr} {o : HO} (hp : H p = none) (fz : ∀ q, G.Fz q → H q ≠ none) (pre : ∀ (i : Nat) (q : Addr), G.io[i]? = some q → G'.io[i]? = some q) (fz' : ∀ q, G.Fz q → G'.Fz q) : Mono g G H G' (upd H p o) := by
  have no : ∀ u, H p = some u → False := fun u e => by rw [hp] at e; cases e
  exact ⟨pre, fun q hq => ⟨fz' q hq, upd_at (fz q hq) hp⟩, fun q xs s => SqT.updn s fun u e => (no u e).elim, fun q xs s => SqR.updn s fun u e => (no u e).elim⟩
/-- a new thing that the logical heap does not hold (a tuple, a frozen list, a pair that is handed over) -/
theorem Rep.new {lh : LH} {p : Addr} {o : HO} (r : Rep g G lh H) (hp : H p = none) (P : Prop) :
    Ext g G H ⟨G.io, fun q => G.Fz q ∨ (P ∧ q = p), G.Pr⟩ (upd H p o) ∧ Rep g ⟨G.io, fun q => G.Fz q ∨ (P ∧ q = p), G.Pr⟩ lh (upd H p o) := by
  have m : Mono g G H ⟨G.io, fun q => G.Fz q ∨ (P ∧ q = p), G.Pr⟩ (upd H p o) := Mono.fresh hp r.fz (fun _ _ h => h) fun _ h => .inl h
  have ne : ∀ q, H q ≠ none → upd H p o q = H q := fun q hq => upd_at hq hp
  refine ⟨⟨m, rfl, fun q hq => ne q (r.pr q hq)⟩, ⟨r.len, r.nd, fun i ob e => ?_, fun q hq => ?_, fun q hq => by rw [ne q (r.pr q hq)]; exact r.pr q hq, fun i ob q e e2 d => ?_, fun q hq => by rw [ne q (r.inn q hq)]; exact r.inn q hq, fun q hq => ?_, r.ip⟩⟩
  · obtain ⟨q, ho, h1, h2, h3⟩ := r.ob i ob e
    exact ⟨q, ho, h1, by rw [ne q (by rw [h2]; simp)]; exact h2, h3.mono m⟩
  · rcases hq with hq | ⟨_, rfl⟩
    · rw [ne q (r.fz q hq)]; exact r.fz q hq
    · rw [upd_same]; simp
  · obtain ⟨h1, h2⟩ := r.sep i ob q e e2 d
    refine ⟨fun hq => ?_, h2⟩
    rcases hq with hq | ⟨_, rfl⟩
    · exact h1 hq
    · obtain ⟨q2, ho, k1, k2, _⟩ := r.ob i ob e
      have : q2 = q := Option.some.inj (k1.symm.trans e2)
      subst this
      rw [hp] at k2; cases k2
  · rintro (h | ⟨_, rfl⟩)
    · exact r.pz q hq h
    · exact r.pr q hq hp
/-- nothing is frozen: a new tuple -/
theorem Rep.tup {lh : LH} {p : Addr} {xs : List V} (r : Rep g G lh H) (hp : H p = none) : Ext g G H G (upd H p (.tup xs)) ∧ Rep g G lh (upd H p (.tup xs)) := by
  have h := r.new (o := .tup xs) hp False
  have e : (fun q => G.Fz q ∨ (False ∧ q = p)) = G.Fz := by funext q; simp
  rw [e] at h
  exact h
/-- a new frozen thing -/
theorem Rep.frozen {lh : LH} {p : Addr} {o : HO} (r : Rep g G lh H) (hp : H p = none) : Ext g G H ⟨G.io, fun q => G.Fz q ∨ q = p, G.Pr⟩ (upd H p o) ∧ Rep g ⟨G.io, fun q => G.Fz q ∨ q = p, G.Pr⟩ lh (upd H p o) := by
  have h := r.new (o := o) hp True
  have e : (fun q => G.Fz q ∨ (True ∧ q = p)) = fun q => G.Fz q ∨ q = p := by funext q; simp
  rw [e] at h
  exact h
/-- a new thing of the logical heap -/
theorem Rep.alloc {lh : LH} {p : Addr} {o : HO} {ob : O} (r : Rep g G lh H) (hp : H p = none) (ro : RO g ⟨G.io ++ [p], G.Fz, G.Pr⟩ (upd H p o) ob o) :
    Ext g G H ⟨G.io ++ [p], G.Fz, G.Pr⟩ (upd H p o) ∧ Rep g ⟨G.io ++ [p], G.Fz, G.Pr⟩ (lh ++ [ob]) (upd H p o) := by
  have pre : ∀ (i : Nat) q, G.io[i]? = some q → (G.io ++ [p])[i]? = some q := fun i q h => by
    rw [List.getElem?_append_left (List.getElem?_eq_some_iff.mp h).1]; exact h
  have m : Mono g G H ⟨G.io ++ [p], G.Fz, G.Pr⟩ (upd H p o) := Mono.fresh hp r.fz pre fun _ h => h
  have ne : ∀ q, H q ≠ none → upd H p o q = H q := fun q hq => upd_at hq hp
  have np : p ∉ G.io := fun h => r.inn p h hp
  refine ⟨⟨m, rfl, fun q hq => ne q (r.pr q hq)⟩, ⟨by simp [r.len], ?_, fun i u e => ?_, fun q hq => by rw [ne q (r.fz q hq)]; exact r.fz q hq, fun q hq => by rw [ne q (r.pr q hq)]; exact r.pr q hq, fun i u q e e2 d => ?_, fun q hq => ?_, r.pz, fun q hq => ?_⟩⟩
  · rw [List.nodup_append]
    exact ⟨r.nd, by simp, fun a ha b hb e => np (by simp at hb; rw [← hb, ← e]; exact ha)⟩
  · by_cases hi : i < lh.length
    · rw [List.getElem?_append_left hi] at e
      obtain ⟨q, ho, h1, h2, h3⟩ := r.ob i u e
      exact ⟨q, ho, pre i q h1, by rw [ne q (by rw [h2]; simp)]; exact h2, h3.mono m⟩
    · have hl : i < (lh ++ [ob]).length := (List.getElem?_eq_some_iff.mp e).1
      have hi2 : i = lh.length := by simp at hl; omega
      subst hi2
      simp at e
      subst e
      exact ⟨p, o, by rw [← r.len]; simp, upd_same, ro⟩
  · by_cases hi : i < lh.length
    · rw [List.getElem?_append_left hi] at e
      have e3 : G.io[i]? = some q := by
        have e2' : (G.io ++ [p])[i]? = some q := e2
        rw [List.getElem?_append_left (by rw [r.len]; exact hi)] at e2'
        exact e2'
      exact r.sep i u q e e3 d
    · have hl : i < (lh ++ [ob]).length := (List.getElem?_eq_some_iff.mp e).1
      have hi2 : i = lh.length := by simp at hl; omega
      subst hi2
      have e2' : (G.io ++ [p])[lh.length]? = some q := e2
      rw [← r.len] at e2'
      simp at e2'
      subst e2'
      exact ⟨fun h => r.fz _ h hp, fun h => r.pr _ h hp⟩
  · rcases List.mem_append.mp hq with h | h
    · rw [ne q (r.inn q h)]; exact r.inn q h
    · simp at h
      subst h
      rw [upd_same]; simp
  · rcases List.mem_append.mp hq with h | h
    · exact r.ip q h
    · simp at h
      subst h
      exact fun z => r.pr _ z hp
theorem Rep.at (r : Rep g G lh H) {n : Nat} {p : Addr} {o : O} (hn : lh[n]? = some o) (hp : G.io[n]? = some p) : ∃ ho, H p = some ho ∧ RO g G H o ho := by
  obtain ⟨q, ho, h1, h2, h3⟩ := r.ob n o hn
  have : q = p := Option.some.inj (h1.symm.trans hp)
  subst this
  exact ⟨ho, h2, h3⟩
theorem Rep.lst (r : Rep g G lh H) {n : Nat} {p : Addr} {ws : List W} (hn : lh[n]? = some (.lst ws)) (hp : G.io[n]? = some p) : ∃ xs, H p = some (.lst xs) ∧ RVs g G H ws xs := by
  obtain ⟨ho, h1, xs, rfl, h2⟩ := r.at hn hp
  exact ⟨xs, h1, h2⟩
theorem io_inj (r : Rep g G lh H) {i j : Nat} {p : Addr} (hi : G.io[i]? = some p) (hj : G.io[j]? = some p) : i = j := by
  obtain ⟨li, ei⟩ := List.getElem?_eq_some_iff.mp hi
  obtain ⟨lj, ej⟩ := List.getElem?_eq_some_iff.mp hj
  exact (List.getElem_inj r.nd).mp (ei.trans ej.symm)
/-- a thing of the logical heap is changed -/
theorem Rep.write {lh : LH} {n : Nat} {p : Addr} {o o' : O} {ho ho' : HO} (r : Rep g G lh H) (hn : lh[n]? = some o) (hp : G.io[n]? = some p) (hd : o ≠ .dead) (hH : H p = some ho)
    (hw : (∃ xs, ho = .lst xs) ∨ (∃ C dx fs, ho = .ins C dx fs) ∨ (∃ kvs, ho = .dK kvs) ∨ (∃ kvs, ho = .dT kvs)) (ro : RO g G (upd H p ho') o' ho') :
    Ext g G H G (upd H p ho') ∧ Rep g G (lh.set n o') (upd H p ho') := by
  obtain ⟨s1, s2⟩ := r.sep n o p hn hp hd
  have x : Ext g G H G (upd H p ho') := Ext.write hH ⟨s1, hw⟩ s2
  have nn : ∀ q, H q ≠ none → upd H p ho' q ≠ none := fun q hq => by
    by_cases e : q = p
    · subst e; rw [upd_same]; simp
    · rw [upd_ne e]; exact hq
  refine ⟨x, ⟨by simp [r.len], r.nd, fun i u e => ?_, fun q hq => nn q (r.fz q hq), fun q hq => nn q (r.pr q hq), fun i u q e e2 d => ?_, fun q hq => nn q (r.inn q hq), r.pz, r.ip⟩⟩
  · by_cases hi : i = n
    · subst hi
      have : u = o' := by
        rw [List.getElem?_set_self (List.getElem?_eq_some_iff.mp hn).1] at e
        exact (Option.some.inj e).symm
      subst this
      exact ⟨p, ho', hp, upd_same, ro⟩
    · rw [List.getElem?_set_ne (Ne.symm hi)] at e
      obtain ⟨q, h1, k1, k2, k3⟩ := r.ob i u e
      have : q ≠ p := fun z => hi (io_inj r k1 (z ▸ hp))
      exact ⟨q, h1, k1, by rw [upd_ne this]; exact k2, k3.mono x.toMono⟩
  · by_cases hi : i = n
    · subst hi
      exact r.sep i o q hn e2 hd
    · rw [List.getElem?_set_ne (Ne.symm hi)] at e
      exact r.sep i u q e e2 d
/-- a thing of the logical heap is frozen -/
theorem Rep.freeze {lh : LH} {n : Nat} {p : Addr} {o : O} (r : Rep g G lh H) (hn : lh[n]? = some o) (hp : G.io[n]? = some p) (hd : o ≠ .dead) :
    Ext g G H ⟨G.io, fun q => G.Fz q ∨ q = p, G.Pr⟩ H ∧ Rep g ⟨G.io, fun q => G.Fz q ∨ q = p, G.Pr⟩ (lh.set n .dead) H := by
  obtain ⟨s1, s2⟩ := r.sep n o p hn hp hd
  have x : Ext g G H ⟨G.io, fun q => G.Fz q ∨ q = p, G.Pr⟩ H := ⟨⟨fun _ _ h => h, fun _ h => ⟨.inl h, rfl⟩, fun _ _ h => h, fun _ _ h => h⟩, rfl, fun _ _ => rfl⟩
  obtain ⟨p', ho, a1, a2, _⟩ := r.ob n o hn
  have : p' = p := Option.some.inj (a1.symm.trans hp)
  subst this
  refine ⟨x, ⟨by simp [r.len], r.nd, fun i u e => ?_, fun q hq => ?_, r.pr, fun i u q e e2 d => ?_, r.inn, fun q hq => ?_, r.ip⟩⟩
  · by_cases hi : i = n
    · subst hi
      rw [List.getElem?_set_self (List.getElem?_eq_some_iff.mp hn).1] at e
      cases e
      exact ⟨p', ho, hp, a2, trivial⟩
    · rw [List.getElem?_set_ne (Ne.symm hi)] at e
      obtain ⟨q, h1, k1, k2, k3⟩ := r.ob i u e
      exact ⟨q, h1, k1, k2, k3.mono x.toMono⟩
  · rcases hq with h | h
    · exact r.fz q h
    · subst h; rw [a2]; simp
  · by_cases hi : i = n
    · subst hi
      rw [List.getElem?_set_self (List.getElem?_eq_some_iff.mp hn).1] at e
      cases e
      exact absurd rfl d
    · rw [List.getElem?_set_ne (Ne.symm hi)] at e
      obtain ⟨k1, k2⟩ := r.sep i u q e e2 d
      refine ⟨?_, k2⟩
      rintro (h | h)
      · exact k1 h
      · subst h
        exact hi (io_inj r e2 hp)
  · rintro (h | h)
    · exact r.pz q hq h
    · subst h; exact s2 hq
/-- only what is kept from everybody differs -/
theorem RV.io {P P' : Addr → Prop} {io : List Addr} {Fz : Addr → Prop} {w : W} {v : V} (r : RV g ⟨io, Fz, P⟩ H w v) : RV g ⟨io, Fz, P'⟩ H w v :=
  RV.mono (G := ⟨io, Fz, P⟩) (G' := ⟨io, Fz, P'⟩) ⟨fun _ _ h => h, fun _ h => ⟨h, rfl⟩, fun _ _ h => h, fun _ _ h => h⟩ r
/-- a new thing of our own -/
theorem Rep.own {lh : LH} {D : Addr} {o : HO} (r : Rep g G lh H) (hD : H D = none) :
    Mono g G H ⟨G.io, G.Fz, fun q => G.Pr q ∨ q = D⟩ (upd H D o) ∧ Rep g ⟨G.io, G.Fz, fun q => G.Pr q ∨ q = D⟩ lh (upd H D o) := by
  have m : Mono g G H ⟨G.io, G.Fz, fun q => G.Pr q ∨ q = D⟩ (upd H D o) := Mono.fresh hD r.fz (fun _ _ h => h) fun _ h => h
  have ne : ∀ q, H q ≠ none → upd H D o q = H q := fun q hq => upd_at hq hD
  refine ⟨m, ⟨r.len, r.nd, fun i ob e => ?_, fun q hq => by rw [ne q (r.fz q hq)]; exact r.fz q hq, fun q hq => ?_, fun i ob q e e2 d => ?_, fun q hq => by rw [ne q (r.inn q hq)]; exact r.inn q hq, fun q hq => ?_, fun q hq => ?_⟩⟩
  · obtain ⟨q, ho, h1, h2, h3⟩ := r.ob i ob e
    exact ⟨q, ho, h1, by rw [ne q (by rw [h2]; simp)]; exact h2, h3.mono m⟩
  · rcases hq with hq | rfl
    · rw [ne q (r.pr q hq)]; exact r.pr q hq
    · rw [upd_same]; simp
  · obtain ⟨h1, h2⟩ := r.sep i ob q e e2 d
    refine ⟨h1, ?_⟩
    rintro (h | h)
    · exact h2 h
    · subst h
      exact r.inn _ (List.mem_of_getElem? e2) hD
  · rcases hq with hq | rfl
    · exact r.pz q hq
    · exact fun h => r.fz _ h hD
  · rintro (h | rfl)
    · exact r.ip q hq h
    · exact r.inn _ hq hD
/-- our own thing is changed -/
theorem Rep.mine {lh : LH} {D : Addr} {u o : HO} (r : Rep g G lh H) (hP : G.Pr D) (hD : H D = some u) (hu : (∃ xs, u = .lst xs) ∨ (∃ C dx fs, u = .ins C dx fs) ∨ (∃ kvs, u = .dK kvs) ∨ (∃ kvs, u = .dT kvs)) :
    Mono g G H G (upd H D o) ∧ Rep g G lh (upd H D o) := by
  have m : Mono g G H G (upd H D o) := Mono.write hD ⟨r.pz D hP, hu⟩
  have nn : ∀ q, H q ≠ none → upd H D o q ≠ none := fun q hq => by
    by_cases e : q = D
    · subst e; rw [upd_same]; simp
    · rw [upd_ne e]; exact hq
  refine ⟨m, ⟨r.len, r.nd, fun i ob e => ?_, fun q hq => nn q (r.fz q hq), fun q hq => nn q (r.pr q hq), r.sep, fun q hq => nn q (r.inn q hq), r.pz, r.ip⟩⟩
  obtain ⟨q, ho, h1, h2, h3⟩ := r.ob i ob e
  have qd : q ≠ D := fun z => r.ip q (List.mem_of_getElem? h1) (by rw [z]; exact hP)
  exact ⟨q, ho, h1, by rw [upd_ne qd]; exact h2, h3.mono m⟩
/-- our own thing is given away, frozen -/
theorem Rep.giveF {lh : LH} {D : Addr} {P : Addr → Prop} (r : Rep g G lh H) (hP : G.Pr = fun q => P q ∨ q = D) (hn : ¬ P D) (hD : H D ≠ none) :
    Mono g G H ⟨G.io, fun q => G.Fz q ∨ q = D, P⟩ H ∧ Rep g ⟨G.io, fun q => G.Fz q ∨ q = D, P⟩ lh H := by
  have m : Mono g G H ⟨G.io, fun q => G.Fz q ∨ q = D, P⟩ H := ⟨fun _ _ h => h, fun _ h => ⟨.inl h, rfl⟩, fun _ _ h => h, fun _ _ h => h⟩
  have p1 : ∀ q, P q → G.Pr q := fun q h => by rw [hP]; exact .inl h
  have p2 : G.Pr D := by rw [hP]; exact .inr rfl
  refine ⟨m, ⟨r.len, r.nd, fun i ob e => ?_, fun q hq => ?_, fun q hq => r.pr q (p1 q hq), fun i ob q e e2 d => ?_, r.inn, fun q hq => ?_, fun q hq h => r.ip q hq (p1 q h)⟩⟩
  · obtain ⟨q, ho, h1, h2, h3⟩ := r.ob i ob e
    exact ⟨q, ho, h1, h2, h3.mono m⟩
  · rcases hq with h | rfl
    · exact r.fz q h
    · exact hD
  · obtain ⟨h1, h2⟩ := r.sep i ob q e e2 d
    refine ⟨?_, fun h => h2 (p1 q h)⟩
    rintro (h | rfl)
    · exact h1 h
    · exact h2 p2
  · rintro (h | rfl)
    · exact r.pz q (p1 q hq) h
    · exact hn hq
/-- our own thing is given away -/
theorem Rep.giveO {lh : LH} {D : Addr} {P : Addr → Prop} {ob : O} {ho : HO} (r : Rep g G lh H) (hP : G.Pr = fun q => P q ∨ q = D) (hn : ¬ P D) (hD : H D = some ho) (rs : RO g G H ob ho) :
    Mono g G H ⟨G.io ++ [D], G.Fz, P⟩ H ∧ Rep g ⟨G.io ++ [D], G.Fz, P⟩ (lh ++ [ob]) H := by
  have pre : ∀ (i : Nat) q, G.io[i]? = some q → (G.io ++ [D])[i]? = some q := fun i q h => by
    rw [List.getElem?_append_left (List.getElem?_eq_some_iff.mp h).1]; exact h
  have m : Mono g G H ⟨G.io ++ [D], G.Fz, P⟩ H := ⟨pre, fun _ h => ⟨h, rfl⟩, fun _ _ h => h, fun _ _ h => h⟩
  have p1 : ∀ q, P q → G.Pr q := fun q h => by rw [hP]; exact .inl h
  have p2 : G.Pr D := by rw [hP]; exact .inr rfl
  have np : D ∉ G.io := fun h => r.ip D h p2
  refine ⟨m, ⟨by simp [r.len], ?_, fun i u e => ?_, r.fz, fun q hq => r.pr q (p1 q hq), fun i u q e e2 d => ?_, fun q hq => ?_, fun q hq => r.pz q (p1 q hq), fun q hq => ?_⟩⟩
  · rw [List.nodup_append]
    exact ⟨r.nd, by simp, fun a ha b hb e => np (by simp at hb; rw [← hb, ← e]; exact ha)⟩
  · by_cases hi : i < lh.length
    · rw [List.getElem?_append_left hi] at e
      obtain ⟨q, ho, h1, h2, h3⟩ := r.ob i u e
      exact ⟨q, ho, pre i q h1, h2, h3.mono m⟩
    · have hl : i < (lh ++ [ob]).length := (List.getElem?_eq_some_iff.mp e).1
      have hi2 : i = lh.length := by simp at hl; omega
      subst hi2
      simp at e
      subst e
      exact ⟨D, _, by rw [← r.len]; simp, hD, rs.mono m⟩
  · by_cases hi : i < lh.length
    · rw [List.getElem?_append_left hi] at e
      have e3 : G.io[i]? = some q := by
        have e2' : (G.io ++ [D])[i]? = some q := e2
        rw [List.getElem?_append_left (by rw [r.len]; exact hi)] at e2'
        exact e2'
      exact ⟨(r.sep i u q e e3 d).1, fun h => (r.sep i u q e e3 d).2 (p1 q h)⟩
    · have hl : i < (lh ++ [ob]).length := (List.getElem?_eq_some_iff.mp e).1
      have hi2 : i = lh.length := by simp at hl; omega
      subst hi2
      have e2' : (G.io ++ [D])[lh.length]? = some q := e2
      rw [← r.len] at e2'
      simp at e2'
      subst e2'
      exact ⟨r.pz _ p2, hn⟩
  · rcases List.mem_append.mp hq with h | h
    · exact r.inn q h
    · simp at h
      subst h
      rw [hD]; simp
  · rcases List.mem_append.mp hq with h | h
    · exact fun z => r.ip q h (p1 q z)
    · simp at h
      subst h
      exact hn
theorem Rep.giveL {lh : LH} {D : Addr} {P : Addr → Prop} {ws : List W} {xs : List V} (r : Rep g G lh H) (hP : G.Pr = fun q => P q ∨ q = D) (hn : ¬ P D) (hD : H D = some (.lst xs)) (rs : RVs g G H ws xs) :
    Mono g G H ⟨G.io ++ [D], G.Fz, P⟩ H ∧ Rep g ⟨G.io ++ [D], G.Fz, P⟩ (lh ++ [.lst ws]) H := r.giveO hP hn hD ⟨xs, rfl, rs⟩
end
end Mp
namespace Mp
open PySem PySem.Spec PyProof.Rows L2

/-- an exception on its way -/
def RX (g : Gw) (G : Gh) (H : Hp) (c : String) (ns : List String) (fs : List W) (cls : Value) (d : Option Addr) : Prop :=
  cls = Value.ref (g.ca c) ∧ ns.length = fs.length ∧ (ns = [] ∨ ∃ dd fl, d = some dd ∧ G.Fz dd ∧ H dd = some (.xd fl) ∧ ∀ f w, lk f ns fs = some w → ∃ v, fl.lookup (Str.ofString f) = some v ∧ RV g G H w v)
def PostG {α β : Type} (g : Gw) (rel : Gh → Hp → α → β → Prop) (G : Gh) (H : Hp) (r : R α) (Q : β → Hp → Prop) (E : XK) : Prop := match r with
  | .ok a lh => ∀ G' H' b, Ext g G H G' H' → Rep g G' lh H' → rel G' H' a b → Q b H'
  | .ex c ns fs lh => ∀ G' H' cls d, Ext g G H G' H' → Rep g G' lh H' → RX g G' H' c ns fs cls d → E cls d H'
  | .no => False
section
variable {α β γ δ : Type} {g : Gw} {G G' G1 : Gh} {H H' H1 : Hp} {E : XK}
theorem PostG.mono {rel : Gh → Hp → α → β → Prop} {r : R α} {Q : β → Hp → Prop} (h : PostG g rel G H r Q E) (e : Ext g G H G' H') : PostG g rel G' H' r Q E := by
  cases r with
  | ok a lh => exact fun G2 H2 b e2 => h G2 H2 b (e.trans e2)
  | ex c ns fs lh => exact fun G2 H2 cls d e2 => h G2 H2 cls d (e.trans e2)
  | no => exact h
theorem PostG.bind {rel1 : Gh → Hp → α → β → Prop} {rel2 : Gh → Hp → γ → δ → Prop} {r : R α} {f : α → LH → R γ} {Q : δ → Hp → Prop} {Q1 : β → Hp → Prop} (h : PostG g rel2 G H (r.bind f) Q E)
    (k : ∀ a lh G1 H1 b, r = .ok a lh → Ext g G H G1 H1 → Rep g G1 lh H1 → rel1 G1 H1 a b → PostG g rel2 G1 H1 (f a lh) Q E → Q1 b H1) : PostG g rel1 G H r Q1 E := by
  cases r with
  | ok a lh => exact fun G2 H2 b e2 rp rb => k a lh G2 H2 b rfl e2 rp rb (PostG.mono (show PostG g rel2 G H (f a lh) Q E from h) e2)
  | ex c ns fs lh => exact h
  | no => exact h
theorem PostG.here {rel : Gh → Hp → α → β → Prop} {a : α} {lh : LH} {Q : β → Hp → Prop} {b : β} (h : PostG g rel G H (.ok a lh) Q E) (rp : Rep g G lh H) (rb : rel G H a b) : Q b H := h G H b Ext.refl rp rb
theorem PostG.at {rel : Gh → Hp → α → β → Prop} {a : α} {lh : LH} {Q : β → Hp → Prop} {b : β} (h : PostG g rel G H (.ok a lh) Q E) (e : Ext g G H G' H') (rp : Rep g G' lh H') (rb : rel G' H' a b) : Q b H' := h G' H' b e rp rb
end

section
variable {g : Gw} {G : Gh} {H : Hp} {lh : LH} {w : W} {ws : List W} {v : V}
theorem trk_spec (rp : Rep g G lh H) (rv : RV g G H w v) (e : trk lh w = some ws) : ∃ p xs, v = .ref p ∧ H p = some (.lst xs) ∧ RVs g G H ws xs := by
  unfold trk at e
  split at e
  · cases e
    unfold RV at rv
    obtain ⟨p, xs, a, _, b, c⟩ := rv
    exact ⟨p, xs, a, b, c⟩
  · rename_i n
    unfold RV at rv
    obtain ⟨p, a, b⟩ := rv
    split at e
    · rename_i xs hn
      cases e
      obtain ⟨ys, c, d⟩ := rp.lst hn b
      exact ⟨p, ys, a, c, d⟩
    · cases e
  · cases e
theorem lstOf_spec (rp : Rep g G lh H) (rv : RV g G H w v) (e : lstOf lh w = some ws) : ∃ p xs, v = .ref p ∧ SqL g.K H p xs ∧ RVs g G H ws xs := by
  unfold lstOf at e
  split at e
  · cases e
    unfold RV at rv
    obtain ⟨p, xs, a, _, b, c⟩ := rv
    exact ⟨p, xs, a, SqL.of b, c⟩
  · cases e
    unfold RV at rv
    obtain ⟨p, xs, a, b, c⟩ := rv
    exact ⟨p, xs, a, b.sqL, c⟩
  · rename_i n
    unfold RV at rv
    obtain ⟨p, a, b⟩ := rv
    split at e
    · rename_i xs hn
      cases e
      obtain ⟨ys, c, d⟩ := rp.lst hn b
      exact ⟨p, ys, a, SqL.of c, d⟩
    · cases e
  · cases e
theorem seqOf_spec (rp : Rep g G lh H) (rv : RV g G H w v) (e : seqOf lh w = some ws) : ∃ p xs, v = .ref p ∧ ((lstOf lh w = some ws ∧ SqL g.K H p xs) ∨ (w = .tup ws ∧ SqT g.K H p xs)) ∧ RVs g G H ws xs := by
  by_cases h : ∃ us, w = .tup us
  · obtain ⟨us, rfl⟩ := h
    unfold seqOf at e
    cases e
    unfold RV at rv
    obtain ⟨p, xs, a, b, c⟩ := rv
    exact ⟨p, xs, a, .inr ⟨rfl, b⟩, c⟩
  · have e2 : lstOf lh w = some ws := by
      cases w <;> first | exact e | exact (h ⟨_, rfl⟩).elim
    obtain ⟨p, xs, a, b, c⟩ := lstOf_spec rp rv e2
    exact ⟨p, xs, a, .inl ⟨e2, b⟩, c⟩
end

/-- an operation of two values -/
def rOp (g : Gw) (f : W → W → LH → R W) : R2 := fun x y H Q => ∃ (G : Gh) (lh : LH) (wx wy : W) (E : XK), Rep g G lh H ∧ RV g G H wx x ∧ RV g G H wy y ∧ PostG g (RV g) G H (f wx wy lh) Q E
theorem RV.int_eq {g : Gw} {G : Gh} {H : Hp} {i : Int} {v : V} (h : RV g G H (.int i) v) : v = .int i := by unfold RV at h; exact h
theorem RV.bl_eq {g : Gw} {G : Gh} {H : Hp} {i : Bool} {v : V} (h : RV g G H (.bl i) v) : v = .bl i := by unfold RV at h; exact h
theorem RV.non_eq {g : Gw} {G : Gh} {H : Hp} {v : V} (h : RV g G H .non v) : v = .non := by unfold RV at h; exact h
theorem RV.str_eq {g : Gw} {G : Gh} {H : Hp} {i : String} {v : V} (h : RV g G H (.str i) v) : v = .str (Str.ofString i) := by unfold RV at h; exact h
theorem rv_int {g : Gw} {G : Gh} {H : Hp} {i : Int} : RV g G H (.int i) (.int i) := by unfold RV; rfl
theorem rv_bl {g : Gw} {G : Gh} {H : Hp} {i : Bool} : RV g G H (.bl i) (.bl i) := by unfold RV; rfl
theorem rv_non {g : Gw} {G : Gh} {H : Hp} : RV g G H .non .non := by unfold RV; rfl
theorem rv_str {g : Gw} {G : Gh} {H : Hp} {i : String} : RV g G H (.str i) (.str (Str.ofString i)) := by unfold RV; rfl
theorem RV.tup_eq {g : Gw} {G : Gh} {H : Hp} {ws : List W} {v : V} (h : RV g G H (.tup ws) v) : ∃ p xs, v = .ref p ∧ SqT g.K H p xs ∧ RVs g G H ws xs := by unfold RV at h; exact h
theorem rv_tup {g : Gw} {G : Gh} {H : Hp} {ws : List W} {p : Addr} {xs : List V} (h : SqT g.K H p xs) (r : RVs g G H ws xs) : RV g G H (.tup ws) (.ref p) := by unfold RV; exact ⟨p, xs, rfl, h, r⟩
theorem rv_fl {g : Gw} {G : Gh} {H : Hp} {ws : List W} {p : Addr} {xs : List V} (z : G.Fz p) (h : H p = some (.lst xs)) (r : RVs g G H ws xs) : RV g G H (.fl ws) (.ref p) := by unfold RV; exact ⟨p, xs, rfl, z, h, r⟩
theorem rv_ref {g : Gw} {G : Gh} {H : Hp} {n : Nat} {p : Addr} (h : G.io[n]? = some p) : RV g G H (.ref n) (.ref p) := by unfold RV; exact ⟨p, rfl, h⟩
theorem big_line {n : Nat} (h : n ≤ big) : n ≤ sizeLine := Nat.le_trans h (by rw [sizeLine_eq]; decide)
theorem str_len (s : String) : (Str.ofString s).length = s.length := by
  rw [PySem.Str.ofString_eq_toList]
  show ((s.toList.map Char.toNat).toArray).size = s.length
  rw [List.size_toArray, List.length_map]
  exact String.length_toList
theorem str_app (s t : String) : Str.ofString (s ++ t) = Str.ofString s ++ Str.ofString t := by
  rw [PySem.Str.ofString_eq_toList, PySem.Str.ofString_eq_toList, PySem.Str.ofString_eq_toList]
  show (⟨_⟩ : Str) = ⟨_ ++ _⟩
  congr 1
  simp
theorem char_nat_inj {a b : Char} (h : a.toNat = b.toNat) : a = b := by
  apply Char.ext
  apply UInt32.toNat_inj.mp
  exact h
theorem map_nat_inj : ∀ {a b : List Char}, a.map Char.toNat = b.map Char.toNat → a = b
  | [], [], _ => rfl
  | [], _ :: _, h => by simp at h
  | _ :: _, [], h => by simp at h
  | x :: a, y :: b, h => by
    simp only [List.map_cons, List.cons.injEq] at h
    rw [char_nat_inj h.1, map_nat_inj h.2]
theorem str_inj {s t : String} (h : Str.ofString s = Str.ofString t) : s = t := by
  rw [PySem.Str.ofString_eq_toList, PySem.Str.ofString_eq_toList] at h
  have h2 : (s.toList.map Char.toNat).toArray = (t.toList.map Char.toNat).toArray := congrArg Str.cps h
  have h3 : s.toList.map Char.toNat = t.toList.map Char.toNat := by simpa using h2
  exact String.toList_inj.mp (map_nat_inj h3)
/-- a new frozen list is handed on -/
theorem post_fl {g : Gw} {G : Gh} {H : Hp} {lh : LH} {ws : List W} {xs : List V} {Q : VK} {E : XK} {p : Addr} (rp : Rep g G lh H) (r : RVs g G H ws xs) (h : PostG g (RV g) G H (.ok (.fl ws) lh) Q E) (hp : H p = none) : Q (.ref p) (upd H p (.lst xs)) := by
  obtain ⟨e, rp2⟩ := rp.frozen (o := .lst xs) hp
  exact h.at e rp2 (rv_fl (.inr rfl) upd_same (r.mono e.toMono))
theorem post_tup {g : Gw} {G : Gh} {H : Hp} {lh : LH} {ws : List W} {xs : List V} {Q : VK} {E : XK} {p : Addr} (rp : Rep g G lh H) (r : RVs g G H ws xs) (h : PostG g (RV g) G H (.ok (.tup ws) lh) Q E) (hp : H p = none) : Q (.ref p) (upd H p (.tup xs)) := by
  obtain ⟨e, rp2⟩ := rp.tup (xs := xs) hp
  exact h.at e rp2 (rv_tup (SqT.of upd_same) (r.mono e.toMono))
/-- a new list of the logical heap is handed on -/
theorem post_ref {g : Gw} {G : Gh} {H : Hp} {lh : LH} {ws : List W} {xs : List V} {Q : VK} {E : XK} {p : Addr} (rp : Rep g G lh H) (r : RVs g G H ws xs) (h : PostG g (RV g) G H (.ok (.ref lh.length) (lh ++ [.lst ws])) Q E) (hp : H p = none) : Q (.ref p) (upd H p (.lst xs)) := by
  have m : Mono g G H ⟨G.io ++ [p], G.Fz, G.Pr⟩ (upd H p (.lst xs)) := Mono.fresh hp rp.fz (fun i q h => by rw [List.getElem?_append_left (List.getElem?_eq_some_iff.mp h).1]; exact h) fun _ h => h
  obtain ⟨e, rp2⟩ := rp.alloc (ob := .lst ws) (o := .lst xs) hp ⟨xs, rfl, r.mono m⟩
  exact h.at e rp2 (rv_ref (by rw [← rp.len]; simp))

section
variable {X : Cx} {g : Gw} (hK : X.K = g.K)
include hK
theorem snd_add : OpR X (binaryOp .Add) (rOp g (evB .add)) := by
  intro pins s σ H x y v u Q I rx ry h
  obtain ⟨G, lh, wx, wy, E, rp, r1, r2, h⟩ := h
  simp only [evB] at h
  split at h
  · rw [r1.int_eq] at rx; rw [r2.int_eq] at ry
    exact op_add pins s σ H _ _ v u Q I rx ry ⟨_, _, rfl, rfl, h.here rp rv_int⟩
  · rw [r1.str_eq] at rx; rw [r2.str_eq] at ry
    split at h
    · rename_i hl
      refine op_add_str pins s σ H _ _ v u Q I rx ry ⟨_, _, rfl, rfl, by rw [str_len, str_len]; exact big_line hl, h.here rp ?_⟩
      unfold RV; rw [str_app]
    · exact h.elim
  · rename_i as bs
    obtain ⟨p, xs, rfl, sp, rps⟩ := r1.tup_eq
    obtain ⟨q, ys, rfl, sq, rqs⟩ := r2.tup_eq
    split at h
    · rename_i hl
      rw [rps.length, rqs.length] at hl
      refine op_catA pins s σ H _ _ v u Q I rx ry ⟨p, q, xs, ys, rfl, rfl, by rw [hK]; exact sp, by rw [hK]; exact sq, big_line hl, fun e => ?_, fun _ e => ?_, fun _ _ r hr => ?_⟩
      · subst e
        refine h.here rp (rv_tup sq ?_)
        have : as = [] := List.length_eq_zero_iff.mp rps.length
        rw [this]; exact rqs
      · subst e
        refine h.here rp (rv_tup sp ?_)
        have : bs = [] := List.length_eq_zero_iff.mp rqs.length
        rw [this, List.append_nil]; exact rps
      · exact post_tup rp (rps.append rqs) h hr
    · exact h.elim
  · split at h
    · rename_i a b e1 e2
      obtain ⟨p, xs, rfl, sp, rps⟩ := trk_spec rp r1 e1
      obtain ⟨q, ys, rfl, sq, rqs⟩ := trk_spec rp r2 e2
      split at h
      · rename_i hl
        rw [rps.length, rqs.length] at hl
        exact op_cat pins s σ H _ _ v u Q I rx ry ⟨p, q, xs, ys, rfl, rfl, sp, sq, big_line hl, fun r hr => post_fl rp (rps.append rqs) h hr⟩
      · exact h.elim
    · exact h.elim
omit hK
theorem i2_of {g : Gw} {G : Gh} {H : Hp} {wx wy : W} {x y : V} {f : Int → Int → R W} {Q : VK} {E : XK} (r1 : RV g G H wx x) (r2 : RV g G H wy y) (h : PostG g (RV g) G H (i2 wx wy f) Q E) : ∃ i j, x = .int i ∧ y = .int j ∧ PostG g (RV g) G H (f i j) Q E := by
  unfold i2 at h
  split at h
  · exact ⟨_, _, r1.int_eq, r2.int_eq, h⟩
  · exact h.elim
theorem snd_sub : OpR X (binaryOp .Sub) (rOp g (evB .sub)) := by
  intro pins s σ H x y v u Q I rx ry h
  obtain ⟨G, lh, wx, wy, E, rp, r1, r2, h⟩ := h
  simp only [evB] at h
  obtain ⟨i, j, rfl, rfl, h⟩ := i2_of r1 r2 h
  exact op_sub pins s σ H _ _ v u Q I rx ry ⟨_, _, rfl, rfl, h.here rp rv_int⟩
theorem rep_rel {g : Gw} {G : Gh} {H : Hp} {ws : List W} {xs : List V} (r : RVs g G H ws xs) : ∀ n : Nat, RVs g G H (List.replicate n ws).flatten (List.replicate n xs).flatten
  | 0 => by simp; exact RVs.nil
  | n + 1 => by
    rw [List.replicate_succ, List.replicate_succ, List.flatten_cons, List.flatten_cons]
    exact RVs.append r (rep_rel r n)
theorem snd_mul : OpR X (binaryOp .Mult) (rOp g (evB .mul)) := by
  intro pins s σ H x y v u Q I rx ry h
  obtain ⟨G, lh, wx, wy, E, rp, r1, r2, h⟩ := h
  simp only [evB] at h
  split at h
  · rw [r1.int_eq] at rx; rw [r2.int_eq] at ry
    split at h
    · rename_i hc
      exact op_mul pins s σ H _ _ v u Q I rx ry ⟨_, _, rfl, rfl, hc, h.here rp rv_int⟩
    · exact h.elim
  · rw [r2.int_eq] at ry
    split at h
    · rename_i a e1
      obtain ⟨p, xs, rfl, sp, rps⟩ := trk_spec rp r1 e1
      split at h
      · rename_i hl
        obtain ⟨h1, h2, hl⟩ := hl
        rw [rps.length] at hl
        exact op_rep pins s σ H _ _ v u Q I rx ry ⟨p, _, xs, rfl, rfl, sp, h1, h2, big_line hl, fun r hr => post_fl rp (rep_rel rps _) h hr⟩
      · exact h.elim
    · exact h.elim
  · exact h.elim
theorem snd_mulm : OpR X (binaryOp .Mult) (rOp g (evB .mulm)) := by
  intro pins s σ H x y v u Q I rx ry h
  obtain ⟨G, lh, wx, wy, E, rp, r1, r2, h⟩ := h
  simp only [evB] at h
  split at h
  · rw [r2.int_eq] at ry
    split at h
    · rename_i a e1
      obtain ⟨p, xs, rfl, sp, rps⟩ := trk_spec rp r1 e1
      split at h
      · rename_i hl
        obtain ⟨h1, h2, hl⟩ := hl
        rw [rps.length] at hl
        exact op_rep pins s σ H _ _ v u Q I rx ry ⟨p, _, xs, rfl, rfl, sp, h1, h2, big_line hl, fun r hr => post_ref rp (rep_rel rps _) h hr⟩
      · exact h.elim
    · exact h.elim
  · exact h.elim
theorem snd_fdiv : OpR X (binaryOp .FloorDiv) (rOp g (evB .fdiv)) := by
  intro pins s σ H x y v u Q I rx ry h
  obtain ⟨G, lh, wx, wy, E, rp, r1, r2, h⟩ := h
  simp only [evB] at h
  obtain ⟨i, j, rfl, rfl, h⟩ := i2_of r1 r2 h
  split at h
  · rename_i hc
    exact op_fdiv pins s σ H _ _ v u Q I rx ry ⟨_, _, rfl, rfl, hc, h.here rp rv_int⟩
  · exact h.elim
theorem snd_mod : OpR X (binaryOp .Mod) (rOp g (evB .mod)) := by
  intro pins s σ H x y v u Q I rx ry h
  obtain ⟨G, lh, wx, wy, E, rp, r1, r2, h⟩ := h
  simp only [evB] at h
  obtain ⟨i, j, rfl, rfl, h⟩ := i2_of r1 r2 h
  split at h
  · rename_i hc
    exact op_mod pins s σ H _ _ v u Q I rx ry ⟨_, _, rfl, rfl, hc, h.here rp rv_int⟩
  · exact h.elim
theorem snd_pow : OpR X (binaryOp .Pow) (rOp g (evB .pow)) := by
  intro pins s σ H x y v u Q I rx ry h
  obtain ⟨G, lh, wx, wy, E, rp, r1, r2, h⟩ := h
  simp only [evB] at h
  obtain ⟨i, j, rfl, rfl, h⟩ := i2_of r1 r2 h
  split at h
  · rename_i hc
    exact op_pow pins s σ H _ _ v u Q I rx ry ⟨_, _, rfl, rfl, hc, h.here rp rv_int⟩
  · exact h.elim
theorem snd_shl : OpR X (binaryOp .LShift) (rOp g (evB .shl)) := by
  intro pins s σ H x y v u Q I rx ry h
  obtain ⟨G, lh, wx, wy, E, rp, r1, r2, h⟩ := h
  simp only [evB] at h
  obtain ⟨i, j, rfl, rfl, h⟩ := i2_of r1 r2 h
  split at h
  · rename_i hc
    exact op_shl pins s σ H _ _ v u Q I rx ry ⟨_, _, rfl, rfl, hc, h.here rp rv_int⟩
  · exact h.elim
theorem snd_shr : OpR X (binaryOp .RShift) (rOp g (evB .shr)) := by
  intro pins s σ H x y v u Q I rx ry h
  obtain ⟨G, lh, wx, wy, E, rp, r1, r2, h⟩ := h
  simp only [evB] at h
  obtain ⟨i, j, rfl, rfl, h⟩ := i2_of r1 r2 h
  split at h
  · rename_i hc
    exact op_shr pins s σ H _ _ v u Q I rx ry ⟨_, _, rfl, rfl, hc, h.here rp rv_int⟩
  · exact h.elim
theorem snd_band : OpR X (binaryOp .BitAnd) (rOp g (evB .band)) := by
  intro pins s σ H x y v u Q I rx ry h
  obtain ⟨G, lh, wx, wy, E, rp, r1, r2, h⟩ := h
  simp only [evB] at h
  obtain ⟨i, j, rfl, rfl, h⟩ := i2_of r1 r2 h
  exact op_and pins s σ H _ _ v u Q I rx ry ⟨_, _, rfl, rfl, h.here rp rv_int⟩
theorem snd_bor : OpR X (binaryOp .BitOr) (rOp g (evB .bor)) := by
  intro pins s σ H x y v u Q I rx ry h
  obtain ⟨G, lh, wx, wy, E, rp, r1, r2, h⟩ := h
  simp only [evB] at h
  obtain ⟨i, j, rfl, rfl, h⟩ := i2_of r1 r2 h
  exact op_or pins s σ H _ _ v u Q I rx ry ⟨_, _, rfl, rfl, h.here rp rv_int⟩
theorem snd_bxor : OpR X (binaryOp .BitXor) (rOp g (evB .bxor)) := by
  intro pins s σ H x y v u Q I rx ry h
  obtain ⟨G, lh, wx, wy, E, rp, r1, r2, h⟩ := h
  simp only [evB] at h
  obtain ⟨i, j, rfl, rfl, h⟩ := i2_of r1 r2 h
  exact op_xor pins s σ H _ _ v u Q I rx ry ⟨_, _, rfl, rfl, h.here rp rv_int⟩
end
end Mp
namespace Mp
open PySem PySem.Spec PyProof.Rows L2
section
variable {g : Gw} {G : Gh} {H : Hp} {lh : LH}
mutual
theorem dat_dp (rp : Rep g G lh H) : ∀ (n : Nat) (w : W) (v : V) (d : PyData), RV g G H w v → dat lh n w = some d → Dp g.K H v d
  | 0, _, _, _, _, e => by simp [dat] at e
  | n + 1, .non, _, _, r, e => by
    rw [r.non_eq]; simp only [dat, Option.some.injEq] at e; subst e; exact .non
  | n + 1, .bl b, _, _, r, e => by
    rw [r.bl_eq]; simp only [dat, Option.some.injEq] at e; subst e; exact .bl b
  | n + 1, .int b, _, _, r, e => by
    rw [r.int_eq]; simp only [dat, Option.some.injEq] at e; subst e; exact .int b
  | n + 1, .str b, _, _, r, e => by
    rw [r.str_eq]; simp only [dat, Option.some.injEq] at e; subst e; exact .str _
  | n + 1, .tup ws, _, _, r, e => by
    obtain ⟨p, xs, rfl, s, rs⟩ := r.tup_eq
    simp only [dat, Option.map_eq_some_iff] at e
    obtain ⟨ds, e1, rfl⟩ := e
    exact .tup s (dats_dp rp n ws xs ds rs e1)
  | n + 1, .fl ws, v, _, r, e => by
    unfold RV at r
    obtain ⟨p, xs, rfl, _, s, rs⟩ := r
    simp only [dat, Option.map_eq_some_iff] at e
    obtain ⟨ds, e1, rfl⟩ := e
    exact .lst (SqL.of s) (dats_dp rp n ws xs ds rs e1)
  | n + 1, .rd ws, v, _, r, e => by
    unfold RV at r
    obtain ⟨p, xs, rfl, s, rs⟩ := r
    simp only [dat, Option.map_eq_some_iff] at e
    obtain ⟨ds, e1, rfl⟩ := e
    exact .lst s.sqL (dats_dp rp n ws xs ds rs e1)
  | n + 1, .ref m, v, _, r, e => by
    unfold RV at r
    obtain ⟨p, rfl, hp⟩ := r
    simp only [dat] at e
    split at e
    · rename_i ws hm
      simp only [Option.map_eq_some_iff] at e
      obtain ⟨ds, e1, rfl⟩ := e
      obtain ⟨xs, s, rs⟩ := rp.lst hm hp
      exact .lst (SqL.of s) (dats_dp rp n ws xs ds rs e1)
    · cases e
  | n + 1, .obj _ _ _, _, _, _, e => by simp [dat] at e
  | n + 1, .exc _ _ _, _, _, _, e => by simp [dat] at e
theorem dats_dp (rp : Rep g G lh H) : ∀ (n : Nat) (ws : List W) (xs : List V) (ds : List PyData), RVs g G H ws xs → ws.mapM (dat lh n) = some ds → DpAll g.K H xs ds
  | n, [], _, _, r, e => by
    unfold RVs at r; subst r
    simp at e; subst e; exact .nil
  | n, w :: ws, _, _, r, e => by
    unfold RVs at r
    obtain ⟨x, xr, rfl, a, b⟩ := r
    rw [List.mapM_cons] at e
    cases e1 : dat lh n w with
    | none => rw [e1] at e; simp at e
    | some d =>
      rw [e1] at e
      cases e2 : ws.mapM (dat lh n) with
      | none => rw [e2] at e; simp at e
      | some ds =>
        rw [e2] at e
        simp at e
        subst e
        exact .cons (dat_dp rp n w x d a e1) (dats_dp rp n ws xr ds b e2)
end
theorem scq_ok {a b : W} {x y : V} {r : Bool} (h : scq a b = some r) (ra : RV g G H a x) (rb : RV g G H b y) : scal x y = true ∧ decide (x = y) = r := by
  unfold scq at h
  split at h <;> first | (cases h; done) | skip
  all_goals simp only [Option.some.injEq] at h
  all_goals subst h
  · rw [ra.int_eq, rb.int_eq]; exact ⟨rfl, by simp⟩
  · rw [ra.str_eq, rb.str_eq]
    refine ⟨rfl, ?_⟩
    rename_i s t
    by_cases e : s = t
    · subst e; simp
    · have : ¬ Str.ofString s = Str.ofString t := fun z => e (str_inj z)
      simp [e, this]
  · rw [ra.bl_eq, rb.bl_eq]; exact ⟨rfl, by simp⟩
  · rw [ra.non_eq, rb.non_eq]; exact ⟨rfl, by simp⟩
  · rw [ra.non_eq, rb.int_eq]; exact ⟨rfl, by simp⟩
  · rw [ra.int_eq, rb.non_eq]; exact ⟨rfl, by simp⟩
  · rw [ra.non_eq, rb.bl_eq]; exact ⟨rfl, by simp⟩
  · rw [ra.bl_eq, rb.non_eq]; exact ⟨rfl, by simp⟩
  · rw [ra.non_eq, rb.str_eq]; exact ⟨rfl, by simp⟩
  · rw [ra.str_eq, rb.non_eq]; exact ⟨rfl, by simp⟩
  · rw [ra.int_eq, rb.str_eq]; exact ⟨rfl, by simp⟩
  · rw [ra.str_eq, rb.int_eq]; exact ⟨rfl, by simp⟩
  · rw [ra.bl_eq, rb.str_eq]; exact ⟨rfl, by simp⟩
  · rw [ra.str_eq, rb.bl_eq]; exact ⟨rfl, by simp⟩
theorem flat_ok {a : W} {x : V} (h : flatW a = true) (ra : RV g G H a x) : flatV x = true := by
  cases a <;> first | (cases h; done) | skip
  · rw [ra.non_eq]; rfl
  · rw [ra.bl_eq]; rfl
  · rw [ra.int_eq]; rfl
  · rw [ra.str_eq]; rfl
theorem flats_ok : ∀ {as : List W} {xs : List V}, as.all flatW = true → RVs g G H as xs → xs.all flatV = true
  | [], _, _, r => by unfold RVs at r; subst r; rfl
  | a :: as, _, h, r => by
    unfold RVs at r
    obtain ⟨x, xr, rfl, ra, rb⟩ := r
    rw [List.all_cons, Bool.and_eq_true] at h
    rw [List.all_cons, flat_ok h.1 ra, flats_ok h.2 rb]; rfl
theorem eqF_ok {a b : W} {x y : V} (fa : flatW a = true) (fb : flatW b = true) (ra : RV g G H a x) (rb : RV g G H b y) : eqV x y = eqF a b := by
  cases a <;> first | (cases fa; done) | skip
  all_goals (cases b <;> first | (cases fb; done) | skip)
  all_goals first | (rw [ra.non_eq]) | (rw [ra.bl_eq]) | (rw [ra.int_eq]) | (rw [ra.str_eq])
  all_goals first | (rw [rb.non_eq]) | (rw [rb.bl_eq]) | (rw [rb.int_eq]) | (rw [rb.str_eq])
  all_goals first | rfl | skip
  all_goals simp only [eqV, eqF]
  all_goals first | (rw [Bool.eq_iff_iff]; simp; done) | skip
  rename_i s t
  by_cases e : s = t
  · subst e; simp
  · have : ¬ Str.ofString s = Str.ofString t := fun z => e (str_inj z)
    simp [e, this]
theorem any_ok {b : W} {y : V} (fb : flatW b = true) (rb : RV g G H b y) : ∀ {as : List W} {xs : List V}, as.all flatW = true → RVs g G H as xs → inV y xs = as.any fun z => eqF z b
  | [], _, _, r => by unfold RVs at r; subst r; rfl
  | a :: as, _, h, r => by
    unfold RVs at r
    obtain ⟨x, xr, rfl, ra, rr⟩ := r
    rw [List.all_cons, Bool.and_eq_true] at h
    have := any_ok fb rb h.2 rr
    unfold inV at this ⊢
    rw [List.any_cons, List.any_cons, eqF_ok h.1 fb ra rb, this]
end
section
variable {X : Cx} {g : Gw} {n : Nat} (hK : X.K = g.K) (hr : Room n X.A)
include hK hr
theorem snd_eq : OpR X (compareOp .Eq) (rOp g (evC .eq)) := by
  intro pins s σ H x y v u Q I rx ry h
  obtain ⟨G, lh, wx, wy, E, rp, r1, r2, h⟩ := h
  simp only [evC] at h
  split at h
  · rename_i b e
    unfold eqW at e
    split at e
    · rename_i r hs
      cases e
      obtain ⟨a1, a2⟩ := scq_ok hs r1 r2
      refine op_eq pins s σ H x y v u Q I rx ry ⟨a1, ?_⟩
      rw [a2]
      exact h.here rp rv_bl
    · split at e
      · rename_i d d' e1 e2
        split at e
        · rename_i hsh
          cases e
          rw [Bool.and_eq_true] at hsh
          exact op_eqD hr.units pins s σ H x y v u Q I rx ry ⟨d, d', by rw [hK]; exact dat_dp rp _ _ _ _ r1 e1, by rw [hK]; exact dat_dp rp _ _ _ _ r2 e2, hsh.1, hsh.2, h.here rp rv_bl⟩
        · cases e
      · cases e
  · exact h.elim
theorem snd_ne : OpR X (compareOp .NotEq) (rOp g (evC .ne)) := by
  intro pins s σ H x y v u Q I rx ry h
  obtain ⟨G, lh, wx, wy, E, rp, r1, r2, h⟩ := h
  simp only [evC] at h
  split at h
  · rename_i b e
    unfold eqW at e
    split at e
    · rename_i r hs
      cases e
      obtain ⟨a1, a2⟩ := scq_ok hs r1 r2
      refine op_ne pins s σ H x y v u Q I rx ry ⟨a1, ?_⟩
      rw [a2]
      exact h.here rp rv_bl
    · split at e
      · rename_i d d' e1 e2
        split at e
        · rename_i hsh
          cases e
          rw [Bool.and_eq_true] at hsh
          exact op_neD hr.units pins s σ H x y v u Q I rx ry ⟨d, d', by rw [hK]; exact dat_dp rp _ _ _ _ r1 e1, by rw [hK]; exact dat_dp rp _ _ _ _ r2 e2, hsh.1, hsh.2, h.here rp rv_bl⟩
        · cases e
      · cases e
  · exact h.elim
omit hK hr in
theorem sign_mem {c : Char} {t : String} : (c.toNat ∈ (Str.ofString t).cps.toList) ↔ c ∈ t.toList := by
  rw [PySem.Str.ofString_eq_toList]
  show c.toNat ∈ (t.toList.map Char.toNat).toArray.toList ↔ _
  rw [List.mem_map]
  constructor
  · rintro ⟨d, hd, e⟩
    have : d = c := Char.toNat_inj.mp e
    rw [← this]; exact hd
  · intro h
    exact ⟨c, h, rfl⟩
omit hK hr in
theorem sign_str {s : String} {c : Char} (h : s.toList = [c]) : Str.ofString s = ⟨#[c.toNat]⟩ := by
  rw [PySem.Str.ofString_eq_toList, h]
  rfl
theorem snd_in : OpR X (compareOp .In) (rOp g (evC .isin)) := by
  intro pins s0 σ H x y v u Q I rx ry h
  obtain ⟨G, lh, wx, wy, E, rp, r1, r2, h⟩ := h
  simp only [evC] at h
  split at h
  · rename_i b e
    unfold inW at e
    split at e
    · rename_i ws hs
      split at e
      · rename_i hf
        cases e
        rw [Bool.and_eq_true] at hf
        obtain ⟨p, xs, rfl, hq, rs⟩ := seqOf_spec rp r2 hs
        refine op_in_seq pins s0 σ H x _ v u Q I rx ry ⟨p, xs, rfl, ?_, flat_ok hf.1 r1, flats_ok hf.2 rs, ?_⟩
        · rw [hK]
          rcases hq with ⟨_, q⟩ | ⟨_, q⟩
          · exact .inl q
          · exact .inr q
        · simp only [Bool.false_eq_true, if_false]
          rw [any_ok hf.1 r1 hf.2 rs]
          exact h.here rp rv_bl
      · split at e
        · rename_i d ds e1 e2
          split at e
          · rename_i hsh
            cases e
            rw [Bool.and_eq_true] at hsh
            have hu : X.A.units + 65 < cLine := by have := hr.un; omega
            exact op_inD hu pins s0 σ H x y v u Q I rx ry ⟨d, ds, by rw [hK]; exact dat_dp rp _ _ _ _ r1 e1, by rw [hK]; exact dat_dp rp _ _ _ _ r2 e2, hsh.1, hsh.2, h.here rp rv_bl⟩
          · cases e
        · cases e
    · split at e
      · rename_i s t _
        split at e
        · rename_i ch hch
          cases e
          rw [r1.str_eq] at rx
          rw [r2.str_eq] at ry
          refine op_in_sign pins s0 σ H _ _ v u Q I rx ry ⟨ch.toNat, Str.ofString t, by rw [sign_str hch], rfl, ?_⟩
          rw [show decide (ch.toNat ∈ (Str.ofString t).cps.toList) = decide (ch ∈ t.toList) from decide_eq_decide.mpr sign_mem]
          exact h.here rp rv_bl
        · cases e
      · cases e
  · exact h.elim
theorem snd_nin : OpR X (compareOp .NotIn) (rOp g (evC .nin)) := by
  intro pins s0 σ H x y v u Q I rx ry h
  obtain ⟨G, lh, wx, wy, E, rp, r1, r2, h⟩ := h
  simp only [evC] at h
  split at h
  · rename_i b e
    unfold inW at e
    split at e
    · rename_i ws hs
      split at e
      · rename_i hf
        cases e
        rw [Bool.and_eq_true] at hf
        obtain ⟨p, xs, rfl, hq, rs⟩ := seqOf_spec rp r2 hs
        refine op_notIn_seq pins s0 σ H x _ v u Q I rx ry ⟨p, xs, rfl, ?_, flat_ok hf.1 r1, flats_ok hf.2 rs, ?_⟩
        · rw [hK]
          rcases hq with ⟨_, q⟩ | ⟨_, q⟩
          · exact .inl q
          · exact .inr q
        · simp only [if_true]
          rw [any_ok hf.1 r1 hf.2 rs]
          exact h.here rp rv_bl
      · split at e
        · rename_i d ds e1 e2
          split at e
          · rename_i hsh
            cases e
            rw [Bool.and_eq_true] at hsh
            have hu : X.A.units + 65 < cLine := by have := hr.un; omega
            exact op_notInD hu pins s0 σ H x y v u Q I rx ry ⟨d, ds, by rw [hK]; exact dat_dp rp _ _ _ _ r1 e1, by rw [hK]; exact dat_dp rp _ _ _ _ r2 e2, hsh.1, hsh.2, h.here rp rv_bl⟩
          · cases e
        · cases e
    · split at e
      · rename_i s t _
        split at e
        · rename_i ch hch
          cases e
          rw [r1.str_eq] at rx
          rw [r2.str_eq] at ry
          refine op_notIn_sign pins s0 σ H _ _ v u Q I rx ry ⟨ch.toNat, Str.ofString t, by rw [sign_str hch], rfl, ?_⟩
          rw [show decide (ch.toNat ∈ (Str.ofString t).cps.toList) = decide (ch ∈ t.toList) from decide_eq_decide.mpr sign_mem]
          exact h.here rp rv_bl
        · cases e
      · cases e
  · exact h.elim
omit hK hr
theorem snd_lt : OpR X (compareOp .Lt) (rOp g (evC .lt)) := by
  intro pins s σ H x y v u Q I rx ry h
  obtain ⟨G, lh, wx, wy, E, rp, r1, r2, h⟩ := h
  simp only [evC] at h
  obtain ⟨i, j, rfl, rfl, h⟩ := i2_of r1 r2 h
  exact op_lt pins s σ H _ _ v u Q I rx ry ⟨_, _, rfl, rfl, h.here rp rv_bl⟩
theorem snd_le : OpR X (compareOp .LtE) (rOp g (evC .le)) := by
  intro pins s σ H x y v u Q I rx ry h
  obtain ⟨G, lh, wx, wy, E, rp, r1, r2, h⟩ := h
  simp only [evC] at h
  obtain ⟨i, j, rfl, rfl, h⟩ := i2_of r1 r2 h
  exact op_le pins s σ H _ _ v u Q I rx ry ⟨_, _, rfl, rfl, h.here rp rv_bl⟩
theorem snd_gt : OpR X (compareOp .Gt) (rOp g (evC .gt)) := by
  intro pins s σ H x y v u Q I rx ry h
  obtain ⟨G, lh, wx, wy, E, rp, r1, r2, h⟩ := h
  simp only [evC] at h
  obtain ⟨i, j, rfl, rfl, h⟩ := i2_of r1 r2 h
  exact op_gt pins s σ H _ _ v u Q I rx ry ⟨_, _, rfl, rfl, h.here rp rv_bl⟩
theorem snd_ge : OpR X (compareOp .GtE) (rOp g (evC .ge)) := by
  intro pins s σ H x y v u Q I rx ry h
  obtain ⟨G, lh, wx, wy, E, rp, r1, r2, h⟩ := h
  simp only [evC] at h
  obtain ⟨i, j, rfl, rfl, h⟩ := i2_of r1 r2 h
  exact op_ge pins s σ H _ _ v u Q I rx ry ⟨_, _, rfl, rfl, h.here rp rv_bl⟩
theorem is_non {g : Gw} {G : Gh} {H : Hp} {w : W} {x : V} (r : RV g G H w x) : decide (x = .non) = isNon w := by
  cases w with
  | non => rw [r.non_eq]; rfl
  | bl b => rw [r.bl_eq]; rfl
  | int b => rw [r.int_eq]; rfl
  | str b => rw [r.str_eq]; rfl
  | tup b => obtain ⟨p, xs, rfl, _⟩ := r.tup_eq; rfl
  | fl b => unfold RV at r; obtain ⟨p, xs, rfl, _⟩ := r; rfl
  | rd b => unfold RV at r; obtain ⟨p, xs, rfl, _⟩ := r; rfl
  | ref b => unfold RV at r; obtain ⟨p, rfl, _⟩ := r; rfl
  | obj c ns b => unfold RV at r; obtain ⟨p, dx, xs, rfl, _⟩ := r; rfl
  | exc c ns b => unfold RV at r; exact r.elim
  | dic ks vs => unfold RV at r; obtain ⟨p, ho, xs, rfl, _⟩ := r; rfl
theorem snd_is : OpR X (compareOp .Is) (rOp g (evC .is)) := by
  intro pins s σ H x y v u Q I rx ry h
  obtain ⟨G, lh, wx, wy, E, rp, r1, r2, h⟩ := h
  simp only [evC] at h
  split at h
  · refine op_isN pins s σ H x y v u Q I rx ry ⟨r2.non_eq, ?_⟩
    rw [is_non r1]
    exact h.here rp rv_bl
  · split at h
    · exact op_isBl pins s σ H x y v u Q I rx ry ⟨_, _, r1.bl_eq, r2.bl_eq, h.here rp rv_bl⟩
    · exact h.elim
  · exact h.elim
theorem snd_isn : OpR X (compareOp .IsNot) (rOp g (evC .isn)) := by
  intro pins s σ H x y v u Q I rx ry h
  obtain ⟨G, lh, wx, wy, E, rp, r1, r2, h⟩ := h
  simp only [evC] at h
  split at h
  · refine op_notN pins s σ H x y v u Q I rx ry ⟨r2.non_eq, ?_⟩
    rw [is_non r1]
    exact h.here rp rv_bl
  · split at h
    · exact op_notBl pins s σ H x y v u Q I rx ry ⟨_, _, r1.bl_eq, r2.bl_eq, h.here rp rv_bl⟩
    · exact h.elim
  · exact h.elim
def toOp : BOp → Operator
  | .add => .Add | .sub => .Sub | .mul => .Mult | .mulm => .Mult | .fdiv => .FloorDiv | .mod => .Mod | .pow => .Pow | .shl => .LShift | .shr => .RShift | .band => .BitAnd | .bor => .BitOr | .bxor => .BitXor
def toCmp : COp → CmpOp
  | .eq => .Eq | .ne => .NotEq | .lt => .Lt | .le => .LtE | .gt => .Gt | .ge => .GtE | .is => .Is | .isn => .IsNot | .isin => .In | .nin => .NotIn
def toUn : UOp → UnaryOp
  | .neg => .USub | .inv => .Invert
theorem snd_bin (hK : X.K = g.K) (o : BOp) : OpR X (binaryOp (toOp o)) (rOp g (evB o)) := by
  cases o
  · exact snd_add hK
  · exact snd_sub
  · exact snd_mul
  · exact snd_mulm
  · exact snd_fdiv
  · exact snd_mod
  · exact snd_pow
  · exact snd_shl
  · exact snd_shr
  · exact snd_band
  · exact snd_bor
  · exact snd_bxor
theorem snd_cmp (hK : X.K = g.K) (hr : Room n X.A) (o : COp) : OpR X (compareOp (toCmp o)) (rOp g (evC o)) := by
  cases o
  · exact snd_eq hK hr
  · exact snd_ne hK hr
  · exact snd_lt
  · exact snd_le
  · exact snd_gt
  · exact snd_ge
  · exact snd_is
  · exact snd_isn
  · exact snd_in hK hr
  · exact snd_nin hK hr
def rUn (g : Gw) (f : W → LH → R W) : V → Hp → VK → Prop := fun x H Q => ∃ (G : Gh) (lh : LH) (wx : W) (E : XK), Rep g G lh H ∧ RV g G H wx x ∧ PostG g (RV g) G H (f wx lh) Q E
theorem snd_un (o : UOp) : UnR X (unaryOp (toUn o)) (rUn g (evU o)) := by
  intro pins s σ H x v Q I rx h
  obtain ⟨G, lh, wx, E, rp, r1, h⟩ := h
  unfold evU at h
  split at h
  · exact un_neg pins s σ H x v Q I rx ⟨_, r1.int_eq, h.here rp rv_int⟩
  · exact un_inv pins s σ H x v Q I rx ⟨_, r1.int_eq, h.here rp rv_int⟩
  · exact h.elim
theorem emp_of {g : Gw} {G : Gh} {H : Hp} {ws : List W} {xs : List V} (r : RVs g G H ws xs) : (!ws.isEmpty) = !xs.isEmpty := by
  have := r.length
  cases ws <;> cases xs <;> simp_all
theorem tru_spec {G : Gh} {H : Hp} {lh : LH} {w : W} {x : V} {b : Bool} (rp : Rep g G lh H) (r : RV g G H w x) (e : truW lh w = some b) : TruV g.K x H b := by
  unfold truW at e
  split at e
  · cases e; rw [r.non_eq]; rfl
  · cases e; rw [r.bl_eq]; rfl
  · cases e; rw [r.int_eq]; rfl
  · split at e
    · rename_i hl
      cases e; rw [r.str_eq]
      refine ⟨by rw [str_len]; exact big_line hl, ?_⟩
      rw [str_len]
      rw [Bool.eq_iff_iff]; simp
    · cases e
  · cases e
    obtain ⟨p, xs, rfl, sp, rs⟩ := r.tup_eq
    refine .inr (.inl ⟨xs, sp, emp_of rs⟩)
  · cases e
    unfold RV at r
    obtain ⟨p, xs, rfl, _, sp, rs⟩ := r
    refine .inl ⟨xs, SqL.of sp, emp_of rs⟩
  · cases e
    unfold RV at r
    obtain ⟨p, xs, rfl, sp, rs⟩ := r
    refine .inl ⟨xs, sp.sqL, emp_of rs⟩
  · unfold RV at r
    obtain ⟨p, rfl, hp⟩ := r
    split at e
    · rename_i ws hm
      cases e
      obtain ⟨xs, sp, rs⟩ := rp.lst hm hp
      refine .inl ⟨xs, SqL.of sp, emp_of rs⟩
    · cases e
  · cases e
end
end Mp
namespace Mp
open PySem PySem.Spec PyProof.Rows L2
/-- a call of values -/
def rCa (g : Gw) (f : List W → LH → R W) : List V → Hp → VK → Prop := fun xs H Q => ∃ (G : Gh) (lh : LH) (ws : List W) (E : XK), Rep g G lh H ∧ RVs g G H ws xs ∧ PostG g (RV g) G H (f ws lh) Q E
section
variable {g : Gw} {G : Gh} {H : Hp} {lh : LH}
theorem rvs1 {w : W} {xs : List V} (r : RVs g G H [w] xs) : ∃ x, xs = [x] ∧ RV g G H w x := by
  unfold RVs at r
  obtain ⟨x, t, rfl, a, b⟩ := r
  unfold RVs at b
  subst b
  exact ⟨x, rfl, a⟩
theorem rvs2 {w u : W} {xs : List V} (r : RVs g G H [w, u] xs) : ∃ x y, xs = [x, y] ∧ RV g G H w x ∧ RV g G H u y := by
  unfold RVs at r
  obtain ⟨x, t, rfl, a, b⟩ := r
  obtain ⟨y, e, c⟩ := rvs1 b
  subst e
  exact ⟨x, y, rfl, a, c⟩
theorem rvs0 {xs : List V} (r : RVs g G H [] xs) : xs = [] := by unfold RVs at r; exact r
theorem toInts_spec : ∀ {ws : List W} {ns : List Int}, toInts ws = some ns → ws = ns.map .int
  | [], _, h => by simp [toInts] at h; subst h; rfl
  | w :: ws, _, h => by
    cases w <;> simp only [toInts] at h <;> first | (cases h; done) | skip
    obtain ⟨ns, e, rfl⟩ := Option.map_eq_some_iff.mp h
    rw [toInts_spec e]; rfl
theorem toBls_spec : ∀ {ws : List W} {ns : List Bool}, toBls ws = some ns → ws = ns.map .bl
  | [], _, h => by simp [toBls] at h; subst h; rfl
  | w :: ws, _, h => by
    cases w <;> simp only [toBls] at h <;> first | (cases h; done) | skip
    obtain ⟨ns, e, rfl⟩ := Option.map_eq_some_iff.mp h
    rw [toBls_spec e]; rfl
end
theorem insI_perm (x : Int) : ∀ l, (insI x l).Perm (x :: l)
  | [] => .refl _
  | y :: ys => by
    unfold insI
    split
    · exact .refl _
    · exact (List.Perm.cons y (insI_perm x ys)).trans (List.Perm.swap x y ys)
theorem sortI_perm : ∀ l, (sortI l).Perm l
  | [] => .refl _
  | x :: xs => (insI_perm x (sortI xs)).trans (.cons x (sortI_perm xs))
theorem insI_sorted (x : Int) : ∀ {l}, l.Pairwise (· ≤ ·) → (insI x l).Pairwise (· ≤ ·)
  | [], _ => by simp [insI]
  | y :: ys, h => by
    unfold insI
    split
    · rename_i hxy
      refine .cons (fun z hz => ?_) h
      rcases List.mem_cons.mp hz with rfl | hz
      · exact hxy
      · exact Int.le_trans hxy ((List.pairwise_cons.mp h).1 z hz)
    · rename_i hxy
      refine .cons (fun z hz => ?_) (insI_sorted x (List.pairwise_cons.mp h).2)
      rcases List.mem_cons.mp ((insI_perm x ys).mem_iff.mp hz) with rfl | hz
      · omega
      · exact (List.pairwise_cons.mp h).1 z hz
theorem sortI_sorted : ∀ l, (sortI l).Pairwise (· ≤ ·)
  | [] => .nil
  | x :: xs => insI_sorted x (sortI_sorted xs)
theorem sorted_uniq : ∀ {l m : List Int}, l.Perm m → l.Pairwise (· ≤ ·) → m.Pairwise (· ≤ ·) → l = m
  | [], m, p, _, _ => by rw [List.nil_perm.mp p]
  | x :: xs, [], p, _, _ => by simpa using p.length_eq
  | x :: xs, y :: ys, p, h1, h2 => by
    have e : x = y := by
      have a : x ∈ y :: ys := p.mem_iff.mp (List.mem_cons_self ..)
      have b : y ∈ x :: xs := p.mem_iff.mpr (List.mem_cons_self ..)
      have a2 : y ≤ x := by
        rcases List.mem_cons.mp a with e | a
        · omega
        · exact (List.pairwise_cons.mp h2).1 x a
      have b2 : x ≤ y := by
        rcases List.mem_cons.mp b with e | b
        · omega
        · exact (List.pairwise_cons.mp h1).1 y b
      omega
    subst e
    rw [sorted_uniq ((List.perm_cons x).mp p) (List.pairwise_cons.mp h1).2 (List.pairwise_cons.mp h2).2]
def bfName : Bf → String
  | .len => "len" | .int => "int" | .abs => "abs" | .tuple => "tuple" | .list => "list" | .listm => "list" | .sorted => "sorted" | .sum => "sum"
  | .min1 => "min" | .max1 => "max" | .min2 => "min" | .max2 => "max" | .any => "any" | .all => "all" | .str => "str" | .divmod => "divmod"
def bfTy : Bf → Bool
  | .int => true | .tuple => true | .list => true | .listm => true | .str => true | _ => false
def bfVal (f : Bf) : Value := if bfTy f then .type (bfName f) else .builtin (bfName f)
section
variable {X : Cx} {g : Gw}
theorem f1_of {G : Gh} {H : Hp} {ws : List W} {xs : List V} {f : W → R W} {Q : VK} {E : XK} (r : RVs g G H ws xs) (h : PostG g (RV g) G H (f1 ws f) Q E) : ∃ w x, xs = [x] ∧ RV g G H w x ∧ PostG g (RV g) G H (f w) Q E := by
  unfold f1 at h
  split at h
  · obtain ⟨x, rfl, a⟩ := rvs1 r
    exact ⟨_, x, rfl, a, h⟩
  · exact h.elim
theorem f2_of {G : Gh} {H : Hp} {ws : List W} {xs : List V} {f : W → W → R W} {Q : VK} {E : XK} (r : RVs g G H ws xs) (h : PostG g (RV g) G H (f2 ws f) Q E) : ∃ w u x y, xs = [x, y] ∧ RV g G H w x ∧ RV g G H u y ∧ PostG g (RV g) G H (f w u) Q E := by
  unfold f2 at h
  split at h
  · obtain ⟨x, y, rfl, a, b⟩ := rvs2 r
    exact ⟨_, _, x, y, rfl, a, b, h⟩
  · exact h.elim
theorem seq_or {G : Gh} {H : Hp} {lh : LH} {w : W} {ws : List W} {v : V} (hK : X.K = g.K) (rp : Rep g G lh H) (rv : RV g G H w v) (e : seqOf lh w = some ws) : ∃ p xs, v = .ref p ∧ (SqL X.K H p xs ∨ SqT X.K H p xs) ∧ RVs g G H ws xs := by
  obtain ⟨p, xs, rfl, hq, rs⟩ := seqOf_spec rp rv e
  refine ⟨p, xs, rfl, ?_, rs⟩
  rw [hK]
  rcases hq with ⟨_, q⟩ | ⟨_, q⟩
  · exact .inl q
  · exact .inr q
theorem ca_len (hK : X.K = g.K) : CallR X (.builtin "len") (rCa g (evF .len)) := by
  intro pins s σ H xs us Q I r h
  obtain ⟨G, lh, ws, E, rp, rs, h⟩ := h
  obtain ⟨w, x, rfl, rx, h⟩ := f1_of rs (show PostG g (RV g) G H (f1 ws (lenW lh)) Q E from h)
  unfold lenW at h
  split at h
  · split at h
    · rename_i hl
      rw [rx.str_eq] at r
      refine call_len_str pins s σ H _ us Q I r ⟨_, rfl, by rw [str_len]; exact big_line hl, ?_⟩
      rw [str_len]
      exact h.here rp rv_int
    · exact h.elim
  · split at h
    · rename_i ys hy
      obtain ⟨p, xs, rfl, hq, rs⟩ := seq_or hK rp rx hy
      refine call_len_seq pins s σ H _ us Q I r ⟨p, xs, rfl, hq, ?_⟩
      rw [← rs.length]
      exact h.here rp rv_int
    · exact h.elim
theorem ca_int : CallR X (.type "int") (rCa g (evF .int)) := by
  intro pins s σ H xs us Q I r h
  obtain ⟨G, lh, ws, E, rp, rs, h⟩ := h
  obtain ⟨w, x, rfl, rx, h⟩ := f1_of rs (show PostG g (RV g) G H (f1 ws (intW lh)) Q E from h)
  unfold intW at h
  split at h
  · rw [rx.int_eq] at r
    exact call_int1 pins s σ H _ us Q I r (.inl ⟨_, rfl, h.here rp rv_int⟩)
  · rw [rx.bl_eq] at r
    exact call_int1 pins s σ H _ us Q I r (.inr ⟨_, rfl, h.here rp rv_int⟩)
  · exact h.elim
theorem ca_abs : CallR X (.builtin "abs") (rCa g (evF .abs)) := by
  intro pins s σ H xs us Q I r h
  obtain ⟨G, lh, ws, E, rp, rs, h⟩ := h
  obtain ⟨w, x, rfl, rx, h⟩ := f1_of rs (show PostG g (RV g) G H (f1 ws (absW lh)) Q E from h)
  unfold absW at h
  split at h
  · rw [rx.int_eq] at r
    exact call_abs pins s σ H _ us Q I r ⟨_, rfl, h.here rp rv_int⟩
  · exact h.elim
theorem ca_tuple (hK : X.K = g.K) : CallR X (.type "tuple") (rCa g (evF .tuple)) := by
  intro pins s σ H xs us Q I r h
  obtain ⟨G, lh, ws, E, rp, rs, h⟩ := h
  obtain ⟨w, x, rfl, rx, h⟩ := f1_of rs (show PostG g (RV g) G H (f1 ws (tupW lh)) Q E from h)
  unfold tupW at h
  split at h
  · rename_i ys hy
    obtain ⟨p, xs, rfl, hq, rs⟩ := seqOf_spec rp rx hy
    refine call_tuple_of pins s σ H _ us Q I r ⟨p, xs, rfl, ?_⟩
    rw [hK]
    rcases hq with ⟨_, q⟩ | ⟨_, q⟩
    · exact .inl ⟨q, fun l hl => post_tup rp rs h hl⟩
    · exact .inr ⟨q, h.here rp (rv_tup q rs)⟩
  · exact h.elim
theorem ca_list (hK : X.K = g.K) : CallR X (.type "list") (rCa g (evF .list)) := by
  intro pins s σ H xs us Q I r h
  obtain ⟨G, lh, ws, E, rp, rs, h⟩ := h
  obtain ⟨w, x, rfl, rx, h⟩ := f1_of rs (show PostG g (RV g) G H (f1 ws (listW lh)) Q E from h)
  unfold listW at h
  split at h
  · rename_i ys hy
    obtain ⟨p, xs, rfl, hq, rs⟩ := seq_or hK rp rx hy
    exact call_list_of pins s σ H _ us Q I r ⟨p, xs, rfl, hq, fun l hl => post_fl rp rs h hl⟩
  · exact h.elim
theorem ca_listm (hK : X.K = g.K) : CallR X (.type "list") (rCa g (evF .listm)) := by
  intro pins s σ H xs us Q I r h
  obtain ⟨G, lh, ws, E, rp, rs, h⟩ := h
  obtain ⟨w, x, rfl, rx, h⟩ := f1_of rs (show PostG g (RV g) G H (f1 ws (listmW lh)) Q E from h)
  unfold listmW at h
  split at h
  · rename_i ys hy
    obtain ⟨p, xs, rfl, hq, rs⟩ := seq_or hK rp rx hy
    exact call_list_of pins s σ H _ us Q I r ⟨p, xs, rfl, hq, fun l hl => post_ref rp rs h hl⟩
  · exact h.elim
theorem ca_sum (hK : X.K = g.K) (hc : X.calm = true) : CallR X (.builtin "sum") (rCa g (evF .sum)) := by
  intro pins s σ H xs us Q I r h
  obtain ⟨G, lh, ws, E, rp, rs, h⟩ := h
  obtain ⟨w, x, rfl, rx, h⟩ := f1_of rs (show PostG g (RV g) G H (f1 ws (sumW lh)) Q E from h)
  unfold sumW at h
  split at h
  · rename_i ns hy
    obtain ⟨ys, hy, hn⟩ := Option.bind_eq_some_iff.mp hy
    have e := toInts_spec hn
    subst e
    obtain ⟨p, xs, rfl, hq, rs⟩ := lstOf_spec rp rx hy
    have e2 := rs.ints
    subst e2
    exact cr_sum hc pins s σ H _ us Q I r ⟨p, ns, rfl, by rw [hK]; exact hq, h.here rp rv_int⟩
  · exact h.elim
theorem ca_any (hK : X.K = g.K) (hc : X.calm = true) : CallR X (.builtin "any") (rCa g (evF .any)) := by
  intro pins s σ H xs us Q I r h
  obtain ⟨G, lh, ws, E, rp, rs, h⟩ := h
  obtain ⟨w, x, rfl, rx, h⟩ := f1_of rs (show PostG g (RV g) G H (f1 ws (anyW lh)) Q E from h)
  unfold anyW at h
  split at h
  · rename_i ns hy
    obtain ⟨ys, hy, hn⟩ := Option.bind_eq_some_iff.mp hy
    have e := toBls_spec hn
    subst e
    obtain ⟨p, xs, rfl, hq, rs⟩ := lstOf_spec rp rx hy
    have e2 := rs.bls
    subst e2
    exact cr_any hc pins s σ H _ us Q I r ⟨p, ns, rfl, by rw [hK]; exact hq, h.here rp rv_bl⟩
  · exact h.elim
theorem ca_all (hK : X.K = g.K) (hc : X.calm = true) : CallR X (.builtin "all") (rCa g (evF .all)) := by
  intro pins s σ H xs us Q I r h
  obtain ⟨G, lh, ws, E, rp, rs, h⟩ := h
  obtain ⟨w, x, rfl, rx, h⟩ := f1_of rs (show PostG g (RV g) G H (f1 ws (allW lh)) Q E from h)
  unfold allW at h
  split at h
  · rename_i ns hy
    obtain ⟨ys, hy, hn⟩ := Option.bind_eq_some_iff.mp hy
    have e := toBls_spec hn
    subst e
    obtain ⟨p, xs, rfl, hq, rs⟩ := lstOf_spec rp rx hy
    have e2 := rs.bls
    subst e2
    exact cr_all hc pins s σ H _ us Q I r ⟨p, ns, rfl, by rw [hK]; exact hq, h.here rp rv_bl⟩
  · exact h.elim
/-! pairs of ints, sorted -/
theorem lePr_iff {p q : Int × Int} : lePr p q = true ↔ p.1 < q.1 ∨ (p.1 = q.1 ∧ p.2 ≤ q.2) := by
  unfold lePr
  rw [Bool.or_eq_true, Bool.and_eq_true, decide_eq_true_eq, decide_eq_true_eq, decide_eq_true_eq]
theorem insP_perm (x : Int × Int) : ∀ l, (insP x l).Perm (x :: l)
  | [] => .refl _
  | y :: ys => by
    unfold insP
    split
    · exact .refl _
    · exact ((insP_perm x ys).cons y).trans (.swap ..)
theorem sortP_perm : ∀ l, (sortP l).Perm l
  | [] => .refl _
  | x :: xs => (insP_perm x (sortP xs)).trans (.cons x (sortP_perm xs))
theorem lePr_trans {p q r : Int × Int} (a : lePr p q = true) (b : lePr q r = true) : lePr p r = true := by
  rw [lePr_iff] at a b ⊢; omega
theorem lePr_total {p q : Int × Int} (a : ¬ lePr p q = true) : lePr q p = true := by
  rw [lePr_iff] at a ⊢; omega
theorem lePr_anti {p q : Int × Int} (a : lePr p q = true) (b : lePr q p = true) : p = q := by
  rw [lePr_iff] at a b
  obtain ⟨p1, p2⟩ := p
  obtain ⟨q1, q2⟩ := q
  simp only [Prod.mk.injEq] at a b ⊢
  omega
theorem insP_sorted (x : Int × Int) : ∀ {l}, l.Pairwise (fun p q => lePr p q = true) → (insP x l).Pairwise (fun p q => lePr p q = true)
  | [], _ => by simp [insP]
  | y :: ys, h => by
    unfold insP
    obtain ⟨h1, h2⟩ := List.pairwise_cons.mp h
    split
    · rename_i hle
      refine .cons (fun z hz => ?_) h
      rcases List.mem_cons.mp hz with rfl | hz
      · exact hle
      · exact lePr_trans hle (h1 z hz)
    · rename_i hle
      refine .cons (fun z hz => ?_) (insP_sorted x h2)
      rcases List.mem_cons.mp ((insP_perm x ys).mem_iff.mp hz) with rfl | hz
      · exact lePr_total hle
      · exact h1 z hz
theorem sortP_sorted : ∀ l, (sortP l).Pairwise (fun p q => lePr p q = true)
  | [] => .nil
  | x :: xs => insP_sorted x (sortP_sorted xs)
theorem sortedP_uniq : ∀ {l m : List (Int × Int)}, l.Perm m → l.Pairwise (fun p q => lePr p q = true) → m.Pairwise (fun p q => lePr p q = true) → l = m
  | [], m, p, _, _ => (List.Perm.nil_eq p)
  | x :: xs, [], p, _, _ => by have := p.length_eq; simp at this
  | x :: xs, y :: ys, p, h1, h2 => by
    obtain ⟨a1, a2⟩ := List.pairwise_cons.mp h1
    obtain ⟨b1, b2⟩ := List.pairwise_cons.mp h2
    have e : x = y := by
      rcases List.mem_cons.mp (p.mem_iff.mp (List.mem_cons_self (a := x) (l := xs))) with e | hx
      · exact e
      · rcases List.mem_cons.mp (p.mem_iff.mpr (List.mem_cons_self (a := y) (l := ys))) with e | hy
        · exact e.symm
        · exact lePr_anti (a1 y hy) (b1 x hx)
    subst e
    rw [sortedP_uniq ((List.perm_cons x).mp p) a2 b2]
theorem toPrs_spec : ∀ {ws : List W} {ps : List (Int × Int)}, toPrs ws = some ps → ws = ps.map prW
  | [], ps, h => by cases h; rfl
  | w :: ws, ps, h => by
    unfold toPrs at h
    split at h
    · rename_i e; cases e
    · rename_i i j r e
      cases e
      obtain ⟨qs, h1, rfl⟩ := Option.map_eq_some_iff.mp h
      rw [toPrs_spec h1]; rfl
    · cases h
/-- a pair's ints in the heap -/
def pkH (h : Heap) : Value → Int × Int
  | .ref p => (match h.get? p with
    | some o => (match o.data with
      | .seq its _ => (match its.toList with
        | [.int a _, .int b _] => (a, b)
        | _ => (0, 0))
      | _ => (0, 0))
    | none => (0, 0))
  | _ => (0, 0)
theorem RVs.of_map {α : Type} {f : α → W} {b : α → V} : ∀ {l : List α}, (∀ v ∈ l, RV g G H (f v) (b v)) → RVs g G H (l.map f) (l.map b)
  | [], _ => RVs.nil
  | v :: l, h => RVs.cons (h v List.mem_cons_self) (RVs.of_map fun u hu => h u (List.mem_cons_of_mem _ hu))
theorem pr_one {pins : List (Addr × Obj)} {σ : L2.St} {s : Shared} (hK : X.K = g.K) (I : Inv X pins σ H s) {p : Int × Int} {x : V} {v : Value} (r : RV g G H (prW p) x) (q : RelV x v) :
    pkH s.heap v = p ∧ ∃ t, v = .ref t ∧ Srt.IsPair s.heap v p.1 p.2 ∧ backV v = V.ref t ∧ x = V.ref t := by
  unfold prW RV at r
  obtain ⟨t, xs, rfl, hs, rr⟩ := r
  have e : xs = [V.int p.1, V.int p.2] := RVs.ints (ns := [p.1, p.2]) rr
  subst e
  obtain rfl : v = Value.ref t := q
  obtain ⟨its, r2, ⟨o, ho, hc, n, hd⟩, _⟩ := I.tuple (by rw [hK]; exact hs)
  obtain ⟨u1, u2, rfl, ri, rj⟩ := vals2 r2
  obtain ⟨t1, rfl⟩ := ri
  obtain ⟨t2, rfl⟩ := rj
  refine ⟨?_, t, rfl, ⟨t, o, t1, t2, n, rfl, ho, hc, hd⟩, rfl, rfl⟩
  unfold pkH
  simp only [ho, hd]
theorem pr_all {pins : List (Addr × Obj)} {σ : L2.St} {s : Shared} (hK : X.K = g.K) (I : Inv X pins σ H s) : ∀ {ps : List (Int × Int)} {xs : List V} {its : List Value}, RVs g G H (ps.map prW) xs → Vals xs its →
    its.map (pkH s.heap) = ps ∧ ∀ v ∈ its, ∃ t, v = Value.ref t ∧ Srt.IsPair s.heap v (pkH s.heap v).1 (pkH s.heap v).2 ∧ RV g G H (prW (pkH s.heap v)) (backV v)
  | [], xs, its, r, q => by
    unfold RVs at r
    have e : xs = [] := r
    subst e
    cases q
    exact ⟨rfl, fun v h => nomatch h⟩
  | p :: ps, xs, its, r, q => by
    rw [List.map_cons] at r
    unfold RVs at r
    obtain ⟨x, ys, rfl, r1, r2⟩ := r
    cases q with
    | cons q1 q2 =>
    rename_i v vs
    obtain ⟨e1, t, ev, ip, eb, ex⟩ := pr_one hK I r1 q1
    obtain ⟨i1, i2⟩ := pr_all hK I r2 q2
    refine ⟨by rw [List.map_cons, e1, i1], fun u hu => ?_⟩
    rcases List.mem_cons.mp hu with rfl | hu
    · refine ⟨t, ev, by rw [e1]; exact ip, ?_⟩
      rw [e1, eb, ← ex]; exact r1
    · exact i2 u hu
theorem toIss_spec : ∀ {ws : List W} {L : List (List Int)}, toIss ws = some L → ws = L.map isW
  | [], L, h => by
    unfold toIss at h
    cases h; rfl
  | w :: ws, L, h => by
    unfold toIss at h
    split at h
    · rename_i e; cases e
    · rename_i xs r e
      cases e
      obtain ⟨ns, h1, h2⟩ := Option.bind_eq_some_iff.mp h
      obtain ⟨L2, h3, rfl⟩ := Option.map_eq_some_iff.mp h2
      rw [toIss_spec h3, toInts_spec h1]; rfl
    · cases h
theorem dats_ints {lh : LH} : ∀ ns : List Int, List.mapM (dat lh 1) (ns.map W.int) = some (ns.map PyData.int)
  | [] => rfl
  | n :: ns => by
    rw [List.map_cons, List.mapM_cons, dats_ints ns]
    rfl
/-- a list of ints in the heap, read as data -/
def IsO (g : Gw) (G : Gh) (H : Hp) (h : Heap) (v : Value) (ns : List Int) : Prop := (∃ as, Reads h v (encL ns) as) ∧ (∃ t, v = Value.ref t) ∧ RV g G H (isW ns) (backV v)
theorem is_all {pins : List (Addr × Obj)} {σ : L2.St} {s : Shared} {lh : LH} (hK : X.K = g.K) (rp : Rep g G lh H) (I : Inv X pins σ H s) : ∀ {L : List (List Int)} {xs : List V} {its : List Value}, RVs g G H (L.map isW) xs → Vals xs its →
    PySem.W.EachIs (IsO g G H s.heap) its L
  | [], xs, its, r, q => by
    unfold RVs at r
    have e : xs = [] := r
    subst e
    cases q
    exact .nil
  | ns :: L, xs, its, r, q => by
    rw [List.map_cons] at r
    unfold RVs at r
    obtain ⟨x, ys, rfl, r1, r2⟩ := r
    cases q with
    | cons q1 q2 =>
    rename_i v vs
    have d := dat_dp rp 2 (isW ns) x (encL ns) r1 (by unfold isW encL; rw [dat, dats_ints]; rfl)
    obtain ⟨as, ra⟩ := Dp.reads I (encL ns) x v (by rw [hK]; exact d) q1
    have r3 := r1
    unfold isW RV at r3
    obtain ⟨t, zs, e, _⟩ := r3
    subst e
    obtain rfl : v = Value.ref t := q1
    exact .cons ⟨⟨as, ra⟩, ⟨t, rfl⟩, r1⟩ (is_all hK rp I r2 q2)
theorem is_out {h : Heap} : ∀ {out : List Value} {L : List (List Int)}, PySem.W.EachIs (IsO g G H h) out L → RVs g G H (L.map isW) (out.map backV) ∧ ∀ v ∈ out, ∃ a, v = Value.ref a
  | _, _, .nil => ⟨RVs.nil, fun v h => nomatch h⟩
  | _, _, .cons a b => by
    obtain ⟨i1, i2⟩ := is_out b
    exact ⟨RVs.cons a.2.2 i1, fun v hv => by
      rcases List.mem_cons.mp hv with rfl | hv
      · exact a.2.1
      · exact i2 v hv⟩
theorem alike_L (a b : List Int) : PySem.W.alike (encL a) (encL b) = true := by
  unfold encL
  rw [PySem.W.alike]
  exact PySem.W.alike_ints a b
theorem depth_L (a : List Int) : (encL a).depth ≤ 1 := by
  unfold encL
  rw [PyData.depth]
  have : ∀ a : List Int, PyData.depthAll (a.map .int) = 0 := fun a => by
    induction a with
    | nil => simp [PyData.depthAll]
    | cons x a ih => rw [List.map_cons, PyData.depthAll, ih]; simp [PyData.depth]
  rw [this]
  exact Nat.le_refl _
theorem ca_sorted (hK : X.K = g.K) (hu : X.A.units + 64 < cLine) : CallR X (.builtin "sorted") (rCa g (evF .sorted)) := by
  intro pins s σ H xs us Q I r h
  obtain ⟨G, lh, ws, E, rp, rs, h⟩ := h
  obtain ⟨w, x, rfl, rx, h⟩ := f1_of rs (show PostG g (RV g) G H (f1 ws (sortW lh)) Q E from h)
  unfold sortW at h
  split at h
  · rename_i ns hy
    obtain ⟨ys, hy, hn⟩ := Option.bind_eq_some_iff.mp hy
    have e := toInts_spec hn
    subst e
    obtain ⟨p, xs, rfl, hq, rs⟩ := lstOf_spec rp rx hy
    have e2 := rs.ints
    subst e2
    refine cr_sortedI pins s σ H _ us Q I r ⟨p, ns, rfl, by rw [hK]; exact hq, fun ns' q pm st hq => ?_⟩
    have : ns' = sortI ns := sorted_uniq (pm.trans (sortI_perm ns).symm) st (sortI_sorted ns)
    subst this
    exact post_fl rp (RVs.of_ints _) h hq
  · split at h
    case h_2 =>
      split at h
      case h_2 => exact h.elim
      rename_i L hy
      obtain ⟨ys, hy, hn⟩ := Option.bind_eq_some_iff.mp hy
      have e := toIss_spec hn
      subst e
      obtain ⟨p, xs, rfl, hq, rs⟩ := lstOf_spec rp rx hy
      rw [← hK] at hq
      obtain ⟨its, rv, hl, hz⟩ := I.list hq
      rw [Vals.ref1 r]
      have ea := is_all hK rp I rs rv
      refine PySem.W.sorted_data (enc := encL) hl.isList ea (ea.mono fun _ _ z => z.1) (PySem.W.AllAlike.of alike_L) (PySem.W.Sortable.others (enc := encL) fun b => ⟨(fun z => by unfold encL at z; cases z), (fun xs z => by unfold encL at z; cases z)⟩) (by rw [← ea.length, ← rv.length]; exact hz) (fun b _ => by have := depth_L b; omega) fun out ho eo => ?_
      obtain ⟨o1, o2⟩ := is_out eo
      obtain ⟨n, hn⟩ := PyProof.Rows.sortedAll_at s.heap its out.toArray
      have hlen : (out.map backV).length ≤ sizeLine := by
        rw [List.length_map, ho, ← ea.length, ← rv.length]
        exact hz
      exact ⟨.ref _, upd H _ (.lst (out.map backV)), I.laid (t' := s.toks) (fun _ _ => PyProof.Rows.sortedAll_old) (Nat.le_succ _) ⟨hlen, out, n, vals_back o2, hn⟩, rfl, post_fl rp o1 h (I.hok.fresh (Nat.le_succ _))⟩
    rename_i ps hy
    obtain ⟨ys, hy, hn⟩ := Option.bind_eq_some_iff.mp hy
    have e := toPrs_spec hn
    subst e
    obtain ⟨p, xs, rfl, hq, rs⟩ := lstOf_spec rp rx hy
    rw [← hK] at hq
    obtain ⟨its, rv, hl, hz⟩ := I.list hq
    rw [Vals.ref1 r]
    obtain ⟨a1, a2⟩ := pr_all hK I rs rv
    refine SrtO.sorted_pairsO (k := pkH s.heap) hl.isList (by rw [← rv.length]; exact hz) (fun v hv => by obtain ⟨t, e, ip, _⟩ := a2 v hv; exact ip) fun h' d out h1 h2 kp hd hn => ?_
    have h3 : ∀ u ∈ out, ∃ a, u = Value.ref a := fun u hu => by
      obtain ⟨t, e, _⟩ := a2 u (h2.perm.mem_iff.mp hu)
      exact ⟨t, e⟩
    obtain ⟨n, hn⟩ := hn
    have e1 : out.map (pkH s.heap) = sortP ps := by
      refine sortedP_uniq (((h2.perm.map _).trans (by rw [a1])).trans (sortP_perm ps).symm) ?_ (sortP_sorted ps)
      refine List.pairwise_map.mpr (h1.imp fun {x y} h => ?_)
      have z := SrtO.lexB_no.mp h
      rw [lePr_iff]
      omega
    have hlen : (out.map backV).length ≤ sizeLine := by
      rw [List.length_map, h2.len, ← rv.length]
      exact hz
    refine ⟨.ref d, upd H d (.lst (out.map backV)), I.laid (t' := s.toks) kp hd ⟨hlen, out, n, vals_back h3, hn⟩, rfl, post_fl rp ?_ h (I.hok.fresh hd)⟩
    rw [← e1, List.map_map]
    exact RVs.of_map fun v hv => by
      obtain ⟨_, _, _, z⟩ := a2 v (h2.perm.mem_iff.mp hv)
      exact z
theorem ca_min2 (hc : X.calm = true) : CallR X (.builtin "min") (rCa g (evF .min2)) := by
  intro pins s σ H xs us Q I r h
  obtain ⟨G, lh, ws, E, rp, rs, h⟩ := h
  obtain ⟨w, u, x, y, rfl, rx, ry, h⟩ := f2_of rs (show PostG g (RV g) G H (f2 ws (min2W lh)) Q E from h)
  unfold min2W at h
  obtain ⟨i, j, rfl, rfl, h⟩ := i2_of rx ry h
  exact call_min2 hc pins s σ H _ us Q I r ⟨i, j, rfl, h.here rp rv_int⟩
theorem ca_max2 (hc : X.calm = true) : CallR X (.builtin "max") (rCa g (evF .max2)) := by
  intro pins s σ H xs us Q I r h
  obtain ⟨G, lh, ws, E, rp, rs, h⟩ := h
  obtain ⟨w, u, x, y, rfl, rx, ry, h⟩ := f2_of rs (show PostG g (RV g) G H (f2 ws (max2W lh)) Q E from h)
  unfold max2W at h
  obtain ⟨i, j, rfl, rfl, h⟩ := i2_of rx ry h
  exact call_max2 hc pins s σ H _ us Q I r ⟨i, j, rfl, h.here rp rv_int⟩
theorem minI_spec : ∀ {xs : List Int} {x m : Int}, xs.foldl (fun a b => if b < a then b else a) x = m → m ∈ x :: xs ∧ ∀ y ∈ x :: xs, m ≤ y
  | [], x, m, e => by subst e; simp
  | z :: xs, x, m, e => by
    rw [List.foldl_cons] at e
    obtain ⟨h1, h2⟩ := minI_spec e
    have h3 := h2 _ (List.mem_cons_self ..)
    refine ⟨?_, fun y hy => ?_⟩
    · rcases List.mem_cons.mp h1 with h | h
      · split at h
        · rw [h]; simp
        · rw [h]; simp
      · exact List.mem_cons_of_mem _ (List.mem_cons_of_mem _ h)
    · rcases List.mem_cons.mp hy with rfl | hy
      · split at h3 <;> omega
      · rcases List.mem_cons.mp hy with rfl | hy
        · split at h3 <;> omega
        · exact h2 y (List.mem_cons_of_mem _ hy)
theorem maxI_spec : ∀ {xs : List Int} {x m : Int}, xs.foldl (fun a b => if a < b then b else a) x = m → m ∈ x :: xs ∧ ∀ y ∈ x :: xs, y ≤ m
  | [], x, m, e => by subst e; simp
  | z :: xs, x, m, e => by
    rw [List.foldl_cons] at e
    obtain ⟨h1, h2⟩ := maxI_spec e
    have h3 := h2 _ (List.mem_cons_self ..)
    refine ⟨?_, fun y hy => ?_⟩
    · rcases List.mem_cons.mp h1 with h | h
      · split at h
        · rw [h]; simp
        · rw [h]; simp
      · exact List.mem_cons_of_mem _ (List.mem_cons_of_mem _ h)
    · rcases List.mem_cons.mp hy with rfl | hy
      · split at h3 <;> omega
      · rcases List.mem_cons.mp hy with rfl | hy
        · split at h3 <;> omega
        · exact h2 y (List.mem_cons_of_mem _ hy)
theorem ca_min1 (hK : X.K = g.K) (hc : X.calm = true) : CallR X (.builtin "min") (rCa g (evF .min1)) := by
  intro pins s σ H xs us Q I r h
  obtain ⟨G, lh, ws, E, rp, rs, h⟩ := h
  obtain ⟨w, x, rfl, rx, h⟩ := f1_of rs (show PostG g (RV g) G H (f1 ws (min1W lh)) Q E from h)
  unfold min1W at h
  split at h
  · rename_i m e
    obtain ⟨ns, e1, e2⟩ := Option.bind_eq_some_iff.mp e
    obtain ⟨zs, e3, e4⟩ := Option.bind_eq_some_iff.mp e1
    obtain ⟨p, ys, rfl, hq, rs⟩ := lstOf_spec rp rx e3
    have ez := toInts_spec e4
    subst ez
    have ey := RVs.ints rs
    subst ey
    cases ns with
    | nil => cases e2
    | cons n ns =>
      obtain ⟨m1, m2⟩ := minI_spec (Option.some.inj e2)
      refine cr_min hc pins s σ H _ us Q I r ⟨p, n :: ns, rfl, by rw [hK]; exact hq, by simp, fun m' h1 h2 => ?_⟩
      have : m' = m := by
        have a := h2 m m1
        have b := m2 m' h1
        omega
      subst this
      exact h.here rp rv_int
  · exact h.elim
theorem ca_max1 (hK : X.K = g.K) (hc : X.calm = true) : CallR X (.builtin "max") (rCa g (evF .max1)) := by
  intro pins s σ H xs us Q I r h
  obtain ⟨G, lh, ws, E, rp, rs, h⟩ := h
  obtain ⟨w, x, rfl, rx, h⟩ := f1_of rs (show PostG g (RV g) G H (f1 ws (max1W lh)) Q E from h)
  unfold max1W at h
  split at h
  · rename_i m e
    obtain ⟨ns, e1, e2⟩ := Option.bind_eq_some_iff.mp e
    obtain ⟨zs, e3, e4⟩ := Option.bind_eq_some_iff.mp e1
    obtain ⟨p, ys, rfl, hq, rs⟩ := lstOf_spec rp rx e3
    have ez := toInts_spec e4
    subst ez
    have ey := RVs.ints rs
    subst ey
    cases ns with
    | nil => cases e2
    | cons n ns =>
      obtain ⟨m1, m2⟩ := maxI_spec (Option.some.inj e2)
      refine cr_max hc pins s σ H _ us Q I r ⟨p, n :: ns, rfl, by rw [hK]; exact hq, by simp, fun m' h1 h2 => ?_⟩
      have : m' = m := by
        have a := h2 m m1
        have b := m2 m' h1
        omega
      subst this
      exact h.here rp rv_int
  · exact h.elim
theorem ca_divmod : CallR X (.builtin "divmod") (rCa g (evF .divmod)) := by
  intro pins s σ H xs us Q I r h
  obtain ⟨G, lh, ws, E, rp, rs, h⟩ := h
  obtain ⟨w, u, x, y, rfl, rx, ry, h⟩ := f2_of rs (show PostG g (RV g) G H (f2 ws (divmodW lh)) Q E from h)
  unfold divmodW at h
  obtain ⟨i, j, rfl, rfl, h⟩ := i2_of rx ry h
  split at h
  · rename_i hq
    exact call_divmod pins s σ H _ us Q I r ⟨i, j, rfl, hq, fun p hp => post_tup rp (RVs.cons rv_int (RVs.cons rv_int RVs.nil)) h hp⟩
  · exact h.elim
theorem ca_no {f : Bf} {v : Value} (hf : ∀ ws lh, evF f ws lh = .no) : CallR X v (rCa g (evF f)) := by
  intro pins s σ H xs us Q I r h
  obtain ⟨G, lh, ws, E, rp, rs, h⟩ := h
  rw [hf] at h
  exact h.elim
theorem ca_all_of (hK : X.K = g.K) (hc : X.calm = true) (hu : X.A.units + 64 < cLine) (f : Bf) : CallR X (bfVal f) (rCa g (evF f)) := by
  cases f
  · exact ca_len hK
  · exact ca_int
  · exact ca_abs
  · exact ca_tuple hK
  · exact ca_list hK
  · exact ca_listm hK
  · exact ca_sorted hK hu
  · exact ca_sum hK hc
  · exact ca_min1 hK hc
  · exact ca_max1 hK hc
  · exact ca_min2 hc
  · exact ca_max2 hc
  · exact ca_any hK hc
  · exact ca_all hK hc
  · exact ca_no fun _ _ => rfl
  · exact ca_divmod
/-! ### subscripts, slices -/
theorem ixn_eq (n : Nat) (i : Int) : ixn n i = L2.ixN n i := rfl
theorem ix_str_of {s : String} {k : Int} {c : Char} (e : ix s.toList k = some c) : atI (Str.ofString s).cps.toList k = some c.toNat := by
  have e2 : (Str.ofString s).cps.toList = s.toList.map Char.toNat := by
    rw [PySem.Str.ofString_eq_toList]
  rw [e2]
  unfold ix at e
  unfold atI
  rw [List.length_map]
  obtain ⟨j, h1, h2⟩ := Option.bind_eq_some_iff.mp e
  rw [ixn_eq] at h1
  rw [h1]
  show (s.toList.map Char.toNat)[j]? = some c.toNat
  rw [List.getElem?_map, h2]; rfl
theorem str_one (c : Char) : Str.ofString (String.ofList [c]) = ⟨#[c.toNat]⟩ := by
  rw [PySem.Str.ofString_eq_toList]
  simp
theorem snd_ix (hK : X.K = g.K) : IxR X (rOp g evIx) := by
  intro value slice pins s σ H x y v u Q I rx ry h hs
  obtain ⟨G, lh, wx, wy, E, rp, r1, r2, h⟩ := h
  unfold evIx at h
  split at h
  · rename_i k
    rw [r2.int_eq] at ry
    split at h
    · rename_i z
      split at h
      · rename_i c hc
        split at h
        · rename_i hl
          rw [r1.str_eq] at rx
          refine ix_str value slice pins s σ H _ _ v u Q I rx ry ⟨_, k, c.toNat, rfl, rfl, by rw [str_len]; exact big_line hl, ix_str_of hc, h.here rp ?_⟩ hs
          unfold RV
          rw [str_one]
        · exact h.elim
      · exact h.elim
    · split at h
      · rename_i ws hw
        split at h
        · rename_i w he
          obtain ⟨p, xs, rfl, hq, rs⟩ := seqOf_spec rp r1 hw
          obtain ⟨j, h1, h2⟩ := Option.bind_eq_some_iff.mp he
          obtain ⟨z, hz, rz⟩ := rs.get h2
          have ha : atI xs k = some z := by
            unfold atI
            rw [← rs.length, ← ixn_eq, h1]
            exact hz
          rcases hq with ⟨_, q⟩ | ⟨_, q⟩
          · exact ix_list value slice pins s σ H _ _ v u Q I rx ry ⟨p, xs, k, z, rfl, rfl, by rw [hK]; exact q, ha, h.here rp rz⟩ hs
          · exact ix_tup value slice pins s σ H _ _ v u Q I rx ry ⟨p, xs, k, z, rfl, rfl, by rw [hK]; exact q, ha, h.here rp rz⟩ hs
        · exact h.elim
      · exact h.elim
  · exact h.elim
theorem clip_eq (n d : Nat) (o : Option Int) : clip n d o = HT.sIx n d o := by
  cases o with
  | none => rfl
  | some v =>
    show (if v < 0 then (v + n).toNat else min v.toNat n) = HT.sIx n d (some v)
    have h := HT.clip_eq v n d
    split at h
    · rename_i hv
      rw [if_pos hv]
      omega
    · rename_i hv
      rw [if_neg hv]
      omega
theorem cut_rel {G : Gh} {H : Hp} {ws : List W} {xs : List V} (r : RVs g G H ws xs) (lo hi : Option Int) : RVs g G H (cut ws lo hi) (cutV xs lo hi) := by
  unfold cut cutV
  rw [clip_eq, clip_eq, r.length]
  exact (r.drop _).take _
theorem cutS_of (s : String) (lo hi : Option Int) : cutS (Str.ofString s) lo hi = Str.ofString (String.ofList (cut s.toList lo hi)) := by
  have hl : (Str.ofString s).length = s.toList.length := by
    rw [Str.ofString_eq_toList]
    show ((s.toList.map Char.toNat).toArray).size = _
    simp
  unfold cutS cut
  rw [hl, clip_eq, clip_eq, Str.ofString_eq_toList, Str.ofString_eq_toList]
  simp [List.map_take, List.map_drop, -String.length_toList]
def rSl (g : Gw) : V → Option Int → Option Int → Hp → VK → Prop := fun x lo hi H Q => ∃ (G : Gh) (lh : LH) (w : W) (E : XK), Rep g G lh H ∧ RV g G H w x ∧ PostG g (RV g) G H (evSl w lo hi lh) Q E
theorem snd_sl (hK : X.K = g.K) : SlR X (rSl g) := by
  intro pins s σ H x v vl vu lo hi sl Q I rx hs pl pu h
  obtain ⟨G, lh, w, E, rp, r1, h⟩ := h
  unfold evSl at h
  split at h
  · rename_i ws
    obtain ⟨p, xs, rfl, hq, rs⟩ := r1.tup_eq
    refine sl_tupA pins s σ H _ v vl vu lo hi sl Q I rx hs pl pu ⟨p, xs, rfl, by rw [hK]; exact hq, fun hw => ?_, fun _ q hq2 => post_tup rp (cut_rel rs lo hi) h hq2⟩
    refine h.here rp (rv_tup hq ?_)
    have e : cut ws lo hi = ws := by
      unfold cut
      rw [clip_eq, clip_eq, rs.length, hw.1, hw.2, List.drop_zero, Nat.sub_zero, ← rs.length, List.take_length]
    rw [e]; exact rs
  · rename_i z
    split at h
    · rename_i hz
      rw [r1.str_eq] at rx
      refine sl_str pins s σ H _ v vl vu lo hi sl Q I rx hs pl pu ⟨_, rfl, by rw [str_len]; exact big_line hz, ?_⟩
      rw [cutS_of]
      exact h.here rp rv_str
    · exact h.elim
  · split at h
    · rename_i ws hw
      obtain ⟨p, xs, rfl, hq, rs⟩ := lstOf_spec rp r1 hw
      exact sl_list pins s σ H _ v vl vu lo hi sl Q I rx hs pl pu ⟨p, xs, rfl, by rw [hK]; exact hq, fun q hq2 => post_fl rp (cut_rel rs lo hi) h hq2⟩
    · exact h.elim
/-! ### methods of lists -/
theorem snd_append {pins : List (Addr × Obj)} {σ : L2.St} {H : Hp} {G : Gh} {lh : LH} {w u : W} {x y : V} {Q : VK} {E : XK} (rp : Rep g G lh H) (rx : RV g G H w x) (ry : RV g G H u y) (h : PostG g (RV g) G H (evLm .append w [u] lh) Q E) : rAppend x [y] H Q := by
  unfold evLm at h
  split at h
  · rename_i n
    unfold RV at rx
    obtain ⟨p, rfl, hp⟩ := rx
    split at h
    · rename_i ws hn
      dsimp only at h
      split at h
      · rename_i hl
        obtain ⟨xs, hx, rs⟩ := rp.lst hn hp
        refine ⟨p, xs, y, rfl, rfl, hx, by rw [← rs.length]; exact Nat.lt_of_lt_of_le hl (big_line (Nat.le_refl _)), ?_⟩
        have sp := rp.sep n _ p hn hp (by simp)
        have m := Mono.write (g := g) (G := G) (H := H) (p := p) (o := .lst (xs ++ [y])) hx ⟨sp.1, .inl ⟨xs, rfl⟩⟩
        obtain ⟨e, rp2⟩ := rp.write (o' := .lst (ws ++ [u])) (ho' := .lst (xs ++ [y])) hn hp (by simp) hx (.inl ⟨xs, rfl⟩) ⟨_, rfl, (rs.mono m).append (.cons (ry.mono m) .nil)⟩
        exact h.at e rp2 rv_non
      · exact h.elim
    · exact h.elim
  · exact h.elim
end
end Mp
namespace Mp
open PySem PySem.Spec PyProof.Rows L2
/-! ### the checker: own text against the model's text -/
/-- a def's arity: its parameters, its defaults -/
abbrev Ar := String → Option (Bool × Nat × Nat)
def vis (sc : Scope) (x : Str) : Bool := match sc.names.lookup x with
  | some .local => true | some .cell => true | some .free => true | _ => false
def gl (sc : Scope) (x : Str) : Bool := match sc.names.lookup x with
  | some .globalImplicit => true | _ => false
def stOk (fn : Str → Bool) (sc : Scope) (x : Str) : Bool := match sc.names.lookup x with
  | some .local => true | some .cell => fn x | _ => false
def seq (x : Str) (f : String) : Bool := decide (x = Str.ofString f)
def nst : Expr → Bool
  | .Starred _ _ => false | _ => true
def ncall0 : Expr → Bool
  | .Call (.Name _ _) [] [] _ => false | _ => true
def nslice : Expr → Bool
  | .Slice _ _ _ _ => false | _ => true
def nset : Expr → Bool
  | .Set _ _ _ => false | _ => true
def ncomp : Expr → Bool
  | .ListComp _ _ _ _ => false | .SetComp _ _ _ _ => false | .DictComp _ _ _ _ _ => false | _ => true
def isT : E → Bool
  | .cst (.bl true) => true | _ => false
def ntup : Expr → Bool
  | .Tuple _ _ _ => false | _ => true
/-- an expression whose truth is asked of its value -/
def plainT : Expr → Bool
  | .UnaryOp .Not _ _ => false | .BoolOp _ _ _ => false | .IfExp _ _ _ _ => false | .Compare _ _ _ _ => false | _ => true
def cstOk : W → Const → Bool
  | .non, .none => true
  | .bl b, .bool c => b == c
  | .int i, .int j => decide (i = j)
  | .str s, .str x => decide (x = Str.ofString s)
  | _, _ => false
def okName (x : Str) : Bool := !(x == ("__debug__" : Str)) && (!(x == ("__classdict__" : Str)) && decide (x ≠ ("__name__" : Str)))
def slotOk (N : List Str) (i : Nat) (x : Str) : Bool := decide (N[i]? = some x)
def chkNames (N : List Str) (fn : Str → Bool) (sc : Scope) : List Nat → List Expr → Bool
  | [], [] => true
  | i :: is, .Name x _ :: es => slotOk N i x && (stOk fn sc x && chkNames N fn sc is es)
  | _, _ => false
def chkTg (N : List Str) (fn : Str → Bool) (sc : Scope) : Tg → Expr → Bool
  | .one i, .Name x _ => slotOk N i x && stOk fn sc x
  | .many is, .Tuple es _ _ => chkNames N fn sc is es
  | _, _ => false
def tgIn (own : List Nat) : Tg → Bool
  | .one i => own.contains i
  | .many is => is.all own.contains
def chkTys (sc : Scope) : List Ty → List Expr → Bool
  | [], [] => true
  | t :: ts, .Name x _ :: es => tyB t && (seq x (tyName t) && (gl sc x && chkTys sc ts es))
  | _, _ => false
def lmName : Lm → String
  | .append => "append" | .pop => "pop" | .popAt => "pop" | .extend => "extend" | .index => "index" | .insert => "insert"
def arOk (ar : Ar) (f : String) (n : Nat) : Bool := match ar f with
  | some (true, np, nd) => decide (n ≤ np ∧ np - n ≤ nd)
  | _ => false
/-- an instance of the class is made with n arguments -/
def mkOk (ar : Ar) (c : String) (n : Nat) : Bool := match ar (c ++ "." ++ "__init__") with
  | some (false, np, nd) => decide (n + 1 ≤ np ∧ np - (n + 1) ≤ nd)
  | _ => false
def ownP (N : List Str) (own : List Nat) : List (Str × Nat) := own.map fun i => (N.getD i Str.empty, i)
def blkFn (scope : Scope) : Str → Bool := fun x => scope.names.lookup x == some .cell
def inOp (neg : Bool) : CmpOp := if neg then .NotIn else .In
mutual
def chkE (ar : Ar) (N : List Str) : E → (Str → Bool) → Scope → Expr → Bool
  | .var i, _, sc, .Name x _ => slotOk N i x && (vis sc x && okName x)
  | .cst w, _, _, .Constant c _ _ => cstOk w c
  | .glo x, _, sc, .Name y _ => seq y x && (gl sc y && okName y)
  | .tup es, fn, sc, .Tuple xs _ _ => decide (xs.length ≤ big) && chkA ar N es fn sc xs
  | .lst es, fn, sc, .List xs _ => decide (xs.length ≤ big) && chkA ar N es fn sc xs
  | .lstm es, fn, sc, .List xs _ => decide (xs.length ≤ big) && chkA ar N es fn sc xs
  | .bin o a b, fn, sc, .BinOp x op y _ => decide (op = toOp o) && (chkE ar N a fn sc x && chkE ar N b fn sc y)
  | .un o a, fn, sc, .UnaryOp op x _ => decide (op = toUn o) && chkE ar N a fn sc x
  | .cmp o a b, fn, sc, .Compare x [op] [y] _ => decide (op = toCmp o) && (!behindInMarks op y && (chkE ar N a fn sc x && chkE ar N b fn sc y))
  | .cmp2 o p a b c, fn, sc, .Compare x [op, op'] [y, z] _ => decide (op = toCmp o) && (decide (op' = toCmp p) && (!lastMarks [op, op'] [y, z] && (chkE ar N a fn sc x && (chkE ar N b fn sc y && chkE ar N c fn sc z))))
  | .and a b, fn, sc, .BoolOp .And [x, y] _ => chkE ar N a fn sc x && chkE ar N b fn sc y
  | .and a b, fn, sc, .BoolOp .And (x :: y :: z :: r) pos => chkE ar N a fn sc x && chkE ar N b fn sc (.BoolOp .And (y :: z :: r) pos)
  | .or a b, fn, sc, .BoolOp .Or [x, y] _ => chkE ar N a fn sc x && chkE ar N b fn sc y
  | .or a b, fn, sc, .BoolOp .Or (x :: y :: z :: r) pos => chkE ar N a fn sc x && chkE ar N b fn sc (.BoolOp .Or (y :: z :: r) pos)
  | .not a, fn, sc, .UnaryOp .Not x _ => chkE ar N a fn sc x
  | .ite c a b, fn, sc, .IfExp z x y _ => chkT ar N c fn sc z && (chkE ar N a fn sc x && chkE ar N b fn sc y)
  | .call f es, fn, sc, .Call (.Name y _) (x :: xs) [] _ => seq y f && (gl sc y && (okName y && (arOk ar f (xs.length + 1) && chkA ar N es fn sc (x :: xs))))
  | .call f .nil, fn, sc, .Call (.Name y _) [] [] _ => seq y f && (gl sc y && (okName y && arOk ar f 0))
  | .bf f es, fn, sc, .Call (.Name y _) (x :: xs) [] _ => seq y (bfName f) && (gl sc y && (okName y && chkA ar N es fn sc (x :: xs)))
  | .isi a t, fn, sc, .Call (.Name y _) [x, .Name z _] [] _ => seq y "isinstance" && (gl sc y && ((tyB t || okName z) && (seq z (tyName t) && (gl sc z && (nst x && chkE ar N a fn sc x)))))
  | .isiT a ts, fn, sc, .Call (.Name y _) [x, .Tuple zs _ _] [] _ => seq y "isinstance" && (gl sc y && (decide (ts.length ≤ 8) && (chkTys sc ts zs && (nst x && chkE ar N a fn sc x))))
  | .lm o m es, fn, sc, .Call (.Attribute x y apos) (z :: zs) [] cpos => decide (m = .append ∨ m = .popAt) && (seq y (lmName m) && (ncall0 x && ((apos.endLine == cpos.line) && (decide (zs.length < 20) && (chkE ar N o fn sc x && chkA ar N es fn sc (z :: zs))))))
  | .meth o m es, fn, sc, .Call (.Attribute x y apos) (z :: zs) [] cpos => seq y m && (ncall0 x && ((apos.endLine == cpos.line) && (decide (zs.length < 20) && (chkE ar N o fn sc x && chkA ar N es fn sc (z :: zs)))))
  | .meth o m .nil, fn, sc, .Call (.Attribute x y apos) [] [] cpos => seq y m && (ncall0 x && ((apos.endLine == cpos.line) && chkE ar N o fn sc x))
  | .make c es, fn, sc, .Call (.Name y _) (z :: zs) [] _ => seq y c && (gl sc y && (okName y && (mkOk ar c (zs.length + 1) && chkA ar N es fn sc (z :: zs))))
  | .attr o f, fn, sc, .Attribute x y _ => seq y f && (ncall0 x && chkE ar N o fn sc x)
  | .idx o i, fn, sc, .Subscript x y _ => nslice y && (chkE ar N o fn sc x && chkE ar N i fn sc y)
  | .comp m e tg it c own, fn, sc, .ListComp elt [⟨t, iter, ifs, .ofNat 0⟩] scope _ =>
      nset iter && (chkI ar N it fn sc t iter && (blkC N sc scope (ownP N own) && (tgIn own tg && (chkTg N (blkFn scope) (relS scope sc) tg t && (chkE ar N e (blkFn scope) (relS scope sc) elt &&
        (match ifs with
        | [] => isT c
        | [q] => chkT ar N c (blkFn scope) (relS scope sc) q
        | _ => false))))))
  | .lrng _ a, fn, sc, .Call (.Name y _) [.Call (.Name z _) [x] [] _] [] _ => seq y "list" && (gl sc y && (seq z "range" && (gl sc z && (nst x && chkE ar N a fn sc x))))
  | .frz a, fn, sc, x => chkE ar N a fn sc x
  | .stop, _, _, _ => true
  | .sl o lo hi, fn, sc, .Subscript x (.Slice l u none _) _ => chkE ar N o fn sc x && ((match l with
      | none => isNil lo
      | some l => !isNil lo && chkE ar N lo fn sc l) && (match u with
      | none => isNil hi
      | some u => !isNil hi && chkE ar N hi fn sc u))
  | .x a, fn, sc, x => chkX ar N a fn sc x
  | .make c .nil, fn, sc, .Call (.Name y _) [] [] _ => seq y c && (gl sc y && (okName y && mkOk ar c 0))
  | .prop o f, fn, sc, .Attribute x y _ => seq y f && (ncall0 x && chkE ar N o fn sc x)
  | .dnew, _, _, .Dict [] [] _ => true
  | .dlit es, fn, sc, .Dict (k :: ks) vs _ => decide (ks.length < 15) && chkD ar N es fn sc (k :: ks) vs
  | .didx a i, fn, sc, .Subscript x y _ => nslice y && (chkE ar N a fn sc x && chkE ar N i fn sc y)
  | .dhas neg k d, fn, sc, .Compare x [op] [y] _ => decide (op = inOp neg) && (!behindInMarks op y && (chkE ar N k fn sc x && chkE ar N d fn sc y))
  | .dget d k (.cst .non), fn, sc, .Call (.Attribute x y apos) [z] [] cpos => seq y "get" && (ncall0 x && ((apos.endLine == cpos.line) && (nst z && (chkE ar N d fn sc x && chkE ar N k fn sc z))))
  | .dget d k e, fn, sc, .Call (.Attribute x y apos) [z, u] [] cpos => seq y "get" && (ncall0 x && ((apos.endLine == cpos.line) && (nst z && (nst u && (chkE ar N d fn sc x && (chkE ar N k fn sc z && chkE ar N e fn sc u))))))
  | .dkeys d, fn, sc, .Call (.Name y _) [.Call (.Attribute x z apos) [] [] cpos] [] _ => seq y "list" && (gl sc y && (seq z "keys" && (ncall0 x && ((apos.endLine == cpos.line) && chkE ar N d fn sc x))))
  | .ohas neg k d, fn, sc, .Compare x [op] [y] _ => decide (op = inOp neg) && (!behindInMarks op y && (chkE ar N k fn sc x && chkE ar N d fn sc y))
  | .sset a, fn, sc, .Call (.Name y _) [.Call (.Name z _) [x] [] _] [] _ => seq y "sorted" && (gl sc y && (seq z "set" && (gl sc z && (nst x && chkE ar N a fn sc x))))
  | .lset a, fn, sc, .Call (.Name y _) [.Call (.Name z _) [x] [] _] [] _ => seq y "len" && (gl sc y && (seq z "set" && (gl sc z && (nst x && chkE ar N a fn sc x))))
  | .kin neg k x, fn, sc, .Compare z [op] [.Name y p] _ => decide (op = inOp neg) && (!behindInMarks op (.Name y p) && (seq y x && (gl sc y && (okName y && chkE ar N k fn sc z))))
  | .kix x k, fn, sc, .Subscript (.Name y _) z _ => nslice z && (seq y x && (gl sc y && (okName y && chkE ar N k fn sc z)))
  | .lm o .pop .nil, fn, sc, .Call (.Attribute x y apos) [] [] cpos => seq y "pop" && (ncall0 x && ((apos.endLine == cpos.line) && chkE ar N o fn sc x))
  | .lidx o e, fn, sc, .Call (.Attribute x y apos) [z] [] cpos => seq y "index" && (ncall0 x && ((apos.endLine == cpos.line) && (nst z && (chkE ar N o fn sc x && chkE ar N e fn sc z))))
  | _, _, _, _ => false
/-- further constructs -/
def chkX (ar : Ar) (N : List Str) : E → (Str → Bool) → Scope → Expr → Bool
  | .frzd a, fn, sc, x => chkE ar N a fn sc x
  | .comp2 m e tg it c tg1 it1 c1 own own1, fn, sc, .ListComp elt [⟨t, iter, ifs, .ofNat 0⟩, ⟨t1, iter1, ifs1, .ofNat 0⟩] scope _ =>
      (nset iter && (nset iter1 && (chkI ar N it fn sc t iter && (blkC N sc scope (ownP N own) && (tgIn own tg && (chkTg N (blkFn scope) (relS scope sc) tg t &&
        (own1.all own.contains && (tgIn own1 tg1 && (chkTg N (blkFn scope) (relS scope sc) tg1 t1 && (chkI ar N it1 (blkFn scope) (relS scope sc) t1 iter1 && chkE ar N e (blkFn scope) (relS scope sc) elt)))))))))) &&
      ((match ifs with
        | [] => isT c
        | [q] => chkT ar N c (blkFn scope) (relS scope sc) q
        | _ => false) && (match ifs1 with
        | [] => isT c1
        | [q] => chkT ar N c1 (blkFn scope) (relS scope sc) q
        | _ => false))
  | .sfind s e, fn, sc, .Call (.Attribute x y apos) [z] [] cpos => seq y "find" && (ncall0 x && ((apos.endLine == cpos.line) && (nst z && (chkE ar N s fn sc x && chkE ar N e fn sc z))))
  | .oeq false a b, fn, sc, .Compare x [op] [y] _ => decide (op = .Eq) && (!behindInMarks op y && (chkE ar N a fn sc x && chkE ar N b fn sc y))
  | .oeqx neg a b, fn, sc, .Compare x [op] [y] _ => decide (op = if neg then .NotEq else .Eq) && (!behindInMarks op y && (chkE ar N a fn sc x && chkE ar N b fn sc y))
  | .sjoin s e, fn, sc, .Call (.Attribute x y apos) [z] [] cpos => seq y "join" && (ncall0 x && ((apos.endLine == cpos.line) && (nst z && (chkE ar N s fn sc x && chkE ar N e fn sc z))))
  | .lrng2 _ a b, fn, sc, .Call (.Name y _) [.Call (.Name z _) [u, v] [] _] [] _ => seq y "list" && (gl sc y && (seq z "range" && (gl sc z && (nst u && (nst v && (chkE ar N a fn sc u && chkE ar N b fn sc v))))))
  | .olen a, fn, sc, .Call (.Name y _) [x] [] _ => seq y "len" && (gl sc y && (okName y && (nst x && chkE ar N a fn sc x)))
  | _, _, _, _ => false
def chkD (ar : Ar) (N : List Str) : E → (Str → Bool) → Scope → List (Option Expr) → List Expr → Bool
  | .nil, _, _, [], [] => true
  | .cons a (.cons b es), fn, sc, some x :: ks, y :: vs => chkE ar N a fn sc x && (chkE ar N b fn sc y && chkD ar N es fn sc ks vs)
  | _, _, _, _, _ => false
def chkA (ar : Ar) (N : List Str) : E → (Str → Bool) → Scope → List Expr → Bool
  | .nil, _, _, [] => true
  | .cons e es, fn, sc, x :: xs => nst x && (chkE ar N e fn sc x && chkA ar N es fn sc xs)
  | _, _, _, _ => false
def chkT (ar : Ar) (N : List Str) : E → (Str → Bool) → Scope → Expr → Bool
  | .tE (.cmp o a b), fn, sc, .Compare x [op] [y] _ => decide (op = toCmp o) && (!behindInMarks op y && (chkE ar N a fn sc x && chkE ar N b fn sc y))
  | .tE (.cmp2 o p a b c), fn, sc, .Compare x [op, op'] [y, z] _ => decide (op = toCmp o) && (decide (op' = toCmp p) && (!lastMarks [op, op'] [y, z] && (chkE ar N a fn sc x && (chkE ar N b fn sc y && chkE ar N c fn sc z))))
  | .tE (.dhas neg k d), fn, sc, .Compare x [op] [y] _ => decide (op = inOp neg) && (!behindInMarks op y && (chkE ar N k fn sc x && chkE ar N d fn sc y))
  | .tE (.ohas neg k d), fn, sc, .Compare x [op] [y] _ => decide (op = inOp neg) && (!behindInMarks op y && (chkE ar N k fn sc x && chkE ar N d fn sc y))
  | .tE (.kin neg k x), fn, sc, .Compare z [op] [.Name y p] _ => decide (op = inOp neg) && (!behindInMarks op (.Name y p) && (seq y x && (gl sc y && (okName y && chkE ar N k fn sc z))))
  | .tE (.oeq false a b), fn, sc, .Compare x [op] [y] _ => decide (op = .Eq) && (!behindInMarks op y && (chkE ar N a fn sc x && chkE ar N b fn sc y))
  | .tE a, fn, sc, x => plainT x && chkE ar N a fn sc x
  | .tand a b, fn, sc, .BoolOp .And [x, y] _ => chkT ar N a fn sc x && chkT ar N b fn sc y
  | .tand a b, fn, sc, .BoolOp .And (x :: y :: z :: r) pos => chkT ar N a fn sc x && chkT ar N b fn sc (.BoolOp .And (y :: z :: r) pos)
  | .tor a b, fn, sc, .BoolOp .Or [x, y] _ => chkT ar N a fn sc x && chkT ar N b fn sc y
  | .tor a b, fn, sc, .BoolOp .Or (x :: y :: z :: r) pos => chkT ar N a fn sc x && chkT ar N b fn sc (.BoolOp .Or (y :: z :: r) pos)
  | .tnot a, fn, sc, .UnaryOp .Not x _ => chkT ar N a fn sc x
  | _, _, _, _ => false
/-- what a loop walks; its target is asked, too -/
def chkI (ar : Ar) (N : List Str) : E → (Str → Bool) → Scope → Expr → Expr → Bool
  | .itv a, fn, sc, _, x => chkE ar N a fn sc x
  | .rng1 a, fn, sc, _, .Call (.Name y _) [x] [] _ => seq y "range" && (gl sc y && (nst x && chkE ar N a fn sc x))
  | .rng2 a b, fn, sc, _, .Call (.Name y _) [x, z] [] _ => seq y "range" && (gl sc y && (nst x && (nst z && (chkE ar N a fn sc x && chkE ar N b fn sc z))))
  | .rng3 a b c, fn, sc, _, .Call (.Name y _) [x, z, u] [] _ => seq y "range" && (gl sc y && (nst x && (nst z && (nst u && (chkE ar N a fn sc x && (chkE ar N b fn sc z && chkE ar N c fn sc u))))))
  | .enum a, fn, sc, .Tuple _ _ _, .Call (.Name y _) [x] [] _ => seq y "enumerate" && (gl sc y && (nst x && chkE ar N a fn sc x))
  | .zip a b, fn, sc, .Tuple _ _ _, .Call (.Name y _) [x, z] [] _ => seq y "zip" && (gl sc y && (nst x && (nst z && (chkE ar N a fn sc x && chkE ar N b fn sc z))))
  | .sitv a, fn, sc, _, x => chkE ar N a fn sc x
  | .rev a, fn, sc, _, .Call (.Name y _) [x] [] _ => seq y "reversed" && (gl sc y && (nst x && chkE ar N a fn sc x))
  | _, _, _, _, _ => false
end
/-- a list comprehension that is stored straight into a local of the same line -/
def swB (sc : Scope) (x : Str) (px : Pos) (scope : Scope) (pos : Pos) : Bool := decide (sc.names.lookup x = some .local) && ((px.line == pos.line) && !(scope.names.any fun (n, k) => n == x && (k == .local || k == .cell)))
/-- a target that is not stored to straight: one of its names is no local -/
def pnB (sc : Scope) (xs : List Expr) : Bool := xs.any fun e => match e with | .Name x _ => !decide (sc.names.lookup x = some .local) | _ => true
/-- names that a display of as many values is stored to at once -/
def parB (sc : Scope) (xs : List (Str × Pos)) (vs : List Expr) : Bool :=
  xs.all (fun p => decide (sc.names.lookup p.1 = some .local) && p.2.line == ((xs.head?.map fun q => q.2.line).getD 0)) && (decide (xs.map (·.1)).Nodup && (vs.all nst && (!vs.all (foldedForSure 8) && !vs.all (constantsAlone 8))))
mutual
/-- what a suite of an except clause may say: no calls, nothing that may raise -/
def chkHx (N : List Str) : E → Scope → Expr → Bool
  | .cst w, _, .Constant c _ _ => cstOk w c
  | .var i, sc, .Name x _ => slotOk N i x && (vis sc x && okName x)
  | .tup es, sc, .Tuple xs _ _ => decide (xs.length ≤ big) && chkHA N es sc xs
  | .lst es, sc, .List xs _ => decide (xs.length ≤ big) && chkHA N es sc xs
  | _, _, _ => false
def chkHA (N : List Str) : E → Scope → List Expr → Bool
  | .nil, _, [] => true
  | .cons e es, sc, x :: xs => nst x && (chkHx N e sc x && chkHA N es sc xs)
  | _, _, _ => false
end
mutual
/-- .. where slot i holds the caught exception -/
def chkHy (N : List Str) (i : Nat) : E → Scope → Expr → Bool
  | .cst w, _, .Constant c _ _ => cstOk w c
  | .var j, sc, .Name x _ => decide (j ≠ i) && (slotOk N j x && (vis sc x && okName x))
  | .tup es, sc, .Tuple xs _ _ => decide (xs.length ≤ big) && chkHz N i es sc xs
  | .lst es, sc, .List xs _ => decide (xs.length ≤ big) && chkHz N i es sc xs
  | .attr (.var j) f, sc, .Attribute (.Name x _) y _ => seq y f && (slotOk N j x && (vis sc x && okName x))
  | _, _, _ => false
def chkHz (N : List Str) (i : Nat) : E → Scope → List Expr → Bool
  | .nil, _, [] => true
  | .cons e es, sc, x :: xs => nst x && (chkHy N i e sc x && chkHz N i es sc xs)
  | _, _, _ => false
end
def chkV (N : List Str) (i : Nat) : S → (Str → Bool) → Scope → List Stmt → Bool
  | .nil, _, _, [] => true
  | .seq (.ret e) .nil, _, sc, [.Return (some v) _] => chkHy N i e sc v
  | .seq (.asg j e) r, fn, sc, .Assign [.Name x _] v _ :: sts => decide (j ≠ i) && (slotOk N j x && (stOk fn sc x && (ncomp v && (chkHy N i e sc v && chkV N i r fn sc sts))))
  | _, _, _, _ => false
def chkU (N : List Str) : S → (Str → Bool) → Scope → List Stmt → Bool
  | .nil, _, _, [] => true
  | .seq (.ret e) .nil, _, sc, [.Return (some v) _] => chkHx N e sc v
  | .seq (.asg i e) r, fn, sc, .Assign [.Name x _] v _ :: sts => slotOk N i x && (stOk fn sc x && (ncomp v && (chkHx N e sc v && chkU N r fn sc sts)))
  | _, _, _, _ => false
mutual
def chk1 (ar : Ar) (N : List Str) : S → (Str → Bool) → Scope → Stmt → Bool
  | .asg i (.comp m e tg it c own), fn, sc, .Assign [.Name x _] (.ListComp elt gs scope pos) _ => slotOk N i x && (stOk fn sc x && chkE ar N (.comp m e tg it c own) fn sc (.ListComp elt gs scope pos))
  | .asg i (.x (.comp2 m e tg it c tg1 it1 c1 own own1)), fn, sc, .Assign [.Name x _] (.ListComp elt gs scope pos) _ => slotOk N i x && (stOk fn sc x && chkE ar N (.x (.comp2 m e tg it c tg1 it1 c1 own own1)) fn sc (.ListComp elt gs scope pos))
  | .asg i e, fn, sc, .Assign [.Name x _] v _ => slotOk N i x && (stOk fn sc x && (ncomp v && chkE ar N e fn sc v))
  | .unp is e, fn, sc, .Assign [.Tuple xs _ _] v _ => chkNames N fn sc is xs && (ncomp v && ((ntup v || pnB sc xs) && chkE ar N e fn sc v))
  | .aug i o e, fn, sc, .AugAssign (.Name x _) op v _ => slotOk N i x && (stOk fn sc x && (decide (op = toOp o) && (decide (o = .add) && chkE ar N e fn sc v)))
  | .setI o i e, fn, sc, .Assign [.Subscript x y _] v _ => nslice y && ((chkE ar N o fn sc x && (chkE ar N i fn sc y && chkE ar N e fn sc v)))
  | .setD o i e, fn, sc, .Assign [.Subscript x y _] v _ => ncomp v && (nslice y && ((chkE ar N o fn sc x && (chkE ar N i fn sc y && chkE ar N e fn sc v))))
  | .setA o f e, fn, sc, .Assign [.Attribute x y _] v _ => seq y f && (ncomp v && (chkE ar N o fn sc x && chkE ar N e fn sc v))
  | .expr e, fn, sc, .Expr v _ => ncomp v && (chkE ar N e fn sc v && (match v with | .Constant _ _ _ => false | _ => true))
  | .ret e, fn, sc, .Return (some v) _ => chkE ar N e fn sc v
  | .retN, _, _, .Return none _ => true
  | .ifs c a b, fn, sc, .If z x y _ => chkT ar N c fn sc z && (chkS ar N a fn sc x && chkS ar N b fn sc y)
  | .wh c b, fn, sc, .While z x [] _ => chkT ar N c fn sc z && chkS ar N b fn sc x
  | .for_ tg it b, fn, sc, .For t iter x [] _ => nset iter && (chkI ar N it fn sc t iter && (chkTg N fn sc tg t && chkS ar N b fn sc x))
  | .raise c es, fn, sc, .Raise (some (.Call (.Name y _) xs [] _)) none _ => seq y c && (gl sc y && (okName y && chkA ar N es fn sc xs))
  | .stop, _, _, _ => true
  | .brk, _, _, .Break _ => true
  | .cont, _, _, .Continue _ => true
  | .pass, _, _, .Pass _ => true
  | .par i j a b, fn, sc, .Assign [.Tuple [.Name x px, .Name y py] _ _] (.Tuple [u, v] _ _) _ => slotOk N i x && (slotOk N j y && (decide (i ≠ j) && (parB sc [(x, px), (y, py)] [u, v] && (chkE ar N a fn sc u && chkE ar N b fn sc v))))
  | .par3 i j k a b c, fn, sc, .Assign [.Tuple [.Name x px, .Name y py, .Name z pz] _ _] (.Tuple [u, v, w] _ _) _ => slotOk N i x && (slotOk N j y && (slotOk N k z && (decide (i ≠ j ∧ i ≠ k ∧ j ≠ k) && (parB sc [(x, px), (y, py), (z, pz)] [u, v, w] && (chkE ar N a fn sc u && (chkE ar N b fn sc v && chkE ar N c fn sc w))))))
  | .try_ b hs, fn, sc, .Try body (h0 :: hds) [] [] _ => chkS ar N b fn sc body && chkH ar N hs fn sc (h0 :: hds)
  | _, _, _, _ => false
def chkH (ar : Ar) (N : List Str) : S → (Str → Bool) → Scope → List ExceptHandler → Bool
  | .nil, _, _, [] => true
  | .hdl c (some i) s r, fn, sc, .ExceptHandler (some (.Name y _)) (some z) (st :: sts) _ :: hds => seq y c && (gl sc y && (okName y && (slotOk N i z && (decide (sc.names.lookup z = some .local) && (chkV N i s fn sc (st :: sts) && chkH ar N r fn sc hds)))))
  | .hdl c none s r, fn, sc, .ExceptHandler (some (.Name y _)) none (st :: sts) _ :: hds => seq y c && (gl sc y && (okName y && (chkU N s fn sc (st :: sts) && chkH ar N r fn sc hds)))
  | _, _, _, _ => false
def chkS (ar : Ar) (N : List Str) : S → (Str → Bool) → Scope → List Stmt → Bool
  | .nil, _, _, [] => true
  | .seq (.kill _) r, fn, sc, sts => chkS ar N r fn sc sts
  | .seq s r, fn, sc, st :: sts => chk1 ar N s fn sc st && chkS ar N r fn sc sts
  | _, _, _, _ => false
end
end Mp
namespace Mp
open PySem PySem.Spec PyProof.Rows L2
abbrev Sst := L2.St
/-! ### weakening -/
theorem pe_imp {X : Cx} {e : Expr} {t t' : TE} (h : PE X e t) (i : ∀ σ H Q, t' σ H Q → t σ H Q) : PE X e t' := ⟨fun pins s σ H Q I q => h.run pins s σ H Q I (i σ H Q q)⟩
theorem pt_imp {X : Cx} {e : Expr} {t t' : TT} (h : PT X e t) (i : ∀ σ H Q, t' σ H Q → t σ H Q) : PT X e t' := ⟨fun pins s σ H Q I q => h.run pins s σ H Q I (i σ H Q q)⟩
theorem pw_imp {X : Cx} {e : Expr} {t t' : TT} (h : PW X e t) (i : ∀ σ H Q, t' σ H Q → t σ H Q) : PW X e t' := ⟨fun wh pins s σ H Q I q => h.run wh pins s σ H Q I (i σ H Q q)⟩
theorem pa_imp {X : Cx} {e : List Expr} {t t' : TA} (h : PA X e t) (i : ∀ σ H Q, t' σ H Q → t σ H Q) : PA X e t' := ⟨fun pos pins s σ H Q I q => h.run pos pins s σ H Q I (i σ H Q q)⟩
theorem ps_imp {X : Cx} {e : Stmt} {t t' : TS} (h : PS X e t) (i : ∀ D σ H, t' D σ H → t D σ H) : PS X e t' := ⟨fun pins s σ H D I q => h.run pins s σ H D I (i D σ H q)⟩
theorem pss_imp {X : Cx} {e : List Stmt} {t t' : TS} (h : PSs X e t) (i : ∀ D σ H, t' D σ H → t D σ H) : PSs X e t' := ⟨fun pins s σ H D I q => h.run pins s σ H D I (i D σ H q)⟩
theorem pi_imp {X : Cx} {tg e : Expr} {t t' : TI} (h : PI X tg e t) (i : ∀ σ H Q, t' σ H Q → t σ H Q) : PI X tg e t' := ⟨fun pins s σ H Q I q => h.run pins s σ H Q I (i σ H Q q)⟩
theorem pg_imp {X : Cx} {tg : Expr} {t t' : TG} (h : PG X tg t) (i : ∀ v σ H Q, t' v σ H Q → t v σ H Q) : PG X tg t' := ⟨fun pins s σ H v u Q I r q => h.run pins s σ H v u Q I r (i v σ H Q q)⟩
/-- the rule may be chosen when the values are known -/
theorem pi_dep {X : Cx} {tg e : Expr} {t : TI} (h : ∀ σ H Q, t σ H Q → ∃ t', PI X tg e t' ∧ t' σ H Q) : PI X tg e t := ⟨fun pins s σ H Q I q => by
  obtain ⟨t', a, b⟩ := h σ H Q q
  exact a.run pins s σ H Q I b⟩
theorem pe_dep {X : Cx} {e : Expr} {t : TE} (h : ∀ σ H Q, t σ H Q → ∃ t', PE X e t' ∧ t' σ H Q) : PE X e t := ⟨fun pins s σ H Q I q => by
  obtain ⟨t', a, b⟩ := h σ H Q q
  exact a.run pins s σ H Q I b⟩

/-! ### the top, the context -/
/-- the built-ins' names that the walk uses -/
def bnames : List String := ["len", "int", "abs", "tuple", "list", "sorted", "sum", "min", "max", "any", "all", "str", "divmod", "isinstance", "range", "enumerate", "zip", "reversed", "bool", "dict", "set", "repr"]
structure Tp where
  P : Program
  w : World
  mg : Str → Option Value
  base : Heap
  g : Gw
  T : Tab
  D : String → Option Def
  fa : String → Addr
  fd : String → FuncData
  ps : String → List Str
/-- the built-in types that a value may be of -/
def icT : List String := ["NoneType", "bool", "int", "str", "tuple", "list", "dict"]
/-- what isinstance asks of a class -/
structure IscK (K : PySem.W.Frag) (C : Addr) : Prop where
  cls : Cls K C
  ca : PySem.W.findIn K (.ref C) "__class__" = some (some (.builtin "object.__class__"))
  cn : PySem.W.specialIn K (.builtin "object.__class__") "__get__" = some (some (.builtin "getset_descriptor.__get__"))
  ct : PySem.W.takesIn K (.builtin "object.__class__") = some true
  cm : PySem.W.mroIn K C (.type "object") = some true
  no : ∀ T ∈ icT, PySem.W.kitOne K (.type T) (.ref C) = some false
  nf : ∀ T ∈ icT, PySem.W.subIn K (.type T) (.ref C) = some false
  ne : PySem.W.findIn K (.ref C) "__ne__" = some (some (.builtin "object.__ne__"))
/-- an own exception class without own __init__, over ValueError -/
def veB : List Value := [.type "ValueError", .type "Exception", .type "BaseException", .type "object"]
structure ExF (t : Tp) (c : String) : Prop where
  at_ : t.mg (Str.ofString c) = some (.ref (t.g.ca c))
  ein : PySem.W.excIn t.g.K (t.g.ca c) veB "ValueError.__new__" = true
  keep : PySem.W.keepIn t.g.K (.ref (t.g.ca c)) = true
  sub : PySem.W.subIn t.g.K (.ref (t.g.ca c)) (.type "BaseException") = some true
  typ : PySem.W.typeIn t.g.K (.ref (t.g.ca c)) = some (.type "type")
/-- what the start of an own exception promises that stores its parameters -/
def spX (C : Addr) (fs : List Str) : Sp := fun vs H Q _ => ∃ (a : Addr) (ys : List V), vs = .ref a :: ys ∧ ys.length = fs.length ∧ H a = some (exo a C none) ∧
  ∀ dx, H dx = none → dx ≠ a → Q .non (upd (upd H dx (exd dx (fs.zip ys).reverse)) a (exo a C (some dx)))
/-- .. of one that keeps nothing -/
def spX0 (C : Addr) : Sp := fun vs H Q _ => ∃ a : Addr, vs = [.ref a] ∧ H a = some (exo a C none) ∧ Q .non H
/-- an own exception class with a start of its own that keeps nothing -/
structure Xi0 (t : Tp) (c : String) : Prop where
  at_ : t.mg (Str.ofString c) = some (.ref (t.g.ca c))
  oex : OexC t.g.K (t.g.ca c)
  ini : ∃ (f : Addr) (fd : FuncData) (N : List Str), PySem.W.findIn t.g.K (.ref (t.g.ca c)) "__init__" = some (some (.ref f)) ∧ PySem.W.typeIn t.g.K (.ref f) = some (.type "function") ∧ Binds t.g.K fd N [] ∧
    FnOk t.P t.w t.g.K t.mg t.base (CX t.P t.w) 1 f fd N (spX0 (t.g.ca c))
/-- an own exception class with a start of its own that stores its parameters -/
structure XiF (t : Tp) (c : String) (ns : List String) : Prop where
  at_ : t.mg (Str.ofString c) = some (.ref (t.g.ca c))
  oex : OexC t.g.K (t.g.ca c)
  ini : ∃ (f : Addr) (fd : FuncData) (N : List Str), PySem.W.findIn t.g.K (.ref (t.g.ca c)) "__init__" = some (some (.ref f)) ∧ PySem.W.typeIn t.g.K (.ref f) = some (.type "function") ∧ Binds t.g.K fd N [] ∧
    FnOk t.P t.w t.g.K t.mg t.base (CX t.P t.w) 1 f fd N (spX (t.g.ca c) (ns.map Str.ofString))
  nd : (ns.map Str.ofString).Nodup
  len : ns.length ≤ 800
  xf : XfC t.g.K (t.g.ca c)
  no : ∀ f ∈ ns, PySem.W.findIn t.g.K (.ref (t.g.ca c)) (Str.ofString f) = some none
structure Tp.Ok (t : Tp) : Prop where
  ex : ∀ c ns, t.T.ex c = some ns → (ns = [] ∧ (ExF t c ∨ Xi0 t c)) ∨ (ns ≠ [] ∧ XiF t c ns)
  exg : ∀ x, t.T.xh x = true → t.mg (Str.ofString x) = some (.ref (t.g.ca x))
  exm : ∀ c x, t.T.xh x = true → t.T.sup c ≠ [] → PySem.W.exmOne t.g.K (.ref (t.g.ca c)) (.ref (t.g.ca x)) = some ((t.T.sup c).contains x)
  isc : ∀ c, t.T.isc c = true → t.mg (Str.ofString c) = some (.ref (t.g.ca c)) ∧ IscK t.g.K (t.g.ca c)
  fn : ∀ f d, t.D f = some d → t.mg (Str.ofString f) = some (.ref (t.fa f)) → PySem.W.keepIn t.g.K (.ref (t.fa f)) = true
  np : ∀ f d, t.D f = some d → (t.ps f).length = d.np
  bi : ∀ f d n, t.D f = some d → n ≤ d.np → d.np - n ≤ d.dfl.length → ∃ ds dvs, dvs.length = d.np - n ∧ (∀ G H, RVs t.g G H (d.dfl.drop (d.dfl.length - (d.np - n))) dvs) ∧ Vals dvs ds ∧ Binds t.g.K (t.fd f) (t.ps f) ds
  free : ∀ x, x ∈ bnames → t.mg (Str.ofString x) = none
  fld : ∀ c f, (t.T.fld c).contains f = true → Cls t.g.K (t.g.ca c) ∧ NoAttr t.g.K (t.g.ca c) (Str.ofString f)
  mth : ∀ c m k, t.T.mth c m k = true → Cls t.g.K (t.g.ca c) ∧ Meth t.g.K (t.g.ca c) (Str.ofString m) (t.fa (c ++ "." ++ m)) ∧ ∃ d, t.D (c ++ "." ++ m) = some d ∧ k + 1 ≤ d.np ∧ d.np - (k + 1) ≤ d.dfl.length
  prp : ∀ c f, t.T.prp c f = true → Cls t.g.K (t.g.ca c) ∧ (∃ p, PropOf t.g.K (t.g.ca c) (Str.ofString f) p (t.fa (c ++ "." ++ f))) ∧ ∃ d, t.D (c ++ "." ++ f) = some d ∧ d.np = 1
  kd : ∀ x ps, t.T.kd x = some ps → ∃ (a : Addr) (es : Array DictEntry) (m : Nat), t.mg (Str.ofString x) = some (.ref a) ∧ KDict t.g.K t.w a es m ∧
    (∀ s w, kdl s ps = some w → ∃ u v, PySem.W.nsIn t.g.K a (Str.ofString s) = some (some u) ∧ RelV v u ∧ ∀ G H, RV t.g G H w v) ∧ ∀ s, kdl s ps = none → PySem.W.nsIn t.g.K a (Str.ofString s) = some none
  gl : ∀ x w, t.T.gl x = some w → ∃ v u, t.mg (Str.ofString x) = some u ∧ RelV v u ∧ ∀ G H, RV t.g G H w v
/-- the names that a call by name may meet -/
def Tp.named (t : Tp) : Prop := ∀ f d, t.D f = some d → t.mg (Str.ofString f) = some (.ref (t.fa f))
structure Cok (t : Tp) (X : Cx) (W : WX) (n : Nat) (N : List Str) (fn : Str → Bool) (sc : Scope) : Prop where
  hP : X.prog = t.P
  hw : X.w = t.w
  hK : X.K = t.g.K
  hmg : X.mg = t.mg
  hb : X.base = t.base
  hN : X.N = N
  hsc : X.env.scope = sc
  hfn : X.fn = fn
  hfun : sc.kind = .function
  nd : N.Nodup
  calm : X.calm = true
  room : Room (2 * n + 2) X.A
  tk : Takes X W
  pas : PassesOwn (model X.prog X.w) X.A X.env X.xe
/-- the slots -/
def REnv (g : Gw) (G : Gh) (H : Hp) (ls : Env) (σ : Sst) : Prop := ls.length = σ.length ∧ ∀ (i : Nat) (w : W), ls[i]? = some (some w) → ∃ v, σ[i]? = some (some v) ∧ RV g G H w v
theorem REnv.mono {g : Gw} {G G' : Gh} {H H' : Hp} {ls : Env} {σ : Sst} (r : REnv g G H ls σ) (m : Mono g G H G' H') : REnv g G' H' ls σ :=
  ⟨r.1, fun i w e => by obtain ⟨v, a, b⟩ := r.2 i w e; exact ⟨v, a, b.mono m⟩⟩
theorem REnv.set {g : Gw} {G : Gh} {H : Hp} {ls : Env} {σ : Sst} {i : Nat} {w : W} {v : V} (r : REnv g G H ls σ) (a : RV g G H w v) : REnv g G H (ls.set i (some w)) (σ.set i (some v)) := by
  refine ⟨by simp [r.1], fun j u e => ?_⟩
  by_cases h : i = j
  · subst h
    have hl : i < ls.length := by
      have := (List.getElem?_eq_some_iff.mp e).1
      simpa using this
    rw [List.getElem?_set_self hl] at e
    cases e
    exact ⟨v, List.getElem?_set_self (by rw [← r.1]; exact hl), a⟩
  · rw [List.getElem?_set_ne h] at e
    rw [List.getElem?_set_ne h]
    exact r.2 j u e
theorem REnv.unset {g : Gw} {G : Gh} {H : Hp} {ls : Env} {σ : Sst} (r : REnv g G H ls σ) (i : Nat) : REnv g G H (ls.set i none) σ := by
  refine ⟨by simp [r.1], fun j u e => ?_⟩
  by_cases h : i = j
  · subst h
    have hl : i < ls.length := by
      have := (List.getElem?_eq_some_iff.mp e).1
      simpa using this
    rw [List.getElem?_set_self hl] at e
    cases e
  · rw [List.getElem?_set_ne h] at e
    exact r.2 j u e
theorem REnv.unset2 {g : Gw} {G : Gh} {H : Hp} {ls : Env} {σ : Sst} (r : REnv g G H ls σ) (i : Nat) : REnv g G H (ls.set i none) (σ.set i none) := by
  refine ⟨by simp [r.1], fun j u e => ?_⟩
  by_cases h : i = j
  · subst h
    have hl : i < ls.length := by
      have := (List.getElem?_eq_some_iff.mp e).1
      simpa using this
    rw [List.getElem?_set_self hl] at e
    cases e
  · rw [List.getElem?_set_ne h] at e
    rw [List.getElem?_set_ne h]
    exact r.2 j u e
theorem REnv.wipeE {g : Gw} {G : Gh} {H : Hp} {ls : Env} {σ : Sst} (r : REnv g G H ls σ) : ∀ is : List Nat, REnv g G H (Mp.wipeE ls is) σ
  | [] => r
  | i :: is => (REnv.wipeE r is).unset i
theorem REnv.wipe2 {g : Gw} {G : Gh} {H : Hp} {ls : Env} {σ : Sst} (r : REnv g G H ls σ) : ∀ is : List Nat, REnv g G H (Mp.wipeE ls is) (wipe σ is)
  | [] => r
  | i :: is => (REnv.wipe2 r is).unset2 i

/-! ### the readings -/
section
variable (t : Tp) (cl : Cl)
def tE (W : WX) (e : E) : TE := fun σ H Q => ∃ (G : Gh) (ls : Env) (lh : LH), REnv t.g G H ls σ ∧ Rep t.g G lh H ∧ PostG t.g (RV t.g) G H (evE t.T cl e ls lh) Q (fun cls d H' => W cls d σ H')
def relA (g : Gw) (G : Gh) (H : Hp) (w : W) (xs : List V) : Prop := RVs g G H (items w) xs
def tA (W : WX) (e : E) : TA := fun σ H Q => ∃ (G : Gh) (ls : Env) (lh : LH), REnv t.g G H ls σ ∧ Rep t.g G lh H ∧ PostG t.g (relA t.g) G H (evE t.T cl e ls lh) Q (fun cls d H' => W cls d σ H')
def relT (G : Gh) (H : Hp) (w : W) (b : Bool) : Prop := w = .bl b
def tT (W : WX) (e : E) : TT := fun σ H Q => ∃ (G : Gh) (ls : Env) (lh : LH), REnv t.g G H ls σ ∧ Rep t.g G lh H ∧ PostG t.g relT G H (evE t.T cl e ls lh) Q (fun cls d H' => W cls d σ H')
/-- what an iterator gives -/
def WalkW (g : Gw) (G : Gh) (H : Hp) (p : List W × Gd) (J : It) : Prop := ∀ G2 H2 lh2, Mono g G H G2 H2 → Rep g G2 lh2 H2 → gOk p.2 lh2 = true →
  J.stop p.1.length H2 ∧ ∀ (i : Nat) (w : W), p.1[i]? = some w → J.go i H2 ∧ ∀ x H3, J.yld i H2 x H3 → ∃ G3, Ext g G2 H2 G3 H3 ∧ Rep g G3 lh2 H3 ∧ RV g G3 H3 w x
def tI (W : WX) (e : E) : TI := fun σ H R => ∃ (G : Gh) (ls : Env) (lh : LH), REnv t.g G H ls σ ∧ Rep t.g G lh H ∧ PostG t.g (WalkW t.g) G H (evI t.T cl e ls lh) R (fun cls d H' => W cls d σ H')
def PostS (g : Gw) (G : Gh) (H : Hp) (r : RS) (D : Ends) (W : WX) : Prop := match r with
  | .nx ls lh => ∀ G' H' σ', Ext g G H G' H' → Rep g G' lh H' → REnv g G' H' ls σ' → D.nx σ' H'
  | .brk ls lh => ∀ G' H' σ', Ext g G H G' H' → Rep g G' lh H' → REnv g G' H' ls σ' → D.bk σ' H'
  | .cont ls lh => ∀ G' H' σ', Ext g G H G' H' → Rep g G' lh H' → REnv g G' H' ls σ' → D.ct σ' H'
  | .ret w lh => ∀ G' H' v, Ext g G H G' H' → Rep g G' lh H' → RV g G' H' w v → D.rt v H'
  | .ex c ns fs ls lh => ∀ G' H' σ' cls d, Ext g G H G' H' → Rep g G' lh H' → REnv g G' H' ls σ' → RX g G' H' c ns fs cls d → W cls d σ' H'
  | .no => False
theorem PostS.mono {g : Gw} {G G' : Gh} {H H' : Hp} {r : RS} {D : Ends} {W : WX} (h : PostS g G H r D W) (e : Ext g G H G' H') : PostS g G' H' r D W := by
  cases r with
  | nx ls lh => exact fun G2 H2 s e2 => h G2 H2 s (e.trans e2)
  | brk ls lh => exact fun G2 H2 s e2 => h G2 H2 s (e.trans e2)
  | cont ls lh => exact fun G2 H2 s e2 => h G2 H2 s (e.trans e2)
  | ret w lh => exact fun G2 H2 v e2 => h G2 H2 v (e.trans e2)
  | ex c ns fs ls lh => exact fun G2 H2 s cls d e2 => h G2 H2 s cls d (e.trans e2)
  | no => exact h
def tS (W : WX) (s : S) : TS := fun D σ H => ∃ (G : Gh) (ls : Env) (lh : LH), REnv t.g G H ls σ ∧ Rep t.g G lh H ∧ PostS t.g G H (evS t.T cl s ls lh) D W
end
/-- an expression within a statement -/
theorem PostS.toS {g : Gw} {rel : Gh → Hp → W → V → Prop} {G : Gh} {H : Hp} {ls : Env} {σ : Sst} {r : R W} {f : W → LH → RS} {D : Ends} {W' : WX} {Q : VK} (hr : REnv g G H ls σ) (h : PostS g G H (r.toS ls f) D W')
    (k : ∀ a lh G1 H1 b, r = .ok a lh → Ext g G H G1 H1 → Rep g G1 lh H1 → rel G1 H1 a b → PostS g G1 H1 (f a lh) D W' → Q b H1) : PostG g rel G H r Q (fun cls d H' => W' cls d σ H') := by
  cases r with
  | ok a lh => exact fun G2 H2 b e2 rp rb => k a lh G2 H2 b rfl e2 rp rb (PostS.mono (show PostS g G H (f a lh) D W' from h) e2)
  | ex c ns fs lh => exact fun G2 H2 cls d e2 rp rx => h G2 H2 σ cls d e2 rp (hr.mono e2.toMono) rx
  | no => exact h
theorem PostS.toS' {α : Type} {g : Gw} {rel : Gh → Hp → W → α → Prop} {G : Gh} {H : Hp} {ls : Env} {σ : Sst} {r : R W} {f : W → LH → RS} {D : Ends} {W' : WX} {Q : α → Hp → Prop} (hr : REnv g G H ls σ) (h : PostS g G H (r.toS ls f) D W')
    (k : ∀ a lh G1 H1 b, r = .ok a lh → Ext g G H G1 H1 → Rep g G1 lh H1 → rel G1 H1 a b → PostS g G1 H1 (f a lh) D W' → Q b H1) : PostG g rel G H r Q (fun cls d H' => W' cls d σ H') := by
  cases r with
  | ok a lh => exact fun G2 H2 b e2 rp rb => k a lh G2 H2 b rfl e2 rp rb (PostS.mono (show PostS g G H (f a lh) D W' from h) e2)
  | ex c ns fs lh => exact fun G2 H2 cls d e2 rp rx => h G2 H2 σ cls d e2 rp (hr.mono e2.toMono) rx
  | no => exact h

/-! ### side conditions -/
theorem seq_eq {x : Str} {f : String} (h : seq x f = true) : x = Str.ofString f := of_decide_eq_true h
theorem ba {a b : Bool} (h : (a && b) = true) : a = true ∧ b = true := Bool.and_eq_true_iff.mp h
theorem okName_d {x : Str} (h : okName x = true) : (x == ("__debug__" : Str)) = false := by
  unfold okName at h
  have := (ba h).1
  simpa using this
theorem okName_c {x : Str} (h : okName x = true) : (x == ("__classdict__" : Str)) = false := by
  unfold okName at h
  have := (ba (ba h).2).1
  simpa using this
theorem okName_n {x : Str} (h : okName x = true) : x ≠ ("__name__" : Str) := by
  unfold okName at h
  exact of_decide_eq_true (ba (ba h).2).2
theorem star_cons {e : Expr} {es : List Expr} {env : PySem.Env} (h : nst e = true) : starEach (e :: es) env = (false, eval e env) :: starEach es env := by
  cases e <;> first | rfl | (cases h; done)
theorem star_any : ∀ {es : List Expr} {env : PySem.Env} {pos : Pos}, es.all nst = true → (backTo pos (starEach es env)).any (·.1) = false
  | [], _, _, _ => rfl
  | e :: es, env, pos, h => by
    rw [List.all_cons] at h
    obtain ⟨h1, h2⟩ := ba h
    rw [star_cons h1]
    show (false || (backTo pos (starEach es env)).any (·.1)) = false
    rw [star_any h2]; rfl
theorem star_all : ∀ {es : List Expr} {env : PySem.Env} {pos : Pos}, es.all nst = true → (backTo pos (starEach es env)).all (fun x => !x.1) = true
  | [], _, _, _ => rfl
  | e :: es, env, pos, h => by
    rw [List.all_cons] at h
    obtain ⟨h1, h2⟩ := ba h
    rw [star_cons h1]
    show (true && (backTo pos (starEach es env)).all (fun x => !x.1)) = true
    rw [star_all h2]; rfl
theorem attr_base {o : Expr} {f : Str} {env : PySem.Env} {wh : Sem Value} (h : ncall0 o = true) : attributeBase o f env wh = wh := by
  unfold attributeBase
  split
  · cases h
  · rfl
theorem isTrue_plain {e : Expr} {env : PySem.Env} (h : plainT e = true) : ∀ whole, PySem.isTrue e env whole = (do let v ← whole; standAt e.pos; holding [v] (truthy v)) := by
  intro whole
  cases e <;> first | rfl | (cases h; done) | skip
  rename_i op x pos
  cases op <;> first | rfl | (cases h; done)
theorem swaps_n {v : Expr} {tg : Option Expr} {l : Nat} {env : PySem.Env} (h : ncomp v = true) : swapsWith v tg l env = pure false := by
  unfold swapsWith
  cases v <;> first | rfl | (cases h; done)
theorem plain_ix {y : Expr} (h : nslice y = true) : PlainIx y := by
  intro o i
  cases y <;> first | rfl | (cases h; done)
theorem folded_n {e : Expr} {env : PySem.Env} (h : nset e = true) : ∀ x, foldedSetIterable e env x = pure x := by
  intro x
  cases e <;> first | rfl | (cases h; done)
theorem vis_of {sc : Scope} {x : Str} (h : vis sc x = true) : Vis sc x := by
  unfold vis at h
  unfold Vis
  split at h
  · rename_i e; exact .inl e
  · rename_i e; exact .inr (.inl e)
  · rename_i e; exact .inr (.inr e)
  · cases h
theorem gl_of {sc : Scope} {x : Str} (h : gl sc x = true) : sc.names.lookup x = some .globalImplicit := by
  unfold gl at h
  split at h
  · assumption
  · cases h
theorem stOk_loc {fn : Str → Bool} {sc : Scope} {x : Str} (h : stOk fn sc x = true) : Loc sc x := by
  unfold stOk at h
  split at h
  · rename_i e; exact .inl e
  · rename_i e; exact .inr e
  · cases h
theorem stOk_fn {fn : Str → Bool} {sc : Scope} {x : Str} (h : stOk fn sc x = true) : fn x = true ∨ sc.names.lookup x = some .local := by
  unfold stOk at h
  split at h
  · rename_i e; exact .inr e
  · exact .inl h
  · cases h
section
variable {t : Tp} {X : Cx} {Wx : WX} {n : Nat} {N : List Str} {fn : Str → Bool} {sc : Scope}
theorem Cok.gl (c : Cok t X Wx n N fn sc) {x : Str} (h : gl sc x = true) : Gl X x := by
  show X.env.scope.names.lookup x = some .globalImplicit
  rw [c.hsc]; exact gl_of h
theorem Cok.free (c : Cok t X Wx n N fn sc) (o : t.Ok) {x : String} (h : x ∈ bnames) : X.mg (Str.ofString x) = none := by
  rw [c.hmg]; exact o.free x h
end

theorem evC_bl {o : COp} {x y w : W} {h h' : LH} (e : evC o x y h = .ok w h') : ∃ b, w = .bl b := by
  have i2b : ∀ {f : Int → Int → Bool}, i2 x y (fun i j => .ok (.bl (f i j)) h) = .ok w h' → ∃ b, w = .bl b := fun {f} e => by
    unfold i2 at e
    split at e
    · injection e with e1 _; exact ⟨_, e1.symm⟩
    · cases e
  cases o <;> simp only [evC] at e
  all_goals first | exact i2b e | skip
  all_goals (repeat' split at e)
  all_goals first | (cases e; done) | (injection e with e1 _; exact ⟨_, e1.symm⟩)
theorem lenA {T : Tab} {cl : Cl} {ar : Ar} {N : List Str} {fn : Str → Bool} {sc : Scope} : ∀ {es : E} {xs : List Expr} {ls : Env} {lh l1 : LH} {w : W}, chkA ar N es fn sc xs = true → evE T cl es ls lh = .ok w l1 → (items w).length = xs.length
  | .nil, [], ls, lh, l1, w, _, e => by
    simp only [evE] at e
    injection e with e1 _
    subst e1; rfl
  | .cons a es, x :: xs, ls, lh, l1, w, h, e => by
    simp only [chkA] at h
    simp only [evE] at e
    cases e1 : evE T cl a ls lh with
    | ex => rw [e1] at e; cases e
    | no => rw [e1] at e; cases e
    | ok v h1 =>
      rw [e1] at e
      dsimp only [R.bind] at e
      cases e2 : evE T cl es ls h1 with
      | ex => rw [e2] at e; cases e
      | no => rw [e2] at e; cases e
      | ok ws h2 =>
        rw [e2] at e
        injection e with e3 _
        subst e3
        show (_ :: items ws).length = _
        rw [List.length_cons, List.length_cons, lenA (ba (ba h).2).2 e2]
/-! ### expressions, one lemma a construct -/
section
variable {t : Tp} {cl : Cl} {X : Cx} {Wx : WX} {n : Nat} {ar : Ar} {N : List Str} {fn : Str → Bool} {sc : Scope} (c : Cok t X Wx n N fn sc) (o : t.Ok)
include c
theorem snd_var {i : Nat} {x : Str} {pos : Pos} (h1 : slotOk N i x = true) (h2 : vis sc x = true) (h3 : okName x = true) : PE X (.Name x pos) (tE t cl Wx (.var i)) := by
  refine pe_imp (pe_var (i := i) (by rw [c.hN]; exact of_decide_eq_true h1) (by rw [c.hsc]; exact vis_of h2) (okName_d h3) (okName_c h3)) fun σ H Q h => ?_
  obtain ⟨G, ls, lh, re, rp, h⟩ := h
  simp only [evE] at h
  split at h
  · rename_i w hw
    obtain ⟨v, e, rv⟩ := re.2 i w hw
    exact ⟨v, e, h.here rp rv⟩
  · exact h.elim
omit c in
theorem snd_cst {w : W} {k : Const} {j : Nat} {pos : Pos} (h : cstOk w k = true) : PE X (.Constant k j pos) (tE t cl Wx (.cst w)) := by
  cases w <;> cases k <;> first | (cases h; done) | skip
  · exact pe_imp pe_non fun σ H Q ⟨G, ls, lh, re, rp, h⟩ => PostG.here (rel := RV t.g) h rp rv_non
  · rename_i a b
    have : a = b := by simpa [cstOk] using h
    subst this
    exact pe_imp pe_bl fun σ H Q ⟨G, ls, lh, re, rp, h⟩ => PostG.here (rel := RV t.g) h rp rv_bl
  · rename_i a b
    have : a = b := of_decide_eq_true h
    subst this
    exact pe_imp pe_int fun σ H Q ⟨G, ls, lh, re, rp, h⟩ => PostG.here (rel := RV t.g) h rp rv_int
  · rename_i a b
    have : b = Str.ofString a := of_decide_eq_true h
    subst this
    exact pe_imp pe_str fun σ H Q ⟨G, ls, lh, re, rp, h⟩ => PostG.here (rel := RV t.g) h rp rv_str
include o in
theorem snd_glo {x : String} {y : Str} {pos : Pos} (h1 : seq y x = true) (h2 : Mp.gl sc y = true) (h3 : okName y = true) : PE X (.Name y pos) (tE t cl Wx (.glo x)) := by
  refine pe_dep fun σ H Q h => ?_
  obtain ⟨G, ls, lh, re, rp, h⟩ := h
  simp only [evE] at h
  split at h
  · rename_i w hw
    obtain ⟨v, u, e1, e2, e3⟩ := o.gl x w hw
    refine ⟨_, pe_glob (v := v) (c.gl h2) ?_ e2 (okName_d h3), h.here rp (e3 _ _)⟩
    rw [seq_eq h1, c.hmg]; exact e1
  · exact h.elim
omit c in
theorem snd_nil : PA X [] (tA t cl Wx .nil) := pa_imp pa_nil fun σ H Q ⟨G, ls, lh, re, rp, h⟩ => PostG.here (rel := relA t.g) h rp RVs.nil
omit c in
theorem snd_cons {e es : E} {x : Expr} {xs : List Expr} (h1 : nst x = true) (ha : PE X x (tE t cl Wx e)) (hb : PA X xs (tA t cl Wx es)) : PA X (x :: xs) (tA t cl Wx (.cons e es)) := by
  refine pa_imp (pa_cons ha hb (star_cons h1)) fun σ H Q ⟨G, ls, lh, re, rp, h⟩ => ?_
  simp only [evE] at h
  refine ⟨G, ls, lh, re, rp, h.bind fun w l1 G1 H1 v _ e1 rp1 rv h1 => ⟨G1, ls, l1, re.mono e1.toMono, rp1, h1.bind fun w2 l2 G2 H2 vs _ e2 rp2 rvs h2 => ?_⟩⟩
  exact h2.here rp2 (RVs.cons (rv.mono e2.toMono) rvs)
omit c in
theorem snd_tup {es : E} {xs : List Expr} {k : Nat} {pos : Pos} (ha : PA X xs (tA t cl Wx es)) (hc : chkA ar N es fn sc xs = true) (hl : xs.length ≤ big) : PE X (.Tuple xs k pos) (tE t cl Wx (.tup es)) := by
  refine pe_imp (pe_tup ha) fun σ H Q ⟨G, ls, lh, re, rp, h⟩ => ?_
  simp only [evE] at h
  refine ⟨G, ls, lh, re, rp, h.bind fun w l1 G1 H1 vs eq e1 rp1 rv h1 => ⟨?_, fun p hp => post_tup rp1 rv h1 hp⟩⟩
  rw [← RVs.length rv]
  rw [lenA hc eq]
  exact big_line hl
omit c in
theorem snd_lst {es : E} {xs : List Expr} {pos : Pos} (ha : PA X xs (tA t cl Wx es)) (hc : chkA ar N es fn sc xs = true) (hl : xs.length ≤ big) : PE X (.List xs pos) (tE t cl Wx (.lst es)) := by
  refine pe_imp (pe_lst ha) fun σ H Q ⟨G, ls, lh, re, rp, h⟩ => ?_
  simp only [evE] at h
  refine ⟨G, ls, lh, re, rp, h.bind fun w l1 G1 H1 vs eq e1 rp1 rv h1 => ⟨?_, fun p hp => post_fl rp1 rv h1 hp⟩⟩
  rw [← RVs.length rv]
  rw [lenA hc eq]
  exact big_line hl
omit c in
theorem snd_lstm {es : E} {xs : List Expr} {pos : Pos} (ha : PA X xs (tA t cl Wx es)) (hc : chkA ar N es fn sc xs = true) (hl : xs.length ≤ big) : PE X (.List xs pos) (tE t cl Wx (.lstm es)) := by
  refine pe_imp (pe_lst ha) fun σ H Q ⟨G, ls, lh, re, rp, h⟩ => ?_
  simp only [evE] at h
  refine ⟨G, ls, lh, re, rp, h.bind fun w l1 G1 H1 vs eq e1 rp1 rv h1 => ⟨?_, fun p hp => post_ref rp1 rv h1 hp⟩⟩
  rw [← RVs.length rv]
  rw [lenA hc eq]
  exact big_line hl
theorem snd_binE {op : BOp} {a b : E} {x y : Expr} {pos : Pos} (ha : PE X x (tE t cl Wx a)) (hb : PE X y (tE t cl Wx b)) : PE X (.BinOp x (toOp op) y pos) (tE t cl Wx (.bin op a b)) := by
  refine pe_imp (pe_op (snd_bin c.hK op) ha hb) fun σ H Q ⟨G, ls, lh, re, rp, h⟩ => ?_
  simp only [evE] at h
  exact ⟨G, ls, lh, re, rp, h.bind fun w l1 G1 H1 v _ e1 rp1 rv h1 => ⟨G1, ls, l1, re.mono e1.toMono, rp1, h1.bind fun w2 l2 G2 H2 v2 _ e2 rp2 rv2 h2 => ⟨G2, l2, w, w2, _, rp2, rv.mono e2.toMono, rv2, h2⟩⟩⟩
omit c in
theorem snd_unE {op : UOp} {a : E} {x : Expr} {pos : Pos} (ha : PE X x (tE t cl Wx a)) : PE X (.UnaryOp (toUn op) x pos) (tE t cl Wx (.un op a)) := by
  refine pe_imp (pe_un (snd_un (g := t.g) op) ha) fun σ H Q ⟨G, ls, lh, re, rp, h⟩ => ?_
  simp only [evE] at h
  exact ⟨G, ls, lh, re, rp, h.bind fun w l1 G1 H1 v _ e1 rp1 rv h1 => ⟨G1, l1, w, _, rp1, rv, h1⟩⟩
theorem snd_cmpE {op : COp} {a b : E} {x y : Expr} {pos : Pos} (hm : behindInMarks (toCmp op) y = false) (ha : PE X x (tE t cl Wx a)) (hb : PE X y (tE t cl Wx b)) : PE X (.Compare x [toCmp op] [y] pos) (tE t cl Wx (.cmp op a b)) := by
  refine pe_imp (pe_cmpR (snd_cmp c.hK c.room op) ha hb hm) fun σ H Q ⟨G, ls, lh, re, rp, h⟩ => ?_
  simp only [evE] at h
  exact ⟨G, ls, lh, re, rp, h.bind fun w l1 G1 H1 v _ e1 rp1 rv h1 => ⟨G1, ls, l1, re.mono e1.toMono, rp1, h1.bind fun w2 l2 G2 H2 v2 _ e2 rp2 rv2 h2 => ⟨G2, l2, w, w2, _, rp2, rv.mono e2.toMono, rv2, h2⟩⟩⟩
theorem snd_cmpT {op : COp} {a b : E} {x y : Expr} {pos : Pos} (hm : behindInMarks (toCmp op) y = false) (ha : PE X x (tE t cl Wx a)) (hb : PE X y (tE t cl Wx b)) : PT X (.Compare x [toCmp op] [y] pos) (tT t cl Wx (.tE (.cmp op a b))) := by
  refine pt_imp (pt_cmpR (snd_cmp c.hK c.room op) ha hb hm) fun σ H Q ⟨G, ls, lh, re, rp, h⟩ => ?_
  rw [show evE t.T cl (.tE (.cmp op a b)) ls lh = (evE t.T cl a ls lh).bind fun x h1 => (evE t.T cl b ls h1).bind fun y h2 => (evC op x y h2).bind fun x h1 => (match truW h1 x with | some b => .ok (.bl b) h1 | none => .no) from by
    simp only [evE, R.bind]
    cases evE t.T cl a ls lh with
    | ok x l1 =>
      dsimp only
      cases evE t.T cl b ls l1 <;> rfl
    | ex => rfl
    | no => rfl] at h
  refine ⟨G, ls, lh, re, rp, h.bind fun w l1 G1 H1 v _ e1 rp1 rv h1 => ⟨G1, ls, l1, re.mono e1.toMono, rp1, h1.bind fun w2 l2 G2 H2 v2 _ e2 rp2 rv2 h2 => ⟨G2, l2, w, w2, _, rp2, rv.mono e2.toMono, rv2, h2.bind fun k l3 G3 H3 z ek e3 rp3 rz h3 => ?_⟩⟩⟩
  -- a comparison gives a truth value
  obtain ⟨b, rfl⟩ := evC_bl ek
  exact ⟨b, rz.bl_eq, h3.here rp3 rfl⟩
theorem snd_cmp2E {op op2 : COp} {a b d : E} {x y z : Expr} {pos : Pos} (hm : lastMarks [toCmp op, toCmp op2] [y, z] = false) (ha : PE X x (tE t cl Wx a)) (hb : PE X y (tE t cl Wx b)) (hd : PE X z (tE t cl Wx d)) : PE X (.Compare x [toCmp op, toCmp op2] [y, z] pos) (tE t cl Wx (.cmp2 op op2 a b d)) := by
  refine pe_imp (pe_chain (snd_cmp c.hK c.room op) (snd_cmp c.hK c.room op2) ha hb hd hm) fun σ H Q ⟨G, ls, lh, re, rp, h⟩ => ?_
  simp only [evE] at h
  refine ⟨G, ls, lh, re, rp, h.bind fun w l1 G1 H1 v _ e1 rp1 rv h1 => ⟨G1, ls, l1, re.mono e1.toMono, rp1, h1.bind fun w2 l2 G2 H2 v2 _ e2 rp2 rv2 h2 => ⟨G2, l2, w, w2, _, rp2, rv.mono e2.toMono, rv2, h2.bind fun k l3 G3 H3 q ek e3 rp3 rk h3 => ?_⟩⟩⟩
  obtain ⟨b, rfl⟩ := evC_bl ek
  refine ⟨b, rk.bl_eq, ?_⟩
  cases b with
  | true =>
    refine iteT ⟨G3, ls, l3, ((re.mono e1.toMono).mono e2.toMono).mono e3.toMono, rp3, PostG.bind (rel2 := RV t.g) h3 fun w4 l4 G4 H4 v4 _ e4 rp4 rv4 h4 => ⟨G4, l4, w2, w4, _, rp4, (rv2.mono e3.toMono).mono e4.toMono, rv4, h4⟩⟩
  | false => exact iteF (PostG.here (rel := RV t.g) h3 rp3 rv_bl)
theorem snd_cmp2T {op op2 : COp} {a b d : E} {x y z : Expr} {pos : Pos} (hm : lastMarks [toCmp op, toCmp op2] [y, z] = false) (ha : PE X x (tE t cl Wx a)) (hb : PE X y (tE t cl Wx b)) (hd : PE X z (tE t cl Wx d)) : PT X (.Compare x [toCmp op, toCmp op2] [y, z] pos) (tT t cl Wx (.tE (.cmp2 op op2 a b d))) := by
  refine pt_imp (pt_chain (snd_cmp c.hK c.room op) (snd_cmp c.hK c.room op2) ha hb hd hm) fun σ H Q ⟨G, ls, lh, re, rp, h⟩ => ?_
  have ee : evE t.T cl (.tE (.cmp2 op op2 a b d)) ls lh = (evE t.T cl a ls lh).bind fun x h1 => (evE t.T cl b ls h1).bind fun y h2 => (evC op x y h2).bind fun k h3 => (match k with
      | .bl true => (evE t.T cl d ls h3).bind fun z h4 => (evC op2 y z h4).bind fun x h1 => (match truW h1 x with | some b => .ok (.bl b) h1 | none => .no)
      | .bl false => .ok (.bl false) h3
      | _ => .no) := by
    simp only [evE, R.bind]
    cases evE t.T cl a ls lh with
    | ok x l1 =>
      dsimp only
      cases evE t.T cl b ls l1 with
      | ok y l2 =>
        dsimp only
        cases evC op x y l2 with
        | ok k l3 =>
          cases k with
          | bl kb =>
            cases kb with
            | true =>
              dsimp only
              cases evE t.T cl d ls l3 <;> rfl
            | false => rfl
          | _ => rfl
        | ex => rfl
        | no => rfl
      | ex => rfl
      | no => rfl
    | ex => rfl
    | no => rfl
  rw [ee] at h
  refine ⟨G, ls, lh, re, rp, h.bind fun w l1 G1 H1 v _ e1 rp1 rv h1 => ⟨G1, ls, l1, re.mono e1.toMono, rp1, h1.bind fun w2 l2 G2 H2 v2 _ e2 rp2 rv2 h2 => ⟨G2, l2, w, w2, _, rp2, rv.mono e2.toMono, rv2, h2.bind fun k l3 G3 H3 q ek e3 rp3 rk h3 => ?_⟩⟩⟩
  obtain ⟨b, rfl⟩ := evC_bl ek
  refine ⟨b, rk.bl_eq, ?_⟩
  cases b with
  | true =>
    refine iteT ⟨G3, ls, l3, ((re.mono e1.toMono).mono e2.toMono).mono e3.toMono, rp3, PostG.bind (rel2 := relT) h3 fun w4 l4 G4 H4 v4 _ e4 rp4 rv4 h4 => ⟨G4, l4, w2, w4, _, rp4, (rv2.mono e3.toMono).mono e4.toMono, rv4, h4.bind fun k2 l5 G5 H5 z ek2 e5 rp5 rz h5 => ?_⟩⟩
    obtain ⟨b2, rfl⟩ := evC_bl ek2
    exact ⟨b2, rz.bl_eq, h5.here rp5 rfl⟩
  | false => exact iteF ⟨false, rfl, PostG.here (rel := relT) h3 rp3 rfl⟩
omit c in
theorem snd_and {a b : E} {x y : Expr} {rest : List Expr} {pos : Pos} (ha : PE X x (tE t cl Wx a)) (hb : PE X (.BoolOp .And (y :: rest) pos) (tE t cl Wx b)) : PE X (.BoolOp .And (x :: y :: rest) pos) (tE t cl Wx (.and a b)) := by
  refine pe_imp (pe_and ha hb) fun σ H Q ⟨G, ls, lh, re, rp, h⟩ => ?_
  simp only [evE] at h
  refine ⟨G, ls, lh, re, rp, h.bind fun w l1 G1 H1 v _ e1 rp1 rv h1 => ?_⟩
  split at h1
  · exact ⟨true, rv.bl_eq, iteT ⟨G1, ls, l1, re.mono e1.toMono, rp1, h1⟩⟩
  · exact ⟨false, rv.bl_eq, iteF (h1.here rp1 rv_bl)⟩
  · exact h1.elim
omit c in
theorem snd_or {a b : E} {x y : Expr} {rest : List Expr} {pos : Pos} (ha : PE X x (tE t cl Wx a)) (hb : PE X (.BoolOp .Or (y :: rest) pos) (tE t cl Wx b)) : PE X (.BoolOp .Or (x :: y :: rest) pos) (tE t cl Wx (.or a b)) := by
  refine pe_imp (pe_or ha hb) fun σ H Q ⟨G, ls, lh, re, rp, h⟩ => ?_
  simp only [evE] at h
  refine ⟨G, ls, lh, re, rp, h.bind fun w l1 G1 H1 v _ e1 rp1 rv h1 => ?_⟩
  split at h1
  · exact ⟨true, rv.bl_eq, iteT (h1.here rp1 rv_bl)⟩
  · exact ⟨false, rv.bl_eq, iteF ⟨G1, ls, l1, re.mono e1.toMono, rp1, h1⟩⟩
  · exact h1.elim
theorem snd_not {a : E} {x : Expr} {pos : Pos} (ha : PE X x (tE t cl Wx a)) : PE X (.UnaryOp .Not x pos) (tE t cl Wx (.not a)) := by
  refine pe_imp (pe_notT ha) fun σ H Q ⟨G, ls, lh, re, rp, h⟩ => ?_
  simp only [evE] at h
  refine ⟨G, ls, lh, re, rp, h.bind fun w l1 G1 H1 v _ e1 rp1 rv h1 => ?_⟩
  split at h1
  · rename_i b hb
    exact ⟨b, by rw [c.hK]; exact tru_spec rp1 rv hb, h1.here rp1 rv_bl⟩
  · exact h1.elim
theorem snd_tE {a : E} {x : Expr} (hx : plainT x = true) (ha : PE X x (tE t cl Wx a)) : PT X x (tT t cl Wx (.tE a)) := by
  refine pt_imp (pt_truth ha (isTrue_plain hx)) fun σ H Q ⟨G, ls, lh, re, rp, h⟩ => ?_
  simp only [evE] at h
  refine ⟨G, ls, lh, re, rp, h.bind fun w l1 G1 H1 v _ e1 rp1 rv h1 => ?_⟩
  split at h1
  · rename_i b hb
    exact ⟨b, by rw [c.hK]; exact tru_spec rp1 rv hb, h1.here rp1 rfl⟩
  · exact h1.elim
omit c in
theorem snd_tnot {a : E} {x : Expr} {pos : Pos} (ha : PT X x (tT t cl Wx a)) : PT X (.UnaryOp .Not x pos) (tT t cl Wx (.tnot a)) := by
  refine pt_imp (pt_not ha) fun σ H Q ⟨G, ls, lh, re, rp, h⟩ => ?_
  simp only [evE] at h
  refine ⟨G, ls, lh, re, rp, h.bind fun w l1 G1 H1 v _ e1 rp1 rv h1 => ?_⟩
  subst rv
  exact h1.here rp1 rfl
omit c in
theorem snd_tand {a b : E} {x y : Expr} {rest : List Expr} {pos : Pos} (ha : PT X x (tT t cl Wx a)) (hb : PW X (.BoolOp .And (y :: rest) pos) (tT t cl Wx b)) : PW X (.BoolOp .And (x :: y :: rest) pos) (tT t cl Wx (.tand a b)) := by
  refine pw_imp (pw_and ha hb) fun σ H Q ⟨G, ls, lh, re, rp, h⟩ => ?_
  simp only [evE] at h
  refine ⟨G, ls, lh, re, rp, h.bind fun w l1 G1 H1 v _ e1 rp1 rv h1 => ?_⟩
  subst rv
  cases v with
  | true => exact iteT ⟨G1, ls, l1, re.mono e1.toMono, rp1, h1⟩
  | false => exact iteF (PostG.here (rel := relT) h1 rp1 rfl)
omit c in
theorem snd_tor {a b : E} {x y : Expr} {rest : List Expr} {pos : Pos} (ha : PT X x (tT t cl Wx a)) (hb : PW X (.BoolOp .Or (y :: rest) pos) (tT t cl Wx b)) : PW X (.BoolOp .Or (x :: y :: rest) pos) (tT t cl Wx (.tor a b)) := by
  refine pw_imp (pw_or ha hb) fun σ H Q ⟨G, ls, lh, re, rp, h⟩ => ?_
  simp only [evE] at h
  refine ⟨G, ls, lh, re, rp, h.bind fun w l1 G1 H1 v _ e1 rp1 rv h1 => ?_⟩
  subst rv
  cases v with
  | true => exact iteT (PostG.here (rel := relT) h1 rp1 rfl)
  | false => exact iteF ⟨G1, ls, l1, re.mono e1.toMono, rp1, h1⟩
omit c in
theorem snd_ite {q a b : E} {z x y : Expr} {pos : Pos} (hq : PT X z (tT t cl Wx q)) (ha : PE X x (tE t cl Wx a)) (hb : PE X y (tE t cl Wx b)) : PE X (.IfExp z x y pos) (tE t cl Wx (.ite q a b)) := by
  refine pe_imp (pe_ifExp hq ha hb) fun σ H Q ⟨G, ls, lh, re, rp, h⟩ => ?_
  simp only [evE] at h
  refine ⟨G, ls, lh, re, rp, h.bind fun w l1 G1 H1 v _ e1 rp1 rv h1 => ?_⟩
  subst rv
  cases v with
  | true => exact iteT ⟨G1, ls, l1, re.mono e1.toMono, rp1, h1⟩
  | false => exact iteF ⟨G1, ls, l1, re.mono e1.toMono, rp1, h1⟩
omit c in
theorem bn_mem (f : Bf) : bfName f ∈ bnames := by cases f <;> decide
omit c in
theorem bn_boot : ∀ f : Bf, bootBuiltins (Str.ofString (bfName f)) = some (bfVal f) := by
  intro f
  cases f <;> decide +kernel
include o in
theorem snd_bf {f : Bf} {es : E} {y : Str} {x : Expr} {xs : List Expr} {p pos : Pos} (h1 : seq y (bfName f) = true) (h2 : Mp.gl sc y = true) (h3 : okName y = true) (hs : (x :: xs).all nst = true) (ha : PA X (x :: xs) (tA t cl Wx es)) : PE X (.Call (.Name y p) (x :: xs) [] pos) (tE t cl Wx (.bf f es)) := by
  have e := seq_eq h1
  have hs2 := ba (show (nst x && xs.all nst) = true from hs)
  have hm : X.mg y = none := by rw [e]; exact c.free o (bn_mem f)
  have fin : ∀ σ H Q, tE t cl Wx (.bf f es) σ H Q → tCB (rCa t.g (evF f)) (tA t cl Wx es) σ H Q := fun σ H Q ⟨G, ls, lh, re, rp, h⟩ => by
    simp only [evE] at h
    exact ⟨G, ls, lh, re, rp, h.bind fun w l1 G1 H1 vs _ e1 rp1 rv h1 => ⟨G1, l1, items w, _, rp1, rv, h1⟩⟩
  have hb : bootBuiltins y = some (bfVal f) := by rw [e]; exact bn_boot f
  have hc := ca_all_of c.hK c.calm c.room.units f
  by_cases ht : bfTy f = true
  · have ev : bfVal f = .type (bfName f) := if_pos ht
    rw [ev] at hc hb
    exact pe_imp (pe_callTy hc (c.gl h2) hm hb ha (okName_n h3) (okName_d h3) (star_cons hs2.1) (star_any hs2.2)) fin
  · have ev : bfVal f = .builtin (bfName f) := if_neg ht
    rw [ev] at hc hb
    exact pe_imp (pe_callB hc (c.gl h2) hm hb ha (okName_n h3) (okName_d h3) (star_cons hs2.1) (star_any hs2.2)) fin
theorem snd_idx {a b : E} {x y : Expr} {pos : Pos} (hy : nslice y = true) (ha : PE X x (tE t cl Wx a)) (hb : PE X y (tE t cl Wx b)) : PE X (.Subscript x y pos) (tE t cl Wx (.idx a b)) := by
  refine pe_imp (pe_ix (snd_ix c.hK) ha hb (plain_ix hy)) fun σ H Q ⟨G, ls, lh, re, rp, h⟩ => ?_
  simp only [evE] at h
  exact ⟨G, ls, lh, re, rp, h.bind fun w l1 G1 H1 v _ e1 rp1 rv h1 => ⟨G1, ls, l1, re.mono e1.toMono, rp1, h1.bind fun w2 l2 G2 H2 v2 _ e2 rp2 rv2 h2 => ⟨G2, l2, w, w2, _, rp2, rv.mono e2.toMono, rv2, h2⟩⟩⟩
/-- a part of a slice -/
def evP (T : Tab) (cl : Cl) (e : E) (ls : Env) (lh : LH) : R (Option Int) := (evE T cl e ls lh).bind fun y h2 => optR (part (isNil e) y) h2
def tO (t : Tp) (cl : Cl) (Wx : WX) (e : E) : TO := fun σ H Q => ∃ (G : Gh) (ls : Env) (lh : LH), REnv t.g G H ls σ ∧ Rep t.g G lh H ∧ PostG t.g (fun _ _ a b => a = b) G H (evP t.T cl e ls lh) Q (fun cls d H' => Wx cls d σ H')
omit c in
theorem snd_po0 {e : E} (he : isNil e = true) : PO X none (tO t cl Wx e) := ⟨fun pins s σ H Q I ⟨G, ls, lh, re, rp, h⟩ => po_none.run pins s σ H Q I (by
  cases e <;> first | (cases he; done) | exact PostG.here (rel := fun _ _ a b => a = b) h rp rfl)⟩
omit c in
theorem snd_po1 {e : E} {x : Expr} (he : isNil e = false) (ha : PE X x (tE t cl Wx e)) : PO X (some x) (tO t cl Wx e) := by
  refine ⟨fun pins s σ H Q I ⟨G, ls, lh, re, rp, h⟩ => (po_some ha).run pins s σ H Q I ⟨G, ls, lh, re, rp, ?_⟩⟩
  unfold evP at h
  rw [he] at h
  refine h.bind fun w l1 G1 H1 v _ e1 rp1 rv h1 => ?_
  cases w <;> first | exact h1.elim | skip
  exact ⟨_, rv.int_eq, PostG.here (rel := fun _ _ a b => a = b) h1 rp1 rfl⟩
theorem snd_slE {a lo hi : E} {x : Expr} {l u : Option Expr} {p2 pos : Pos} (ha : PE X x (tE t cl Wx a)) (hl : PO X l (tO t cl Wx lo)) (hu : PO X u (tO t cl Wx hi)) : PE X (.Subscript x (.Slice l u none p2) pos) (tE t cl Wx (.sl a lo hi)) := by
  refine pe_imp (pe_slice (snd_sl c.hK) ha hl hu) fun σ H Q ⟨G, ls, lh, re, rp, h⟩ => ?_
  simp only [evE] at h
  refine ⟨G, ls, lh, re, rp, h.bind fun w l1 G1 H1 v _ e1 rp1 rv h1 => ⟨G1, ls, l1, re.mono e1.toMono, rp1, h1.bind (r := evP t.T cl lo ls l1) fun o1 l2 G2 H2 o2 _ e2 rp2 ro h2 => ?_⟩⟩
  subst ro
  refine ⟨G2, ls, l2, (re.mono e1.toMono).mono e2.toMono, rp2, h2.bind (r := evP t.T cl hi ls l2) fun o3 l3 G3 H3 o4 _ e3 rp3 ro3 h3 => ?_⟩
  subst ro3
  exact ⟨G3, l3, w, _, rp3, (rv.mono e2.toMono).mono e3.toMono, h3⟩
/-! ### isinstance -/
omit c in
theorem ty_spec {g : Gw} {G : Gh} {H : Hp} {lh : LH} {w : W} {x : V} {T : String} (rp : Rep g G lh H) (r : RV g G H w x) (e : tyOf lh w = some T) : TyX g.K H x (.type T) := by
  cases w with
  | non => simp only [tyOf] at e; cases e; rw [r.non_eq]; exact .base .non
  | bl q => simp only [tyOf] at e; cases e; rw [r.bl_eq]; exact .base (.bl q)
  | int q => simp only [tyOf] at e; cases e; rw [r.int_eq]; exact .base (.int q)
  | str q => simp only [tyOf] at e; cases e; rw [r.str_eq]; exact .base (.str _)
  | tup q =>
    simp only [tyOf] at e; cases e
    obtain ⟨p, xs, rfl, s, _⟩ := r.tup_eq
    rcases s with (s | ⟨o, s⟩) | ⟨o, its, n, s1, s2, _⟩
    · exact .base (.tup s)
    · exact .fTuple s
    · exact .kTuple s1 s2
  | fl q =>
    simp only [tyOf] at e; cases e
    unfold RV at r
    obtain ⟨p, xs, rfl, _, s, _⟩ := r
    exact .base (.lst s)
  | rd q =>
    simp only [tyOf] at e; cases e
    unfold RV at r
    obtain ⟨p, xs, rfl, s, _⟩ := r
    rcases s with ⟨o, s⟩ | ⟨o, its, n, s1, s2, _⟩
    · exact .base (.frz s)
    · exact .kList s1 s2
  | ref m =>
    unfold RV at r
    obtain ⟨p, rfl, hp⟩ := r
    simp only [tyOf] at e
    split at e
    · rename_i ws hm
      cases e
      obtain ⟨xs, s, _⟩ := rp.lst hm hp
      exact .base (.lst s)
    · rename_i ks vs hm
      cases e
      obtain ⟨ho, q0, xs, ⟨kk, a, rfl, b⟩, _⟩ := rp.at hm hp
      exact .base (.dK q0)
    · cases e
  | obj => simp only [tyOf] at e; cases e
  | exc => simp only [tyOf] at e; cases e
  | dic ks vs =>
    simp only [tyOf] at e; cases e
    unfold RV at r
    obtain ⟨p, ho, xs, rfl, _, hp, ⟨kk, a, rfl, b⟩, _⟩ := r
    exact .base (.dK hp)
omit c in
theorem kit_spec {lh : LH} {w : W} {T : String} {K : PySem.W.Frag} (e : tyOf lh w = some T) (ty : Ty) (hb : tyB ty = true) : PySem.W.kitOne K (.type T) (.type (tyName ty)) = some (kit T ty) := by
  apply kit_ty
  have : T ∈ ["NoneType", "bool", "int", "str", "tuple", "list", "dict"] := by
    unfold tyOf at e
    split at e <;> first | (cases e; decide) | skip
    all_goals first | (cases e; done) | (split at e <;> first | (cases e; decide) | (cases e; done))
  simp only [List.mem_cons, List.mem_nil_iff, or_false] at this
  rcases this with rfl | rfl | rfl | rfl | rfl | rfl | rfl <;> cases ty <;> first | (cases hb; done) | decide +kernel
omit c in
theorem ty_bn (ty : Ty) (hb : tyB ty = true) : tyName ty ∈ bnames ∧ bootBuiltins (Str.ofString (tyName ty)) = some (.type (tyName ty)) ∧ okName (Str.ofString (tyName ty)) = true := by
  cases ty <;> first | (cases hb; done) | exact ⟨by decide, by decide +kernel, by decide +kernel⟩
include o in
theorem pe_ty {z : Str} {ty : Ty} {pos : Pos} (hb : tyB ty = true) (h1 : seq z (tyName ty) = true) (h2 : Mp.gl sc z = true) : PE X (.Name z pos) (tC (.ty (tyName ty))) := by
  have e := seq_eq h1
  obtain ⟨m1, m2, m3⟩ := ty_bn ty hb
  exact pe_bltn (c.gl h2) (by rw [e]; exact c.free o m1) (by rw [e]; exact m2) rfl (by rw [e]; exact okName_n m3) (by rw [e]; exact okName_d m3)
omit c in
theorem isinst_nm : okName (Str.ofString "isinstance") = true ∧ bootBuiltins (Str.ofString "isinstance") = some (.builtin "isinstance") := ⟨by decide +kernel, by decide +kernel⟩
include o in
theorem snd_isi {a : E} {ty : Ty} {y z : Str} {x : Expr} {p p2 pos : Pos} (h1 : seq y "isinstance" = true) (h2 : Mp.gl sc y = true) (hb : tyB ty = true) (h3 : seq z (tyName ty) = true) (h4 : Mp.gl sc z = true) (hx : nst x = true) (ha : PE X x (tE t cl Wx a)) : PE X (.Call (.Name y p) [x, .Name z p2] [] pos) (tE t cl Wx (.isi a ty)) := by
  have e := seq_eq h1
  subst e
  refine pe_imp (pe_callB call_isi (c.gl h2) (c.free o (by decide)) isinst_nm.2 (pa_cons ha (pa_cons (pe_ty c o hb h3 h4) pa_nil (star_cons rfl)) (star_cons hx)) (okName_n isinst_nm.1) (okName_d isinst_nm.1) (star_cons hx) (star_any rfl)) fun σ H Q ⟨G, ls, lh, re, rp, h⟩ => ?_
  simp only [evE] at h
  rw [if_pos hb] at h
  refine ⟨G, ls, lh, re, rp, h.bind fun w l1 G1 H1 v _ e1 rp1 rv h1 => ?_⟩
  show ∃ (x c : V) (t u : Value) (b : Bool), _
  split at h1
  · rename_i b hk
    unfold tyOk at hk
    rw [if_pos hb] at hk
    obtain ⟨T, hT, rfl⟩ := Option.map_eq_some_iff.mp hk
    refine ⟨v, _, .type T, .type (tyName ty), _, rfl, .ty _, ?_, kit_spec hT ty hb, h1.here rp1 rv_bl⟩
    rw [c.hK]
    exact ty_spec rp1 rv hT
  · exact h1.elim
include o in
theorem pa_tys : ∀ {ts : List Ty} {es : List Expr}, ts.all tyB = true → chkTys sc ts es = true → PA X es (fun _ H Q => Q (ts.map fun ty => V.ty (tyName ty)) H)
  | [], [], _, _ => pa_nil
  | [], _ :: _, _, h => by simp [chkTys] at h
  | ty :: ts, [], _, h => by simp [chkTys] at h
  | ty :: ts, e :: es, hb, h => by
    cases e <;> first | (simp [chkTys] at h; done) | skip
    simp only [chkTys] at h
    rw [List.all_cons] at hb
    obtain ⟨a1, a2⟩ := ba h
    obtain ⟨a3, a4⟩ := ba a2
    obtain ⟨a5, a6⟩ := ba a4
    exact pa_imp (pa_cons (pe_ty c o a1 a3 a5) (pa_tys (ba hb).2 a6) (star_cons rfl)) fun σ H Q h => h
omit c in
theorem tys_nst : ∀ {ts : List Ty} {es : List Expr}, chkTys sc ts es = true → es.length = ts.length ∧ ts.all tyB = true
  | [], [], _ => ⟨rfl, rfl⟩
  | [], _ :: _, h => by simp [chkTys] at h
  | ty :: ts, [], h => by simp [chkTys] at h
  | ty :: ts, e :: es, h => by
    cases e <;> first | (simp [chkTys] at h; done) | skip
    simp only [chkTys] at h
    obtain ⟨a1, a2⟩ := ba h
    obtain ⟨i1, i2⟩ := tys_nst (ba (ba a2).2).2
    exact ⟨by rw [List.length_cons, List.length_cons, i1], by rw [List.all_cons, a1, i2]; rfl⟩
omit c in
theorem kits {lh : LH} {w : W} {T : String} {K : PySem.W.Frag} (e : tyOf lh w = some T) : ∀ ts : List Ty, ts.all tyB = true → PySem.W.kitAny K (.type T) (ts.map fun ty => Value.type (tyName ty)) = some (ts.any (kit T))
  | [], _ => kitAny_nil
  | ty :: ts, h => by
    rw [List.all_cons] at h
    rw [List.map_cons, List.any_cons]
    refine kitAny_cons (kit_spec e ty (ba h).1) (fun hf => ?_) (fun ht => ?_)
    · rw [hf, Bool.false_or]; exact kits e ts (ba h).2
    · rw [ht, Bool.true_or]
omit c in
theorem tys_cls : ∀ ts : List Ty, Paired ClsV (ts.map fun ty => V.ty (tyName ty)) (ts.map fun ty => Value.type (tyName ty))
  | [] => .nil
  | ty :: ts => .cons (.ty _) (tys_cls ts)
include o in
theorem snd_isiT {a : E} {ts : List Ty} {y : Str} {x : Expr} {zs : List Expr} {k : Nat} {p p2 pos : Pos} (h1 : seq y "isinstance" = true) (h2 : Mp.gl sc y = true) (hl : ts.length ≤ 8) (h3 : chkTys sc ts zs = true) (hx : nst x = true) (ha : PE X x (tE t cl Wx a)) : PE X (.Call (.Name y p) [x, .Tuple zs k p2] [] pos) (tE t cl Wx (.isiT a ts)) := by
  have e := seq_eq h1
  subst e
  obtain ⟨n1, n2⟩ := tys_nst h3
  refine pe_imp (pe_callB call_isiT (c.gl h2) (c.free o (by decide)) isinst_nm.2 (pa_cons ha (pa_cons (pe_tup (pa_tys c o n2 h3)) pa_nil (star_cons rfl)) (star_cons hx)) (okName_n isinst_nm.1) (okName_d isinst_nm.1) (star_cons hx) (star_any rfl)) fun σ H Q ⟨G, ls, lh, re, rp, h⟩ => ?_
  simp only [evE] at h
  refine ⟨G, ls, lh, re, rp, h.bind fun w l1 G1 H1 v _ e1 rp1 rv h1 => ⟨?_, fun q hq => ?_⟩⟩
  · rw [List.length_map]
    exact big_line (Nat.le_trans hl (by decide))
  · split at h1
    · rename_i b hk
      unfold tyAny at hk
      rw [if_pos n2] at hk
      obtain ⟨T, hT, rfl⟩ := Option.map_eq_some_iff.mp hk
      obtain ⟨e2, rp2⟩ := rp1.tup (xs := ts.map fun ty => V.ty (tyName ty)) hq
      refine ⟨v, q, _, .type T, _, _, rfl, upd_same, tys_cls ts, ?_, kits hT ts n2, h1.at e2 rp2 rv_bl⟩
      rw [c.hK]
      exact ty_spec rp2 (rv.mono e2.toMono) hT
    · exact h1.elim
/-! ### calls -/
/-- what a def keeps, by the evaluator -/
def spM (g : Gw) (cl : Cl) (f : String) (np : Nat) : Sp := fun vs H Q E => ∃ (G : Gh) (ws : List W) (lh : LH), RVs g G H ws vs ∧ Rep g G lh H ∧ vs.length = np ∧ PostG g (RV g) G H (cl f ws lh) Q E
/-- the defs are there -/
structure Fns (t : Tp) (ar : Ar) (cl : Cl) (k : Nat) : Prop where
  ok : ∀ f d, t.D f = some d → FnOk t.P t.w t.g.K t.mg t.base (L2.CX t.P t.w) (2 * k + 1) (t.fa f) (t.fd f) (t.ps f) (spM t.g cl f d.np)
  fill : ∀ f d ws lh, t.D f = some d → ws.length ≤ d.np → d.np - ws.length ≤ d.dfl.length → cl f ws lh = cl f (ws ++ d.dfl.drop (d.dfl.length - (d.np - ws.length))) lh
  new : ∀ c k, mkOk ar c k = true → t.T.mth c "__init__" k = true ∧ t.mg (Str.ofString c) = some (.ref (t.g.ca c)) ∧ Mk t.g.K (t.g.ca c) (t.fa (c ++ "." ++ "__init__"))
  ar : ∀ f np nd, ar f = some (true, np, nd) → ∃ d, t.D f = some d ∧ d.np = np ∧ d.dfl.length = nd ∧ t.mg (Str.ofString f) = some (.ref (t.fa f))
omit c in
theorem arOk_spec {ar : Ar} {f : String} {k : Nat} (h : arOk ar f k = true) : ∃ np nd, ar f = some (true, np, nd) ∧ k ≤ np ∧ np - k ≤ nd := by
  unfold arOk at h
  split at h
  · rename_i np nd e
    exact ⟨np, nd, e, of_decide_eq_true h⟩
  · cases h
include o in
theorem snd_call (F : Fns t ar cl n) {f : String} {es : E} {y : Str} {x : Expr} {xs : List Expr} {p pos : Pos} (h1 : seq y f = true) (h2 : Mp.gl sc y = true) (h3 : okName y = true) (h4 : arOk ar f (xs.length + 1) = true) (hs : (x :: xs).all nst = true) (hc : chkA ar N es fn sc (x :: xs) = true) (ha : PA X (x :: xs) (tA t cl Wx es)) : PE X (.Call (.Name y p) (x :: xs) [] pos) (tE t cl Wx (.call f es)) := by
  have e := seq_eq h1
  subst e
  have hs2 := ba (show (nst x && xs.all nst) = true from hs)
  obtain ⟨np, nd, ea, q1, q2⟩ := arOk_spec h4
  obtain ⟨d, hd, rfl, rfl, hg⟩ := F.ar f np nd ea
  obtain ⟨ds, dvs, l1, r1, v1, b1⟩ := o.bi f d _ hd q1 q2
  have Fo := F.ok f d hd
  rw [← c.hP, ← c.hw, ← c.hK, ← c.hmg, ← c.hb] at Fo
  refine pe_imp (pe_callSD (E := WE Wx) Fo (c.room.mono (by omega)) (c.gl h2) (by rw [c.hmg]; exact hg) (by rw [c.hK]; exact o.fn f d hd hg) (by rw [c.hK]; exact b1) v1 (passAt c.tk) ha (okName_d h3) (star_cons hs2.1) (star_any hs2.2)) fun σ H Q ⟨G, ls, lh, re, rp, h⟩ => ?_
  simp only [evE] at h
  refine ⟨G, ls, lh, re, rp, h.bind fun w l1' G1 H1 vs eq e1 rp1 rv h1 => ?_⟩
  have hl : (items w).length = xs.length + 1 := lenA hc eq
  have hv : vs.length = xs.length + 1 := by rw [← RVs.length rv, hl]
  rw [F.fill f d _ _ hd (by rw [hl]; exact q1) (by rw [hl]; exact q2), hl] at h1
  exact ⟨G1, _, l1', RVs.append rv (r1 G1 H1), rp1, by rw [List.length_append, l1, hv]; omega, h1⟩
include o in
theorem snd_call0 (F : Fns t ar cl n) {f : String} {y : Str} {p pos : Pos} (h1 : seq y f = true) (h2 : Mp.gl sc y = true) (h3 : okName y = true) (h4 : arOk ar f 0 = true) : PE X (.Call (.Name y p) [] [] pos) (tE t cl Wx (.call f .nil)) := by
  have e := seq_eq h1
  subst e
  obtain ⟨np, nd, ea, q1, q2⟩ := arOk_spec h4
  obtain ⟨d, hd, rfl, rfl, hg⟩ := F.ar f np nd ea
  obtain ⟨ds, dvs, l1, r1, v1, b1⟩ := o.bi f d _ hd q1 q2
  have Fo := F.ok f d hd
  rw [← c.hP, ← c.hw, ← c.hK, ← c.hmg, ← c.hb] at Fo
  refine ⟨fun pins s σ H Q I ⟨G, ls, lh, re, rp, h⟩ => ?_⟩
  refine wpAny_Call_Name_kw (ld_glob I (c.gl h2) (by rw [c.hmg]; exact hg) ?_ (okName_d h3))
  have hb' : Binds X.K (t.fd f) (t.ps f) ds := by rw [c.hK]; exact b1
  have hk : PySem.W.keepIn X.K (.ref (t.fa f)) = true := by rw [c.hK]; exact o.fn f d hd hg
  refine PySem.W.callWith_K0 I.kIn hk (run_fnSD (E := WE Wx) (us := []) (vs := []) Fo (c.room.mono (by omega)) hb' v1 (passAt c.tk σ) I .nil ?_)
  simp only [evE] at h
  have h1 : PostG t.g (RV t.g) G H (cl f [] lh) Q (fun cls d H' => Wx cls d σ H') := h
  rw [F.fill f d [] lh hd q1 q2] at h1
  exact ⟨G, _, lh, r1 G H, rp, l1, h1⟩
end
end Mp
namespace Mp
open PySem PySem.Spec PyProof.Rows L2
/-! ### methods of lists, attributes, ranges, freezing -/
theorem kwNone {env : PySem.Env} {cpos : Pos} : (backToKw cpos (keywordEach [] env)).all (fun x => x.1.isSome) = true := rfl
theorem ixn_seq {n : Nat} {i : Int} {j : Nat} (h : ixn n i = some j) : seqIndex? i n = some j := by
  unfold ixn at h
  unfold seqIndex?
  by_cases h0 : 0 ≤ i
  · rw [if_pos h0] at h
    split at h
    · rename_i h1
      have hn : ¬ i < 0 := by omega
      simp [hn, h0, h1]
      exact Option.some.inj h
    · cases h
  · rw [if_neg h0] at h
    split at h
    · rename_i h1
      have hn : i < 0 := by omega
      have e1 : 0 ≤ i + (n : Int) := by omega
      simp [hn, e1]
      exact ⟨by omega, Option.some.inj h⟩
    · cases h
theorem lm_one {w : W} {as : List W} {h : LH} (hne : evLm .append w as h ≠ .no) : ∃ u, as = [u] := by
  match as with
  | [] =>
    refine (hne ?_).elim
    unfold evLm
    split <;> first | rfl | (split <;> rfl)
  | [u] => exact ⟨u, rfl⟩
  | _ :: _ :: _ =>
    refine (hne ?_).elim
    unfold evLm
    split <;> first | rfl | (split <;> rfl)
section
variable {t : Tp} {cl : Cl} {X : Cx} {Wx : WX} {n : Nat} {ar : Ar} {N : List Str} {fn : Str → Bool} {sc : Scope} (c : Cok t X Wx n N fn sc) (o : t.Ok)
include c
theorem snd_lmA {a es : E} {x z : Expr} {m : Lm} {zs : List Expr} {y : Str} {apos cpos : Pos} (hm : m = .append) (h1 : seq y (lmName m) = true) (hb : ncall0 x = true) (hl : (apos.endLine == cpos.line) = true) (hn : zs.length < 20) (hs : (z :: zs).all nst = true) (hc : chkA ar N es fn sc (z :: zs) = true)
    (ha : PE X x (tE t cl Wx a)) (he : PA X (z :: zs) (tA t cl Wx es)) : PE X (.Call (.Attribute x y apos) (z :: zs) [] cpos) (tE t cl Wx (.lm a m es)) := by
  subst hm
  have e := seq_eq h1
  subst e
  have hs2 := ba (show (nst z && zs.all nst) = true from hs)
  refine pe_imp (pe_bm (cpos := cpos) PySem.F.plainAttrs_list PySem.F.slot_list_append PySem.F.type_list_append mt_append ha he (attr_base hb) ?_ hl (star_cons hs2.1) (star_any hs2.2)) fun σ H Q ⟨G, ls, lh, re, rp, h⟩ => ?_
  · rw [star_all hs, kwNone]
    have : decide ((z :: zs).length + ([] : List Keyword).length + (if ([] : List Keyword).isEmpty then 0 else 1) < 30) = true := by
      apply decide_eq_true
      simp only [List.length_cons, List.length_nil, List.isEmpty_nil, if_true]
      omega
    rw [this]; rfl
  · simp only [evE] at h
    refine ⟨G, ls, lh, re, rp, h.bind fun w l1 G1 H1 v _ e1 rp1 rv h1 => ?_⟩
    split at h1
    case isFalse => exact h1.elim
    rename_i hi
    refine ⟨?_, G1, ls, l1, re.mono e1.toMono, rp1, h1.bind fun w2 l2 G2 H2 vs eq e2 rp2 rvs h2 => ?_⟩
    · unfold isLst at hi
      split at hi
      · rename_i k
        unfold RV at rv
        obtain ⟨p, rfl, hp⟩ := rv
        split at hi
        · rename_i xs hk
          obtain ⟨ys, hy, _⟩ := rp1.lst hk hp
          exact .inl ⟨rfl, ys, SqL.of hy⟩
        · cases hi
      · cases hi
    · have hone := lm_one (w := w) (as := items w2) (h := l2) fun z => by rw [z] at h2; exact h2
      obtain ⟨u, hu⟩ := hone
      have rvs' : RVs t.g G2 H2 (items w2) vs := rvs
      rw [hu] at rvs' h2
      unfold RVs at rvs'
      obtain ⟨x1, r1, rfl, r2, r3⟩ := rvs'
      unfold RVs at r3
      subst r3
      exact snd_append (pins := []) (σ := σ) rp2 (rv.mono e2.toMono) r2 h2
theorem snd_lmP {a es : E} {x z : Expr} {zs : List Expr} {y : Str} {apos cpos : Pos} (h1 : seq y "pop" = true) (hb : ncall0 x = true) (hl : (apos.endLine == cpos.line) = true) (hn : zs.length < 20) (hs : (z :: zs).all nst = true) (hc : chkA ar N es fn sc (z :: zs) = true)
    (ha : PE X x (tE t cl Wx a)) (he : PA X (z :: zs) (tA t cl Wx es)) : PE X (.Call (.Attribute x y apos) (z :: zs) [] cpos) (tE t cl Wx (.lm a .popAt es)) := by
  have e := seq_eq h1
  subst e
  have hs2 := ba (show (nst z && zs.all nst) = true from hs)
  refine pe_imp (pe_bm (cpos := cpos) PySem.F.plainAttrs_list PySem.F.slot_list_pop PySem.F.type_list_pop mt_popAt ha he (attr_base hb) ?_ hl (star_cons hs2.1) (star_any hs2.2)) fun σ H Q ⟨G, ls, lh, re, rp, h⟩ => ?_
  · rw [star_all hs, kwNone]
    have : decide ((z :: zs).length + ([] : List Keyword).length + (if ([] : List Keyword).isEmpty then 0 else 1) < 30) = true := by
      apply decide_eq_true
      simp only [List.length_cons, List.length_nil, List.isEmpty_nil, if_true]
      omega
    rw [this]; rfl
  · simp only [evE] at h
    refine ⟨G, ls, lh, re, rp, h.bind fun w l1 G1 H1 v _ e1 rp1 rv h1 => ?_⟩
    split at h1
    case isFalse => exact h1.elim
    rename_i hi
    refine ⟨?_, G1, ls, l1, re.mono e1.toMono, rp1, h1.bind fun w2 l2 G2 H2 vs eq e2 rp2 rvs h2 => ?_⟩
    · unfold isLst at hi
      split at hi
      · rename_i k
        unfold RV at rv
        obtain ⟨p, rfl, hp⟩ := rv
        split at hi
        · rename_i xs hk
          obtain ⟨ys, hy, _⟩ := rp1.lst hk hp
          exact .inl ⟨rfl, ys, SqL.of hy⟩
        · cases hi
      · cases hi
    · have rvs' : RVs t.g G2 H2 (items w2) vs := rvs
      have rv' := rv.mono e2.toMono
      unfold evLm at h2
      split at h2
      case h_2 => exact h2.elim
      rename_i k
      unfold RV at rv'
      obtain ⟨p, ep, hp⟩ := rv'
      subst ep
      split at h2
      case h_2 => exact h2.elim
      rename_i ws hk
      generalize hit : items w2 = it at h2 rvs'
      split at h2
      all_goals first | exact h2.elim | skip
      all_goals first | (rename_i hm _; cases hm; done) | (rename_i hm; cases hm; done) | skip
      rename_i i _
      split at h2
      case isFalse => exact h2.elim
      rename_i hr
      split at h2
      case h_2 => exact h2.elim
      rename_i j hj
      split at h2
      case h_2 => exact h2.elim
      rename_i u hu
      unfold RVs at rvs'
      obtain ⟨x1, r1, rfl, r2, r3⟩ := rvs'
      unfold RVs at r3
      subst r3
      obtain ⟨xs, hx, rs⟩ := rp2.lst hk hp
      obtain ⟨z2, hz, rz⟩ := rs.get hu
      have sp := rp2.sep _ _ p hk hp (by simp)
      have m := Mono.write (g := t.g) (G := G2) (H := H2) (p := p) (o := .lst (xs.eraseIdx j)) hx ⟨sp.1, .inl ⟨xs, rfl⟩⟩
      have rd : RVs t.g G2 H2 (ws.eraseIdx j) (xs.eraseIdx j) := by
        rw [List.eraseIdx_eq_take_drop_succ, List.eraseIdx_eq_take_drop_succ]
        exact (rs.take _).append (rs.drop _)
      obtain ⟨e3, rp3⟩ := rp2.write (o' := .lst (ws.eraseIdx j)) (ho' := .lst (xs.eraseIdx j)) hk hp (by simp) hx (.inl ⟨xs, rfl⟩) ⟨_, rfl, rd.mono m⟩
      exact ⟨p, xs, i, j, z2, rfl, by rw [r2.int_eq], hx, hr.1, hr.2, by rw [← rs.length]; exact ixn_seq hj, hz, h2.at e3 rp3 (rz.mono m)⟩
theorem snd_lm {a es : E} {x z : Expr} {m : Lm} {zs : List Expr} {y : Str} {apos cpos : Pos} (hm : m = .append ∨ m = .popAt) (h1 : seq y (lmName m) = true) (hb : ncall0 x = true) (hl : (apos.endLine == cpos.line) = true) (hn : zs.length < 20) (hs : (z :: zs).all nst = true) (hc : chkA ar N es fn sc (z :: zs) = true)
    (ha : PE X x (tE t cl Wx a)) (he : PA X (z :: zs) (tA t cl Wx es)) : PE X (.Call (.Attribute x y apos) (z :: zs) [] cpos) (tE t cl Wx (.lm a m es)) := by
  rcases hm with rfl | rfl
  · exact snd_lmA c rfl h1 hb hl hn hs hc ha he
  · exact snd_lmP c h1 hb hl hn hs hc ha he
omit c in
theorem lk_spec {g : Gw} {G : Gh} {H : Hp} {f : String} : ∀ {ns : List String} {fs : List W} {xs : List V} {w : W}, RVs g G H fs xs → lk f ns fs = some w → ∃ v, ((ns.map Str.ofString).zip xs).lookup (Str.ofString f) = some v ∧ RV g G H w v
  | [], _, _, _, _, e => by simp [lk] at e
  | _ :: _, [], _, _, _, e => by simp [lk] at e
  | n :: ns, x :: fs, _, w, r, e => by
    unfold RVs at r
    obtain ⟨v, q, rfl, a, b⟩ := r
    unfold lk at e
    rw [List.map_cons, List.zip_cons_cons]
    split at e
    · rename_i hn
      subst hn
      cases e
      exact ⟨v, by simp, a⟩
    · rename_i hn
      obtain ⟨v', h1, h2⟩ := lk_spec b e
      refine ⟨v', ?_, h2⟩
      have : (Str.ofString f == Str.ofString n) = false := by
        rw [beq_eq_false_iff_ne]
        exact fun z => hn (str_inj z).symm
      rw [List.lookup_cons, this]
      exact h1
include o in
theorem snd_attr {a : E} {x : Expr} {y : Str} {f : String} {pos : Pos} (h1 : seq y f = true) (hb : ncall0 x = true) (ha : PE X x (tE t cl Wx a)) : PE X (.Attribute x y pos) (tE t cl Wx (.attr a f)) := by
  have e := seq_eq h1
  subst e
  refine pe_imp (pe_fld ha (attr_base hb)) fun σ H Q ⟨G, ls, lh, re, rp, h⟩ => ?_
  simp only [evE] at h
  refine ⟨G, ls, lh, re, rp, h.bind fun w l1 G1 H1 v _ e1 rp1 rv h1 => ?_⟩
  unfold evAt at h1
  rw [c.hK]
  split at h1
  · rename_i C ns fs _
    split at h1
    · rename_i hf
      obtain ⟨k1, k2⟩ := o.fld C f hf
      split at h1
      · rename_i u hu
        unfold RV at rv
        obtain ⟨p, dx, xs, rfl, _, hp, _, rs⟩ := rv
        obtain ⟨v2, q1, q2⟩ := lk_spec rs hu
        exact ⟨p, _, dx, _, v2, rfl, hp, k1, k2, q1, h1.here rp1 q2⟩
      · exact h1.elim
    · exact h1.elim
  · rename_i k _
    unfold RV at rv
    obtain ⟨p, rfl, hp⟩ := rv
    split at h1
    · rename_i C ns fs hk
      split at h1
      · rename_i hf
        obtain ⟨k1, k2⟩ := o.fld C f hf
        split at h1
        · rename_i u hu
          obtain ⟨ho, q0, dx, xs, rfl, _, rs⟩ := rp1.at hk hp
          obtain ⟨v2, q1, q2⟩ := lk_spec rs hu
          exact ⟨p, _, dx, _, v2, rfl, q0, k1, k2, q1, h1.here rp1 q2⟩
        · exact h1.elim
      · exact h1.elim
    · exact h1.elim
  · exact h1.elim
theorem snd_lrng {m : Bool} {a : E} {x : Expr} {y z : Str} {p p2 pos pos2 : Pos} (h1 : seq y "list" = true) (h2 : Mp.gl sc y = true) (h3 : seq z "range" = true) (h4 : Mp.gl sc z = true) (hx : nst x = true) (o : t.Ok) (ha : PE X x (tE t cl Wx a)) :
    PE X (.Call (.Name y p) [.Call (.Name z p2) [x] [] pos2] [] pos) (tE t cl Wx (.lrng m a)) := by
  have e1 := seq_eq h1
  have e2 := seq_eq h3
  subst e1
  subst e2
  refine pe_imp (pe_listRg c.calm (c.gl h2) (c.free o (by decide)) (prg_1 (c.gl h4) (c.free o (by decide)) ha (star_cons hx)) (star_cons rfl)) fun σ H Q ⟨G, ls, lh, re, rp, h⟩ => ?_
  simp only [evE] at h
  refine ⟨G, ls, lh, re, rp, h.bind fun w l1 G1 H1 v _ e1 rp1 rv h1 => ?_⟩
  unfold rng at h1
  cases w <;> first | exact h1.elim | skip
  rename_i j _
  refine ⟨j, rv.int_eq, ?_⟩
  dsimp only at h1
  split at h1
  · rename_i hr
    have hr' := of_decide_eq_true hr
    refine ⟨⟨hr'.1, hr'.2.1, hr'.2.2.1, hr'.2.2.2.1, Nat.le_trans hr'.2.2.2.2 (show big ≤ 2 ^ 24 by decide)⟩, fun q hq => ?_⟩
    have hv : RVs t.g G1 H1 (rngW 0 j) (rgV 0 j) := by
      have : rngW 0 j = ((List.range (j - 0).toNat).map fun (i : Nat) => (0 + (i : Int))).map W.int := by unfold rngW; rw [List.map_map]; rfl
      rw [this]
      have e2 : rgV 0 j = ((List.range (j - 0).toNat).map fun (i : Nat) => (0 + (i : Int))).map V.int := by unfold rgV; rw [List.map_map]; rfl
      rw [e2]
      exact RVs.of_ints _
    dsimp only [R.bind] at h1
    cases m with
    | true => exact post_ref rp1 hv h1 hq
    | false => exact post_fl rp1 hv h1 hq
  · exact h1.elim
theorem snd_frz {a : E} {x : Expr} (ha : PE X x (tE t cl Wx a)) : PE X x (tE t cl Wx (.frz a)) := by
  refine pe_imp ha fun σ H Q ⟨G, ls, lh, re, rp, h⟩ => ?_
  simp only [evE] at h
  refine ⟨G, ls, lh, re, rp, h.bind fun w l1 G1 H1 v _ e1 rp1 rv h1 => ?_⟩
  cases w <;> first | exact h1.elim | skip
  rename_i k
  dsimp only at h1
  split at h1
  · rename_i xs hk
    unfold RV at rv
    obtain ⟨p, rfl, hp⟩ := rv
    obtain ⟨ys, hy, rs⟩ := rp1.lst hk hp
    obtain ⟨e2, rp2⟩ := rp1.freeze hk hp (fun z => by cases z)
    refine h1.at e2 rp2 ?_
    unfold RV
    exact ⟨p, ys, rfl, .inr rfl, hy, rs.mono e2.toMono⟩
  · exact h1.elim
theorem snd_frzd {a : E} {x : Expr} (ha : PE X x (tE t cl Wx a)) : PE X x (tE t cl Wx (.frzd a)) := by
  refine pe_imp ha fun σ H Q ⟨G, ls, lh, re, rp, h⟩ => ?_
  simp only [evE] at h
  refine ⟨G, ls, lh, re, rp, h.bind fun w l1 G1 H1 v _ e1 rp1 rv h1 => ?_⟩
  cases w <;> first | exact h1.elim | skip
  rename_i k
  dsimp only at h1
  split at h1
  · rename_i ks vs hk
    unfold RV at rv
    obtain ⟨p, rfl, hp⟩ := rv
    obtain ⟨ho, q0, xs, dh, rs⟩ := rp1.at hk hp
    obtain ⟨e2, rp2⟩ := rp1.freeze hk hp (fun z => by cases z)
    refine h1.at e2 rp2 ?_
    unfold RV
    exact ⟨p, ho, xs, rfl, .inr rfl, q0, dh, rs.mono e2.toMono⟩
  · exact h1.elim
end
end Mp
namespace Mp
open PySem PySem.Spec PyProof.Rows L2
/-! ### what loops walk -/
section
variable {g : Gw} {G G2 : Gh} {H H2 : Hp} {lh lh2 : LH} {w : W} {ws : List W} {a : Addr}
theorem gok_mem {gd : Gd} (h : gOk gd lh = true) {n : Nat} {xs : List W} (hm : (n, xs) ∈ gd) : lh[n]? = some (.lst xs) := by
  unfold gOk at h
  have := List.all_eq_true.mp h (n, xs) hm
  dsimp only at this
  split at this
  · rename_i ys e
    have e2 : ys = xs := of_decide_eq_true this
    rw [e, e2]
  · cases this
theorem gok_app {g1 g2 : Gd} (h : gOk (g1 ++ g2) lh = true) : gOk g1 lh = true ∧ gOk g2 lh = true := by
  unfold gOk at h ⊢
  rw [List.all_append] at h
  exact ba h
/-- a list that is walked stands -/
theorem sq_at (rv : RV g G H w (.ref a)) (e : lstOf lh w = some ws) (m : Mono g G H G2 H2) (rp2 : Rep g G2 lh2 H2) (hg : gOk (gdOf lh w) lh2 = true) : ∃ ys, SqL g.K H2 a ys ∧ RVs g G2 H2 ws ys := by
  have rv2 := rv.mono m
  unfold lstOf at e
  split at e
  · cases e
    unfold RV at rv2
    obtain ⟨p, xs, e1, _, b, c⟩ := rv2
    cases e1
    exact ⟨xs, SqL.of b, c⟩
  · cases e
    unfold RV at rv2
    obtain ⟨p, xs, e1, b, c⟩ := rv2
    cases e1
    exact ⟨xs, b.sqL, c⟩
  · rename_i n
    split at e
    · rename_i xs hn
      cases e
      have : (n, ws) ∈ gdOf lh (.ref n) := by
        unfold gdOf
        dsimp only
        rw [hn]
        exact List.mem_singleton.mpr rfl
      have h2 := gok_mem hg this
      unfold RV at rv2
      obtain ⟨p, e1, hp⟩ := rv2
      cases e1
      obtain ⟨ys, q1, q2⟩ := rp2.lst h2 hp
      exact ⟨ys, SqL.of q1, q2⟩
    · cases e
  · cases e
theorem sqt_at (rv : RV g G H (.tup ws) (.ref a)) (m : Mono g G H G2 H2) : ∃ ys, SqT g.K H2 a ys ∧ RVs g G2 H2 ws ys := by
  obtain ⟨p, xs, e, s, r⟩ := (rv.mono m).tup_eq
  cases e
  exact ⟨xs, s, r⟩
/-- what a walk of the same heap gives -/
theorem wk_same {J : It} {n : Nat} {Gp : Hp → Prop} {ys : List V} (wk : Walk J n Gp fun i H x H' => H' = H ∧ ys[i]? = some x) (hn : ws.length = n) (hg : Gp H2) (rp2 : Rep g G2 lh2 H2) (rs : RVs g G2 H2 ws ys) :
    J.stop ws.length H2 ∧ ∀ (i : Nat) (w : W), ws[i]? = some w → J.go i H2 ∧ ∀ x H3, J.yld i H2 x H3 → ∃ G3, Ext g G2 H2 G3 H3 ∧ Rep g G3 lh2 H3 ∧ RV g G3 H3 w x := by
  refine ⟨by rw [hn]; exact wk.stops _ hg, fun i w hw => ?_⟩
  have hi : i < n := by rw [← hn]; exact (List.getElem?_eq_some_iff.mp hw).1
  refine ⟨wk.goes i _ hi hg, fun x H3 hy => ?_⟩
  obtain ⟨rfl, hx⟩ := wk.yields i _ x H3 hi hg hy
  obtain ⟨x', q1, q2⟩ := rs.get hw
  rw [hx] at q1
  cases q1
  exact ⟨G2, Ext.refl, rp2, q2⟩
/-- what a walk that makes pairs gives -/
theorem wk_pair {J : It} {n : Nat} {Gp : Hp → Prop} {ps : List (W × W)} {us vs : List V} (wk : Walk J n Gp (YPair (fun i => us[i]?) (fun i => vs[i]?))) (hn : ps.length = n) (hg : Gp H2) (rp2 : Rep g G2 lh2 H2)
    (r1 : ∀ (i : Nat) p, ps[i]? = some p → ∃ x y, us[i]? = some x ∧ vs[i]? = some y ∧ RV g G2 H2 p.1 x ∧ RV g G2 H2 p.2 y) :
    J.stop ps.length H2 ∧ ∀ (i : Nat) (p : W × W), ps[i]? = some p → J.go i H2 ∧ ∀ x H3, J.yld i H2 x H3 → ∃ G3, Ext g G2 H2 G3 H3 ∧ Rep g G3 lh2 H3 ∧ RV g G3 H3 (.tup [p.1, p.2]) x := by
  refine ⟨by rw [hn]; exact wk.stops _ hg, fun i p hw => ?_⟩
  have hi : i < n := by rw [← hn]; exact (List.getElem?_eq_some_iff.mp hw).1
  refine ⟨wk.goes i _ hi hg, fun x H3 hy => ?_⟩
  obtain ⟨T, x1, y1, rfl, hT, rfl, q1, q2⟩ := wk.yields i _ x H3 hi hg hy
  obtain ⟨x2, y2, q3, q4, q5, q6⟩ := r1 i p hw
  dsimp only at q1 q2
  rw [q1] at q3
  rw [q2] at q4
  cases q3
  cases q4
  obtain ⟨e, rp3⟩ := rp2.tup (xs := [x1, y1]) hT
  refine ⟨G2, e, rp3, ?_⟩
  unfold RV
  exact ⟨T, _, rfl, .inl (.inl upd_same), RVs.cons (q5.mono e.toMono) (RVs.cons (q6.mono e.toMono) RVs.nil)⟩
theorem enumW_len : ∀ (xs : List W) (k : Nat), (enumW k xs).length = xs.length
  | [], _ => rfl
  | _ :: xs, k => congrArg Nat.succ (enumW_len xs (k + 1))
theorem enumW_get : ∀ (xs : List W) (k i : Nat), (enumW k xs)[i]? = (xs[i]?).map fun x => W.tup [.int ((k + i : Nat) : Int), x]
  | [], _, _ => by simp [enumW]
  | x :: xs, k, 0 => by simp [enumW]
  | x :: xs, k, i + 1 => by
    have := enumW_get xs (k + 1) i
    simp only [enumW, List.getElem?_cons_succ, this]
    have e : k + 1 + i = k + (i + 1) := by omega
    rw [e]
theorem zipW_eq : ∀ xs ys : List W, zipW xs ys = (xs.zip ys).map fun p => W.tup [p.1, p.2]
  | [], _ => by simp [zipW]
  | _ :: _, [] => by simp [zipW]
  | x :: xs, y :: ys => by simp [zipW, zipW_eq xs ys]
end
section
variable {t : Tp} {cl : Cl} {X : Cx} {Wx : WX} {n : Nat} {ar : Ar} {N : List Str} {fn : Str → Bool} {sc : Scope} (c : Cok t X Wx n N fn sc) (o : t.Ok)
include c
theorem snd_itv {a : E} {x tg : Expr} (ha : PE X x (tE t cl Wx a)) : PI X tg x (tI t cl Wx (.itv a)) := by
  refine pi_dep fun σ H R ⟨G, ls, lh, re, rp, h⟩ => ?_
  simp only [evI] at h
  by_cases ht : ∃ ws l1, evE t.T cl a ls lh = .ok (.tup ws) l1
  · obtain ⟨ws, l1, e⟩ := ht
    refine ⟨_, pi_tup ha, G, ls, lh, re, rp, h.bind fun w l2 G1 H1 v e2 e1 rp1 rv h1 => ?_⟩
    rw [e] at e2
    cases e2
    obtain ⟨p, xs, rfl, s, r⟩ := rv.tup_eq
    rw [c.hK]
    refine ⟨p, rfl, ⟨xs, s⟩, ?_⟩
    refine h1.here rp1 fun G2 H2 lh2 m rp2 hg => ?_
    obtain ⟨ys, s2, r2⟩ := sqt_at rv m
    exact wk_same walk_tup (RVs.length r2) s2 rp2 r2
  · refine ⟨_, pi_list ha, G, ls, lh, re, rp, h.bind fun w l1 G1 H1 v e2 e1 rp1 rv h1 => ?_⟩
    split at h1
    · rename_i xs hs
      obtain ⟨p, ys, rfl, hq, rs⟩ := seqOf_spec rp1 rv hs
      rcases hq with ⟨hl, s⟩ | ⟨rfl, s⟩
      · rw [c.hK]
        refine ⟨p, rfl, ⟨ys, s⟩, ?_⟩
        refine h1.here rp1 fun G2 H2 lh2 m rp2 hg => ?_
        obtain ⟨ys2, s2, r2⟩ := sq_at rv hl m rp2 hg
        exact wk_same walk_list (RVs.length r2) s2 rp2 r2
      · exact (ht ⟨_, _, e2⟩).elim
    · exact h1.elim
omit c in
theorem rng_walk {g : Gw} {G1 : Gh} {H1 : Hp} {i j : Int} : WalkW g G1 H1 (rngW i j, []) (Itr i (j - i).toNat) := by
  intro G2 H2 lh2 m rp2 hg
  have hl : (rngW i j).length = (j - i).toNat := by unfold rngW; rw [List.length_map, List.length_range]
  refine ⟨?_, fun k w hk => ?_⟩
  · show (j - i).toNat ≤ (rngW i j).length
    omega
  · have hk' : (rngW i j)[k]? = some w := hk
    have hi : k < (j - i).toNat := by rw [← hl]; exact (List.getElem?_eq_some_iff.mp hk').1
    refine ⟨hi, fun x H3 ⟨e1, e2⟩ => ?_⟩
    subst e1
    subst e2
    refine ⟨G2, Ext.refl, rp2, ?_⟩
    unfold rngW at hk'
    rw [List.getElem?_map, List.getElem?_range hi] at hk'
    cases hk'
    exact rv_int
include o in
theorem snd_rng1 {a : E} {x tg : Expr} {y : Str} {p pos : Pos} (h1 : seq y "range" = true) (h2 : Mp.gl sc y = true) (hx : nst x = true) (ha : PE X x (tE t cl Wx a)) : PI X tg (.Call (.Name y p) [x] [] pos) (tI t cl Wx (.rng1 a)) := by
  have e := seq_eq h1
  subst e
  refine pi_imp (pi_range1 (c.gl h2) (c.free o (by decide)) (pa_cons ha pa_nil (star_cons hx)) (star_cons hx)) fun σ H R ⟨G, ls, lh, re, rp, h⟩ => ?_
  simp only [evI] at h
  refine ⟨G, ls, lh, re, rp, h.bind fun w l1 G1 H1 v _ e1 rp1 rv h1 => ?_⟩
  unfold rng at h1
  cases w <;> first | exact h1.elim | skip
  rename_i j _
  dsimp only at h1
  split at h1
  · rename_i hr
    have hr' := of_decide_eq_true hr
    refine ⟨j, by rw [rv.int_eq], hr'.2.2.1, hr'.2.2.2.1, ?_⟩
    have := h1.here rp1 (rng_walk (i := 0) (j := j))
    rwa [Int.sub_zero] at this
  · exact h1.elim
include o in
theorem snd_rng2 {a b : E} {x z tg : Expr} {y : Str} {p pos : Pos} (h1 : seq y "range" = true) (h2 : Mp.gl sc y = true) (hx : nst x = true) (hz : nst z = true) (ha : PE X x (tE t cl Wx a)) (hb : PE X z (tE t cl Wx b)) : PI X tg (.Call (.Name y p) [x, z] [] pos) (tI t cl Wx (.rng2 a b)) := by
  have e := seq_eq h1
  subst e
  refine pi_imp (pi_range2 (c.gl h2) (c.free o (by decide)) (pa_cons ha (pa_cons hb pa_nil (star_cons hz)) (star_cons hx)) (by rw [star_cons hx, star_cons hz]; rfl) (star_cons hz)) fun σ H R ⟨G, ls, lh, re, rp, h⟩ => ?_
  simp only [evI] at h
  refine ⟨G, ls, lh, re, rp, h.bind fun w l1 G1 H1 v _ e1 rp1 rv h1 => ⟨G1, ls, l1, re.mono e1.toMono, rp1, h1.bind fun w2 l2 G2 H2 v2 _ e2 rp2 rv2 h2 => ?_⟩⟩
  unfold rng at h2
  cases w <;> first | exact h2.elim | skip
  rename_i i _
  cases w2 <;> first | exact h2.elim | skip
  rename_i j _
  dsimp only at h2
  split at h2
  · rename_i hr
    have hr' := of_decide_eq_true hr
    exact ⟨i, j, by rw [rv.int_eq, rv2.int_eq], ⟨hr'.1, hr'.2.1, hr'.2.2.1, hr'.2.2.2.1⟩, h2.here rp2 rng_walk⟩
  · exact h2.elim
include o in
theorem snd_rng3 {a b d : E} {x z v tg : Expr} {y : Str} {p pos : Pos} (h1 : seq y "range" = true) (h2 : Mp.gl sc y = true) (hx : nst x = true) (hz : nst z = true) (hv : nst v = true) (ha : PE X x (tE t cl Wx a)) (hb : PE X z (tE t cl Wx b)) (hd : PE X v (tE t cl Wx d)) : PI X tg (.Call (.Name y p) [x, z, v] [] pos) (tI t cl Wx (.rng3 a b d)) := by
  have e := seq_eq h1
  subst e
  refine pi_imp (pi_range3 (c.gl h2) (c.free o (by decide)) (pa_cons ha (pa_cons hb (pa_cons hd pa_nil (star_cons hv)) (star_cons hz)) (star_cons hx)) (star_cons hx) (by rw [star_cons hz, star_cons hv]; rfl)) fun σ H R ⟨G, ls, lh, re, rp, h⟩ => ?_
  simp only [evI] at h
  refine ⟨G, ls, lh, re, rp, h.bind fun w l1 G1 H1 v _ e1 rp1 rv h1 => ⟨G1, ls, l1, re.mono e1.toMono, rp1, h1.bind fun w2 l2 G2 H2 v2 _ e2 rp2 rv2 h2 => ⟨G2, ls, l2, (re.mono e1.toMono).mono e2.toMono, rp2, h2.bind fun w3 l3 G3 H3 v3 _ e3 rp3 rv3 h3 => ?_⟩⟩⟩
  unfold rng3 at h3
  cases w <;> first | exact h3.elim | skip
  rename_i i _
  cases w2 <;> first | exact h3.elim | skip
  rename_i j _
  cases w3 <;> first | exact h3.elim | skip
  rename_i k _
  dsimp only at h3
  split at h3
  · rename_i hr
    obtain ⟨hr, hz⟩ := hr
    generalize hn : (Builtin.Range.rangeSize i j k).toNat = m at h3 hr
    refine ⟨i, j, k, m, by rw [rv.int_eq, rv2.int_eq, rv3.int_eq], hr, h3.here rp3 ?_⟩
    intro G4 H4 lh4 mo rp4 hg
    have hl : (rng3W i k m).length = m := by unfold rng3W; rw [List.length_map, List.length_range]
    refine ⟨?_, fun q w hk => ?_⟩
    · show m ≤ (rng3W i k m).length
      omega
    · have hk' : (rng3W i k m)[q]? = some w := hk
      have hi : q < m := by rw [← hl]; exact (List.getElem?_eq_some_iff.mp hk').1
      refine ⟨hi, fun x H5 ⟨e1, e2⟩ => ?_⟩
      subst e1
      subst e2
      refine ⟨G4, Ext.refl, rp4, ?_⟩
      unfold rng3W at hk'
      rw [List.getElem?_map, List.getElem?_range hi] at hk'
      cases hk'
      exact rv_int
  · exact h3.elim
omit c in
/-- what an enumeration gives -/
theorem en_yld {g : Gw} {G2 : Gh} {H2 H3 : Hp} {lh2 : LH} {xs : List W} {zs : List V} {i : Nat} {w : W} {v : V} (rp2 : Rep g G2 lh2 H2) (r2 : RVs g G2 H2 xs zs) (hw : (enumW 0 xs)[i]? = some w) (hy : ∃ T x, v = .ref T ∧ H2 T = none ∧ H3 = upd H2 T (.tup [.int (i : Nat), x]) ∧ zs[i]? = some x) :
    ∃ G3, Ext g G2 H2 G3 H3 ∧ Rep g G3 lh2 H3 ∧ RV g G3 H3 w v := by
  rw [enumW_get] at hw
  obtain ⟨u, hu, rfl⟩ := Option.map_eq_some_iff.mp hw
  obtain ⟨T, y1, rfl, hT, rfl, q2⟩ := hy
  obtain ⟨x2, q3, q4⟩ := r2.get hu
  rw [q2] at q3
  cases q3
  obtain ⟨e, rp3⟩ := rp2.tup (xs := [V.int (i : Nat), y1]) hT
  refine ⟨G2, e, rp3, ?_⟩
  unfold RV
  refine ⟨T, _, rfl, .inl (.inl upd_same), RVs.cons ?_ (RVs.cons (q4.mono e.toMono) RVs.nil)⟩
  rw [Nat.zero_add]
  exact rv_int
omit c in
theorem en_lt {xs : List W} {i : Nat} {w : W} (hw : (enumW 0 xs)[i]? = some w) : i < xs.length := by
  have := (List.getElem?_eq_some_iff.mp hw).1
  rwa [enumW_len] at this
include o in
theorem snd_enum {a : E} {x : Expr} {y : Str} {es : List Expr} {k : Nat} {p pos tpos : Pos} (h1 : seq y "enumerate" = true) (h2 : Mp.gl sc y = true) (hx : nst x = true) (ha : PE X x (tE t cl Wx a)) : PI X (.Tuple es k tpos) (.Call (.Name y p) [x] [] pos) (tI t cl Wx (.enum a)) := by
  have e := seq_eq h1
  subst e
  refine pi_dep fun σ H R ⟨G, ls, lh, re, rp, h⟩ => ?_
  simp only [evI] at h
  by_cases ht : ∃ ws l1, evE t.T cl a ls lh = .ok (.tup ws) l1
  · obtain ⟨ws, l1, e⟩ := ht
    refine ⟨_, pi_ent (c.gl h2) (c.free o (by decide)) (pa_cons ha pa_nil (star_cons hx)) (star_cons hx), G, ls, lh, re, rp, h.bind fun w l2 G1 H1 v e2 e1 rp1 rv h1 => ?_⟩
    rw [e] at e2
    cases e2
    obtain ⟨q, xs, rfl, s, r⟩ := rv.tup_eq
    rw [c.hK]
    refine ⟨q, xs, rfl, s, h1.here rp1 fun G2 H2 lh2 m rp2 hg => ?_⟩
    obtain ⟨zs, s2, r2⟩ := sqt_at rv m
    have hl := RVs.length r2
    refine ⟨⟨zs, s2, by rw [enumW_len, hl]; exact Nat.le_refl _⟩, fun i w hw => ?_⟩
    have hi := en_lt hw
    refine ⟨⟨zs, zs[i]'(by omega), s2, by simp [show i < zs.length by omega]⟩, fun x H3 hy => ?_⟩
    obtain ⟨T, y1, q1, q2, q3, q4⟩ := hy
    exact en_yld rp2 r2 hw ⟨T, y1, q1, q2, q3, q4 zs s2⟩
  · refine ⟨_, pi_enum (c.gl h2) (c.free o (by decide)) (pa_cons ha pa_nil (star_cons hx)) (star_cons hx), G, ls, lh, re, rp, h.bind fun w l1 G1 H1 v e2 e1 rp1 rv h1 => ?_⟩
    split at h1
    · rename_i xs hs
      obtain ⟨q, ys, rfl, hq, rs⟩ := seqOf_spec rp1 rv hs
      rcases hq with ⟨hl, s⟩ | ⟨rfl, s⟩
      · rw [c.hK]
        refine ⟨q, ys, rfl, s, h1.here rp1 fun G2 H2 lh2 m rp2 hg => ?_⟩
        obtain ⟨zs, s2, r2⟩ := sq_at rv hl m rp2 hg
        have hl2 := RVs.length r2
        refine ⟨⟨zs, s2, by rw [enumW_len, hl2]; exact Nat.le_refl _⟩, fun i w hw => ?_⟩
        have hi := en_lt hw
        refine ⟨⟨zs, zs[i]'(by omega), s2, by simp [show i < zs.length by omega]⟩, fun x H3 hy => ?_⟩
        obtain ⟨T, y1, q1, q2, q3, q4⟩ := hy
        exact en_yld rp2 r2 hw ⟨T, y1, q1, q2, q3, q4 zs s2⟩
      · exact (ht ⟨_, _, e2⟩).elim
    · exact h1.elim
include o in
theorem snd_rev {a : E} {x tg : Expr} {y : Str} {p pos : Pos} (h1 : seq y "reversed" = true) (h2 : Mp.gl sc y = true) (hx : nst x = true) (ha : PE X x (tE t cl Wx a)) : PI X tg (.Call (.Name y p) [x] [] pos) (tI t cl Wx (.rev a)) := by
  have e := seq_eq h1
  subst e
  refine pi_imp (RT.pi_revA (c.gl h2) (c.free o (by decide)) ha (star_cons hx)) fun σ H R ⟨G, ls, lh, re, rp, h⟩ => ?_
  simp only [evI] at h
  refine ⟨G, ls, lh, re, rp, h.bind fun w l1 G1 H1 v _ e1 rp1 rv h1 => ?_⟩
  split at h1
  · rename_i xs hs
    have back : ∀ (zs : List V) (G2 : Gh) (H2 : Hp) (i : Nat) (u : W) (z : V), RVs t.g G2 H2 xs zs → xs.reverse[i]? = some u → zs[zs.length - 1 - i]? = some z → RV t.g G2 H2 u z := fun zs G2 H2 i u z r hu hz => by
      have hi : i < xs.reverse.length := (List.getElem?_eq_some_iff.mp hu).1
      rw [List.length_reverse] at hi
      rw [List.getElem?_reverse hi, RVs.length r] at hu
      obtain ⟨z', q1, q2⟩ := r.get hu
      rw [hz] at q1
      cases q1
      exact q2
    obtain ⟨q, ys, rfl, hq, rs⟩ := seqOf_spec rp1 rv hs
    rw [c.hK]
    rcases hq with ⟨hl, s⟩ | ⟨rfl, s⟩
    · refine ⟨q, ys, rfl, .inl ⟨s, h1.here rp1 fun G2 H2 lh2 m rp2 hg => ?_⟩⟩
      obtain ⟨zs, s2, r2⟩ := sq_at rv hl m rp2 hg
      have hz : ys.length = zs.length := (RVs.length rs).symm.trans (RVs.length r2)
      rw [hz]
      refine ⟨?_, fun i u hu => ?_⟩
      · show zs.length ≤ xs.reverse.length
        rw [List.length_reverse, RVs.length r2]; exact Nat.le_refl _
      · have hu' : xs.reverse[i]? = some u := hu
        have hi : i < xs.reverse.length := (List.getElem?_eq_some_iff.mp hu').1
        rw [List.length_reverse, RVs.length r2] at hi
        refine ⟨walk_rev.goes i _ hi s2, fun x H3 hy => ?_⟩
        obtain ⟨rfl, hx⟩ := walk_rev.yields i _ x H3 hi s2 hy
        exact ⟨G2, Ext.refl, rp2, back zs G2 H3 i u x r2 hu' hx⟩
    · refine ⟨q, ys, rfl, .inr ⟨s, h1.here rp1 fun G2 H2 lh2 m rp2 hg => ?_⟩⟩
      obtain ⟨zs, s2, r2⟩ := sqt_at rv m
      have hz : ys.length = zs.length := (RVs.length rs).symm.trans (RVs.length r2)
      rw [hz]
      refine ⟨?_, fun i u hu => ?_⟩
      · show zs.length ≤ xs.reverse.length
        rw [List.length_reverse, RVs.length r2]; exact Nat.le_refl _
      · have hu' : xs.reverse[i]? = some u := hu
        have hi : i < xs.reverse.length := (List.getElem?_eq_some_iff.mp hu').1
        rw [List.length_reverse, RVs.length r2] at hi
        refine ⟨⟨hi, zs, zs[zs.length - 1 - i]'(by omega), s2, by simp [show zs.length - 1 - i < zs.length by omega]⟩, fun x H3 ⟨e1, hy⟩ => ?_⟩
        subst e1
        exact ⟨G2, Ext.refl, rp2, back zs G2 H3 i u x r2 hu' (hy zs s2)⟩
  · exact h1.elim
omit c in
theorem zip_get {xs ys : List W} {zs us : List V} {g : Gw} {G2 : Gh} {H2 : Hp} (r1 : RVs g G2 H2 xs zs) (r2 : RVs g G2 H2 ys us) (i : Nat) (p : W × W) (h : (xs.zip ys)[i]? = some p) : ∃ x y, zs[i]? = some x ∧ us[i]? = some y ∧ RV g G2 H2 p.1 x ∧ RV g G2 H2 p.2 y := by
  rw [List.getElem?_zip_eq_some] at h
  obtain ⟨x, a1, a2⟩ := r1.get h.1
  obtain ⟨y, b1, b2⟩ := r2.get h.2
  exact ⟨x, y, a1, b1, a2, b2⟩
omit c in
/-- a sequence that is walked stands -/
theorem sqB_at {g : Gw} {G G2 : Gh} {H H2 : Hp} {lh lh2 : LH} {w : W} {ws : List W} {a : Addr} {t1 : Bool} (rv : RV g G H w (.ref a)) (e : seqOf lh w = some ws) (ht : t1 = true ↔ ∃ us, w = .tup us) (m : Mono g G H G2 H2) (rp2 : Rep g G2 lh2 H2) (hg : gOk (gdOf lh w) lh2 = true) : ∃ ys, SqB t1 g.K H2 a ys ∧ RVs g G2 H2 ws ys := by
  cases t1 with
  | true =>
    obtain ⟨us, rfl⟩ := ht.mp rfl
    unfold seqOf at e
    cases e
    exact sqt_at rv m
  | false =>
    have hn : ¬ ∃ us, w = .tup us := fun z => by cases ht.mpr z
    have e2 : lstOf lh w = some ws := by
      cases w <;> first | exact e | exact (hn ⟨_, rfl⟩).elim
    exact sq_at rv e2 m rp2 hg
omit c in
theorem sqB_now {g : Gw} {G : Gh} {H : Hp} {lh : LH} {w : W} {ws : List W} {v : V} {t1 : Bool} (rp : Rep g G lh H) (rv : RV g G H w v) (e : seqOf lh w = some ws) (ht : t1 = true ↔ ∃ us, w = .tup us) : ∃ a xs, v = .ref a ∧ SqB t1 g.K H a xs := by
  obtain ⟨p, xs, rfl, hq, _⟩ := seqOf_spec rp rv e
  cases t1 with
  | true =>
    obtain ⟨us, rfl⟩ := ht.mp rfl
    rcases hq with ⟨h, _⟩ | ⟨_, s⟩
    · cases h
    · exact ⟨p, xs, rfl, s⟩
  | false =>
    rcases hq with ⟨_, s⟩ | ⟨rfl, _⟩
    · exact ⟨p, xs, rfl, s⟩
    · cases ht.mpr ⟨_, rfl⟩
omit c in
theorem bool_of (p : Prop) : ∃ b : Bool, b = true ↔ p := by
  by_cases h : p
  · exact ⟨true, by simp [h]⟩
  · exact ⟨false, by simp [h]⟩
include o in
theorem snd_zip {a b : E} {x z : Expr} {y : Str} {es : List Expr} {k : Nat} {p pos tpos : Pos} (h1 : seq y "zip" = true) (h2 : Mp.gl sc y = true) (hx : nst x = true) (hz : nst z = true) (ha : PE X x (tE t cl Wx a)) (hb : PE X z (tE t cl Wx b)) : PI X (.Tuple es k tpos) (.Call (.Name y p) [x, z] [] pos) (tI t cl Wx (.zip a b)) := by
  have e := seq_eq h1
  subst e
  refine pi_dep fun σ H R ⟨G, ls, lh, re, rp, h⟩ => ?_
  obtain ⟨t1, ht1⟩ := bool_of (∃ us l1, evE t.T cl a ls lh = .ok (.tup us) l1)
  obtain ⟨t2, ht2⟩ := bool_of (∃ w l1 us l2, evE t.T cl a ls lh = .ok w l1 ∧ evE t.T cl b ls l1 = .ok (.tup us) l2)
  refine ⟨_, pi_zipB (t1 := t1) (t2 := t2) (c.gl h2) (c.free o (by decide)) (pa_cons ha (pa_cons hb pa_nil (star_cons hz)) (star_cons hx)) (star_cons hx) (by rw [star_cons hz]; rfl), ?_⟩
  simp only [evI] at h
  refine ⟨G, ls, lh, re, rp, h.bind fun w l1 G1 H1 v q1 e1 rp1 rv h1 => ⟨G1, ls, l1, re.mono e1.toMono, rp1, h1.bind fun w2 l2 G2 H2 v2 q2 e2 rp2 rv2 h2 => ?_⟩⟩
  have k1 : t1 = true ↔ ∃ us, w = .tup us := ht1.trans ⟨fun ⟨us, l, z⟩ => by rw [q1] at z; cases z; exact ⟨us, rfl⟩, fun ⟨us, z⟩ => ⟨us, l1, by rw [q1, z]⟩⟩
  have k2 : t2 = true ↔ ∃ us, w2 = .tup us := ht2.trans ⟨fun ⟨w', l, us, l', z1, z2⟩ => by rw [q1] at z1; cases z1; rw [q2] at z2; cases z2; exact ⟨us, rfl⟩, fun ⟨us, z⟩ => ⟨w, l1, us, l2, q1, by rw [q2, z]⟩⟩
  have rv1 := rv.mono e2.toMono
  split at h2
  case h_2 => exact h2.elim
  rename_i q hq
  obtain ⟨xs, ys⟩ := q
  unfold zip2 at hq
  split at hq
  case h_2 => cases hq
  rename_i us vs s1 s2
  cases hq
  rw [c.hK]
  obtain ⟨p1, a1, rfl, z1⟩ := sqB_now rp2 rv1 s1 k1
  obtain ⟨p2, a2, rfl, z2⟩ := sqB_now rp2 rv2 s2 k2
  refine ⟨p1, p2, a1, a2, rfl, z1, z2, h2.here rp2 fun G3 H3 l3 m rp3 hg => ?_⟩
  obtain ⟨hg1, hg2⟩ := gok_app hg
  obtain ⟨b1, c1, d1⟩ := sqB_at rv1 s1 k1 m rp3 hg1
  obtain ⟨b2, c2, d2⟩ := sqB_at rv2 s2 k2 m rp3 hg2
  have n1 := RVs.length d1
  have n2 := RVs.length d2
  rw [zipW_eq]
  refine ⟨⟨b1, b2, c1, c2, ?_, ?_, ?_⟩, fun i w hw => ?_⟩
  · show ((xs.zip ys).map _).length ≤ _
    rw [List.length_map, List.length_zip]; omega
  · show ((xs.zip ys).map _).length ≤ _
    rw [List.length_map, List.length_zip]; omega
  · show ((xs.zip ys).map _).length = _ ∨ ((xs.zip ys).map _).length = _
    rw [List.length_map, List.length_zip]; omega
  · have hw' : ((xs.zip ys).map fun p => W.tup [p.1, p.2])[i]? = some w := hw
    rw [List.getElem?_map] at hw'
    obtain ⟨p, hp, rfl⟩ := Option.map_eq_some_iff.mp hw'
    rw [List.getElem?_zip_eq_some] at hp
    obtain ⟨x1, r1, r2⟩ := d1.get hp.1
    obtain ⟨y1, r3, r4⟩ := d2.get hp.2
    refine ⟨⟨b1, b2, x1, y1, c1, c2, r1, r3⟩, fun x H4 hy => ?_⟩
    obtain ⟨T, x2, y2, rfl, hT, rfl, f1, f2⟩ := hy
    have g1 := f1 b1 c1
    have g2 := f2 b2 c2
    rw [r1] at g1
    rw [r3] at g2
    cases g1
    cases g2
    obtain ⟨e, rp4⟩ := rp3.tup (xs := [x1, y1]) hT
    refine ⟨G3, e, rp4, ?_⟩
    unfold RV
    exact ⟨T, _, rfl, .inl (.inl upd_same), RVs.cons (r2.mono e.toMono) (RVs.cons (r4.mono e.toMono) RVs.nil)⟩
end
end Mp
namespace Mp
open PySem PySem.Spec PyProof.Rows L2
/-! ### targets -/
def gNames : List Nat → TGs
  | [] => gNil
  | i :: is => gCons (gName i) (gNames is)
def gT (K : PySem.W.Frag) : Tg → TG
  | .one i => gName i
  | .many is => fun v σ H Q => gTup K is.length (gNames is) v σ H Q ∨ gLst K is.length (gNames is) v σ H Q
theorem pg_or {X : Cx} {e : Expr} {t u : TG} (h1 : PG X e t) (h2 : PG X e u) : PG X e (fun v σ H Q => t v σ H Q ∨ u v σ H Q) := ⟨fun pins s σ H v w Q I r q => q.elim (h1.run pins s σ H v w Q I r) (h2.run pins s σ H v w Q I r)⟩
theorem wipe_get : ∀ (vs : List Nat) (σ : Sst) (j : Nat), (wipe σ vs)[j]? = if j ∈ vs then (σ[j]?).map fun _ => none else σ[j]?
  | [], σ, j => by simp [wipe]
  | v :: vs, σ, j => by
    show ((wipe σ vs).set v none)[j]? = _
    have ih := wipe_get vs σ j
    by_cases h : v = j
    · subst h
      rw [if_pos (List.mem_cons_self ..)]
      by_cases hl : v < (wipe σ vs).length
      · rw [List.getElem?_set_self hl]
        have : v < σ.length := by
          have : (wipe σ vs)[v]? ≠ none := by simp [hl]
          rw [ih] at this
          refine Classical.byContradiction fun z => this ?_
          have : σ[v]? = none := by simp; omega
          rw [this]; simp
        simp [this]
      · have : (wipe σ vs)[v]? = none := by simp; omega
        rw [List.getElem?_set, if_pos rfl, if_neg hl]
        rw [ih] at this
        split at this
        · exact this.symm
        · rw [this]; rfl
    · rw [List.getElem?_set_ne h, ih]
      have : (j ∈ v :: vs) ↔ j ∈ vs := by simp [Ne.symm h]
      simp only [this]
theorem wipe_set {σ : Sst} {i : Nat} {v : Option V} {own : List Nat} (h : i ∈ own) : wipe (σ.set i v) own = wipe σ own := by
  apply List.ext_getElem?
  intro j
  rw [wipe_get, wipe_get]
  by_cases hj : j ∈ own
  · rw [if_pos hj, if_pos hj, List.getElem?_set]
    split
    · rename_i e
      subst e
      by_cases hl : i < σ.length
      · simp [hl]
      · simp [hl]
    · rfl
  · rw [if_neg hj, if_neg hj, List.getElem?_set_ne]
    exact fun e => hj (e ▸ h)
theorem wipe_idem {σ : Sst} {own : List Nat} : wipe (wipe σ own) own = wipe σ own := by
  apply List.ext_getElem?
  intro j
  rw [wipe_get, wipe_get]
  by_cases hj : j ∈ own
  · simp only [if_pos hj]
    cases σ[j]? <;> rfl
  · simp only [if_neg hj]
section
variable {g : Gw} {G : Gh} {H : Hp}
theorem names_sp {Q : Sst → Hp → Prop} : ∀ {is : List Nat} {ws : List W} {xs : List V} {ls ls1 : Env} {σ : Sst}, setAll is ws ls = some ls1 → REnv g G H ls σ → RVs g G H ws xs →
    (∀ σ1, REnv g G H ls1 σ1 → (∀ own : List Nat, is.all own.contains = true → wipe σ1 own = wipe σ own) → Q σ1 H) → gNames is xs σ H Q
  | [], [], _, ls, ls1, σ, e, re, r, k => by
    unfold RVs at r
    subst r
    unfold setAll at e
    cases e
    exact ⟨rfl, k σ re fun _ _ => rfl⟩
  | [], _ :: _, _, _, _, _, e, _, _, _ => by simp [setAll] at e
  | _ :: _, [], _, _, _, _, e, _, _, _ => by simp [setAll] at e
  | i :: is, w :: ws, _, ls, ls1, σ, e, re, r, k => by
    unfold RVs at r
    obtain ⟨x, xs, rfl, a, b⟩ := r
    unfold setAll at e
    refine ⟨x, xs, rfl, names_sp e (re.set a) b fun σ1 r1 hw => k σ1 r1 fun own ho => ?_⟩
    rw [List.all_cons] at ho
    obtain ⟨h1, h2⟩ := ba ho
    rw [hw own h2, wipe_set (by simpa using h1)]
theorem setAll_len : ∀ {is : List Nat} {ws : List W} {ls ls1 : Env}, setAll is ws ls = some ls1 → is.length = ws.length
  | [], [], _, _, _ => rfl
  | [], _ :: _, _, _, e => by simp [setAll] at e
  | _ :: _, [], _, _, e => by simp [setAll] at e
  | _ :: _, _ :: _, _, _, e => by
    unfold setAll at e
    exact congrArg Nat.succ (setAll_len e)
theorem bind_sp {Q : Sst → Hp → Prop} {tg : Tg} {w : W} {x : V} {ls ls1 : Env} {σ : Sst} (e : bindT tg w ls = some ls1) (re : REnv g G H ls σ) (rv : RV g G H w x)
    (k : ∀ σ1, REnv g G H ls1 σ1 → (∀ own : List Nat, tgIn own tg = true → wipe σ1 own = wipe σ own) → Q σ1 H) : gT g.K tg x σ H Q := by
  cases tg with
  | one i =>
    unfold bindT at e
    cases e
    exact k _ (re.set rv) fun own ho => wipe_set (by simpa [tgIn] using ho)
  | many is =>
    unfold bindT at e
    split at e
    · rename_i is' e1
      cases e1
    · rename_i is' e1
      cases e1
      split at e
      · rename_i ws
        obtain ⟨p, xs, rfl, s, r⟩ := rv.tup_eq
        exact .inl ⟨p, xs, rfl, s, by rw [setAll_len e]; exact (RVs.length r).symm, names_sp e re r k⟩
      · rename_i ws
        unfold RV at rv
        obtain ⟨p, xs, rfl, _, s, r⟩ := rv
        exact .inr ⟨p, xs, rfl, SqL.of s, by rw [setAll_len e]; exact (RVs.length r).symm, names_sp e re r k⟩
      · rename_i ws
        unfold RV at rv
        obtain ⟨p, xs, rfl, s, r⟩ := rv
        exact .inr ⟨p, xs, rfl, s.sqL, by rw [setAll_len e]; exact (RVs.length r).symm, names_sp e re r k⟩
      · cases e
end
section
variable {t : Tp} {cl : Cl} {X : Cx} {Wx : WX} {n : Nat} {ar : Ar} {N : List Str} {fn : Str → Bool} {sc : Scope} (c : Cok t X Wx n N fn sc) (o : t.Ok)
include c
theorem pg_slot {i : Nat} {x : Str} {pos : Pos} (h1 : slotOk N i x = true) (h2 : stOk fn sc x = true) : PG X (.Name x pos) (gName i) :=
  pg_name (by rw [c.hN]; exact c.nd) (by rw [c.hN]; exact of_decide_eq_true h1) (by rw [c.hsc]; exact stOk_loc h2) (by rw [c.hfn, c.hsc]; exact stOk_fn h2)
theorem pgs_slots : ∀ {is : List Nat} {es : List Expr}, chkNames N fn sc is es = true → PGs X es (gNames is) ∧ (assignEach es X.env).length = is.length ∧ (assignEach es X.env).findIdx? (·.1) = none
  | [], [], _ => ⟨pgs_nil, rfl, rfl⟩
  | [], _ :: _, h => by simp [chkNames] at h
  | _ :: _, [], h => by simp [chkNames] at h
  | i :: is, e :: es, h => by
    cases e <;> first | (simp [chkNames] at h; done) | skip
    simp only [chkNames] at h
    obtain ⟨h1, h2⟩ := ba h
    obtain ⟨h3, h4⟩ := ba h2
    obtain ⟨i1, i2, i3⟩ := pgs_slots h4
    refine ⟨pgs_cons (pg_slot c h1 h3) i1, congrArg Nat.succ i2, ?_⟩
    show List.findIdx? (·.1) ((false, _) :: assignEach es X.env) = none
    rw [List.findIdx?_cons, i3]
    rfl
theorem pg_tg {tg : Tg} {e : Expr} (h : chkTg N fn sc tg e = true) : PG X e (gT X.K tg) := by
  cases tg with
  | one i =>
    cases e <;> first | (simp [chkTg] at h; done) | skip
    simp only [chkTg] at h
    exact pg_slot c (ba h).1 (ba h).2
  | many is =>
    cases e <;> first | (simp [chkTg] at h; done) | skip
    simp only [chkTg] at h
    obtain ⟨i1, i2, i3⟩ := pgs_slots c h
    exact pg_or (pg_tup c.calm i1 i2 i3) (pg_lst c.calm i1 i2 i3)
end
/-! ### comprehensions -/
theorem Cok.blk {t : Tp} {X : Cx} {Wx : WX} {n : Nat} {N : List Str} {fn : Str → Bool} {sc scope : Scope} {own : List (Str × Nat)} (c : Cok t X Wx n N fn sc) (ok : BlkOk N sc scope own) (s : Shared) (H : Hp) (C : Addr) (cl : List (Str × Addr)) (fp : List Addr) :
    Cok t (X.blk s H scope (compEnvC scope cl C X.env) fp) (fun _ _ _ _ => False) n N (blkFn scope) (relS scope sc) where
  hP := c.hP
  hw := c.hw
  hK := c.hK
  hmg := c.hmg
  hb := c.hb
  hN := c.hN
  hsc := by rw [← c.hsc]; rfl
  hfn := rfl
  hfun := ok.kind
  nd := c.nd
  calm := c.calm
  room := c.room
  tk := fun _ _ x => by
    obtain ⟨a, B, sI, pins, σ, H, cls, d, e, I, nb, up, sky, na, os, ag, w⟩ := x
    exact w
  pas := PassesOwn.never
theorem bind_ok {α β : Type} {r : R α} {f : α → LH → R β} {b : β} {l : LH} (h : r.bind f = .ok b l) : ∃ a l1, r = .ok a l1 ∧ f a l1 = .ok b l := by
  cases r with
  | ok a l1 => exact ⟨a, l1, rfl, h⟩
  | ex => cases h
  | no => cases h
theorem noex_ok {α : Type} {r : R α} {b : α} {l : LH} (h : r.noex = .ok b l) : r = .ok b l := by
  cases r with
  | ok a l1 => exact h
  | ex => cases h
  | no => cases h
theorem noex_ex {α : Type} {r : R α} {c : String} {ns : List String} {fs : List W} {l : LH} : r.noex ≠ .ex c ns fs l := by
  cases r <;> intro h <;> cases h
theorem compL_ex {f q : Env → LH → R W} {tg : Tg} {σ : Env} {g : Gd} : ∀ {ws : List W} {l l2 : LH} {c : String} {ns : List String} {fs : List W}, compL f q tg σ g ws l ≠ .ex c ns fs l2
  | [], l, l2, c, ns, fs => by
    unfold compL
    split <;> intro h <;> cases h
  | w :: ws, l, l2, c, ns, fs => by
    unfold compL
    split
    · split
      · rename_i σ1 _
        cases h1 : (q σ1 l).noex with
        | ex => exact (noex_ex h1).elim
        | no => intro h; cases h
        | ok b l1 =>
          dsimp only [R.bind]
          split
          · cases h2 : (f σ1 l1).noex with
            | ex => exact (noex_ex h2).elim
            | no => intro h; cases h
            | ok y l3 =>
              dsimp only
              cases h3 : compL f q tg σ g ws l3 with
              | ex => exact (compL_ex h3).elim
              | no => intro h; cases h
              | ok ys l4 => intro h; cases h
          · exact compL_ex
          · intro h; cases h
      · intro h; cases h
    · intro h; cases h
section
variable {t : Tp} {cl : Cl}
abbrev W0 : WX := fun _ _ _ _ => False
theorem lc_imp {Wx : WX} {m : Bool} {e it q : E} {tg : Tg} {own : List Nat} (hown : tgIn own tg = true) {σ : Sst} {H : Hp} {Q : VK} (h0 : tE t cl Wx (.comp m e tg it q own) σ H Q) :
    tLc (tI t cl Wx it) (gT t.g.K tg) (tT t cl W0 q) (tE t cl W0 e) own σ H Q := by
  obtain ⟨G, ls, lh, re, rp, h⟩ := h0
  simp only [evE] at h
  refine ⟨G, ls, lh, re, rp, h.bind fun p l1 G1 H1 J _ e1 rp1 wk h1 => ?_⟩
  intro D hD
  have re1 := (re.mono e1.toMono).wipe2 own
  split at h1
  case isFalse => exact h1.elim
  rename_i hbig
  cases hcl : compL (fun σ' h' => evE t.T cl e σ' h') (fun σ' h' => evE t.T cl q σ' h') tg (wipeE ls own) p.2 p.1 l1 with
  | ex => exact (compL_ex hcl).elim
  | no => rw [hcl] at h1; exact h1.elim
  | ok ys l2 =>
  rw [hcl] at h1
  dsimp only [R.bind] at h1
  have nD : ¬ G1.Pr D := fun z => rp1.pr D z hD
  let Inv : Nat → Hp → Prop := fun i H => ∃ (G2 : Gh) (l : LH) (dn : List W) (acc : List V), i ≤ p.1.length ∧ (G2.Pr = fun q => G1.Pr q ∨ q = D) ∧ Mono t.g G1 H1 G2 H ∧ (∀ q, G1.Pr q → H q = H1 q) ∧ Rep t.g G2 l H ∧ H D = some (.lst acc) ∧ RVs t.g G2 H dn acc ∧
    dn.length ≤ i ∧ ∃ rest, compL (fun σ' h' => evE t.T cl e σ' h') (fun σ' h' => evE t.T cl q σ' h') tg (wipeE ls own) p.2 (p.1.drop i) l = .ok rest l2 ∧ dn ++ rest = ys
  refine ⟨fun i m H => m = p.1.length - i ∧ Inv i H, ⟨p.1.length, by simp, ?_⟩, ?_⟩
  · obtain ⟨m0, rp0⟩ := rp1.own (D := D) (o := .lst []) hD
    exact ⟨_, l1, [], [], Nat.zero_le _, rfl, m0, fun q hq => upd_ne fun z => nD (z ▸ hq), rp0, upd_same, RVs.nil, Nat.le_refl _, ys, hcl, rfl⟩
  · rintro i mm H2 ⟨rfl, G2, l, dn, acc, hi, hpr, mo, kp, rp2, hacc, racc, hdn, rest, hc, hys⟩
    by_cases hlt : i < p.1.length
    · have hdrop : p.1.drop i = p.1[i] :: p.1.drop (i + 1) := List.drop_eq_getElem_cons hlt
      rw [hdrop] at hc
      unfold compL at hc
      split at hc
      case isFalse => cases hc
      rename_i hg
      obtain ⟨_, w2⟩ := wk G2 H2 l mo rp2 hg
      obtain ⟨w3, w4⟩ := w2 i p.1[i] (by simp [hlt])
      split at hc
      case h_2 => cases hc
      rename_i ls1 hb
      obtain ⟨b, l3, hq, hc⟩ := bind_ok hc
      have hq := noex_ok hq
      refine .inr ⟨w3, Inv (i + 1), fun H' p' => ⟨p.1.length - (i + 1), by omega, rfl, p'⟩, fun x H3 hy => ?_⟩
      obtain ⟨G3, e3, rp3, rv3⟩ := w4 x H3 hy
      have re3 : REnv t.g G3 H3 (wipeE ls own) (wipe σ own) := (re1.mono mo).mono e3.toMono
      refine bind_sp hb re3 rv3 fun σ2 re4 hw => ⟨by rw [hw own hown, wipe_idem], ?_⟩
      refine ⟨G3, ls1, l, re4, rp3, ?_⟩
      rw [hq]
      intro G4 H4 b' e4 rp4 hb'
      have e34 := e3.trans e4
      unfold relT at hb'
      subst hb'
      cases b' with
      | true =>
        rw [if_pos rfl]
        dsimp only at hc
        obtain ⟨y, l5, hy5, hc⟩ := bind_ok hc
        have hy5 := noex_ok hy5
        obtain ⟨ys5, l6, hc6, hc⟩ := bind_ok hc
        cases hc
        refine ⟨G4, ls1, l3, re4.mono e4.toMono, rp4, ?_⟩
        rw [hy5]
        intro G5 H5 v e5 rp5 rv5
        have e25 := e34.trans e5
        have hprD : G5.Pr D := by rw [e25.pr, hpr]; exact .inr rfl
        have hD5 : H5 D = some (.lst acc) := (e25.kept D (by rw [hpr]; exact .inr rfl)).trans hacc
        obtain ⟨m6, rp6⟩ := rp5.mine (o := .lst (acc ++ [v])) hprD hD5 (.inl ⟨_, rfl⟩)
        have hlen : acc.length ≤ i := by rw [← RVs.length racc]; exact hdn
        refine ⟨acc, hD5, ?_, G5, l5, dn ++ [y], acc ++ [v], hlt, by rw [e25.pr, hpr], ?_, ?_, rp6, upd_same, ?_, ?_, ys5, hc6, ?_⟩
        · exact Nat.lt_of_le_of_lt hlen (Nat.lt_of_lt_of_le hlt (big_line hbig))
        · exact ⟨fun i q h => m6.pre i q (e25.pre i q (mo.pre i q h)), fun q h => ⟨(e25.fz q (mo.fz q h).1).1, ((m6.fz q (e25.fz q (mo.fz q h).1).1).2.trans (e25.fz q (mo.fz q h).1).2).trans (mo.fz q h).2⟩,
            fun q xs h => m6.tup q xs (e25.tup q xs (mo.tup q xs h)), fun q xs h => m6.rd q xs (e25.rd q xs (mo.rd q xs h))⟩
        · intro q hq
          have : q ≠ D := fun z => nD (z ▸ hq)
          rw [upd_ne this, e25.kept q (by rw [hpr]; exact .inl hq)]
          exact kp q hq
        · exact RVs.append ((racc.mono e25.toMono).mono m6) (RVs.cons (rv5.mono m6) RVs.nil)
        · rw [List.length_append, List.length_singleton]; omega
        · rw [← hys]; simp
      | false =>
        rw [if_neg Bool.false_ne_true]
        dsimp only at hc
        exact ⟨G4, l3, dn, acc, hlt, by rw [e34.pr, hpr], ⟨fun i q h => e34.pre i q (mo.pre i q h), fun q h => ⟨(e34.fz q (mo.fz q h).1).1, (e34.fz q (mo.fz q h).1).2.trans (mo.fz q h).2⟩,
            fun q xs h => e34.tup q xs (mo.tup q xs h), fun q xs h => e34.rd q xs (mo.rd q xs h)⟩, fun q hq => (e34.kept q (by rw [hpr]; exact .inl hq)).trans (kp q hq), rp4,
            (e34.kept D (by rw [hpr]; exact .inr rfl)).trans hacc, racc.mono e34.toMono, by omega, rest, hc, hys⟩
    · have hie : i = p.1.length := by omega
      subst hie
      rw [List.drop_length] at hc
      unfold compL at hc
      split at hc
      case isFalse => cases hc
      rename_i hg
      cases hc
      rw [List.append_nil] at hys
      subst hys
      refine .inl ⟨(wk G2 H2 _ mo rp2 hg).1, ?_⟩
      cases m with
      | true =>
        rw [if_pos rfl] at h1
        obtain ⟨m7, rp7⟩ := rp2.giveL hpr nD hacc racc
        refine h1 ⟨G2.io ++ [D], G2.Fz, G1.Pr⟩ H2 (.ref D) ⟨⟨fun i q h => m7.pre i q (mo.pre i q h), fun q h => ⟨(m7.fz q (mo.fz q h).1).1, (mo.fz q h).2⟩, fun q xs h => mo.tup q xs h, fun q xs h => mo.rd q xs h⟩, rfl, kp⟩ rp7 ?_
        exact rv_ref (by rw [← rp2.len]; simp)
      | false =>
        rw [if_neg Bool.false_ne_true] at h1
        obtain ⟨m7, rp7⟩ := rp2.giveF hpr nD (by rw [hacc]; simp)
        refine h1 ⟨G2.io, fun q => G2.Fz q ∨ q = D, G1.Pr⟩ H2 (.ref D) ⟨⟨fun i q h => m7.pre i q (mo.pre i q h), fun q h => ⟨(m7.fz q (mo.fz q h).1).1, (mo.fz q h).2⟩, fun q xs h => mo.tup q xs h, fun q xs h => mo.rd q xs h⟩, rfl, kp⟩ rp7 ?_
        exact rv_fl (.inr rfl) hacc (racc.mono m7)
end
end Mp
namespace Mp
open PySem PySem.Spec PyProof.Rows L2
/-! ### instances: fields are written -/
theorem put_spec {g : Gw} {G : Gh} {H : Hp} {f : String} {w : W} {v : V} (rv : RV g G H w v) : ∀ {ns : List String} {fs : List W} {xs : List V}, ns.length = fs.length → RVs g G H fs xs →
    ∃ ys, putF (Str.ofString f) v ((ns.map Str.ofString).zip xs) = ((put f w ns fs).1.map Str.ofString).zip ys ∧ (put f w ns fs).1.length = (put f w ns fs).2.length ∧ RVs g G H (put f w ns fs).2 ys
  | [], [], _, _, r => by
    unfold RVs at r
    subst r
    exact ⟨[v], rfl, rfl, RVs.cons rv RVs.nil⟩
  | [], _ :: _, _, h, _ => by cases h
  | _ :: _, [], _, h, _ => by cases h
  | n :: ns, x :: fs, _, h, r => by
    unfold RVs at r
    obtain ⟨y, ys, rfl, a, b⟩ := r
    have hl : ns.length = fs.length := by simpa using h
    unfold put
    by_cases hn : n = f
    · rw [if_pos hn]
      refine ⟨v :: ys, ?_, by simpa using h, RVs.cons rv b⟩
      rw [List.map_cons, List.zip_cons_cons, List.zip_cons_cons]
      show (if Str.ofString n = Str.ofString f then _ else _) = _
      rw [if_pos (congrArg _ hn)]
    · rw [if_neg hn]
      obtain ⟨zs, e1, e2, e3⟩ := put_spec (f := f) rv hl b
      refine ⟨y :: zs, ?_, by simpa using e2, RVs.cons a e3⟩
      rw [List.map_cons, List.zip_cons_cons]
      show (if Str.ofString n = Str.ofString f then _ else _) = _
      rw [if_neg fun z => hn (str_inj z), e1]
      rfl
section
variable {t : Tp} {cl : Cl} {n : Nat} {ar : Ar} {N : List Str} {X : Cx} {Wx : WX} {fn : Str → Bool} {sc : Scope} (c : Cok t X Wx n N fn sc) (o : t.Ok)
include c o
theorem snd_setA {a e : E} {x v : Expr} {y : Str} {f : String} {p pos : Pos} (h1 : seq y f = true) (hn : ncomp v = true) (ha : PE X x (tE t cl Wx a)) (he : PE X v (tE t cl Wx e)) : PS X (.Assign [.Attribute x y p] v pos) (tS t cl Wx (.setA a f e)) := by
  have ef := seq_eq h1
  subst ef
  refine ps_imp (ps_fld ha he (swaps_n hn)) fun D σ H ⟨G, ls, lh, re, rp, h⟩ => ?_
  simp only [evS] at h
  refine ⟨G, ls, lh, re, rp, PostS.toS re h fun w l1 G1 H1 v _ e1 rp1 rv h1 => ⟨G1, ls, l1, re.mono e1.toMono, rp1, PostS.toS (re.mono e1.toMono) h1 fun w2 l2 G2 H2 v2 _ e2 rp2 rv2 h2 => ?_⟩⟩
  cases w2 <;> first | exact h2.elim | skip
  rename_i m _
  dsimp only at h2
  split at h2
  · rename_i C ns fs hm
    split at h2
    · rename_i hq
      obtain ⟨k1, k2⟩ := o.fld C f hq.1
      unfold RV at rv2
      obtain ⟨q, rfl, hp⟩ := rv2
      obtain ⟨ho, q0, dx, xs, rfl, hl, rs⟩ := rp2.at hm hp
      have rv' := rv.mono e2.toMono
      obtain ⟨ys, z1, z2, z3⟩ := put_spec (f := f) rv' hl rs
      rw [c.hK]
      have hlen : ((ns.map Str.ofString).zip xs).length < 1000 := by
        rw [List.length_zip, List.length_map, ← RVs.length rs]; omega
      refine ⟨q, _, dx, _, rfl, q0, k1, k2, hlen, ?_⟩
      have s := rp2.sep m _ q hm hp (fun z => by cases z)
      have x1 : Ext t.g G2 H2 G2 (upd H2 q (.ins (t.g.ca C) dx (((put f w ns fs).1.map Str.ofString).zip ys))) := Ext.write q0 ⟨s.1, .inr (.inl ⟨_, _, _, rfl⟩)⟩ s.2
      obtain ⟨x2, rp3⟩ := rp2.write (o' := .ins C (put f w ns fs).1 (put f w ns fs).2) (ho' := .ins (t.g.ca C) dx (((put f w ns fs).1.map Str.ofString).zip ys)) hm hp (fun z => by cases z) q0 (.inr (.inl ⟨_, _, _, rfl⟩)) ⟨dx, ys, rfl, z2, z3.mono x1.toMono⟩
      rw [z1]
      exact h2 _ _ _ x2 rp3 (((re.mono e1.toMono).mono e2.toMono).mono x2.toMono)
    · exact h2.elim
  · exact h2.elim
omit c o in
theorem lk_none {f : String} : ∀ {ns : List String} {xs : List V}, ns.contains f = false → ((ns.map Str.ofString).zip xs).lookup (Str.ofString f) = none
  | [], _, _ => rfl
  | _ :: _, [], _ => rfl
  | n :: ns, x :: xs, h => by
    simp only [List.contains_cons, Bool.or_eq_false_iff] at h
    have hn : (Str.ofString f == Str.ofString n) = false := by
      rw [beq_eq_false_iff_ne]
      intro z
      have := str_inj z
      simp [this] at h
    rw [List.map_cons, List.zip_cons_cons, List.lookup_cons, hn]
    exact lk_none h.2
omit c o in
theorem clsOf_spec {g : Gw} {G : Gh} {H : Hp} {lh : LH} {w : W} {v : V} {C : String} {ns : List String} (rp : Rep g G lh H) (rv : RV g G H w v) (e : clsOf lh w = some (C, ns)) : ∃ p dx xs, v = .ref p ∧ H p = some (.ins (g.ca C) dx ((ns.map Str.ofString).zip xs)) := by
  unfold clsOf at e
  split at e
  · cases e
    unfold RV at rv
    obtain ⟨p, dx, xs, rfl, _, h, _⟩ := rv
    exact ⟨p, dx, xs, rfl, h⟩
  · split at e
    · rename_i hm
      cases e
      unfold RV at rv
      obtain ⟨p, rfl, hp⟩ := rv
      obtain ⟨ho, q0, dx, xs, rfl, _, _⟩ := rp.at hm hp
      exact ⟨p, dx, xs, rfl, q0⟩
    · cases e
  · cases e
omit c o in
theorem nE_len {ar : Ar} {N : List Str} {fn : Str → Bool} {sc : Scope} : ∀ {es : E} {xs : List Expr}, chkA ar N es fn sc xs = true → nE es = xs.length
  | .nil, [], _ => rfl
  | .cons _ es, x :: xs, h => by
    simp only [chkA] at h
    show nE es + 1 = xs.length + 1
    rw [nE_len (ba (ba h).2).2]
  | .nil, _ :: _, h => by simp [chkA] at h
  | .cons _ _, [], h => by simp [chkA] at h
end
/-! ### methods -/
theorem meth_form {o : Expr} {m : Str} {apos pos : Pos} {es : List Expr} {env : PySem.Env} (hb : ncall0 o = true) (hs : es.all nst = true) (hn : es.length < 28) (hl : (apos.endLine == pos.line) = true) :
    eval (.Call (.Attribute o m apos) es [] pos) env = (do
      let ov ← eval o env
      standAt apos.atName
      let (f, first) ← holding [ov] (getMethod ov m (do return (← importBound o env).getD true))
      callWith pos f first (backTo pos (starEach es env)) (backToKw pos (keywordEach [] env))) := by
  have e0 : eval (.Call (.Attribute o m apos) es [] pos) env = (do
      let ov ← attributeBase o m env (eval o env)
      standAt apos.atName
      methodCall o m apos pos env ov (es.length + ([] : List Keyword).length) (backTo pos (starEach es env)) (backToKw pos (keywordEach [] env))) := rfl
  have e1 : methodCallForm (es.length + ([] : List Keyword).length) (backTo pos (starEach es env)) (backToKw pos (keywordEach [] env)) = true := by
    unfold methodCallForm
    rw [star_all hs, kwNone]
    have : decide (es.length + ([] : List Keyword).length + (if (backToKw pos (keywordEach [] env)).isEmpty = true then 0 else 1) < 30) = true := by
      apply decide_eq_true
      split <;> simp <;> omega
    rw [this]; rfl
  rw [e0, attr_base hb]
  unfold methodCall calleeOf methodCallPos
  rw [e1]
  simp only [hl, Bool.not_true, Bool.false_or, if_true, pure_bind]

section
variable {X : Cx} {CX : CXT} {k : Nat} {f C : Addr} {fd : FuncData} {ps : List Str} {sp : Sp} {dvs : List V} {ds : List Value} {E : L2.St → XK} {m : Str} {pos apos : Pos} {e o : Expr} {es : List Expr} {ta : TE} {t : TA}
def tMethD (C : Addr) (m : Str) (sp : Sp) (dvs : List V) (E : L2.St → XK) (ta : TE) (t : TA) : TE := fun σ H Q => ta σ H fun x H1 => ∃ a dx fs, x = .ref a ∧ H1 a = some (.ins C dx fs) ∧ fs.lookup m = none ∧ t σ H1 fun vs H2 => sp (x :: (vs ++ dvs)) H2 Q (E σ)
theorem pe_methD {pl : Sem Bool} (he : PE X o ta) (c : Cls X.K C) (hm : Meth X.K C m f) (F : FnOk X.prog X.w X.K X.mg X.base CX k f fd ps sp) (hr : Room k X.A) (hb : Binds X.K fd ps ds) (hd : Vals dvs ds) (hx : ∀ σ, PassesAt CX X σ (E σ)) (ha : PA X (e :: es) t)
    (hst : starEach (e :: es) X.env = (false, eval e X.env) :: starEach es X.env) (hpl : (backTo pos (starEach es X.env)).any (·.1) = false)
    (ht : eval (.Call (.Attribute o m apos) (e :: es) [] pos) X.env = (do
      let ov ← eval o X.env
      standAt apos.atName
      let (f, first) ← holding [ov] (getMethod ov m pl)
      callWith pos f first (backTo pos (starEach (e :: es) X.env)) (backToKw pos (keywordEach [] X.env)))) :
    PE X (.Call (.Attribute o m apos) (e :: es) [] pos) (tMethD C m sp dvs E ta t) :=
  ⟨fun pins s σ H Q I h => PySem.W.methodCall_KW (pl := pl) (thn (he.run pins s σ H _ I h) fun u s1 ⟨x, H1, I1, rx, a, dx, fs, ex, ea, l, q⟩ => by
    subst ex
    obtain rfl : u = Value.ref a := rx
    refine getmeth_ok I1 ea c hm l (PySem.W.callWith_K (first := [.ref a]) (h₀ := X.base) I.ok.mod.kin hm.kp (thn (ha.run pos pins s1 σ H1 _ I1 q) fun us s2 ⟨vs, H2, I2, r, q2⟩ => ⟨I2.kIn, ?_⟩) hst hpl)
    exact run_fnSD (us := .ref a :: us) (vs := .ref a :: vs) F hr hb hd (hx σ) I2 (.cons rfl r) q2) ht⟩
theorem pe_methD0 {pl : Sem Bool} (he : PE X o ta) (c : Cls X.K C) (hm : Meth X.K C m f) (F : FnOk X.prog X.w X.K X.mg X.base CX k f fd ps sp) (hr : Room k X.A) (hb : Binds X.K fd ps ds) (hd : Vals dvs ds) (hx : ∀ σ, PassesAt CX X σ (E σ))
    (ht : eval (.Call (.Attribute o m apos) [] [] pos) X.env = (do
      let ov ← eval o X.env
      standAt apos.atName
      let (f, first) ← holding [ov] (getMethod ov m pl)
      callWith pos f first (backTo pos (starEach [] X.env)) (backToKw pos (keywordEach [] X.env)))) :
    PE X (.Call (.Attribute o m apos) [] [] pos) (tMethD C m sp dvs E ta tNil) :=
  ⟨fun pins s σ H Q I h => PySem.W.methodCall_KW (pl := pl) (thn (he.run pins s σ H _ I h) fun u s1 ⟨x, H1, I1, rx, a, dx, fs, ex, ea, l, q⟩ => by
    subst ex
    obtain rfl : u = Value.ref a := rx
    exact getmeth_ok I1 ea c hm l (PySem.W.callWith_K0 (first := [.ref a]) I1.kIn hm.kp (run_fnSD (us := [.ref a]) (vs := [.ref a]) F hr hb hd (hx σ) I1 (.cons rfl .nil) q))) ht⟩
/-- the object's own expression lets an exception out -/
theorem pe_methX {pl : Sem Bool} {zs : List Expr} (he : PE X o ta)
    (ht : eval (.Call (.Attribute o m apos) zs [] pos) X.env = (do
      let ov ← eval o X.env
      standAt apos.atName
      let (f, first) ← holding [ov] (getMethod ov m pl)
      callWith pos f first (backTo pos (starEach zs X.env)) (backToKw pos (keywordEach [] X.env)))) :
    PE X (.Call (.Attribute o m apos) zs [] pos) (fun σ H Q => ta σ H fun _ _ => False) :=
  ⟨fun pins s σ H Q I h => PySem.W.methodCall_KW (pl := pl) (thn (he.run pins s σ H _ I h) fun u s1 ⟨x, H1, I1, rx, q⟩ => q.elim) ht⟩
end
section
variable {t : Tp} {cl : Cl} {n : Nat} {ar : Ar} {N : List Str} {X : Cx} {Wx : WX} {fn : Str → Bool} {sc : Scope} (c : Cok t X Wx n N fn sc) (o : t.Ok)
include c o
theorem snd_meth (F : Fns t ar cl n) {a es : E} {x z : Expr} {zs : List Expr} {y : Str} {m : String} {apos pos : Pos} (h1 : seq y m = true) (hb : ncall0 x = true) (hl : (apos.endLine == pos.line) = true) (hn : zs.length < 20) (hs : (z :: zs).all nst = true) (hc : chkA ar N es fn sc (z :: zs) = true)
    (ha : PE X x (tE t cl Wx a)) (he : PA X (z :: zs) (tA t cl Wx es)) : PE X (.Call (.Attribute x y apos) (z :: zs) [] pos) (tE t cl Wx (.meth a m es)) := by
  have e := seq_eq h1
  subst e
  have hs2 := ba (show (nst z && zs.all nst) = true from hs)
  refine pe_dep fun σ H Q ⟨G, ls, lh, re, rp, h⟩ => ?_
  simp only [evE] at h
  cases ev : evE t.T cl a ls lh with
  | no => rw [ev] at h; exact h.elim
  | ex cc ns fs l1 =>
    refine ⟨_, pe_methX ha (meth_form hb hs (by simp; omega) hl), G, ls, lh, re, rp, ?_⟩
    rw [ev] at h ⊢
    exact h
  | ok w l1 =>
  have h0 := h
  rw [ev] at h0
  dsimp only [R.bind] at h0
  cases ec : clsOf l1 w with
  | none => rw [ec] at h0; exact h0.elim
  | some p =>
  obtain ⟨C, ns⟩ := p
  rw [ec] at h0
  dsimp only at h0
  by_cases hq : t.T.mth C m (nE es) = true ∧ ns.contains m = false
  · obtain ⟨k1, k2, d, hd, k3, k4⟩ := o.mth C m _ hq.1
    obtain ⟨ds, dvs, q1, q2, q3, q4⟩ := o.bi _ d _ hd k3 k4
    have Fo := F.ok _ d hd
    rw [← c.hP, ← c.hw, ← c.hK, ← c.hmg, ← c.hb] at Fo
    refine ⟨_, pe_methD (E := WE Wx) ha (by rw [c.hK]; exact k1) (by rw [c.hK]; exact k2) Fo (c.room.mono (by omega)) (by rw [c.hK]; exact q4) q3 (passAt c.tk) he (star_cons hs2.1) (star_any hs2.2) (meth_form hb hs (by simp; omega) hl), G, ls, lh, re, rp, h.bind fun w' l1' G1 H1 v eq e1 rp1 rv h1 => ?_⟩
    rw [ev] at eq
    cases eq
    obtain ⟨p, dx, xs, rfl, hp⟩ := clsOf_spec rp1 rv ec
    rw [ec] at h1
    dsimp only at h1
    rw [if_pos hq] at h1
    refine ⟨p, dx, _, rfl, hp, lk_none hq.2, G1, ls, l1, re.mono e1.toMono, rp1, h1.bind fun w2 l2 G2 H2 vs eq2 e2 rp2 rvs h2 => ?_⟩
    have hlen : (items w2).length = nE es := by rw [nE_len hc]; exact lenA hc eq2
    have hv : vs.length = nE es := by rw [← RVs.length rvs, hlen]
    have hx : (w :: items w2).length = nE es + 1 := by rw [List.length_cons, hlen]
    rw [F.fill _ d _ _ hd (by rw [hx]; exact k3) (by rw [hx]; exact k4), hx] at h2
    refine ⟨G2, _, l2, RVs.append (RVs.cons (rv.mono e2.toMono) rvs) (q2 G2 H2), rp2, ?_, h2⟩
    rw [List.length_cons, List.length_append, q1, hv]; omega
  · rw [if_neg hq] at h0; exact h0.elim
theorem snd_meth0 (F : Fns t ar cl n) {a : E} {x : Expr} {y : Str} {m : String} {apos pos : Pos} (h1 : seq y m = true) (hb : ncall0 x = true) (hl : (apos.endLine == pos.line) = true)
    (ha : PE X x (tE t cl Wx a)) : PE X (.Call (.Attribute x y apos) [] [] pos) (tE t cl Wx (.meth a m .nil)) := by
  have e := seq_eq h1
  subst e
  refine pe_dep fun σ H Q ⟨G, ls, lh, re, rp, h⟩ => ?_
  simp only [evE] at h
  have hf := meth_form (o := x) (m := Str.ofString m) (apos := apos) (pos := pos) (es := []) (env := X.env) hb rfl (by simp) hl
  cases ev : evE t.T cl a ls lh with
  | no => rw [ev] at h; exact h.elim
  | ex cc ns fs l1 =>
    refine ⟨_, pe_methX ha hf, G, ls, lh, re, rp, ?_⟩
    rw [ev] at h ⊢
    exact h
  | ok w l1 =>
  have h0 := h
  rw [ev] at h0
  dsimp only [R.bind] at h0
  cases ec : clsOf l1 w with
  | none => rw [ec] at h0; exact h0.elim
  | some p =>
  obtain ⟨C, ns⟩ := p
  rw [ec] at h0
  dsimp only at h0
  by_cases hq : t.T.mth C m (nE .nil) = true ∧ ns.contains m = false
  · obtain ⟨k1, k2, d, hd, k3, k4⟩ := o.mth C m _ hq.1
    obtain ⟨ds, dvs, q1, q2, q3, q4⟩ := o.bi _ d _ hd k3 k4
    have Fo := F.ok _ d hd
    rw [← c.hP, ← c.hw, ← c.hK, ← c.hmg, ← c.hb] at Fo
    refine ⟨_, pe_methD0 (E := WE Wx) ha (by rw [c.hK]; exact k1) (by rw [c.hK]; exact k2) Fo (c.room.mono (by omega)) (by rw [c.hK]; exact q4) q3 (passAt c.tk) hf, G, ls, lh, re, rp, h.bind fun w' l1' G1 H1 v eq e1 rp1 rv h1 => ?_⟩
    rw [ev] at eq
    cases eq
    obtain ⟨p, dx, xs, rfl, hp⟩ := clsOf_spec rp1 rv ec
    rw [ec] at h1
    dsimp only at h1
    rw [if_pos hq] at h1
    have h2 : PostG t.g (RV t.g) G1 H1 (cl (C ++ "." ++ m) [w] l1) Q (fun cls d H' => Wx cls d σ H') := h1
    have hx : ([w] : List W).length = nE .nil + 1 := rfl
    rw [F.fill _ d _ _ hd (by rw [hx]; exact k3) (by rw [hx]; exact k4), hx] at h2
    refine ⟨p, dx, _, rfl, hp, lk_none hq.2, G1, _, l1, RVs.append (RVs.cons rv RVs.nil) (q2 G1 H1), rp1, ?_, h2⟩
    rw [List.nil_append, List.length_cons, q1]
    show d.np - (0 + 1) + 1 = d.np
    have : 0 + 1 ≤ d.np := k3
    omega
  · rw [if_neg hq] at h0; exact h0.elim
end
/-! ### new instances -/
section
variable {X : Cx} {CX : CXT} {k : Nat} {f C : Addr} {fd : FuncData} {ps : List Str} {sp : Sp} {dvs : List V} {ds : List Value} {E : L2.St → XK}
theorem run_mkD {pins : List (Addr × Obj)} {σ : L2.St} {H : Hp} {s : Shared} {Q : VK} {us : List Value} {vs : List V} (M : Mk X.K C f) (F : FnOk X.prog X.w X.K X.mg X.base CX k f fd ps sp) (hr : Room (k + 1) X.A) (hb : Binds X.K fd ps ds) (hd : Vals dvs ds)
    (hx : PassesAt CX X σ (E σ)) (I : Inv X pins σ H s) (r : Vals vs us)
    (h : ∀ x dx, H x = none → H dx = none → dx ≠ x → sp (.ref x :: (vs ++ dvs)) (upd (upd H dx (.own x)) x (.ins C dx [])) (fun v H2 => v = .non ∧ Q (.ref x) H2) (E σ)) :
    wpAny (model X.prog X.w) X.A (PySem.call (.ref C) us) (EP X pins σ Q) X.xe s := by
  have hs := h (s.heap.objs.size + 1) s.heap.objs.size (I.hok.fresh (Nat.le_succ _)) (I.hok.fresh (Nat.le_refl _)) (Nat.ne_of_lt (Nat.lt_succ_self _))
  have J := Inv.made (C := C) I
  have rr : Vals (V.ref (s.heap.objs.size + 1) :: (vs ++ dvs)) (Value.ref (s.heap.objs.size + 1) :: (us ++ ds)) := .cons rfl (r.append hd)
  have hl : (Value.ref (s.heap.objs.size + 1) :: us ++ ds).length = ps.length := by
    have z := rr.length
    rw [F.len _ _ _ _ hs] at z
    exact z.symm
  have go := F.run _ X.stack _ _ ⟨Value.ref (s.heap.objs.size + 1) :: us, []⟩ (Value.ref (s.heap.objs.size + 1) :: (us ++ ds)) _ _ (E σ) (hr.make C us []) (J.env0.make C us []) (hb _ (Value.ref (s.heap.objs.size + 1) :: us) J.kIn hl) rr hs
  refine wpAny_call (make_map (f := f) I.kIn M.makes M.init (beq_iff_eq.mp M.fn) (codeAny_mono go fun q s' hq => ?_))
  cases q with
  | error e => exact hx pins _ _ e s' J hq
  | ok fl =>
    cases fl with
    | ret u =>
      obtain ⟨v, H', I3, rv, ev, q3⟩ := J.after hq
      subst ev
      exact ⟨rv, ⟨V.ref (s.heap.objs.size + 1), H', I3, rfl, q3⟩⟩
    | next => exact False.elim hq
    | brk => exact False.elim hq
    | cont => exact False.elim hq
end
section
variable {t : Tp} {cl : Cl} {n : Nat} {ar : Ar} {N : List Str} {X : Cx} {Wx : WX} {fn : Str → Bool} {sc : Scope} (c : Cok t X Wx n N fn sc) (o : t.Ok)
include c o
/-- a new instance, made and from then on unchanged -/
theorem make_sp (F : Fns t ar cl n) {C : String} {k : Nat} {w : W} {vs : List V} {G1 : Gh} {H1 : Hp} {l1 : LH} {σ : Sst} {Q : VK} {d : Def} (hd : t.D (C ++ "." ++ "__init__") = some d) (k3 : k + 1 ≤ d.np) (k4 : d.np - (k + 1) ≤ d.dfl.length) {dvs : List V} (q1 : dvs.length = d.np - (k + 1)) (q2 : ∀ G H, RVs t.g G H (d.dfl.drop (d.dfl.length - (d.np - (k + 1)))) dvs)
    (hlen : (items w).length = k) (rp1 : Rep t.g G1 l1 H1) (rvs : RVs t.g G1 H1 (items w) vs)
    (h1 : PostG t.g (RV t.g) G1 H1 ((cl (C ++ "." ++ "__init__") (.ref l1.length :: items w) (l1 ++ [.ins C [] []])).bind fun r h2 => (match r, h2[l1.length]? with
        | .non, some (.ins d ns fs) => .ok (.obj d ns fs) (h2.set l1.length .dead)
        | _, _ => .no)) Q (fun cls d H' => Wx cls d σ H')) (x dx : Addr) (hx : H1 x = none) (hdx : H1 dx = none) (hne : dx ≠ x) :
    spM t.g cl (C ++ "." ++ "__init__") d.np (.ref x :: (vs ++ dvs)) (upd (upd H1 dx (.own x)) x (.ins (t.g.ca C) dx [])) (fun v H2 => v = .non ∧ Q (.ref x) H2) (WE Wx σ) := by
  have a0 := rp1.new (o := .own x) hdx False
  have ef : (fun q => G1.Fz q ∨ (False ∧ q = dx)) = G1.Fz := by funext q; simp
  rw [ef] at a0
  obtain ⟨e2, rp2⟩ := a0
  have hx2 : upd H1 dx (.own x) x = none := by rw [upd_ne (Ne.symm hne)]; exact hx
  obtain ⟨e3, rp3⟩ := rp2.alloc (ob := .ins C [] []) (o := .ins (t.g.ca C) dx []) hx2 ⟨dx, [], rfl, rfl, RVs.nil⟩
  have ee := e2.trans e3
  have h2 := PostG.mono h1 ee
  have hio : ((G1.io ++ [x] : List Addr))[l1.length]? = some x := by rw [← rp1.len]; simp
  have hxl : (W.ref l1.length :: items w).length = k + 1 := by rw [List.length_cons, hlen]
  rw [F.fill _ d _ _ hd (by rw [hxl]; exact k3) (by rw [hxl]; exact k4), hxl] at h2
  refine ⟨_, _, _, RVs.append (RVs.cons (rv_ref hio) (rvs.mono ee.toMono)) (q2 _ _), rp3, ?_, PostG.bind h2 fun r l3 G3 H3 v _ e4 rp4 rv4 h4 => ?_⟩
  · have hv : vs.length = k := by rw [← RVs.length rvs, hlen]
    rw [List.length_cons, List.length_append, q1, hv]; omega
  · split at h4
    · rename_i C2 ns fs hm _
      have hp := e4.pre _ _ hio
      obtain ⟨ho, z1, dx2, xs, rfl, z2, z3⟩ := rp4.at hm hp
      obtain ⟨e5, rp5⟩ := rp4.freeze hm hp (fun z => by cases z)
      refine ⟨rv4.non_eq, h4.at e5 rp5 ?_⟩
      unfold RV
      exact ⟨x, dx2, xs, rfl, .inr rfl, z1, z2, z3.mono e5.toMono⟩
    · exact h4.elim
/-- the classes whose instances are made -/
theorem snd_make (F : Fns t ar cl n) {C : String} {es : E} {y : Str} {z : Expr} {zs : List Expr} {p pos : Pos} (hk : mkOk ar C (zs.length + 1) = true)
    (h1 : seq y C = true) (h2 : Mp.gl sc y = true) (h3 : okName y = true) (hs : (z :: zs).all nst = true) (hc : chkA ar N es fn sc (z :: zs) = true) (he : PA X (z :: zs) (tA t cl Wx es)) :
    PE X (.Call (.Name y p) (z :: zs) [] pos) (tE t cl Wx (.make C es)) := by
  have e := seq_eq h1
  subst e
  have hs2 := ba (show (nst z && zs.all nst) = true from hs)
  obtain ⟨hq, m1, m2⟩ := F.new C _ hk
  rw [← show nE es = zs.length + 1 from nE_len hc] at hq
  obtain ⟨_, _, d, hd, k3, k4⟩ := o.mth C "__init__" _ hq
  obtain ⟨ds, dvs, q1, q2, q3, q4⟩ := o.bi _ d _ hd k3 k4
  have Fo := F.ok _ d hd
  rw [← c.hP, ← c.hw, ← c.hK, ← c.hmg, ← c.hb] at Fo
  have hM : Mk X.K (t.g.ca C) (t.fa (C ++ "." ++ "__init__")) := by rw [c.hK]; exact m2
  have hB : Binds X.K (t.fd (C ++ "." ++ "__init__")) (t.ps (C ++ "." ++ "__init__")) ds := by rw [c.hK]; exact q4
  refine ⟨fun pins s σ H Q I ⟨G, ls, lh, re, rp, h⟩ => ?_⟩
  simp only [evE] at h
  refine wpAny_Call_Name_kw (ld_glob I (c.gl h2) (by rw [c.hmg]; exact m1) ?_ (okName_d h3))
  refine PySem.W.callWith_K (h₀ := X.base) I.ok.mod.kin hM.kp (thn (he.run pos pins s σ H (fun vs H1 => ∀ x dx, H1 x = none → H1 dx = none → dx ≠ x → spM t.g cl (C ++ "." ++ "__init__") d.np (.ref x :: (vs ++ dvs)) (upd (upd H1 dx (.own x)) x (.ins (t.g.ca C) dx [])) (fun v H2 => v = .non ∧ Q (.ref x) H2) (WE Wx σ)) I ?_) fun us s1 ⟨vs, H1, I1, r, q⟩ => ⟨I1.kIn, ?_⟩) (star_cons hs2.1) (star_any hs2.2)
  · refine ⟨G, ls, lh, re, rp, h.bind fun w l1 G1 H1 vs eq e1 rp1 rvs h1 => ?_⟩
    rw [if_pos hq] at h1
    exact fun x dx hx hdx hne => make_sp c o F hd k3 k4 q1 q2 (by rw [nE_len hc]; exact lenA hc eq) rp1 rvs h1 x dx hx hdx hne
  · exact run_mkD (E := WE Wx) hM Fo (c.room.mono (by omega)) hB q3 (passAt c.tk σ) I1 r q
end
end Mp
namespace Mp
open PySem PySem.Spec PyProof.Rows L2
/-! ### dicts, keys ints and texts -/
section
variable {g : Gw} {G : Gh} {H : Hp} {lh : LH}
theorem keyV_inj {a b : W} {k : Key} (h1 : keyV a = some k) (h2 : keyV b = some k) : a = b := by
  cases a <;> first | (cases h1; done) | skip
  all_goals cases b <;> first | (cases h2; done) | skip
  all_goals have e := Option.some.inj (h1.trans h2.symm)
  · exact congrArg W.int (Sum.inl.inj e)
  · cases e
  · cases e
  · exact congrArg W.str (str_inj (Sum.inr.inj e))
theorem keyF_V {w : W} (h : keyF w = true) : ∃ k, keyV w = some k := by
  cases w <;> first | (cases h; done) | exact ⟨_, rfl⟩
theorem keyV_rv {w : W} {v : V} {k : Key} (h : keyV w = some k) (r : RV g G H w v) : v = kV k := by
  cases w <;> first | (cases h; done) | skip
  · cases h; exact r.int_eq
  · cases h; exact r.str_eq
theorem mapM_cons_some {w : W} {ws : List W} {kk : List Key} (h : (w :: ws).mapM keyV = some kk) : ∃ k r, kk = k :: r ∧ keyV w = some k ∧ ws.mapM keyV = some r := by
  rw [List.mapM_cons] at h
  cases h1 : keyV w with
  | none => rw [h1] at h; cases h
  | some k =>
    rw [h1] at h
    cases h2 : ws.mapM keyV with
    | none => rw [h2] at h; cases h
    | some r =>
      rw [h2] at h
      cases h
      exact ⟨k, r, rfl, rfl, rfl⟩
theorem mapM_snoc_some {w : W} {k : Key} (h1 : keyV w = some k) : ∀ {ws : List W} {kk : List Key}, ws.mapM keyV = some kk → (ws ++ [w]).mapM keyV = some (kk ++ [k])
  | [], kk, h => by cases h; rw [List.nil_append, List.mapM_cons, h1]; rfl
  | u :: ws, kk, h => by
    obtain ⟨k2, r, rfl, a, b⟩ := mapM_cons_some h
    rw [List.cons_append, List.mapM_cons, a, mapM_snoc_some h1 b]; rfl
theorem dlk_val {k : W} {κ : Key} (hk : keyV k = some κ) : ∀ {ks vs : List W} {kk : List Key} {xs : List V}, ks.mapM keyV = some kk → RVs g G H vs xs → kk.length = xs.length →
    (∀ w, dlk k ks vs = some w → ∃ v, valV (kk.zip xs) κ = some v ∧ RV g G H w v) ∧ (dlk k ks vs = none → valV (kk.zip xs) κ = none)
  | [], vs, kk, xs, h, r, hl => by
    cases h
    exact ⟨fun w e => by simp [dlk] at e, fun _ => rfl⟩
  | n :: ns, [], kk, xs, h, r, hl => by
    obtain ⟨k2, r2, rfl, _, _⟩ := mapM_cons_some h
    unfold RVs at r
    subst r
    cases hl
  | n :: ns, w :: ws, kk, xs, h, r, hl => by
    obtain ⟨k2, r2, rfl, a, b⟩ := mapM_cons_some h
    unfold RVs at r
    obtain ⟨x, ys, rfl, c, d⟩ := r
    obtain ⟨i1, i2⟩ := dlk_val hk b d (Nat.succ.inj hl)
    rw [List.zip_cons_cons]
    unfold dlk
    by_cases e : n = k
    · have : k2 = κ := by rw [e, hk] at a; exact (Option.some.inj a).symm
      rw [if_pos e, valV_pos (show (k2, x).1 = κ from this)]
      exact ⟨fun w' h' => by cases h'; exact ⟨x, rfl, c⟩, fun h' => by cases h'⟩
    · have : ¬ k2 = κ := fun z => e (keyV_inj a (z ▸ hk))
      rw [if_neg e, valV_neg (show ¬ (k2, x).1 = κ from this)]
      exact ⟨i1, i2⟩
theorem any_mem {k : W} {κ : Key} (hk : keyV k = some κ) : ∀ {ks : List W} {kk : List Key} {xs : List V}, ks.mapM keyV = some kk → kk.length = xs.length → (((kk.zip xs).any fun kv => decide (kv.1 = κ)) = true ↔ k ∈ ks)
  | [], kk, xs, h, hl => by cases h; simp
  | n :: ns, kk, xs, h, hl => by
    obtain ⟨k2, r2, rfl, a, b⟩ := mapM_cons_some h
    cases xs with
    | nil => cases hl
    | cons x xs =>
      have ih := any_mem hk b (Nat.succ.inj hl)
      rw [List.zip_cons_cons, List.any_cons, Bool.or_eq_true, ih, List.mem_cons, decide_eq_true_eq]
      refine or_congr ?_ Iff.rfl
      exact ⟨fun z => keyV_inj hk (z ▸ a), fun z => by rw [← z, hk] at a; exact (Option.some.inj a).symm⟩
theorem drepl_ho {k w : W} {v : V} {κ : Key} (hk : keyV k = some κ) (rv : RV g G H w v) : ∀ {ks vs : List W} {kk : List Key} {xs : List V}, ks.mapM keyV = some kk → RVs g G H vs xs → kk.length = xs.length →
    ∃ ys, (kk.zip xs).map (fun kv => if kv.1 = κ then (kv.1, v) else kv) = kk.zip ys ∧ ys.length = xs.length ∧ RVs g G H (drepl k w ks vs) ys
  | [], vs, kk, xs, h, r, hl => by
    cases h
    cases xs with
    | nil => exact ⟨[], rfl, rfl, by cases vs <;> exact r⟩
    | cons => cases hl
  | n :: ns, [], kk, xs, h, r, hl => by
    obtain ⟨k2, r2, rfl, _, _⟩ := mapM_cons_some h
    unfold RVs at r
    subst r
    cases hl
  | n :: ns, u :: ws, kk, xs, h, r, hl => by
    obtain ⟨k2, r2, rfl, a, b⟩ := mapM_cons_some h
    unfold RVs at r
    obtain ⟨x, ys, rfl, c, d⟩ := r
    obtain ⟨zs, i1, i2, i3⟩ := drepl_ho hk rv b d (Nat.succ.inj hl)
    rw [List.zip_cons_cons, List.map_cons, i1]
    unfold drepl
    by_cases e : n = k
    · have : k2 = κ := by rw [e, hk] at a; exact (Option.some.inj a).symm
      rw [if_pos e, if_pos (show (k2, x).1 = κ from this)]
      exact ⟨v :: zs, rfl, by simp [i2], RVs.cons rv i3⟩
    · have : ¬ k2 = κ := fun z => e (keyV_inj a (z ▸ hk))
      rw [if_neg e, if_neg (show ¬ (k2, x).1 = κ from this)]
      exact ⟨x :: zs, rfl, by simp [i2], RVs.cons c i3⟩
theorem dput_ho {k w : W} {v : V} {κ : Key} {ks vs : List W} {kk : List Key} {xs : List V} (hk : keyV k = some κ) (rv : RV g G H w v) (h : ks.mapM keyV = some kk) (r : RVs g G H vs xs) (hl : kk.length = xs.length) :
    ∃ kk' ys, (dputK k ks).mapM keyV = some kk' ∧ putK (kk.zip xs) κ v = kk'.zip ys ∧ kk'.length = ys.length ∧ RVs g G H (dputV k w ks vs) ys := by
  have ha := any_mem hk h hl
  unfold putK dputK dputV
  by_cases hm : k ∈ ks
  · rw [if_pos (ha.mpr hm), if_pos hm, if_pos hm]
    obtain ⟨ys, a, b, c⟩ := drepl_ho hk rv h r hl
    exact ⟨kk, ys, h, a, by rw [b]; exact hl, c⟩
  · rw [if_neg (fun z => hm (ha.mp z)), if_neg hm, if_neg hm]
    refine ⟨kk ++ [κ], xs ++ [v], mapM_snoc_some hk h, ?_, by simp [hl], RVs.append r (RVs.cons rv RVs.nil)⟩
    rw [List.zip_append hl]; rfl
theorem mapM_len {ks : List W} : ∀ {kk : List Key}, ks.mapM keyV = some kk → kk.length = ks.length := by
  induction ks with
  | nil => intro kk h; cases h; rfl
  | cons n ns ih =>
    intro kk h
    obtain ⟨k2, r2, rfl, _, b⟩ := mapM_cons_some h
    rw [List.length_cons, List.length_cons, ih b]
/-- a dict, frozen or not -/
theorem dicOf_spec {w : W} {v : V} {ks vs : List W} (rp : Rep g G lh H) (rv : RV g G H w v) (e : dicOf lh w = some (ks, vs)) : ∃ p kk xs, v = .ref p ∧ H p = some (.dK (kk.zip xs)) ∧ ks.mapM keyV = some kk ∧ kk.length = xs.length ∧ RVs g G H vs xs := by
  unfold dicOf at e
  split at e
  · cases e
    unfold RV at rv
    obtain ⟨p, ho, xs, rfl, _, hp, ⟨kk, a, rfl, b⟩, r⟩ := rv
    exact ⟨p, kk, xs, rfl, hp, a, b, r⟩
  · split at e
    · rename_i hm
      cases e
      unfold RV at rv
      obtain ⟨p, rfl, hp⟩ := rv
      obtain ⟨ho, q0, xs, ⟨kk, a, rfl, b⟩, r⟩ := rp.at hm hp
      exact ⟨p, kk, xs, rfl, q0, a, b, r⟩
    · cases e
  · cases e
theorem dget_rel {w k : W} {y : V} {ks vs : List W} {p : Addr} {kk : List Key} {xs : List V} (hp : H p = some (.dK (kk.zip xs))) (a : ks.mapM keyV = some kk) (b : kk.length = xs.length) (r : RVs g G H vs xs) (hk : keyF k = true) (ry : RV g G H k y) :
    ∃ o, DGet H p y o ∧ (∀ w, dlk k ks vs = some w → ∃ v, o = some v ∧ RV g G H w v) ∧ (dlk k ks vs = none → o = none) := by
  obtain ⟨κ, e⟩ := keyF_V hk
  obtain ⟨h1, h2⟩ := dlk_val e a r b
  refine ⟨valV (kk.zip xs) κ, ?_, h1, h2⟩
  rw [keyV_rv e ry]
  exact DGet.k hp
end
section
variable {t : Tp} {cl : Cl} {n : Nat} {ar : Ar} {N : List Str} {X : Cx} {Wx : WX} {fn : Str → Bool} {sc : Scope} (c : Cok t X Wx n N fn sc) (o : t.Ok)
omit c o in
theorem post_dic {ks vs : List W} {kk : List Key} {xs : List V} {g : Gw} {G : Gh} {H : Hp} {lh : LH} {Q : VK} {E : XK} {p : Addr} (rp : Rep g G lh H) (a : ks.mapM keyV = some kk) (b : kk.length = xs.length) (r : RVs g G H vs xs) (h : PostG g (RV g) G H (.ok (.ref lh.length) (lh ++ [.dic ks vs])) Q E) (hp : H p = none) : Q (.ref p) (upd H p (.dK (kk.zip xs))) := by
  have m : Mono g G H ⟨G.io ++ [p], G.Fz, G.Pr⟩ (upd H p (.dK (kk.zip xs))) := Mono.fresh hp rp.fz (fun i q hq => by rw [List.getElem?_append_left (List.getElem?_eq_some_iff.mp hq).1]; exact hq) fun _ z => z
  obtain ⟨e1, rp1⟩ := rp.alloc (ob := .dic ks vs) (o := .dK (kk.zip xs)) hp ⟨xs, ⟨kk, a, rfl, b⟩, r.mono m⟩
  refine h.at e1 rp1 (rv_ref ?_)
  show (G.io ++ [p])[lh.length]? = some p
  rw [← rp.len]; simp
omit c o in
theorem snd_dnew {pos : Pos} : PE X (.Dict [] [] pos) (tE t cl Wx .dnew) := by
  refine pe_imp pe_dnewK fun σ H Q ⟨G, ls, lh, re, rp, h⟩ p hp => ?_
  simp only [evE] at h
  exact post_dic (kk := []) (xs := []) rp rfl rfl RVs.nil h hp
omit c o in
theorem ix_dget (hu : X.A.units + 1 < cLine) : IxR X (fun x y H Q => ∃ a v, x = .ref a ∧ DGet H a y (some v) ∧ Q v H) := by
  intro value slice pins s σ H x y v u Q I rx ry h hs
  obtain ⟨a, r, rfl, g, q⟩ := h
  obtain rfl : v = Value.ref a := rx
  exact tail_any (dict_typeIs I g) PySem.F.slot_dict_getitem.lookup (d_getItem hu I g ry fun w' s' I' rw' => ⟨r, H, I', rw', q⟩) hs
omit c o in
theorem snd_dix {g : Gw} (hK : X.K = g.K) (hu : X.A.units + 1 < cLine) : IxR X (rOp g evDix) := by
  intro value slice pins s σ H x y v u Q I rx ry h hs
  obtain ⟨G, lh, wx, wy, E, rp, r1, r2, h⟩ := h
  unfold evDix at h
  split at h
  · rename_i q hq
    refine ix_dget hu value slice pins s σ H x y v u Q I rx ry ?_ hs
    obtain ⟨ks, vs⟩ := q
    split at h
    · rename_i hk
      obtain ⟨p, kk, xs, rfl, hp, z1, z2, z3⟩ := dicOf_spec rp r1 hq
      obtain ⟨ov, d1, d2, d3⟩ := dget_rel (w := wx) hp z1 z2 z3 hk r2
      split at h
      · rename_i u2 hu2
        obtain ⟨v3, rfl, rv3⟩ := d2 u2 hu2
        exact ⟨p, v3, rfl, d1, h.here rp rv3⟩
      · exact h.elim
    · exact h.elim
  · exact snd_ix hK value slice pins s σ H x y v u Q I rx ry ⟨G, lh, wx, wy, E, rp, r1, r2, h⟩ hs
include c in
theorem snd_didx {a i : E} {x y : Expr} {pos : Pos} (hy : nslice y = true) (ha : PE X x (tE t cl Wx a)) (hi : PE X y (tE t cl Wx i)) : PE X (.Subscript x y pos) (tE t cl Wx (.didx a i)) := by
  refine pe_imp (pe_ix (snd_dix c.hK (hu_of c.room)) ha hi (plain_ix hy)) fun σ H Q ⟨G, ls, lh, re, rp, h⟩ => ?_
  simp only [evE] at h
  exact ⟨G, ls, lh, re, rp, h.bind fun w l1 G1 H1 v _ e1 rp1 rv h1 => ⟨G1, ls, l1, re.mono e1.toMono, rp1, h1.bind fun w2 l2 G2 H2 v2 _ e2 rp2 rv2 h2 => ⟨G2, l2, w, w2, _, rp2, rv.mono e2.toMono, rv2, h2⟩⟩⟩
omit c o in
theorem pc_imp {X : Cx} {op : CmpOp} {x y : Expr} {t t' : TE} (h : PC X op x y t) (i : ∀ σ H Q, t' σ H Q → t σ H Q) : PC X op x y t' := ⟨fun pins s σ H Q I q => h.run pins s σ H Q I (i σ H Q q)⟩
omit c o in
/-- what is behind `in` a dict -/
theorem has_post {neg : Bool} {G2 : Gh} {H2 : Hp} {l2 : LH} {wk wd : W} {y x : V} {Q : VK} {E : XK} (rp2 : Rep t.g G2 l2 H2) (rk : RV t.g G2 H2 wk y) (rd : RV t.g G2 H2 wd x) (h2 : PostG t.g (RV t.g) G2 H2 (evDhas neg wk wd l2) Q E) :
    ∃ a ov, x = .ref a ∧ DGet H2 a y ov ∧ Q (.bl (ov.isSome != neg)) H2 := by
  unfold evDhas at h2
  split at h2
  · rename_i q hq
    obtain ⟨ks, vs⟩ := q
    split at h2
    · rename_i hk
      obtain ⟨p, kk, xs, rfl, hp, z1, z2, z3⟩ := dicOf_spec rp2 rd hq
      obtain ⟨ov, d1, d2, d3⟩ := dget_rel (w := wd) hp z1 z2 z3 hk rk
      refine ⟨p, ov, rfl, d1, ?_⟩
      have e : ov.isSome = (dlk wk ks vs).isSome := by
        cases hl : dlk wk ks vs with
        | none => rw [d3 hl]; rfl
        | some u => obtain ⟨v, e, _⟩ := d2 u hl; rw [e]; rfl
      rw [e]
      exact h2.here rp2 rv_bl
    · exact h2.elim
  · exact h2.elim
include c in
theorem pc_dhas {neg : Bool} {a i : E} {x y : Expr} (hi : PE X x (tE t cl Wx i)) (ha : PE X y (tE t cl Wx a)) : PC X (inOp neg) x y (tE t cl Wx (.dhas neg i a)) := by
  have fin : ∀ σ H Q, tE t cl Wx (.dhas neg i a) σ H Q → tE t cl Wx i σ H fun y H1 => tE t cl Wx a σ H1 fun x H2 => ∃ p ov, x = .ref p ∧ DGet H2 p y ov ∧ Q (.bl (ov.isSome != neg)) H2 := fun σ H Q ⟨G, ls, lh, re, rp, h⟩ => by
    simp only [evE] at h
    exact ⟨G, ls, lh, re, rp, h.bind fun w l1 G1 H1 v _ e1 rp1 rv h1 => ⟨G1, ls, l1, re.mono e1.toMono, rp1, h1.bind fun w2 l2 G2 H2 v2 _ e2 rp2 rv2 h2 => has_post rp2 (rv.mono e2.toMono) rv2 h2⟩⟩
  cases neg with
  | false =>
    exact pc_imp (pc_din (hu_of c.room) hi ha) fun σ H Q h => (by
      have z := fin σ H Q h
      simp only [Bool.bne_false] at z
      exact z)
  | true =>
    exact pc_imp (pc_dnotin (hu_of c.room) hi ha) fun σ H Q h => (by
      have z := fin σ H Q h
      simp only [Bool.bne_true] at z
      exact z)
omit c o in
theorem evDhas_bl {neg : Bool} {k d w : W} {h l : LH} (e : evDhas neg k d h = .ok w l) : ∃ b, w = .bl b := by
  unfold evDhas at e
  split at e
  · split at e
    · injection e with e1 _; exact ⟨_, e1.symm⟩
    · cases e
  · cases e
omit c o in
/-- a comparison's reading, as a test -/
theorem pt_ofC {op : CmpOp} {x y : Expr} {e : E} {pos : Pos} (hm : behindInMarks op y = false) (h : PC X op x y (tE t cl Wx e)) (hb : ∀ ls lh w l1, evE t.T cl e ls lh = .ok w l1 → ∃ b, w = .bl b) : PT X (.Compare x [op] [y] pos) (tT t cl Wx (.tE e)) := by
  refine pt_imp (pt_cmp h hm) fun σ H Q ⟨G, ls, lh, re, rp, h⟩ => ?_
  simp only [evE] at h
  refine ⟨G, ls, lh, re, rp, h.bind fun w l1 G1 H1 v ev e1 rp1 rv h1 => ?_⟩
  obtain ⟨b, rfl⟩ := hb _ _ _ _ ev
  exact ⟨b, rv.bl_eq, h1.here rp1 rfl⟩
include c in
theorem snd_dget1 {a i : E} {x z : Expr} {apos cpos : Pos} (hb : ncall0 x = true) (hl : (apos.endLine == cpos.line) = true) (hz : nst z = true) (ha : PE X x (tE t cl Wx a)) (hi : PE X z (tE t cl Wx i)) :
    PE X (.Call (.Attribute x "get" apos) [z] [] cpos) (tE t cl Wx (.dget a i (.cst .non))) := by
  refine pe_imp (pe_dget1 (hu_of c.room) ha hi ⟨attr_base hb, ?_, hl, ?_⟩) fun σ H Q ⟨G, ls, lh, re, rp, h⟩ => ?_
  · rw [star_cons hz]; rfl
  · rw [star_cons hz]; rfl
  · simp only [evE] at h
    refine ⟨G, ls, lh, re, rp, h.bind fun w l1 G1 H1 v _ e1 rp1 rv h1 => ?_⟩
    split at h1
    case isFalse => exact h1.elim
    rename_i hd
    obtain ⟨q, hq⟩ := Option.isSome_iff_exists.mp hd
    obtain ⟨ks, vs⟩ := q
    obtain ⟨p, kk, xs, rfl, hp, z1, z2, z3⟩ := dicOf_spec rp1 rv hq
    refine ⟨p, rfl, .inl ⟨_, .inl hp⟩, G1, ls, l1, re.mono e1.toMono, rp1, h1.bind fun w2 l2 G2 H2 v2 _ e2 rp2 rv2 h2 => ?_⟩
    have h2 : PostG t.g (RV t.g) G2 H2 (evDget w w2 .non l2) Q (fun cls d H' => Wx cls d σ H') := h2
    unfold evDget at h2
    split at h2
    · rename_i q hq
      obtain ⟨ks, vs⟩ := q
      split at h2
      · rename_i hk
        obtain ⟨p2, kk, xs, e, hp, z1, z2, z3⟩ := dicOf_spec rp2 (rv.mono e2.toMono) hq
        cases e
        obtain ⟨ov, d1, d2, d3⟩ := dget_rel (w := w) hp z1 z2 z3 hk rv2
        refine ⟨ov, d1, ?_⟩
        cases hl : dlk w2 ks vs with
        | none => rw [hl] at h2; rw [d3 hl]; exact h2.here rp2 rv_non
        | some u => obtain ⟨v, e, rv3⟩ := d2 u hl; rw [hl] at h2; rw [e]; exact h2.here rp2 rv3
      · exact h2.elim
    · exact h2.elim
include c in
theorem snd_dget2 {a i e : E} {x z u : Expr} {apos cpos : Pos} (hb : ncall0 x = true) (hl : (apos.endLine == cpos.line) = true) (hz : nst z = true) (hu : nst u = true) (ha : PE X x (tE t cl Wx a)) (hi : PE X z (tE t cl Wx i)) (he : PE X u (tE t cl Wx e)) :
    PE X (.Call (.Attribute x "get" apos) [z, u] [] cpos) (tE t cl Wx (.dget a i e)) := by
  refine pe_imp (pe_dget2 (hu_of c.room) ha hi he ⟨attr_base hb, ?_, hl, ?_⟩) fun σ H Q ⟨G, ls, lh, re, rp, h⟩ => ?_
  · rw [star_cons hz, star_cons hu]; rfl
  · rw [star_cons hz, star_cons hu]; rfl
  · simp only [evE] at h
    refine ⟨G, ls, lh, re, rp, h.bind fun w l1 G1 H1 v _ e1 rp1 rv h1 => ?_⟩
    split at h1
    case isFalse => exact h1.elim
    rename_i hd
    obtain ⟨q, hq⟩ := Option.isSome_iff_exists.mp hd
    obtain ⟨ks, vs⟩ := q
    obtain ⟨p, kk, xs, rfl, hp, z1, z2, z3⟩ := dicOf_spec rp1 rv hq
    refine ⟨p, rfl, .inl ⟨_, .inl hp⟩, G1, ls, l1, re.mono e1.toMono, rp1, h1.bind fun w2 l2 G2 H2 v2 _ e2 rp2 rv2 h2 => ⟨G2, ls, l2, (re.mono e1.toMono).mono e2.toMono, rp2, h2.bind fun w3 l3 G3 H3 v3 _ e3 rp3 rv3 h3 => ?_⟩⟩
    unfold evDget at h3
    split at h3
    · rename_i q hq
      obtain ⟨ks, vs⟩ := q
      split at h3
      · rename_i hk
        obtain ⟨p2, kk, xs, e, hp, z1, z2, z3⟩ := dicOf_spec rp3 ((rv.mono e2.toMono).mono e3.toMono) hq
        cases e
        obtain ⟨ov, d1, d2, d3⟩ := dget_rel (w := w) hp z1 z2 z3 hk (rv2.mono e3.toMono)
        refine ⟨ov, d1, ?_⟩
        cases hl : dlk w2 ks vs with
        | none => rw [hl] at h3; rw [d3 hl]; exact h3.here rp3 rv3
        | some u => obtain ⟨v, e, rv4⟩ := d2 u hl; rw [hl] at h3; rw [e]; exact h3.here rp3 rv4
      · exact h3.elim
    · exact h3.elim
include c in
theorem snd_setD {a i e : E} {x y v : Expr} {p pos : Pos} (hn : ncomp v = true) (hy : nslice y = true) (ha : PE X x (tE t cl Wx a)) (hi : PE X y (tE t cl Wx i)) (he : PE X v (tE t cl Wx e)) : PS X (.Assign [.Subscript x y p] v pos) (tS t cl Wx (.setD a i e)) := by
  refine ps_imp (ps_dput (hu_of c.room) ha hi he (swaps_n hn)) fun D σ H ⟨G, ls, lh, re, rp, h⟩ => ?_
  simp only [evS] at h
  refine ⟨G, ls, lh, re, rp, PostS.toS re h fun w l1 G1 H1 v _ e1 rp1 rv h1 => ⟨G1, ls, l1, re.mono e1.toMono, rp1, PostS.toS (re.mono e1.toMono) h1 fun w2 l2 G2 H2 v2 _ e2 rp2 rv2 h2 => ⟨G2, ls, l2, (re.mono e1.toMono).mono e2.toMono, rp2, PostS.toS ((re.mono e1.toMono).mono e2.toMono) h2 fun w3 l3 G3 H3 v3 _ e3 rp3 rv3 h3 => ?_⟩⟩⟩
  split at h3
  · rename_i m _
    split at h3
    · rename_i ks vs hm
      split at h3
      · rename_i hj
        have rv2' := rv2.mono e3.toMono
        unfold RV at rv2'
        obtain ⟨q, rfl, hq⟩ := rv2'
        obtain ⟨ho, q0, xs, ⟨kk, z1, rfl, z2⟩, rs⟩ := rp3.at hm hq
        obtain ⟨κ, hκ⟩ := keyF_V hj.1
        have rv' := (rv.mono e2.toMono).mono e3.toMono
        have re' := ((re.mono e1.toMono).mono e2.toMono).mono e3.toMono
        obtain ⟨kk', ys, y1, y2, y3, y4⟩ := dput_ho hκ rv' z1 rs z2
        have s1 := rp3.sep m _ q hm hq (fun z => by cases z)
        have hlen : (kk.zip xs).length < sizeLine := by
          rw [List.length_zip, ← z2, Nat.min_self, mapM_len z1]
          exact Nat.lt_of_lt_of_le hj.2 (big_line (Nat.le_refl _))
        refine ⟨q, upd H3 q (.dK (kk'.zip ys)), rfl, ?_, ?_⟩
        · rw [keyV_rv hκ rv3, ← y2]
          exact DPut.k q0 hlen
        · have x1 : Ext t.g G3 H3 G3 (upd H3 q (.dK (kk'.zip ys))) := Ext.write q0 ⟨s1.1, .inr (.inr (.inl ⟨_, rfl⟩))⟩ s1.2
          obtain ⟨x2, rp4⟩ := rp3.write (o' := .dic (dputK w3 ks) (dputV w3 w ks vs)) (ho' := .dK (kk'.zip ys)) hm hq (fun z => by cases z) q0 (.inr (.inr (.inl ⟨_, rfl⟩))) ⟨ys, ⟨kk', y1, rfl, y3⟩, y4.mono x1.toMono⟩
          exact h3 _ _ _ x2 rp4 (re'.mono x2.toMono)
      · exact h3.elim
    · exact h3.elim
  · exact h3.elim
end
end Mp
namespace Mp
open PySem PySem.Spec PyProof.Rows L2
/-! ### list(d.keys()) -/
def tKeysL (te : TE) : TE := fun σ H Q => te σ H fun x H1 => ∃ (d : Addr) (kvs : List (Key × V)), x = .ref d ∧ H1 d = some (.dK kvs) ∧ ∀ q, H1 q = none → Q (.ref q) (upd H1 q (.lst (kvs.map fun kv => kV kv.1)))
theorem vals_at : ∀ {xs : List V} {us : List Value}, xs.length = us.length → (∀ (j : Nat) (x : V) (u : Value), xs[j]? = some x → us[j]? = some u → RelV x u) → Vals xs us
  | [], [], _, _ => .nil
  | [], _ :: _, h, _ => by cases h
  | _ :: _, [], h, _ => by cases h
  | x :: xs, u :: us, h, k => .cons (k 0 x u rfl rfl) (vals_at (Nat.succ.inj h) fun j a b p q => k (j + 1) a b p q)
section
variable {X : Cx} {e : Expr} {te : TE} {p apos cpos pos : Pos}
theorem pe_keysL (calm : X.calm = true) (he : PE X e te) (gl1 : Gl X "list") (mg1 : X.mg "list" = none) (base : attributeBase e "keys" X.env (eval e X.env) = eval e X.env) (line : (apos.endLine == cpos.line) = true) :
    PE X (.Call (.Name "list" p) [.Call (.Attribute e "keys" apos) [] [] cpos] [] pos) (tKeysL te) := by
  have stars : starEach [.Call (.Attribute e "keys" apos) [] [] cpos] X.env = (false, eval (.Call (.Attribute e "keys" apos) [] [] cpos) X.env) :: starEach [] X.env := rfl
  have boot : bootBuiltins "list" = some (.type "list") := by decide +kernel
  refine ⟨fun pn z τ J Q0 Iz want => ?_⟩
  refine wpAny_Call_Name_kw (ld_blt Iz gl1 mg1 boot ?_)
  refine PyProof.Rows.callWith_type1 ?_ stars rfl
  rw [stars]
  show wpAny _ _ (spliced ((false, eval (.Call (.Attribute e "keys" apos) [] [] cpos) X.env) :: backTo pos (starEach [] X.env))) _ _ z
  refine Calls.spliced_cons (wpAny_Call_method (T := "dict") (id := "dict.keys") base rfl line F.plainAttrs_dict F.slot_dict_keys F.type_dict_keys (thn (he.run pn z τ J _ Iz want) ?_))
  rintro u y ⟨x, J1, Iy, rx, d, kvs, rfl, hd, q⟩
  obtain rfl : u = Value.ref d := rx
  obtain ⟨hz, lo, vs, kv, hdo⟩ := Iy.hok d _ hd
  obtain ⟨ep, hat⟩ := hdo.dictAt
  have same : kvs.length = vs.length := Paired.length kv
  refine ⟨hdo.typeIs, hdo.mapOf.noDict, ?_⟩
  show wpAny _ _ (callWith cpos (.builtin "dict.keys") [.ref d] [] []) _ X.xe y
  refine method_meetsIn F.slot_dict_keys F.entry_dict_keys rfl (PySem.evalArgs_none ⟨rfl, hdo.typeIs, F.args_dict_keys_1 _, _, PySem.W.kdl_meets_keys (mixKind X.prog X.w) d lo, ⟨vs, hdo⟩, ?_⟩)
  refine Calls.spliced_nil ?_
  have I2 : Inv X pn τ J1 { y with heap := y.heap.push { cls := .type "dict_keys", data := .fields #[.ref d] } } := Iy.kept (t' := y.toks) fun b ob r => Heap.get?_push_of_some _ r
  refine PySem.W.kdl_call (PySem.W.kdl_keys (knd := mixKind X.prog X.w) (kvs := vs) (ep := ep) (r := y.heap.objs.size) (d := d)) (Iy.ok.hd calm) ⟨⟨_, Heap.get?_push_size _ rfl, rfl, rfl⟩, hat.push _⟩ (by omega) fun h' tk acc c keep made its => ?_
  have fr := I2.hok.fresh (Nat.le_refl _)
  refine ⟨.ref _, _, I2.laid (o := .lst (kvs.map fun kv => kV kv.1)) keep (Nat.le_refl _) ⟨by rw [List.length_map]; exact hz, acc.toList, c, vals_at ?_ fun j x u hx hu => ?_, ?_⟩, rfl, q _ fr⟩
  · rw [List.length_map, same, Array.length_toList]; exact its.1.symm
  · obtain ⟨k, w, hk, hi⟩ := its.2 j u (by rw [← Array.getElem?_toList]; exact hu)
    have e1 : (kvs.map (·.1))[j]? = some k := by rw [KV.keys kv, List.getElem?_map, hk]; rfl
    have e2 : (kvs.map fun kv => kV kv.1) = (kvs.map (·.1)).map kV := by rw [List.map_map]; rfl
    rw [e2, List.getElem?_map, e1] at hx
    cases hx
    exact keyIs_rel hi
  · rw [Array.toArray_toList]; exact made
end
section
variable {g : Gw} {G : Gh} {H : Hp} {lh : LH}
theorem keys_rv : ∀ {ks : List W} {kk : List Key}, ks.mapM keyV = some kk → RVs g G H ks (kk.map kV)
  | [], kk, h => by cases h; exact RVs.nil
  | n :: ns, kk, h => by
    obtain ⟨k2, r2, rfl, a, b⟩ := mapM_cons_some h
    rw [List.map_cons]
    refine RVs.cons ?_ (keys_rv b)
    cases n <;> first | (cases a; done) | skip
    · cases a; exact rv_int
    · cases a; exact rv_str
theorem zip_fst : ∀ {kk : List Key} {xs : List V}, kk.length = xs.length → ((kk.zip xs).map fun kv => kV kv.1) = kk.map kV
  | [], [], _ => rfl
  | [], _ :: _, h => by cases h
  | _ :: _, [], h => by cases h
  | k :: kk, x :: xs, h => by
    rw [List.zip_cons_cons, List.map_cons, List.map_cons, zip_fst (Nat.succ.inj h)]
end
section
variable {t : Tp} {cl : Cl} {n : Nat} {ar : Ar} {N : List Str} {X : Cx} {Wx : WX} {fn : Str → Bool} {sc : Scope} (c : Cok t X Wx n N fn sc) (o : t.Ok)
include c o
theorem snd_dkeys {a : E} {x : Expr} {y z : Str} {p apos cpos pos : Pos} (h1 : seq y "list" = true) (h2 : Mp.gl sc y = true) (h3 : seq z "keys" = true) (hb : ncall0 x = true) (hl : (apos.endLine == cpos.line) = true) (ha : PE X x (tE t cl Wx a)) :
    PE X (.Call (.Name y p) [.Call (.Attribute x z apos) [] [] cpos] [] pos) (tE t cl Wx (.dkeys a)) := by
  have e1 := seq_eq h1
  have e2 := seq_eq h3
  subst e1
  subst e2
  refine pe_imp (pe_keysL c.calm ha (c.gl h2) (c.free o (by decide)) (attr_base hb) hl) fun σ H Q ⟨G, ls, lh, re, rp, h⟩ => ?_
  simp only [evE] at h
  refine ⟨G, ls, lh, re, rp, h.bind fun w l1 G1 H1 v _ e1 rp1 rv h1 => ?_⟩
  unfold evDkeys at h1
  split at h1
  · rename_i q hq
    obtain ⟨ks, vs⟩ := q
    obtain ⟨p, kk, xs, rfl, hp, z1, z2, z3⟩ := dicOf_spec rp1 rv hq
    refine ⟨p, _, rfl, hp, fun q hq => ?_⟩
    rw [zip_fst z2]
    exact post_fl rp1 (keys_rv z1) h1 hq
  · exact h1.elim
/-! ### displays -/
omit c o in
/-- what a display's parts are -/
def tDp (t : Tp) (cl : Cl) (e : E) : Sst → Hp → (List (V × V) → Hp → Prop) → Prop := fun σ H Q => ∃ (G : Gh) (ls : Env) (lh : LH), REnv t.g G H ls σ ∧ Rep t.g G lh H ∧ ∃ w l1, evE t.T cl e ls lh = .ok w l1 ∧
  ∀ G' H' ps, Ext t.g G H G' H' → Rep t.g G' l1 H' → RVs t.g G' H' (items w) (ps.flatMap fun p => [p.1, p.2]) → Q ps H'
omit c o in
structure PDs (t : Tp) (cl : Cl) (X : Cx) (pos : Pos) (keys : List (Option Expr)) (values : List Expr) (e : E) : Prop where
  ex : ∃ trs, PPs X pos keys values trs ∧ ∀ σ H Q, tDp t cl e σ H Q → tPairs trs σ H Q
  all : keys.all (·.isSome) = true
  len : keys.length = values.length
  cnt : ∀ ls lh w l1, evE t.T cl e ls lh = .ok w l1 → (items w).length = 2 * values.length
omit c o in
theorem pds_nil {pos : Pos} : PDs t cl X pos [] [] .nil := by
  refine ⟨⟨[], pps_nil, fun σ H Q ⟨G, ls, lh, re, rp, w, l1, ev, k⟩ => ?_⟩, rfl, rfl, fun ls lh w l1 ev => ?_⟩
  · simp only [evE] at ev
    cases ev
    exact k G H [] Ext.refl rp RVs.nil
  · simp only [evE] at ev
    cases ev; rfl
omit c o in
theorem pds_cons {pos : Pos} {a b es : E} {x y : Expr} {ks : List (Option Expr)} {vs : List Expr} (ha : PE X x (tE t cl Wx a)) (hb : PE X y (tE t cl Wx b)) (r : PDs t cl X pos ks vs es) : PDs t cl X pos (some x :: ks) (y :: vs) (.cons a (.cons b es)) := by
  obtain ⟨trs, h1, h2⟩ := r.ex
  refine ⟨⟨_, pps_cons ha hb h1, fun σ H Q ⟨G, ls, lh, re, rp, w, l1, ev, k⟩ => ?_⟩, ?_, ?_, fun ls lh w l1 ev => ?_⟩
  · simp only [evE] at ev
    obtain ⟨wa, la, ea, ev⟩ := bind_ok ev
    obtain ⟨w2, l2, e2, ev⟩ := bind_ok ev
    cases ev
    obtain ⟨wb, lb, eb, e2⟩ := bind_ok e2
    obtain ⟨w3, l3, e3, e2⟩ := bind_ok e2
    cases e2
    refine ⟨G, ls, lh, re, rp, ?_⟩
    rw [ea]
    intro G1 H1 v1 x1 rp1 rv1
    refine ⟨G1, ls, la, re.mono x1.toMono, rp1, ?_⟩
    rw [eb]
    intro G2 H2 v2 x2 rp2 rv2
    refine h2 σ H2 _ ⟨G2, ls, lb, (re.mono x1.toMono).mono x2.toMono, rp2, _, _, e3, fun G3 H3 ps x3 rp3 rs => ?_⟩
    refine k G3 H3 _ ((x1.trans x2).trans x3) rp3 ?_
    exact RVs.cons ((rv1.mono x2.toMono).mono x3.toMono) (RVs.cons (rv2.mono x3.toMono) rs)
  · rw [List.all_cons, r.all]; rfl
  · rw [List.length_cons, List.length_cons, r.len]
  · simp only [evE] at ev
    obtain ⟨wa, la, ea, ev⟩ := bind_ok ev
    obtain ⟨w2, l2, e2, ev⟩ := bind_ok ev
    cases ev
    obtain ⟨wb, lb, eb, e2⟩ := bind_ok e2
    obtain ⟨w3, l3, e3, e2⟩ := bind_ok e2
    cases e2
    have := r.cnt _ _ _ _ e3
    show (_ :: _ :: items w3).length = _
    rw [List.length_cons, List.length_cons, List.length_cons, this]; omega
omit c o in
theorem pairD_spec {g : Gw} {G : Gh} {H : Hp} : ∀ (ps : List (V × V)) {ws ks vs ks' vs' : List W} {kk : List Key} {xs : List V}, pairD ws ks vs = some (ks', vs') → RVs g G H ws (ps.flatMap fun p => [p.1, p.2]) → ks.mapM keyV = some kk → kk.length = xs.length → RVs g G H vs xs →
    ∃ (kvs : List (Key × V)) (kk' : List Key) (ys : List V), ps = kvs.map (fun kv => (kV kv.1, kv.2)) ∧ ks'.mapM keyV = some kk' ∧ kk'.length = ys.length ∧ RVs g G H vs' ys ∧ mergeK (kk.zip xs) kvs = kk'.zip ys
  | [], ws, ks, vs, ks', vs', kk, xs, h, r, a, b, s => by
    have r0 : RVs g G H ws [] := r
    cases ws with
    | nil =>
      unfold pairD at h
      cases h
      exact ⟨[], kk, xs, rfl, a, b, s, rfl⟩
    | cons w ws => unfold RVs at r0; obtain ⟨x, q, e, _⟩ := r0; cases e
  | p :: ps, ws, ks, vs, ks', vs', kk, xs, h, r, a, b, s => by
    have r0 : RVs g G H ws (p.1 :: p.2 :: ps.flatMap fun p => [p.1, p.2]) := r
    match ws, h, r0 with
    | [], h, r0 => unfold RVs at r0; cases r0
    | [w], h, r0 =>
      unfold RVs at r0
      obtain ⟨x, q, e, _, r1⟩ := r0
      cases e
      unfold RVs at r1
      cases r1
    | w1 :: w2 :: ws, h, r0 =>
      unfold RVs at r0
      obtain ⟨x, q, e, rv1, r1⟩ := r0
      cases e
      unfold RVs at r1
      obtain ⟨x, q, e, rv2, r2⟩ := r1
      cases e
      unfold pairD at h
      split at h
      · rename_i hk
        obtain ⟨κ, hκ⟩ := keyF_V hk
        obtain ⟨kk1, ys1, y1, y2, y3, y4⟩ := dput_ho hκ rv2 a s b
        obtain ⟨kvs, kk', ys, z1, z2, z3, z4, z5⟩ := pairD_spec ps h r2 y1 y3 y4
        refine ⟨(κ, p.2) :: kvs, kk', ys, ?_, z2, z3, z4, ?_⟩
        · rw [List.map_cons, ← z1, ← keyV_rv hκ rv1]
        · show mergeK (putK (kk.zip xs) κ p.2) kvs = _
          rw [y2, z5]
      · cases h
omit c o in
theorem snd_dlit {es : E} {k : Option Expr} {ks : List (Option Expr)} {vs : List Expr} {pos : Pos} (h15 : ks.length < 15) (P : PDs t cl X pos (k :: ks) vs es) : PE X (.Dict (k :: ks) vs pos) (tE t cl Wx (.dlit es)) := by
  obtain ⟨trs, h1, h2⟩ := P.ex
  refine pe_imp (pe_disp h1 P.all P.len (by simp) (by rw [List.length_cons]; omega)) fun σ H Q ⟨G, ls, lh, re, rp, h⟩ p hp => ?_
  simp only [evE] at h
  cases ev : evE t.T cl es ls lh with
  | no => rw [ev] at h; exact h.elim
  | ex => rw [ev] at h; exact h.elim
  | ok w l1 =>
  rw [ev] at h
  dsimp only [R.noex, R.bind] at h
  split at h
  case h_2 => exact h.elim
  rename_i q hq
  obtain ⟨m0, rp0⟩ := rp.own (D := p) (o := .dK []) hp
  have nD : ¬ G.Pr p := fun z => rp.pr p z hp
  refine h2 σ _ _ ⟨_, ls, lh, re.mono m0, rp0, w, l1, ev, fun G1 H1 ps x1 rp1 rs => ?_⟩
  have e0 : H1 p = some (.dK []) := (x1.kept p (.inr rfl)).trans upd_same
  obtain ⟨kvs, kk', ys, z1, z2, z3, z4, z5⟩ := pairD_spec (ks := []) (vs := []) (kk := []) (xs := []) ps hq rs rfl rfl RVs.nil
  refine ⟨e0, kvs, z1, ?_, ?_⟩
  · -- at most as many as there are values
    have hl : (items w).length = (ps.flatMap fun p => [p.1, p.2]).length := RVs.length rs
    have h2 := P.cnt _ _ _ _ ev
    have h3 : (ps.flatMap fun p => [p.1, p.2]).length = 2 * ps.length := by
      clear z1 rs hl
      induction ps with
      | nil => rfl
      | cons p ps ih => rw [List.flatMap_cons, List.length_append, ih]; simp; omega
    have h4 : ps.length = kvs.length := by rw [z1, List.length_map]
    have h5 := P.len
    rw [List.length_cons] at h5
    omega
  · have hpr : G1.Pr p := by rw [x1.pr]; exact .inr rfl
    obtain ⟨m2, rp2⟩ := rp1.mine (o := .dK (mergeK [] kvs)) hpr e0 (.inr (.inr (.inl ⟨_, rfl⟩)))
    have hP : (⟨G1.io, G1.Fz, G1.Pr⟩ : Gh).Pr = fun q => G.Pr q ∨ q = p := x1.pr
    obtain ⟨m3, rp3⟩ := rp2.giveO (D := p) (P := G.Pr) (ob := .dic q.1 q.2) (ho := .dK (mergeK [] kvs)) x1.pr nD upd_same ⟨ys, ⟨kk', z2, congrArg HO.dK z5, z3⟩, z4.mono m2⟩
    refine h ⟨G1.io ++ [p], G1.Fz, G.Pr⟩ _ (.ref p) ⟨⟨fun i q hq => m3.pre i q (m2.pre i q (x1.pre i q (m0.pre i q hq))), fun q hq => ?_, fun q xs hq => m3.tup q xs (m2.tup q xs (x1.tup q xs (m0.tup q xs hq))), fun q xs hq => m3.rd q xs (m2.rd q xs (x1.rd q xs (m0.rd q xs hq)))⟩, rfl, fun q hq => ?_⟩ rp3 ?_
    · obtain ⟨f0, g0⟩ := m0.fz q hq
      obtain ⟨f1, g1⟩ := x1.fz q f0
      obtain ⟨f2, g2⟩ := m2.fz q f1
      exact ⟨f2, g2.trans (g1.trans g0)⟩
    · have : q ≠ p := fun z => nD (z ▸ hq)
      rw [upd_ne this, x1.kept q (.inl hq), upd_ne this]
    · exact rv_ref (by rw [← rp1.len]; simp)
/-! ### in, by the own __contains__ -/
omit c o in
theorem in_own {pins : List (Addr × Obj)} {σ : L2.St} {H : Hp} {s : Shared} {a C dx : Addr} {f : Addr} {fs : List (Str × V)} {u : Value} {op : CmpOp} {neg : Bool} {Q : Value → Shared → Prop} {Er : Value → Shared → Prop} (I : Inv X pins σ H s) (ea : H a = some (.ins C dx fs)) (hm : Meth X.K C "__contains__" f) (ho : op = inOp neg)
    (h : wpAny (model X.prog X.w) X.A (PySem.call (Value.ref f) [Value.ref a, u]) (fun r s' => ∃ b : Bool, r = Value.bool b ∧ Q (Value.bool (b != neg)) s') Er s) : wpAny (model X.prog X.w) X.A (compareOp op u (.ref a)) Q Er s := by
  obtain ⟨mA, O, _, _, _, _⟩ := ins_get I.hok ea
  obtain ⟨od, J, _⟩ := O.look
  have one : wpAny (model X.prog X.w) X.A (PySem.contains (Value.ref a) u) (fun b s' => Q (Value.bool (b != neg)) s') Er s := by
    have none_ : stdlibNamesSay? (.ref a) u = none := rfl
    unfold PySem.contains
    rw [none_]
    have fnone : (some (Value.ref f) == some Value.none) = false := rfl
    have fnone2 : (Value.ref f == Value.none) = false := rfl
    refine wpAny_holding ?_
    refine wpAny_bind (wpAny_bind (J.type.here ((PySem.W.looks_findIn I.kIn hm.at_).here ?_)))
    show wpAny _ _ (if (some (Value.ref f) == some Value.none) = true then _ else _) _ _ _
    rw [fnone, if_neg Bool.false_ne_true]
    refine wpAny_bind ?_
    unfold callSpecialUnlessNone?
    refine wpAny_bind (wpAny_bind (J.type.here ((PySem.W.looks_findIn I.kIn hm.at_).here (wpAny_holding ?_))))
    refine wpAny_bind ((PySem.W.bind_fn I.kIn _ (beq_iff_eq.mp hm.fn)).here ?_)
    dsimp only
    rw [fnone2]
    simp only [Bool.false_eq_true, if_false]
    refine wpAny_bind (wpAny_mono h (fun r s' hr => ?_) fun _ _ z => z)
    obtain ⟨b, rfl, q⟩ := hr
    exact wpAny_pure (wpAny_truthy_bool q)
  cases neg with
  | false =>
    subst ho
    show wpAny _ _ (do return Value.bool (← PySem.contains (Value.ref a) u)) Q Er s
    exact wpAny_bind (wpAny_mono one (fun b s' q => wpAny_pure (by simpa using q)) fun _ _ z => z)
  | true =>
    subst ho
    show wpAny _ _ (do return Value.bool (!(← PySem.contains (Value.ref a) u))) Q Er s
    exact wpAny_bind (wpAny_mono one (fun b s' q => wpAny_pure (by simpa using q)) fun _ _ z => z)
omit c o in
theorem pass_no {P : Program} {w : World} : Passes (L2.CX P w) X (fun _ _ _ => False) := fun pins σ H s e s' I h => by
  obtain ⟨a, B, H', cls, d, z1, z2, z3, z4, z5, z6, z7, q⟩ := h
  exact q.elim
omit c o in
/-- len(o), o's class with an own __len__ -/
theorem len_own {pins : List (Addr × Obj)} {σ : L2.St} {H : Hp} {s : Shared} {a C dx : Addr} {f : Addr} {fs : List (Str × V)} {Q : Value → Shared → Prop} {Er : Value → Shared → Prop} (I : Inv X pins σ H s) (ea : H a = some (.ins C dx fs)) (hm : Meth X.K C "__len__" f)
    (h : wpAny (model X.prog X.w) X.A.in1 (PySem.call (Value.ref f) [Value.ref a]) (fun r s' => ∃ (i : Int) (k : Tok), r = Value.int i k ∧ 0 ≤ i ∧ i < 2 ^ 63 ∧ Q (Value.int i s'.toks) { s' with toks := s'.toks + 1 }) (fun _ _ => False) s) : wpAny (model X.prog X.w) X.A (PySem.call (.builtin "len") [Value.ref a]) Q Er s := by
  obtain ⟨mA, O, _, _, _, _⟩ := ins_get I.hok ea
  obtain ⟨od, J, _⟩ := O.look
  refine Calls.call_function_entry kind_len plain_len entry_len (args_len1 _) ?_
  unfold Builtin.«len»
  refine wpAny_bind (m := oneArg "len" _) (wpAny_pure ?_)
  refine wpAny_bind (m := callSpecial? (.ref a) (PySem.Str.ofString "__len__")) ?_
  unfold callSpecial?
  refine wpAny_bind (wpAny_bind (J.type.here ((PySem.W.looks_findIn I.kIn hm.at_).here ?_)))
  refine wpAny_holding (wpAny_bind ((PySem.W.bind_fn I.kIn _ (beq_iff_eq.mp hm.fn)).here (wpAny_bind (wpAny_mono h (fun r s' hr => wpAny_pure ?_) fun _ _ z => z.elim))))
  obtain ⟨i, k, rfl, h0, h1, q⟩ := hr
  refine wpAny_bind (wpAny_holding (wpAny_pure ?_))
  refine wpAny_bind (wpAny_letGo ?_)
  show wpAny _ _ (if i < 0 then _ else _) _ _ _
  rw [if_neg (by omega)]
  show wpAny _ _ (if i ≥ 2 ^ 63 then _ else _) _ _ _
  rw [if_neg (by omega)]
  exact wpAny_bind (wpAny_mkInt (wpAny_pure ⟨_, rfl, q⟩))
theorem snd_olen (F : Fns t ar cl n) {a : E} {x : Expr} {y : Str} {p pos : Pos} (h1 : seq y "len" = true) (h2 : Mp.gl sc y = true) (h3 : okName y = true) (hs : nst x = true) (ha : PE X x (tE t cl Wx a)) : PE X (.Call (.Name y p) [x] [] pos) (tE t cl Wx (.olen a)) := by
  have e := seq_eq h1
  have hm : X.mg y = none := by rw [e]; exact c.free o (by decide)
  have hb : bootBuiltins y = some (.builtin "len") := by rw [e]; exact bn_boot .len
  refine ⟨fun pins s σ H Q I ⟨G, ls, lh, re, rp, h⟩ => ?_⟩
  simp only [evE] at h
  refine wpAny_Call_Name_kw (ld_blt I (c.gl h2) hm hb ?_ (okName_n h3) (okName_d h3))
  refine PyProof.Rows.callWith_builtin1 (thn ((pa_cons ha pa_nil (star_cons hs)).run pos pins s σ H (fun vs H1 => ∃ v, vs = [v] ∧ ∃ G1 l1 wx, Rep t.g G1 l1 H1 ∧ RV t.g G1 H1 wx v ∧ PostG t.g (RV t.g) G1 H1 (match clsOf l1 wx with
    | some (c, _) => if t.T.mth c "__len__" 0 = true then (match cl (c ++ "." ++ "__len__") [wx] l1 with
      | .ok (.int i) h2 => if 0 ≤ i ∧ i < 2 ^ 63 then .ok (.int i) h2 else .no
      | _ => .no) else .no
    | none => .no) Q fun cls d H' => Wx cls d σ H') I ⟨G, ls, lh, re, rp, h.bind fun w l1 G1 H1 v _ e1 rp1 rv h1 => ⟨v, rfl, G1, l1, w, rp1, rv, h1⟩⟩) fun us s1 ⟨vs, H1, I1, r1, v, ev, G1, l1, wx, rp1, rv, h1⟩ => ?_) (star_cons hs) rfl
  subst ev
  obtain ⟨u, rfl, ru⟩ := vals1 r1
  split at h1
  case h_2 => exact h1.elim
  rename_i C ns hcl
  split at h1
  case isFalse => exact h1.elim
  rename_i hq
  obtain ⟨q, dx, xs, rfl, hp⟩ := clsOf_spec rp1 rv hcl
  obtain rfl : u = Value.ref q := ru
  obtain ⟨k1, k2, d, hd, k3, k4⟩ := o.mth C "__len__" _ hq
  obtain ⟨ds, dvs, q1, q2, q3, q4⟩ := o.bi _ d _ hd k3 k4
  have Fo := F.ok _ d hd
  rw [← c.hP, ← c.hw, ← c.hK, ← c.hmg, ← c.hb] at Fo
  have e0 : cl (C ++ "." ++ "__len__") [wx] l1 = cl (C ++ "." ++ "__len__") ([wx] ++ d.dfl.drop (d.dfl.length - (d.np - 1))) l1 := F.fill _ d _ _ hd (by exact k3) (by exact k4)
  rw [e0] at h1
  have I2 := I1
  have hl : ([Value.ref q] ++ ds).length = (t.ps (C ++ "." ++ "__len__")).length := by
    rw [o.np _ _ hd, List.length_append, ← q3.length, q1]
    show 1 + (d.np - 1) = d.np
    have : 0 + 1 ≤ d.np := k3
    omega
  have hb : Binds X.K (t.fd (C ++ "." ++ "__len__")) (t.ps (C ++ "." ++ "__len__")) ds := by rw [c.hK]; exact q4
  refine len_own I1 hp (by rw [c.hK]; exact k2) (wpAny_call (codeAny_mono (Fo.run X.A.in1 X.stack s1 H1 ⟨[.ref q], []⟩ (.ref q :: ds) (.ref q :: dvs) (fun v H' => ∃ i : Int, v = .int i ∧ 0 ≤ i ∧ i < 2 ^ 63 ∧ Q (.int i) H') (fun _ _ _ => False) (c.room.mono (by omega)).in1 I1.env0.in1 (hb _ [.ref q] I1.kIn hl) (.cons rfl q3) ?_) fun r s' hq' => ?_))
  · refine ⟨G1, _, l1, RVs.append (RVs.cons rv RVs.nil) (q2 G1 H1), rp1, ?_, ?_⟩
    · show dvs.length + 1 = d.np
      rw [q1]
      show d.np - 1 + 1 = d.np
      have : 0 + 1 ≤ d.np := k3
      omega
    · cases hc : cl (C ++ "." ++ "__len__") ([wx] ++ d.dfl.drop (d.dfl.length - (d.np - 1))) l1 with
      | ok u l2 =>
        rw [hc] at h1
        cases u <;> first | exact h1.elim | skip
        rename_i i
        dsimp only at h1
        split at h1
        · rename_i hi
          exact fun G3 H3 v3 e3 rp3 rv3 => ⟨i, rv3.int_eq, hi.1, hi.2, h1 G3 H3 _ e3 rp3 rv_int⟩
        · exact h1.elim
      | ex => rw [hc] at h1; exact h1.elim
      | no => rw [hc] at h1; exact h1.elim
  · cases r with
    | error er => exact (pass_no (X := X.nox) pins σ H1 s1 er s' (I1.wish _) hq').elim
    | ok fl =>
      cases fl with
      | ret u =>
        obtain ⟨v, H3, I3, rv3, i, hv, i0, i1, z⟩ := I1.after hq'
        subst hv
        obtain ⟨k, rfl⟩ := rv3
        exact ⟨i, k, rfl, i0, i1, .int i, H3, I3.tok _, ⟨_, rfl⟩, z⟩
      | next => exact False.elim hq'
      | brk => exact False.elim hq'
      | cont => exact False.elim hq'
theorem pc_ohas (F : Fns t ar cl n) {neg : Bool} {a i : E} {x y : Expr} (hi : PE X x (tE t cl Wx i)) (ha : PE X y (tE t cl Wx a)) : PC X (inOp neg) x y (tE t cl Wx (.ohas neg i a)) := by
  refine ⟨fun pins s σ H Q I ⟨G, ls, lh, re, rp, h⟩ => ?_⟩
  simp only [evE] at h
  refine thn (hi.run pins s σ H (fun y H1 => tE t cl Wx a σ H1 fun x H2 => ∃ G2 l2 wy wx, Rep t.g G2 l2 H2 ∧ RV t.g G2 H2 wy y ∧ RV t.g G2 H2 wx x ∧ PostG t.g (RV t.g) G2 H2 (match clsOf l2 wx with
    | some (c, _) => if t.T.mth c "__contains__" 1 = true then (cl (c ++ "." ++ "__contains__") [wx, wy] l2).bind fun b h3 => (match b with
      | .bl b => .ok (.bl (b != neg)) h3
      | _ => .no) else .no
    | none => .no) Q fun cls d H' => Wx cls d σ H') I ⟨G, ls, lh, re, rp, h.bind fun w l1 G1 H1 v _ e1 rp1 rv h1 => ⟨G1, ls, l1, re.mono e1.toMono, rp1, h1.bind fun w2 l2 G2 H2 v2 _ e2 rp2 rv2 h2 => ⟨G2, l2, w, w2, rp2, rv.mono e2.toMono, rv2, h2⟩⟩⟩) fun u s1 ⟨y1, H1, I1, ry, q1⟩ => ?_
  refine thn (ha.run pins s1 σ H1 _ I1 q1) fun u2 s2 ⟨x2, H2, I2, rx, G2, l2, wy, wx, rp2, rv1, rv2, h2⟩ => ?_
  split at h2
  case h_2 => exact h2.elim
  rename_i C ns hcl
  split at h2
  case isFalse => exact h2.elim
  rename_i hq
  obtain ⟨p, dx, xs, rfl, hp⟩ := clsOf_spec rp2 rv2 hcl
  obtain rfl : u2 = Value.ref p := rx
  obtain ⟨k1, k2, d, hd, k3, k4⟩ := o.mth C "__contains__" _ hq
  obtain ⟨ds, dvs, q1, q2, q3, q4⟩ := o.bi _ d _ hd k3 k4
  have Fo := F.ok _ d hd
  rw [← c.hP, ← c.hw, ← c.hK, ← c.hmg, ← c.hb] at Fo
  rw [F.fill _ d _ _ hd (by exact k3) (by exact k4)] at h2
  have go := run_fnSD (E := WE Wx) (us := [.ref p, u]) (vs := [.ref p, y1]) (Q := fun v H' => ∃ b : Bool, v = .bl b ∧ Q (.bl (b != neg)) H') Fo (c.room.mono (by omega)) (by rw [c.hK]; exact q4) q3 (passAt c.tk σ) I2 (.cons rfl (.cons ry .nil)) (h := by
    refine ⟨G2, _, l2, RVs.append (RVs.cons rv2 (RVs.cons rv1 RVs.nil)) (q2 G2 H2), rp2, ?_, PostG.bind h2 fun w l3 G3 H3 v _ e3 rp3 rv3 h3 => ?_⟩
    · rw [List.length_append, q1]
      show 2 + (d.np - 2) = d.np
      have : 1 + 1 ≤ d.np := k3
      omega
    · split at h3
      · exact ⟨_, rv3.bl_eq, h3.here rp3 rv_bl⟩
      · exact h3.elim)
  refine in_own I2 hp (by rw [c.hK]; exact k2) rfl (wpAny_mono go (fun r s3 ⟨v, H3, I3, rv3, b, hv, q⟩ => ?_) fun _ _ z => z)
  subst hv
  cases rv3
  exact ⟨b, rfl, .bl (b != neg), H3, I3, rfl, q⟩
omit c o in
theorem ohas_bl {neg : Bool} {a i : E} {ls : Env} {lh l1 : LH} {w : W} (e : evE t.T cl (.ohas neg i a) ls lh = .ok w l1) : ∃ b, w = .bl b := by
  simp only [evE] at e
  obtain ⟨_, _, _, e⟩ := bind_ok e
  obtain ⟨_, _, _, e⟩ := bind_ok e
  split at e
  · split at e
    · obtain ⟨_, _, _, e⟩ := bind_ok e
      split at e
      · injection e with e1 _; exact ⟨_, e1.symm⟩
      · cases e
    · cases e
  · cases e
omit c o in
theorem dhas_bl {neg : Bool} {a i : E} {ls : Env} {lh l1 : LH} {w : W} (e : evE t.T cl (.dhas neg i a) ls lh = .ok w l1) : ∃ b, w = .bl b := by
  simp only [evE] at e
  obtain ⟨_, _, _, e⟩ := bind_ok e
  obtain ⟨_, _, _, e⟩ := bind_ok e
  exact evDhas_bl e
/-! ### properties -/
theorem snd_prop (F : Fns t ar cl n) {a : E} {x : Expr} {y : Str} {f : String} {pos : Pos} (h1 : seq y f = true) (hb : ncall0 x = true) (ha : PE X x (tE t cl Wx a)) : PE X (.Attribute x y pos) (tE t cl Wx (.prop a f)) := by
  have e := seq_eq h1
  subst e
  refine pe_dep fun σ H Q ⟨G, ls, lh, re, rp, h⟩ => ?_
  simp only [evE] at h
  cases ev : evE t.T cl a ls lh with
  | no => rw [ev] at h; exact h.elim
  | ex cc ns fs l1 =>
    refine ⟨fun σ H Q => tE t cl Wx a σ H fun _ _ => False, ?_, G, ls, lh, re, rp, ?_⟩
    · exact ⟨fun pins s σ H Q I q => attr_of (attr_base hb) (thn (ha.run pins s σ H _ I q) fun u s1 ⟨x, H1, I1, rx, q⟩ => q.elim)⟩
    · rw [ev] at h ⊢
      exact h
  | ok w l1 =>
  have h0 := h
  rw [ev] at h0
  dsimp only [R.bind] at h0
  cases ec : clsOf l1 w with
  | none => rw [ec] at h0; exact h0.elim
  | some p =>
  obtain ⟨C, ns⟩ := p
  rw [ec] at h0
  dsimp only at h0
  by_cases hq : t.T.prp C f = true
  · obtain ⟨k1, ⟨pp, k2⟩, d, hd, k3⟩ := o.prp C f hq
    obtain ⟨ds, dvs, q1, q2, q3, q4⟩ := o.bi _ d 1 hd (by omega) (by omega)
    have Fo := F.ok _ d hd
    rw [← c.hP, ← c.hw, ← c.hK, ← c.hmg, ← c.hb] at Fo
    refine ⟨_, pe_prop (E := fun _ _ _ => False) ha (by rw [c.hK]; exact k1) (by rw [c.hK]; exact k2) Fo (c.room.mono (by omega)) (by rw [c.hK]; exact q4) q3 pass_no (attr_base hb), G, ls, lh, re, rp, h.bind fun w' l1' G1 H1 v eq e1 rp1 rv h1 => ?_⟩
    rw [ev] at eq
    cases eq
    obtain ⟨p, dx, xs, rfl, hp⟩ := clsOf_spec rp1 rv ec
    rw [ec] at h1
    dsimp only at h1
    rw [if_pos hq] at h1
    refine ⟨p, dx, _, rfl, hp, ?_⟩
    have e0 : dvs = [] := by
      rw [k3] at q1
      exact List.length_eq_zero_iff.mp q1
    subst e0
    refine ⟨G1, [w], l1, RVs.cons rv RVs.nil, rp1, k3.symm, ?_⟩
    cases hc : cl (C ++ "." ++ f) [w] l1 with
    | ok u l2 => rw [hc] at h1; exact h1
    | ex => rw [hc] at h1; exact h1.elim
    | no => rw [hc] at h1; exact h1.elim
  · rw [if_neg hq] at h0; exact h0.elim
/-! ### C() -/
theorem snd_make0 (F : Fns t ar cl n) {C : String} {y : Str} {p pos : Pos} (hk : mkOk ar C 0 = true) (h1 : seq y C = true) (h2 : Mp.gl sc y = true) (h3 : okName y = true) :
    PE X (.Call (.Name y p) [] [] pos) (tE t cl Wx (.make C .nil)) := by
  have e := seq_eq h1
  subst e
  obtain ⟨hq, m1, m2⟩ := F.new C _ hk
  obtain ⟨_, _, d, hd, k3, k4⟩ := o.mth C "__init__" _ hq
  obtain ⟨ds, dvs, q1, q2, q3, q4⟩ := o.bi _ d _ hd k3 k4
  have Fo := F.ok _ d hd
  rw [← c.hP, ← c.hw, ← c.hK, ← c.hmg, ← c.hb] at Fo
  have hM : Mk X.K (t.g.ca C) (t.fa (C ++ "." ++ "__init__")) := by rw [c.hK]; exact m2
  have hB : Binds X.K (t.fd (C ++ "." ++ "__init__")) (t.ps (C ++ "." ++ "__init__")) ds := by rw [c.hK]; exact q4
  refine ⟨fun pins s σ H Q I ⟨G, ls, lh, re, rp, h⟩ => ?_⟩
  simp only [evE] at h
  refine wpAny_Call_Name_kw (ld_glob I (c.gl h2) (by rw [c.hmg]; exact m1) ?_ (okName_d h3))
  refine PySem.W.callWith_K0 I.kIn hM.kp (run_mkD (E := WE Wx) (us := []) (vs := []) hM Fo (c.room.mono (by omega)) hB q3 (passAt c.tk σ) I .nil fun x dx hx hdx hne => ?_)
  have h1 : PostG t.g (RV t.g) G H (if t.T.mth C "__init__" (nE .nil) = true then _ else R.no) Q _ := h
  rw [if_pos (show t.T.mth C "__init__" (nE .nil) = true from hq)] at h1
  exact make_sp c o F hd k3 k4 q1 q2 (w := .tup []) (vs := []) rfl rp RVs.nil h1 x dx hx hdx hne
end
end Mp
namespace Mp
open PySem PySem.Spec PyProof.Rows L2 PySem.W
/-! ### set(a list of ints) -/
abbrev sOb (w : World) : Obj := { cls := .type "set", dict := none, data := .set #[] 0 (.fresh 0 0 (!w.params.followText "set-order")) }
section
variable {P : Program} {w : World} {A : Around} {E : Value → Shared → Prop} {z : Shared}
/-- what set.__init__ leaves -/
def Made (w : World) (z : Shared) (ns : List Int) (r : Value) (y : Shared) : Prop := r = .none ∧ ∃ h' tk c, y = { z with heap := h', toks := tk } ∧ SetR w h' z.heap.objs.size (fun j => decide (j ∈ ns)) c ∧ c ≤ ns.length ∧ (∀ b o, z.heap.get? b = some o → h'.get? b = some o)
theorem of_list {l : Addr} {its : Array Value} (ns : List Int) {Q : Value → Shared → Prop} (hh : A.handled = none) (hl : z.heap.IsList l its) (hit : IntsAre its.toList ns) (hb : ns.length + 1 < scanBound)
    (h : ∀ (h' : Heap) (tk c : Nat), SetR w h' z.heap.objs.size (fun j => decide (j ∈ ns)) c → c ≤ ns.length → (∀ b o, z.heap.get? b = some o → h'.get? b = some o) → Q (.ref z.heap.objs.size) { z with heap := h', toks := tk }) :
    wpAny (model P w) A (PySem.call (.type "set") [.ref l]) Q E z := by
  have hisz : its.size = ns.length := by have q := IntsAre.length hit; rwa [Array.length_toList] at q
  obtain ⟨c, tl, hmro⟩ := F.called_set.mro
  have hmade := F.called_set.made; have hsub := F.called_set.sub
  refine wpAny_call (codeAny_of_tree ?_)
  show wpAny _ _ (callAny (.type "set") _) _ _ _
  refine wpAny_pure ⟨Code.quiet_builtin _ (by decide +kernel), codeAny_builtin F.entry_type_call ?_⟩
  rw [Around.under_plain (weight_type_call_type "set" [.ref l] []) rfl]
  have h1 := F.called_set.notType; have h2 := F.called_set.canCreate
  have hct := F.typeCall_set_1 (.ref l)
  repeat (any_goals (first | assumption | wp_step))
  refine codeAny_mono (code_set_led1 (.ref l) (E := E) (Q₁ := fun obj y => obj = .ref z.heap.objs.size ∧ y = { z with heap := z.heap.push (sOb w) }) ⟨rfl, rfl⟩) fun r y hr => ?_
  cases r with
  | error e => exact hr
  | ok fl =>
    cases fl with
    | ret obj =>
      obtain ⟨rfl, rfl⟩ := hr
      have hS : (z.heap.push (sOb w)).get? z.heap.objs.size = some (sOb w) := Heap.get?_push_size _ rfl
      have hT : Shared.TypeIs { z with heap := z.heap.push (sOb w) } (.ref z.heap.objs.size) "set" := ⟨_, hS, rfl⟩
      have hli := F.called_set.init.lookup; have hbi := F.called_set.init.bind (.ref z.heap.objs.size)
      repeat (any_goals (first | assumption | wp_step))
      refine codeAny_mono (codeAny_call_builtin (R := wants (Made w z ns) E) F.called_set.init.plain F.entry_set_init (check_set_init_1 hT ?_)) fun r₂ y₂ hr₂ => ?_
      · obtain ⟨ol, hol, hcl, nl, hdl⟩ := hl
        obtain ⟨ocls, odict, odata, oslots⟩ := ol
        simp only at hcl hdl; subst hcl; subst hdl
        have hol' : (z.heap.push (sOb w)).get? l = some { cls := .type "list", dict := odict, data := .seq its nl, slots := oslots } := Heap.get?_push_of_some _ hol
        have g1 := F.sub_list_set; have g2 := F.sub_list_frozenset
        have g3 : (Value.type "list" == Value.type "dict") = false := by decide
        have hl1 : (z.heap.push (sOb w)).IsList l its := ⟨_, hol', rfl, nl, rfl⟩
        unfold Builtin.«set.__init__» noKeywords Builtin.Frozenset.updateFrom
        generalize hPI : pyIter = PI
        wp_walk
        subst hPI
        refine wpAny_pyIter_list hl1 ?_
        refine wpAny_bind (wpAny_runValue ?_)
        have hlS : l < z.heap.objs.size := Heap.lt_size hol
        have hh3 : A.in1.in1.in1.handled = none := by simp [hh]
        have eI : (z.heap.push (sOb w)).objs.size = z.heap.objs.size + 1 := Heap.size_push ..
        have hneI : l ≠ (z.heap.push (sOb w)).objs.size := by rw [eI]; exact Nat.ne_of_lt (Nat.lt_succ_of_lt hlS)
        have hSf : z.heap.objs.size ∉ [(z.heap.push (sOb w)).objs.size, l] := by
          rw [eI]; simp only [List.mem_cons, List.mem_singleton, List.not_mem_nil, or_false, not_or]; exact ⟨Nat.ne_of_lt (Nat.lt_succ_self _), Nat.ne_of_gt hlS⟩
        have hval : ∀ (i : Nat) (v : Value), its[i]? = some v → ∃ k t, ns[i]? = some k ∧ v = .int k t := fun i v hv => by
          have hi : i < ns.length := by rw [← hisz]; exact (Array.getElem?_eq_some_iff.mp hv).1
          obtain ⟨t, e⟩ := PyProof.Rows.IntsAre.int_at hit i v (by rw [Array.getElem?_toList]; exact hv)
          refine ⟨ns[i], t, List.getElem?_eq_getElem hi, ?_⟩
          rw [e, List.getD_eq_getElem?_getD, List.getElem?_eq_getElem hi] <;> rfl
        refine set_update_ints ((Walks.list hh3 _ l hneI its).toS) z.heap.objs.size hSf ns hisz hb hval (its.size - 0) 0 _ (by omega) (Nat.zero_le _) ⟨⟨_, Heap.get?_push_size _ rfl, rfl, rfl⟩, (hl1.push _)⟩ ?hS0 ?hR
        case hS0 =>
          have hget : ((z.heap.push (sOb w)).push { cls := .type "list_iterator", data := .fields #[.ref l, .int 0 0] }).get? z.heap.objs.size = some (sOb w) := Heap.get?_push_of_some _ hS
          exact ⟨0, Nat.le_refl 0, setR_new_at hget⟩
        case hR =>
          intro y' c' hm hc' hS'
          obtain ⟨h', a2, a3, tk', a4⟩ := y'
          have eg : a2 = z.gens := hm.gens
          have ed : a3 = z.drawn := hm.drawn
          have eo : a4 = z.os := hm.os
          subst eg; subst ed; subst eo
          show wpAny _ _ _ _ _ _
          refine wpAny_pure ?_
          show wpAny _ _ (ret Value.none) _ _ _
          rw [hisz] at hc'
          refine wpAny_pure ⟨rfl, h', tk', c', rfl, hS', hc', fun b o e => ?_⟩
          have b0 : b < z.heap.objs.size := Heap.lt_size e
          have b1 : b ≠ z.heap.objs.size := Nat.ne_of_lt b0
          have b2 : b ≠ (z.heap.push (sOb w)).objs.size := by rw [eI]; exact Nat.ne_of_lt (Nat.lt_succ_of_lt b0)
          exact hm.heap b o (by simp only [List.mem_cons, List.mem_singleton, List.not_mem_nil, or_false, not_or]; exact ⟨b1, b2⟩) (Heap.get?_push_of_some _ (Heap.get?_push_of_some _ e))
      · cases r₂ with
        | error e => exact hr₂
        | ok fl₂ =>
          cases fl₂ with
          | ret r =>
            obtain ⟨rfl, h', tk, c', rfl, hS', hc', hk'⟩ := hr₂
            repeat (any_goals (first | assumption | wp_step))
            exact h _ _ _ hS' hc' hk'
          | _ => exact hr₂.elim
    | _ => exact hr.elim
/-- sorted(a set of ints) -/
theorem sort_set {S : Int → Bool} {n : Nat} {a : Addr} {Q : Value → Shared → Prop} (R : SetR w z.heap a S n) (hh : A.handled = none)
    (hQ : ∀ y p (out : Array Value) (c : Nat) (ns : List Int), (∀ b o, z.heap.get? b = some o → y.heap.get? b = some o) → y.gens = z.gens → y.os = z.os → z.heap.objs.size ≤ p →
      y.heap.get? p = some (seqObj "list" out c) → IntsAre out.toList ns → ns.Pairwise (· < ·) → (∀ k, k ∈ ns ↔ S k = true) → ns.length = n → Q (.ref p) y) :
    wpAny (model P w) A (PySem.call (.builtin "sorted") [.ref a]) Q E z := by
  obtain ⟨o, es, ep, t, ho, hex, hd, g, nd, hm, hb, hf, hn, hr, hl⟩ := R
  refine Calls.call_function_entry kind_sorted plain_sorted entry_sorted (args_sorted1 _) ?_
  unfold Builtin.«sorted»; refine wpAny_bind (m := checkCount "sorted" 1 1 _) (wpAny_pure ?_)
  refine wpAny_bind (collect_set (A := A.in1) hh ⟨o, ho, hex.1, hd⟩ hf hb hr hl fun y1 vs k1 hz g1 o1 pm => ?_)
  have hvl : vs.length = n := by rw [pm.length_eq, List.length_map, Array.length_toList]; exact hn
  have hI : IntsAre vs (vs.map Builtin.Re.reRawOf) := ints_of vs fun v hv => by
    obtain ⟨e, he, q⟩ := List.mem_map.mp (pm.mem_iff.mp hv)
    obtain ⟨k, tk, e1, _⟩ := g e he
    exact ⟨k, tk, by rw [← q]; exact e1⟩
  have pk : (vs.map Builtin.Re.reRawOf).Perm (es.toList.map keyOf) := by have q := pm.map Builtin.Re.reRawOf; rw [List.map_map] at q; exact q
  have hvz : vs.length ≤ sizeLine := by rw [hvl, ← hn]; exact fits_of_scanBound hb
  refine wpAny_bind (wpAny_newList ?_ hvz)
  have oL : (y1.heap.push (seqObj "list" vs.toArray 0)).get? y1.heap.objs.size = some (seqObj "list" vs.toArray 0) := Heap.get?_push_size _ rfl
  refine wpAny_bind (wpAny_holding (wpAny_call_entry slot_list_sort ⟨_, oL, rfl⟩ entry_list_sort (SrtO.list_sort_ord SrtO.swo_int oL hvz (fun h2 => SrtO.ints_sortable hI h2) fun out a1 a2 => ⟨_, rfl, ?_⟩) (args_list_sort _)))
  obtain ⟨k1', k2, k3⟩ := SrtO.ints_out hI a1 a2
  obtain ⟨c, hc⟩ := PyProof.Rows.sortedHeap_at (vs := vs) (out := out.toArray) oL
  have pn : (out.map SrtO.iv).Perm (es.toList.map keyOf) := k2.trans pk
  refine wpAny_pure ⟨_, rfl, hQ _ y1.heap.objs.size out.toArray c (out.map SrtO.iv) (fun b u e => ?_) g1 o1 hz hc k1' (lt_of_le_nodup _ k3 (pn.nodup_iff.mpr nd)) (fun k => by rw [pn.mem_iff, ← hm k]) (by rw [pn.length_eq, List.length_map, Array.length_toList]; exact hn)⟩
  have q := k1 b u e
  have hlt := Heap.lt_size q
  show (sortedHeap (y1.heap.push (seqObj "list" vs.toArray 0)) y1.heap.objs.size vs out.toArray).get? b = some u
  rw [sortedHeap_old (Nat.ne_of_lt hlt) (by rw [size_push']; exact Nat.lt_succ_of_lt hlt)]
  exact Heap.get?_push_of_some _ q
end
/-! ### each once, in order -/
theorem ltI_uniq : ∀ {l m : List Int}, l.Pairwise (· < ·) → m.Pairwise (· < ·) → (∀ k, k ∈ l ↔ k ∈ m) → l = m
  | [], [], _, _, _ => rfl
  | [], y :: m, _, _, h => by have := (h y).mpr List.mem_cons_self; cases this
  | x :: l, [], _, _, h => by have := (h x).mp List.mem_cons_self; cases this
  | x :: l, y :: m, a, b, h => by
    obtain ⟨a1, a2⟩ := List.pairwise_cons.mp a
    obtain ⟨b1, b2⟩ := List.pairwise_cons.mp b
    have e : x = y := by
      rcases List.mem_cons.mp ((h x).mp List.mem_cons_self) with e | e
      · exact e
      · rcases List.mem_cons.mp ((h y).mpr List.mem_cons_self) with f | f
        · exact f.symm
        · have := a1 y f; have := b1 x e; omega
    subst e
    rw [ltI_uniq a2 b2 fun k => ⟨fun hk => ?_, fun hk => ?_⟩]
    · rcases List.mem_cons.mp ((h k).mp (List.mem_cons_of_mem _ hk)) with e | e
      · have := a1 k hk; omega
      · exact e
    · rcases List.mem_cons.mp ((h k).mpr (List.mem_cons_of_mem _ hk)) with e | e
      · have := b1 k hk; omega
      · exact e
theorem uniqI_mem : ∀ (l : List Int) (k : Int), k ∈ uniqI l ↔ k ∈ l
  | [], k => by simp [uniqI]
  | [x], k => by simp [uniqI]
  | x :: y :: r, k => by
    unfold uniqI
    split
    · rename_i e
      subst e
      rw [uniqI_mem (x :: r) k]; simp
    · simp only [List.mem_cons, uniqI_mem (y :: r) k]
theorem uniqI_lt : ∀ (l : List Int), l.Pairwise (· ≤ ·) → (uniqI l).Pairwise (· < ·)
  | [], _ => by simp [uniqI]
  | [x], _ => by simp [uniqI]
  | x :: y :: r, h => by
    obtain ⟨h1, h2⟩ := List.pairwise_cons.mp h
    unfold uniqI
    split
    · exact uniqI_lt (y :: r) h2
    · rename_i e
      refine .cons (fun z hz => ?_) (uniqI_lt (y :: r) h2)
      have hz' := (uniqI_mem (y :: r) z).mp hz
      have a := h1 y List.mem_cons_self
      have b : y ≤ z := by
        rcases List.mem_cons.mp hz' with rfl | q
        · omega
        · exact (List.pairwise_cons.mp h2).1 z q
      omega
theorem uniq_eq {ns ms : List Int} (h : ms.Pairwise (· < ·)) (m : ∀ k, k ∈ ms ↔ k ∈ ns) : ms = uniqI (sortI ns) :=
  ltI_uniq h (uniqI_lt _ (sortI_sorted ns)) fun k => by rw [m k, uniqI_mem, (sortI_perm ns).mem_iff]
section
variable {X : Cx} {ta : TE} {e : Expr}
/-- sorted(set(e)) -/
def tSSet (K : Frag) (ta : TE) : TE := fun σ H Q => ta σ H fun x H1 => ∃ l, ∃ ns : List Int, x = V.ref l ∧ SqL K H1 l (ns.map V.int) ∧ ns.length ≤ 4000 ∧ ∀ p, H1 p = none → Q (.ref p) (upd H1 p (.lst ((uniqI (sortI ns)).map V.int)))
def tLSet (K : Frag) (ta : TE) : TE := fun σ H Q => ta σ H fun x H1 => ∃ l, ∃ ns : List Int, x = V.ref l ∧ SqL K H1 l (ns.map V.int) ∧ ns.length ≤ 4000 ∧ Q (.int (uniqI (sortI ns)).length) H1
theorem sc4 {n : Nat} (h : n ≤ 4000) : n + 1 < scanBound := by unfold scanBound; omega
theorem pe_sset {p p2 q pos : Pos} (hc : X.calm = true) (g1 : Gl X "sorted") (m1 : X.mg "sorted" = none) (g2 : Gl X "set") (m2 : X.mg "set" = none) (ha : PE X e ta) (na : starEach [e] X.env = (false, eval e X.env) :: starEach [] X.env) :
    PE X (.Call (.Name "sorted" p) [.Call (.Name "set" p2) [e] [] q] [] pos) (tSSet X.K ta) := by
  refine ⟨fun pins s σ H Q I h => ?_⟩
  refine wpAny_Call_Name_kw (ld_blt (u := .builtin "sorted") I g1 m1 (by decide +kernel) ?_)
  refine PyProof.Rows.callWith_builtin1 (PyProof.Rows.args_cons ?_ rfl) rfl rfl
  refine wpAny_Call_Name_kw (ld_blt (u := .type "set") I g2 m2 (by decide +kernel) ?_)
  refine PyProof.Rows.callWith_type1 (PyProof.Rows.args_cons (thn (ha.run pins s σ H _ I h) fun v y ⟨x, H1, I1, r1, q1⟩ => PyProof.Rows.args_nil ?_) na) na rfl
  obtain ⟨l, ns, rfl, hq, h1, q1⟩ := q1
  cases r1
  obtain ⟨its, r, pl, hz⟩ := I1.list hq
  refine of_list ns (I1.ok.hd hc) pl.isList r.ints (sc4 h1) fun h' tk c hS hcl hk => ?_
  refine PyProof.Rows.args_nil ?_
  have I2 : Inv X pins σ H1 { y with heap := h', toks := tk } := I1.kept fun b o e => hk b o e
  refine sort_set hS (I2.ok.hd hc) fun y' p out c' ms k g o hp hg hi hs hm hl => ?_
  have e1 : ms = uniqI (sortI ns) := uniq_eq hs fun k => by rw [hm k]; exact decide_eq_true_iff
  subst e1
  have hlen : ((uniqI (sortI ns)).map V.int).length ≤ sizeLine := by
    rw [List.length_map, hl]
    have a := fits_of_scanBound (sc4 h1)
    omega
  have hn : H1 p = none := I2.hok.fresh hp
  have J : Inv X pins σ (upd H1 p (.lst ((uniqI (sortI ns)).map V.int))) { ({ y with heap := h', toks := tk } : Shared) with heap := y'.heap, gens := y'.gens, drawn := y'.drawn, toks := y'.toks } :=
    I2.call (ch := []) (Un.laid k hp hn) (I2.hok.laid k hp ⟨hlen, out.toList, c', vals_of_ints hi, hg⟩) (by rw [g]; exact I2.bare) (fun _ z => nomatch z)
  have e : y' = { ({ y with heap := h', toks := tk } : Shared) with heap := y'.heap, gens := y'.gens, drawn := y'.drawn, toks := y'.toks } := by
    cases y'; cases y; cases o; rfl
  rw [e]
  exact ⟨.ref p, _, J, rfl, q1 p hn⟩
theorem pe_lset {p p2 q pos : Pos} (hc : X.calm = true) (g1 : Gl X "len") (m1 : X.mg "len" = none) (g2 : Gl X "set") (m2 : X.mg "set" = none) (ha : PE X e ta) (na : starEach [e] X.env = (false, eval e X.env) :: starEach [] X.env) :
    PE X (.Call (.Name "len" p) [.Call (.Name "set" p2) [e] [] q] [] pos) (tLSet X.K ta) := by
  refine ⟨fun pins s σ H Q I h => ?_⟩
  refine wpAny_Call_Name_kw (ld_blt (u := .builtin "len") I g1 m1 (by decide +kernel) ?_)
  refine PyProof.Rows.callWith_builtin1 (PyProof.Rows.args_cons ?_ rfl) rfl rfl
  refine wpAny_Call_Name_kw (ld_blt (u := .type "set") I g2 m2 (by decide +kernel) ?_)
  refine PyProof.Rows.callWith_type1 (PyProof.Rows.args_cons (thn (ha.run pins s σ H _ I h) fun v y ⟨x, H1, I1, r1, q1⟩ => PyProof.Rows.args_nil ?_) na) na rfl
  obtain ⟨l, ns, rfl, hq, h1, q1⟩ := q1
  cases r1
  obtain ⟨its, r, pl, hz⟩ := I1.list hq
  refine of_list ns (I1.ok.hd hc) pl.isList r.ints (sc4 h1) fun h' tk c hS hcl hk => ?_
  refine PyProof.Rows.args_nil ?_
  have I2 : Inv X pins σ H1 { y with heap := h', toks := tk } := I1.kept fun b o e => hk b o e
  obtain ⟨o, es, ep, t, ho, hex, hd, g, nd, hm, hb, hf, hn, hr, hl⟩ := hS
  have e1 : (uniqI (sortI ns)).length = c := by
    have p1 : (es.toList.map keyOf).Perm (uniqI (sortI ns)) := by
      refine (List.perm_ext_iff_of_nodup nd ((uniqI_lt _ (sortI_sorted ns)).imp fun {a b} h => Int.ne_of_lt h)).mpr fun k => ?_
      rw [← hm k, uniqI_mem, (sortI_perm ns).mem_iff]; exact decide_eq_true_iff
    rw [← p1.length_eq, List.length_map, Array.length_toList, hn]
  rw [e1] at q1
  have hc0 := sc4 h1
  refine call_len_set ho hex hd hf (by rw [hn]; unfold scanBound at hc0; omega) ⟨.int c, H1, I2.tok _, ⟨_, by rw [hn]⟩, q1⟩
end
section
variable {t : Tp} {cl : Cl} {n : Nat} {ar : Ar} {N : List Str} {X : Cx} {Wx : WX} {fn : Str → Bool} {sc : Scope} (c : Cok t X Wx n N fn sc) (o : t.Ok)
include c o
theorem snd_sset {a : E} {x : Expr} {y z : Str} {p p2 q pos : Pos} (h1 : seq y "sorted" = true) (h2 : Mp.gl sc y = true) (h3 : seq z "set" = true) (h4 : Mp.gl sc z = true) (h5 : nst x = true) (ha : PE X x (tE t cl Wx a)) :
    PE X (.Call (.Name y p) [.Call (.Name z p2) [x] [] q] [] pos) (tE t cl Wx (.sset a)) := by
  have e1 := seq_eq h1
  have e2 := seq_eq h3
  subst e1
  subst e2
  refine pe_imp (pe_sset c.calm (c.gl h2) (c.free o (by decide)) (c.gl h4) (c.free o (by decide)) ha (star_cons h5)) fun σ H Q ⟨G, ls, lh, re, rp, h⟩ => ?_
  simp only [evE] at h
  refine ⟨G, ls, lh, re, rp, h.bind fun w l1 G1 H1 v _ e1 rp1 rv h1 => ?_⟩
  unfold evSset at h1
  split at h1
  · rename_i ns hy
    split at h1
    · rename_i hb
      obtain ⟨ys, hy, hn⟩ := Option.bind_eq_some_iff.mp hy
      have e := toInts_spec hn
      subst e
      obtain ⟨p, xs, rfl, hq, rs⟩ := lstOf_spec rp1 rv hy
      have e2 := rs.ints
      subst e2
      exact ⟨p, ns, rfl, by rw [c.hK]; exact hq, hb, fun q hq => post_fl rp1 (RVs.of_ints _) h1 hq⟩
    · exact h1.elim
  · exact h1.elim
theorem snd_lset {a : E} {x : Expr} {y z : Str} {p p2 q pos : Pos} (h1 : seq y "len" = true) (h2 : Mp.gl sc y = true) (h3 : seq z "set" = true) (h4 : Mp.gl sc z = true) (h5 : nst x = true) (ha : PE X x (tE t cl Wx a)) :
    PE X (.Call (.Name y p) [.Call (.Name z p2) [x] [] q] [] pos) (tE t cl Wx (.lset a)) := by
  have e1 := seq_eq h1
  have e2 := seq_eq h3
  subst e1
  subst e2
  refine pe_imp (pe_lset c.calm (c.gl h2) (c.free o (by decide)) (c.gl h4) (c.free o (by decide)) ha (star_cons h5)) fun σ H Q ⟨G, ls, lh, re, rp, h⟩ => ?_
  simp only [evE] at h
  refine ⟨G, ls, lh, re, rp, h.bind fun w l1 G1 H1 v _ e1 rp1 rv h1 => ?_⟩
  unfold evLset at h1
  split at h1
  · rename_i ns hy
    split at h1
    · rename_i hb
      obtain ⟨ys, hy, hn⟩ := Option.bind_eq_some_iff.mp hy
      have e := toInts_spec hn
      subst e
      obtain ⟨p, xs, rfl, hq, rs⟩ := lstOf_spec rp1 rv hy
      have e2 := rs.ints
      subst e2
      exact ⟨p, ns, rfl, by rw [c.hK]; exact hq, hb, h1.here rp1 rv_int⟩
    · exact h1.elim
  · exact h1.elim
end
end Mp
namespace Mp
open PySem PySem.Spec PyProof.Rows L2
/-! ### tables of the top; texts, sign by sign -/
section
variable {t : Tp} {cl : Cl} {n : Nat} {ar : Ar} {N : List Str} {X : Cx} {Wx : WX} {fn : Str → Bool} {sc : Scope} (c : Cok t X Wx n N fn sc) (o : t.Ok)
include c o in
theorem snd_kix {a : E} {x : String} {y : Str} {z : Expr} {p pos : Pos} (hz : nslice z = true) (h1 : seq y x = true) (h2 : Mp.gl sc y = true) (h3 : okName y = true) (ha : PE X z (tE t cl Wx a)) : PE X (.Subscript (.Name y p) z pos) (tE t cl Wx (.kix x a)) := by
  refine pe_dep fun σ H Q ⟨G, ls, lh, re, rp, h⟩ => ?_
  simp only [evE] at h
  split at h
  · rename_i ps hk
    obtain ⟨d, es, m, k1, k2, k3, k4⟩ := o.kd x ps hk
    refine ⟨_, pe_ix ix_kdict (pe_glob (v := .ref d) (c.gl h2) (by rw [seq_eq h1, c.hmg]; exact k1) rfl (okName_d h3)) ha (plain_ix hz), G, ls, lh, re, rp, h.bind fun w l1 G1 H1 v _ e1 rp1 rv h1 => ?_⟩
    split at h1
    · rename_i s _
      split at h1
      · rename_i w hw
        obtain ⟨u, v2, e2, r2, r3⟩ := k3 s w hw
        rw [rv.str_eq]
        refine ⟨d, _, v2, rfl, rfl, ?_, h1.here rp1 (r3 _ _)⟩
        rw [c.hK, c.hw]
        exact ⟨es, m, u, k2.at_, k2.lit, e2, r2⟩
      · exact h1.elim
    · exact h1.elim
  · exact h.elim
include c o in
theorem op_kin {x : String} {ps : List (String × W)} {d : Addr} {es : Array DictEntry} {m : Nat} (k2 : KDict t.g.K t.w d es m) (k3 : ∀ s w, kdl s ps = some w → ∃ u v, PySem.W.nsIn t.g.K d (Str.ofString s) = some (some u) ∧ RelV v u ∧ ∀ G H, RV t.g G H w v) (k4 : ∀ s, kdl s ps = none → PySem.W.nsIn t.g.K d (Str.ofString s) = some none) (neg : Bool) :
    OpR X (compareOp (inOp neg)) (fun x y H Q => ∃ s, x = .str (Str.ofString s) ∧ y = .ref d ∧ Q (.bl ((kdl s ps).isSome != neg)) H) := by
  have k2' : KDict X.K X.w d es m := by rw [c.hK, c.hw]; exact k2
  have key : ∀ s, ∃ r, PySem.W.nsIn X.K d (Str.ofString s) = some r ∧ r.isSome = (kdl s ps).isSome := fun s => by
    rw [c.hK]
    cases e : kdl s ps with
    | none => exact ⟨none, k4 s e, rfl⟩
    | some w =>
      obtain ⟨u, v, e1, _, _⟩ := k3 s w e
      exact ⟨some u, e1, rfl⟩
  cases neg with
  | false =>
    intro pins s σ H x y v u Q I rx ry h
    obtain ⟨z, e1, e2, q⟩ := h
    obtain ⟨r, e3, e4⟩ := key z
    exact op_in_kd k2' pins s σ H x y v u Q I rx ry ⟨_, r, e1, e2, e3, by rw [e4]; simpa using q⟩
  | true =>
    intro pins s σ H x y v u Q I rx ry h
    obtain ⟨z, e1, e2, q⟩ := h
    obtain ⟨r, e3, e4⟩ := key z
    exact op_notIn_kd k2' pins s σ H x y v u Q I rx ry ⟨_, r, e1, e2, e3, by rw [e4]; simpa using q⟩
include c o in
theorem snd_kin {neg : Bool} {a : E} {x : String} {y : Str} {z : Expr} {p pos : Pos} (hm : behindInMarks (inOp neg) (.Name y p) = false) (h1 : seq y x = true) (h2 : Mp.gl sc y = true) (h3 : okName y = true) (ha : PE X z (tE t cl Wx a)) : PE X (.Compare z [inOp neg] [.Name y p] pos) (tE t cl Wx (.kin neg a x)) := by
  refine pe_dep fun σ H Q ⟨G, ls, lh, re, rp, h⟩ => ?_
  simp only [evE] at h
  split at h
  · rename_i ps hk
    obtain ⟨d, es, m, k1, k2, k3, k4⟩ := o.kd x ps hk
    refine ⟨_, pe_cmpR (op_kin c o (x := x) k2 k3 k4 neg) ha (pe_glob (v := .ref d) (c.gl h2) (by rw [seq_eq h1, c.hmg]; exact k1) rfl (okName_d h3)) hm, G, ls, lh, re, rp, h.bind fun w l1 G1 H1 v _ e1 rp1 rv h1 => ?_⟩
    split at h1
    · rename_i s _
      exact ⟨s, rv.str_eq, rfl, h1.here rp1 rv_bl⟩
    · exact h1.elim
  · exact h.elim
theorem kin_bl {neg : Bool} {a : E} {x : String} {ls : Env} {lh l1 : LH} {w : W} (e : evE t.T cl (.kin neg a x) ls lh = .ok w l1) : ∃ b, w = .bl b := by
  simp only [evE] at e
  split at e
  · obtain ⟨y, l2, e1, e2⟩ := bind_ok e
    split at e2
    · injection e2 with e3 _; exact ⟨_, e3.symm⟩
    · cases e2
  · cases e
include c o in
theorem snd_kinT {neg : Bool} {a : E} {x : String} {y : Str} {z : Expr} {p pos : Pos} (hm : behindInMarks (inOp neg) (.Name y p) = false) (h1 : seq y x = true) (h2 : Mp.gl sc y = true) (h3 : okName y = true) (ha : PE X z (tE t cl Wx a)) : PT X (.Compare z [inOp neg] [.Name y p] pos) (tT t cl Wx (.tE (.kin neg a x))) := by
  refine ⟨fun pins s σ H Q I ⟨G, ls, lh, re, rp, h0⟩ => ?_⟩
  cases hk : t.T.kd x with
  | none =>
    simp only [evE] at h0
    rw [hk] at h0
    exact h0.elim
  | some ps =>
    obtain ⟨d, es, m, k1, k2, k3, k4⟩ := o.kd x ps hk
    refine (pt_cmpR (op_kin c o (x := x) k2 k3 k4 neg) ha (pe_glob (v := .ref d) (c.gl h2) (by rw [seq_eq h1, c.hmg]; exact k1) rfl (okName_d h3)) hm).run pins s σ H Q I ?_
    rw [show evE t.T cl (.tE (.kin neg a x)) ls lh = (evE t.T cl a ls lh).bind fun y h1 => (match y with
        | .str s => .ok (.bl ((kdl s ps).isSome != neg)) h1
        | _ => .no) from by
      simp only [evE, hk, R.bind]
      cases evE t.T cl a ls lh with
      | ok y l => cases y <;> rfl
      | ex => rfl
      | no => rfl] at h0
    refine ⟨G, ls, lh, re, rp, h0.bind fun w l1 G1 H1 v _ e1 rp1 rv h1 => ?_⟩
    split at h1
    · rename_i s _
      exact ⟨s, rv.str_eq, rfl, _, rfl, h1.here rp1 rfl⟩
    · exact h1.elim
/-- a text's signs, walked -/
theorem chars_get {s : String} {i : Nat} {w : W} (h : (chars s)[i]? = some w) : ∃ ch : Char, s.toList[i]? = some ch ∧ w = .str (String.ofList [ch]) := by
  unfold chars at h
  rw [List.getElem?_map] at h
  obtain ⟨ch, h1, h2⟩ := Option.map_eq_some_iff.mp h
  exact ⟨ch, h1, h2.symm⟩
theorem str_size {s : String} : (Str.ofString s).cps.size = s.toList.length := by
  rw [PySem.Str.ofString_eq_toList]
  simp
theorem str_at {s : String} {i : Nat} {ch : Char} (h : s.toList[i]? = some ch) : (Str.ofString s).cps[i]? = some ch.toNat := by
  rw [PySem.Str.ofString_eq_toList]
  simp [h]
include c in
theorem snd_sitv {a : E} {x tg : Expr} (ha : PE X x (tE t cl Wx a)) : PI X tg x (tI t cl Wx (.sitv a)) := by
  refine pi_imp (pi_str ha) fun σ H R ⟨G, ls, lh, re, rp, h⟩ => ?_
  simp only [evI] at h
  refine ⟨G, ls, lh, re, rp, h.bind fun w l1 G1 H1 v e2 e1 rp1 rv h1 => ?_⟩
  split at h1
  · rename_i s
    refine ⟨Str.ofString s, rv.str_eq, h1.here rp1 fun G2 H2 lh2 m rp2 hg => ?_⟩
    have hl : (chars s).length = (Str.ofString s).cps.size := by rw [str_size]; unfold chars; rw [List.length_map]
    refine ⟨by rw [hl]; exact Nat.le_refl _, fun i w hw => ?_⟩
    obtain ⟨ch, h3, rfl⟩ := chars_get hw
    have h4 := str_at h3
    refine ⟨(Array.getElem?_eq_some_iff.mp h4).1, fun x H3 hy => ?_⟩
    obtain ⟨rfl, cc, h5, rfl⟩ := hy
    rw [h4] at h5
    cases h5
    refine ⟨G2, Ext.refl, rp2, ?_⟩
    unfold RV
    rw [str_one]
  · exact h1.elim
end
end Mp
namespace Mp
open PySem PySem.Spec PyProof.Rows L2
/-! ### pop, index, stores of a display to names -/
theorem star_no {vs : List Expr} (h : vs.all nst = true) : ∀ f : Expr → Bool, (∀ x, nst x = true → f x = false) → vs.any f = false := fun f hf => by
  rw [List.any_eq_false]
  intro x hx
  rw [hf x (List.all_eq_true.mp h x hx)]
  simp
theorem kloc {env : PySem.Env} {x : Str} (h : env.scope.names.lookup x = some .local) : (env.kindOf x == some NameKind.local) = true := by
  show (env.scope.names.lookup x == some NameKind.local) = true
  rw [h]; rfl
theorem par_sw2 {env : PySem.Env} {x y : Str} {px py pt pt2 : Pos} {a b : Expr} {kt k2 : Nat} (hf : env.scope.kind = .function) (h : parB env.scope [(x, px), (y, py)] [a, b] = true) :
    swappedStores [.Tuple [.Name x px, .Name y py] kt pt] (.Tuple [a, b] k2 pt2) env = pure (some [x, y]) ∧ env.scope.names.lookup x = some .local ∧ env.scope.names.lookup y = some .local := by
  have hb : env.blockKind = .function := by unfold Env.blockKind; rw [hf]; rfl
  unfold parB at h
  obtain ⟨h1, h2⟩ := ba h
  obtain ⟨h3, h4⟩ := ba h2
  obtain ⟨h5, h6⟩ := ba h4
  obtain ⟨h7, h8⟩ := ba h6
  simp only [List.all_cons, List.all_nil, Bool.and_true, Bool.and_eq_true, decide_eq_true_eq, List.head?_cons, Option.map_some, Option.getD_some] at h1
  have hn : ¬ x = y := by simpa using h3
  refine ⟨?_, h1.1.1, h1.2.1⟩
  have k1 := kloc h1.1.1
  have k2' := kloc h1.2.1
  have f1 : ([a, b].all (foldedForSure 8)) = false := by
    cases hq : [a, b].all (foldedForSure 8) with
    | false => rfl
    | true => rw [hq] at h7; cases h7
  have f2 : ([a, b].all (constantsAlone 8)) = false := by
    cases hq : [a, b].all (constantsAlone 8) with
    | false => rfl
    | true => rw [hq] at h8; cases h8
  have ed : ([x, y] : List Str).eraseDups = [x, y] := by
    have q : ¬ y = x := fun e => hn e.symm
    simp [List.eraseDups_cons, q]
  have fm : ∀ f : Expr → Option Str, f (.Name x px) = some x → f (.Name y py) = some y → List.filterMap f [Expr.Name x px, Expr.Name y py] = [x, y] := fun f e1 e2 => by
    simp only [List.filterMap_cons, List.filterMap_nil, e1, e2]
  unfold swappedStores
  simp only [hb, f1, f2]
  rw [fm _ (by simp only [k1, Expr.pos, List.head?_cons, Option.map_some, Option.getD_some, h1.1.2, Bool.and_self, if_true]) (by simp only [k2', Expr.pos, List.head?_cons, Option.map_some, Option.getD_some, h1.2.2, Bool.and_self, if_true]), ed, star_no h5 _ (fun x hx => by cases x <;> first | rfl | exact absurd hx (by simp [nst]))]
  rfl
theorem par_sw3 {env : PySem.Env} {x y z : Str} {px py pz pt pt2 : Pos} {a b c : Expr} {kt k2 : Nat} (hf : env.scope.kind = .function) (h : parB env.scope [(x, px), (y, py), (z, pz)] [a, b, c] = true) :
    swappedStores [.Tuple [.Name x px, .Name y py, .Name z pz] kt pt] (.Tuple [a, b, c] k2 pt2) env = pure (some [x, y, z]) ∧ env.scope.names.lookup x = some .local ∧ env.scope.names.lookup y = some .local ∧ env.scope.names.lookup z = some .local := by
  have hb : env.blockKind = .function := by unfold Env.blockKind; rw [hf]; rfl
  unfold parB at h
  obtain ⟨h1, h2⟩ := ba h
  obtain ⟨h3, h4⟩ := ba h2
  obtain ⟨h5, h6⟩ := ba h4
  obtain ⟨h7, h8⟩ := ba h6
  simp only [List.all_cons, List.all_nil, Bool.and_true, Bool.and_eq_true, decide_eq_true_eq, List.head?_cons, Option.map_some, Option.getD_some] at h1
  have hn : (¬ x = y ∧ ¬ x = z) ∧ ¬ y = z := by simpa using h3
  refine ⟨?_, h1.1.1, h1.2.1.1, h1.2.2.1⟩
  have k1 := kloc h1.1.1
  have k2' := kloc h1.2.1.1
  have k3' := kloc h1.2.2.1
  have f1 : ([a, b, c].all (foldedForSure 8)) = false := by
    cases hq : [a, b, c].all (foldedForSure 8) with
    | false => rfl
    | true => rw [hq] at h7; cases h7
  have f2 : ([a, b, c].all (constantsAlone 8)) = false := by
    cases hq : [a, b, c].all (constantsAlone 8) with
    | false => rfl
    | true => rw [hq] at h8; cases h8
  have ed : ([x, y, z] : List Str).eraseDups = [x, y, z] := by
    have q : ¬ y = x := fun e => hn.1.1 e.symm
    have q2 : ¬ z = x := fun e => hn.1.2 e.symm
    have q3 : ¬ z = y := fun e => hn.2 e.symm
    simp [List.eraseDups_cons, q, q2, q3]
  have fm : ∀ f : Expr → Option Str, f (.Name x px) = some x → f (.Name y py) = some y → f (.Name z pz) = some z → List.filterMap f [Expr.Name x px, Expr.Name y py, Expr.Name z pz] = [x, y, z] := fun f e1 e2 e3 => by
    simp only [List.filterMap_cons, List.filterMap_nil, e1, e2, e3]
  unfold swappedStores
  simp only [hb, f1, f2]
  rw [fm _ (by simp only [k1, Expr.pos, List.head?_cons, Option.map_some, Option.getD_some, h1.1.2, Bool.and_self, if_true]) (by simp only [k2', Expr.pos, List.head?_cons, Option.map_some, Option.getD_some, h1.2.1.2, Bool.and_self, if_true]) (by simp only [k3', Expr.pos, List.head?_cons, Option.map_some, Option.getD_some, h1.2.2.2, Bool.and_self, if_true]), ed, star_no h5 _ (fun x hx => by cases x <;> first | rfl | exact absurd hx (by simp [nst]))]
  rfl

theorem parB_nst {sc : Scope} {xs : List (Str × Pos)} {vs : List Expr} (h : parB sc xs vs = true) : vs.all nst = true := (ba (ba (ba h).2).2).1
theorem parB_nd {sc : Scope} {xs : List (Str × Pos)} {vs : List Expr} (h : parB sc xs vs = true) : (xs.map (·.1)).Nodup := of_decide_eq_true (ba (ba h).2).1
theorem slot_ne {N : List Str} (nd : N.Nodup) {i j : Nat} {x y : Str} (hi : N[i]? = some x) (hj : N[j]? = some y) (h : ¬ x = y) : i ≠ j := fun e => by
  subst e
  exact h (Option.some.inj (hi.symm.trans hj))
theorem idxI_spec : ∀ {ns : List Int} {k : Int} {j : Nat}, idxI k ns = some j → ns[j]? = some k ∧ ∀ m u, m < j → ns[m]? = some u → ¬ u = k
  | [], k, j, h => by cases h
  | x :: xs, k, j, h => by
    unfold idxI at h
    split at h
    · rename_i e
      cases h
      subst e
      exact ⟨rfl, fun m u hm => by omega⟩
    · rename_i e
      cases hq : idxI k xs with
      | none => rw [hq] at h; cases h
      | some i =>
        rw [hq] at h
        cases h
        obtain ⟨h1, h2⟩ := idxI_spec hq
        refine ⟨by simpa using h1, fun m u hm hu => ?_⟩
        cases m with
        | zero => simp at hu; subst hu; exact e
        | succ m =>
          have hm : m + 1 < i + 1 := hm
          exact h2 m u (by omega) (by simpa using hu)
section
variable {t : Tp} {cl : Cl} {X : Cx} {Wx : WX} {n : Nat} {ar : Ar} {N : List Str} {fn : Str → Bool} {sc : Scope} (c : Cok t X Wx n N fn sc) (o : t.Ok)
include c
theorem snd_par {i j : Nat} {a b : E} {x y : Str} {px py pt pt2 pos : Pos} {u v : Expr} {kt k2 : Nat} (h1 : slotOk N i x = true) (h2 : slotOk N j y = true) (h3 : i ≠ j) (hp : parB sc [(x, px), (y, py)] [u, v] = true)
    (ha : PE X u (tE t cl Wx a)) (hb : PE X v (tE t cl Wx b)) : PS X (.Assign [.Tuple [.Name x px, .Name y py] kt pt] (.Tuple [u, v] k2 pt2) pos) (tS t cl Wx (.par i j a b)) := by
  have hq : parB X.env.scope [(x, px), (y, py)] [u, v] = true := by rw [c.hsc]; exact hp
  have hf : X.env.scope.kind = .function := by rw [c.hsc]; exact c.hfun
  obtain ⟨sw, lx, ly⟩ := par_sw2 (pt := pt) (pt2 := pt2) (kt := kt) (k2 := k2) hf hq
  have hs := parB_nst hp
  have hs1 := ba (show (nst u && (nst v && true)) = true from hs)
  refine ps_imp (ps_par c.calm (by rw [c.hN]; exact c.nd) (by rw [c.hN]; exact of_decide_eq_true h1) (by rw [c.hN]; exact of_decide_eq_true h2) h3 lx ly (pa_cons ha (pa_cons hb pa_nil (star_cons (ba hs1.2).1)) (star_cons hs1.1)) sw) fun D σ H ⟨G, ls, lh, re, rp, h⟩ => ?_
  simp only [evS] at h
  refine ⟨G, ls, lh, re, rp, PostS.toS re h fun w l1 G1 H1 v1 _ e1 rp1 rv h1 => ⟨G1, ls, l1, re.mono e1.toMono, rp1, PostS.toS (re.mono e1.toMono) h1 fun w2 l2 G2 H2 v2 _ e2 rp2 rv2 h2 => ⟨v1, v2, rfl, ?_⟩⟩⟩
  exact h2 _ _ _ Ext.refl rp2 ((((re.mono e1.toMono).mono e2.toMono).set (rv.mono e2.toMono)).set rv2)
theorem snd_par3 {i j k : Nat} {a b e : E} {x y z : Str} {px py pz pt pt2 pos : Pos} {u v w : Expr} {kt k2 : Nat} (h1 : slotOk N i x = true) (h2 : slotOk N j y = true) (h3 : slotOk N k z = true) (h4 : i ≠ j ∧ i ≠ k ∧ j ≠ k) (hp : parB sc [(x, px), (y, py), (z, pz)] [u, v, w] = true)
    (ha : PE X u (tE t cl Wx a)) (hb : PE X v (tE t cl Wx b)) (he : PE X w (tE t cl Wx e)) : PS X (.Assign [.Tuple [.Name x px, .Name y py, .Name z pz] kt pt] (.Tuple [u, v, w] k2 pt2) pos) (tS t cl Wx (.par3 i j k a b e)) := by
  have hq : parB X.env.scope [(x, px), (y, py), (z, pz)] [u, v, w] = true := by rw [c.hsc]; exact hp
  have hf : X.env.scope.kind = .function := by rw [c.hsc]; exact c.hfun
  obtain ⟨sw, lx, ly, lz⟩ := par_sw3 (pt := pt) (pt2 := pt2) (kt := kt) (k2 := k2) hf hq
  have hs := parB_nst hp
  have hs1 := ba (show (nst u && (nst v && (nst w && true))) = true from hs)
  refine ps_imp (ps_par3 c.calm (by rw [c.hN]; exact c.nd) (by rw [c.hN]; exact of_decide_eq_true h1) (by rw [c.hN]; exact of_decide_eq_true h2) (by rw [c.hN]; exact of_decide_eq_true h3) h4.1 h4.2.1 h4.2.2 lx ly lz (pa_cons ha (pa_cons hb (pa_cons he pa_nil (star_cons (ba (ba hs1.2).2).1)) (star_cons (ba hs1.2).1)) (star_cons hs1.1)) sw) fun D σ H ⟨G, ls, lh, re, rp, h⟩ => ?_
  simp only [evS] at h
  refine ⟨G, ls, lh, re, rp, PostS.toS re h fun w l1 G1 H1 v1 _ e1 rp1 rv h1 => ⟨G1, ls, l1, re.mono e1.toMono, rp1, PostS.toS (re.mono e1.toMono) h1 fun w2 l2 G2 H2 v2 _ e2 rp2 rv2 h2 => ⟨G2, ls, l2, (re.mono e1.toMono).mono e2.toMono, rp2, PostS.toS ((re.mono e1.toMono).mono e2.toMono) h2 fun w3 l3 G3 H3 v3 _ e3 rp3 rv3 h3 => ⟨v1, v2, v3, rfl, ?_⟩⟩⟩⟩
  exact h3 _ _ _ Ext.refl rp3 (((((re.mono e1.toMono).mono e2.toMono).mono e3.toMono).set ((rv.mono e2.toMono).mono e3.toMono)).set (rv2.mono e3.toMono) |>.set rv3)
theorem snd_pop {a : E} {x : Expr} {y : Str} {apos cpos : Pos} (h1 : seq y "pop" = true) (hb : ncall0 x = true) (hl : (apos.endLine == cpos.line) = true) (ha : PE X x (tE t cl Wx a)) : PE X (.Call (.Attribute x y apos) [] [] cpos) (tE t cl Wx (.lm a .pop .nil)) := by
  have e := seq_eq h1
  subst e
  refine pe_imp (pe_bm0 (cpos := cpos) PySem.F.plainAttrs_list PySem.F.slot_list_pop PySem.F.type_list_pop mt_pop ha (attr_base hb) hl) fun σ H Q ⟨G, ls, lh, re, rp, h⟩ => ?_
  simp only [evE] at h
  refine ⟨G, ls, lh, re, rp, h.bind fun w l1 G1 H1 v _ e1 rp1 rv h1 => ?_⟩
  split at h1
  case isFalse => exact h1.elim
  dsimp only [R.bind] at h1
  unfold evLm at h1
  split at h1
  case h_2 => exact h1.elim
  unfold RV at rv
  obtain ⟨p, rfl, hp⟩ := rv
  split at h1
  case h_2 => exact h1.elim
  rename_i ws hk
  dsimp only [items] at h1
  split at h1
  case h_2 => exact h1.elim
  rename_i u hu
  obtain ⟨xs, hx, rs⟩ := rp1.lst hk hp
  obtain ⟨z, hz, rz⟩ := rs.get hu
  have sp := rp1.sep _ _ p hk hp (by simp)
  have hz' : xs[xs.length - 1]? = some z := by rw [← rs.length]; exact hz
  have m := Mono.write (g := t.g) (G := G1) (H := H1) (p := p) (o := .lst xs.dropLast) hx ⟨sp.1, .inl ⟨xs, rfl⟩⟩
  have rd : RVs t.g G1 H1 ws.dropLast xs.dropLast := by
    rw [List.dropLast_eq_take, List.dropLast_eq_take, rs.length]
    exact rs.take _
  obtain ⟨e2, rp2⟩ := rp1.write (o' := .lst ws.dropLast) (ho' := .lst xs.dropLast) hk hp (by simp) hx (.inl ⟨xs, rfl⟩) ⟨_, rfl, rd.mono m⟩
  exact ⟨.inl ⟨rfl, xs, SqL.of hx⟩, p, xs, z, rfl, rfl, hx, hz', h1.at e2 rp2 (rz.mono m)⟩
omit c in
theorem ty_ic {h : LH} {w : W} {T : String} (e : tyOf h w = some T) : T ∈ icT := by
  unfold tyOf at e
  unfold icT
  cases w <;> first | (cases e; decide) | (cases e; done) | skip
  rename_i n
  dsimp only at e
  cases hq : h[n]? with
  | none => rw [hq] at e; cases e
  | some ob =>
    rw [hq] at e
    cases ob <;> first | (cases e; decide) | (cases e; done)
include o in
theorem snd_isic {a : E} {ty : Ty} {C : String} {y z : Str} {x : Expr} {p p2 pos : Pos} (h1 : seq y "isinstance" = true) (h2 : Mp.gl sc y = true) (h3 : seq z C = true) (h4 : Mp.gl sc z = true) (h5 : okName z = true) (hx : nst x = true) (hb : tyB ty = false) (hC : tyName ty = C) (ha : PE X x (tE t cl Wx a)) :
    PE X (.Call (.Name y p) [x, .Name z p2] [] pos) (tE t cl Wx (.isi a ty)) := by
  have e := seq_eq h1
  subst e
  by_cases hi : t.T.isc C = true
  · obtain ⟨m1, ik⟩ := o.isc C hi
    have pz : PE X (.Name z p2) (tC (.ref (t.g.ca C))) := pe_glob (v := .ref (t.g.ca C)) (c.gl h4) (by rw [seq_eq h3, c.hmg]; exact m1) rfl (okName_d h5)
    refine pe_imp (pe_callB call_isi (c.gl h2) (c.free o (by decide)) isinst_nm.2 (pa_cons ha (pa_cons pz pa_nil (star_cons rfl)) (star_cons hx)) (okName_n isinst_nm.1) (okName_d isinst_nm.1) (star_cons hx) (star_any rfl)) fun σ H Q ⟨G, ls, lh, re, rp, h⟩ => ?_
    simp only [evE] at h
    rw [if_neg (by rw [hb]; simp), hC, if_pos hi] at h
    refine ⟨G, ls, lh, re, rp, h.bind fun w l1 G1 H1 v _ e1 rp1 rv h1 => ?_⟩
    show ∃ (x c : V) (t u : Value) (b : Bool), _
    unfold isicW at h1
    cases ec : clsOf l1 w with
    | some q =>
      obtain ⟨d, ns⟩ := q
      rw [ec] at h1
      dsimp only at h1
      split at h1
      · rename_i hd
        subst hd
        obtain ⟨q, dx, xs, rfl, hp⟩ := clsOf_spec rp1 rv ec
        refine ⟨_, _, .ref (t.g.ca d), .ref (t.g.ca d), true, rfl, .own _, ?_, ?_, h1.here rp1 rv_bl⟩
        · rw [c.hK]
          exact .base (.ins hp ik.cls ik.ca ik.cn ik.ct ik.cm)
        · unfold PySem.W.kitOne
          rw [if_pos (by simp)]
      · exact h1.elim
    | none =>
      rw [ec] at h1
      dsimp only at h1
      split at h1
      · rename_i T hT
        refine ⟨v, _, .type T, .ref (t.g.ca C), false, rfl, .own _, ?_, ?_, h1.here rp1 rv_bl⟩
        · rw [c.hK]
          exact ty_spec rp1 rv hT
        · rw [c.hK]
          exact ik.no T (ty_ic hT)
      · exact h1.elim
  · refine ⟨fun pins s σ H Q I ⟨G, ls, lh, re, rp, h⟩ => ?_⟩
    simp only [evE] at h
    rw [if_neg (by rw [hb]; simp), hC, if_neg hi] at h
    exact h.elim
theorem snd_lidx {a e : E} {x z : Expr} {y : Str} {apos cpos : Pos} (h1 : seq y "index" = true) (hb : ncall0 x = true) (hl : (apos.endLine == cpos.line) = true) (hs : nst z = true) (ha : PE X x (tE t cl Wx a)) (he : PE X z (tE t cl Wx e)) :
    PE X (.Call (.Attribute x y apos) [z] [] cpos) (tE t cl Wx (.lidx a e)) := by
  have e := seq_eq h1
  subst e
  refine pe_imp (pe_bm (cpos := cpos) PySem.F.plainAttrs_list PySem.F.slot_list_index PySem.F.type_list_index mt_index ha (pa_cons he pa_nil (star_cons hs)) (attr_base hb) ?_ hl (star_cons hs) rfl) fun σ H Q ⟨G, ls, lh, re, rp, h⟩ => ?_
  · rw [star_all (by rw [List.all_cons, hs]; rfl), kwNone]; rfl
  · simp only [evE] at h
    refine ⟨G, ls, lh, re, rp, h.bind fun w l1 G1 H1 v _ e1 rp1 rv h1 => ?_⟩
    split at h1
    case isFalse => exact h1.elim
    rename_i hi
    obtain ⟨ws0, hws0⟩ := Option.isSome_iff_exists.mp hi
    obtain ⟨p0, xs0, e0, sq0, _⟩ := lstOf_spec rp1 rv hws0
    subst e0
    refine ⟨.inl ⟨rfl, xs0, by rw [c.hK]; exact sq0⟩, G1, ls, l1, re.mono e1.toMono, rp1, h1.bind fun w2 l2 G2 H2 v2 eq e2 rp2 rv2 h2 => ?_⟩
    unfold evLidx at h2
    split at h2
    case h_2 => exact h2.elim
    rename_i k
    split at h2
    case h_2 => exact h2.elim
    rename_i j hj
    cases hl2 : lstOf l2 w with
    | none => rw [hl2] at hj; cases hj
    | some ws =>
      rw [hl2] at hj
      cases hn : toInts ws with
      | none => rw [show (some ws).bind toInts = toInts ws from rfl, hn] at hj; cases hj
      | some ns =>
        rw [show (some ws).bind toInts = toInts ws from rfl, hn] at hj
        have hj' : idxI k ns = some j := hj
        obtain ⟨p, xs, ep, sq, rs⟩ := lstOf_spec rp2 (rv.mono e2.toMono) hl2
        cases ep
        rw [toInts_spec hn] at rs
        have ex := rs.ints
        subst ex
        obtain ⟨q1, q2⟩ := idxI_spec hj'
        refine ⟨p0, ns.map V.int, .int k, j, .int k, rfl, by rw [rv2.int_eq], by rw [c.hK]; exact sq, rfl, ?_, ?_, ?_, ?_, ?_⟩
        · rw [List.all_eq_true]
          intro y hy
          obtain ⟨u, _, rfl⟩ := List.mem_map.mp hy
          rfl
        · rw [List.getElem?_map, q1]; rfl
        · simp [eqV]
        · intro m z' hm hz
          rw [List.getElem?_map] at hz
          cases hu : ns[m]? with
          | none => rw [hu] at hz; cases hz
          | some u =>
            rw [hu] at hz
            cases hz
            have := q2 m u hm hu
            simp [eqV, this]
        · exact h2.here rp2 (by unfold RV; rfl)
end
end Mp
namespace Mp
open PySem PySem.Spec PyProof.Rows L2
/-! ### comprehensions with two fors -/
theorem compJ_ex {f : Env → LH → R (List W)} {q : Env → LH → R W} {tg : Tg} {σ : Env} {g : Gd} : ∀ {ws : List W} {l l2 : LH} {c : String} {ns : List String} {fs : List W}, compJ f q tg σ g ws l ≠ .ex c ns fs l2
  | [], l, l2, c, ns, fs => by
    unfold compJ
    split <;> intro h <;> cases h
  | w :: ws, l, l2, c, ns, fs => by
    unfold compJ
    split
    · split
      · rename_i σ1 _
        cases h1 : (q σ1 l).noex with
        | ex => exact (noex_ex h1).elim
        | no => intro h; cases h
        | ok b l1 =>
          dsimp only [R.bind]
          split
          · cases h2 : (f σ1 l1).noex with
            | ex => exact (noex_ex h2).elim
            | no => intro h; cases h
            | ok y l3 =>
              dsimp only
              cases h3 : compJ f q tg σ g ws l3 with
              | ex => exact (compJ_ex h3).elim
              | no => intro h; cases h
              | ok ys l4 => intro h; cases h
          · exact compJ_ex
          · intro h; cases h
      · intro h; cases h
    · intro h; cases h
theorem Mono.trans {g : Gw} {G G1 G2 : Gh} {H H1 H2 : Hp} (a : Mono g G H G1 H1) (b : Mono g G1 H1 G2 H2) : Mono g G H G2 H2 :=
  ⟨fun i q h => b.pre i q (a.pre i q h), fun q h => ⟨(b.fz q (a.fz q h).1).1, (b.fz q (a.fz q h).1).2.trans (a.fz q h).2⟩, fun q xs h => b.tup q xs (a.tup q xs h), fun q xs h => b.rd q xs (a.rd q xs h)⟩
theorem Mono.rfl' {g : Gw} {G : Gh} {H : Hp} : Mono g G H G H := Ext.refl.toMono
section
variable {t : Tp} {cl : Cl}
theorem lc2_imp {Wx : WX} {m : Bool} {e it q it1 q1 : E} {tg tg1 : Tg} {own own1 : List Nat} (hown : tgIn own tg = true) (hown1 : tgIn own1 tg1 = true) {σ : Sst} {H : Hp} {Q : VK} (h0 : tE t cl Wx (.comp2 m e tg it q tg1 it1 q1 own own1) σ H Q) :
    tLc2 (tI t cl Wx it) (gT t.g.K tg) (tT t cl W0 q) (tI t cl W0 it1) (gT t.g.K tg1) (tT t cl W0 q1) (tE t cl W0 e) own own1 σ H Q := by
  obtain ⟨G, ls, lh, re, rp, h⟩ := h0
  simp only [evE] at h
  refine ⟨G, ls, lh, re, rp, h.bind fun p l1 G1 H1 J _ e1 rp1 wk h1 => ?_⟩
  intro D hD
  have re1 := (re.mono e1.toMono).wipe2 own
  split at h1
  case isFalse => exact h1.elim
  rename_i hbig
  let fj : Env → LH → R (List W) := fun σ' h' => (evI t.T cl it1 σ' h').bind fun p1 h2 =>
    if p1.1.length ≤ big then compL (fun σ2 h3 => evE t.T cl e σ2 h3) (fun σ2 h3 => evE t.T cl q1 σ2 h3) tg1 (wipeE σ' own1) p1.2 p1.1 h2 else .no
  let qj : Env → LH → R W := fun σ' h' => evE t.T cl q σ' h'
  cases hcl : compJ fj qj tg (wipeE ls own) p.2 p.1 l1 with
  | ex => exact (compJ_ex hcl).elim
  | no => rw [hcl] at h1; exact h1.elim
  | ok ys l2 =>
  rw [hcl] at h1
  dsimp only [R.bind] at h1
  split at h1
  case isFalse => exact h1.elim
  rename_i hys
  have nD : ¬ G1.Pr D := fun z => rp1.pr D z hD
  -- what holds all the way: how far the world went, what is made
  let Bk : Gh → LH → List W → List V → Hp → Prop := fun G2 l dn acc H => (G2.Pr = fun q => G1.Pr q ∨ q = D) ∧ Mono t.g G1 H1 G2 H ∧ (∀ q, G1.Pr q → H q = H1 q) ∧ Rep t.g G2 l H ∧ H D = some (.lst acc) ∧ RVs t.g G2 H dn acc
  have bkE : ∀ {G2 G3 : Gh} {l l3 : LH} {dn : List W} {acc : List V} {H2 H3 : Hp}, Bk G2 l dn acc H2 → Ext t.g G2 H2 G3 H3 → Rep t.g G3 l3 H3 → Bk G3 l3 dn acc H3 := by
    intro G2 G3 l l3 dn acc H2 H3 ⟨b1, b2, b3, b4, b5, b6⟩ e3 r3
    exact ⟨by rw [e3.pr, b1], b2.trans e3.toMono, fun q hq => (e3.kept q (by rw [b1]; exact .inl hq)).trans (b3 q hq), r3, (e3.kept D (by rw [b1]; exact .inr rfl)).trans b5, b6.mono e3.toMono⟩
  let Inv : Nat → Hp → Prop := fun i H => ∃ (G2 : Gh) (l : LH) (dn : List W) (acc : List V), i ≤ p.1.length ∧ Bk G2 l dn acc H ∧ ∃ rest, compJ fj qj tg (wipeE ls own) p.2 (p.1.drop i) l = .ok rest l2 ∧ dn ++ rest = ys
  refine ⟨fun i m H => m = p.1.length - i ∧ Inv i H, ⟨p.1.length, by simp, ?_⟩, ?_⟩
  · obtain ⟨m0, rp0⟩ := rp1.own (D := D) (o := .lst []) hD
    exact ⟨_, l1, [], [], Nat.zero_le _, ⟨rfl, m0, fun q hq => upd_ne fun z => nD (z ▸ hq), rp0, upd_same, RVs.nil⟩, ys, hcl, rfl⟩
  · rintro i mm H2 ⟨rfl, G2, l, dn, acc, hi, bk, rest, hc, hdr⟩
    have bk' := bk
    obtain ⟨hpr, mo, kp, rp2, hacc, racc⟩ := bk'
    by_cases hlt : i < p.1.length
    · have hdrop : p.1.drop i = p.1[i] :: p.1.drop (i + 1) := List.drop_eq_getElem_cons hlt
      rw [hdrop] at hc
      unfold compJ at hc
      split at hc
      case isFalse => cases hc
      rename_i hg
      obtain ⟨_, w2⟩ := wk G2 H2 l mo rp2 hg
      obtain ⟨w3, w4⟩ := w2 i p.1[i] (by simp [hlt])
      split at hc
      case h_2 => cases hc
      rename_i ls1 hb
      obtain ⟨b, l3, hq, hc⟩ := bind_ok hc
      have hq := noex_ok hq
      refine .inr ⟨w3, Inv (i + 1), fun H' p' => ⟨p.1.length - (i + 1), by omega, rfl, p'⟩, fun x H3 hy => ?_⟩
      obtain ⟨G3, e3, rp3, rv3⟩ := w4 x H3 hy
      have re3 : REnv t.g G3 H3 (wipeE ls own) (wipe σ own) := (re1.mono mo).mono e3.toMono
      refine bind_sp hb re3 rv3 fun σ2 re4 hw => ⟨by rw [hw own hown, wipe_idem], ?_⟩
      refine ⟨G3, ls1, l, re4, rp3, ?_⟩
      rw [show evE t.T cl q ls1 l = .ok b l3 from hq]
      intro G4 H4 b' e4 rp4 hb'
      have bk4 := bkE (bkE bk e3 rp3) e4 rp4
      unfold relT at hb'
      subst hb'
      cases b' with
      | false =>
        rw [if_neg Bool.false_ne_true]
        dsimp only at hc
        exact ⟨G4, l3, dn, acc, hlt, bk4, rest, hc, hdr⟩
      | true =>
        rw [if_pos rfl]
        dsimp only at hc
        obtain ⟨yi, l5, hy5, hc⟩ := bind_ok hc
        have hy5 := noex_ok hy5
        obtain ⟨zs, l6, hc6, hc⟩ := bind_ok hc
        cases hc
        obtain ⟨p1, l7, hp1, hy5⟩ := bind_ok hy5
        split at hy5
        case isFalse => cases hy5
        rename_i hbig1
        refine ⟨G4, ls1, l3, re4.mono e4.toMono, rp4, ?_⟩
        rw [hp1]
        intro G5 H5 J1 e5 rp5 wk1
        have bk5 := bkE bk4 e5 rp5
        have re5 := (((re4.mono e4.toMono).mono e5.toMono)).wipe2 own1
        let Inv1 : Nat → Hp → Prop := fun j H => ∃ (G6 : Gh) (l : LH) (dn1 : List W) (acc : List V), j ≤ p1.1.length ∧ Mono t.g G5 H5 G6 H ∧ Bk G6 l dn1 acc H ∧ ∃ rest1, compL (fun σ2 h3 => evE t.T cl e σ2 h3) (fun σ2 h3 => evE t.T cl q1 σ2 h3) tg1 (wipeE ls1 own1) p1.2 (p1.1.drop j) l = .ok rest1 l5 ∧ dn1 ++ rest1 = dn ++ yi
        refine ⟨fun j k H => k = p1.1.length - j ∧ Inv1 j H, ⟨p1.1.length, by simp, G5, l7, dn, acc, Nat.zero_le _, Mono.rfl', bk5, yi, hy5, rfl⟩, ?_⟩
        rintro j kk H6 ⟨rfl, G6, l8, dn1, acc1, hj, mo1, bk6, rest1, hc1, hdr1⟩
        have bk6' := bk6
        obtain ⟨hpr6, _, _, rp6, hacc6, racc6⟩ := bk6'
        by_cases hlt1 : j < p1.1.length
        · have hdrop1 : p1.1.drop j = p1.1[j] :: p1.1.drop (j + 1) := List.drop_eq_getElem_cons hlt1
          rw [hdrop1] at hc1
          unfold compL at hc1
          split at hc1
          case isFalse => cases hc1
          rename_i hg1
          obtain ⟨_, v2⟩ := wk1 G6 H6 l8 mo1 rp6 hg1
          obtain ⟨v3, v4⟩ := v2 j p1.1[j] (by simp [hlt1])
          split at hc1
          case h_2 => cases hc1
          rename_i ls2 hb1
          obtain ⟨b1, l9, hq1, hc1⟩ := bind_ok hc1
          have hq1 := noex_ok hq1
          refine .inr ⟨v3, Inv1 (j + 1), fun H' p' => ⟨p1.1.length - (j + 1), by omega, rfl, p'⟩, fun x1 H7 hy1 => ?_⟩
          obtain ⟨G7, e7, rp7, rv7⟩ := v4 x1 H7 hy1
          have re7 : REnv t.g G7 H7 (wipeE ls1 own1) (wipe σ2 own1) := (re5.mono mo1).mono e7.toMono
          refine bind_sp hb1 re7 rv7 fun σ3 re8 hw1 => ⟨by rw [hw1 own1 hown1, wipe_idem], ?_⟩
          refine ⟨G7, ls2, l8, re8, rp7, ?_⟩
          rw [show evE t.T cl q1 ls2 l8 = .ok b1 l9 from hq1]
          intro G8 H8 b2 e8 rp8 hb2
          have bk8 := bkE (bkE bk6 e7 rp7) e8 rp8
          have mo8 := (mo1.trans e7.toMono).trans e8.toMono
          unfold relT at hb2
          subst hb2
          cases b2 with
          | false =>
            rw [if_neg Bool.false_ne_true]
            dsimp only at hc1
            exact ⟨G8, l9, dn1, acc1, hlt1, mo8, bk8, rest1, hc1, hdr1⟩
          | true =>
            rw [if_pos rfl]
            dsimp only at hc1
            obtain ⟨y, la, hya, hc1⟩ := bind_ok hc1
            have hya := noex_ok hya
            obtain ⟨yt, lb, hcb, hc1⟩ := bind_ok hc1
            cases hc1
            refine ⟨G8, ls2, l9, re8.mono e8.toMono, rp8, ?_⟩
            rw [show evE t.T cl e ls2 l9 = .ok y la from hya]
            intro G9 H9 v e9 rp9 rv9
            obtain ⟨hpr9, mo9, kp9, rpA, hacc9, racc9⟩ := bkE bk8 e9 rp9
            have hprD : G9.Pr D := by rw [hpr9]; exact .inr rfl
            obtain ⟨m6, rpB⟩ := rpA.mine (o := .lst (acc1 ++ [v])) hprD hacc9 (.inl ⟨_, rfl⟩)
            have hlen : acc1.length < ys.length := by
              rw [← RVs.length racc6, ← hdr, ← List.append_assoc, ← hdr1]
              simp only [List.length_append, List.length_cons]
              omega
            refine ⟨acc1, hacc9, ?_, G9, la, dn1 ++ [y], acc1 ++ [v], hlt1, (mo8.trans e9.toMono).trans m6, ⟨hpr9, mo9.trans m6, fun q hq => ?_, rpB, upd_same, RVs.append (racc9.mono m6) (RVs.cons (rv9.mono m6) RVs.nil)⟩, yt, hcb, by rw [← hdr1]; simp⟩
            · exact Nat.lt_of_lt_of_le hlen (big_line hys)
            · have : q ≠ D := fun z => nD (z ▸ hq)
              rw [upd_ne this]
              exact kp9 q hq
        · have hie : j = p1.1.length := by omega
          subst hie
          rw [List.drop_length] at hc1
          unfold compL at hc1
          split at hc1
          case isFalse => cases hc1
          rename_i hg1
          cases hc1
          rw [List.append_nil] at hdr1
          subst hdr1
          exact .inl ⟨(wk1 G6 H6 _ mo1 rp6 hg1).1, G6, _, _, acc1, hlt, bk6, zs, hc6, by rw [List.append_assoc]; exact hdr⟩
    · have hie : i = p.1.length := by omega
      subst hie
      rw [List.drop_length] at hc
      unfold compJ at hc
      split at hc
      case isFalse => cases hc
      rename_i hg
      cases hc
      rw [List.append_nil] at hdr
      subst hdr
      refine .inl ⟨(wk G2 H2 _ mo rp2 hg).1, ?_⟩
      cases m with
      | true =>
        rw [if_pos rfl] at h1
        obtain ⟨m7, rp7⟩ := rp2.giveL hpr nD hacc racc
        refine h1 ⟨G2.io ++ [D], G2.Fz, G1.Pr⟩ H2 (.ref D) ⟨⟨fun i q h => m7.pre i q (mo.pre i q h), fun q h => ⟨(m7.fz q (mo.fz q h).1).1, (mo.fz q h).2⟩, fun q xs h => mo.tup q xs h, fun q xs h => mo.rd q xs h⟩, rfl, kp⟩ rp7 ?_
        exact rv_ref (by rw [← rp2.len]; simp)
      | false =>
        rw [if_neg Bool.false_ne_true] at h1
        obtain ⟨m7, rp7⟩ := rp2.giveF hpr nD (by rw [hacc]; simp)
        refine h1 ⟨G2.io, fun q => G2.Fz q ∨ q = D, G1.Pr⟩ H2 (.ref D) ⟨⟨fun i q h => m7.pre i q (mo.pre i q h), fun q h => ⟨(m7.fz q (mo.fz q h).1).1, (mo.fz q h).2⟩, fun q xs h => mo.tup q xs h, fun q xs h => mo.rd q xs h⟩, rfl, kp⟩ rp7 ?_
        exact rv_fl (.inr rfl) hacc (racc.mono m7)
end
section
variable {t : Tp} {cl : Cl} {X : Cx} {Wx : WX} {n : Nat} {ar : Ar} {N : List Str} {fn : Str → Bool} {sc : Scope} (c : Cok t X Wx n N fn sc) (o : t.Ok)
include c
/-! ### the place of a text in a text -/
theorem snd_sfind {a b : E} {x z : Expr} {y : Str} {apos cpos : Pos} (h1 : seq y "find" = true) (hb : ncall0 x = true) (hl : (apos.endLine == cpos.line) = true) (hz : nst z = true) (ha : PE X x (tE t cl Wx a)) (he : PE X z (tE t cl Wx b)) :
    PE X (.Call (.Attribute x y apos) [z] [] cpos) (tE t cl Wx (.sfind a b)) := by
  have e := seq_eq h1
  subst e
  refine pe_imp (pe_m1 PySem.F.slot_str_find PySem.F.type_str_find mt_find ha he (star_cons hz) (attr_base hb) hl) fun σ H Q ⟨G, ls, lh, re, rp, h⟩ => ?_
  simp only [evE] at h
  refine ⟨G, ls, lh, re, rp, h.bind fun w l1 G1 H1 v _ e1 rp1 rv h1 => ?_⟩
  split at h1
  case h_2 => exact h1.elim
  refine ⟨⟨_, rv.str_eq⟩, G1, ls, l1, re.mono e1.toMono, rp1, h1.bind fun w2 l2 G2 H2 v2 _ e2 rp2 rv2 h2 => ?_⟩
  split at h2
  case h_2 => exact h2.elim
  exact ⟨_, _, rv.str_eq, by rw [rv2.str_eq], h2.here rp2 rv_int⟩
include o in
theorem snd_lrng2 {m : Bool} {a b : E} {u v : Expr} {y z : Str} {p p2 pos pos2 : Pos} (h1 : seq y "list" = true) (h2 : Mp.gl sc y = true) (h3 : seq z "range" = true) (h4 : Mp.gl sc z = true) (hu : nst u = true) (hv : nst v = true) (ha : PE X u (tE t cl Wx a)) (hb : PE X v (tE t cl Wx b)) :
    PE X (.Call (.Name y p) [.Call (.Name z p2) [u, v] [] pos2] [] pos) (tE t cl Wx (.lrng2 m a b)) := by
  have e1 := seq_eq h1
  have e2 := seq_eq h3
  subst e1
  subst e2
  refine pe_imp (pe_listRg c.calm (c.gl h2) (c.free o (by decide)) (prg_2 (c.gl h4) (c.free o (by decide)) ha hb (star_cons hu) (star_cons hv) (by rw [star_cons hv]; rfl)) (star_cons rfl)) fun σ H Q ⟨G, ls, lh, re, rp, h⟩ => ?_
  simp only [evE] at h
  refine ⟨G, ls, lh, re, rp, h.bind fun w l1 G1 H1 v _ e1 rp1 rv h1 => ⟨G1, ls, l1, re.mono e1.toMono, rp1, h1.bind fun w2 l2 G2 H2 v2 _ e2 rp2 rv2 h2 => ?_⟩⟩
  unfold rng at h2
  cases w <;> first | exact h2.elim | skip
  rename_i i _
  cases w2 <;> first | exact h2.elim | skip
  rename_i j _
  refine ⟨i, j, rv.int_eq, rv2.int_eq, ?_⟩
  dsimp only at h2
  split at h2
  · rename_i hr
    have hr' := of_decide_eq_true hr
    refine ⟨⟨hr'.1, hr'.2.1, hr'.2.2.1, hr'.2.2.2.1, Nat.le_trans hr'.2.2.2.2 (show big ≤ 2 ^ 24 by decide)⟩, fun q hq => ?_⟩
    have hv : RVs t.g G2 H2 (rngW i j) (rgV i j) := by
      have : rngW i j = ((List.range (j - i).toNat).map fun (k : Nat) => (i + (k : Int))).map W.int := by unfold rngW; rw [List.map_map]; rfl
      rw [this]
      have e2 : rgV i j = ((List.range (j - i).toNat).map fun (k : Nat) => (i + (k : Int))).map V.int := by unfold rgV; rw [List.map_map]; rfl
      rw [e2]
      exact RVs.of_ints _
    dsimp only [R.bind] at h2
    cases m with
    | true => exact post_ref rp2 hv h2 hq
    | false => exact post_fl rp2 hv h2 hq
  · exact h2.elim
/-! ### == of instances -/
include o in
theorem pc_oeq (F : Fns t ar cl n) {a b : E} {x y : Expr} (ha : PE X x (tE t cl Wx a)) (hb : PE X y (tE t cl Wx b)) : PC X .Eq x y (tE t cl Wx (.oeq false a b)) := by
  refine ⟨fun pins s σ H Q I ⟨G, ls, lh, re, rp, h⟩ => ?_⟩
  simp only [evE] at h
  refine thn (ha.run pins s σ H (fun x H1 => tE t cl Wx b σ H1 fun y H2 => ∃ G2 l2 wx wy, Rep t.g G2 l2 H2 ∧ RV t.g G2 H2 wx x ∧ RV t.g G2 H2 wy y ∧ PostG t.g (RV t.g) G2 H2 (match clsOf l2 wx, clsOf l2 wy with
    | some p, some q => if p.1 = q.1 ∧ t.T.mth p.1 "__eq__" 1 = true then (cl (p.1 ++ "." ++ "__eq__") [wx, wy] l2).bind fun b h3 => (match b with
      | .bl b => .ok (.bl (b != false)) h3
      | _ => .no) else .no
    | _, _ => .no) Q fun cls d H' => Wx cls d σ H') I ⟨G, ls, lh, re, rp, h.bind fun w l1 G1 H1 v _ e1 rp1 rv h1 => ⟨G1, ls, l1, re.mono e1.toMono, rp1, h1.bind fun w2 l2 G2 H2 v2 _ e2 rp2 rv2 h2 => ⟨G2, l2, w, w2, rp2, rv.mono e2.toMono, rv2, h2⟩⟩⟩) fun u s1 ⟨x1, H1, I1, rx, q1⟩ => ?_
  refine thn (hb.run pins s1 σ H1 _ I1 q1) fun u2 s2 ⟨y2, H2, I2, ry, G2, l2, wx, wy, rp2, rv1, rv2, h2⟩ => ?_
  split at h2
  case h_2 => exact h2.elim
  rename_i p0 q0 hp0 hq0
  obtain ⟨C, ns⟩ := p0
  obtain ⟨C2, ms⟩ := q0
  split at h2
  case isFalse => exact h2.elim
  rename_i hq
  obtain ⟨hc, hq⟩ := hq
  dsimp only at hc hq h2
  subst hc
  obtain ⟨p, dx, xs, rfl, hp⟩ := clsOf_spec rp2 rv1 hp0
  obtain ⟨p2, dy, ys, rfl, hp2⟩ := clsOf_spec rp2 rv2 hq0
  obtain rfl : u = Value.ref p := rx
  obtain rfl : u2 = Value.ref p2 := ry
  obtain ⟨k1, k2, d, hd, k3, k4⟩ := o.mth C "__eq__" _ hq
  obtain ⟨ds, dvs, q1, q2, q3, q4⟩ := o.bi _ d _ hd k3 k4
  have Fo := F.ok _ d hd
  rw [← c.hP, ← c.hw, ← c.hK, ← c.hmg, ← c.hb] at Fo
  rw [F.fill _ d _ _ hd (by exact k3) (by exact k4)] at h2
  have go := run_fnSD (E := WE Wx) (us := [.ref p, .ref p2]) (vs := [.ref p, .ref p2]) (Q := fun v H' => ∃ b : Bool, v = .bl b ∧ Q (.bl b) H') Fo (c.room.mono (by omega)) (by rw [c.hK]; exact q4) q3 (passAt c.tk σ) I2 (.cons rfl (.cons rfl .nil)) (h := by
    refine ⟨G2, _, l2, RVs.append (RVs.cons rv1 (RVs.cons rv2 RVs.nil)) (q2 G2 H2), rp2, ?_, PostG.bind h2 fun w l3 G3 H3 v _ e3 rp3 rv3 h3 => ?_⟩
    · rw [List.length_append, q1]
      show 2 + (d.np - 2) = d.np
      have : 1 + 1 ≤ d.np := k3
      omega
    · split at h3
      · exact ⟨_, rv3.bl_eq, h3.here rp3 (by rw [Bool.bne_false]; exact rv_bl)⟩
      · exact h3.elim)
  obtain ⟨mA, J, _⟩ := ins_get I2.hok hp
  obtain ⟨mB, J', _⟩ := ins_get I2.hok hp2
  obtain ⟨od, J, _⟩ := J.look
  obtain ⟨od', J', _⟩ := J'.look
  obtain ⟨m, hF⟩ := I2.fr
  show wpAny _ _ (richCompare .Eq (.ref p) (.ref p2)) _ _ _
  refine PySem.W.cmp_K (op := .Eq) (tb := .ref (t.g.ca C)) c.room.units0 hF I2.ok.mod.kin J J'.type (by simp [PySem.W.notFirst]) (by rw [c.hK]; exact k2.at_) (by rw [c.hK]; exact k2.fn) (wpAny_mono go (fun r s3 ⟨v, H3, I3, rv3, b, hv, q⟩ => ?_) fun _ _ z => z)
  subst hv
  cases rv3
  exact ⟨.bl b, H3, I3, rfl, q⟩
omit c o in
theorem oeq_bl {neg : Bool} {a i : E} {ls : Env} {lh l1 : LH} {w : W} (e : evE t.T cl (.oeq neg i a) ls lh = .ok w l1) : ∃ b, w = .bl b := by
  simp only [evE] at e
  obtain ⟨_, _, _, e⟩ := bind_ok e
  obtain ⟨_, _, _, e⟩ := bind_ok e
  split at e
  · split at e
    · obtain ⟨_, _, _, e⟩ := bind_ok e
      split at e
      · cases e; exact ⟨_, rfl⟩
      · cases e
    · cases e
  · cases e
end
end Mp
namespace MpN
open PySem PySem.W PySem.Spec PyProof.Rows L2
open Builtin
/-! ### != of an own class that has only an == -/
section
variable {prog : Program} {w : World} {A : Around} {E : Value → Shared → Prop} {s : Shared} {K : Frag} {x C L f : Addr} {h₀ : Heap} {m : Str → Option Value} {ox : Obj} {od : Option Obj} {b tb : Value}
theorem ne_entry {Q : Fin → Shared → Prop} (X : K.In s.heap) (I : InstAt s.heap x ox C od) (hs : findIn K (.ref C) "__eq__" = some (some (.ref f))) (hf : isFn K (.ref f) = true) (hu : A.units < cLine)
    (h : wpAny (model prog w) A (call (.ref f) [.ref x, b]) (fun v s' => ∃ k, v = .bool k ∧ Q (.done (.ret (.bool (!k)))) s') E s) :
    wpAny (model prog w) A (Builtin.«object.__ne__» ⟨[.ref x, b], []⟩) Q E s := by
  unfold Builtin.«object.__ne__»
  have go := ifBound_K (M := model prog w) (A := A) (E := E) (args := [b]) (name := "__eq__") (Q := fun r s' => ∃ k, r = some (.bool k) ∧ Q (.done (.ret (.bool (!k)))) s') X I hs hf (wpAny_mono h (fun v s' ⟨k, e, q⟩ => ⟨k, by rw [e], q⟩) fun _ _ z => z)
  repeat (first
    | (with_reducible refine wpAny_cRoomFor (by exact hu) ?_)
    | (refine wpAny_bind (m := callSpecialIfBound? (.ref x) (Str.ofString "__eq__") [b]) (wpAny_mono go (fun r s' hr => by
        obtain ⟨k, rfl, hq⟩ := hr
        repeat (first | exact hq | exact wpAny_pure hq | exact wpAny_truthy_bool (by exact hq) | (refine wpAny_bind (m := truthy (.bool k)) (wpAny_truthy_bool ?_)) | wp_step)) fun _ _ e => e))
    | wp_step)
theorem try_ne {Q : Value → Shared → Prop} (X : K.In s.heap) (I : InstAt s.heap x ox C od) (hne : findIn K (.ref C) "__ne__" = some (some (.builtin "object.__ne__")))
    (hs : findIn K (.ref C) "__eq__" = some (some (.ref f))) (hf : isFn K (.ref f) = true) (hm : mroIn K C (.type "object") = some true) (hu : A.units + 1 < cLine)
    (h : wpAny (model prog w) A.in1 (call (.ref f) [.ref x, b]) (fun v s' => ∃ k, v = .bool k ∧ Q (.bool (!k)) s') E s) :
    wpAny (model prog w) A (tryCompare (.ref x) "__ne__" b) (fun r s' => ∃ v, r = some v ∧ Q v s') E s := by
  have hi : Looks (model prog w) s.heap (isInstance (.ref x) (.type "object")) true := by
    unfold isInstance
    exact I.type.andThen (looks_mroIn X hm)
  have cl : wpAny (model prog w) A (call (.builtin "object.__ne__") [.ref x, b]) (fun v s' => ∃ k, v = .bool k ∧ Q v s') E s := by
    refine wpAny_call (codeAny_call_builtin F.cmp_object.ne.plain F.cmpEntry_ne (check_slot F.cmpKind_ne F.cmpSplit_ne hi (F.cmpArgs_ne _ _) ?_))
    refine ne_entry (A := A.in1) X I hs hf (by exact hu) (wpAny_mono h (fun v s' ⟨k, e, q⟩ => ?_) fun _ _ z => z)
    exact ⟨k, e, _, rfl, q⟩
  unfold tryCompare
  refine wpAny_bind ?_
  simp only [callSpecialIfBound?, bindSpecialIfBound?]
  refine wpAny_holding (wpAny_bind (wpAny_bind (wpAny_bind (I.type.here ((looks_findIn X hne).here ?_)))))
  have fin : ∀ {Q2 : Option Value → Shared → Prop}, (∀ k s', Q (.bool k) s' → Q2 (some (.bool k)) s') → wpAny (model prog w) A (call (.builtin "object.__ne__") ([.ref x] ++ [b]) >>= fun v => pure (some v)) Q2 E s := fun h2 =>
    wpAny_bind (wpAny_mono cl (fun v s' ⟨k, e, q⟩ => wpAny_pure (by rw [e] at q ⊢; exact h2 k s' q)) fun _ _ z => z)
  refine wpAny_bind (wpAny_askSetting (wpAny_ite ?_))
  split
  · refine wpAny_bind (wpAny_of_eq (F.cmp_object.ne.bind _) (wpAny_pure ?_))
    refine fin fun k s' q => ?_
    exact wpAny_pure ⟨_, rfl, q⟩
  · refine wpAny_tryCatch (wpAny_bind (wpAny_of_eq (F.cmp_object.ne.bind _) (wpAny_pure ?_)))
    refine fin fun k s' q => ?_
    exact wpAny_pure ⟨_, rfl, q⟩
theorem rich_ne {Q : Value → Shared → Prop} (F : Fr h₀ L s.heap m) (X₀ : K.In h₀) (I : InstAt s.heap x ox C od) (hb : Looks (model prog w) s.heap (typeOf b) tb) (hn : notFirst K C tb = true)
    (hne : findIn K (.ref C) "__ne__" = some (some (.builtin "object.__ne__"))) (hs : findIn K (.ref C) "__eq__" = some (some (.ref f))) (hf : isFn K (.ref f) = true) (hm : mroIn K C (.type "object") = some true) (hu : A.units + 1 < cLine)
    (h : wpAny (model prog w) A.in1 (call (.ref f) [.ref x, b]) (fun v s' => ∃ k, v = .bool k ∧ Q (.bool (!k)) s') E s) : wpAny (model prog w) A (richCompare .NotEq (.ref x) b) Q E s := by
  have X := X₀.keeps F.keep
  have one := try_ne (Q := Q) X I hne hs hf hm hu h
  unfold richCompare
  simp only [oneThing_ref]
  refine wpAny_holding (wpAny_bind (wpAny_cRoomFor (Nat.lt_of_succ_lt hu) ?_))
  rw [cmpInfo_NotEq]
  dsimp only
  refine wpAny_bind (I.type.here (wpAny_bind (hb.here ?_)))
  split
  · rename_i q
    have e : subIn K tb (.ref C) = some false := by
      rcases Bool.or_eq_true_iff.mp hn with e | e
      · rw [beq_iff_eq.mp e] at q; simp at q
      · exact beq_iff_eq.mp e
    refine wpAny_bind ((looks_subIn X e).here ?_)
    simp only [Bool.false_eq_true, if_false]
    refine wpAny_bind (wpAny_mono one (fun r s' z => ?_) fun _ _ z => z)
    obtain ⟨v, rfl, hq⟩ := z
    exact wpAny_pure hq
  · refine wpAny_bind (wpAny_pure ?_)
    simp only [Bool.false_eq_true, if_false]
    refine wpAny_bind (wpAny_mono one (fun r s' z => ?_) fun _ _ z => z)
    obtain ⟨v, rfl, hq⟩ := z
    exact wpAny_pure hq
end
end MpN
namespace Mp
open PySem PySem.Spec PyProof.Rows L2
section
variable {t : Tp} {cl : Cl} {X : Cx} {Wx : WX} {n : Nat} {ar : Ar} {N : List Str} {fn : Str → Bool} {sc : Scope} (c : Cok t X Wx n N fn sc) (o : t.Ok)
include c
omit c in
/-- a call a little deeper than the frame's own code -/
theorem run_at {A' : Around} {k : Nat} {f : Addr} {fd : FuncData} {ps : List Str} {sp : Sp} {E : L2.St → XK} {ds : List Value} {dvs : List V} {pins : List (Addr × Obj)} {σ : L2.St} {H : Hp} {s : Shared} {Q : VK} {us : List Value} {vs : List V} (hA : A'.frames = X.A.frames) (F : FnOk X.prog X.w X.K X.mg X.base (CX X.prog X.w) k f fd ps sp) (hr : Room k A') (hb : Binds X.K fd ps ds) (hd : Vals dvs ds) (hx : PassesAt (CX X.prog X.w) X σ (E σ))
    (I : Inv X pins σ H s) (r : Vals vs us) (h : sp (vs ++ dvs) H Q (E σ)) : wpAny (model X.prog X.w) A' (PySem.call (.ref f) us) (EP X pins σ Q) X.xe s := by
  have r2 : Vals (vs ++ dvs) (us ++ ds) := r.append hd
  have hl : (us ++ ds).length = ps.length := by rw [← r2.length]; exact F.len _ _ _ _ h
  have e0 := I.env0
  have e1 : Env0 X.prog X.w X.K X.mg X.base A' X.stack s H := ⟨hA.trans e0.frames, e0.mod, e0.bs, e0.bsz, e0.funs, e0.frf, e0.hok, e0.bare⟩
  refine wpAny_call (codeAny_mono (F.run A' X.stack s H ⟨us, []⟩ (us ++ ds) (vs ++ dvs) Q (E σ) hr e1 (hb s us I.kIn hl) r2 h) fun q s' hq => ?_)
  cases q with
  | error e => exact hx pins H s e s' I hq
  | ok fl =>
    cases fl with
    | ret u => exact I.after hq
    | next => exact False.elim hq
    | brk => exact False.elim hq
    | cont => exact False.elim hq
include o in
theorem pc_oeqx (F : Fns t ar cl n) {neg : Bool} {a b : E} {x y : Expr} (ha : PE X x (tE t cl Wx a)) (hb : PE X y (tE t cl Wx b)) : PC X (if neg = true then .NotEq else .Eq) x y (tE t cl Wx (.oeqx neg a b)) := by
  refine ⟨fun pins s σ H Q I ⟨G, ls, lh, re, rp, h⟩ => ?_⟩
  simp only [evE] at h
  refine thn (ha.run pins s σ H (fun x H1 => tE t cl Wx b σ H1 fun y H2 => ∃ G2 l2 wx wy, Rep t.g G2 l2 H2 ∧ RV t.g G2 H2 wx x ∧ RV t.g G2 H2 wy y ∧ PostG t.g (RV t.g) G2 H2 (match clsOf l2 wx with
    | some p => if (t.T.isc p.1 = true ∧ t.T.mth p.1 "__eq__" 1 = true) ∧ okR l2 p.1 wy = true then (cl (p.1 ++ "." ++ "__eq__") [wx, wy] l2).bind fun b h3 => (match b with
      | .bl b => .ok (.bl (b != neg)) h3
      | _ => .no) else .no
    | none => evC (if neg = true then .ne else .eq) wx wy l2) Q fun cls d H' => Wx cls d σ H') I ⟨G, ls, lh, re, rp, h.bind fun w l1 G1 H1 v _ e1 rp1 rv h1 => ⟨G1, ls, l1, re.mono e1.toMono, rp1, h1.bind fun w2 l2 G2 H2 v2 _ e2 rp2 rv2 h2 => ⟨G2, l2, w, w2, rp2, rv.mono e2.toMono, rv2, h2⟩⟩⟩) fun u s1 ⟨x1, H1, I1, rx, q1⟩ => ?_
  refine thn (hb.run pins s1 σ H1 _ I1 q1) fun u2 s2 ⟨y2, H2, I2, ry, G2, l2, wx, wy, rp2, rv1, rv2, h2⟩ => ?_
  split at h2
  case h_2 =>
    cases neg with
    | false => exact (snd_cmp c.hK c.room .eq) pins s2 σ H2 _ _ u u2 Q I2 rx ry ⟨G2, l2, wx, wy, _, rp2, rv1, rv2, h2⟩
    | true => exact (snd_cmp c.hK c.room .ne) pins s2 σ H2 _ _ u u2 Q I2 rx ry ⟨G2, l2, wx, wy, _, rp2, rv1, rv2, h2⟩
  rename_i p0 hp0
  obtain ⟨C, ns⟩ := p0
  split at h2
  case isFalse => exact h2.elim
  rename_i hq
  obtain ⟨⟨hisc, hq⟩, hok⟩ := hq
  dsimp only at hisc hq hok h2
  obtain ⟨m1, ik⟩ := o.isc C hisc
  obtain ⟨p, dx, xs, rfl, hp⟩ := clsOf_spec rp2 rv1 hp0
  obtain rfl : u = Value.ref p := rx
  obtain ⟨k1, k2, d, hd, k3, k4⟩ := o.mth C "__eq__" _ hq
  obtain ⟨ds, dvs, q1, q2, q3, q4⟩ := o.bi _ d _ hd k3 k4
  have Fo := F.ok _ d hd
  rw [← c.hP, ← c.hw, ← c.hK, ← c.hmg, ← c.hb] at Fo
  rw [F.fill _ d _ _ hd (by exact k3) (by exact k4)] at h2
  have go : ∀ {A' : Around}, A'.frames = X.A.frames → Room (2 * n + 1) A' → wpAny (model X.prog X.w) A' (PySem.call (.ref (t.fa (C ++ "." ++ "__eq__"))) [.ref p, u2]) (EP X pins σ fun v H' => ∃ b : Bool, v = .bl b ∧ Q (.bl (b != neg)) H') X.xe s2 := fun {A'} hA hr =>
    run_at (E := WE Wx) (us := [.ref p, u2]) (vs := [.ref p, y2]) hA Fo hr (by rw [c.hK]; exact q4) q3 (passAt c.tk σ) I2 (.cons rfl (.cons ry .nil)) (h := by
      refine ⟨G2, _, l2, RVs.append (RVs.cons rv1 (RVs.cons rv2 RVs.nil)) (q2 G2 H2), rp2, ?_, PostG.bind h2 fun w l3 G3 H3 v _ e3 rp3 rv3 h3 => ?_⟩
      · rw [List.length_append, q1]
        show 2 + (d.np - 2) = d.np
        have : 1 + 1 ≤ d.np := k3
        omega
      · split at h3
        · exact ⟨_, rv3.bl_eq, h3.here rp3 rv_bl⟩
        · exact h3.elim)
  obtain ⟨mA, J, _⟩ := ins_get I2.hok hp
  obtain ⟨od, J, _⟩ := J.look
  obtain ⟨m, hF⟩ := I2.fr
  obtain ⟨tb, hL, hN⟩ : ∃ tb, PySem.W.Looks (model X.prog X.w) s2.heap (typeOf u2) tb ∧ PySem.W.notFirst X.K (t.g.ca C) tb = true := by
    unfold okR at hok
    cases hc2 : clsOf l2 wy with
    | some q =>
      obtain ⟨C2, ms⟩ := q
      rw [hc2] at hok
      have e : C2 = C := of_decide_eq_true hok
      subst e
      obtain ⟨p2, dy, ys, rfl, hp2⟩ := clsOf_spec rp2 rv2 hc2
      obtain rfl : u2 = Value.ref p2 := ry
      obtain ⟨mB, J', _⟩ := ins_get I2.hok hp2
      obtain ⟨od', J', _⟩ := J'.look
      exact ⟨.ref (t.g.ca C2), J'.type, by simp [PySem.W.notFirst]⟩
    | none =>
      rw [hc2] at hok
      obtain ⟨T, hT⟩ := Option.isSome_iff_exists.mp hok
      have ty := ty_spec rp2 rv2 hT
      rw [← c.hK] at ty
      obtain ⟨P, kx, hP, _⟩ := kit_of I2 ry ty
      refine ⟨_, kx.ty _ _ I2.kIn hP, ?_⟩
      unfold PySem.W.notFirst
      rw [c.hK, ik.nf T (ty_ic hT)]
      simp
  have back : ∀ (r : Value) (s3 : Shared), EP X pins σ (fun v H' => ∃ b : Bool, v = .bl b ∧ Q (.bl (b != neg)) H') r s3 → ∃ k, r = .bool k ∧ EP X pins σ Q (.bool (k != neg)) s3 := fun r s3 ⟨v, H3, I3, rv3, b, hv, q⟩ => by
    subst hv
    cases rv3
    exact ⟨b, rfl, .bl (b != neg), H3, I3, rfl, q⟩
  cases neg with
  | false =>
    show wpAny _ _ (richCompare .Eq (.ref p) u2) _ _ _
    refine PySem.W.cmp_K (op := .Eq) (tb := tb) c.room.units0 hF I2.ok.mod.kin J hL hN (by rw [c.hK]; exact k2.at_) (by rw [c.hK]; exact k2.fn) (wpAny_mono (go rfl (c.room.mono (by omega))) (fun r s3 z => ?_) fun _ _ z => z)
    obtain ⟨k, rfl, q⟩ := back r s3 z
    rw [Bool.bne_false] at q
    exact q
  | true =>
    show wpAny _ _ (richCompare .NotEq (.ref p) u2) _ _ _
    refine MpN.rich_ne (tb := tb) hF I2.ok.mod.kin J hL hN (by rw [c.hK]; exact ik.ne) (by rw [c.hK]; exact k2.at_) (by rw [c.hK]; exact k2.fn) (by rw [c.hK]; exact ik.cm) ?_ (wpAny_mono (go rfl ?_) (fun r s3 z => ?_) fun _ _ z => z)
    · have := c.room.un
      omega
    · exact (c.room.mono (by omega : 2 * n + 1 + 1 ≤ 2 * n + 2)).in1
    · obtain ⟨k, rfl, q⟩ := back r s3 z
      refine ⟨k, rfl, ?_⟩
      rw [Bool.bne_true] at q
      exact q
/-! ### join -/
omit c in
theorem toStrs_spec {g : Gw} {G : Gh} {H : Hp} : ∀ {ws : List W} {ys : List String} {xs : List V}, toStrs ws = some ys → RVs g G H ws xs → xs = (ys.map Str.ofString).map V.str
  | [], ys, xs, e, r => by
    cases e
    have := r.length
    cases xs with
    | nil => rfl
    | cons a b => cases this
  | w :: ws, ys, xs, e, r => by
    cases w <;> first | (cases e; done) | skip
    rename_i s
    cases hq : toStrs ws with
    | none => rw [show toStrs (.str s :: ws) = (toStrs ws).map (s :: ·) from rfl, hq] at e; cases e
    | some zs =>
      rw [show toStrs (.str s :: ws) = (toStrs ws).map (s :: ·) from rfl, hq] at e
      cases e
      cases xs with
      | nil => have := r.length; cases this
      | cons x xs =>
        obtain ⟨_, _, e, r1, r2⟩ := r
        cases e
        rw [toStrs_spec hq r2, r1.str_eq]
        rfl
omit c in
theorem join_str0 (a : String) : ∀ ys : List String, Str.ofString (joinS a ys) = PySem.Str.join (Str.ofString a) (ys.map Str.ofString)
  | [] => rfl
  | [x] => rfl
  | x :: y :: r => by
    show Str.ofString (x ++ a ++ joinS a (y :: r)) = _
    rw [str_app, str_app, join_str0 a (y :: r)]
    rfl
omit c in
theorem join_str (a : String) (ys : List String) : Str.ofString (joinS a ys) = Txt.join (Str.ofString a) (ys.map Str.ofString) := by
  rw [join_str0]
  exact (StrLaws.glued_eq_join _ _).symm
theorem snd_sjoin {a b : E} {x z : Expr} {y : Str} {apos cpos : Pos} (h1 : seq y "join" = true) (hb : ncall0 x = true) (hl : (apos.endLine == cpos.line) = true) (hz : nst z = true) (ha : PE X x (tE t cl Wx a)) (he : PE X z (tE t cl Wx b)) :
    PE X (.Call (.Attribute x y apos) [z] [] cpos) (tE t cl Wx (.sjoin a b)) := by
  have e := seq_eq h1
  subst e
  refine pe_imp (pe_join ha he (star_cons hz) (attr_base hb) hl) fun σ H Q ⟨G, ls, lh, re, rp, h⟩ => ?_
  simp only [evE] at h
  refine ⟨G, ls, lh, re, rp, h.bind fun w l1 G1 H1 v _ e1 rp1 rv h1 => ?_⟩
  split at h1
  case h_2 => exact h1.elim
  refine ⟨⟨_, rv.str_eq⟩, G1, ls, l1, re.mono e1.toMono, rp1, h1.bind fun w2 l2 G2 H2 v2 _ e2 rp2 rv2 h2 => ?_⟩
  split at h2
  case h_2 => exact h2.elim
  rename_i ys hys
  split at h2
  case isFalse => exact h2.elim
  rename_i hlen
  obtain ⟨us, hu, ht⟩ := Option.bind_eq_some_iff.mp hys
  obtain ⟨p, xs, rfl, hsq, rs⟩ := seqOf_spec rp2 rv2 hu
  have ex := toStrs_spec ht rs
  subst ex
  refine ⟨_, p, ys.map Str.ofString, rv.str_eq, rfl, ?_, ?_, ?_⟩
  · rw [c.hK]
    rcases hsq with ⟨_, q⟩ | ⟨_, q⟩
    · exact .inl q
    · exact .inr q
  · rw [List.map_map, List.length_map, str_len]
    have : (ys.map (Str.length ∘ Str.ofString)) = ys.map String.length := List.map_congr_left fun s _ => str_len s
    have e3 : (ys.map ((fun x : Str => x.length) ∘ Str.ofString)) = ys.map String.length := List.map_congr_left fun s _ => str_len s
    rw [e3]
    exact hlen
  · rw [← join_str]
    exact h2.here rp2 rv_str
end
end Mp
namespace Mp
open PySem PySem.Spec PyProof.Rows L2
theorem chkA_nst {ar : Ar} {N : List Str} {fn : Str → Bool} {sc : Scope} : ∀ {e : E} {xs : List Expr}, chkA ar N e fn sc xs = true → xs.all nst = true
  | .nil, [], _ => rfl
  | .cons e es, x :: xs, h => by
    simp only [chkA] at h
    rw [List.all_cons, (ba h).1, chkA_nst (ba (ba h).2).2]; rfl
  | .nil, _ :: _, h => by simp [chkA] at h
  | .cons _ _, [], h => by simp [chkA] at h
structure Snd (t : Tp) (cl : Cl) (n : Nat) (ar : Ar) (N : List Str) (e : E) : Prop where
  pe : ∀ {X : Cx} {Wx : WX} {fn : Str → Bool} {sc : Scope} {x : Expr}, Cok t X Wx n N fn sc → chkE ar N e fn sc x = true → PE X x (tE t cl Wx e)
  px : ∀ {X : Cx} {Wx : WX} {fn : Str → Bool} {sc : Scope} {x : Expr}, Cok t X Wx n N fn sc → chkX ar N e fn sc x = true → PE X x (tE t cl Wx e)
  pa : ∀ {X : Cx} {Wx : WX} {fn : Str → Bool} {sc : Scope} {xs : List Expr}, Cok t X Wx n N fn sc → chkA ar N e fn sc xs = true → PA X xs (tA t cl Wx e)
  pt : ∀ {X : Cx} {Wx : WX} {fn : Str → Bool} {sc : Scope} {x : Expr}, Cok t X Wx n N fn sc → chkT ar N e fn sc x = true → PT X x (tT t cl Wx e)
  pw : ∀ {X : Cx} {Wx : WX} {fn : Str → Bool} {sc : Scope} {op : BoolOp} {xs : List Expr} {pos : Pos}, Cok t X Wx n N fn sc → chkT ar N e fn sc (.BoolOp op xs pos) = true → PW X (.BoolOp op xs pos) (tT t cl Wx e)
  pd : ∀ {X : Cx} {Wx : WX} {fn : Str → Bool} {sc : Scope} {keys : List (Option Expr)} {values : List Expr} {pos : Pos}, Cok t X Wx n N fn sc → chkD ar N e fn sc keys values = true → PDs t cl X pos keys values e
  pi : ∀ {X : Cx} {Wx : WX} {fn : Str → Bool} {sc : Scope} {tg x : Expr}, Cok t X Wx n N fn sc → chkI ar N e fn sc tg x = true → PI X tg x (tI t cl Wx e)
/-- the parts of a comprehension -/
structure LcP (t : Tp) (cl : Cl) (X : Cx) (Wx : WX) (elt tg iter : Expr) (ifs : List Expr) (scope : Scope) (it e q : E) (g : Tg) (own : List (Str × Nat)) : Prop where
  hi : PI X tg iter (tI t cl Wx it)
  ok : BlkOk X.N X.env.scope scope own
  hg : ∀ (s : Shared) (H : Hp) (C : Addr) (cl : List (Str × Addr)) (fp : List Addr), PG (X.blk s H scope (compEnvC scope cl C X.env) fp) tg (gT t.g.K g)
  ht : ∀ (s : Shared) (H : Hp) (C : Addr) (cl' : List (Str × Addr)) (fp : List Addr), PTs (X.blk s H scope (compEnvC scope cl' C X.env) fp) ifs (tT t cl W0 q)
  he : ∀ (s : Shared) (H : Hp) (C : Addr) (cl' : List (Str × Addr)) (fp : List Addr), PE (X.blk s H scope (compEnvC scope cl' C X.env) fp) elt (tE t cl W0 e)
theorem ownP_snd {N : List Str} : ∀ own : List Nat, (ownP N own).map (·.2) = own
  | [] => rfl
  | i :: is => congrArg (i :: ·) (ownP_snd is)
theorem pts_imp {X : Cx} {e : List Expr} {t t' : TT} (h : PTs X e t) (i : ∀ σ H Q, t' σ H Q → t σ H Q) : PTs X e t' := ⟨fun pins s σ H Q I q => h.run pins s σ H Q I (i σ H Q q)⟩
section
variable {t : Tp} {cl : Cl} {n : Nat} {ar : Ar} {N : List Str} {X : Cx} {Wx : WX} {fn : Str → Bool} {sc : Scope}
theorem lc_parts {e it q : E} {g : Tg} {own : List Nat} {elt iter tg : Expr} {ifs : List Expr} {scope : Scope} (c : Cok t X Wx n N fn sc) (h : (nset iter && (chkI ar N it fn sc tg iter && (blkC N sc scope (ownP N own) && (tgIn own g && (chkTg N (blkFn scope) (relS scope sc) g tg && (chkE ar N e (blkFn scope) (relS scope sc) elt &&
        (match ifs with
        | [] => isT q
        | [x] => chkT ar N q (blkFn scope) (relS scope sc) x
        | _ => false))))))) = true)
    (Se : Snd t cl n ar N e) (Si : Snd t cl n ar N it) (Sq : Snd t cl n ar N q) : LcP t cl X Wx elt tg iter ifs scope it e q g (ownP N own) ∧ nset iter = true ∧ tgIn own g = true := by
  obtain ⟨h1, k1⟩ := ba h
  obtain ⟨h2, k2⟩ := ba k1
  obtain ⟨h3, k3⟩ := ba k2
  obtain ⟨h4, k4⟩ := ba k3
  obtain ⟨h5, k5⟩ := ba k4
  obtain ⟨h6, h⟩ := ba k5
  have ok := blkOk_by h3
  refine ⟨⟨Si.pi c h2, by rw [c.hN, c.hsc]; exact ok, fun s H C cl' fp => ?_, fun s H C cl' fp => ?_, fun s H C cl' fp => Se.pe (c.blk ok s H C cl' fp) h6⟩, h1, h4⟩
  · have := pg_tg (c.blk ok s H C cl' fp) h5
    rw [← c.hK]
    exact this
  · split at h
    · unfold isT at h
      split at h
      · refine pts_imp pts_nil fun σ H' Q ⟨G, ls, lh, re, rp, hh⟩ => ?_
        simp only [evE] at hh
        exact PostG.here (rel := relT) hh rp rfl
      · cases h
    · exact pts_one (Sq.pt (c.blk ok s H C cl' fp) h)
    · cases h
theorem snd_comp {m : Bool} {e it q : E} {g : Tg} {own : List Nat} {elt iter tg : Expr} {ifs : List Expr} {scope : Scope} {pos : Pos} (c : Cok t X Wx n N fn sc) (h : (nset iter && (chkI ar N it fn sc tg iter && (blkC N sc scope (ownP N own) && (tgIn own g && (chkTg N (blkFn scope) (relS scope sc) g tg && (chkE ar N e (blkFn scope) (relS scope sc) elt &&
        (match ifs with
        | [] => isT q
        | [x] => chkT ar N q (blkFn scope) (relS scope sc) x
        | _ => false))))))) = true)
    (Se : Snd t cl n ar N e) (Si : Snd t cl n ar N it) (Sq : Snd t cl n ar N q) : PE X (.ListComp elt [⟨tg, iter, ifs, .ofNat 0⟩] scope pos) (tE t cl Wx (.comp m e g it q own)) := by
  obtain ⟨P, h1, h2⟩ := lc_parts c h Se Si Sq
  refine pe_imp (pe_lc c.calm (by rw [c.hN]; exact c.nd) P.hi P.ok P.hg P.ht P.he (folded_n h1)) fun σ H Q hh => ?_
  rw [ownP_snd]
  exact lc_imp h2 hh
theorem pts_q {q : E} {ifs : List Expr} {X : Cx} (c : Cok t X W0 n N fn sc) (Sq : Snd t cl n ar N q) (h : (match ifs with
        | [] => isT q
        | [x] => chkT ar N q fn sc x
        | _ => false) = true) : PTs X ifs (tT t cl W0 q) := by
  split at h
  · unfold isT at h
    split at h
    · refine pts_imp pts_nil fun σ H' Q ⟨G, ls, lh, re, rp, hh⟩ => ?_
      simp only [evE] at hh
      exact PostG.here (rel := relT) hh rp rfl
    · cases h
  · exact pts_one (Sq.pt c h)
  · cases h
theorem snd_comp2 {m : Bool} {e it q it1 q1 : E} {g g1 : Tg} {own own1 : List Nat} {elt iter tg iter1 tg1 : Expr} {ifs ifs1 : List Expr} {scope : Scope} {pos : Pos} (c : Cok t X Wx n N fn sc)
    (h : ((nset iter && (nset iter1 && (chkI ar N it fn sc tg iter && (blkC N sc scope (ownP N own) && (tgIn own g && (chkTg N (blkFn scope) (relS scope sc) g tg &&
        (own1.all own.contains && (tgIn own1 g1 && (chkTg N (blkFn scope) (relS scope sc) g1 tg1 && (chkI ar N it1 (blkFn scope) (relS scope sc) tg1 iter1 && chkE ar N e (blkFn scope) (relS scope sc) elt)))))))))) &&
      ((match ifs with
        | [] => isT q
        | [x] => chkT ar N q (blkFn scope) (relS scope sc) x
        | _ => false) && (match ifs1 with
        | [] => isT q1
        | [x] => chkT ar N q1 (blkFn scope) (relS scope sc) x
        | _ => false))) = true)
    (Se : Snd t cl n ar N e) (Si : Snd t cl n ar N it) (Sq : Snd t cl n ar N q) (Si1 : Snd t cl n ar N it1) (Sq1 : Snd t cl n ar N q1) :
    PE X (.ListComp elt [⟨tg, iter, ifs, .ofNat 0⟩, ⟨tg1, iter1, ifs1, .ofNat 0⟩] scope pos) (tE t cl Wx (.comp2 m e g it q g1 it1 q1 own own1)) := by
  obtain ⟨h, hq⟩ := ba h
  obtain ⟨hq, hq1⟩ := ba hq
  obtain ⟨h1, h⟩ := ba h
  obtain ⟨h2, h⟩ := ba h
  obtain ⟨h3, h⟩ := ba h
  obtain ⟨h4, h⟩ := ba h
  obtain ⟨h5, h⟩ := ba h
  obtain ⟨h6, h⟩ := ba h
  obtain ⟨h7, h⟩ := ba h
  obtain ⟨h8, h⟩ := ba h
  obtain ⟨h9, h⟩ := ba h
  obtain ⟨h10, h11⟩ := ba h
  have ok := blkOk_by h4
  refine pe_imp (pe_lc2 (g := gT t.g.K g) (g1 := gT t.g.K g1) (vs1 := own1) c.calm (by rw [c.hN]; exact c.nd) (Si.pi c h3) (by rw [c.hN, c.hsc]; exact ok) (fun i hi => ?_) (fun s H C cl' fp => ?_) (fun s H C cl' fp => pts_q (c.blk ok s H C cl' fp) Sq hq) (fun s H C cl' fp => Si1.pi (c.blk ok s H C cl' fp) h10)
    (fun s H C cl' fp => ?_) (fun s H C cl' fp => pts_q (c.blk ok s H C cl' fp) Sq1 hq1) (fun s H C cl' fp => Se.pe (c.blk ok s H C cl' fp) h11) (folded_n h1) (fun env x => folded_n h2 x)) fun σ H Q hh => ?_
  · rw [ownP_snd]
    have := List.all_eq_true.mp h7 i hi
    simpa using this
  · have := pg_tg (c.blk ok s H C cl' fp) h6
    rw [c.hK] at this
    exact this
  · have := pg_tg (c.blk ok s H C cl' fp) h9
    rw [c.hK] at this
    exact this
  · rw [ownP_snd]
    exact lc2_imp h5 h8 hh
theorem pe_x {a : E} {x : Expr} (h : PE X x (tE t cl Wx a)) : PE X x (tE t cl Wx (.x a)) := pe_imp h fun σ H Q ⟨G, ls, lh, re, rp, hh⟩ => ⟨G, ls, lh, re, rp, by simpa only [evE] using hh⟩
theorem tE_tE {a : E} {σ : Sst} {H : Hp} {Q : VK} (h : tE t cl Wx a σ H Q) : tE t cl Wx a σ H Q := h
/-- THE EXPRESSIONS -/
theorem snd_all (o : t.Ok) (F : Fns t ar cl n) : ∀ (k : Nat) (e : E), sizeOf e < k → Snd t cl n ar N e
  | 0, e, hk => by omega
  | k + 1, e, hk => by
    have ih : ∀ a : E, sizeOf a < k → Snd t cl n ar N a := fun a ha => snd_all o F k a ha
    refine ⟨fun {X Wx fn sc x} c h => ?_, fun {X Wx fn sc x} c h => ?_, fun {X Wx fn sc xs} c h => ?_, fun {X Wx fn sc x} c h => ?_, fun {X Wx fn sc op xs pos} c h => ?_, fun {X Wx fn sc keys values pos} c h => ?_, fun {X Wx fn sc tg x} c h => ?_⟩
    · unfold chkE at h
      split at h
      all_goals first | (cases h; done) | skip
      case h_1 => exact snd_var c (ba h).1 (ba (ba h).2).1 (ba (ba h).2).2
      case h_2 => exact snd_cst h
      case h_3 => exact snd_glo c o (ba h).1 (ba (ba h).2).1 (ba (ba h).2).2
      case h_4 => exact snd_tup ((ih _ (by simp at hk; omega)).pa c (ba h).2) (ba h).2 (of_decide_eq_true (ba h).1)
      case h_5 => exact snd_lst ((ih _ (by simp at hk; omega)).pa c (ba h).2) (ba h).2 (of_decide_eq_true (ba h).1)
      case h_6 => exact snd_lstm ((ih _ (by simp at hk; omega)).pa c (ba h).2) (ba h).2 (of_decide_eq_true (ba h).1)
      case h_7 =>
        obtain ⟨a1, a2⟩ := ba h
        obtain ⟨a3, a4⟩ := ba a2
        have z := of_decide_eq_true a1
        rw [z]
        exact snd_binE c ((ih _ (by simp at hk; omega)).pe c a3) ((ih _ (by simp at hk; omega)).pe c a4)
      case h_8 =>
        obtain ⟨a1, a2⟩ := ba h
        have z := of_decide_eq_true a1
        rw [z]
        exact snd_unE ((ih _ (by simp at hk; omega)).pe c a2)
      case h_9 =>
        obtain ⟨a1, a2⟩ := ba h
        obtain ⟨a3, a4⟩ := ba a2
        obtain ⟨a5, a6⟩ := ba a4
        have z := of_decide_eq_true a1
        rw [z]
        rw [z] at a3
        exact snd_cmpE c (by simpa using a3) ((ih _ (by simp at hk; omega)).pe c a5) ((ih _ (by simp at hk; omega)).pe c a6)
      case h_10 =>
        obtain ⟨a1, a2⟩ := ba h
        obtain ⟨a3, a4⟩ := ba a2
        obtain ⟨a5, a6⟩ := ba a4
        obtain ⟨a7, a8⟩ := ba a6
        obtain ⟨a9, a10⟩ := ba a8
        have z := of_decide_eq_true a1
        have z2 := of_decide_eq_true a3
        rw [z, z2]
        rw [z, z2] at a5
        exact snd_cmp2E c (by simpa using a5) ((ih _ (by simp at hk; omega)).pe c a7) ((ih _ (by simp at hk; omega)).pe c a9) ((ih _ (by simp at hk; omega)).pe c a10)
      case h_11 => exact snd_and ((ih _ (by simp at hk; omega)).pe c (ba h).1) (pe_one ((ih _ (by simp at hk; omega)).pe c (ba h).2))
      case h_12 => exact snd_and ((ih _ (by simp at hk; omega)).pe c (ba h).1) ((ih _ (by simp at hk; omega)).pe c (ba h).2)
      case h_13 => exact snd_or ((ih _ (by simp at hk; omega)).pe c (ba h).1) (pe_one ((ih _ (by simp at hk; omega)).pe c (ba h).2))
      case h_14 => exact snd_or ((ih _ (by simp at hk; omega)).pe c (ba h).1) ((ih _ (by simp at hk; omega)).pe c (ba h).2)
      case h_15 => exact snd_not c ((ih _ (by simp at hk; omega)).pe c h)
      case h_16 => exact snd_ite ((ih _ (by simp at hk; omega)).pt c (ba h).1) ((ih _ (by simp at hk; omega)).pe c (ba (ba h).2).1) ((ih _ (by simp at hk; omega)).pe c (ba (ba h).2).2)
      case h_17 =>
        obtain ⟨a1, a2⟩ := ba h
        obtain ⟨a3, a4⟩ := ba a2
        obtain ⟨a5, a6⟩ := ba a4
        obtain ⟨a7, a8⟩ := ba a6
        exact snd_call c o F a1 a3 a5 a7 (chkA_nst a8) a8 ((ih _ (by simp at hk; omega)).pa c a8)
      case h_18 =>
        obtain ⟨a1, a2⟩ := ba h
        obtain ⟨a3, a4⟩ := ba a2
        obtain ⟨a5, a6⟩ := ba a4
        exact snd_call0 c o F a1 a3 a5 a6
      case h_19 =>
        obtain ⟨a1, a2⟩ := ba h
        obtain ⟨a3, a4⟩ := ba a2
        obtain ⟨a5, a6⟩ := ba a4
        exact snd_bf c o a1 a3 a5 (chkA_nst a6) ((ih _ (by simp at hk; omega)).pa c a6)
      case h_20 =>
        obtain ⟨a1, a2⟩ := ba h
        obtain ⟨a3, a4⟩ := ba a2
        obtain ⟨a5, a6⟩ := ba a4
        obtain ⟨a7, a8⟩ := ba a6
        obtain ⟨a9, a10⟩ := ba a8
        obtain ⟨a11, a12⟩ := ba a10
        rcases Bool.eq_false_or_eq_true (tyB _) with hb | hb
        · exact snd_isi c o a1 a3 hb a7 a9 a11 ((ih _ (by simp at hk; omega)).pe c a12)
        · rw [hb] at a5
          exact snd_isic c o a1 a3 a7 a9 a5 a11 hb rfl ((ih _ (by simp at hk; omega)).pe c a12)
      case h_21 =>
        obtain ⟨a1, a2⟩ := ba h
        obtain ⟨a3, a4⟩ := ba a2
        obtain ⟨a5, a6⟩ := ba a4
        obtain ⟨a7, a8⟩ := ba a6
        obtain ⟨a9, a10⟩ := ba a8
        exact snd_isiT c o a1 a3 (of_decide_eq_true a5) a7 a9 ((ih _ (by simp at hk; omega)).pe c a10)
      case h_22 =>
        obtain ⟨a1, a2⟩ := ba h
        obtain ⟨a3, a4⟩ := ba a2
        obtain ⟨a5, a6⟩ := ba a4
        obtain ⟨a7, a8⟩ := ba a6
        obtain ⟨a9, a10⟩ := ba a8
        obtain ⟨a11, a12⟩ := ba a10
        exact snd_lm c (of_decide_eq_true a1) a3 a5 a7 (of_decide_eq_true a9) (chkA_nst a12) a12 ((ih _ (by simp at hk; omega)).pe c a11) ((ih _ (by simp at hk; omega)).pa c a12)
      case h_23 =>
        obtain ⟨a1, a2⟩ := ba h
        obtain ⟨a3, a4⟩ := ba a2
        obtain ⟨a5, a6⟩ := ba a4
        obtain ⟨a7, a8⟩ := ba a6
        obtain ⟨a9, a10⟩ := ba a8
        exact snd_meth c o F a1 a3 a5 (of_decide_eq_true a7) (chkA_nst a10) a10 ((ih _ (by simp at hk; omega)).pe c a9) ((ih _ (by simp at hk; omega)).pa c a10)
      case h_24 =>
        obtain ⟨a1, a2⟩ := ba h
        obtain ⟨a3, a4⟩ := ba a2
        obtain ⟨a5, a6⟩ := ba a4
        exact snd_meth0 c o F a1 a3 a5 ((ih _ (by simp at hk; omega)).pe c a6)
      case h_25 =>
        obtain ⟨a1, a2⟩ := ba h
        obtain ⟨a3, a4⟩ := ba a2
        obtain ⟨a5, a6⟩ := ba a4
        obtain ⟨a7, a8⟩ := ba a6
        exact snd_make c o F a7 a1 a3 a5 (chkA_nst a8) a8 ((ih _ (by simp at hk; omega)).pa c a8)
      case h_26 => exact snd_attr c o (ba h).1 (ba (ba h).2).1 ((ih _ (by simp at hk; omega)).pe c (ba (ba h).2).2)
      case h_27 => exact snd_idx c (ba h).1 ((ih _ (by simp at hk; omega)).pe c (ba (ba h).2).1) ((ih _ (by simp at hk; omega)).pe c (ba (ba h).2).2)
      case h_28 => exact snd_comp c h (ih _ (by simp at hk; omega)) (ih _ (by simp at hk; omega)) (ih _ (by simp at hk; omega))
      case h_29 =>
        obtain ⟨a1, a2⟩ := ba h
        obtain ⟨a3, a4⟩ := ba a2
        obtain ⟨a5, a6⟩ := ba a4
        obtain ⟨a7, a8⟩ := ba a6
        obtain ⟨a9, a10⟩ := ba a8
        exact snd_lrng c a1 a3 a5 a7 a9 o ((ih _ (by simp at hk; omega)).pe c a10)
      case h_30 => exact snd_frz c ((ih _ (by simp at hk; omega)).pe c h)
      case h_31 => exact ⟨fun pins s σ H Q I ⟨G, ls, lh, re, rp, h⟩ => by simp only [evE] at h; exact h.elim⟩
      case h_32 =>
        obtain ⟨a1, a2⟩ := ba h
        obtain ⟨a3, a4⟩ := ba a2
        refine snd_slE c ((ih _ (by simp at hk; omega)).pe c a1) ?_ ?_
        · split at a3
          · exact snd_po0 a3
          · exact snd_po1 (by simpa using (ba a3).1) ((ih _ (by simp at hk; omega)).pe c (ba a3).2)
        · split at a4
          · exact snd_po0 a4
          · exact snd_po1 (by simpa using (ba a4).1) ((ih _ (by simp at hk; omega)).pe c (ba a4).2)
      case h_33 => exact pe_x ((ih _ (by simp at hk; omega)).px c h)
      case h_34 =>
        obtain ⟨a1, a2⟩ := ba h
        obtain ⟨a3, a4⟩ := ba a2
        obtain ⟨a5, a6⟩ := ba a4
        exact snd_make0 c o F a6 a1 a3 a5
      case h_35 => exact snd_prop c o F (ba h).1 (ba (ba h).2).1 ((ih _ (by simp at hk; omega)).pe c (ba (ba h).2).2)
      case h_36 => exact snd_dnew
      case h_37 => exact snd_dlit (of_decide_eq_true (ba h).1) ((ih _ (by simp at hk; omega)).pd c (ba h).2)
      case h_38 => exact snd_didx c (ba h).1 ((ih _ (by simp at hk; omega)).pe c (ba (ba h).2).1) ((ih _ (by simp at hk; omega)).pe c (ba (ba h).2).2)
      case h_39 =>
        obtain ⟨a1, a2⟩ := ba h
        obtain ⟨a3, a4⟩ := ba a2
        have z := of_decide_eq_true a1
        rw [z]
        rw [z] at a3
        exact pe_cmp (pc_dhas c ((ih _ (by simp at hk; omega)).pe c (ba a4).1) ((ih _ (by simp at hk; omega)).pe c (ba a4).2)) (by simpa using a3)
      case h_40 =>
        obtain ⟨a1, a2⟩ := ba h
        obtain ⟨a3, a4⟩ := ba a2
        obtain ⟨a5, a6⟩ := ba a4
        obtain ⟨a7, a8⟩ := ba a6
        rw [seq_eq a1]
        exact snd_dget1 c a3 a5 a7 ((ih _ (by simp at hk; omega)).pe c (ba a8).1) ((ih _ (by simp at hk; omega)).pe c (ba a8).2)
      case h_41 =>
        obtain ⟨a1, a2⟩ := ba h
        obtain ⟨a3, a4⟩ := ba a2
        obtain ⟨a5, a6⟩ := ba a4
        obtain ⟨a7, a8⟩ := ba a6
        obtain ⟨a9, a10⟩ := ba a8
        obtain ⟨a11, a12⟩ := ba a10
        rw [seq_eq a1]
        exact snd_dget2 c a3 a5 a7 a9 ((ih _ (by simp at hk; omega)).pe c a11) ((ih _ (by simp at hk; omega)).pe c (ba a12).1) ((ih _ (by simp at hk; omega)).pe c (ba a12).2)
      case h_42 =>
        obtain ⟨a1, a2⟩ := ba h
        obtain ⟨a3, a4⟩ := ba a2
        obtain ⟨a5, a6⟩ := ba a4
        obtain ⟨a7, a8⟩ := ba a6
        exact snd_dkeys c o a1 a3 a5 a7 (ba a8).1 ((ih _ (by simp at hk; omega)).pe c (ba a8).2)
      case h_43 =>
        obtain ⟨a1, a2⟩ := ba h
        obtain ⟨a3, a4⟩ := ba a2
        have z := of_decide_eq_true a1
        rw [z]
        rw [z] at a3
        exact pe_cmp (pc_ohas c o F ((ih _ (by simp at hk; omega)).pe c (ba a4).1) ((ih _ (by simp at hk; omega)).pe c (ba a4).2)) (by simpa using a3)
      case h_44 =>
        obtain ⟨a1, a2⟩ := ba h
        obtain ⟨a3, a4⟩ := ba a2
        obtain ⟨a5, a6⟩ := ba a4
        obtain ⟨a7, a8⟩ := ba a6
        exact snd_sset c o a1 a3 a5 a7 (ba a8).1 ((ih _ (by simp at hk; omega)).pe c (ba a8).2)
      case h_45 =>
        obtain ⟨a1, a2⟩ := ba h
        obtain ⟨a3, a4⟩ := ba a2
        obtain ⟨a5, a6⟩ := ba a4
        obtain ⟨a7, a8⟩ := ba a6
        exact snd_lset c o a1 a3 a5 a7 (ba a8).1 ((ih _ (by simp at hk; omega)).pe c (ba a8).2)
      case h_46 =>
        obtain ⟨a1, a2⟩ := ba h
        obtain ⟨a3, a4⟩ := ba a2
        obtain ⟨a5, a6⟩ := ba a4
        obtain ⟨a7, a8⟩ := ba a6
        have z := of_decide_eq_true a1
        rw [z]
        rw [z] at a3
        exact snd_kin c o (by simpa using a3) a5 a7 (ba a8).1 ((ih _ (by simp at hk; omega)).pe c (ba a8).2)
      case h_47 =>
        obtain ⟨a1, a2⟩ := ba h
        obtain ⟨a3, a4⟩ := ba a2
        obtain ⟨a5, a6⟩ := ba a4
        exact snd_kix c o a1 a3 a5 (ba a6).1 ((ih _ (by simp at hk; omega)).pe c (ba a6).2)
      case h_48 =>
        obtain ⟨a1, a2⟩ := ba h
        obtain ⟨a3, a4⟩ := ba a2
        exact snd_pop c a1 a3 (ba a4).1 ((ih _ (by simp at hk; omega)).pe c (ba a4).2)
      case h_49 =>
        obtain ⟨a1, a2⟩ := ba h
        obtain ⟨a3, a4⟩ := ba a2
        obtain ⟨a5, a6⟩ := ba a4
        obtain ⟨a7, a8⟩ := ba a6
        exact snd_lidx c a1 a3 a5 a7 ((ih _ (by simp at hk; omega)).pe c (ba a8).1) ((ih _ (by simp at hk; omega)).pe c (ba a8).2)
    · unfold chkX at h
      split at h
      all_goals first | (cases h; done) | skip
      case h_1 => exact snd_frzd c ((ih _ (by simp at hk; omega)).pe c h)
      case h_2 => exact snd_comp2 c h (ih _ (by simp at hk; omega)) (ih _ (by simp at hk; omega)) (ih _ (by simp at hk; omega)) (ih _ (by simp at hk; omega)) (ih _ (by simp at hk; omega))
      case h_3 =>
        obtain ⟨a1, a2⟩ := ba h
        obtain ⟨a3, a4⟩ := ba a2
        obtain ⟨a5, a6⟩ := ba a4
        obtain ⟨a7, a8⟩ := ba a6
        exact snd_sfind c a1 a3 a5 a7 ((ih _ (by simp at hk; omega)).pe c (ba a8).1) ((ih _ (by simp at hk; omega)).pe c (ba a8).2)
      case h_4 =>
        obtain ⟨a1, a2⟩ := ba h
        obtain ⟨a3, a4⟩ := ba a2
        have z := of_decide_eq_true a1
        rw [z]
        rw [z] at a3
        exact pe_cmp (pc_oeq c o F ((ih _ (by simp at hk; omega)).pe c (ba a4).1) ((ih _ (by simp at hk; omega)).pe c (ba a4).2)) (by simpa using a3)
      case h_5 =>
        obtain ⟨a1, a2⟩ := ba h
        obtain ⟨a3, a4⟩ := ba a2
        have z := of_decide_eq_true a1
        subst z
        exact pe_cmp (pc_oeqx c o F ((ih _ (by simp at hk; omega)).pe c (ba a4).1) ((ih _ (by simp at hk; omega)).pe c (ba a4).2)) (by simpa using a3)
      case h_6 =>
        obtain ⟨a1, a2⟩ := ba h
        obtain ⟨a3, a4⟩ := ba a2
        obtain ⟨a5, a6⟩ := ba a4
        obtain ⟨a7, a8⟩ := ba a6
        exact snd_sjoin c a1 a3 a5 a7 ((ih _ (by simp at hk; omega)).pe c (ba a8).1) ((ih _ (by simp at hk; omega)).pe c (ba a8).2)
      case h_7 =>
        obtain ⟨a1, h⟩ := ba h
        obtain ⟨a2, h⟩ := ba h
        obtain ⟨a3, h⟩ := ba h
        obtain ⟨a4, h⟩ := ba h
        obtain ⟨a5, h⟩ := ba h
        obtain ⟨a6, h⟩ := ba h
        exact snd_lrng2 c o a1 a2 a3 a4 a5 a6 ((ih _ (by simp at hk; omega)).pe c (ba h).1) ((ih _ (by simp at hk; omega)).pe c (ba h).2)
      case h_8 =>
        obtain ⟨a1, a2⟩ := ba h
        obtain ⟨a3, a4⟩ := ba a2
        obtain ⟨a5, a6⟩ := ba a4
        exact snd_olen c o F a1 a3 a5 (ba a6).1 ((ih _ (by simp at hk; omega)).pe c (ba a6).2)
    · unfold chkA at h
      split at h
      all_goals first | (cases h; done) | skip
      · exact snd_nil
      · obtain ⟨a1, h⟩ := ba h
        exact snd_cons a1 ((ih _ (by simp at hk; omega)).pe c (ba h).1) ((ih _ (by simp at hk; omega)).pa c (ba h).2)
    · unfold chkT at h
      split at h
      all_goals first | (cases h; done) | skip
      case h_1 =>
        obtain ⟨a1, a2⟩ := ba h
        obtain ⟨a3, a4⟩ := ba a2
        obtain ⟨a5, a6⟩ := ba a4
        have z := of_decide_eq_true a1
        rw [z]
        rw [z] at a3
        exact snd_cmpT c (by simpa using a3) ((ih _ (by simp at hk; omega)).pe c a5) ((ih _ (by simp at hk; omega)).pe c a6)
      case h_2 =>
        obtain ⟨a1, a2⟩ := ba h
        obtain ⟨a3, a4⟩ := ba a2
        obtain ⟨a5, a6⟩ := ba a4
        obtain ⟨a7, a8⟩ := ba a6
        obtain ⟨a9, a10⟩ := ba a8
        have z := of_decide_eq_true a1
        have z2 := of_decide_eq_true a3
        rw [z, z2]
        rw [z, z2] at a5
        exact snd_cmp2T c (by simpa using a5) ((ih _ (by simp at hk; omega)).pe c a7) ((ih _ (by simp at hk; omega)).pe c a9) ((ih _ (by simp at hk; omega)).pe c a10)
      case h_3 =>
        obtain ⟨a1, a2⟩ := ba h
        obtain ⟨a3, a4⟩ := ba a2
        have z := of_decide_eq_true a1
        rw [z]
        rw [z] at a3
        exact pt_ofC (by simpa using a3) (pc_dhas c ((ih _ (by simp at hk; omega)).pe c (ba a4).1) ((ih _ (by simp at hk; omega)).pe c (ba a4).2)) fun _ _ _ _ e => dhas_bl e
      case h_4 =>
        obtain ⟨a1, a2⟩ := ba h
        obtain ⟨a3, a4⟩ := ba a2
        have z := of_decide_eq_true a1
        rw [z]
        rw [z] at a3
        exact pt_ofC (by simpa using a3) (pc_ohas c o F ((ih _ (by simp at hk; omega)).pe c (ba a4).1) ((ih _ (by simp at hk; omega)).pe c (ba a4).2)) fun _ _ _ _ e => ohas_bl e
      case h_5 =>
        obtain ⟨a1, a2⟩ := ba h
        obtain ⟨a3, a4⟩ := ba a2
        obtain ⟨a5, a6⟩ := ba a4
        obtain ⟨a7, a8⟩ := ba a6
        have z := of_decide_eq_true a1
        rw [z]
        rw [z] at a3
        exact snd_kinT c o (by simpa using a3) a5 a7 (ba a8).1 ((ih _ (by simp at hk; omega)).pe c (ba a8).2)
      case h_6 =>
        obtain ⟨a1, a2⟩ := ba h
        obtain ⟨a3, a4⟩ := ba a2
        have z := of_decide_eq_true a1
        rw [z]
        rw [z] at a3
        exact pt_ofC (by simpa using a3) (pc_oeq c o F ((ih _ (by simp at hk; omega)).pe c (ba a4).1) ((ih _ (by simp at hk; omega)).pe c (ba a4).2)) fun _ _ _ _ e => oeq_bl e
      case h_7 => exact snd_tE c (ba h).1 ((ih _ (by simp at hk; omega)).pe c (ba h).2)
      case h_8 => exact (snd_tand ((ih _ (by simp at hk; omega)).pt c (ba h).1) (pw_and1 ((ih _ (by simp at hk; omega)).pt c (ba h).2))).pt
      case h_9 => exact (snd_tand ((ih _ (by simp at hk; omega)).pt c (ba h).1) ((ih _ (by simp at hk; omega)).pw c (ba h).2)).pt
      case h_10 => exact (snd_tor ((ih _ (by simp at hk; omega)).pt c (ba h).1) (pw_or1 ((ih _ (by simp at hk; omega)).pt c (ba h).2))).pt
      case h_11 => exact (snd_tor ((ih _ (by simp at hk; omega)).pt c (ba h).1) ((ih _ (by simp at hk; omega)).pw c (ba h).2)).pt
      case h_12 => exact snd_tnot ((ih _ (by simp at hk; omega)).pt c h)
    · generalize hx : Expr.BoolOp op xs pos = x at h ⊢
      unfold chkT at h
      split at h
      all_goals first | (cases h; done) | (cases hx; done) | skip
      case h_7 =>
        subst hx
        exact Bool.noConfusion (ba h).1
      case h_8 => exact snd_tand ((ih _ (by simp at hk; omega)).pt c (ba h).1) (pw_and1 ((ih _ (by simp at hk; omega)).pt c (ba h).2))
      case h_9 => exact snd_tand ((ih _ (by simp at hk; omega)).pt c (ba h).1) ((ih _ (by simp at hk; omega)).pw c (ba h).2)
      case h_10 => exact snd_tor ((ih _ (by simp at hk; omega)).pt c (ba h).1) (pw_or1 ((ih _ (by simp at hk; omega)).pt c (ba h).2))
      case h_11 => exact snd_tor ((ih _ (by simp at hk; omega)).pt c (ba h).1) ((ih _ (by simp at hk; omega)).pw c (ba h).2)
    · unfold chkD at h
      split at h
      all_goals first | (cases h; done) | skip
      · exact pds_nil
      · exact pds_cons ((ih _ (by simp at hk; omega)).pe c (ba h).1) ((ih _ (by simp at hk; omega)).pe c (ba (ba h).2).1) ((ih _ (by simp at hk; omega)).pd c (ba (ba h).2).2)
    · unfold chkI at h
      split at h
      all_goals first | (cases h; done) | skip
      case h_1 => exact snd_itv c ((ih _ (by simp at hk; omega)).pe c h)
      case h_2 =>
        obtain ⟨a1, a2⟩ := ba h
        obtain ⟨a3, a4⟩ := ba a2
        exact snd_rng1 c o a1 a3 (ba a4).1 ((ih _ (by simp at hk; omega)).pe c (ba a4).2)
      case h_3 =>
        obtain ⟨a1, a2⟩ := ba h
        obtain ⟨a3, a4⟩ := ba a2
        obtain ⟨a5, a6⟩ := ba a4
        obtain ⟨a7, a8⟩ := ba a6
        exact snd_rng2 c o a1 a3 a5 a7 ((ih _ (by simp at hk; omega)).pe c (ba a8).1) ((ih _ (by simp at hk; omega)).pe c (ba a8).2)
      case h_4 =>
        obtain ⟨a1, h⟩ := ba h
        obtain ⟨a2, h⟩ := ba h
        obtain ⟨a3, h⟩ := ba h
        obtain ⟨a4, h⟩ := ba h
        obtain ⟨a5, h⟩ := ba h
        obtain ⟨a6, h⟩ := ba h
        exact snd_rng3 c o a1 a2 a3 a4 a5 ((ih _ (by simp at hk; omega)).pe c a6) ((ih _ (by simp at hk; omega)).pe c (ba h).1) ((ih _ (by simp at hk; omega)).pe c (ba h).2)
      case h_5 =>
        obtain ⟨a1, a2⟩ := ba h
        obtain ⟨a3, a4⟩ := ba a2
        exact snd_enum c o a1 a3 (ba a4).1 ((ih _ (by simp at hk; omega)).pe c (ba a4).2)
      case h_6 =>
        obtain ⟨a1, a2⟩ := ba h
        obtain ⟨a3, a4⟩ := ba a2
        obtain ⟨a5, a6⟩ := ba a4
        obtain ⟨a7, a8⟩ := ba a6
        exact snd_zip c o a1 a3 a5 a7 ((ih _ (by simp at hk; omega)).pe c (ba a8).1) ((ih _ (by simp at hk; omega)).pe c (ba a8).2)
      case h_7 => exact snd_sitv c ((ih _ (by simp at hk; omega)).pe c h)
      case h_8 =>
        obtain ⟨a1, a2⟩ := ba h
        obtain ⟨a3, a4⟩ := ba a2
        exact snd_rev c o a1 a3 (ba a4).1 ((ih _ (by simp at hk; omega)).pe c (ba a4).2)
end
end Mp
namespace Mp
open PySem PySem.Spec PyProof.Rows L2
/-! ### statements -/
/-- a list comprehension is not stored straight -/
theorem sw_false {elt : Expr} {gs : List Comprehension} {scope : Scope} {pos py : Pos} {y : Str} {l : Nat} {env : PySem.Env} (hk : env.scope.kind = .function) (h : swB env.scope y py scope pos = false) : swapsWith (.ListComp elt gs scope pos) (some (.Name y py)) l env = pure false := by
  have hb : env.blockKind = .function := by unfold Env.blockKind; rw [hk]; rfl
  unfold swapsWith
  simp only [hb, Expr.pos]
  have e : (env.kindOf y == some NameKind.local) = decide (env.scope.names.lookup y = some .local) := by
    show (env.scope.names.lookup y == some NameKind.local) = _
    cases hq : env.scope.names.lookup y with
    | none => rfl
    | some k => cases k <;> rfl
  unfold swB at h
  rw [e]
  show pure ((true && decide (env.scope.names.lookup y = some .local) && (py.line == pos.line)) && !(scope.names.any fun (n, k) => n == y && (k == .local || k == .cell))) = pure false
  congr 1
  rw [Bool.true_and, Bool.and_assoc]
  exact h
theorem fm_lt {α β : Type} {f : α → Option β} : ∀ {l : List α}, (∃ a ∈ l, f a = none) → (l.filterMap f).length < l.length
  | [], h => by obtain ⟨a, h, _⟩ := h; cases h
  | a :: l, h => by
    rw [List.filterMap_cons]
    cases e : f a with
    | none =>
      have := List.length_filterMap_le f l
      show (l.filterMap f).length < l.length + 1
      omega
    | some b =>
      obtain ⟨x, hx, ex⟩ := h
      rcases List.mem_cons.mp hx with rfl | hx
      · rw [e] at ex; cases ex
      · have := fm_lt (f := f) ⟨x, hx, ex⟩
        show (l.filterMap f).length + 1 < l.length + 1
        omega
theorem unp_sw {env : PySem.Env} {xs : List Expr} {v : Expr} {k : Nat} {p : Pos} (h : (ntup v || pnB env.scope xs) = true) : swappedStores [.Tuple xs k p] v env = pure none := by
  unfold swappedStores
  cases v
  case Tuple vs k2 p2 =>
    have hp : pnB env.scope xs = true := h
    unfold pnB at hp
    obtain ⟨a, ha, ea⟩ := List.any_eq_true.mp hp
    dsimp only
    split
    · rfl
    · split
      · rfl
      · rename_i h1 h2
        refine if_pos ?_
        rw [Bool.or_eq_true]
        refine .inl ?_
        rw [bne_iff_ne]
        refine Nat.ne_of_lt (fm_lt ⟨a, ha, ?_⟩)
        cases a <;> first | rfl | skip
        rename_i x px
        have hx : ¬ env.scope.names.lookup x = some .local := by simpa using ea
        have hk : (env.kindOf x == some NameKind.local) = false := by
          show (env.scope.names.lookup x == some NameKind.local) = false
          cases hq : env.scope.names.lookup x with
          | none => rfl
          | some k => cases k <;> first | rfl | exact absurd hq hx
        dsimp only
        rw [hk]
        rfl
  all_goals rfl
theorem swB_spec {sc : Scope} {y : Str} {py : Pos} {scope : Scope} {pos : Pos} (h : swB sc y py scope pos = true) : sc.names.lookup y = some .local ∧ (py.line == pos.line) = true ∧ (scope.names.any fun (n, k) => n == y && (k == .local || k == .cell)) = false := by
  unfold swB at h
  obtain ⟨h1, h2⟩ := ba h
  obtain ⟨h3, h4⟩ := ba h2
  exact ⟨of_decide_eq_true h1, h3, by simpa using h4⟩
section
variable {t : Tp} {cl : Cl} {n : Nat} {ar : Ar} {N : List Str} {X : Cx} {Wx : WX} {fn : Str → Bool} {sc : Scope} (c : Cok t X Wx n N fn sc) (o : t.Ok)
/-- a value is stored: what the statement's reading asks -/
theorem asg_imp {i : Nat} {e : E} {D : Ends} {σ : Sst} {H : Hp} (h0 : tS t cl Wx (.asg i e) D σ H) : tE t cl Wx e σ H fun x H1 => gName i x σ H1 D.nx := by
  obtain ⟨G, ls, lh, re, rp, h⟩ := h0
  simp only [evS] at h
  exact ⟨G, ls, lh, re, rp, PostS.toS re h fun w l1 G1 H1 v _ e1 rp1 rv h1 => h1 _ _ _ Ext.refl rp1 ((re.mono e1.toMono).set rv)⟩
include c
theorem snd_asg {i : Nat} {e : E} {x : Str} {v : Expr} {p pos : Pos} (h1 : slotOk N i x = true) (h2 : stOk fn sc x = true) (hn : ncomp v = true) (he : PE X v (tE t cl Wx e)) : PS X (.Assign [.Name x p] v pos) (tS t cl Wx (.asg i e)) :=
  ps_imp (ps_set (by rw [c.hN]; exact c.nd) (by rw [c.hN]; exact of_decide_eq_true h1) (by rw [c.hsc]; exact stOk_loc h2) he (swaps_n hn) (by rw [c.hfn, c.hsc]; exact stOk_fn h2)) fun D σ H h => asg_imp h
theorem snd_asgC {i : Nat} {m : Bool} {e it q : E} {g : Tg} {own : List Nat} {elt iter tg : Expr} {ifs : List Expr} {scope : Scope} {cpos p pos : Pos} {x : Str} (h1 : slotOk N i x = true) (h2 : stOk fn sc x = true)
    (P : LcP t cl X Wx elt tg iter ifs scope it e q g (ownP N own)) (hn : nset iter = true) (hg : tgIn own g = true) (he : PE X (.ListComp elt [⟨tg, iter, ifs, .ofNat 0⟩] scope cpos) (tE t cl Wx (.comp m e g it q own))) :
    PS X (.Assign [.Name x p] (.ListComp elt [⟨tg, iter, ifs, .ofNat 0⟩] scope cpos) pos) (tS t cl Wx (.asg i (.comp m e g it q own))) := by
  by_cases hs : swB sc x p scope cpos = true
  · obtain ⟨s1, s2, s3⟩ := swB_spec hs
    rw [← c.hsc] at s1
    refine ps_imp (ps_setLc (i := i) c.calm (by rw [c.hN]; exact c.nd) (by rw [c.hN]; exact of_decide_eq_true h1) s1 (sw_true (by rw [c.hsc]; exact c.hfun) s1 s2 s3) P.hi P.ok P.hg P.ht P.he (folded_n hn)) fun D σ H h => ?_
    rw [ownP_snd]
    exact lc_imp hg (asg_imp h)
  · have hs : swB sc x p scope cpos = false := by simpa using hs
    refine ps_imp (ps_set (by rw [c.hN]; exact c.nd) (by rw [c.hN]; exact of_decide_eq_true h1) (by rw [c.hsc]; exact stOk_loc h2) he (sw_false (by rw [c.hsc]; exact c.hfun) (by rw [c.hsc]; exact hs)) (by rw [c.hfn, c.hsc]; exact stOk_fn h2)) fun D σ H h => asg_imp h
theorem snd_unp {is : List Nat} {e : E} {xs : List Expr} {v : Expr} {k : Nat} {p pos : Pos} (h1 : chkNames N fn sc is xs = true) (hn : ncomp v = true) (ht : (ntup v || pnB sc xs) = true) (he : PE X v (tE t cl Wx e)) : PS X (.Assign [.Tuple xs k p] v pos) (tS t cl Wx (.unp is e)) := by
  have hg : PG X (.Tuple xs k p) (gT X.K (.many is)) := pg_tg c (tg := .many is) h1
  refine ps_imp (ps_asg he hg (by unfold swapsWithSole; exact swaps_n hn) ?_) fun D σ H ⟨G, ls, lh, re, rp, h⟩ => ?_
  · exact unp_sw (by rw [c.hsc]; exact ht)
  · simp only [evS] at h
    refine ⟨G, ls, lh, re, rp, PostS.toS re h fun w l1 G1 H1 v _ e1 rp1 rv h1 => ?_⟩
    split at h1
    · rename_i ls1 hb
      rw [c.hK]
      exact bind_sp hb (re.mono e1.toMono) rv fun σ1 r1 _ => h1 _ _ _ Ext.refl rp1 r1
    · exact h1.elim
theorem snd_aug {i : Nat} {e : E} {x : Str} {v : Expr} {p pos : Pos} (h1 : slotOk N i x = true) (h2 : stOk fn sc x = true) (he : PE X v (tE t cl Wx e)) : PS X (.AugAssign (.Name x p) .Add v pos) (tS t cl Wx (.aug i .add e)) := by
  refine ps_imp (ps_aug (by rw [c.hN]; exact c.nd) (by rw [c.hN]; exact of_decide_eq_true h1) (by rw [c.hsc]; exact stOk_loc h2) he ip_add (by rw [c.hfn, c.hsc]; exact stOk_fn h2)) fun D σ H ⟨G, ls, lh, re, rp, h⟩ => ?_
  simp only [evS] at h
  split at h
  · rename_i w0 hw
    obtain ⟨v0, q1, q2⟩ := re.2 i w0 hw
    refine ⟨v0, q1, G, ls, lh, re, rp, PostS.toS re h fun w l1 G1 H1 v _ e1 rp1 rv h1 => ?_⟩
    split at h1
    · rename_i a b _
      refine ⟨a, b, q2.int_eq, rv.int_eq, h1 _ _ _ Ext.refl rp1 ((re.mono e1.toMono).set rv_int)⟩
    · exact h1.elim
  · exact h.elim
theorem snd_setI {a i e : E} {x y v : Expr} {p pos : Pos} (hy : nslice y = true) (ha : PE X x (tE t cl Wx a)) (hi : PE X y (tE t cl Wx i)) (he : PE X v (tE t cl Wx e)) : PS X (.Assign [.Subscript x y p] v pos) (tS t cl Wx (.setI a i e)) := by
  refine ps_imp (ps_asg he (pg_sub ha hi set_list ?_) ?_ ?_) fun D σ H ⟨G, ls, lh, re, rp, h⟩ => ?_
  · intro u
    cases y <;> first | rfl | (cases hy; done)
  · unfold swapsWithSole swapsWith
    cases v <;> rfl
  · unfold swappedStores
    cases v <;> rfl
  · simp only [evS] at h
    refine ⟨G, ls, lh, re, rp, PostS.toS re h fun w l1 G1 H1 v _ e1 rp1 rv h1 => ⟨G1, ls, l1, re.mono e1.toMono, rp1, PostS.toS (re.mono e1.toMono) h1 fun w2 l2 G2 H2 v2 _ e2 rp2 rv2 h2 => ⟨G2, ls, l2, (re.mono e1.toMono).mono e2.toMono, rp2, PostS.toS ((re.mono e1.toMono).mono e2.toMono) h2 fun w3 l3 G3 H3 v3 _ e3 rp3 rv3 h3 => ?_⟩⟩⟩
    split at h3
    · rename_i m k _ _
      split at h3
      · rename_i ws hm
        split at h3
        · rename_i j hj
          have rv2' := rv2.mono e3.toMono
          unfold RV at rv2'
          obtain ⟨q, rfl, hq⟩ := rv2'
          obtain ⟨xs, hx, rs⟩ := rp3.lst hm hq
          refine ⟨q, xs, k, j, rfl, rv3.int_eq, hx, by rw [← RVs.length rs, ← hj]; rfl, ?_⟩
          have rv' := (rv.mono e2.toMono).mono e3.toMono
          have re' := ((re.mono e1.toMono).mono e2.toMono).mono e3.toMono
          have x1 : Ext t.g G3 H3 G3 (upd H3 q (.lst (xs.set j v))) := Ext.write hx ⟨(rp3.sep m _ q hm hq (fun z => by cases z)).1, .inl ⟨_, rfl⟩⟩ (rp3.sep m _ q hm hq (fun z => by cases z)).2
          obtain ⟨x2, rp4⟩ := rp3.write (o' := .lst (ws.set j w)) (ho' := .lst (xs.set j v)) hm hq (fun z => by cases z) hx (.inl ⟨_, rfl⟩) ⟨_, rfl, (RVs.set rv' j rs).mono x1.toMono⟩
          exact h3 _ _ _ x2 rp4 (re'.mono x2.toMono)
        · exact h3.elim
      · exact h3.elim
    · exact h3.elim
omit c in
theorem snd_expr {e : E} {v : Expr} {pos : Pos} (hn : ncomp v = true) (he : PE X v (tE t cl Wx e)) : PS X (.Expr v pos) (tS t cl Wx (.expr e)) := by
  refine ps_imp (ps_expr he (swaps_n hn)) fun D σ H ⟨G, ls, lh, re, rp, h⟩ => ?_
  simp only [evS] at h
  exact ⟨G, ls, lh, re, rp, PostS.toS re h fun w l1 G1 H1 v _ e1 rp1 rv h1 => h1 _ _ _ Ext.refl rp1 (re.mono e1.toMono)⟩
omit c in
theorem snd_ret {e : E} {v : Expr} {pos : Pos} (he : PE X v (tE t cl Wx e)) : PS X (.Return (some v) pos) (tS t cl Wx (.ret e)) := by
  refine ps_imp (ps_ret he) fun D σ H ⟨G, ls, lh, re, rp, h⟩ => ?_
  simp only [evS] at h
  exact ⟨G, ls, lh, re, rp, PostS.toS re h fun w l1 G1 H1 v _ e1 rp1 rv h1 => h1 _ _ _ Ext.refl rp1 rv⟩
omit c in
theorem snd_retN {pos : Pos} : PS X (.Return none pos) (tS t cl Wx .retN) := by
  refine ps_imp ps_retN fun D σ H ⟨G, ls, lh, re, rp, h⟩ => ?_
  simp only [evS] at h
  exact h _ _ _ Ext.refl rp rv_non
omit c in
theorem snd_ifs {q : E} {a b : S} {z : Expr} {x y : List Stmt} {pos : Pos} (hq : PT X z (tT t cl Wx q)) (ha : PSs X x (tS t cl Wx a)) (hb : PSs X y (tS t cl Wx b)) : PS X (.If z x y pos) (tS t cl Wx (.ifs q a b)) := by
  refine ps_imp (ps_if hq ha hb) fun D σ H ⟨G, ls, lh, re, rp, h⟩ => ?_
  simp only [evS] at h
  refine ⟨G, ls, lh, re, rp, PostS.toS' re h fun w l1 G1 H1 v _ e1 rp1 rv h1 => ?_⟩
  subst rv
  cases v with
  | true => exact iteT ⟨G1, ls, l1, re.mono e1.toMono, rp1, h1⟩
  | false => exact iteF ⟨G1, ls, l1, re.mono e1.toMono, rp1, h1⟩
/-- a step's end is a next -/
def PostS.turn (g : Gw) (G : Gh) (H : Hp) (f : Env → LH → RS) (D : Ends) (W : WX) : RS → Prop
  | .nx ls lh => PostS g G H (f ls lh) D W
  | .cont ls lh => PostS g G H (f ls lh) D W
  | .brk ls lh => PostS g G H (.nx ls lh) D W
  | r => PostS g G H r D W
theorem snd_wh {q : E} {b : S} {z : Expr} {x : List Stmt} {pos : Pos} (hq : PT X z (tT t cl Wx q)) (hb : PSs X x (tS t cl Wx b)) : PS X (.While z x [] pos) (tS t cl Wx (.wh q b)) := by
  refine ps_imp (ps_while c.pas hq hb) fun D σ H ⟨G, ls, lh, re, rp, h⟩ => ?_
  simp only [evS] at h
  refine ⟨fun m σ H => ∃ G ls lh, REnv t.g G H ls σ ∧ Rep t.g G lh H ∧ PostS t.g G H (whL (fun σ' h' => evE t.T cl q σ' h') (fun σ' h' => evS t.T cl b σ' h') m ls lh) D Wx, ⟨_, G, ls, lh, re, rp, h⟩, ?_⟩
  rintro m σ H ⟨G, ls, lh, re, rp, h⟩
  cases m with
  | zero => exact h.elim
  | succ m =>
    unfold whL at h
    refine ⟨G, ls, lh, re, rp, PostS.toS' re h fun w l1 G1 H1 v _ e1 rp1 rv h1 => ?_⟩
    subst rv
    cases v with
    | false => exact iteF (h1 _ _ _ Ext.refl rp1 (re.mono e1.toMono))
    | true =>
      refine iteT ⟨fun σ H => ∃ G ls lh, REnv t.g G H ls σ ∧ Rep t.g G lh H ∧ PostS t.g G H (whL (fun σ' h' => evE t.T cl q σ' h') (fun σ' h' => evS t.T cl b σ' h') m ls lh) D Wx, fun σ' H' hh => ⟨m, Nat.lt_succ_self _, hh⟩, G1, ls, l1, re.mono e1.toMono, rp1, ?_⟩
      dsimp only at h1
      cases hr : evS t.T cl b ls l1 with
      | nx ls2 l2 => rw [hr] at h1; exact fun G2 H2 σ2 e2 rp2 re2 => ⟨G2, ls2, l2, re2, rp2, PostS.mono h1 e2⟩
      | cont ls2 l2 => rw [hr] at h1; exact fun G2 H2 σ2 e2 rp2 re2 => ⟨G2, ls2, l2, re2, rp2, PostS.mono h1 e2⟩
      | brk ls2 l2 => rw [hr] at h1; exact fun G2 H2 σ2 e2 rp2 re2 => h1 _ _ _ e2 rp2 re2
      | ret w l2 => rw [hr] at h1; exact h1
      | ex c ns fs ls2 l2 => rw [hr] at h1; exact h1
      | no => rw [hr] at h1; exact h1
theorem snd_for {tg : Tg} {it : E} {b : S} {e iter : Expr} {x : List Stmt} {pos : Pos} (hn : nset iter = true) (hi : PI X e iter (tI t cl Wx it)) (hg : PG X e (gT X.K tg)) (hb : PSs X x (tS t cl Wx b)) : PS X (.For e iter x [] pos) (tS t cl Wx (.for_ tg it b)) := by
  refine ps_imp (ps_for c.pas c.calm hi hg hb (folded_n hn)) fun D σ H ⟨G, ls, lh, re, rp, h⟩ => ?_
  simp only [evS] at h
  refine ⟨G, ls, lh, re, rp, ?_⟩
  cases hit : evI t.T cl it ls lh with
  | no => rw [hit] at h; exact h.elim
  | ex c ns fs l1 => rw [hit] at h; exact fun G2 H2 cls d e2 rp2 rx => h G2 H2 σ cls d e2 rp2 (re.mono e2.toMono) rx
  | ok p l1 =>
  rw [hit] at h
  intro G1 H1 J e1 rp1 wk
  have h1 := PostS.mono (show PostS t.g G H (forL (fun σ' h' => evS t.T cl b σ' h') tg p.2 p.1 ls l1) D Wx from h) e1
  let Inv : Nat → Sst → Hp → Prop := fun i σ H => ∃ G2 ls lh, i ≤ p.1.length ∧ Mono t.g G1 H1 G2 H ∧ REnv t.g G2 H ls σ ∧ Rep t.g G2 lh H ∧ PostS t.g G2 H (forL (fun σ' h' => evS t.T cl b σ' h') tg p.2 (p.1.drop i) ls lh) D Wx
  refine ⟨fun i m σ H => m = p.1.length - i ∧ Inv i σ H, ⟨p.1.length, by simp, G1, ls, l1, Nat.zero_le _, Ext.refl.toMono, re.mono e1.toMono, rp1, h1⟩, ?_⟩
  rintro i m σ H2 ⟨rfl, G2, ls2, l2, hi, mo, re2, rp2, h2⟩
  by_cases hlt : i < p.1.length
  · have hdrop : p.1.drop i = p.1[i] :: p.1.drop (i + 1) := List.drop_eq_getElem_cons hlt
    rw [hdrop] at h2
    unfold forL at h2
    split at h2
    case isFalse => exact h2.elim
    rename_i hgd
    obtain ⟨_, w2⟩ := wk G2 H2 l2 mo rp2 hgd
    obtain ⟨w3, w4⟩ := w2 i p.1[i] (by simp [hlt])
    split at h2
    case h_2 => exact h2.elim
    rename_i ls3 hbd
    refine .inr ⟨w3, Inv (i + 1), fun σ' H' p' => ⟨p.1.length - (i + 1), by omega, rfl, p'⟩, fun x H3 hy => ?_⟩
    obtain ⟨G3, e3, rp3, rv3⟩ := w4 x H3 hy
    rw [c.hK]
    refine bind_sp hbd (re2.mono e3.toMono) rv3 fun σ3 re3 _ => ⟨G3, ls3, l2, re3, rp3, ?_⟩
    have h3 := h2
    have mo3 : Mono t.g G1 H1 G3 H3 := ⟨fun i q h => e3.pre i q (mo.pre i q h), fun q h => ⟨(e3.fz q (mo.fz q h).1).1, (e3.fz q (mo.fz q h).1).2.trans (mo.fz q h).2⟩, fun q xs h => e3.tup q xs (mo.tup q xs h), fun q xs h => e3.rd q xs (mo.rd q xs h)⟩
    have go : ∀ {G4 : Gh} {H4 : Hp}, Ext t.g G3 H3 G4 H4 → Mono t.g G1 H1 G4 H4 := fun e4 => ⟨fun i q h => e4.pre i q (mo3.pre i q h), fun q h => ⟨(e4.fz q (mo3.fz q h).1).1, (e4.fz q (mo3.fz q h).1).2.trans (mo3.fz q h).2⟩, fun q xs h => e4.tup q xs (mo3.tup q xs h), fun q xs h => e4.rd q xs (mo3.rd q xs h)⟩
    cases hr : evS t.T cl b ls3 l2 with
    | nx ls4 l4 => rw [hr] at h3; exact fun G4 H4 σ4 e4 rp4 re4 => ⟨G4, ls4, l4, hlt, go e4, re4, rp4, PostS.mono h3 (e3.trans e4)⟩
    | cont ls4 l4 => rw [hr] at h3; exact fun G4 H4 σ4 e4 rp4 re4 => ⟨G4, ls4, l4, hlt, go e4, re4, rp4, PostS.mono h3 (e3.trans e4)⟩
    | brk ls4 l4 => rw [hr] at h3; exact fun G4 H4 σ4 e4 rp4 re4 => h3 _ _ _ (e3.trans e4) rp4 re4
    | ret w l4 => rw [hr] at h3; exact fun G4 H4 v e4 rp4 rv => h3 _ _ _ (e3.trans e4) rp4 rv
    | ex c ns fs ls4 l4 => rw [hr] at h3; exact fun G4 H4 σ4 cls d e4 rp4 re4 rx => h3 _ _ _ _ _ (e3.trans e4) rp4 re4 rx
    | no => rw [hr] at h3; exact h3
  · have hie : i = p.1.length := by omega
    subst hie
    rw [List.drop_length] at h2
    unfold forL at h2
    split at h2
    case isFalse => exact h2.elim
    rename_i hgd
    exact .inl ⟨(wk G2 H2 l2 mo rp2 hgd).1, h2 _ _ _ Ext.refl rp2 re2⟩
omit c in
theorem snd_seq {s r : S} {st : Stmt} {sts : List Stmt} (h1 : PS X st (tS t cl Wx s)) (h2 : PSs X sts (tS t cl Wx r)) : PSs X (st :: sts) (tS t cl Wx (.seq s r)) := by
  refine pss_imp (pss_cons h1 h2) fun D σ H ⟨G, ls, lh, re, rp, h⟩ => ⟨G, ls, lh, re, rp, ?_⟩
  simp only [evS] at h
  cases hr : evS t.T cl s ls lh with
  | nx ls2 l2 => rw [hr] at h; exact fun G2 H2 σ2 e2 rp2 re2 => ⟨G2, ls2, l2, re2, rp2, PostS.mono h e2⟩
  | cont ls2 l2 => rw [hr] at h; exact h
  | brk ls2 l2 => rw [hr] at h; exact h
  | ret w l2 => rw [hr] at h; exact h
  | ex c ns fs ls2 l2 => rw [hr] at h; exact h
  | no => rw [hr] at h; exact h
omit c in
theorem snd_kill {is : List Nat} {r : S} {sts : List Stmt} (h2 : PSs X sts (tS t cl Wx r)) : PSs X sts (tS t cl Wx (.seq (.kill is) r)) := by
  refine pss_imp h2 fun D σ H ⟨G, ls, lh, re, rp, h⟩ => ?_
  simp only [evS] at h
  exact ⟨G, wipeE ls is, lh, re.wipeE is, rp, h⟩
omit c in
theorem snd_snil : PSs X [] (tS t cl Wx .nil) := pss_imp pss_nil fun D σ H ⟨G, ls, lh, re, rp, h⟩ => by
  simp only [evS] at h
  exact h _ _ _ Ext.refl rp re
omit c in
theorem chk_comp {m : Bool} {e it q : E} {g : Tg} {own : List Nat} {elt : Expr} {gs : List Comprehension} {scope : Scope} {pos : Pos} (h : chkE ar N (.comp m e g it q own) fn sc (.ListComp elt gs scope pos) = true) : ∃ tg iter ifs, gs = [⟨tg, iter, ifs, .ofNat 0⟩] ∧ (nset iter && (chkI ar N it fn sc tg iter && (blkC N sc scope (ownP N own) && (tgIn own g && (chkTg N (blkFn scope) (relS scope sc) g tg && (chkE ar N e (blkFn scope) (relS scope sc) elt &&
        (match ifs with
        | [] => isT q
        | [x] => chkT ar N q (blkFn scope) (relS scope sc) x
        | _ => false))))))) = true := by
  generalize hE : E.comp m e g it q own = E0 at h
  generalize hX : Expr.ListComp elt gs scope pos = X0 at h
  unfold chkE at h
  split at h
  all_goals first | (cases h; done) | (cases hE; done) | (cases hX; done) | skip
  cases hE
  cases hX
  exact ⟨_, _, _, rfl, h⟩
omit c in
theorem chk_comp2 {m : Bool} {e it q it1 q1 : E} {g g1 : Tg} {own own1 : List Nat} {elt : Expr} {gs : List Comprehension} {scope : Scope} {pos : Pos} (h : chkE ar N (.x (.comp2 m e g it q g1 it1 q1 own own1)) fn sc (.ListComp elt gs scope pos) = true) : ∃ tg iter ifs tg1 iter1 ifs1, gs = [⟨tg, iter, ifs, .ofNat 0⟩, ⟨tg1, iter1, ifs1, .ofNat 0⟩] ∧ (((nset iter && (nset iter1 && (chkI ar N it fn sc tg iter && (blkC N sc scope (ownP N own) && (tgIn own g && (chkTg N (blkFn scope) (relS scope sc) g tg &&
        (own1.all own.contains && (tgIn own1 g1 && (chkTg N (blkFn scope) (relS scope sc) g1 tg1 && (chkI ar N it1 (blkFn scope) (relS scope sc) tg1 iter1 && chkE ar N e (blkFn scope) (relS scope sc) elt)))))))))) &&
      ((match ifs with
        | [] => isT q
        | [x] => chkT ar N q (blkFn scope) (relS scope sc) x
        | _ => false) && (match ifs1 with
        | [] => isT q1
        | [x] => chkT ar N q1 (blkFn scope) (relS scope sc) x
        | _ => false))) = true) := by
  have h : chkX ar N (.comp2 m e g it q g1 it1 q1 own own1) fn sc (.ListComp elt gs scope pos) = true := by simpa only [chkE] using h
  generalize hE : E.comp2 m e g it q g1 it1 q1 own own1 = E0 at h
  generalize hX : Expr.ListComp elt gs scope pos = X0 at h
  unfold chkX at h
  split at h
  all_goals first | (cases h; done) | (cases hE; done) | (cases hX; done) | skip
  cases hE
  cases hX
  exact ⟨_, _, _, _, _, _, rfl, h⟩
theorem snd_asgC2 {i : Nat} {m : Bool} {e it q it1 q1 : E} {g g1 : Tg} {own own1 : List Nat} {elt iter tg iter1 tg1 : Expr} {ifs ifs1 : List Expr} {scope : Scope} {cpos p pos : Pos} {x : Str} (k1 : slotOk N i x = true) (k2 : stOk fn sc x = true) (h : (((nset iter && (nset iter1 && (chkI ar N it fn sc tg iter && (blkC N sc scope (ownP N own) && (tgIn own g && (chkTg N (blkFn scope) (relS scope sc) g tg &&
        (own1.all own.contains && (tgIn own1 g1 && (chkTg N (blkFn scope) (relS scope sc) g1 tg1 && (chkI ar N it1 (blkFn scope) (relS scope sc) tg1 iter1 && chkE ar N e (blkFn scope) (relS scope sc) elt)))))))))) &&
      ((match ifs with
        | [] => isT q
        | [x] => chkT ar N q (blkFn scope) (relS scope sc) x
        | _ => false) && (match ifs1 with
        | [] => isT q1
        | [x] => chkT ar N q1 (blkFn scope) (relS scope sc) x
        | _ => false))) = true))
    (Se : Snd t cl n ar N e) (Si : Snd t cl n ar N it) (Sq : Snd t cl n ar N q) (Si1 : Snd t cl n ar N it1) (Sq1 : Snd t cl n ar N q1) :
    PS X (.Assign [.Name x p] (.ListComp elt [⟨tg, iter, ifs, .ofNat 0⟩, ⟨tg1, iter1, ifs1, .ofNat 0⟩] scope cpos) pos) (tS t cl Wx (.asg i (.x (.comp2 m e g it q g1 it1 q1 own own1)))) := by
  by_cases hs : swB sc x p scope cpos = true
  · obtain ⟨h, hq⟩ := ba h
    obtain ⟨hq, hq1⟩ := ba hq
    obtain ⟨h1, h⟩ := ba h
    obtain ⟨h2, h⟩ := ba h
    obtain ⟨h3, h⟩ := ba h
    obtain ⟨h4, h⟩ := ba h
    obtain ⟨h5, h⟩ := ba h
    obtain ⟨h6, h⟩ := ba h
    obtain ⟨h7, h⟩ := ba h
    obtain ⟨h8, h⟩ := ba h
    obtain ⟨h9, h⟩ := ba h
    obtain ⟨h10, h11⟩ := ba h
    have ok := blkOk_by h4
    obtain ⟨s1, s2, s3⟩ := swB_spec hs
    rw [← c.hsc] at s1
    refine ps_imp (ps_setLc2 (i := i) (g := gT t.g.K g) (g1 := gT t.g.K g1) (vs1 := own1) c.calm (by rw [c.hN]; exact c.nd) (by rw [c.hN]; exact of_decide_eq_true k1) s1 (sw_true (by rw [c.hsc]; exact c.hfun) s1 s2 s3)
      (Si.pi c h3) (by rw [c.hN, c.hsc]; exact ok) (fun i hi => ?_) (fun s H C cl' fp => ?_) (fun s H C cl' fp => pts_q (c.blk ok s H C cl' fp) Sq hq) (fun s H C cl' fp => Si1.pi (c.blk ok s H C cl' fp) h10)
      (fun s H C cl' fp => ?_) (fun s H C cl' fp => pts_q (c.blk ok s H C cl' fp) Sq1 hq1) (fun s H C cl' fp => Se.pe (c.blk ok s H C cl' fp) h11) (folded_n h1) (fun env x => folded_n h2 x)) fun D σ H hh => ?_
    · rw [ownP_snd]
      have := List.all_eq_true.mp h7 i hi
      simpa using this
    · have := pg_tg (c.blk ok s H C cl' fp) h6
      rw [c.hK] at this
      exact this
    · have := pg_tg (c.blk ok s H C cl' fp) h9
      rw [c.hK] at this
      exact this
    · rw [ownP_snd]
      have hh2 : tS t cl Wx (.asg i (.comp2 m e g it q g1 it1 q1 own own1)) D σ H := by
        obtain ⟨G, ls, lh, re, rp, hh⟩ := hh
        refine ⟨G, ls, lh, re, rp, ?_⟩
        simpa only [evS, evE] using hh
      exact lc2_imp h5 h8 (asg_imp hh2)
  · have hs : swB sc x p scope cpos = false := by simpa using hs
    refine ps_imp (ps_set (by rw [c.hN]; exact c.nd) (by rw [c.hN]; exact of_decide_eq_true k1) (by rw [c.hsc]; exact stOk_loc k2) (pe_x (snd_comp2 c h Se Si Sq Si1 Sq1)) (sw_false (by rw [c.hsc]; exact c.hfun) (by rw [c.hsc]; exact hs)) (by rw [c.hfn, c.hsc]; exact stOk_fn k2)) fun D σ H h => asg_imp h
end
end Mp
namespace Mp
open PySem PySem.Spec PyProof.Rows L2
/-! ### D.__init__(self, e), D an own class of exceptions without own start; C() where C's start keeps nothing -/
def cvB : Option PySem.W.CFound → Bool
  | some (.val (.builtin n)) => decide (n = "ValueError.__init__")
  | _ => false
theorem cvB_of {r : Option PySem.W.CFound} (h : cvB r = true) : r = some (.val (.builtin "ValueError.__init__")) := by
  unfold cvB at h
  split at h
  · rw [of_decide_eq_true h]
  · cases h
/-- the class at D: its __init__, read off it, is ValueError's -/
def bsB (K : PySem.W.Frag) (D : Addr) : Bool := PySem.W.readsIn K D (.type "type") && (decide (PySem.W.specialIn K (.ref D) "__getattribute__" = some (some (.builtin "type.__getattribute__"))) && cvB (PySem.W.findCls K (.ref D) (.type "type") "__init__"))
structure BsF (K : PySem.W.Frag) (mg : Str → Option Value) (x : Str) : Prop where
  ex : ∃ D, mg x = some (.ref D) ∧ bsB K D = true
section
variable {X : Cx} {N : List Str} {sc : Scope}
theorem pe_bsinit {pl : Sem Bool} {D : Addr} {x : Str} {e : Expr} {es : List Expr} {ta : TA} {p1 p2 pos : Pos} (hg : Gl X x) (hm : X.mg x = some (.ref D)) (hb : bsB X.K D = true) (ha : PA X (e :: es) ta) (hd : (x == ("__debug__" : Str)) = false)
    (he : starEach (e :: es) X.env = (false, eval e X.env) :: starEach es X.env) (hpl : (backTo pos (starEach es X.env)).any (·.1) = false)
    (hc : eval (.Call (.Attribute (.Name x p1) "__init__" p2) (e :: es) [] pos) X.env = (do
      let ov ← eval (.Name x p1) X.env
      standAt p2.atName
      let (f, first) ← holding [ov] (getMethod ov "__init__" pl)
      callWith pos f first (backTo pos (starEach (e :: es) X.env)) (backToKw pos (keywordEach [] X.env))) := by rfl) :
    PE X (.Call (.Attribute (.Name x p1) "__init__" p2) (e :: es) [] pos) (tVeI X.K ta) := by
  unfold bsB at hb
  obtain ⟨b1, hb⟩ := ba hb
  obtain ⟨b2, b3⟩ := ba hb
  refine ⟨fun pins s σ H Q I h => ?_⟩
  refine PySem.W.methodCall_KW (ld_glob I hg hm ?_ hd) hc
  refine PySem.W.method_cls I.kIn (of_decide_eq_true b2) (PySem.W.cls_value I.kIn b1 (cvB_of b3) (by decide +kernel) ?_)
  show wpAny _ _ (callWith pos (Value.builtin "ValueError.__init__") [] (backTo pos (starEach (e :: es) X.env)) []) _ _ _
  refine PyProof.Rows.callWith_method1 (thn (ha.run pos pins _ σ H _ (I.tok _) h) fun us s1 ⟨vs, H1, I1, r1, a, C, ws, ev, hl, T, ea, q⟩ => ?_) he hpl
  subst ev
  cases r1 with
  | @cons _ u0 _ ur ra rw' =>
    obtain rfl : u0 = Value.ref a := ra
    have hlen : ur.length ≤ sizeLine := by
      rw [← Paired.length rw', sizeLine_eq]
      omega
    exact oinit_ok T I1 ea hlen fun s' J => ⟨.non, H1, J, rfl, q⟩
/-! the text of such a call -/
def bsA (N : List Str) (sc : Scope) : List Expr → Bool
  | [.Name p _] => N.contains p && (vis sc p && okName p)
  | [.Constant (.str _) _ _] => true
  | _ => false
def bs1 (N : List Str) (sc : Scope) (x : Str) : Stmt → Bool
  | .Expr (.Call (.Attribute (.Name y _) m p2) (.Name s _ :: as) [] p4) _ => (p2.endLine == p4.line) && (decide (y = x) && (decide (m = "__init__") && (slotOk N 0 s && (vis sc s && (okName s && (gl sc x && (okName x && bsA N sc as)))))))
  | _ => false
/-- the slots are filled -/
def Full (N : List Str) (σ : L2.St) : Prop := ∀ i, i < N.length → ∃ v, σ[i]? = some (some v)
theorem bsA_ok (hN : X.N = N) (hsc : X.env.scope = sc) {as : List Expr} (h : bsA N sc as = true) : ∃ (e : Expr) (te : TE), as = [e] ∧ nst e = true ∧ PE X e te ∧ ∀ σ (H : Hp), Full N σ → ∃ v, ∀ Q : VK, Q v H → te σ H Q := by
  unfold bsA at h
  split at h
  · rename_i p pos
    obtain ⟨a1, h⟩ := ba h
    obtain ⟨a2, a3⟩ := ba h
    have hm : p ∈ N := by simpa using a1
    obtain ⟨i, hi, e⟩ := List.getElem_of_mem hm
    refine ⟨_, tVar i, rfl, rfl, pe_var (by rw [hN, List.getElem?_eq_getElem hi, e]) (by rw [hsc]; exact vis_of a2) (okName_d a3) (okName_c a3), fun σ H hf => ?_⟩
    obtain ⟨v, hv⟩ := hf i hi
    exact ⟨v, fun Q q => ⟨v, hv, q⟩⟩
  · exact ⟨_, _, rfl, rfl, pe_str, fun σ H _ => ⟨_, fun Q q => q⟩⟩
  · cases h
theorem bs1_ok {D : Addr} {x : Str} {st : Stmt} (hN : X.N = N) (hsc : X.env.scope = sc) (hm : X.mg x = some (.ref D)) (hb : bsB X.K D = true) (h : bs1 N sc x st = true) :
    PS X st (fun E σ H => Full N σ ∧ ∃ a C : Addr, σ[0]? = some (some (.ref a)) ∧ OexC X.K C ∧ H a = some (exo a C none) ∧ E.nx σ H) := by
  unfold bs1 at h
  split at h
  · rename_i y p1 m p2 s p3 as p4 p5
    obtain ⟨a0, h0⟩ := ba h
    obtain ⟨a1, h1⟩ := ba h0
    obtain ⟨a2, h2⟩ := ba h1
    obtain ⟨a3, h3⟩ := ba h2
    obtain ⟨a4, h4⟩ := ba h3
    obtain ⟨a5, h5⟩ := ba h4
    obtain ⟨a6, h6⟩ := ba h5
    obtain ⟨a7, h7⟩ := ba h6
    have e1 := of_decide_eq_true a1
    have e2 := of_decide_eq_true a2
    subst e1 e2
    obtain ⟨e, te, rfl, n1, he, hf⟩ := bsA_ok (X := X) hN hsc h7
    have hg : Gl X y := by
      show X.env.scope.names.lookup y = some .globalImplicit
      rw [hsc]; exact gl_of a6
    refine ps_imp (ps_expr (pe_bsinit hg hm hb (pa_cons (pe_var (i := 0) (by rw [hN]; exact of_decide_eq_true a3) (by rw [hsc]; exact vis_of a4) (okName_d a5) (okName_c a5)) (pa_cons he pa_nil (star_cons n1)) rfl) (okName_d a7) rfl (star_any (by simp [n1])) (meth_form rfl (by rw [List.all_cons, List.all_cons, n1]; rfl) (by simp) a0)) (swaps_n rfl)) fun E σ H ⟨hF, a, C, h0, T, ha, q⟩ => ?_
    obtain ⟨v, hv⟩ := hf σ H hF
    exact ⟨_, h0, hv _ ⟨a, C, [v], rfl, by simp, T, ha, q⟩⟩
  · cases h
end
end Mp
namespace Mp
open PySem PySem.Spec PyProof.Rows L2
/-! ### own exceptions with a start of their own that stores its parameters -/
/-- the start's text: self.f = f, one behind the other; fields and slots from i on -/
def xi1 : Stmt → Option (Str × Str × Str)
  | .Assign [.Attribute (.Name s _) y _] (.Name p _) _ => some (s, y, p)
  | _ => none
theorem xi1_spec {st : Stmt} {s y p : Str} (h : xi1 st = some (s, y, p)) : ∃ p1 p2 p3 p4, st = .Assign [.Attribute (.Name s p1) y p2] (.Name p p3) p4 := by
  unfold xi1 at h
  split at h
  · cases h; exact ⟨_, _, _, _, rfl⟩
  · cases h
def xiB (N : List Str) (sc : Scope) : Nat → List Str → List Stmt → Bool
  | _, [], [] => true
  | i, f :: fs, st :: r => (match xi1 st with
    | some (s, y, p) => decide (y = f) && (slotOk N 0 s && (vis sc s && (okName s && (slotOk N i p && (vis sc p && (okName p && xiB N sc (i + 1) fs r))))))
    | none => false)
  | _, _, _ => false
theorem xiB_spec {N : List Str} {sc : Scope} {i : Nat} {f : Str} {fs : List Str} {sts : List Stmt} (h : xiB N sc i (f :: fs) sts = true) : ∃ s p p1 p2 p3 p4 r, sts = .Assign [.Attribute (.Name s p1) f p2] (.Name p p3) p4 :: r ∧
    slotOk N 0 s = true ∧ vis sc s = true ∧ okName s = true ∧ slotOk N i p = true ∧ vis sc p = true ∧ okName p = true ∧ xiB N sc (i + 1) fs r = true := by
  cases sts with
  | nil => cases h
  | cons st r =>
    have h : (match xi1 st with
      | some (s, y, p) => decide (y = f) && (slotOk N 0 s && (vis sc s && (okName s && (slotOk N i p && (vis sc p && (okName p && xiB N sc (i + 1) fs r))))))
      | none => false) = true := h
    cases e : xi1 st with
    | none => rw [e] at h; cases h
    | some q =>
      obtain ⟨s, y, p⟩ := q
      rw [e] at h
      obtain ⟨a1, h1⟩ := ba h
      obtain ⟨a2, h2⟩ := ba h1
      obtain ⟨a3, h3⟩ := ba h2
      obtain ⟨a4, h4⟩ := ba h3
      obtain ⟨a5, h5⟩ := ba h4
      obtain ⟨a6, h6⟩ := ba h5
      obtain ⟨a7, h7⟩ := ba h6
      have ey := of_decide_eq_true a1
      subst ey
      obtain ⟨p1, p2, p3, p4, rfl⟩ := xi1_spec e
      exact ⟨s, p, p1, p2, p3, p4, r, rfl, a2, a3, a4, a5, a6, a7, h7⟩
section
variable {X : Cx} {N : List Str} {sc : Scope}
/-- the fields that stand, then those to come -/
def tXr (K : PySem.W.Frag) (i : Nat) (fs : List Str) : TS := fun D σ H => ∃ (a C dx : Addr) (fl : List (Str × V)) (ys : List V), σ[0]? = some (some (.ref a)) ∧ OexC K C ∧ (∀ f ∈ fs, PySem.W.findIn K (.ref C) f = some none) ∧ H a = some (exo a C (some dx)) ∧ H dx = some (exd dx fl) ∧ a ≠ dx ∧
  fl.length + fs.length ≤ 900 ∧ ys.length = fs.length ∧ (∀ k y, ys[k]? = some y → σ[i + k]? = some (some y)) ∧ D.nx σ (upd H dx (exd dx ((fs.zip ys).reverse ++ fl)))
theorem upd_self {H : Hp} {a : Addr} {o : HO} (h : H a = some o) : upd H a o = H := by
  funext b
  by_cases e : b = a
  · rw [e, upd_same, h]
  · rw [upd_ne e]
theorem upd_upd {H : Hp} {a : Addr} {o u : HO} : upd (upd H a o) a u = upd H a u := by
  funext b
  by_cases e : b = a
  · rw [e, upd_same, upd_same]
  · rw [upd_ne e, upd_ne e, upd_ne e]
theorem xr_ok (hN : X.N = N) (hsc : X.env.scope = sc) : ∀ (fs : List Str) (i : Nat) (sts : List Stmt), xiB N sc i fs sts = true → PSs X sts (tXr X.K i fs)
  | [], i, sts, h => by
    cases sts with
    | cons st r => cases h
    | nil =>
      exact pss_imp pss_nil fun D σ H ⟨a, C, dx, fl, ys, h0, T, hf, ha, hd, _, hl, hy, hs, q⟩ => by
        cases ys with
        | cons y ys => cases hy
        | nil =>
          have q : D.nx σ (upd H dx (exd dx fl)) := q
          rw [upd_self hd] at q
          exact q
  | y :: fs, i, sts, h => by
    obtain ⟨s, p, p1, p2, p3, p4, r, rfl, a2, a3, a4, a5, a6, a7, h7⟩ := xiB_spec h
    have ih := xr_ok hN hsc fs (i + 1) r h7
    refine pss_imp (pss_cons (ps_ost (pe_var (i := 0) (by rw [hN]; exact of_decide_eq_true a2) (by rw [hsc]; exact vis_of a3) (okName_d a4) (okName_c a4)) (pe_var (i := i) (by rw [hN]; exact of_decide_eq_true a5) (by rw [hsc]; exact vis_of a6) (okName_d a7) (okName_c a7)) (swaps_n rfl)) ih) fun D σ H hh => ?_
    obtain ⟨a, C, dx, fl, ys, h0, T, hf, ha, hd, ne, hl, hy, hs, q⟩ := hh
    cases ys with
    | nil => cases hy
    | cons z ys =>
      refine ⟨z, hs 0 z rfl, .ref a, h0, a, C, rfl, T, hf _ (List.mem_cons_self ..), .inr ⟨dx, fl, ha, hd, by simp at hl; omega, ?_⟩⟩
      refine ⟨a, C, dx, (y, z) :: fl, ys, h0, T, fun g hg => hf g (List.mem_cons_of_mem _ hg), by rw [upd_ne ne]; exact ha, upd_same, ne, by simp at hl ⊢; omega, by simpa using hy, fun k u hk => ?_, ?_⟩
      · have := hs (k + 1) u (by simpa using hk)
        rw [show i + (k + 1) = i + 1 + k by omega] at this
        exact this
      · rw [upd_upd]
        simpa using q
end
theorem upd3 {H : Hp} {a d : Addr} {u o v : HO} (h : a ≠ d) : upd (upd (upd H d u) a o) d v = upd (upd H d v) a o := by
  funext b
  by_cases e : b = d
  · rw [e, upd_same, upd_ne (Ne.symm h), upd_same]
  · by_cases e2 : b = a
    · rw [e2, upd_ne h, upd_same, upd_same]
    · rw [upd_ne e, upd_ne e2, upd_ne e, upd_ne e2, upd_ne e]
/-- the text of a start: a call of the base's start or none, then the stores -/
def xiT (N : List Str) (sc : Scope) (b : Option Str) (fs : List Str) (body : List Stmt) : Bool := match b with
  | none => xiB N sc 1 fs body
  | some x => match body with
    | st :: r => bs1 N sc x st && xiB N sc 1 fs r
    | [] => false
theorem full_start {N : List Str} {vs : List V} (h : vs.length = N.length) : Full N (L2.start N vs) := fun i hi => by
  unfold L2.start
  have hv : i < vs.length := by omega
  exact ⟨vs[i], by simp [h, hv]⟩
/-- what a start does that stands behind the base's start -/
theorem xi_pre {X : Cx} {N : List Str} {sc : Scope} {b : Option Str} {fs : List Str} {body : List Stmt} {t : TS} (hN : X.N = N) (hsc : X.env.scope = sc) (hb : xiT N sc b fs body = true) (hbs : ∀ x, b = some x → BsF X.K X.mg x)
    (ht : ∀ r, xiB N sc 1 fs r = true → PSs X r t) : PSs X body fun E σ H => Full N σ ∧ (∃ a C : Addr, σ[0]? = some (some (.ref a)) ∧ OexC X.K C ∧ H a = some (exo a C none)) ∧ t E σ H := by
  cases b with
  | none => exact pss_imp (ht body hb) fun E σ H h => h.2.2
  | some x =>
    cases body with
    | nil => cases hb
    | cons st r =>
      obtain ⟨b1, b2⟩ := ba (show (bs1 N sc x st && xiB N sc 1 fs r) = true from hb)
      obtain ⟨D, hm, hB⟩ := (hbs x rfl).ex
      refine pss_imp (pss_cons (bs1_ok hN hsc hm hB b1) (ht r b2)) fun E σ H ⟨hF, ⟨a, C, h0, T, ha⟩, q⟩ => ⟨hF, a, C, h0, T, ha, q⟩
theorem xini {P : Program} {w : World} {K : PySem.W.Frag} {mg : Str → Option Value} {base : Heap} {CX : CXT} {N : List Str} {x qual : Str} {params : Arguments} {body : List Stmt} {scope : Scope} {f C : Addr} {fd : FuncData} {fs : List Str} {g s0 : Str} {b : Option Str}
    (F : FunD K x qual params body scope [] [] f fd) (S : FnScope N N scope) (eN : N = s0 :: g :: fs) (hb : xiT N scope b (g :: fs) body = true) (hbs : ∀ x, b = some x → BsF K mg x) (T : OexC K C) (no : ∀ f ∈ g :: fs, PySem.W.findIn K (.ref C) f = some none) (hl : fs.length ≤ 800) :
    FnOk P w K mg base CX 1 f fd N (spX C (g :: fs)) := by
  refine FunD.ok (k := 0) F S (fun vs H Q E ⟨a, ys, e1, e2, _⟩ => by rw [e1, eN, List.length_cons, e2]; rfl) fun cdv A outer s H vs Q E hr h => ?_
  have ht : ∀ r, xiB N scope 1 (g :: fs) r = true → PSs (cxOf CX P w K mg base N qual scope f cdv A outer s H E) r (fun D σ H => ∃ (z : V) (a : Addr), σ[1]? = some (some z) ∧ σ[0]? = some (some (.ref a)) ∧ H a = some (exo a C none) ∧
      ∀ dx, H dx = none → dx ≠ a → tXr K 2 fs D σ (upd (upd H dx (exd dx [(g, z)])) a (exo a C (some dx)))) := by
    intro r hr
    obtain ⟨s, p, p1, p2, p3, p4, r, rfl, a2, a3, a4, a5, a6, a7, h7⟩ := xiB_spec hr
    refine pss_imp (pss_cons (ps_ost (pe_var (i := 0) (of_decide_eq_true a2) (vis_of a3) (okName_d a4) (okName_c a4)) (pe_var (i := 1) (of_decide_eq_true a5) (vis_of a6) (okName_d a7) (okName_c a7)) (swaps_n rfl)) (xr_ok (N := N) (sc := scope) rfl rfl fs 2 r h7)) fun D σ H ⟨z, a, hz, h0, ea, q⟩ => ?_
    exact ⟨z, hz, .ref a, h0, a, C, rfl, T, no _ (List.mem_cons_self ..), .inl ⟨ea, q⟩⟩
  refine ⟨_, xi_pre (N := N) (sc := scope) rfl rfl hb hbs ht, ?_⟩
  obtain ⟨a, ys, e1, e2, ea, q⟩ := h
  refine ⟨full_start (by rw [e1, eN, List.length_cons, e2]; rfl), ⟨a, C, by rw [e1, eN]; unfold L2.start; simp [e2], T, ea⟩, ?_⟩
  cases ys with
  | nil => cases e2
  | cons z ys =>
    have e3 : ys.length = fs.length := by simpa using e2
    have es : L2.start N vs = some (.ref a) :: some z :: ys.map some := by
      unfold L2.start
      rw [e1, eN]
      simp [e3]
    rw [es]
    refine ⟨z, a, rfl, rfl, ea, fun dx n ne => ?_⟩
    refine ⟨a, C, dx, [(g, z)], ys, rfl, T, fun g' hg => no g' (List.mem_cons_of_mem _ hg), upd_same, by rw [upd_ne ne, upd_same], Ne.symm ne, by simp; omega, e3, fun k u hk => ?_, ?_⟩
    · rw [show 2 + k = k + 2 by omega]
      simp [hk]
    · rw [upd3 (Ne.symm ne)]
      have := q dx n ne
      simpa using this
/-- .. that keeps nothing -/
theorem xini0 {P : Program} {w : World} {K : PySem.W.Frag} {mg : Str → Option Value} {base : Heap} {CX : CXT} {N : List Str} {x qual : Str} {params : Arguments} {body : List Stmt} {scope : Scope} {f C : Addr} {fd : FuncData} {s0 : Str} {b : Option Str}
    (F : FunD K x qual params body scope [] [] f fd) (S : FnScope N N scope) (eN : N = [s0]) (hb : xiT N scope b [] body = true) (hbs : ∀ x, b = some x → BsF K mg x) (T : OexC K C) :
    FnOk P w K mg base CX 1 f fd N (spX0 C) := by
  refine FunD.ok (k := 0) F S (fun vs H Q E ⟨a, e1, _⟩ => by rw [e1, eN]; rfl) fun cdv A outer s H vs Q E hr h => ?_
  refine ⟨_, xi_pre (N := N) (sc := scope) (t := fun D σ H => D.nx σ H) rfl rfl hb hbs fun r hr => ?_, ?_⟩
  · cases r with
    | nil => exact pss_nil
    | cons st r => cases hr
  · obtain ⟨a, e1, ea, q⟩ := h
    refine ⟨full_start (by rw [e1, eN]; rfl), ⟨a, C, by rw [e1, eN]; rfl, T, ea⟩, q⟩
/-- .. once the exception is let go -/
theorem upd4 {H : Hp} {a d : Addr} {o1 o2 u v : HO} (ha : H a = none) (h : a ≠ d) : upd (del (upd (upd (upd H a o1) d u) a o2) a) d v = upd H d v := by
  funext b
  by_cases e : b = d
  · rw [e, upd_same, upd_same]
  · rw [upd_ne e, upd_ne e]
    by_cases e2 : b = a
    · rw [e2, del_same, ha]
    · rw [del_ne e2, upd_ne e2, upd_ne e, upd_ne e2]
theorem mkO_of {C : Addr} {fs : List Str} {vs : List V} {H1 : Hp} {Q : XK} (hl : vs.length = fs.length) (h8 : fs.length ≤ 800) (q : ∀ d, H1 d = none → Q (.ref C) (some d) (upd H1 d (.xd (fs.zip vs).reverse))) :
    vs.length ≤ 1000 ∧ ∀ a, H1 a = none → spX C fs (.ref a :: (vs ++ [])) (upd H1 a (exo a C none))
      (fun v H2 => v = .non ∧ ∃ (d : Addr) (fl : List (Str × V)), H2 a = some (exo a C (some d)) ∧ H2 d = some (exd d fl) ∧ H1 d = none ∧ Q (.ref C) (some d) (upd (del H2 a) d (.xd fl))) (fun _ _ _ => False) := by
  refine ⟨by omega, fun a ha => ⟨a, vs, by rw [List.append_nil], hl, upd_same, fun d hd ne => ⟨rfl, d, _, upd_same, by rw [upd_ne ne]; exact upd_same, ?_, ?_⟩⟩⟩
  · rw [upd_ne ne] at hd
    exact hd
  · rw [upd_ne ne] at hd
    rw [upd4 ha (Ne.symm ne)]
    exact q d hd
/-- C(), C's start keeping nothing -/
theorem mk_fin0 {X : Cx} {pins : List (Addr × Obj)} {σ : L2.St} {H1 : Hp} {Q : XK} {hp hp2 h2 : Heap} {g1 g2 : Array GenState} {d1 d2 : Drawn} {t1 t2 : Nat} {os1 os2 : OsState} {a C : Addr} (T : Raises X (.ref C)) (I1 : Inv X pins σ H1 ⟨hp, g1, d1, t1, os1⟩)
    (ha : hp.objs.size ≤ a) (k : ∀ b o, hp.get? b = some o → hp2.get? b = some o) (un : Un (frs X.stack) [] (upd H1 a (exo a C none)) (upd H1 a (exo a C none)) hp2 h2) (hok : HOk X.prog X.w (upd H1 a (exo a C none)) h2) (ho : os2 = os1) (hb : AllBare g2)
    (q : Q (.ref C) none H1) : MkP X pins σ Q (.ref a) ⟨h2, g2, d2, t2, os2⟩ := by
  have hn : H1 a = none := I1.hok.fresh ha
  obtain ⟨t0, hoe⟩ := exo_at hok (upd_same (H := H1) (a := a))
  obtain ⟨G, g1', g2'⟩ := restrict h2 fun b => decide (b ≠ a)
  have gk : ∀ b, b ≠ a → G.get? b = h2.get? b := fun b hb => g1' b (decide_eq_true hb)
  have ge : G.get? a = none := g2' a (by simp)
  have nha : ∀ {b : Addr} {o : Obj}, hp.get? b = some o → b ≠ a := fun {b o} z => Nat.ne_of_lt (Nat.lt_of_lt_of_le (Heap.lt_size z) ha)
  have up : ∀ {b : Addr}, b ≠ a → H1 b = none → upd H1 a (exo a C none) b = none := fun {b} hb n => by rw [upd_ne hb]; exact n
  have U : Un (frs X.stack) [] H1 H1 hp G := {
    keep := fun b o z n hf hx => by
      rw [gk b (nha z)]
      exact un.keep b o (k b o z) (up (nha z) n) hf hx
    slot := fun b o z n hf hx => by
      rw [gk b (nha z)]
      exact un.slot b o (k b o z) (up (nha z) n) hf hx
    free := fun b o z n hx => n
    there := fun b o z hx => by
      rw [gk b (nha z)]
      exact un.there b o (k b o z) hx
    tups := fun b xs z => z
    frzs := fun b o v z => z
    tbls := fun b ps z => ⟨#[], by simpa using z⟩ }
  have hok3 : HOk X.prog X.w H1 G := fun b o z => by
    have hba : b ≠ a := ne_of_none z hn
    have z2 : upd H1 a (exo a C none) b = some o := by rw [upd_ne hba]; exact z
    have noa : ∀ {c : Addr}, upd H1 a (exo a C none) c = some (.own b) → c ≠ a := fun {c} hc => at_ne upd_same hc exo_own
    exact (hok b o z2).stay (fun c v hc y => by
        have hca : c ≠ a := by
          rcases hc with hc | hc
          · rw [hc]
            exact hba
          · exact noa hc
        rw [gk c hca]
        exact y)
      (fun c hc => by
        have := noa hc
        rw [upd_ne this] at hc
        exact hc) (fun c xs hc => by
        have := at_ne (upd_same (H := H1) (a := a)) hc exo_tup
        rw [upd_ne this] at hc
        exact hc)
  have J : Inv X pins σ H1 ⟨G, g2, d2, t2, os2⟩ := I1.call' (ch := []) ho U hok3 hb (fun b z => absurd z (by simp))
  exact ⟨a, _, _, ⟨G, g2, d2, t2, os2⟩, _, .ref C, none, rfl, J, fun b o z => by
    by_cases hba : b = a
    · rw [hba, ge] at z
      cases z
    · exact (gk b hba).symm.trans z, ge, hoe, ⟨rfl, rfl⟩, rfl, rfl, hn, rfl, hb, T, q⟩
theorem pmk_oex0 {X : Cx} {CX : CXT} {x : Str} {C fI : Addr} {k : Nat} {fd : FuncData} {ps : List Str} {p pos : Pos} (T : OexC X.K C) (iC : PySem.W.findIn X.K (.ref C) "__init__" = some (some (.ref fI))) (tI : PySem.W.typeIn X.K (.ref fI) = some (.type "function"))
    (F1 : FnOk X.prog X.w X.K X.mg X.base CX k fI fd ps (spX0 C)) (hr : Room (k + 1) X.A) (hb : Binds X.K fd ps []) (hx : Passes CX X (fun _ _ _ => False)) (hg : Gl X x) (hm : X.mg x = some (.ref C)) (hdb : (x == ("__debug__" : Str)) = false) :
    PMk X (.Call (.Name x p) [] [] pos) (fun _ H Q => Q (.ref C) none H) := by
  intro pins s σ H1 Q I1 q
  obtain ⟨nm, qq, N, bs, bm, sn, sub, ab, col, dd, k0, k1, k2, k3, k5, hC, hbm⟩ := T.cls
  refine wpAny_Call_Name_kw (ld_glob I1 hg hm ?_ hdb)
  refine PySem.W.callWith_K0 I1.kIn T.kC ?_
  show wpAny _ _ (PySem.call (.ref C) []) _ _ _
  obtain ⟨hp, g, dr, tk, os⟩ := s
  have hsz : hp.objs.size ≤ hp.objs.size + 1 := Nat.le_succ _
  have hn : H1 (hp.objs.size + 1) = none := I1.hok.fresh hsz
  have kk : ∀ b o, hp.get? b = some o → ((hp.push (PySem.W.kdv_tup [])).push (PySem.HandSPX.excO C hp.objs.size)).get? b = some o := fun b o e => Heap.get?_push_of_some _ (Heap.get?_push_of_some _ e)
  have hget : ((hp.push (PySem.W.kdv_tup [])).push (PySem.HandSPX.excO C hp.objs.size)).get? (hp.objs.size + 1) = some (PySem.HandSPX.excO C hp.objs.size) := by heap_get
  have I2 : Inv X pins σ (upd H1 (hp.objs.size + 1) (exo (hp.objs.size + 1) C none)) ⟨(hp.push (PySem.W.kdv_tup [])).push (PySem.HandSPX.excO C hp.objs.size), g, dr, tk, os⟩ :=
    I1.laid (t' := tk) (a := hp.objs.size + 1) (o := exo (hp.objs.size + 1) C none) (h' := (hp.push (PySem.W.kdv_tup [])).push (PySem.HandSPX.excO C hp.objs.size)) kk hsz (exo_ok hget)
  have hq : spX0 C [V.ref (hp.objs.size + 1)] (upd H1 (hp.objs.size + 1) (exo (hp.objs.size + 1) C none)) (fun v H2 => v = .non ∧ H2 = upd H1 (hp.objs.size + 1) (exo (hp.objs.size + 1) C none)) (fun _ _ _ => False) := ⟨_, rfl, upd_same, rfl, rfl⟩
  have r2 : L2.Vals [V.ref (hp.objs.size + 1)] [Value.ref (hp.objs.size + 1)] := .cons rfl .nil
  have hl : ([Value.ref (hp.objs.size + 1)]).length = ps.length := by
    have e := r2.length
    rw [F1.len _ _ _ _ hq] at e
    exact e.symm
  refine wpAny_call (PySem.HandSPX.call_own F.excBase_ValueError (fun Y => PySem.HandSPX.refsVE_contains Y bm hbm) (I1.kIn _ _ hC) (PySem.W.looks_findIn I1.kIn iC) (fun self => PySem.W.bind_fn I1.kIn self tI) (by simp)
    (codeAny_mono (F1.run _ X.stack _ _ ⟨[Value.ref (hp.objs.size + 1)], []⟩ [Value.ref (hp.objs.size + 1)] _ _ (fun _ _ _ => False) (hr.make C [] []) (I2.env0.make C [] []) (hb _ [Value.ref (hp.objs.size + 1)] I2.kIn hl) r2 hq) fun r s' hq' => ?_))
  cases r with
  | error er => exact hx pins σ _ _ er s' I2 hq'
  | ok fl =>
    cases fl with
    | ret u =>
      obtain ⟨v, H2, os2, bare2, un2, hok2, rv, ev, e2⟩ := hq'
      subst ev e2
      obtain ⟨h2, g2, d2, t2, os'⟩ := s'
      exact ⟨rv, mk_fin0 (raises_own T.exC T.tyC) I1 hsz kk un2 hok2 os2 bare2 q⟩
    | next => exact False.elim hq'
    | brk => exact False.elim hq'
    | cont => exact False.elim hq'
theorem lookup_mem {k : Str} {v : V} : ∀ {l : List (Str × V)}, (l.map (·.1)).Nodup → (k, v) ∈ l → l.lookup k = some v
  | [], _, h => by cases h
  | (k2, v2) :: l, nd, h => by
    rw [List.map_cons, List.nodup_cons] at nd
    rcases List.mem_cons.mp h with e | h
    · cases e
      simp [List.lookup]
    · have ne : k ≠ k2 := fun e => nd.1 (by rw [← e]; exact List.mem_map.mpr ⟨(k, v), h, rfl⟩)
      have : (k == k2) = false := by simpa using ne
      simp only [List.lookup, this]
      exact lookup_mem nd.2 h
theorem zip_keys : ∀ {fs : List Str} {vs : List V}, vs.length = fs.length → (fs.zip vs).map (·.1) = fs
  | [], [], _ => rfl
  | f :: fs, v :: vs, h => by
    rw [List.zip_cons_cons, List.map_cons, zip_keys (by simpa using h)]
theorem lk_mem {g : Gw} {G : Gh} {H : Hp} {f : String} {w : W} : ∀ {ns : List String} {ws : List W} {vs : List V}, RVs g G H ws vs → lk f ns ws = some w → ∃ v, (Str.ofString f, v) ∈ (ns.map Str.ofString).zip vs ∧ RV g G H w v
  | [], _, _, _, h => by unfold lk at h; cases h
  | n :: ns, [], _, _, h => by unfold lk at h; cases h
  | n :: ns, u :: ws, vs, r, h => by
    unfold RVs at r
    obtain ⟨x, ys, rfl, r1, r2⟩ := r
    unfold lk at h
    split at h
    · rename_i e
      cases h
      subst e
      exact ⟨x, List.mem_cons_self .., r1⟩
    · obtain ⟨v, h1, h2⟩ := lk_mem r2 h
      exact ⟨v, List.mem_cons_of_mem _ h1, h2⟩
theorem lk_look {g : Gw} {G : Gh} {H : Hp} {f : String} {w : W} {ns : List String} {ws : List W} {vs : List V} (nd : (ns.map Str.ofString).Nodup) (hl : vs.length = ns.length) (r : RVs g G H ws vs) (h : lk f ns ws = some w) :
    ∃ v, ((ns.map Str.ofString).zip vs).reverse.lookup (Str.ofString f) = some v ∧ RV g G H w v := by
  obtain ⟨v, h1, h2⟩ := lk_mem r h
  refine ⟨v, lookup_mem ?_ (List.mem_reverse.mpr h1), h2⟩
  rw [List.map_reverse, zip_keys (by rw [hl, List.length_map]) ]
  exact (List.reverse_perm _).nodup_iff.mpr nd
end Mp
namespace Mp
open PySem PySem.Spec PyProof.Rows L2
/-! ### a try whose clauses may name the exception or not, in any order -/
/-- a clause: its class, its suite; a name's slot -/
inductive Cla where
  | un (c : Value) (ts : Addr → Value → Option Addr → TS)
  | nm (c : Value) (i : Nat) (ts : Addr → Value → Option Addr → TS)
/-- behind a suite its name is gone -/
def unD (i : Nat) (D : Ends) : Ends := { nx := fun τ J => D.nx (τ.set i none) J, rt := D.rt, bk := fun τ J => D.bk (τ.set i none) J, ct := fun τ J => D.ct (τ.set i none) J }
def wMix (K : PySem.W.Frag) (Wo : WX) (D : Ends) : List Cla → WX
  | [] => Wo
  | .un c ts :: r => fun cls d σ H => ∃ b, PySem.W.exmOne K cls c = some b ∧ (b = true → ∀ a, H a = none → ts a cls d D σ H) ∧ (b = false → wMix K Wo D r cls d σ H)
  | .nm c i ts :: r => fun cls d σ H => ∃ b, PySem.W.exmOne K cls c = some b ∧ (b = true → ∀ a, H a = none → ts a cls d (unD i D) (σ.set i (some (.ref a))) H) ∧ (b = false → wMix K Wo D r cls d σ H)
/-- what a suite promises -/
def SuOk (X : Cx) (sts : List Stmt) (ts : Addr → Value → Option Addr → TS) : Prop := ∀ (a : Addr) (oe : Obj) (cls : Value) (d : Option Addr) (pn : List (Addr × Obj)), Zc cls d oe → (∃ vs, oe.data = .fields vs) → PSs (X.suite a ((a, oe) :: pn)) sts (ts a cls d)
inductive HdM (X : Cx) : List ExceptHandler → List Cla → Prop
  | nil : HdM X [] []
  | un {x : Str} {c : Value} {ts : Addr → Value → Option Addr → TS} {st : Stmt} {sts : List Stmt} {np p : Pos} {hds : List ExceptHandler} {l : List Cla} (hc : Names X x c) (su : SuOk X (st :: sts) ts) (r : HdM X hds l) :
      HdM X (.ExceptHandler (some (.Name x np)) none (st :: sts) p :: hds) (.un c ts :: l)
  | nm {x m : Str} {c : Value} {i : Nat} {ts : Addr → Value → Option Addr → TS} {st : Stmt} {sts : List Stmt} {np p : Pos} {hds : List ExceptHandler} {l : List Cla} (hc : Names X x c) (hi : X.N[i]? = some m) (hl : X.env.kindOf m = some .local) (su : SuOk X (st :: sts) ts) (r : HdM X hds l) :
      HdM X (.ExceptHandler (some (.Name x np)) (some m) (st :: sts) p :: hds) (.nm c i ts :: l)
section
variable {X : Cx} {body : List Stmt} {h₀ : ExceptHandler} {hds : List ExceptHandler} {l : List Cla} {pos : Pos} {tb : WX → TS} {Wo : WX}
/-- the exception has landed: the clauses, one after the other -/
theorem mix_go (hs : X.stack = X.env :: X.outer) (hf : X.env.frame = some X.env.locals) (hN : X.N.Nodup) (tk : Takes X Wo) {pins : List (Addr × Obj)} {D : Ends} {a : Addr} {B : Heap} {sI u : Shared} {σ : L2.St} {H : Hp} {cls : Value} {d : Option Addr}
    (J : Inv X pins σ H sI) (nb : ∀ b o, sI.heap.get? b = some o → b ∉ frs X.stack → B.get? b = some o) (up : sI.heap.UpToSlots u.heap) (fl : HandSPX.FlyingZ B (X.env :: X.outer) a (Zc cls d) u.heap) (na : H a = none) (os : u.os = sI.os) (ag : AllBare u.gens) :
    ∀ {hds : List ExceptHandler} {l : List Cla}, HdM X hds l → wMix X.K Wo D l cls d σ H → wpAny (model X.prog X.w) X.A (handleBy (.ref a) X.env hds) (SP X pins D) X.xe u := by
  have ok := J.ok
  have Ju : Inv X pins σ H u := J.landed nb fl.1 up os ag
  obtain ⟨ob, ws, eo, zo, ed⟩ := fl.there
  have away : a ∉ frs (X.env :: X.outer) := fun hm => by
    obtain ⟨_, o2, e2, hnf⟩ := fl.2.2.1.mem hm
    rw [eo] at e2
    cases e2
    exact hnf _ ed
  have nl : a ≠ X.env.locals := fun z => away (List.mem_filterMap.mpr ⟨X.env, List.mem_cons_self, by rw [hf, z]⟩)
  have nf : a ∉ X.fs := fun hm => by
    obtain ⟨en, he, q⟩ := List.mem_filterMap.mp hm
    exact away (List.mem_filterMap.mpr ⟨en, List.mem_cons_of_mem _ he, q⟩)
  have Su := Ju.suite eo ed na nl nf
  have named : ∀ {x : Str} {c : Value} {np : Pos} {Q : Value → Shared → Prop} {E : Value → Shared → Prop}, Names X x c → Q c u → wpAny (model X.prog X.w) (X.A.mark (some (.ref a))) (eval (.Name x np) X.env) Q E u := fun {x c np Q E} hc q => by
    obtain ⟨hg, hdbg, hm | ⟨hm, hv, hnn⟩⟩ := hc
    · exact ld_glob (X := X.suite a ((a, ob) :: (X.pn ++ pins))) Su hg hm q hdbg
    · exact ld_blt (X := X.suite a ((a, ob) :: (X.pn ++ pins))) Su hg hm hv q hnn hdbg
  have looks : ∀ {c : Value} {b : Bool}, PySem.W.exmOne X.K cls c = some b → _ := fun {c b} hb => PySem.W.exm_one (M := model X.prog X.w) Ju.kIn (fun A Q E s k q => wpAny_typeOf_ref (k _ _ eo) (by rw [zo.1]; exact q)) hb
  intro hds l hk
  induction hk with
  | nil =>
    intro w
    refine wpAny_handleBy_nil ?_
    obtain ⟨_, _, _, oe, vs, T, oT, _, he, _, hd, h1, _⟩ := id fl
    have fin : wpAny (model X.prog X.w) X.A (setFlight (.ref a) X.env.frame) (fun _ s4 => wpAny (model X.prog X.w) X.A (throw (.ref a) : Sem Flow) (SP X pins D) X.xe s4) X.xe u := by
      rw [hf]
      refine HandSPX.setFlight_upZ fl fun h4 hh4 up4 => wpAny_throw (tk _ _ ?_)
      exact ⟨a, B, sI, pins, σ, H, cls, d, rfl, J, nb, up.trans up4, .inr (.inr (by rw [hs]; exact hh4)), na, os, ag, w⟩
    unfold PySem.passOn
    refine wpAny_bind (wpAny_field he hd h1 ?_)
    rw [if_neg (by simp : ¬ ((Value.ref T == Value.none) = true))]
    first
      | exact wpAny_bind fin
      | exact wpAny_bind (wpAny_pure (wpAny_bind fin))
  | @un x c ts st sts np p hds2 l2 hc su r ih =>
    intro w
    obtain ⟨b, hb, hy, hn⟩ := w
    refine wpAny_handleBy_cons (codeAny_handlers_test ?_) (by intro q; cases q)
    refine named hc ((looks hb).here ?_)
    cases b with
    | false => exact ih (hn rfl)
    | true =>
      refine codeAny_handlers_suite (HandSPX.lands_againZ fl fun h4 fl4 up4 => ?_)
      have J4 : Inv X pins σ H { u with heap := h4 } := J.landed nb fl4.1 (up.trans up4) os ag
      obtain ⟨o4, _, e4, z4, d4⟩ := fl4.there
      refine wpAny_mono ((su a o4 cls d (X.pn ++ pins) z4 ⟨_, d4⟩).run [] _ _ H _ (J4.suite e4 d4 na nl nf) (hy rfl a na)) (fun f s6 hsp => ?_) fun _ _ z => z.elim
      cases f with
      | ret k =>
        obtain ⟨v6, σ6, H6, S6, r6, q6⟩ := hsp
        exact ⟨_, _, _, S6.unsuite ok, r6, q6⟩
      | _ =>
        obtain ⟨σ6, H6, S6, q6⟩ := hsp
        exact ⟨_, _, S6.unsuite ok, q6⟩
  | @nm x m c i ts st sts np p hds2 l2 hc hi hl su r ih =>
    intro w
    obtain ⟨b, hb, hy, hn⟩ := w
    refine wpAny_handleBy_cons (codeAny_handlers_test ?_) (by intro q; cases q)
    refine named hc ((looks hb).here ?_)
    cases b with
    | false => exact ih (hn rfl)
    | true =>
      refine codeAny_handlers_suite_as (HandSPX.lands_againZ fl fun h4 fl4 up4 => ?_)
      have J4 : Inv X pins σ H { u with heap := h4 } := J.landed nb fl4.1 (up.trans up4) os ag
      obtain ⟨o4, _, e4, z4, d4⟩ := fl4.there
      refine store_ok (X := X.suite a ((a, o4) :: (X.pn ++ pins))) (v := .ref a) (J4.suite e4 d4 na nl nf) hN hi (.inl hl) rfl (fun s5 S5 => ?_) (.inr hl)
      refine wpAny_mono ((su a o4 cls d (X.pn ++ pins) z4 ⟨_, d4⟩).run [] s5 _ H _ S5 (hy rfl a na)) (fun f s6 hsp => ?_) fun _ _ z => z.elim
      have gone : ∀ {σ6 : L2.St} {H6 : Hp} {Q : Shared → Prop}, Inv (X.suite a ((a, o4) :: (X.pn ++ pins))) [] σ6 H6 s6 → (∀ s7, Inv X pins (σ6.set i none) H6 s7 → Q s7) →
          wpAny (model X.prog X.w) X.A (do bindName X.env m .none; unbindBehindTheSuite X.env m p) (fun _ s7 => Q s7) X.xe s6 := fun S6 hq => gone_ok (S6.unsuite ok) hN hi hl hq
      cases f with
      | ret k =>
        obtain ⟨v6, σ6, H6, S6, r6, q6⟩ := hsp
        exact gone S6 fun s7 J7 => ⟨_, _, _, J7, r6, q6⟩
      | _ =>
        obtain ⟨σ6, H6, S6, q6⟩ := hsp
        exact gone S6 fun s7 J7 => ⟨_, _, J7, q6⟩
/-- THE RULE -/
theorem ps_mix (hs : X.stack = X.env :: X.outer) (hf : X.env.frame = some X.env.locals) (hN : X.N.Nodup) (tk : Takes X Wo)
    (hb : ∀ (W : WX) (pn : List (Addr × Obj)) (xe : Value → Shared → Prop), Takes (X.tr pn xe) W → PassesOwn (model X.prog X.w) X.A X.env xe → PSs (X.tr pn xe) body (tb W)) (hh : HdM X (h₀ :: hds) l) :
    PS X (.Try body (h₀ :: hds) [] [] pos) (fun D σ H => tb (wMix X.K Wo D l) D σ H) := by
  refine ⟨fun pins s σ H D I h => wpAny_Try_except ?_⟩
  have ok := I.ok
  have hfr : X.A.frames = some (X.env :: X.outer) := by rw [ok.frames, hs]
  let xe : Value → Shared → Prop := fun e s₁ => wpAny (model X.prog X.w) X.A (noteFrame e X.env) (fun _ s₂ => wpAny (model X.prog X.w) X.A (setFlight e none) (fun _ s₃ => wpAny (model X.prog X.w) X.A (handleBy e X.env (h₀ :: hds)) (SP X pins D) X.xe s₃) X.xe s₂) X.xe s₁
  have catch_ : Takes (X.tr (X.pn ++ pins) xe) (wMix X.K Wo D l) := fun e u xx => by
    obtain ⟨a, B, sI, pins2, τ, G, cls, d, rfl, J', nb, up, sky, na, os, ag, w⟩ := xx
    have sky2 : Sky B (X.env :: X.outer) a (Zc cls d) X.env.locals u.heap := by rw [← hs]; exact sky
    show wpAny _ X.A (noteFrame (.ref a) X.env) _ _ _
    refine Sky.land Zc.steady hfr hf sky2 fun h3 fl3 up3 => ?_
    exact mix_go hs hf hN tk (u := { u with heap := h3 }) (J'.ofTry ok) nb (up.trans up3) fl3 na os ag hh w
  refine wpAny_mono ((hb (wMix X.K Wo D l) (X.pn ++ pins) xe catch_ PassesOwn.looking).run [] s σ H D (I.toTry _) h) (fun f s1 hsp => ?_) fun e s1 he => he
  cases f with
  | next =>
    obtain ⟨τ, G, J, q⟩ := hsp
    exact wpAny_execs_nil ⟨τ, G, J.ofTry ok, q⟩
  | ret v =>
    obtain ⟨w, τ, G, J, r, q⟩ := hsp
    exact ⟨w, τ, G, J.ofTry ok, r, q⟩
  | _ =>
    obtain ⟨τ, G, J, q⟩ := hsp
    exact ⟨τ, G, J.ofTry ok, q⟩
end
end Mp
namespace Mp
open PySem PySem.Spec PyProof.Rows L2
/-! ### raise, and the clauses of a try -/
/-- C(), C an own class of exceptions that has no own start -/
theorem mk_bare {X : Cx} {C : Addr} {y : Str} {p pos : Pos} (q : PySem.W.excIn X.K C veB "ValueError.__new__" = true) (at_ : X.mg y = some (.ref C)) (kp : PySem.W.keepIn X.K (.ref C) = true)
    (rs : Raises X (.ref C)) (g : Gl X y) (nd : (y == ("__debug__" : Str)) = false) : PMk X (.Call (.Name y p) [] [] pos) (fun _ H Q => Q (.ref C) none H) := fun pins s σ H Q I hq => by
  apply wpAny_Call_Name_kw
  apply ld_glob I g at_ _ nd
  apply PySem.W.callWith_K0 I.kIn kp
  obtain ⟨bm, Nn, n1, n2, b1, d1, s1, s2, a1, c1, d2, e0, e1, e2, e3, e5, mN, c, n, i, t⟩ := exc_obj I.kIn q
  exact wpAny_call_exc_subT PySem.F.excBase_ValueError t c n i (fun hp e made => mk_of I made rs hq (I.hok.gone made.new)) (Nat.zero_le _)
theorem nst_all {ar : Ar} {N : List Str} {fn : Str → Bool} {sc : Scope} : ∀ {es : E} {x : Expr} {xs : List Expr}, chkA ar N es fn sc (x :: xs) = true → nst x = true ∧ xs.all nst = true
  | .cons e es, x, xs, h => by
    unfold chkA at h
    obtain ⟨a, b⟩ := ba h
    obtain ⟨_, b⟩ := ba b
    refine ⟨a, ?_⟩
    cases xs with
    | nil => rfl
    | cons y ys =>
      obtain ⟨p, q⟩ := nst_all b
      show (nst y && ys.all nst) = true
      rw [p, q]; rfl
section
variable {t : Tp} {cl : Cl} {n : Nat} {ar : Ar} {N : List Str} {X : Cx} {Wx : WX} {fn : Str → Bool} {sc : Scope}
theorem snd_raise (c : Cok t X Wx n N fn sc) (o : t.Ok) {k : String} {es : E} {y : Str} {xs : List Expr} {p p1 pos : Pos} (h1 : seq y k = true) (h2 : gl sc y = true) (h3 : okName y = true) (h4 : chkA ar N es fn sc xs = true) (ha : PA X xs (tA t cl Wx es)) :
    PS X (.Raise (some (.Call (.Name y p) xs [] p1)) none pos) (tS t cl Wx (.raise k es)) := by
  cases hx : t.T.ex k with
  | none => exact ⟨fun pins s σ H D I ⟨G, ls, lh, re, rp, h⟩ => by
      have e : evS t.T cl (.raise k es) ls lh = .no := by cases es <;> simp [evS, hx]
      rw [e] at h
      exact h.elim⟩
  | some ns =>
    rcases o.ex k ns hx with ⟨e0, f⟩ | ⟨e0, f⟩
    rotate_left
    · cases xs with
      | nil =>
        cases es with
        | nil =>
          refine ⟨fun pins s σ H D I ⟨G, ls, lh, re, rp, h⟩ => ?_⟩
          rw [show evS t.T cl (.raise k .nil) ls lh = .no by simp [evS, hx, e0]] at h
          exact h.elim
        | _ => unfold chkA at h4; cases h4
      | cons x xs =>
        have ey := seq_eq h1
        subst ey
        obtain ⟨fI, fd, NN, i1, i2, i3, i4⟩ := f.ini
        have f1 := f.at_
        have f2 := f.oex
        rw [← c.hK] at f2 i1 i2 i3 i4
        rw [← c.hmg] at f1
        rw [← c.hP, ← c.hw, ← c.hmg, ← c.hb] at i4
        obtain ⟨es1, es2, rfl⟩ : ∃ a b, es = .cons a b := by
          cases es <;> first | (unfold chkA at h4; cases h4; done) | exact ⟨_, _, rfl⟩
        have hs := nst_all h4
        refine ps_imp (ps_raise c.calm c.tk (pmk_oex f2 i1 i2 i4 (c.room.mono (by omega)) i3 .nil pass_no (c.gl h2) f1 ha (okName_d h3) (star_cons hs.1) (star_any hs.2))) fun D σ H h => ?_
        obtain ⟨G, ls, lh, re, rp, h⟩ := h
        simp only [evS, hx] at h
        refine ⟨G, ls, lh, re, rp, PostS.toS' (D := D) re h fun w l1 G1 H1 vs _ e1 rp1 rv h1 => ?_⟩
        by_cases hlen : ns.length = (items w).length
        · rw [if_pos hlen] at h1
          have hv : vs.length = ns.length := by rw [hlen, ← RVs.length rv]
          refine mkO_of (C := t.g.ca k) (H1 := H1) (Q := fun cls d H2 => Wx cls d σ H2) (fs := ns.map Str.ofString) (by rw [hv, List.length_map]) (by rw [List.length_map]; exact f.len) fun d hd => ?_
          have nw := Rep.new (o := .xd ((ns.map Str.ofString).zip vs).reverse) rp1 hd True
          exact h1 _ _ _ _ _ nw.1 nw.2 ((re.mono e1.toMono).mono nw.1.toMono) ⟨rfl, hlen, .inr ⟨d, _, rfl, .inr ⟨trivial, rfl⟩, upd_same, fun g u hg => lk_look f.nd hv (rv.mono nw.1.toMono) hg⟩⟩
        · rw [if_neg hlen] at h1
          exact h1.elim
    subst e0
    cases es with
    | nil =>
      cases xs with
      | cons x xs => unfold chkA at h4; cases h4
      | nil =>
        have ey := seq_eq h1
        subst ey
        have h := f
        have mk : PMk X (.Call (.Name (Str.ofString k) p) [] [] p1) (fun _ H Q => Q (.ref (t.g.ca k)) none H) := by
          rcases h with f | f
          · have f1 := f.at_
            have f2 := f.ein
            have f3 := f.keep
            have f4 := f.sub
            have f5 := f.typ
            rw [← c.hK] at f2 f3 f4 f5
            rw [← c.hmg] at f1
            exact mk_bare f2 f1 f3 (raises_own f4 f5) (c.gl h2) (okName_d h3)
          · obtain ⟨fI, fd, NN, i1, i2, i3, i4⟩ := f.ini
            have f1 := f.at_
            have f2 := f.oex
            rw [← c.hK] at f2 i1 i2 i3 i4
            rw [← c.hmg] at f1
            rw [← c.hP, ← c.hw, ← c.hmg, ← c.hb] at i4
            exact pmk_oex0 f2 i1 i2 i4 (c.room.mono (by omega)) i3 pass_no (c.gl h2) f1 (okName_d h3)
        refine ps_imp (ps_raise c.calm c.tk mk) fun D σ H h => ?_
        obtain ⟨G, ls, lh, re, rp, h⟩ := h
        simp [evS, hx] at h
        exact h _ _ _ _ _ Ext.refl rp re ⟨rfl, rfl, .inl rfl⟩
    | _ => exact ⟨fun pins s σ H D I ⟨G, ls, lh, re, rp, h⟩ => by
        rw [show evS t.T cl _ ls lh = .no by simp [evS, hx]] at h
        exact h.elim⟩
end
mutual
theorem hx_chk {ar : Ar} {N : List Str} {fn : Str → Bool} {sc : Scope} : ∀ (e : E) (x : Expr), chkHx N e sc x = true → chkE ar N e fn sc x = true := fun e x h => by
  unfold chkHx at h
  split at h
  · unfold chkE; exact h
  · unfold chkE; exact h
  · obtain ⟨a, b⟩ := ba h
    unfold chkE
    rw [a, hx_chkA _ _ b]; rfl
  · obtain ⟨a, b⟩ := ba h
    unfold chkE
    rw [a, hx_chkA _ _ b]; rfl
  · cases h
termination_by e => sizeOf e
theorem hx_chkA {ar : Ar} {N : List Str} {fn : Str → Bool} {sc : Scope} : ∀ (e : E) (xs : List Expr), chkHA N e sc xs = true → chkA ar N e fn sc xs = true := fun e xs h => by
  unfold chkHA at h
  split at h
  · unfold chkA; rfl
  · obtain ⟨a, b⟩ := ba h
    obtain ⟨b, d⟩ := ba b
    unfold chkA
    rw [a, hx_chk _ _ b, hx_chkA _ _ d]; rfl
  · cases h
termination_by e => sizeOf e
end
section
variable {t : Tp} {cl : Cl} {N : List Str} {X : Cx} {W : WX} {fn : Str → Bool} {sc : Scope}
mutual
/-- expressions of suites -/
theorem hx_pe (hN : X.N = N) (hsc : X.env.scope = sc) : ∀ (e : E) (x : Expr), chkHx N e sc x = true → PE X x (tE t cl W e) := fun e x h => by
  unfold chkHx at h
  split at h
  · exact snd_cst h
  · obtain ⟨a, b⟩ := ba h
    obtain ⟨b, d⟩ := ba b
    refine pe_imp (pe_var (by rw [hN]; exact of_decide_eq_true a) (by rw [hsc]; exact vis_of b) (okName_d d) (okName_c d)) fun σ H Q h => ?_
    obtain ⟨G, ls, lh, re, rp, h⟩ := h
    simp only [evE] at h
    split at h
    · rename_i w hw
      obtain ⟨v, e, rv⟩ := re.2 _ w hw
      exact ⟨v, e, h.here rp rv⟩
    · exact h.elim
  · obtain ⟨a, b⟩ := ba h
    exact snd_tup (ar := fun _ => none) (fn := fun _ => true) (hx_pa hN hsc _ _ b) (hx_chkA _ _ b) (of_decide_eq_true a)
  · obtain ⟨a, b⟩ := ba h
    exact snd_lst (ar := fun _ => none) (fn := fun _ => true) (hx_pa hN hsc _ _ b) (hx_chkA _ _ b) (of_decide_eq_true a)
  · cases h
termination_by e => sizeOf e
theorem hx_pa (hN : X.N = N) (hsc : X.env.scope = sc) : ∀ (e : E) (xs : List Expr), chkHA N e sc xs = true → PA X xs (tA t cl W e) := fun e xs h => by
  unfold chkHA at h
  split at h
  · exact snd_nil
  · obtain ⟨a, b⟩ := ba h
    obtain ⟨b, d⟩ := ba b
    exact snd_cons a (hx_pe hN hsc _ _ b) (hx_pa hN hsc _ _ d)
  · cases h
termination_by e => sizeOf e
end
/-- a suite -/
theorem snd_suite (hN : X.N = N) (hsc : X.env.scope = sc) (hfn : X.fn = fn) (nd : N.Nodup) : ∀ (s : S) (sts : List Stmt), chkU N s fn sc sts = true → PSs X sts (tS t cl W s)
  | s, sts, h => by
    unfold chkU at h
    split at h
    · exact snd_snil
    · exact snd_seq (snd_ret (hx_pe hN hsc _ _ h)) snd_snil
    · obtain ⟨a1, a2⟩ := ba h
      obtain ⟨a3, a4⟩ := ba a2
      obtain ⟨a5, a6⟩ := ba a4
      obtain ⟨a7, a8⟩ := ba a6
      exact snd_seq (ps_imp (ps_set (by rw [hN]; exact nd) (by rw [hN]; exact of_decide_eq_true a1) (by rw [hsc]; exact stOk_loc a3) (hx_pe hN hsc _ _ a7) (swaps_n a5) (by rw [hfn, hsc]; exact stOk_fn a3)) fun D σ H h => asg_imp h) (snd_suite hN hsc hfn nd _ _ a8)
    · cases h
termination_by s => sizeOf s
end
/-! ### a clause that names the exception -/
theorem lk_in {f : String} {w : W} : ∀ {ns : List String} {ws : List W}, lk f ns ws = some w → f ∈ ns
  | [], _, h => by unfold lk at h; cases h
  | n :: ns, [], h => by unfold lk at h; cases h
  | n :: ns, u :: ws, h => by
    unfold lk at h
    split at h
    · rename_i e; rw [e]; exact List.mem_cons_self ..
    · exact List.mem_cons_of_mem _ (lk_in h)
/-- what stands in a suite: slot i the exception, at a -/
structure InSu (t : Tp) (x : String) (ns : List String) (fs : List W) (i : Nat) (a : Addr) (cls : Value) (d : Option Addr) (G : Gh) (ls : Env) (lh : LH) (σ : Sst) (H : Hp) : Prop where
  re : REnv t.g G H ls σ
  rp : Rep t.g G lh H
  at_ : σ[i]? = some (some (.ref a))
  rx : RX t.g G H x ns fs cls d
theorem RX.mono {g : Gw} {G G' : Gh} {H H' : Hp} {c : String} {ns : List String} {fs : List W} {cls : Value} {d : Option Addr} (r : RX g G H c ns fs cls d) (m : Mono g G H G' H') : RX g G' H' c ns fs cls d := by
  refine ⟨r.1, r.2.1, ?_⟩
  rcases r.2.2 with e | ⟨dd, fl, e1, e0, e2, e3⟩
  · exact .inl e
  · exact .inr ⟨dd, fl, e1, (m.fz dd e0).1, by rw [(m.fz dd e0).2]; exact e2, fun f w h => by obtain ⟨v, q1, q2⟩ := e3 f w h; exact ⟨v, q1, q2.mono m⟩⟩
theorem InSu.go {t : Tp} {x : String} {ns : List String} {fs : List W} {i : Nat} {a : Addr} {cls : Value} {d : Option Addr} {G G1 : Gh} {ls : Env} {lh l1 : LH} {σ : Sst} {H H1 : Hp} (u : InSu t x ns fs i a cls d G ls lh σ H) (e : Ext t.g G H G1 H1) (rp : Rep t.g G1 l1 H1) :
    InSu t x ns fs i a cls d G1 ls l1 σ H1 := ⟨u.re.mono e.toMono, rp, u.at_, u.rx.mono e.toMono⟩
section
variable {t : Tp} {i : Nat} {a : Addr} {cls : Value} {d : Option Addr}
def tHy (t : Tp) (i : Nat) (a : Addr) (cls : Value) (d : Option Addr) (e : E) : TE := fun σ H Q => ∃ (x : String) (ns : List String) (fs : List W) (G : Gh) (ls : Env) (lh : LH), InSu t x ns fs i a cls d G ls lh σ H ∧ PostG t.g (RV t.g) G H (evHx t.T x ns fs i e ls lh) Q (fun _ _ _ => False)
def tHz (t : Tp) (i : Nat) (a : Addr) (cls : Value) (d : Option Addr) (e : E) : TA := fun σ H Q => ∃ (x : String) (ns : List String) (fs : List W) (G : Gh) (ls : Env) (lh : LH), InSu t x ns fs i a cls d G ls lh σ H ∧ PostG t.g (relA t.g) G H (evHx t.T x ns fs i e ls lh) Q (fun _ _ _ => False)
theorem lenZ {N : List Str} {sc : Scope} {ns : List String} {fs : List W} : ∀ {e : E} {xs : List Expr} {ls : Env} {lh l1 : LH} {w : W}, chkHz N i e sc xs = true → evHx t.T x ns fs i e ls lh = .ok w l1 → (items w).length = xs.length
  | .nil, [], _, _, _, _, _, h => by simp only [evHx] at h; cases h; rfl
  | .cons e es, y :: ys, ls, lh, l1, w, hc, h => by
    unfold chkHz at hc
    obtain ⟨_, b⟩ := ba hc
    obtain ⟨_, b⟩ := ba b
    simp only [evHx] at h
    obtain ⟨w1, l2, _, h⟩ := bind_ok h
    obtain ⟨w2, l3, h2, h⟩ := bind_ok h
    cases h
    show (items w2).length + 1 = _
    rw [lenZ b h2]; rfl
  | .nil, _ :: _, _, _, _, _, hc, _ => by unfold chkHz at hc; cases hc
  | .cons _ _, [], _, _, _, _, hc, _ => by unfold chkHz at hc; cases hc
variable {N : List Str} {X : Cx} {sc : Scope} {oe : Obj} {pn : List (Addr × Obj)}
mutual
theorem hy_pe (o : t.Ok) (hK : X.K = t.g.K) (hN : X.N = N) (hsc : X.env.scope = sc) (hz : Zc cls d oe) (hf : ∃ vs, oe.data = .fields vs) : ∀ (e : E) (y : Expr), chkHy N i e sc y = true → PE (X.suite a ((a, oe) :: pn)) y (tHy t i a cls d e) := fun e y h => by
  unfold chkHy at h
  split at h
  · refine pe_imp (snd_cst (t := t) (cl := fun _ _ _ => .no) (Wx := fun _ _ _ _ => False) h) fun σ H Q ⟨x, ns, fs, G, ls, lh, u, h⟩ => ⟨G, ls, lh, u.re, u.rp, ?_⟩
    simp only [evHx] at h
    simp only [evE]
    exact h
  · obtain ⟨a0, b⟩ := ba h
    obtain ⟨a1, b⟩ := ba b
    obtain ⟨b, dd⟩ := ba b
    refine pe_imp (pe_var (by show X.N[_]? = _; rw [hN]; exact of_decide_eq_true a1) (by show Vis X.env.scope _; rw [hsc]; exact vis_of b) (okName_d dd) (okName_c dd)) fun σ H Q ⟨x, ns, fs, G, ls, lh, u, h⟩ => ?_
    simp only [evHx, of_decide_eq_true a0, if_false] at h
    split at h
    · rename_i w hw
      obtain ⟨v, e, rv⟩ := u.re.2 _ w hw
      exact ⟨v, e, h.here u.rp rv⟩
    · exact h.elim
  · obtain ⟨a0, b⟩ := ba h
    refine pe_imp (pe_tup (hy_pa o hK hN hsc hz hf _ _ b)) fun σ H Q ⟨x, ns, fs, G, ls, lh, u, h⟩ => ?_
    simp only [evHx] at h
    refine ⟨x, ns, fs, G, ls, lh, u, h.bind fun w l1 G1 H1 vs eq e1 rp1 rv h1 => ⟨?_, fun p hp => post_tup rp1 rv h1 hp⟩⟩
    rw [← RVs.length rv, lenZ b eq]
    exact big_line (of_decide_eq_true a0)
  · obtain ⟨a0, b⟩ := ba h
    refine pe_imp (pe_lst (hy_pa o hK hN hsc hz hf _ _ b)) fun σ H Q ⟨x, ns, fs, G, ls, lh, u, h⟩ => ?_
    simp only [evHx] at h
    refine ⟨x, ns, fs, G, ls, lh, u, h.bind fun w l1 G1 H1 vs eq e1 rp1 rv h1 => ⟨?_, fun p hp => post_fl rp1 rv h1 hp⟩⟩
    rw [← RVs.length rv, lenZ b eq]
    exact big_line (of_decide_eq_true a0)
  · rename_i j f y p z q
    obtain ⟨a0, b⟩ := ba h
    obtain ⟨a1, b⟩ := ba b
    obtain ⟨b, dd⟩ := ba b
    have ey := seq_eq a0
    subst ey
    by_cases hx : ∃ x0 ns, cls = .ref (t.g.ca x0) ∧ t.T.ex x0 = some ns ∧ f ∈ ns
    · obtain ⟨x0, ns0, hcl, hx, hm⟩ := hx
      rcases o.ex x0 ns0 hx with ⟨e0, _⟩ | ⟨_, k⟩
      · rw [e0] at hm; cases hm
      · have xf := k.xf
        have no := k.no f hm
        rw [← hK] at xf no
        refine pe_imp (pe_xf xf no hz hf (pe_var (i := j) (by show X.N[_]? = _; rw [hN]; exact of_decide_eq_true a1) (by show Vis X.env.scope _; rw [hsc]; exact vis_of b) (okName_d dd) (okName_c dd)) (attr_base rfl)) fun σ H Q ⟨x, ns, fs, G, ls, lh, u, h⟩ => ?_
        simp only [evHx] at h
        split at h
        · rename_i c0
          obtain ⟨c1, c2⟩ := c0
          subst c1
          split at h
          · rename_i w hw
            rcases u.rx.2.2 with e | ⟨d1, fl, e1, e0, e2, e3⟩
            · rw [e] at hw; unfold lk at hw; cases hw
            · obtain ⟨v, q1, q2⟩ := e3 f w hw
              exact ⟨_, u.at_, rfl, hcl, d1, fl, v, e1, e2, q1, h.here u.rp q2⟩
          · exact h.elim
        · exact h.elim
    · refine ⟨fun pins s σ H Q I ⟨x, ns, fs, G, ls, lh, u, h⟩ => ?_⟩
      simp only [evHx] at h
      split at h
      · rename_i c0
        split at h
        · rename_i w hw
          exact absurd ⟨x, ns, u.rx.1, c0.2, lk_in hw⟩ hx
        · exact h.elim
      · exact h.elim
  · cases h
termination_by e => sizeOf e
theorem hy_pa (o : t.Ok) (hK : X.K = t.g.K) (hN : X.N = N) (hsc : X.env.scope = sc) (hz : Zc cls d oe) (hf : ∃ vs, oe.data = .fields vs) : ∀ (e : E) (xs : List Expr), chkHz N i e sc xs = true → PA (X.suite a ((a, oe) :: pn)) xs (tHz t i a cls d e) := fun e xs h => by
  unfold chkHz at h
  split at h
  · refine pa_imp pa_nil fun σ H Q ⟨x, ns, fs, G, ls, lh, u, h⟩ => ?_
    simp only [evHx] at h
    exact PostG.here (rel := relA t.g) h u.rp RVs.nil
  · obtain ⟨a0, b⟩ := ba h
    obtain ⟨b, dd⟩ := ba b
    refine pa_imp (pa_cons (hy_pe o hK hN hsc hz hf _ _ b) (hy_pa o hK hN hsc hz hf _ _ dd) (star_cons a0)) fun σ H Q ⟨x, ns, fs, G, ls, lh, u, h⟩ => ?_
    simp only [evHx] at h
    refine ⟨x, ns, fs, G, ls, lh, u, h.bind fun w l1 G1 H1 v _ e1 rp1 rv h1 => ⟨x, ns, fs, G1, ls, l1, u.go e1 rp1, h1.bind fun w2 l2 G2 H2 vs _ e2 rp2 rvs h2 => ?_⟩⟩
    exact h2.here rp2 (RVs.cons (rv.mono e2.toMono) rvs)
  · cases h
termination_by e => sizeOf e
end
end
theorem REnv.unsetV {g : Gw} {G : Gh} {H : Hp} {ls : Env} {σ : Sst} (r : REnv g G H ls σ) (i : Nat) (v : Option V) : REnv g G H (ls.set i none) (σ.set i v) := by
  refine ⟨by simp [r.1], fun j u e => ?_⟩
  by_cases h : i = j
  · subst h
    have hl : i < ls.length := by
      have := (List.getElem?_eq_some_iff.mp e).1
      simpa using this
    rw [List.getElem?_set_self hl] at e
    cases e
  · rw [List.getElem?_set_ne h] at e
    rw [List.getElem?_set_ne h]
    exact r.2 j u e
section
variable {t : Tp} {i : Nat} {a : Addr} {cls : Value} {d : Option Addr} {N : List Str} {X : Cx} {fn : Str → Bool} {sc : Scope} {oe : Obj} {pn : List (Addr × Obj)}
def tSu (t : Tp) (i : Nat) (a : Addr) (cls : Value) (d : Option Addr) (s : S) : TS := fun D σ H => ∃ (x : String) (ns : List String) (fs : List W) (G : Gh) (ls : Env) (lh : LH), InSu t x ns fs i a cls d G ls lh σ H ∧ PostS t.g G H (evSu t.T x ns fs i s ls lh) D (fun _ _ _ _ => False)
theorem su_sts (o : t.Ok) (hK : X.K = t.g.K) (hN : X.N = N) (hsc : X.env.scope = sc) (hfn : X.fn = fn) (nd : N.Nodup) (hz : Zc cls d oe) (hf : ∃ vs, oe.data = .fields vs) : ∀ (s : S) (sts : List Stmt), chkV N i s fn sc sts = true → PSs (X.suite a ((a, oe) :: pn)) sts (tSu t i a cls d s)
  | s, sts, h => by
    unfold chkV at h
    split at h
    · refine pss_imp pss_nil fun D σ H ⟨x, ns, fs, G, ls, lh, u, h⟩ => ?_
      simp only [evSu] at h
      exact h _ _ _ Ext.refl u.rp u.re
    · refine pss_imp (pss_cons (ps_ret (hy_pe o hK hN hsc hz hf _ _ h)) pss_nil) fun D σ H ⟨x, ns, fs, G, ls, lh, u, h⟩ => ?_
      simp only [evSu] at h
      exact ⟨x, ns, fs, G, ls, lh, u, PostS.toS (D := D) (W' := fun _ _ _ _ => False) u.re h fun w l1 G1 H1 v _ e1 rp1 rv h1 => h1 _ _ _ Ext.refl rp1 rv⟩
    · obtain ⟨a0, a1⟩ := ba h
      obtain ⟨a1, a2⟩ := ba a1
      obtain ⟨a3, a4⟩ := ba a2
      obtain ⟨a5, a6⟩ := ba a4
      obtain ⟨a7, a8⟩ := ba a6
      have ih := su_sts o hK hN hsc hfn nd hz hf _ _ a8
      refine pss_imp (pss_cons (ps_set (by show X.N.Nodup; rw [hN]; exact nd) (by show X.N[_]? = _; rw [hN]; exact of_decide_eq_true a1) (by show Loc X.env.scope _; rw [hsc]; exact stOk_loc a3) (hy_pe o hK hN hsc hz hf _ _ a7) (swaps_n a5) (by show X.fn _ = true ∨ _; rw [hfn]; show _ ∨ X.env.scope.names.lookup _ = _; rw [hsc]; exact stOk_fn a3)) ih) fun D σ H ⟨x, ns, fs, G, ls, lh, u, h⟩ => ?_
      simp only [evSu] at h
      refine ⟨x, ns, fs, G, ls, lh, u, PostS.toS (D := D) (W' := fun _ _ _ _ => False) u.re h fun w l1 G1 H1 v _ e1 rp1 rv h1 => ?_⟩
      have u1 := u.go e1 rp1
      refine ⟨x, ns, fs, G1, _, l1, ⟨u1.re.set rv, rp1, ?_, u1.rx⟩, h1⟩
      rw [List.getElem?_set_ne (of_decide_eq_true a0)]
      exact u.at_
    · cases h
termination_by s => sizeOf s
end
section
variable {t : Tp} {cl : Cl} {n : Nat} {ar : Ar} {N : List Str} {X : Cx} {Wx : WX} {fn : Str → Bool} {sc : Scope}
/-- the clauses -/
def hdL (t : Tp) (cl : Cl) (Wx : WX) : S → List Cla
  | .hdl x none s r => .un (.ref (t.g.ca x)) (fun _ _ _ => tS t cl Wx s) :: hdL t cl Wx r
  | .hdl x (some i) s r => .nm (.ref (t.g.ca x)) i (fun a cls d => tSu t i a cls d s) :: hdL t cl Wx r
  | _ => []
theorem hd_ok (c : Cok t X Wx n N fn sc) (o : t.Ok) : ∀ (hs : S) (hds : List ExceptHandler), hdAll t.T hs = true → chkH ar N hs fn sc hds = true → HdM X hds (hdL t cl Wx hs)
  | hs, hds, ha, h => by
    unfold chkH at h
    split at h
    · exact .nil
    · obtain ⟨a1, a2⟩ := ba h
      obtain ⟨a3, a4⟩ := ba a2
      obtain ⟨a5, a6⟩ := ba a4
      obtain ⟨a7, a8⟩ := ba a6
      obtain ⟨a9, a10⟩ := ba a8
      obtain ⟨a11, a12⟩ := ba a10
      obtain ⟨b1, b2⟩ := ba (show (t.T.xh _ && hdAll t.T _) = true from ha)
      have ey := seq_eq a1
      subst ey
      refine .nm ⟨c.gl a3, okName_d a5, .inl (by rw [c.hmg]; exact o.exg _ b1)⟩ (by rw [c.hN]; exact of_decide_eq_true a7) (by show X.env.scope.names.lookup _ = _; rw [c.hsc]; exact of_decide_eq_true a9) (fun a oe cls d pn hz hd => ?_) (hd_ok c o _ _ b2 a12)
      exact su_sts o c.hK c.hN c.hsc c.hfn c.nd hz hd _ _ a11
    · obtain ⟨a1, a2⟩ := ba h
      obtain ⟨a3, a4⟩ := ba a2
      obtain ⟨a5, a6⟩ := ba a4
      obtain ⟨a7, a8⟩ := ba a6
      obtain ⟨b1, b2⟩ := ba (show (t.T.xh _ && hdAll t.T _) = true from ha)
      have ey := seq_eq a1
      subst ey
      refine .un ⟨c.gl a3, okName_d a5, .inl (by rw [c.hmg]; exact o.exg _ b1)⟩ (fun a oe cls d pn _ _ => ?_) (hd_ok c o _ _ b2 a8)
      exact snd_suite (show (X.suite a ((a, oe) :: pn)).N = N from c.hN) (show (X.suite a ((a, oe) :: pn)).env.scope = sc from c.hsc) (show (X.suite a ((a, oe) :: pn)).fn = fn from c.hfn) c.nd _ _ a7
    · cases h
termination_by hs => sizeOf hs
theorem hd_post (c : Cok t X Wx n N fn sc) (o : t.Ok) {k : String} {ns : List String} {fs : List W} {D : Ends} : ∀ (hs : S) {G : Gh} {H : Hp} {ls : Env} {lh : LH}, hdAll t.T hs = true → PostS t.g G H (evHd t.T cl k ns fs hs ls lh) D Wx →
    ∀ G' H' σ' cls d, Ext t.g G H G' H' → Rep t.g G' lh H' → REnv t.g G' H' ls σ' → RX t.g G' H' k ns fs cls d → wMix X.K Wx D (hdL t cl Wx hs) cls d σ' H'
  | .nil, G, H, ls, lh, _, h, G', H', σ', cls, d, e, rp, re, rx => by
    simp only [evHd] at h
    exact h _ _ _ _ _ e rp re rx
  | .hdl x none s r, G, H, ls, lh, ha, h, G', H', σ', cls, d, e, rp, re, rx => by
    obtain ⟨b1, b2⟩ := ba (show (t.T.xh x && hdAll t.T r) = true from ha)
    simp only [evHd] at h
    split at h
    · rename_i q
      have ex := o.exm k x q.1 q.2
      rw [← rx.1, ← c.hK] at ex
      refine ⟨_, ex, fun hb a na => ?_, fun hb => ?_⟩
      · rw [if_pos hb] at h
        exact ⟨G', ls, lh, re, rp, h.mono e⟩
      · rw [hb] at h
        exact hd_post c o r b2 (by simpa using h) _ _ _ _ _ e rp re rx
    · exact h.elim
  | .hdl x (some i) s r, G, H, ls, lh, ha, h, G', H', σ', cls, d, e, rp, re, rx => by
    obtain ⟨b1, b2⟩ := ba (show (t.T.xh x && hdAll t.T r) = true from ha)
    simp only [evHd] at h
    split at h
    · rename_i q
      have ex := o.exm k x q.1 q.2
      rw [← rx.1, ← c.hK] at ex
      refine ⟨_, ex, fun hb a na => ?_, fun hb => ?_⟩
      · rw [if_pos hb] at h
        split at h
        · rename_i hi
          rw [re.1] at hi
          refine ⟨k, ns, fs, G', ls.set i none, lh, ⟨re.unsetV i _, rp, List.getElem?_set_self hi, rx⟩, ?_⟩
          have h := PostS.mono (show PostS t.g G H ((evSu t.T k ns fs i s (ls.set i none) lh).un i) D Wx from h) e
          cases hq : evSu t.T k ns fs i s (ls.set i none) lh with
          | nx l2 h2 => rw [hq] at h; exact fun G2 H2 σ2 e2 rp2 re2 => h G2 H2 _ e2 rp2 (re2.unset2 i)
          | ret w h2 => rw [hq] at h; exact h
          | brk _ _ => rw [hq] at h; exact h.elim
          | cont _ _ => rw [hq] at h; exact h.elim
          | ex _ _ _ _ _ => rw [hq] at h; exact h.elim
          | no => rw [hq] at h; exact h.elim
        · exact h.elim
      · rw [hb] at h
        exact hd_post c o r b2 (by simpa using h) _ _ _ _ _ e rp re rx
    · exact h.elim
  | .seq _ _, _, _, _, _, ha, _, _, _, _, _, _, _, _, _, _ => by cases ha
theorem snd_try (c : Cok t X Wx n N fn sc) (o : t.Ok) (hs : X.stack = X.env :: X.outer) (hf : X.env.frame = some X.env.locals) {b q : S} {body : List Stmt} {h0 : ExceptHandler} {hds : List ExceptHandler} {pos : Pos}
    (hb : ∀ {W : WX} {pn : List (Addr × Obj)} {xe : Value → Shared → Prop}, Cok t (X.tr pn xe) W n N fn sc → PSs (X.tr pn xe) body (tS t cl W b)) (hh : chkH ar N q fn sc (h0 :: hds) = true) : PS X (.Try body (h0 :: hds) [] [] pos) (tS t cl Wx (.try_ b q)) := by
  by_cases ha : hdAll t.T q = true
  · refine ps_imp (ps_mix hs hf (by rw [c.hN]; exact c.nd) c.tk (tb := fun W => tS t cl W b) (fun W pn xe tk pas => hb ⟨c.hP, c.hw, c.hK, c.hmg, c.hb, c.hN, c.hsc, c.hfn, c.hfun, c.nd, c.calm, c.room, tk, pas⟩) (hd_ok (cl := cl) c o q _ ha hh)) fun D σ H h => ?_
    obtain ⟨G, ls, lh, re, rp, h⟩ := h
    refine ⟨G, ls, lh, re, rp, ?_⟩
    simp only [evS, ha, if_true] at h
    cases hr : evS t.T cl b ls lh with
    | nx l1 h1 => rw [hr] at h; exact h
    | brk l1 h1 => rw [hr] at h; exact h
    | cont l1 h1 => rw [hr] at h; exact h
    | ret w h1 => rw [hr] at h; exact h
    | no => rw [hr] at h; exact h
    | ex k ns fs l1 h1 =>
      rw [hr] at h
      exact hd_post c o q ha h
  · refine ⟨fun pins s σ H D I ⟨G, ls, lh, re, rp, h⟩ => ?_⟩
    simp only [evS, ha] at h
    exact h.elim
end
end Mp
namespace Mp
open PySem PySem.Spec PyProof.Rows L2
section
variable {t : Tp} {cl : Cl} {n : Nat} {ar : Ar} {N : List Str}
/-- THE STATEMENTS -/
theorem snd_sts (o : t.Ok) (A : ∀ e : E, Snd t cl n ar N e) : ∀ (k : Nat) {X : Cx} {Wx : WX} {fn : Str → Bool} {sc : Scope} (c : Cok t X Wx n N fn sc) (hst : X.stack = X.env :: X.outer) (hfr : X.env.frame = some X.env.locals) (s : S), sizeOf s < k → (∀ st, chk1 ar N s fn sc st = true → PS X st (tS t cl Wx s)) ∧ ∀ sts, chkS ar N s fn sc sts = true → PSs X sts (tS t cl Wx s)
  | 0, _, _, _, _, _, _, _, s, hk => by omega
  | k + 1, X, Wx, fn, sc, c, hst, hfr, s, hk => by
    have ih := fun (a : S) (ha : sizeOf a < k) => snd_sts o A k c hst hfr a ha
    refine ⟨fun st h => ?_, fun sts h => ?_⟩
    · unfold chk1 at h
      split at h
      all_goals first | (cases h; done) | skip
      case h_1 =>
        obtain ⟨a1, a2⟩ := ba h
        obtain ⟨a3, a4⟩ := ba a2
        obtain ⟨tg, iter, ifs, rfl, hf⟩ := chk_comp a4
        obtain ⟨P, q1, q2⟩ := lc_parts c hf (A _) (A _) (A _)
        exact snd_asgC c a1 a3 P q1 q2 (snd_comp c hf (A _) (A _) (A _))
      case h_2 =>
        obtain ⟨a1, a2⟩ := ba h
        obtain ⟨a3, a4⟩ := ba a2
        obtain ⟨tg, iter, ifs, tg1, iter1, ifs1, rfl, hf⟩ := chk_comp2 a4
        exact snd_asgC2 c a1 a3 hf (A _) (A _) (A _) (A _) (A _)
      case h_3 =>
        obtain ⟨a1, a2⟩ := ba h
        obtain ⟨a3, a4⟩ := ba a2
        exact snd_asg c a1 a3 (ba a4).1 ((A _).pe c (ba a4).2)
      case h_4 =>
        obtain ⟨a1, a2⟩ := ba h
        obtain ⟨a3, a4⟩ := ba a2
        obtain ⟨a5, a6⟩ := ba a4
        exact snd_unp c a1 a3 a5 ((A _).pe c a6)
      case h_5 =>
        obtain ⟨a1, a2⟩ := ba h
        obtain ⟨a3, a4⟩ := ba a2
        obtain ⟨a5, a6⟩ := ba a4
        obtain ⟨a7, a8⟩ := ba a6
        have z := of_decide_eq_true a5
        have z2 := of_decide_eq_true a7
        rw [z, z2]
        exact snd_aug c a1 a3 ((A _).pe c a8)
      case h_6 =>
        obtain ⟨a1, a2⟩ := ba h
        obtain ⟨a3, a4⟩ := ba a2
        obtain ⟨a5, a6⟩ := ba a4
        exact snd_setI c a1 ((A _).pe c a3) ((A _).pe c a5) ((A _).pe c a6)
      case h_7 =>
        obtain ⟨a1, a2⟩ := ba h
        obtain ⟨a3, a4⟩ := ba a2
        obtain ⟨a5, a6⟩ := ba a4
        exact snd_setD c a1 a3 ((A _).pe c a5) ((A _).pe c (ba a6).1) ((A _).pe c (ba a6).2)
      case h_8 =>
        obtain ⟨a1, a2⟩ := ba h
        obtain ⟨a3, a4⟩ := ba a2
        obtain ⟨a5, a6⟩ := ba a4
        exact snd_setA c o a1 a3 ((A _).pe c a5) ((A _).pe c a6)
      case h_9 =>
        obtain ⟨a1, a2⟩ := ba h
        obtain ⟨a3, a4⟩ := ba a2
        exact snd_expr a1 ((A _).pe c a3)
      case h_10 => exact snd_ret ((A _).pe c h)
      case h_11 => exact snd_retN
      case h_12 =>
        obtain ⟨a1, a2⟩ := ba h
        obtain ⟨a3, a4⟩ := ba a2
        exact snd_ifs ((A _).pt c a1) ((ih _ (by simp at hk; omega)).2 _ a3) ((ih _ (by simp at hk; omega)).2 _ a4)
      case h_13 =>
        obtain ⟨a1, a2⟩ := ba h
        exact snd_wh c ((A _).pt c a1) ((ih _ (by simp at hk; omega)).2 _ a2)
      case h_14 =>
        obtain ⟨a1, a2⟩ := ba h
        obtain ⟨a3, a4⟩ := ba a2
        obtain ⟨a5, a6⟩ := ba a4
        exact snd_for c a1 ((A _).pi c a3) (pg_tg c a5) ((ih _ (by simp at hk; omega)).2 _ a6)
      case h_15 =>
        obtain ⟨a1, a2⟩ := ba h
        obtain ⟨a3, a4⟩ := ba a2
        obtain ⟨a5, a6⟩ := ba a4
        exact snd_raise c o a1 a3 a5 a6 ((A _).pa c a6)
      case h_16 => exact ⟨fun pins s σ H D I ⟨G, ls, lh, re, rp, h⟩ => by simp only [evS] at h; exact h.elim⟩
      case h_17 =>
       exact ps_imp ps_break fun D σ H ⟨G, ls, lh, re, rp, h⟩ => by
        simp only [evS] at h
        exact h _ _ _ Ext.refl rp re
      case h_18 =>
       exact ps_imp ps_continue fun D σ H ⟨G, ls, lh, re, rp, h⟩ => by
        simp only [evS] at h
        exact h _ _ _ Ext.refl rp re
      case h_19 =>
       exact ps_imp ps_pass fun D σ H ⟨G, ls, lh, re, rp, h⟩ => by
        simp only [evS] at h
        exact h _ _ _ Ext.refl rp re
      case h_20 =>
        obtain ⟨a1, a2⟩ := ba h
        obtain ⟨a3, a4⟩ := ba a2
        obtain ⟨a5, a6⟩ := ba a4
        obtain ⟨a7, a8⟩ := ba a6
        exact snd_par c a1 a3 (of_decide_eq_true a5) a7 ((A _).pe c (ba a8).1) ((A _).pe c (ba a8).2)
      case h_21 =>
        obtain ⟨a1, a2⟩ := ba h
        obtain ⟨a3, a4⟩ := ba a2
        obtain ⟨a5, a6⟩ := ba a4
        obtain ⟨a7, a8⟩ := ba a6
        obtain ⟨a9, a10⟩ := ba a8
        obtain ⟨a11, a12⟩ := ba a10
        exact snd_par3 c a1 a3 a5 (of_decide_eq_true a7) a9 ((A _).pe c a11) ((A _).pe c (ba a12).1) ((A _).pe c (ba a12).2)
      case h_22 =>
        obtain ⟨a1, a2⟩ := ba h
        exact snd_try c o hst hfr (fun c2 => (snd_sts o A k c2 hst hfr _ (by simp at hk; omega)).2 _ a1) a2
    · unfold chkS at h
      split at h
      all_goals first | (cases h; done) | skip
      case h_1 => exact snd_snil
      case h_2 => exact snd_kill ((ih _ (by simp at hk; omega)).2 _ h)
      case h_3 => exact snd_seq ((ih _ (by simp at hk; omega)).1 _ (ba h).1) ((ih _ (by simp at hk; omega)).2 _ (ba h).2)
end
end Mp
namespace Mp
open PySem PySem.Spec PyProof.Rows L2
/-! ### defs -/
/-- a def's text is what the evaluator runs -/
structure DOk (t : Tp) (ar : Ar) (f : String) (d : Def) : Prop where
  ex : ∃ (x qual : Str) (params : Arguments) (body : List Stmt) (scope : Scope) (dvs : List V) (N : List Str), FunD t.g.K x qual params body scope dvs [] (t.fa f) (t.fd f) ∧ FnScope N (t.ps f) scope ∧ N.length = d.n ∧ chkS ar N d.body (fun _ => true) scope body = true
theorem renv_start {g : Gw} {G : Gh} {H : Hp} {ws : List W} {vs : List V} (r : RVs g G H ws vs) (k : Nat) : REnv g G H (ws.map some ++ List.replicate k none) (vs.map some ++ List.replicate k none) := by
  have hl := RVs.length r
  refine ⟨by simp [hl], fun i w e => ?_⟩
  by_cases hi : i < ws.length
  · rw [List.getElem?_append_left (by simpa using hi), List.getElem?_map] at e
    obtain ⟨w', h1, h2⟩ := Option.map_eq_some_iff.mp e
    cases h2
    obtain ⟨v, q1, q2⟩ := r.get h1
    refine ⟨v, ?_, q2⟩
    rw [List.getElem?_append_left (by simp; omega), List.getElem?_map, q1]; rfl
  · rw [List.getElem?_append_right (by simp; omega)] at e
    rw [List.getElem?_replicate] at e
    split at e <;> cases e
theorem callD_len {T : Tab} {cl : Cl} {d : Def} {ws : List W} {lh : LH} (h : ws.length = d.np) : callD T cl d ws lh = (evS T cl d.body (ws.map some ++ List.replicate (d.n - d.np) none) lh).toR := by
  unfold callD
  have e : ws ++ d.dfl.drop (d.dfl.length - (d.np - ws.length)) = ws := by rw [h]; simp
  simp only [e]
  rw [if_pos h]
theorem callD_fill {T : Tab} {cl : Cl} {d : Def} {ws : List W} {lh : LH} (h1 : ws.length ≤ d.np) (h2 : d.np - ws.length ≤ d.dfl.length) : callD T cl d ws lh = callD T cl d (ws ++ d.dfl.drop (d.dfl.length - (d.np - ws.length))) lh := by
  have hl : (ws ++ d.dfl.drop (d.dfl.length - (d.np - ws.length))).length = d.np := by simp; omega
  rw [callD_len hl]
  unfold callD
  simp only []
  rw [if_pos hl]
/-- ALL DEFS KEEP WHAT THE EVALUATOR SAYS -/
theorem fns {t : Tp} {ar : Ar} (o : t.Ok) (ds : ∀ f d, t.D f = some d → DOk t ar f d)
    (arS : ∀ f np nd, ar f = some (true, np, nd) → ∃ d, t.D f = some d ∧ d.np = np ∧ d.dfl.length = nd ∧ t.mg (Str.ofString f) = some (.ref (t.fa f)))
    (arN : ∀ c k, mkOk ar c k = true → t.T.mth c "__init__" k = true ∧ t.mg (Str.ofString c) = some (.ref (t.g.ca c)) ∧ Mk t.g.K (t.g.ca c) (t.fa (c ++ "." ++ "__init__"))) : ∀ n, Fns t ar (call t.T t.D n) n
  | 0 => ⟨fun f d hd => ⟨fun vs H Q E ⟨G, ws, lh, _, _, hl, _⟩ => hl.trans (o.np f d hd).symm, fun A outer s H args us vs Q E _ _ _ _ ⟨G, ws, lh, _, _, _, h⟩ => h.elim⟩, fun f d ws lh _ _ _ => rfl, arN, arS⟩
  | n + 1 => by
    have F := fns o ds arS arN n
    refine ⟨fun f d hd => ?_, fun f d ws lh hd h1 h2 => ?_, arN, arS⟩
    · obtain ⟨x, qual, params, body, scope, dvs, N, FD, S, hN, hc⟩ := (ds f d hd).ex
      refine FunD.ok (k := 2 * n + 2) FD S (fun vs H Q E ⟨G, ws, lh, _, _, hl, _⟩ => hl.trans (o.np f d hd).symm) fun cdv A outer s H vs Q E hr h => ?_
      have c : Cok t (cxOf (CX t.P t.w) t.P t.w t.g.K t.mg t.base N qual scope (t.fa f) cdv A outer s H E) (fun cls dd _ H => E cls dd H) n N (fun _ => true) scope :=
        ⟨rfl, rfl, rfl, rfl, rfl, rfl, rfl, rfl, S.kind, S.nd, rfl, hr, takes_of rfl rfl rfl rfl, passes_of rfl⟩
      refine ⟨tS t (call t.T t.D n) (fun cls dd _ H => E cls dd H) d.body, (snd_sts o (fun e => snd_all o F _ e (Nat.lt_succ_self _)) _ c rfl rfl d.body (Nat.lt_succ_self _)).2 body hc, ?_⟩
      obtain ⟨G, ws, lh, r, rp, hl, h⟩ := h
      have hw : ws.length = d.np := (RVs.length r).trans hl
      have e : call t.T t.D (n + 1) f ws lh = callD t.T (call t.T t.D n) d ws lh := by
        show (match t.D f with | some d => callD t.T (call t.T t.D n) d ws lh | none => .no) = _
        rw [hd]
      rw [e, callD_len hw] at h
      refine ⟨G, ws.map some ++ List.replicate (d.n - d.np) none, lh, ?_, rp, ?_⟩
      · show REnv t.g G H _ (vs.map some ++ List.replicate (N.length - vs.length) none)
        rw [hN, hl]
        exact renv_start r _
      · cases hq : evS t.T (call t.T t.D n) d.body (ws.map some ++ List.replicate (d.n - d.np) none) lh with
        | nx ls l2 => rw [hq] at h; exact fun G2 H2 σ2 e2 rp2 re2 => h G2 H2 .non e2 rp2 rv_non
        | ret w l2 => rw [hq] at h; exact h
        | ex c ns fs ls l2 => rw [hq] at h; exact fun G2 H2 σ2 cls dd e2 rp2 _ rx => h G2 H2 cls dd e2 rp2 rx
        | brk ls l2 => rw [hq] at h; exact h.elim
        | cont ls l2 => rw [hq] at h; exact h.elim
        | no => rw [hq] at h; exact h.elim
    · show (match t.D f with | some d => callD t.T (call t.T t.D n) d ws lh | none => .no) = (match t.D f with | some d => callD t.T (call t.T t.D n) d _ lh | none => .no)
      rw [hd]
      exact callD_fill h1 h2
end Mp
namespace Mp
open PySem PySem.Spec PyProof.Rows L2
/-! ### what a head tells, properties too -/
/-- the property's object, its getter -/
def pAd (K : PySem.W.Frag) (p : Str × Option Str) : Addr := He.fAd K p
def gAd (K : PySem.W.Frag) (p : Str × Option Str) : Addr := match PySem.W.recIn K (pAd K p) "property" with
  | some (.ref g :: _) => g
  | _ => 0
def fnWa (K : PySem.W.Frag) (a : Addr) : He.FnW := match K.lookup a with
  | some ⟨_, _, .func q, _⟩ => some (q.name, q.qualname, q.params, q.body, q.scope, q.globals, q.closure, q.builtins)
  | _ => none
def getB (K : PySem.W.Frag) (d : He.DefD) : Bool := PySem.W.keepIn K (.ref (gAd K d.at_)) && (match K.lookup (gAd K d.at_) with
  | some ⟨_, _, .func q, _⟩ => PySem.W.codeIn K q.code d.qual && (He.dflB K q.defaults [] && He.kwdB K q.kwdefaults [])
  | _ => false)
def prpB (K : PySem.W.Frag) (d : He.DefD) : Bool := (match d.at_.2 with
  | some f => decide (PySem.W.findIn K (.ref (He.ga K d.at_.1)) f = some (some (.ref (pAd K d.at_))))
  | none => false) && (decide (PySem.W.specialIn K (.ref (pAd K d.at_)) "__get__" = some (some (.builtin "property.__get__"))) && (decide (PySem.W.takesIn K (.ref (pAd K d.at_)) = some true) &&
    (match PySem.W.recIn K (pAd K d.at_) "property" with
    | some (.ref _ :: _) => true
    | _ => false)))
structure SaysP (pr : List He.DefD) (K : PySem.W.Frag) : Prop where
  ok : (pr.all fun d => getB K d && prpB K d) = true
  val : (pr.map fun d => fnWa K (gAd K d.at_)) = pr.map He.DefD.val
theorem funA {K : PySem.W.Frag} {a : Addr} {d : He.DefD} (e : fnWa K a = d.val) (kp : PySem.W.keepIn K (.ref a) = true) (c : (match K.lookup a with
  | some ⟨_, _, .func q, _⟩ => PySem.W.codeIn K q.code d.qual && (He.dflB K q.defaults [] && He.kwdB K q.kwdefaults [])
  | _ => false) = true) : ∃ fd, FunD K d.name d.qual d.params d.body d.scope [] [] a fd := by
  unfold fnWa at e
  split at c
  · rename_i oc od fd osl hq
    rw [hq] at e
    obtain ⟨k1, k2⟩ := ba c
    obtain ⟨k3, k4⟩ := ba k2
    cases fd
    unfold He.DefD.val at e
    simp only [Option.some.injEq, Prod.mk.injEq] at e
    obtain ⟨rfl, rfl, rfl, rfl, rfl, rfl, rfl, rfl⟩ := e
    exact ⟨_, ⟨_, _, _, _, _, _, _, _, _, _, rfl, hq, k1, He.dflB_ok k3, He.kwdB_ok k4⟩, kp⟩
  · cases c
theorem SaysP.get {pr : List He.DefD} {K : PySem.W.Frag} (s : SaysP pr K) {d : He.DefD} (hd : d ∈ pr) : (∃ fd, FunD K d.name d.qual d.params d.body d.scope [] [] (gAd K d.at_) fd) ∧ ∃ f, d.at_.2 = some f ∧ PropOf K (He.ga K d.at_.1) f (pAd K d.at_) (gAd K d.at_) := by
  obtain ⟨h1, h2⟩ := ba (List.all_eq_true.mp s.ok d hd)
  obtain ⟨i, hi, e⟩ := List.mem_iff_getElem.mp hd
  have ev : fnWa K (gAd K d.at_) = d.val := by
    have z := congrArg (·[i]?) s.val
    simp only [List.getElem?_map, List.getElem?_eq_getElem hi, e, Option.map_some] at z
    exact Option.some.inj z
  obtain ⟨g1, g2⟩ := ba h1
  refine ⟨funA ev g1 g2, ?_⟩
  obtain ⟨p1, p2⟩ := ba h2
  obtain ⟨p3, p4⟩ := ba p2
  obtain ⟨p5, p6⟩ := ba p4
  split at p1
  · rename_i f hf
    refine ⟨f, hf, of_decide_eq_true p1, of_decide_eq_true p3, of_decide_eq_true p5, ?_⟩
    split at p6
    · rename_i g r hr
      refine ⟨r, ?_⟩
      have eg : gAd K d.at_ = g := by unfold gAd; rw [hr]
      rw [eg]; exact hr
    · cases p6
  · cases p1
abbrev AlM : Type := He.AlX × Bool × List He.FnW
def obsM (n : Nat) (fa : List He.Fa) (fn pr : List He.DefD) (ts : List He.Tab) (ex : PySem.W.Frag → Bool) (g : Addr → Option Obj) : AlM :=
  (He.obsX n fa fn ts [] ex g, pr.all fun d => getB (He.frT g (He.asD g n)) d && prpB (He.frT g (He.asD g n)) d, pr.map fun d => fnWa (He.frT g (He.asD g n)) (gAd (He.frT g (He.asD g n)) d.at_))
def valM (fn pr : List He.DefD) (ts : List He.Tab) (w : World) : AlM := (He.valX fn ts w, true, pr.map He.DefD.val)
theorem saysM_of {n : Nat} {fa : List He.Fa} {fn pr : List He.DefD} {ts : List He.Tab} {ex : PySem.W.Frag → Bool} {w : World} {h : Heap} (e : obsM n fa fn pr ts ex h.get? = valM fn pr ts w) :
    He.SaysX fa fn ts [] ex w h (He.frT h.get? (He.asD h.get? n)) ∧ SaysP pr (He.frT h.get? (He.asD h.get? n)) :=
  ⟨He.saysX_of (congrArg (fun z : AlM => z.1) e), congrArg (fun z : AlM => z.2.1) e, congrArg (fun z : AlM => z.2.2) e⟩
def hookM (n : Nat) (fa : List He.Fa) (fn pr : List He.DefD) (ts : List He.Tab) (ex : PySem.W.Frag → Bool) : PySem.W.Hook where
  α := AlM
  obs := fun s => obsM n fa fn pr ts ex s.heap.get?
  val := fun w => valM fn pr ts w
  says := fun w h => ∃ K : PySem.W.Frag, K.In h ∧ He.SaysX fa fn ts [] ex w h K ∧ SaysP pr K
  of := fun _ _ e => ⟨_, He.frT_in, saysM_of e⟩
  keeps := fun _ _ _ ⟨K, hK, c, p⟩ k => ⟨K, PySem.W.Frag.In.keeps hK k, ⟨c.t, c.more, c.hd, c.out, fun q hq => k _ _ (c.empty q hq)⟩, p⟩
theorem obsM_eq {n : Nat} {fa : List He.Fa} {fn pr : List He.DefD} {ts : List He.Tab} {ex : PySem.W.Frag → Bool} {g : Addr → Option Obj} {s : Shared} (h : ∀ a, g a = s.heap.get? a) : obsM n fa fn pr ts ex g = (hookM n fa fn pr ts ex).obs s := by
  have e : g = s.heap.get? := funext h
  rw [e]; rfl
end Mp
/-! the head's hook over a written list of addresses -/
namespace Mp
open PySem PySem.Spec PyProof.Rows L2
def obsL (as : List Addr) (fa : List He.Fa) (fn pr : List He.DefD) (ts : List He.Tab) (ex : PySem.W.Frag → Bool) (g : Addr → Option Obj) : AlM :=
  ((He.obsT fa fn ts (He.frT g as), ex (He.frT g as)), pr.all fun d => getB (He.frT g as) d && prpB (He.frT g as) d, pr.map fun d => fnWa (He.frT g as) (gAd (He.frT g as) d.at_))
theorem saysL_of {as : List Addr} {fa : List He.Fa} {fn pr : List He.DefD} {ts : List He.Tab} {ex : PySem.W.Frag → Bool} {w : World} {h : Heap} (e : obsL as fa fn pr ts ex h.get? = valM fn pr ts w) :
    He.SaysX fa fn ts [] ex w h (He.frT h.get? as) ∧ SaysP pr (He.frT h.get? as) :=
  ⟨⟨congrArg (fun z : AlM => z.1.1) e, congrArg (fun z : AlM => z.1.2) e, fun p hp => (by cases hp), fun p hp => (by cases hp), fun p hp => (by cases hp)⟩, congrArg (fun z : AlM => z.2.1) e, congrArg (fun z : AlM => z.2.2) e⟩
def hookL (as : List Addr) (fa : List He.Fa) (fn pr : List He.DefD) (ts : List He.Tab) (ex : PySem.W.Frag → Bool) : PySem.W.Hook where
  α := AlM
  obs := fun s => obsL as fa fn pr ts ex s.heap.get?
  val := fun w => valM fn pr ts w
  says := fun w h => ∃ K : PySem.W.Frag, K.In h ∧ He.SaysX fa fn ts [] ex w h K ∧ SaysP pr K
  of := fun _ _ e => ⟨_, He.frT_in, saysL_of e⟩
  keeps := fun _ _ _ ⟨K, hK, c, p⟩ k => ⟨K, PySem.W.Frag.In.keeps hK k, ⟨c.t, c.more, c.hd, c.out, fun q hq => k _ _ (c.empty q hq)⟩, p⟩
theorem obsL_eq {as : List Addr} {fa : List He.Fa} {fn pr : List He.DefD} {ts : List He.Tab} {ex : PySem.W.Frag → Bool} {g : Addr → Option Obj} {s : Shared} (h : ∀ a, g a = s.heap.get? a) : obsL as fa fn pr ts ex g = (hookL as fa fn pr ts ex).obs s := by
  have e : g = s.heap.get? := funext h
  rw [e]; rfl
theorem map3 {α β γ δ : Type} {o : Option α} {f : α → β} {g : α → γ} {k : α → δ} {a : β} {b : γ} {c : δ} (h1 : o.map f = some a) (h2 : o.map g = some b) (h3 : o.map k = some c) : o.map (fun s => (f s, g s, k s)) = some (a, b, c) := by
  cases o with
  | none => cases h1
  | some x => cases h1; cases h2; cases h3; rfl
/-- a world with one row of followText told apart -/
def wRow (w : World) (b : Bool) : World := ⟨w.draws, { w.params with followText := fun row => if row = "special-get-raises" then b else w.params.followText row }⟩
theorem wRow_eq (w : World) : w = wRow w (w.params.followText "special-get-raises") := by
  obtain ⟨d, p⟩ := w
  unfold wRow
  have e : p.followText = fun row => if row = "special-get-raises" then p.followText "special-get-raises" else p.followText row := by
    funext row
    split
    · rename_i c; rw [c]
    · rfl
  show (⟨d, p⟩ : World) = ⟨d, { p with followText := fun row => if row = "special-get-raises" then p.followText "special-get-raises" else p.followText row }⟩
  rw [← e]
theorem run_of {P : World → Prop} (hf : ∀ w, P (wRow w false)) (ht : ∀ w, P (wRow w true)) (w : World) : P w := by
  rw [wRow_eq w]
  cases w.params.followText "special-get-raises" with
  | false => exact hf w
  | true => exact ht w
end Mp
namespace Mp
open PySem PySem.Spec PyProof.Rows L2
/-! ### what the heap says of an own exception class with its own start -/
def oxB (K : PySem.W.Frag) (C : Addr) : Bool := match K.lookup C with
  | some ⟨.type "type", _, .cls w, q⟩ => (match w.mro, q.toList with
    | .ref c1 :: l, [_, _, _, _, some (.builtin n), _] => decide (c1 = C) && (decide (n = "ValueError.__new__") && (!w.hasDel && (w.hasDict && PySem.HandSPX.refsVE l)))
    | _, _ => false)
  | _ => false
theorem oxB_ok {K : PySem.W.Frag} {C : Addr} (h : oxB K C = true) : ∃ nm q N bs bm sn sub ab col dd k0 k1 k2 k3 k5, K.lookup C = some (excClassObj nm q C N bs bm true sn sub ab col dd k0 k1 k2 k3 k5 "ValueError.__new__") ∧ PySem.HandSPX.refsVE bm = true := by
  unfold oxB at h
  split at h
  · rename_i od w sl e
    split at h
    · rename_i c1 l s0 s1 s2 s3 n s5 e1 e2
      obtain ⟨a1, h⟩ := ba h
      obtain ⟨a2, h⟩ := ba h
      obtain ⟨a3, h⟩ := ba h
      obtain ⟨a4, a5⟩ := ba h
      have z1 := of_decide_eq_true a1
      have z2 := of_decide_eq_true a2
      subst z1 z2
      obtain ⟨nm, bs, mro, ns, qn, hd, sn, sub, ab, col, del⟩ := w
      have z3 : del = false := by simpa using a3
      have z4 : hd = true := a4
      have z5 : mro = .ref c1 :: l := e1
      subst z3 z4 z5
      have z6 : sl = #[s0, s1, s2, s3, some (.builtin "ValueError.__new__"), s5] := by
        obtain ⟨k⟩ := sl
        have : k = _ := e2
        rw [this]
      subst z6
      exact ⟨nm, qn, ns, bs, l, sn, sub, ab, col, od, s0, s1, s2, s3, s5, e, a5⟩
    · cases h
  · cases h
/-- .. as one test -/
def oeB (K : PySem.W.Frag) (C : Addr) : Bool := oxB K C && (decide (PySem.W.findIn K (.ref C) "__setattr__" = some (some (.builtin "object.__setattr__"))) && (decide (PySem.W.subIn K (.ref C) (.type "BaseException") = some true) && (decide (PySem.W.typeIn K (.ref C) = some (.type "type")) && PySem.W.keepIn K (.ref C))))
theorem oeB_ok {K : PySem.W.Frag} {C : Addr} (h : oeB K C = true) : OexC K C := by
  unfold oeB at h
  obtain ⟨a1, h⟩ := ba h
  obtain ⟨a2, h⟩ := ba h
  obtain ⟨a3, h⟩ := ba h
  obtain ⟨a4, a5⟩ := ba h
  exact ⟨oxB_ok a1, of_decide_eq_true a2, of_decide_eq_true a3, of_decide_eq_true a4, a5⟩
/-- all that is asked of the class, but its start -/
def xfAll (K : PySem.W.Frag) (C : Addr) (ns : List String) : Bool := oeB K C && (xfB K C && ns.all fun f => decide (PySem.W.findIn K (.ref C) (Str.ofString f) = some none))
theorem xiF_of {t : Tp} {c : String} {ns : List String} {f : Addr} {fd : FuncData} {N : List Str} (at_ : t.mg (Str.ofString c) = some (.ref (t.g.ca c))) (h : xfAll t.g.K (t.g.ca c) ns = true) (i1 : PySem.W.findIn t.g.K (.ref (t.g.ca c)) "__init__" = some (some (.ref f)))
    (i2 : PySem.W.typeIn t.g.K (.ref f) = some (.type "function")) (i3 : Binds t.g.K fd N []) {x qual : Str} {params : Arguments} {body : List Stmt} {scope : Scope} (F : FunD t.g.K x qual params body scope [] [] f fd) (S : FnScope N N scope)
    {s0 : Str} {b : Option Str} (hbs : ∀ x, b = some x → BsF t.g.K t.mg x) (eN : N = s0 :: ns.map Str.ofString) (hb : xiT N scope b (ns.map Str.ofString) body = true) (ne : ns ≠ []) (nd : (ns.map Str.ofString).Nodup) (hl : ns.length ≤ 800) : XiF t c ns := by
  unfold xfAll at h
  obtain ⟨a1, h⟩ := ba h
  obtain ⟨a2, a3⟩ := ba h
  have no : ∀ f ∈ ns, PySem.W.findIn t.g.K (.ref (t.g.ca c)) (Str.ofString f) = some none := fun f hf => of_decide_eq_true (List.all_eq_true.mp a3 f hf)
  cases ns with
  | nil => exact absurd rfl ne
  | cons n ns =>
    exact ⟨at_, oeB_ok a1, ⟨f, fd, N, i1, i2, i3, xini (g := Str.ofString n) (fs := ns.map Str.ofString) F S eN hb hbs (oeB_ok a1) (fun g hg => by
      obtain ⟨u, hu, rfl⟩ := List.mem_map.mp (show g ∈ (n :: ns).map Str.ofString from hg)
      exact no u hu) (by rw [List.length_map]; simp at hl; omega)⟩, nd, hl, xfB_ok a2, no⟩
theorem xi0_of {t : Tp} {c : String} {f : Addr} {fd : FuncData} {N : List Str} (at_ : t.mg (Str.ofString c) = some (.ref (t.g.ca c))) (h : oeB t.g.K (t.g.ca c) = true) (i1 : PySem.W.findIn t.g.K (.ref (t.g.ca c)) "__init__" = some (some (.ref f)))
    (i2 : PySem.W.typeIn t.g.K (.ref f) = some (.type "function")) (i3 : Binds t.g.K fd N []) {x qual : Str} {params : Arguments} {body : List Stmt} {scope : Scope} (F : FunD t.g.K x qual params body scope [] [] f fd) (S : FnScope N N scope)
    {s0 : Str} {b : Option Str} (hbs : ∀ x, b = some x → BsF t.g.K t.mg x) (eN : N = [s0]) (hb : xiT N scope b [] body = true) : Xi0 t c :=
  ⟨at_, oeB_ok h, ⟨f, fd, N, i1, i2, i3, xini0 F S eN hb hbs (oeB_ok h)⟩⟩
end Mp
namespace Mp
open PySem PySem.Spec PyProof.Rows L2
/-! ### constants of the top -/
def vOf : Value → V
  | .bool b => .bl b
  | .int i _ => .int i
  | .str x _ => .str x
  | .ref a => .ref a
  | _ => .non
mutual
def wB (K : PySem.W.Frag) : W → Value → Bool
  | .non, .none => true
  | .bl b, .bool c => b == c
  | .int i, .int j _ => decide (i = j)
  | .str s, .str x _ => decide (x = Str.ofString s)
  | .tup ws, .ref a => (match K.lookup a with
    | some ⟨.type c, _, .seq its _, _⟩ => decide (c = "tuple") && (decide (its.size ≤ sizeLine) && wBs K ws its.toList)
    | _ => false)
  | .rd ws, .ref a => (match K.lookup a with
    | some ⟨.type c, none, .seq its _, _⟩ => decide (c = "list") && (decide (its.size ≤ sizeLine) && wBs K ws its.toList)
    | _ => false)
  | _, _ => false
def wBs (K : PySem.W.Frag) : List W → List Value → Bool
  | [], [] => true
  | w :: ws, u :: us => wB K w u && wBs K ws us
  | _, _ => false
end
mutual
theorem wB_ok {g : Gw} : ∀ {w : W} {u : Value}, wB g.K w u = true → RelV (vOf u) u ∧ ∀ G H, RV g G H w (vOf u)
  | .non, u, h => by
    cases u <;> first | (simp [wB] at h; done) | skip
    exact ⟨rfl, fun _ _ => rv_non⟩
  | .bl b, u, h => by
    cases u <;> first | (simp [wB] at h; done) | skip
    simp [wB] at h
    subst h
    exact ⟨rfl, fun _ _ => rv_bl⟩
  | .int i, u, h => by
    cases u <;> first | (simp [wB] at h; done) | skip
    simp [wB] at h
    subst h
    exact ⟨⟨_, rfl⟩, fun _ _ => rv_int⟩
  | .str s, u, h => by
    cases u <;> first | (simp [wB] at h; done) | skip
    simp [wB] at h
    subst h
    exact ⟨⟨_, rfl⟩, fun _ _ => rv_str⟩
  | .tup ws, u, h => by
    cases u <;> first | (simp [wB] at h; done) | skip
    rename_i a
    unfold wB at h
    split at h
    · rename_i c od its n sl hl
      obtain ⟨h1, h2⟩ := ba h
      obtain ⟨h3, h4⟩ := ba h2
      obtain ⟨q1, q2⟩ := wBs_ok h4
      refine ⟨rfl, fun G H => ?_⟩
      unfold RV
      exact ⟨a, _, rfl, .inr ⟨_, its, n, hl, congrArg Value.type (of_decide_eq_true h1), rfl, of_decide_eq_true h3, q1⟩, q2 G H⟩
    · cases h
  | .rd ws, u, h => by
    cases u <;> first | (simp [wB] at h; done) | skip
    rename_i a
    unfold wB at h
    split at h
    · rename_i c its n sl hl
      obtain ⟨h1, h2⟩ := ba h
      obtain ⟨h3, h4⟩ := ba h2
      obtain ⟨q1, q2⟩ := wBs_ok h4
      refine ⟨rfl, fun G H => ?_⟩
      unfold RV
      exact ⟨a, _, rfl, .inr ⟨_, its, n, hl, congrArg Value.type (of_decide_eq_true h1), rfl, rfl, of_decide_eq_true h3, q1⟩, q2 G H⟩
    · cases h
  | .fl _, u, h => by simp [wB] at h
  | .ref _, u, h => by simp [wB] at h
  | .obj _ _ _, u, h => by simp [wB] at h
  | .exc _ _ _, u, h => by simp [wB] at h
theorem wBs_ok {g : Gw} : ∀ {ws : List W} {us : List Value}, wBs g.K ws us = true → Vals (us.map vOf) us ∧ ∀ G H, RVs g G H ws (us.map vOf)
  | [], [], _ => ⟨.nil, fun _ _ => RVs.nil⟩
  | [], _ :: _, h => by simp [wBs] at h
  | _ :: _, [], h => by simp [wBs] at h
  | w :: ws, u :: us, h => by
    unfold wBs at h
    obtain ⟨h1, h2⟩ := ba h
    obtain ⟨a1, a2⟩ := wB_ok h1
    obtain ⟨b1, b2⟩ := wBs_ok h2
    exact ⟨.cons a1 b1, fun G H => RVs.cons (a2 G H) (b2 G H)⟩
end
def conB (K : PySem.W.Frag) (p : String × W) : Bool := match PySem.W.nsIn K mainGlobals (Str.ofString p.1) with
  | some (some u) => wB K p.2 u
  | _ => false
/-! ### a law's defs as data -/
structure Row where
  f : String
  d : Def
  N : List Str
  ps : List Str
  at_ : Str × Option Str
  nm : Str
  qual : Str
  st : Stmt
  /-- the getter of a property -/
  pr : Bool := false
def dvOf : W → He.Dv
  | .bl b => .bl b
  | .int i => .int i
  | .str s => .str (Str.ofString s)
  | _ => .non
def Row.dvs (r : Row) (K : PySem.W.Frag) : List V := (r.d.dfl.map dvOf).map (He.Dv.v K)
/-- where its def stands -/
def Row.ad (r : Row) (K : PySem.W.Frag) : Addr := if r.pr then gAd K r.at_ else He.fAd K r.at_
def Row.dd (r : Row) : He.DefD := ⟨r.at_, r.nm, r.qual, defArgs r.st, defBody r.st, defScope r.st, r.d.dfl.map dvOf, []⟩
structure RowOk (ar : Ar) (r : Row) : Prop where
  chk : chkS ar r.N r.d.body (fun _ => true) (defScope r.st) (defBody r.st) = true
  sc : FnScope r.N r.ps (defScope r.st)
  np : r.ps.length = r.d.np
  n : r.N.length = r.d.n
  flat : r.d.dfl.all flatW = true
  prd : r.pr = true → r.d.dfl = []
  bi : ∀ (K : PySem.W.Frag) (f : Addr) (fd : FuncData), FunD K r.nm r.qual (defArgs r.st) (defBody r.st) (defScope r.st) (r.dvs K) [] f fd → ∀ n, n ≤ r.d.np → r.d.np - n ≤ r.d.dfl.length → ∃ ds, Vals ((r.dvs K).drop (r.d.dfl.length - (r.d.np - n))) ds ∧ Binds K fd r.ps ds
def rowOf (rows : List Row) (f : String) : Option Row := rows.find? fun r => r.f == f
def dOf (rows : List Row) (f : String) : Option Def := (rowOf rows f).map (·.d)
def arOf (rows : List Row) (f : String) : Option (Bool × Nat × Nat) := (rowOf rows f).map fun r => (r.at_.2.isNone, r.d.np, r.d.dfl.length)
/-- classes: their names, their fields -/
abbrev Cd := List (String × List String)
def fldOf (cd : Cd) (c : String) : List String := match cd.find? fun p => p.1 == c with
  | some p => p.2
  | none => []
def mthOf (cd : Cd) (rows : List Row) (c m : String) (k : Nat) : Bool := match rowOf rows (c ++ "." ++ m) with
  | some r => decide (r.pr = false) && (decide (r.at_ = (Str.ofString c, some (Str.ofString m))) && (decide (k + 1 ≤ r.d.np ∧ r.d.np - (k + 1) ≤ r.d.dfl.length) && cd.any fun p => p.1 == c))
  | none => false
def prpOf (cd : Cd) (rows : List Row) (c f : String) : Bool := match rowOf rows (c ++ "." ++ f) with
  | some r => decide (r.pr = true) && (decide (r.at_ = (Str.ofString c, some (Str.ofString f))) && (decide (r.d.np = 1) && cd.any fun p => p.1 == c))
  | none => false
theorem prpOf_spec {cd : Cd} {rows : List Row} {c f : String} (h : prpOf cd rows c f = true) : ∃ r, rowOf rows (c ++ "." ++ f) = some r ∧ r.pr = true ∧ r.at_ = (Str.ofString c, some (Str.ofString f)) ∧ r.d.np = 1 ∧ ∃ p, p ∈ cd ∧ p.1 = c := by
  unfold prpOf at h
  split at h
  · rename_i r e
    obtain ⟨h0, h⟩ := ba h
    obtain ⟨h1, h2⟩ := ba h
    obtain ⟨h3, h4⟩ := ba h2
    obtain ⟨p, hp, hq⟩ := List.any_eq_true.mp h4
    exact ⟨r, e, of_decide_eq_true h0, of_decide_eq_true h1, of_decide_eq_true h3, p, hp, by simpa using hq⟩
  · cases h
theorem mthOf_spec {cd : Cd} {rows : List Row} {c m : String} {k : Nat} (h : mthOf cd rows c m k = true) : ∃ r, rowOf rows (c ++ "." ++ m) = some r ∧ r.pr = false ∧ r.at_ = (Str.ofString c, some (Str.ofString m)) ∧ k + 1 ≤ r.d.np ∧ r.d.np - (k + 1) ≤ r.d.dfl.length ∧ ∃ p, p ∈ cd ∧ p.1 = c := by
  unfold mthOf at h
  split at h
  · rename_i r e
    obtain ⟨h0, h⟩ := ba h
    obtain ⟨h1, h2⟩ := ba h
    obtain ⟨h3, h4⟩ := ba h2
    have h5 := of_decide_eq_true h3
    obtain ⟨p, hp, hq⟩ := List.any_eq_true.mp h4
    exact ⟨r, e, of_decide_eq_true h0, of_decide_eq_true h1, h5.1, h5.2, p, hp, by simpa using hq⟩
  · cases h
theorem rowOf_spec {rows : List Row} {f : String} {r : Row} (h : rowOf rows f = some r) : r ∈ rows ∧ r.f = f := by
  unfold rowOf at h
  exact ⟨List.mem_of_find?_eq_some h, by simpa using List.find?_some h⟩
/-- whoever makes instances has an __init__ -/
def iniB (cd : Cd) (rows : List Row) : Bool := rows.all fun r => r.at_.2.isNone || ((cd.any fun p => decide (r.f = p.1 ++ "." ++ "__init__") && (decide (r.at_ = (Str.ofString p.1, some (Str.ofString "__init__"))) && !r.pr)) || !(("." ++ "__init__").toList.isSuffixOf r.f.toList))
theorem ini_of {cd : Cd} {rows : List Row} (h : iniB cd rows = true) (c : String) (k : Nat) (q : mkOk (arOf rows) c k = true) : mthOf cd rows c "__init__" k = true := by
  unfold mkOk arOf at q
  cases e : rowOf rows (c ++ "." ++ "__init__") with
  | none => rw [e] at q; cases q
  | some r =>
    rw [e] at q
    have hb := List.all_eq_true.mp h r (rowOf_spec e).1
    have hf := (rowOf_spec e).2
    cases hn : r.at_.2 with
    | none => simp [hn] at q
    | some m =>
      simp only [Option.map_some, hn, Option.isNone_some] at q
      have q := of_decide_eq_true q
      simp only [hn, Option.isNone_some, Bool.false_or] at hb
      rcases Bool.or_eq_true_iff.mp hb with hb | hb
      · obtain ⟨p, hp, hq⟩ := List.any_eq_true.mp hb
        obtain ⟨h1, h2⟩ := ba hq
        obtain ⟨h3, h4⟩ := ba h2
        have ec : c = p.1 := by
          have e1 := of_decide_eq_true h1
          rw [hf] at e1
          have e2 := congrArg String.toList e1
          simp only [String.toList_append] at e2
          exact String.toList_inj.mp (List.append_cancel_right (List.append_cancel_right e2))
        subst ec
        unfold mthOf
        rw [e]
        simp only [Bool.and_eq_true, decide_eq_true_eq]
        exact ⟨by simpa using h4, of_decide_eq_true h3, q, List.any_eq_true.mpr ⟨p, hp, by simp⟩⟩
      · exfalso
        have : ("." ++ "__init__").toList.isSuffixOf r.f.toList = true := by
          rw [hf, List.isSuffixOf_iff_suffix]
          exact ⟨c.toList, by simp [String.toList_append, List.append_assoc]⟩
        rw [this] at hb
        cases hb
theorem dv_flat {g : Gw} : ∀ {ws : List W}, ws.all flatW = true → ∀ G H, RVs g G H ws ((ws.map dvOf).map (He.Dv.v g.K))
  | [], _, _, _ => RVs.nil
  | w :: ws, h, G, H => by
    rw [List.all_cons] at h
    obtain ⟨h1, h2⟩ := ba h
    refine RVs.cons ?_ (dv_flat h2 G H)
    cases w <;> first | (cases h1; done) | skip
    · exact rv_non
    · exact rv_bl
    · exact rv_int
    · exact rv_str
def clsFa (cd : Cd) : List He.Fa := cd.flatMap fun p => He.Fa.cls (Str.ofString p.1) :: He.Fa.glo (Str.ofString p.1) :: p.2.map fun f => He.Fa.noat (Str.ofString p.1) (Str.ofString f)
def mthFa : Str × Option Str → List He.Fa
  | (c, some m) => if m = Str.ofString "__init__" then [.meth c m, .mkr c] else [.meth c m]
  | _ => []
def lawFa (cd : Cd) (rows : List Row) : List He.Fa := (bnames.map fun x => He.Fa.free (Str.ofString x)) ++ (((rows.filter fun r => r.at_.2.isNone).map fun r => He.Fa.glo (Str.ofString r.f)) ++ (clsFa cd ++ (rows.filter fun r => !r.pr).flatMap fun r => mthFa r.at_))
def lawFn (rows : List Row) : List He.DefD := (rows.filter fun r => !r.pr).map Row.dd
def lawPr (rows : List Row) : List He.DefD := (rows.filter fun r => r.pr).map Row.dd
/-- tables of the top: their names, their keys and values -/
abbrev Kd := List (String × List (String × W))
def lawTs (kd : Kd) : List He.Tab := kd.map fun p => (fun K => He.ga K (Str.ofString p.1), p.2.map fun q => Str.ofString q.1)
def kdB (K : PySem.W.Frag) (p : String × List (String × W)) : Bool := decide (PySem.W.nsIn K mainGlobals (Str.ofString p.1) = some (some (.ref (He.ga K (Str.ofString p.1))))) && p.2.all fun q => match PySem.W.nsIn K (He.ga K (Str.ofString p.1)) (Str.ofString q.1) with
  | some (some u) => wB K q.2 u
  | _ => false
def kdOf (kd : Kd) (x : String) : Option (List (String × W)) := (kd.find? fun p => p.1 == x).map (·.2)
def icB (K : PySem.W.Frag) (c : String) : Bool := decide (PySem.W.findIn K (.ref (He.ga K (Str.ofString c))) "__class__" = some (some (.builtin "object.__class__"))) && (decide (PySem.W.specialIn K (.builtin "object.__class__") "__get__" = some (some (.builtin "getset_descriptor.__get__"))) && (decide (PySem.W.takesIn K (.builtin "object.__class__") = some true) && (decide (PySem.W.mroIn K (He.ga K (Str.ofString c)) (.type "object") = some true) && ((decide (PySem.W.findIn K (.ref (He.ga K (Str.ofString c))) "__ne__" = some (some (.builtin "object.__ne__"))) && icT.all fun T => decide (PySem.W.subIn K (.type T) (.ref (He.ga K (Str.ofString c))) = some false)) && icT.all fun T => decide (PySem.W.kitOne K (.type T) (.ref (He.ga K (Str.ofString c))) = some false)))))
def iscOf (ic : List String) (c : String) : Bool := ic.contains c
/-- own exception classes: name, may it be raised bare, itself and its own bases -/
abbrev Xc := List (String × Option (List String) × List String)
def exOf (xc : Xc) (c : String) : Option (List String) := match xc.find? fun q => q.1 == c with
  | some q => q.2.1
  | none => none
def supOf (xc : Xc) (c : String) : List String := match xc.find? fun q => q.1 == c with
  | some q => q.2.2
  | none => []
def xhOf (xc : Xc) (c : String) : Bool := xc.any fun q => q.1 == c
def xrB (K : PySem.W.Frag) (a : Addr) : Bool := PySem.W.excIn K a veB "ValueError.__new__" && (PySem.W.keepIn K (.ref a) && (decide (PySem.W.subIn K (.ref a) (.type "BaseException") = some true) && decide (PySem.W.typeIn K (.ref a) = some (.type "type"))))
/-- the own start of an exception class -/
structure Xi where
  c : String
  ns : List String
  self : Str
  qual : Str
  st : Stmt
  b : Option Str := none
def Xi.N (x : Xi) : List Str := x.self :: x.ns.map Str.ofString
def Xi.dd (x : Xi) : He.DefD := ⟨(Str.ofString x.c, some "__init__"), "__init__", x.qual, defArgs x.st, defBody x.st, defScope x.st, [], []⟩
structure XiOk (x : Xi) : Prop where
  chk : xiT x.N (defScope x.st) x.b (x.ns.map Str.ofString) (defBody x.st) = true
  sc : FnScope x.N x.N (defScope x.st)
  nd : (x.ns.map Str.ofString).Nodup
  len : x.ns.length ≤ 800
  bi : ∀ (K : PySem.W.Frag) (f : Addr) (fd : FuncData), FunD K "__init__" x.qual (defArgs x.st) (defBody x.st) (defScope x.st) [] [] f fd → Binds K fd x.N []
def xiAll (xc : Xc) (xi : List Xi) : Bool := xc.all fun q => match q.2.1 with
  | some (n :: ns) => xi.any fun x => decide (x.c = q.1) && decide (x.ns = n :: ns)
  | _ => true
/-- has a start of its own that keeps nothing -/
def xi0 (xi : List Xi) (c : String) : Bool := xi.any fun x => decide (x.c = c) && decide (x.ns = [])
def xisB (K : PySem.W.Frag) (C : Addr) : Bool := decide (PySem.W.findIn K (.ref C) "__init__" = some (some (.ref (He.ma K C "__init__")))) && decide (PySem.W.typeIn K (.ref (He.ma K C "__init__")) = some (.type "function"))
/-- what is asked of a class that may be raised -/
def xoB (own : Bool) (K : PySem.W.Frag) (C : Addr) : Option (List String) → Bool
  | none => true
  | some [] => match own with
    | true => oeB K C && xisB K C
    | false => xrB K C
  | some (n :: ns) => xfAll K C (n :: ns) && xisB K C
def xcB (xc : Xc) (xi : List Xi) (K : PySem.W.Frag) (q : String × Option (List String) × List String) : Bool := (He.Fa.glo (Str.ofString q.1)).ok K && (xoB (xi0 xi q.1) K (He.ga K (Str.ofString q.1)) q.2.1 &&
  xc.all fun x => decide (PySem.W.exmOne K (.ref (He.ga K (Str.ofString q.1))) (.ref (He.ga K (Str.ofString x.1))) = some (q.2.2.contains x.1)))
/-- what is asked of the base whose start a start calls -/
def xiK (K : PySem.W.Frag) (x : Xi) : Bool := match x.b with
  | none => true
  | some y => (He.Fa.glo y).ok K && bsB K (He.ga K y)
def lawFx (rows : List Row) (xi : List Xi) : List He.DefD := lawFn rows ++ xi.map Xi.dd
def lawEx (cs : List (String × W)) (kd : Kd) (ic : List String) (xc : Xc) (xi : List Xi) (K : PySem.W.Frag) : Bool := ((cs.all (conB K) && kd.all (kdB K)) && ic.all (icB K)) && (xc.all (xcB xc xi K) && xi.all (xiK K))
theorem dicW_at {K : PySem.W.Frag} {P : Params} {a : Addr} {ks : List Str} (h : He.dicW K a = some (He.keysIn P ks)) : ∃ (es : Array DictEntry) (n : Nat), K.lookup a = some ⟨.type "dict", none, .dict es n, #[]⟩ ∧ es.toList.map He.keyOf = He.keysIn P ks := by
  unfold He.dicW at h
  cases q : K.lookup a with
  | none => rw [q] at h; cases h
  | some o =>
    obtain ⟨oc, od, dt, osl⟩ := o
    rw [q] at h
    cases oc with
    | type c =>
      cases od with
      | none =>
        cases dt with
        | dict es n =>
          have h1 : (match decide (c = "dict") && (osl.isEmpty && !(a == sysModules)) with
            | true => some (es.toList.map He.keyOf)
            | false => none) = some (He.keysIn P ks) := h
          cases z : decide (c = "dict") && (osl.isEmpty && !(a == sysModules)) with
          | false => rw [z] at h1; cases h1
          | true =>
            rw [z] at h1
            obtain ⟨z1, z2⟩ := ba z
            obtain ⟨z3, _⟩ := ba z2
            have e1 : c = "dict" := of_decide_eq_true z1
            have e2 : osl = #[] := Array.isEmpty_iff.mp z3
            subst e1 e2
            exact ⟨es, n, rfl, Option.some.inj h1⟩
        | _ => cases h
      | some b => cases dt <;> cases h
    | _ => cases od <;> cases dt <;> cases h
theorem keyOf_find {z : Str} : ∀ {l : List DictEntry} {P : Params} {ks : List Str}, l.map He.keyOf = He.keysIn P ks → (∀ k ∈ ks, k ≠ z) → (l.find? fun e => e.key.isStr z) = none ∧ l.any (·.refKey) = false
  | [], _, _, _, _ => ⟨rfl, rfl⟩
  | e :: r, _, [], h, _ => by cases h
  | e :: r, P, k :: ks, h, hz => by
    have h1 : He.keyOf e :: r.map He.keyOf = some (k, PyData.keyHash P k) :: He.keysIn P ks := h
    injection h1 with h2 h3
    obtain ⟨a, b⟩ := keyOf_find h3 fun x hx => hz x (List.mem_cons_of_mem _ hx)
    have h4 : ∃ t, e.key = .str k t := by
      unfold He.keyOf at h2
      split at h2
      · rename_i x t q
        injection h2 with h5
        injection h5 with h6 _
        exact ⟨t, by rw [q, h6]⟩
      · cases h2
    obtain ⟨t, ek⟩ := h4
    have hk : k ≠ z := hz k (List.mem_cons_self ..)
    have i1 : e.key.isStr z = false := by
      rw [ek]
      show (k == z) = false
      exact beq_false_of_ne hk
    have i2 : e.refKey = false := by
      unfold DictEntry.refKey
      rw [ek]
    exact ⟨by rw [List.find?_cons_of_neg (by rw [i1]; decide)]; exact a, by rw [List.any_cons, i2, b]; rfl⟩
theorem dicW_none {K : PySem.W.Frag} {P : Params} {a : Addr} {ks : List Str} {z : Str} (h : He.dicW K a = some (He.keysIn P ks)) (hz : ∀ k ∈ ks, k ≠ z) : PySem.W.nsIn K a z = some none := by
  obtain ⟨es, n, h1, h2⟩ := dicW_at h
  obtain ⟨a1, a2⟩ := keyOf_find h2 hz
  unfold PySem.W.nsIn
  rw [h1]
  dsimp only
  rw [a1, a2]
  rfl
theorem kdl_mem {s : String} {w : W} : ∀ {ps : List (String × W)}, kdl s ps = some w → (s, w) ∈ ps
  | [], h => by cases h
  | p :: r, h => by
    unfold kdl at h
    split at h
    · rename_i e
      cases h
      rw [← e]
      exact List.mem_cons_self ..
    · exact List.mem_cons_of_mem _ (kdl_mem h)
theorem kdl_none {s : String} : ∀ {ps : List (String × W)}, kdl s ps = none → ∀ q ∈ ps, q.1 ≠ s
  | [], _, q, hq => by cases hq
  | p :: r, h, q, hq => by
    unfold kdl at h
    split at h
    · cases h
    · rename_i e
      rcases List.mem_cons.mp hq with rfl | hq
      · exact e
      · exact kdl_none h q hq
def glOf (cs : List (String × W)) (x : String) : Option W := (cs.find? fun p => p.1 == x).map (·.2)
section
variable {rows : List Row} {cs : List (String × W)} {cd : Cd} {kd : Kd} {ic : List String} {xc : Xc} {xi : List Xi}
/-- what the top's end gives of a law -/
theorem law_facts {T : Tab} {P : Program} {w : World} {K : PySem.W.Frag} {h : Heap} {mg : Str → Option Value} (hT : T.gl = glOf cs) (hF : T.fld = fldOf cd) (hM : T.mth = mthOf cd rows) (hP : T.prp = prpOf cd rows) (hX : T.ex = exOf xc) (hXs : T.sup = supOf xc) (hXh : T.xh = xhOf xc) (hXi : xiAll xc xi = true) (xok : ∀ x ∈ xi, XiOk x) (hK : T.kd = kdOf kd) (hC : T.isc = iscOf ic) (hic : ∀ c ∈ ic, ∃ q ∈ cd, q.1 = c) (hI : ∀ c k, mkOk (arOf rows) c k = true → mthOf cd rows c "__init__" k = true) (ok : ∀ r ∈ rows, RowOk (arOf rows) r) (at0 : ∀ r ∈ rows, r.at_.2 = none → r.pr = false ∧ r.at_.1 = Str.ofString r.f)
    (X : K.In h) (G : h.Ns mainGlobals mg) (c : He.SaysX (lawFa cd rows) (lawFx rows xi) (lawTs kd) [] (lawEx cs kd ic xc xi) w h K) (cp : SaysP (lawPr rows) K) {r : Row} (hr : rowOf rows "law" = some r) (hat : r.at_.2 = none) (hp : r.d.np = 1) (hd : r.d.dfl = []) {x : Str} (hps : r.ps = [x])
    (bA : ∀ (K : PySem.W.Frag) (f : Addr) (fd : FuncData), FunD K r.nm r.qual (defArgs r.st) (defBody r.st) (defScope r.st) [] [] f fd → ∀ (s : Shared) (v : Value), BindsTo s fd ⟨[v], []⟩ [(x, v)]) (n : Nat) :
    ∃ fd : FuncData, mg (Str.ofString "law") = some (.ref (r.ad K)) ∧ (∀ (s : Shared) (v : Value), BindsTo s fd ⟨[v], []⟩ [(x, v)]) ∧ ∀ base : Heap, FnOk P w K mg base (CX P w) (2 * n + 1) (r.ad K) fd [x] (spM ⟨K, fun c => He.ga K (Str.ofString c)⟩ (call T (dOf rows) n) "law" 1) := by
  have cD := c.t.d
  have fdx : ∀ f : String, ∃ fd : FuncData, ∀ r, rowOf rows f = some r → FunD K r.nm r.qual (defArgs r.st) (defBody r.st) (defScope r.st) (r.dvs K) [] (r.ad K) fd := fun f => by
    cases e : rowOf rows f with
    | none => exact ⟨default, fun r h => by cases h⟩
    | some r =>
      by_cases hpr : r.pr = true
      · obtain ⟨⟨fd, F⟩, _⟩ := cp.get (d := r.dd) (List.mem_map.mpr ⟨r, List.mem_filter.mpr ⟨(rowOf_spec e).1, hpr⟩, rfl⟩)
        refine ⟨fd, fun r' h => ?_⟩
        cases h
        have e1 : r.dvs K = [] := by unfold Row.dvs; rw [(ok r (rowOf_spec e).1).prd hpr]; rfl
        have e2 : r.ad K = gAd K r.at_ := if_pos hpr
        rw [e1, e2]; exact F
      · obtain ⟨fd, F⟩ := cD.defs (d := r.dd) (List.mem_append.mpr (.inl (List.mem_map.mpr ⟨r, List.mem_filter.mpr ⟨(rowOf_spec e).1, by simpa using hpr⟩, rfl⟩)))
        refine ⟨fd, fun r' h => ?_⟩
        cases h
        have e2 : r.ad K = He.fAd K r.at_ := if_neg hpr
        rw [e2]; exact F
  have ⟨fd, hfd⟩ := Classical.axiomOfChoice fdx
  have hglo : ∀ r ∈ rows, r.at_.2 = none → mg (Str.ofString r.f) = some (.ref (r.ad K)) := fun r hr hn => by
    have hm : He.Fa.glo (Str.ofString r.f) ∈ lawFa cd rows := List.mem_append.mpr (.inr (List.mem_append.mpr (.inl (List.mem_map.mpr ⟨r, List.mem_filter.mpr ⟨hr, by rw [hn]; rfl⟩, rfl⟩))))
    have e : r.ad K = He.ga K (Str.ofString r.f) := by
      obtain ⟨a1, a2⟩ := at0 r hr hn
      unfold Row.ad He.fAd
      rw [a1, hn, a2]; rfl
    rw [e]
    exact He.glo_ok X G (cD.facts hm)
  have inC : ∀ f, f ∈ clsFa cd → f.ok K = true := fun f hf => cD.facts (List.mem_append.mpr (.inr (List.mem_append.mpr (.inr (List.mem_append.mpr (.inl hf))))))
  have inM : ∀ r ∈ rows, r.pr = false → ∀ f, f ∈ mthFa r.at_ → f.ok K = true := fun r hr hp f hf => cD.facts (List.mem_append.mpr (.inr (List.mem_append.mpr (.inr (List.mem_append.mpr (.inr (List.mem_flatMap.mpr ⟨r, List.mem_filter.mpr ⟨hr, by simp [hp]⟩, hf⟩)))))))
  have clsK : ∀ p ∈ cd, Cls K (He.ga K (Str.ofString p.1)) ∧ mg (Str.ofString p.1) = some (.ref (He.ga K (Str.ofString p.1))) ∧ ∀ f ∈ p.2, NoAttr K (He.ga K (Str.ofString p.1)) (Str.ofString f) := fun p hp => by
    have m : ∀ f, f ∈ (He.Fa.cls (Str.ofString p.1) :: He.Fa.glo (Str.ofString p.1) :: p.2.map fun f => He.Fa.noat (Str.ofString p.1) (Str.ofString f)) → f.ok K = true := fun f hf => inC f (List.mem_flatMap.mpr ⟨p, hp, hf⟩)
    exact ⟨He.cls_ok (m _ (by simp)), He.glo_ok X G (m _ (by simp)), fun f hf => He.noat_ok (m _ (List.mem_cons_of_mem _ (List.mem_cons_of_mem _ (List.mem_map.mpr ⟨f, hf, rfl⟩))))⟩
  have main : ∀ base : Heap, ∃ t : Tp, t.P = P ∧ t.w = w ∧ t.g = ⟨K, fun c => He.ga K (Str.ofString c)⟩ ∧ t.mg = mg ∧ t.base = base ∧ t.T = T ∧ t.D = dOf rows ∧ t.fa "law" = r.ad K ∧ t.fd = fd ∧ t.ps "law" = [x] ∧ Fns t (arOf rows) (call t.T t.D n) n := fun base => by
    let t : Tp := { P := P, w := w, mg := mg, base := base, g := ⟨K, fun c => He.ga K (Str.ofString c)⟩, T := T, D := dOf rows, fa := fun f => match rowOf rows f with | some r => r.ad K | none => 0, fd := fd, ps := fun f => match rowOf rows f with | some r => r.ps | none => [] }
    have dsp : ∀ f d, t.D f = some d → ∃ r, rowOf rows f = some r ∧ r.d = d ∧ t.fa f = r.ad K ∧ t.ps f = r.ps := fun f d h => by
      obtain ⟨r, h1, h2⟩ := Option.map_eq_some_iff.mp (show (rowOf rows f).map (·.d) = some d from h)
      refine ⟨r, h1, h2, ?_, ?_⟩
      · show (match rowOf rows f with | some r => r.ad K | none => 0) = _
        rw [h1]
      · show (match rowOf rows f with | some r => r.ps | none => []) = _
        rw [h1]
    have o : t.Ok := by
      have xcA := ba (ba (show (((cs.all (conB K) && kd.all (kdB K)) && ic.all (icB K)) && (xc.all (xcB xc xi K) && xi.all (xiK K))) = true from c.more)).2
      have xq : ∀ q ∈ xc, xcB xc xi K q = true := fun q hq => List.all_eq_true.mp xcA.1 q hq
      have xb : ∀ x ∈ xi, ∀ y, x.b = some y → BsF K mg y := fun x hx y hy => by
        have z := List.all_eq_true.mp xcA.2 x hx
        unfold xiK at z
        rw [hy] at z
        obtain ⟨z1, z2⟩ := ba z
        exact ⟨_, He.glo_ok X G z1, z2⟩
      have xg : ∀ q ∈ xc, mg (Str.ofString q.1) = some (.ref (He.ga K (Str.ofString q.1))) := fun q hq => He.glo_ok X G (ba (show ((He.Fa.glo (Str.ofString q.1)).ok K && _) = true from xq q hq)).1
      refine ⟨fun y ns hy => ?_, fun y hy => ?_, fun y z hz hs => ?_, fun y hy => ?_, fun f d hd _ => ?_, fun f d hd => ?_, fun f d n hd h1 h2 => ?_, fun y hy => ?_, fun c f hf => ?_, fun c m k hk => ?_, fun c f hk => ?_, fun y ps hy => ?_, fun y w' hy => ?_⟩
      · rw [show t.T.ex = exOf xc from hX] at hy
        unfold exOf at hy
        split at hy
        · rename_i q hf
          have hm := List.mem_of_find?_eq_some hf
          have en : q.1 = y := by simpa using List.find?_some hf
          subst en
          obtain ⟨_, z⟩ := ba (xq _ hm)
          obtain ⟨z, _⟩ := ba z
          rw [hy] at z
          cases ns with
          | nil =>
            cases ho : xi0 xi q.1 with
            | false =>
              rw [ho] at z
              have z : xrB K (He.ga K (Str.ofString q.1)) = true := z
              unfold xrB at z
              obtain ⟨z1, z⟩ := ba z
              obtain ⟨z2, z⟩ := ba z
              obtain ⟨z3, z4⟩ := ba z
              exact .inl ⟨rfl, .inl ⟨xg _ hm, z1, z2, of_decide_eq_true z3, of_decide_eq_true z4⟩⟩
            | true =>
              rw [ho] at z
              obtain ⟨z1, z⟩ := ba (show (oeB K (He.ga K (Str.ofString q.1)) && xisB K (He.ga K (Str.ofString q.1))) = true from z)
              obtain ⟨z2, z3⟩ := ba z
              obtain ⟨x, hx, k⟩ := List.any_eq_true.mp ho
              obtain ⟨k1, k2⟩ := ba k
              have k1 := of_decide_eq_true k1
              have k2 := of_decide_eq_true k2
              have xo := xok x hx
              obtain ⟨fd1, F1⟩ := cD.defs (d := x.dd) (List.mem_append.mpr (.inr (List.mem_map.mpr ⟨x, hx, rfl⟩)))
              have F2 : FunD K "__init__" x.qual (defArgs x.st) (defBody x.st) (defScope x.st) [] [] (He.ma K (He.ga K (Str.ofString x.c)) "__init__") fd1 := F1
              rw [k1] at F2
              have ck := xo.chk
              rw [k2] at ck
              exact .inl ⟨rfl, .inr (xi0_of (t := t) (c := q.1) (xg _ hm) z1 (of_decide_eq_true z2) (of_decide_eq_true z3) (xo.bi K _ _ F2) F2 xo.sc (xb x hx) (by show x.self :: x.ns.map Str.ofString = [x.self]; rw [k2]; rfl) ck)⟩
          | cons n1 ns =>
            obtain ⟨z1, z⟩ := ba (show (xfAll K (He.ga K (Str.ofString q.1)) (n1 :: ns) && _) = true from z)
            obtain ⟨z2, z3⟩ := ba z
            have k := List.all_eq_true.mp hXi q hm
            rw [hy] at k
            obtain ⟨x, hx, k⟩ := List.any_eq_true.mp k
            obtain ⟨k1, k2⟩ := ba k
            have k1 := of_decide_eq_true k1
            have k2 := of_decide_eq_true k2
            have xo := xok x hx
            obtain ⟨fd1, F1⟩ := cD.defs (d := x.dd) (List.mem_append.mpr (.inr (List.mem_map.mpr ⟨x, hx, rfl⟩)))
            have F2 : FunD K "__init__" x.qual (defArgs x.st) (defBody x.st) (defScope x.st) [] [] (He.ma K (He.ga K (Str.ofString x.c)) "__init__") fd1 := F1
            rw [k1] at F2
            rw [← k2] at z1 ⊢
            exact .inr ⟨by rw [k2]; exact List.cons_ne_nil _ _, xiF_of (t := t) (c := q.1) (xg _ hm) z1 (of_decide_eq_true z2) (of_decide_eq_true z3) (xo.bi K _ _ F2) F2 xo.sc (xb x hx) rfl xo.chk (by rw [k2]; exact List.cons_ne_nil _ _) xo.nd xo.len⟩
        · cases hy
      · rw [show t.T.xh = xhOf xc from hXh] at hy
        obtain ⟨q, hq, e⟩ := List.any_eq_true.mp hy
        have en : q.1 = y := by simpa using e
        rw [← en]
        exact xg q hq
      · rw [show t.T.xh = xhOf xc from hXh] at hz
        rw [show t.T.sup = supOf xc from hXs] at hs ⊢
        obtain ⟨q, hq, e⟩ := List.any_eq_true.mp hz
        have en : q.1 = z := by simpa using e
        unfold supOf at hs ⊢
        split at hs
        · rename_i q1 hf
          have hm := List.mem_of_find?_eq_some hf
          have e1 : q1.1 = y := by simpa using List.find?_some hf
          obtain ⟨_, k⟩ := ba (xq _ hm)
          have k := of_decide_eq_true (List.all_eq_true.mp (ba k).2 q hq)
          rw [e1, en] at k
          exact k
        · exact absurd rfl hs
      · have e1 : t.T.isc = iscOf ic := hC
        rw [e1] at hy
        have hm : y ∈ ic := by unfold iscOf at hy; simpa using hy
        obtain ⟨q, q1, rfl⟩ := hic y hm
        obtain ⟨k1, k2, _⟩ := clsK q q1
        have z := List.all_eq_true.mp (ba (show ((cs.all (conB K) && kd.all (kdB K)) && ic.all (icB K)) = true from (ba c.more).1)).2 q.1 hm
        unfold icB at z
        obtain ⟨z1, z⟩ := ba z
        obtain ⟨z2, z⟩ := ba z
        obtain ⟨z3, z⟩ := ba z
        obtain ⟨z4, z⟩ := ba z
        obtain ⟨z5, z⟩ := ba z
        obtain ⟨z6, z7⟩ := ba z5
        exact ⟨k2, ⟨k1, of_decide_eq_true z1, of_decide_eq_true z2, of_decide_eq_true z3, of_decide_eq_true z4, fun T hT => of_decide_eq_true (List.all_eq_true.mp z T hT), fun T hT => of_decide_eq_true (List.all_eq_true.mp z7 T hT), of_decide_eq_true z6⟩⟩
      · obtain ⟨r, h1, h2, h3, h4⟩ := dsp f d hd
        rw [h3]
        exact (hfd f r h1).kp
      · obtain ⟨r, h1, h2, h3, h4⟩ := dsp f d hd
        rw [h4, ← h2]
        exact (ok r (rowOf_spec h1).1).np
      · obtain ⟨r, q1, rfl, q3, q4⟩ := dsp f d hd
        have ro := ok r (rowOf_spec q1).1
        obtain ⟨ds, a1, a2⟩ := ro.bi K _ _ (hfd f r q1) n h1 h2
        refine ⟨ds, _, ?_, fun G H => (dv_flat (g := t.g) ro.flat G H).drop _, a1, by rw [q4]; exact a2⟩
        show (((r.d.dfl.map dvOf).map (He.Dv.v K)).drop (r.d.dfl.length - (r.d.np - n))).length = _
        rw [List.length_drop, List.length_map, List.length_map]
        omega
      · exact He.free_ok X G (cD.facts (List.mem_append.mpr (.inl (List.mem_map.mpr ⟨y, hy, rfl⟩))))
      · have e1 : t.T.fld = fldOf cd := hF
        rw [e1] at hf
        unfold fldOf at hf
        split at hf
        · rename_i p hp
          have e2 : p.1 = c := by simpa using List.find?_some hp
          obtain ⟨k1, _, k3⟩ := clsK p (List.mem_of_find?_eq_some hp)
          rw [e2] at k1 k3
          exact ⟨k1, k3 f (by simpa using hf)⟩
        · cases hf
      · have e1 : t.T.mth = mthOf cd rows := hM
        rw [e1] at hk
        obtain ⟨r, z1, z0, z2, z3, z4, z5⟩ := mthOf_spec hk
        obtain ⟨p, z6, rfl⟩ := z5
        obtain ⟨k1, _, _⟩ := clsK p z6
        have efa : t.fa (p.1 ++ "." ++ m) = He.ma K (He.ga K (Str.ofString p.1)) (Str.ofString m) := by
          show (match rowOf rows (p.1 ++ "." ++ m) with | some r => r.ad K | none => 0) = _
          rw [z1]
          show r.ad K = _
          unfold Row.ad
          rw [z0, z2]; rfl
        have hm : He.Fa.meth (Str.ofString p.1) (Str.ofString m) ∈ mthFa r.at_ := by
          rw [z2]
          show He.Fa.meth (Str.ofString p.1) (Str.ofString m) ∈ (if Str.ofString m = Str.ofString "__init__" then [He.Fa.meth (Str.ofString p.1) (Str.ofString m), He.Fa.mkr (Str.ofString p.1)] else [He.Fa.meth (Str.ofString p.1) (Str.ofString m)])
          split
          · exact List.mem_cons_self ..
          · exact List.mem_cons_self ..
        refine ⟨k1, ?_, r.d, by show (rowOf rows _).map (·.d) = _; rw [z1]; rfl, z3, z4⟩
        rw [efa]
        exact He.meth_ok (inM r (rowOf_spec z1).1 z0 _ hm)
      · have e1 : t.T.prp = prpOf cd rows := hP
        rw [e1] at hk
        obtain ⟨r, z1, z0, z2, z3, p, z6, rfl⟩ := prpOf_spec hk
        obtain ⟨k1, _, _⟩ := clsK p z6
        have efa : t.fa (p.1 ++ "." ++ f) = gAd K r.at_ := by
          show (match rowOf rows (p.1 ++ "." ++ f) with | some r => r.ad K | none => 0) = _
          rw [z1]
          exact if_pos z0
        obtain ⟨_, f', ef, hpo⟩ := cp.get (d := r.dd) (List.mem_map.mpr ⟨r, List.mem_filter.mpr ⟨(rowOf_spec z1).1, z0⟩, rfl⟩)
        have ea : r.dd.at_ = (Str.ofString p.1, some (Str.ofString f)) := z2
        rw [ea] at ef hpo
        cases ef
        refine ⟨k1, ⟨pAd K (Str.ofString p.1, some (Str.ofString f)), ?_⟩, r.d, by show (rowOf rows _).map (·.d) = _; rw [z1]; rfl, z3⟩
        rw [efa, z2]; exact hpo
      · have e0 : t.T.kd = kdOf kd := hK
        rw [e0] at hy
        obtain ⟨p, p1, p2⟩ := Option.map_eq_some_iff.mp (show (kd.find? fun p => p.1 == y).map (·.2) = some ps from hy)
        have p3 : p.1 = y := by simpa using List.find?_some p1
        have pm := List.mem_of_find?_eq_some p1
        have p4 := List.all_eq_true.mp (ba (ba (show ((cs.all (conB K) && kd.all (kdB K)) && ic.all (icB K)) = true from (ba c.more).1)).1).2 p pm
        obtain ⟨p5, p6⟩ := ba p4
        have p7 := of_decide_eq_true p5
        subst p3 p2
        obtain ⟨i, hi, ei⟩ := List.mem_iff_getElem.mp pm
        have hts : (lawTs kd)[i]? = some (fun K => He.ga K (Str.ofString p.1), p.2.map fun q => Str.ofString q.1) := by
          unfold lawTs
          rw [List.getElem?_map, List.getElem?_eq_getElem hi, ei]; rfl
        obtain ⟨es, m, kdd⟩ := c.t.tab i hts
        have hdw : He.dicW K (He.ga K (Str.ofString p.1)) = some (He.keysIn w.params (p.2.map fun q => Str.ofString q.1)) := by
          have z := congrArg (fun z : He.AlT => z.2) (show He.obsT (lawFa cd rows) (lawFx rows xi) (lawTs kd) K = He.valT (lawFx rows xi) (lawTs kd) w from c.t)
          have z2 : ((lawTs kd).map fun t => He.dicW K (t.1 K))[i]? = ((lawTs kd).map fun t => some (He.keysIn w.params t.2))[i]? := congrArg (·[i]?) z
          rw [List.getElem?_map, List.getElem?_map, hts] at z2
          exact Option.some.inj z2
        refine ⟨He.ga K (Str.ofString p.1), es, m, PySem.W.mg_of X G p7, kdd, fun s w' hs => ?_, fun s hs => ?_⟩
        · have q1 := List.all_eq_true.mp p6 _ (kdl_mem hs)
          dsimp only at q1
          split at q1
          · rename_i u hu
            obtain ⟨k1, k2⟩ := wB_ok (g := t.g) q1
            exact ⟨u, vOf u, hu, k1, k2⟩
          · cases q1
        · refine dicW_none hdw fun k hk e => ?_
          obtain ⟨q, hq, rfl⟩ := List.mem_map.mp hk
          exact kdl_none hs q hq (str_inj e)
      · have : t.T.gl = glOf cs := hT
        rw [this] at hy
        obtain ⟨p, p1, p2⟩ := Option.map_eq_some_iff.mp (show (cs.find? fun p => p.1 == y).map (·.2) = some w' from hy)
        have p3 : p.1 = y := by simpa using List.find?_some p1
        have p4 := List.all_eq_true.mp (ba (ba (show ((cs.all (conB K) && kd.all (kdB K)) && ic.all (icB K)) = true from (ba c.more).1)).1).1 p (List.mem_of_find?_eq_some p1)
        unfold conB at p4
        split at p4
        · rename_i u hu
          obtain ⟨k1, k2⟩ := wB_ok (g := t.g) p4
          refine ⟨vOf u, u, ?_, k1, by rw [← p2]; exact k2⟩
          rw [← p3]
          exact PySem.W.mg_of X G hu
        · cases p4
    refine ⟨t, rfl, rfl, rfl, rfl, rfl, rfl, rfl, ?_, rfl, ?_, fns o (fun f d hd => ?_) (fun f np nd ha => ?_) (fun c k hk => ?_) n⟩
    · show (match rowOf rows "law" with | some r => r.ad K | none => 0) = _
      rw [hr]
    · show (match rowOf rows "law" with | some r => r.ps | none => []) = _
      rw [hr]
      exact hps
    · obtain ⟨r, q1, rfl, q3, q4⟩ := dsp f d hd
      have ro := ok r (rowOf_spec q1).1
      refine ⟨r.nm, r.qual, defArgs r.st, defBody r.st, defScope r.st, r.dvs K, r.N, ?_, by rw [q4]; exact ro.sc, ro.n, ro.chk⟩
      rw [q3]
      exact hfd f r q1
    · unfold arOf at ha
      obtain ⟨r, q1, q2⟩ := Option.map_eq_some_iff.mp ha
      simp only [Prod.mk.injEq] at q2
      have hn' : r.at_.2 = none := by simpa using q2.1
      refine ⟨r.d, by show (rowOf rows f).map (·.d) = _; rw [q1]; rfl, q2.2.1, q2.2.2, ?_⟩
      have := hglo r (rowOf_spec q1).1 hn'
      rw [(rowOf_spec q1).2] at this
      show mg (Str.ofString f) = some (.ref (match rowOf rows f with | some r => r.ad K | none => 0))
      rw [q1]
      exact this
    · have z := hI c k hk
      have e1 : t.T.mth = mthOf cd rows := hM
      refine ⟨by rw [e1]; exact z, ?_⟩
      obtain ⟨r, z1, z0, z2, z3, z4, p, z6, rfl⟩ := mthOf_spec z
      obtain ⟨_, k2, _⟩ := clsK p z6
      refine ⟨k2, ?_⟩
      have hm : He.Fa.mkr (Str.ofString p.1) ∈ mthFa r.at_ := by
        rw [z2]
        unfold mthFa
        simp
      have q := He.mkr_ok (inM r (rowOf_spec z1).1 z0 _ hm)
      show Mk K (He.ga K (Str.ofString p.1)) (match rowOf rows (p.1 ++ "." ++ "__init__") with | some r => r.ad K | none => 0)
      rw [z1]
      show Mk K _ (r.ad K)
      unfold Row.ad
      rw [z0, z2]
      exact q
  refine ⟨fd "law", ?_, fun s v => ?_, fun base => ?_⟩
  · have := hglo r (rowOf_spec hr).1 hat
    rwa [(rowOf_spec hr).2] at this
  · have F := hfd "law" r hr
    have e : r.dvs K = [] := by
      unfold Row.dvs
      rw [hd]; rfl
    rw [e] at F
    exact bA K _ _ F s v
  · obtain ⟨t, rfl, rfl, e3, rfl, rfl, rfl, e7, e8, e9, e10, F⟩ := main base
    have hdd : t.D "law" = some r.d := by
      rw [e7]
      show (rowOf rows "law").map (·.d) = _
      rw [hr]; rfl
    have := F.ok "law" r.d hdd
    rw [e8, e9, e10, e3, hp, e7] at this
    exact this
/-- the law is asked at its script -/
theorem law_sp {g : Gw} {cl : Cl} {H : Hp} {a : Addr} {ns : List Int} {lh : LH} (hl : cl "law" [.rd (ns.map .int)] [] = .ok (.bl true) lh) (hO : Only H) (hS : SqL g.K H a (ns.map V.int)) : spM g cl "law" 1 [.ref a] H (fun v _ => v = .bl true) fun _ _ _ => False := by
  have hR : SqR g.K H a (ns.map V.int) := by
    rcases hS with (h | h) | h
    · rcases hO a with z | ⟨o, xs, z⟩
      · rw [z] at h; cases h
      · rw [z] at h; cases h
    · exact .inl h
    · exact .inr h
  refine ⟨⟨[], fun _ => False, fun _ => False⟩, [.rd (ns.map .int)], [], RVs.cons ?_ RVs.nil, ?_, rfl, ?_⟩
  · unfold RV
    exact ⟨a, _, rfl, hR, RVs.of_ints ns⟩
  · exact ⟨rfl, List.nodup_nil, fun i o e => by simp at e, fun p h => h.elim, fun p h => h.elim, fun i o p e => by simp at e, fun p h => by simp at h, fun p h => h.elim, fun p h => by simp at h⟩
  · rw [hl]
    exact fun G' H' b _ _ r => r.bl_eq
end
end Mp
namespace Mp
open PySem PySem.Spec PyProof.Rows L2
/-- an exception that nobody wished for has not left -/
def CXe : CXT := fun _ _ _ E _ _ => ∃ c d H, E c d H
theorem FnOk.weak {P : Program} {w : World} {K : PySem.W.Frag} {mg : Str → Option Value} {base : Heap} {k : Nat} {f : Addr} {fd : FuncData} {ps : List Str} {sp : Sp} (F : FnOk P w K mg base (CX P w) k f fd ps sp) : FnOk P w K mg base CXe k f fd ps sp :=
  ⟨F.len, fun A outer s H args us vs Q E hr he hb hv hs => codeAny_mono (F.run A outer s H args us vs Q E hr he hb hv hs) fun r s' h => by
    cases r with
    | ok fl => cases fl <;> exact h
    | error e =>
      obtain ⟨a, B, H', cls, d, _, _, _, _, _, _, _, q⟩ := h
      exact ⟨cls, d, H', q⟩⟩
end Mp
namespace Mp
/-! ### reasoning about the evaluator -/
def Ok {α : Type} (r : R α) (P : α → LH → Prop) : Prop := match r with
  | .ok a h => P a h
  | _ => False
def Sk (r : RS) (nx : Env → LH → Prop) (rt : W → LH → Prop) (ct bk : Env → LH → Prop) : Prop := match r with
  | .nx σ h => nx σ h
  | .ret w h => rt w h
  | .cont σ h => ct σ h
  | .brk σ h => bk σ h
  | _ => False
section
variable {α β : Type} {P Q : α → LH → Prop}
theorem Ok_ok {a : α} {h : LH} : Ok (.ok a h) P = P a h := rfl
theorem Ok_bind {r : R α} {f : α → LH → R β} {P : β → LH → Prop} : Ok (r.bind f) P = Ok r fun a h => Ok (f a h) P := by cases r <;> rfl
theorem Ok.mono {r : R α} (h : Ok r P) (i : ∀ a l, P a l → Q a l) : Ok r Q := by
  cases r with
  | ok a l => exact i a l h
  | ex => exact h
  | no => exact h
theorem Ok.eq {r : R α} {v : α} {l : LH} (h : Ok r fun w l' => w = v ∧ l' = l) : r = .ok v l := by
  cases r with
  | ok a l' => obtain ⟨rfl, rfl⟩ := h; rfl
  | ex => exact h.elim
  | no => exact h.elim
theorem Ok.get {r : R α} (h : Ok r P) : ∃ a l, r = .ok a l ∧ P a l := by
  cases r with
  | ok a l => exact ⟨a, l, rfl, h⟩
  | ex => exact h.elim
  | no => exact h.elim
end
section
variable {nx ct bk : Env → LH → Prop} {rt : W → LH → Prop}
theorem Sk_nx {σ : Env} {h : LH} : Sk (.nx σ h) nx rt ct bk = nx σ h := rfl
theorem Sk_ret {w : W} {h : LH} : Sk (.ret w h) nx rt ct bk = rt w h := rfl
theorem Sk_cont {σ : Env} {h : LH} : Sk (.cont σ h) nx rt ct bk = ct σ h := rfl
theorem Sk_brk {σ : Env} {h : LH} : Sk (.brk σ h) nx rt ct bk = bk σ h := rfl
theorem Sk_toS {r : R W} {σ : Env} {f : W → LH → RS} : Sk (r.toS σ f) nx rt ct bk = Ok r fun a h => Sk (f a h) nx rt ct bk := by cases r <;> rfl
theorem Sk_seq {T : Tab} {cl : Cl} {s r : S} {σ : Env} {h : LH} : Sk (evS T cl (.seq s r) σ h) nx rt ct bk = Sk (evS T cl s σ h) (fun σ1 h1 => Sk (evS T cl r σ1 h1) nx rt ct bk) rt ct bk := by
  simp only [evS]
  cases evS T cl s σ h <;> rfl
theorem Sk.mono {r : RS} {nx' ct' bk' : Env → LH → Prop} {rt' : W → LH → Prop} (h : Sk r nx rt ct bk) (h1 : ∀ σ l, nx σ l → nx' σ l) (h2 : ∀ w l, rt w l → rt' w l) (h3 : ∀ σ l, ct σ l → ct' σ l) (h4 : ∀ σ l, bk σ l → bk' σ l) : Sk r nx' rt' ct' bk' := by
  cases r with
  | nx σ l => exact h1 _ _ h
  | ret w l => exact h2 _ _ h
  | cont σ l => exact h3 _ _ h
  | brk σ l => exact h4 _ _ h
  | ex => exact h
  | no => exact h
end
theorem Ok_call {T : Tab} {D : String → Option Def} {n : Nat} {f : String} {d : Def} {ws : List W} {h : LH} {P : W → LH → Prop} (hd : D f = some d) (hl : ws.length = d.np) :
    Ok (call T D (n + 1) f ws h) P = Sk (evS T (call T D n) d.body (ws.map some ++ List.replicate (d.n - d.np) none) h) (fun _ l => P .non l) P (fun _ _ => False) (fun _ _ => False) := by
  show Ok (match D f with | some d => callD T (call T D n) d ws h | none => .no) P = _
  rw [hd]
  show Ok (callD T (call T D n) d ws h) P = _
  rw [callD_len hl]
  cases evS T (call T D n) d.body (ws.map some ++ List.replicate (d.n - d.np) none) h <;> rfl
/-- a call with defaults -/
theorem call_fill {T : Tab} {D : String → Option Def} {n : Nat} {f : String} {d : Def} {ws us : List W} {h : LH} (hd : D f = some d) (h1 : ws.length ≤ d.np) (h2 : d.np - ws.length ≤ d.dfl.length) (e : ws ++ d.dfl.drop (d.dfl.length - (d.np - ws.length)) = us) : call T D n f ws h = call T D n f us h := by
  cases n with
  | zero => rfl
  | succ n =>
    show (match D f with | some d => callD T (call T D n) d ws h | none => .no) = (match D f with | some d => callD T (call T D n) d us h | none => .no)
    rw [hd]
    show callD T (call T D n) d ws h = callD T (call T D n) d us h
    rw [callD_fill h1 h2, e]
/-! ### loops -/
theorem forL_ok {body : Env → LH → RS} {tg : Tg} {g : Gd} {nx ct bk : Env → LH → Prop} {rt : W → LH → Prop} (I : List W → Env → LH → Prop) (h0 : ∀ σ h, I [] σ h → gOk g h = true ∧ nx σ h)
    (hs : ∀ w ws σ h, I (w :: ws) σ h → gOk g h = true ∧ ∃ σ1, bindT tg w σ = some σ1 ∧ Sk (body σ1 h) (I ws) rt (I ws) nx) : ∀ {ws : List W} {σ : Env} {h : LH}, I ws σ h → Sk (forL body tg g ws σ h) nx rt ct bk
  | [], σ, h, i => by
    unfold forL
    obtain ⟨h1, h2⟩ := h0 σ h i
    rw [if_pos h1]
    exact h2
  | w :: ws, σ, h, i => by
    obtain ⟨h1, σ1, h2, h3⟩ := hs w ws σ h i
    unfold forL
    rw [if_pos h1, h2]
    dsimp only
    cases hb : body σ1 h with
    | nx σ2 l2 => rw [hb] at h3; exact forL_ok I h0 hs h3
    | cont σ2 l2 => rw [hb] at h3; exact forL_ok I h0 hs h3
    | brk σ2 l2 => rw [hb] at h3; exact h3
    | ret w l2 => rw [hb] at h3; exact h3
    | ex => rw [hb] at h3; exact h3
    | no => rw [hb] at h3; exact h3
theorem compL_ok {f c : Env → LH → R W} {tg : Tg} {σ : Env} {g : Gd} (I : List W → List W → LH → Prop) (hg : ∀ ws ys h, I ws ys h → gOk g h = true)
    (hs : ∀ w ws ys h, I (w :: ws) ys h → ∃ σ1, bindT tg w σ = some σ1 ∧ Ok (c σ1 h) fun b h1 => (b = .bl true ∧ Ok (f σ1 h1) fun y h2 => I ws (ys ++ [y]) h2) ∨ (b = .bl false ∧ I ws ys h1)) :
    ∀ {ws ys : List W} {h : LH}, I ws ys h → Ok (compL f c tg σ g ws h) fun zs h' => I [] (ys ++ zs) h'
  | [], ys, h, i => by
    unfold compL
    rw [if_pos (hg _ _ _ i)]
    show I [] (ys ++ []) h
    rwa [List.append_nil]
  | w :: ws, ys, h, i => by
    obtain ⟨σ1, h2, h3⟩ := hs w ws ys h i
    obtain ⟨b, l1, e1, h4⟩ := h3.get
    unfold compL
    rw [if_pos (hg _ _ _ i), h2]
    dsimp only
    rw [e1]
    rcases h4 with ⟨rfl, h5⟩ | ⟨rfl, h5⟩
    · obtain ⟨y, l2, e2, h6⟩ := h5.get
      show Ok ((f σ1 l1).noex.bind fun y h2 => (compL f c tg σ g ws h2).bind fun ys h3 => .ok (y :: ys) h3) _
      rw [e2]
      show Ok ((compL f c tg σ g ws l2).bind fun ys h3 => .ok (y :: ys) h3) _
      rw [Ok_bind]
      refine (compL_ok I hg hs h6).mono fun zs l h7 => ?_
      rw [Ok_ok]
      rwa [List.append_assoc] at h7
    · exact compL_ok I hg hs h5
/-- a comprehension that only looks -/
theorem compL_map {f c : Env → LH → R W} {tg : Tg} {σ : Env} {g : Gd} {h : LH} (F : W → W) (hg : gOk g h = true) : ∀ {ws : List W}, (∀ w ∈ ws, ∃ σ1, bindT tg w σ = some σ1 ∧ c σ1 h = .ok (.bl true) h ∧ f σ1 h = .ok (F w) h) → compL f c tg σ g ws h = .ok (ws.map F) h
  | [], _ => by unfold compL; rw [if_pos hg]; rfl
  | w :: ws, hs => by
    obtain ⟨σ1, h1, h2, h3⟩ := hs w (List.mem_cons_self ..)
    unfold compL
    rw [if_pos hg, h1]
    dsimp only
    rw [h2]
    show ((f σ1 h).noex.bind fun y h2 => (compL f c tg σ g ws h2).bind fun ys h3 => .ok (y :: ys) h3) = _
    rw [h3]
    show ((compL f c tg σ g ws h).bind fun ys h3 => .ok (F w :: ys) h3) = _
    rw [compL_map F hg fun w hw => hs w (List.mem_cons_of_mem _ hw)]
    rfl
/-- a comprehension that only looks, with a test -/
theorem compL_filter {f c : Env → LH → R W} {tg : Tg} {σ : Env} {g : Gd} {h : LH} (F : W → W) (p : W → Bool) (hg : gOk g h = true) : ∀ {ws : List W}, (∀ w ∈ ws, ∃ σ1, bindT tg w σ = some σ1 ∧ c σ1 h = .ok (.bl (p w)) h ∧ (p w = true → f σ1 h = .ok (F w) h)) → compL f c tg σ g ws h = .ok ((ws.filter p).map F) h
  | [], _ => by unfold compL; rw [if_pos hg]; rfl
  | w :: ws, hs => by
    obtain ⟨σ1, h1, h2, h3⟩ := hs w (List.mem_cons_self ..)
    have ih := compL_filter F p hg fun w hw => hs w (List.mem_cons_of_mem _ hw)
    unfold compL
    rw [if_pos hg, h1]
    dsimp only
    rw [h2]
    cases hp : p w with
    | true =>
      show ((f σ1 h).noex.bind fun y h2 => (compL f c tg σ g ws h2).bind fun ys h3 => .ok (y :: ys) h3) = _
      rw [h3 hp]
      show ((compL f c tg σ g ws h).bind fun ys h3 => .ok (F w :: ys) h3) = _
      rw [ih, List.filter_cons_of_pos hp]
      rfl
    | false =>
      show compL f c tg σ g ws h = _
      rw [ih, List.filter_cons_of_neg (by simp [hp])]
/-- a comprehension that draws -/
theorem compL_draw {f c : Env → LH → R W} {tg : Tg} {σ : Env} {g : Gd} (J : LH → Prop) (Q : W → Prop) (hg : ∀ h, J h → gOk g h = true) : ∀ {ws : List W} {h : LH}, (∀ w ∈ ws, ∀ h, J h → ∃ σ1, bindT tg w σ = some σ1 ∧ c σ1 h = .ok (.bl true) h ∧ Ok (f σ1 h) fun y h' => Q y ∧ J h') → J h → Ok (compL f c tg σ g ws h) fun ys h' => ys.length = ws.length ∧ (∀ y ∈ ys, Q y) ∧ J h'
  | [], h, _, j => by
    unfold compL
    rw [if_pos (hg h j)]
    exact ⟨rfl, fun y hy => (by cases hy), j⟩
  | w :: ws, h, hs, j => by
    obtain ⟨σ1, h1, h2, h3⟩ := hs w (List.mem_cons_self ..) h j
    obtain ⟨y, l, e, q, j2⟩ := h3.get
    unfold compL
    rw [if_pos (hg h j), h1]
    dsimp only
    rw [h2]
    show Ok ((f σ1 h).noex.bind fun y h2 => (compL f c tg σ g ws h2).bind fun ys h3 => .ok (y :: ys) h3) _
    rw [e]
    show Ok ((compL f c tg σ g ws l).bind fun ys h3 => .ok (y :: ys) h3) _
    rw [Ok_bind]
    refine (compL_draw J Q hg (fun w hw => hs w (List.mem_cons_of_mem _ hw)) j2).mono fun ys l2 ⟨a1, a2, a3⟩ => ?_
    rw [Ok_ok]
    refine ⟨congrArg Nat.succ a1, fun z hz => ?_, a3⟩
    rcases List.mem_cons.mp hz with rfl | hz
    · exact q
    · exact a2 z hz
end Mp
namespace Mp
/-- a proof that simp writes down (the kernel is not left to find it) -/
theorem nrfl {α : Sort _} {a b : α} (h : a = b) : a = b := by cases h; exact Eq.refl _
/-! ### the rules that run the evaluator in a goal -/
section
variable {T : Tab} {cl : Cl} {σ : Env} {h : LH} {P : W → LH → Prop} {a b c e es : E}
@[simp ↓] theorem okOk {α : Type} {a : α} {P : α → LH → Prop} : Ok (.ok a h) P = P a h := nrfl rfl
@[simp] theorem items_tup {xs : List W} : items (.tup xs) = xs := nrfl rfl
@[simp ↓] theorem ok_var {i : Nat} : Ok (evE T cl (.var i) σ h) P = ∃ w, σ[i]? = some (some w) ∧ P w h := by
  simp only [evE]
  split
  · rename_i w hw; simp [hw, Ok]
  · rename_i hw
    simp only [Ok, eq_iff_iff, false_iff]
    rintro ⟨w, h1, _⟩
    exact hw w h1
@[simp ↓] theorem ok_cst {w : W} : Ok (evE T cl (.cst w) σ h) P = P w h := by simp only [evE, Ok]
@[simp ↓] theorem ok_glo {x : String} : Ok (evE T cl (.glo x) σ h) P = ∃ w, T.gl x = some w ∧ P w h := by
  simp only [evE]
  cases T.gl x <;> simp [Ok]
@[simp ↓] theorem ok_nil : Ok (evE T cl .nil σ h) P = P (.tup []) h := by simp only [evE, Ok]
@[simp ↓] theorem ok_cons : Ok (evE T cl (.cons e es) σ h) P = Ok (evE T cl e σ h) fun w h1 => Ok (evE T cl es σ h1) fun ws h2 => P (.tup (w :: items ws)) h2 := by simp only [evE, Ok_bind, Ok_ok]
@[simp ↓] theorem ok_tup : Ok (evE T cl (.tup es) σ h) P = Ok (evE T cl es σ h) fun ws h1 => P (.tup (items ws)) h1 := by simp only [evE, Ok_bind, Ok_ok]
@[simp ↓] theorem ok_lst : Ok (evE T cl (.lst es) σ h) P = Ok (evE T cl es σ h) fun ws h1 => P (.fl (items ws)) h1 := by simp only [evE, Ok_bind, Ok_ok]
@[simp ↓] theorem ok_lstm : Ok (evE T cl (.lstm es) σ h) P = Ok (evE T cl es σ h) fun ws h1 => P (.ref h1.length) (h1 ++ [.lst (items ws)]) := by simp only [evE, Ok_bind, Ok_ok]
@[simp ↓] theorem ok_bin {o : BOp} : Ok (evE T cl (.bin o a b) σ h) P = Ok (evE T cl a σ h) fun x h1 => Ok (evE T cl b σ h1) fun y h2 => Ok (evB o x y h2) P := by simp only [evE, Ok_bind]
@[simp ↓] theorem ok_un {o : UOp} : Ok (evE T cl (.un o a) σ h) P = Ok (evE T cl a σ h) fun x h1 => Ok (evU o x h1) P := by simp only [evE, Ok_bind]
@[simp ↓] theorem ok_cmp {o : COp} : Ok (evE T cl (.cmp o a b) σ h) P = Ok (evE T cl a σ h) fun x h1 => Ok (evE T cl b σ h1) fun y h2 => Ok (evC o x y h2) P := by simp only [evE, Ok_bind]
theorem ok_if {α : Type} {x : W} {A B : R α} {P : α → LH → Prop} : Ok (match x with | .bl true => A | .bl false => B | _ => .no) P = ∃ b, x = .bl b ∧ if b = true then Ok A P else Ok B P := by
  cases x <;> simp [Ok]
  rename_i b
  cases b <;> simp [Ok]
theorem ok_match {A B : W → LH → R W} {r : R W} : (Ok r fun x h1 => Ok (match x with | .bl true => A x h1 | .bl false => B x h1 | _ => .no) P) = Ok r fun x h1 => ∃ b, x = .bl b ∧ if b = true then Ok (A x h1) P else Ok (B x h1) P := by
  congr 1
  funext x h1
  cases x <;> simp [Ok]
  rename_i b
  cases b <;> simp [Ok]
theorem ok_guard {α : Type} {q : Prop} [Decidable q] {r : R α} {P : α → LH → Prop} : Ok (if q then r else .no) P = (q ∧ Ok r P) := by
  split <;> simp [*, Ok]
@[simp ↓] theorem ok_cmp2 {o p : COp} : Ok (evE T cl (.cmp2 o p a b c) σ h) P = Ok (evE T cl a σ h) fun x h1 => Ok (evE T cl b σ h1) fun y h2 => Ok (evC o x y h2) fun k h3 => ∃ q, k = .bl q ∧ if q = true then Ok (evE T cl c σ h3) (fun z h4 => Ok (evC p y z h4) P) else P (.bl false) h3 := by
  simp only [evE, Ok_bind]
  congr 1; funext x h1; congr 1; funext y h2; congr 1; funext k h3
  cases k <;> simp [Ok]
  rename_i q
  cases q with
  | true => simp only [if_true]; exact Iff.of_eq Ok_bind
  | false => simp
@[simp ↓] theorem ok_and : Ok (evE T cl (.and a b) σ h) P = Ok (evE T cl a σ h) fun x h1 => ∃ q, x = .bl q ∧ if q = true then Ok (evE T cl b σ h1) P else P (.bl false) h1 := by
  simp only [evE, Ok_bind]
  congr 1; funext x h1
  cases x <;> simp [Ok]
  rename_i q
  cases q <;> simp [Ok]
@[simp ↓] theorem ok_or : Ok (evE T cl (.or a b) σ h) P = Ok (evE T cl a σ h) fun x h1 => ∃ q, x = .bl q ∧ if q = true then P (.bl true) h1 else Ok (evE T cl b σ h1) P := by
  simp only [evE, Ok_bind]
  congr 1; funext x h1
  cases x <;> simp [Ok]
  rename_i q
  cases q <;> simp [Ok]
@[simp ↓] theorem ok_tand : Ok (evE T cl (.tand a b) σ h) P = Ok (evE T cl a σ h) fun x h1 => ∃ q, x = .bl q ∧ if q = true then Ok (evE T cl b σ h1) P else P (.bl false) h1 := by
  simp only [evE, Ok_bind]
  congr 1; funext x h1
  cases x <;> simp [Ok]
  rename_i q
  cases q <;> simp [Ok]
@[simp ↓] theorem ok_tor : Ok (evE T cl (.tor a b) σ h) P = Ok (evE T cl a σ h) fun x h1 => ∃ q, x = .bl q ∧ if q = true then P (.bl true) h1 else Ok (evE T cl b σ h1) P := by
  simp only [evE, Ok_bind]
  congr 1; funext x h1
  cases x <;> simp [Ok]
  rename_i q
  cases q <;> simp [Ok]
@[simp ↓] theorem ok_tnot : Ok (evE T cl (.tnot a) σ h) P = Ok (evE T cl a σ h) fun x h1 => ∃ q, x = .bl q ∧ P (.bl (!q)) h1 := by
  simp only [evE, Ok_bind]
  congr 1; funext x h1
  cases x <;> simp [Ok]
theorem ok_opt {α : Type} {x : Option α} {f : α → W} {l : LH} : Ok (match x with | some b => .ok (f b) l | none => .no) P = ∃ b, x = some b ∧ P (f b) l := by cases x <;> simp [Ok]
@[simp ↓] theorem ok_not : Ok (evE T cl (.not a) σ h) P = Ok (evE T cl a σ h) fun x h1 => ∃ q, truW h1 x = some q ∧ P (.bl (!q)) h1 := by
  simp only [evE, Ok_bind]
  congr 1; funext x h1
  cases truW h1 x <;> simp [Ok]
@[simp ↓] theorem ok_tE : Ok (evE T cl (.tE a) σ h) P = Ok (evE T cl a σ h) fun x h1 => ∃ q, truW h1 x = some q ∧ P (.bl q) h1 := by
  simp only [evE, Ok_bind]
  congr 1; funext x h1
  cases truW h1 x <;> simp [Ok]
@[simp ↓] theorem ok_ite : Ok (evE T cl (.ite c a b) σ h) P = Ok (evE T cl c σ h) fun x h1 => ∃ q, x = .bl q ∧ if q = true then Ok (evE T cl a σ h1) P else Ok (evE T cl b σ h1) P := by
  simp only [evE, Ok_bind]
  congr 1; funext x h1
  cases x <;> simp [Ok]
  rename_i q
  cases q <;> simp [Ok]
@[simp ↓] theorem ok_call {f : String} : Ok (evE T cl (.call f es) σ h) P = Ok (evE T cl es σ h) fun ws h1 => Ok (cl f (items ws) h1) P := by simp only [evE, Ok_bind]
@[simp ↓] theorem ok_bf {f : Bf} : Ok (evE T cl (.bf f es) σ h) P = Ok (evE T cl es σ h) fun ws h1 => Ok (evF f (items ws) h1) P := by simp only [evE, Ok_bind]
@[simp] theorem tyB_bool : tyB .bool = true := nrfl rfl
@[simp] theorem tyB_int : tyB .int = true := nrfl rfl
@[simp] theorem tyB_str : tyB .str = true := nrfl rfl
@[simp] theorem tyB_list : tyB .list = true := nrfl rfl
@[simp] theorem tyB_tuple : tyB .tuple = true := nrfl rfl
@[simp] theorem tyB_dict : tyB .dict = true := nrfl rfl
theorem ok_isiG {t : Ty} (ht : tyB t = true) : Ok (evE T cl (.isi a t) σ h) P = Ok (evE T cl a σ h) fun x h1 => ∃ q, tyOk h1 x t = some q ∧ P (.bl q) h1 := by
  simp only [evE, ht, if_true, Ok_bind]
  congr 1; funext x h1
  cases tyOk h1 x t <;> simp [Ok]
@[simp ↓] theorem ok_isi_bool : Ok (evE T cl (.isi a .bool) σ h) P = Ok (evE T cl a σ h) fun x h1 => ∃ q, tyOk h1 x .bool = some q ∧ P (.bl q) h1 := ok_isiG (nrfl rfl)
@[simp ↓] theorem ok_isi_int : Ok (evE T cl (.isi a .int) σ h) P = Ok (evE T cl a σ h) fun x h1 => ∃ q, tyOk h1 x .int = some q ∧ P (.bl q) h1 := ok_isiG (nrfl rfl)
@[simp ↓] theorem ok_isi_str : Ok (evE T cl (.isi a .str) σ h) P = Ok (evE T cl a σ h) fun x h1 => ∃ q, tyOk h1 x .str = some q ∧ P (.bl q) h1 := ok_isiG (nrfl rfl)
@[simp ↓] theorem ok_isi_list : Ok (evE T cl (.isi a .list) σ h) P = Ok (evE T cl a σ h) fun x h1 => ∃ q, tyOk h1 x .list = some q ∧ P (.bl q) h1 := ok_isiG (nrfl rfl)
@[simp ↓] theorem ok_isi_tuple : Ok (evE T cl (.isi a .tuple) σ h) P = Ok (evE T cl a σ h) fun x h1 => ∃ q, tyOk h1 x .tuple = some q ∧ P (.bl q) h1 := ok_isiG (nrfl rfl)
@[simp ↓] theorem ok_isi_dict : Ok (evE T cl (.isi a .dict) σ h) P = Ok (evE T cl a σ h) fun x h1 => ∃ q, tyOk h1 x .dict = some q ∧ P (.bl q) h1 := ok_isiG (nrfl rfl)
@[simp ↓] theorem ok_isiC {c : String} : Ok (evE T cl (.isi a (.cls c)) σ h) P = (T.isc c = true ∧ Ok (evE T cl a σ h) fun x h1 => Ok (isicW c x h1) P) := by
  simp only [evE]
  rw [if_neg (by unfold tyB; simp)]
  show Ok (if T.isc c = true then _ else _) P = _
  split
  · rename_i q; simp only [q, Ok_bind, true_and]; rfl
  · rename_i q; simp [q, Ok]
@[simp ↓] theorem isic_obj {c : String} {ns : List String} {fs : List W} : Ok (isicW c (.obj c ns fs) h) P = P (.bl true) h := by
  show Ok (if c = c then .ok (.bl true) h else .no) P = _
  rw [if_pos rfl, okOk]
@[simp ↓] theorem isic_non {c : String} : Ok (isicW c .non h) P = P (.bl false) h := nrfl rfl
@[simp ↓] theorem ok_isiT {ts : List Ty} : Ok (evE T cl (.isiT a ts) σ h) P = Ok (evE T cl a σ h) fun x h1 => ∃ q, tyAny h1 x ts = some q ∧ P (.bl q) h1 := by
  simp only [evE, Ok_bind]
  congr 1; funext x h1
  cases tyAny h1 x ts <;> simp [Ok]
@[simp ↓] theorem ok_lm {m : Lm} : Ok (evE T cl (.lm a m es) σ h) P = Ok (evE T cl a σ h) fun x h1 => isLst h1 x = true ∧ Ok (evE T cl es σ h1) fun ws h2 => Ok (evLm m x (items ws) h2) P := by
  simp only [evE, Ok_bind]
  congr 1; funext x h1
  split
  · rename_i q; simp [q, Ok_bind]
  · rename_i q; simp [q, Ok]
@[simp ↓] theorem ok_lidx : Ok (evE T cl (.lidx a e) σ h) P = Ok (evE T cl a σ h) fun x h1 => (lstOf h1 x).isSome = true ∧ Ok (evE T cl e σ h1) fun y h2 => Ok (evLidx x y h2) P := by
  simp only [evE, Ok_bind]
  congr 1; funext x h1
  split
  · rename_i q; simp [q, Ok_bind]
  · rename_i q; simp [q, Ok]
@[simp ↓] theorem ok_lidxI {x : W} {k : Int} : Ok (evLidx x (.int k) h) P = ∃ j, ((lstOf h x).bind toInts).bind (idxI k) = some j ∧ P (.int j) h := by
  unfold evLidx
  dsimp only
  cases ((lstOf h x).bind toInts).bind (idxI k) <;> simp [Ok]
@[simp ↓] theorem ok_pop {n : Nat} : Ok (evLm .pop (.ref n) [] h) P = ∃ xs y, h[n]? = some (.lst xs) ∧ xs[xs.length - 1]? = some y ∧ P y (h.set n (.lst xs.dropLast)) := by
  unfold evLm
  dsimp only
  cases hq : h[n]? with
  | none => simp [Ok]
  | some o =>
    cases o <;> simp [Ok]
    rename_i xs
    cases xs[xs.length - 1]? <;> simp
@[simp ↓] theorem ok_popAt {n : Nat} {i : Int} : Ok (evLm .popAt (.ref n) [.int i] h) P = ∃ xs j y, h[n]? = some (.lst xs) ∧ (-(2 ^ 63) ≤ i ∧ i < 2 ^ 63) ∧ ixn xs.length i = some j ∧ xs[j]? = some y ∧ P y (h.set n (.lst (xs.eraseIdx j))) := by
  unfold evLm
  dsimp only
  cases hq : h[n]? with
  | none => simp [Ok]
  | some o =>
    cases o <;> simp [Ok]
    rename_i xs
    by_cases hr : -9223372036854775808 ≤ i ∧ i < 9223372036854775808
    · simp only [hr, and_self, if_true]
      cases hj : ixn xs.length i with
      | none => simp
      | some j =>
        cases hy : xs[j]? <;> simp [hy]
    · simp only [hr, if_false]
      simp
@[simp ↓] theorem ok_idx : Ok (evE T cl (.idx a b) σ h) P = Ok (evE T cl a σ h) fun x h1 => Ok (evE T cl b σ h1) fun y h2 => Ok (evIx x y h2) P := by simp only [evE, Ok_bind]
@[simp ↓] theorem ok_comp {tg : Tg} {own : List Nat} : Ok (evE T cl (.comp false e tg a c own) σ h) P = Ok (evI T cl a σ h) fun p h1 => p.1.length ≤ big ∧ Ok (compL (fun σ' h' => evE T cl e σ' h') (fun σ' h' => evE T cl c σ' h') tg (wipeE σ own) p.2 p.1 h1) fun ys h2 => P (.fl ys) h2 := by
  simp only [evE, Ok_bind]
  congr 1; funext p h1
  rw [ok_guard]
  simp only [if_true, Bool.false_eq_true, if_false, Ok_bind, Ok_ok]
@[simp ↓] theorem ok_compm {tg : Tg} {own : List Nat} : Ok (evE T cl (.comp true e tg a c own) σ h) P = Ok (evI T cl a σ h) fun p h1 => p.1.length ≤ big ∧ Ok (compL (fun σ' h' => evE T cl e σ' h') (fun σ' h' => evE T cl c σ' h') tg (wipeE σ own) p.2 p.1 h1) fun ys h2 => P (.ref h2.length) (h2 ++ [.lst ys]) := by
  simp only [evE, Ok_bind]
  congr 1; funext p h1
  rw [ok_guard]
  simp only [if_true, Bool.false_eq_true, if_false, Ok_bind, Ok_ok]
@[simp ↓] theorem ok_lrng : Ok (evE T cl (.lrng false a) σ h) P = Ok (evE T cl a σ h) fun x h1 => Ok (rng (.int 0) x h1) fun p h2 => P (.fl p.1) h2 := by
  simp only [evE, Ok_bind]
  rfl
@[simp ↓] theorem ok_frz : Ok (evE T cl (.frz a) σ h) P = Ok (evE T cl a σ h) fun x h1 => ∃ n xs, x = .ref n ∧ h1[n]? = some (.lst xs) ∧ P (.fl xs) (h1.set n .dead) := by
  simp only [evE, Ok_bind]
  congr 1; funext x h1
  cases x <;> simp [Ok]
  rename_i n
  cases hq : h1[n]? with
  | none => simp
  | some o => cases o <;> simp
@[simp ↓] theorem ok_frzd : Ok (evE T cl (.frzd a) σ h) P = Ok (evE T cl a σ h) fun x h1 => ∃ n ks vs, x = .ref n ∧ h1[n]? = some (.dic ks vs) ∧ P (.dic ks vs) (h1.set n .dead) := by
  simp only [evE, Ok_bind]
  congr 1; funext x h1
  cases x <;> simp [Ok]
  rename_i n
  cases hq : h1[n]? with
  | none => simp
  | some o =>
    cases o <;> simp
    exact ⟨fun z => ⟨_, _, ⟨rfl, rfl⟩, z⟩, fun ⟨_, _, ⟨z1, z2⟩, z⟩ => by subst z1; subst z2; exact z⟩
theorem ex2 {α β : Type} {c : α} {d : β} {F : α → β → Prop} : (∃ a b, (some (c, d) : Option (α × β)) = some (a, b) ∧ F a b) = F c d := propext ⟨by rintro ⟨_, _, e, f⟩; cases e; exact f, fun f => ⟨_, _, rfl, f⟩⟩
theorem exD {c d : List W} {F : List W → List W → Prop} : (∃ a b, (some (O.dic c d) : Option O) = some (.dic a b) ∧ F a b) = F c d := propext ⟨by rintro ⟨_, _, e, f⟩; cases e; exact f, fun f => ⟨_, _, rfl, f⟩⟩
theorem exI {c : String} {d : List String} {e : List W} {F : String → List String → List W → Prop} : (∃ a b x, (some (O.ins c d e) : Option O) = some (.ins a b x) ∧ F a b x) = F c d e := propext ⟨by rintro ⟨_, _, _, e, f⟩; cases e; exact f, fun f => ⟨_, _, _, rfl, f⟩⟩
theorem ok_noex {α : Type} {r : R α} {P : α → LH → Prop} : Ok r.noex P = Ok r P := by cases r <;> simp [Ok, R.noex]
theorem ok_ifb {r : R W} {neg : Bool} : (Ok r fun b h3 => Ok (match b with | .bl b => .ok (.bl (b != neg)) h3 | _ => .no) P) = Ok r fun b h3 => ∃ q, b = .bl q ∧ P (.bl (q != neg)) h3 := by
  congr 1; funext b h3
  cases b <;> simp [Ok]
@[simp ↓] theorem ok_attr {f : String} : Ok (evE T cl (.attr a f) σ h) P = Ok (evE T cl a σ h) fun x h1 => Ok (evAt T.fld x f h1) P := by simp only [evE, Ok_bind]
@[simp ↓] theorem ok_at {f c : String} {ns : List String} {fs : List W} : Ok (evAt T.fld (.obj c ns fs) f h) P = ((T.fld c).contains f = true ∧ ∃ w, lk f ns fs = some w ∧ P w h) := by
  show Ok (if (T.fld c).contains f then (match lk f ns fs with | some w => R.ok w h | none => R.no) else R.no) P = _
  rw [ok_guard]
  cases lk f ns fs <;> simp [Ok]
@[simp ↓] theorem ok_prop {f : String} : Ok (evE T cl (.prop a f) σ h) P = Ok (evE T cl a σ h) fun x h1 => ∃ c ns, clsOf h1 x = some (c, ns) ∧ T.prp c f = true ∧ Ok (cl (c ++ "." ++ f) [x] h1) P := by
  simp only [evE, Ok_bind]
  congr 1; funext x h1
  cases clsOf h1 x with
  | none => simp [Ok]
  | some p =>
    obtain ⟨c, ns⟩ := p
    dsimp only
    rw [ok_guard, ok_noex]
    simp only [ex2]
@[simp ↓] theorem ok_meth {m : String} : Ok (evE T cl (.meth a m es) σ h) P = Ok (evE T cl a σ h) fun x h1 => ∃ c ns, clsOf h1 x = some (c, ns) ∧ (T.mth c m (nE es) = true ∧ ns.contains m = false) ∧ Ok (evE T cl es σ h1) fun ws h2 => Ok (cl (c ++ "." ++ m) (x :: items ws) h2) P := by
  simp only [evE, Ok_bind]
  congr 1; funext x h1
  cases clsOf h1 x with
  | none => simp [Ok]
  | some p =>
    obtain ⟨c, ns⟩ := p
    dsimp only
    rw [ok_guard, Ok_bind]
    simp only [ex2]
@[simp ↓] theorem ok_make {c : String} : Ok (evE T cl (.make c es) σ h) P = Ok (evE T cl es σ h) fun ws h1 => T.mth c "__init__" (nE es) = true ∧ Ok (cl (c ++ "." ++ "__init__") (.ref h1.length :: items ws) (h1 ++ [.ins c [] []])) fun r h2 => ∃ d ns fs, r = .non ∧ h2[h1.length]? = some (.ins d ns fs) ∧ P (.obj d ns fs) (h2.set h1.length .dead) := by
  simp only [evE, Ok_bind]
  congr 1; funext ws h1
  rw [ok_guard, Ok_bind]
  congr 2; funext r h2
  split
  · rename_i d ns fs hq
    rw [okOk]
    refine propext ⟨fun z => ⟨_, _, _, rfl, hq, z⟩, ?_⟩
    rintro ⟨_, _, _, _, e, z⟩
    rw [hq] at e
    cases e; exact z
  · rename_i hq
    simp only [Ok, eq_iff_iff, false_iff]
    rintro ⟨d, ns, fs, rfl, h3, _⟩
    exact hq d ns fs rfl h3
@[simp ↓] theorem ok_dnew : Ok (evE T cl .dnew σ h) P = P (.ref h.length) (h ++ [.dic [] []]) := by simp only [evE, Ok]
@[simp ↓] theorem ok_dlit : Ok (evE T cl (.dlit es) σ h) P = Ok (evE T cl es σ h) fun w h1 => ∃ p, pairD (items w) [] [] = some p ∧ P (.ref h1.length) (h1 ++ [.dic p.1 p.2]) := by
  simp only [evE, Ok_bind, ok_noex]
  congr 1; funext w h1
  cases pairD (items w) [] [] <;> simp [Ok]
theorem ok_dixS {x y : W} {l : LH} {p : List W × List W} (e : dicOf l x = some p) : Ok (evDix x y l) P = (keyF y = true ∧ ∃ w, dlk y p.1 p.2 = some w ∧ P w l) := by
  unfold evDix
  rw [e]
  dsimp only
  rw [ok_guard]
  refine propext ⟨fun ⟨z1, z2⟩ => ⟨z1, ?_⟩, ?_⟩
  · cases hq : dlk y p.1 p.2 with
    | none => rw [hq] at z2; exact z2.elim
    | some w => rw [hq] at z2; exact ⟨w, rfl, z2⟩
  · rintro ⟨z1, w, z2, z3⟩
    rw [z2]
    exact ⟨z1, z3⟩
theorem ok_dixN {x y : W} {l : LH} (e : dicOf l x = none) : Ok (evDix x y l) P = Ok (evIx x y l) P := by
  unfold evDix
  rw [e]
@[simp] theorem ok_dixD {ks vs : List W} {y : W} {l : LH} : Ok (evDix (.dic ks vs) y l) P = (keyF y = true ∧ ∃ w, dlk y ks vs = some w ∧ P w l) := ok_dixS (p := (ks, vs)) (nrfl rfl)
@[simp] theorem ok_dixF {xs : List W} {y : W} {l : LH} : Ok (evDix (.fl xs) y l) P = Ok (evIx (.fl xs) y l) P := ok_dixN (nrfl rfl)
@[simp] theorem ok_dixT {xs : List W} {y : W} {l : LH} : Ok (evDix (.tup xs) y l) P = Ok (evIx (.tup xs) y l) P := ok_dixN (nrfl rfl)
@[simp] theorem ok_dixX {s : String} {y : W} {l : LH} : Ok (evDix (.str s) y l) P = Ok (evIx (.str s) y l) P := ok_dixN (nrfl rfl)
@[simp] theorem ok_dixR {n : Nat} {y : W} {l : LH} : Ok (evDix (.ref n) y l) P = (match l[n]? with | some (.dic ks vs) => keyF y = true ∧ ∃ w, dlk y ks vs = some w ∧ P w l | _ => Ok (evIx (.ref n) y l) P) := by
  cases e : l[n]? with
  | none => exact ok_dixN (by unfold dicOf; dsimp only; rw [e])
  | some o =>
    cases o with
    | dic ks vs => exact ok_dixS (p := (ks, vs)) (by unfold dicOf; dsimp only; rw [e])
    | _ => exact ok_dixN (by unfold dicOf; dsimp only; rw [e])
@[simp ↓] theorem ok_didx : Ok (evE T cl (.didx a b) σ h) P = Ok (evE T cl a σ h) fun x h1 => Ok (evE T cl b σ h1) fun y h2 => Ok (evDix x y h2) P := by
  simp only [evE, Ok_bind]
theorem ok_dhasv {neg : Bool} {x y : W} {l : LH} : Ok (evDhas neg y x l) P = ∃ p, dicOf l x = some p ∧ keyF y = true ∧ P (.bl ((dlk y p.1 p.2).isSome != neg)) l := by
  unfold evDhas
  cases dicOf l x with
  | none => simp [Ok]
  | some p =>
    dsimp only
    rw [ok_guard]
    simp [Ok]
@[simp ↓] theorem ok_dhas {neg : Bool} : Ok (evE T cl (.dhas neg a b) σ h) P = Ok (evE T cl a σ h) fun y h1 => Ok (evE T cl b σ h1) fun x h2 => ∃ p, dicOf h2 x = some p ∧ keyF y = true ∧ P (.bl ((dlk y p.1 p.2).isSome != neg)) h2 := by
  simp only [evE, Ok_bind, ok_dhasv]
theorem ok_dgetv {x y u : W} {l : LH} : Ok (evDget x y u l) P = ∃ p, dicOf l x = some p ∧ keyF y = true ∧ P ((dlk y p.1 p.2).getD u) l := by
  unfold evDget
  cases dicOf l x with
  | none => simp [Ok]
  | some p =>
    dsimp only
    rw [ok_guard]
    simp [Ok]
@[simp ↓] theorem ok_dget {z : E} : Ok (evE T cl (.dget a b z) σ h) P = Ok (evE T cl a σ h) fun x h1 => (dicOf h1 x).isSome = true ∧ Ok (evE T cl b σ h1) fun y h2 => Ok (evE T cl z σ h2) fun u h3 => ∃ p, dicOf h3 x = some p ∧ keyF y = true ∧ P ((dlk y p.1 p.2).getD u) h3 := by
  simp only [evE, Ok_bind, ok_guard, ok_dgetv]
@[simp ↓] theorem ok_dkeys : Ok (evE T cl (.dkeys a) σ h) P = Ok (evE T cl a σ h) fun x h1 => ∃ p, dicOf h1 x = some p ∧ P (.fl p.1) h1 := by
  simp only [evE, Ok_bind]
  congr 1; funext x h1
  unfold evDkeys
  cases dicOf h1 x <;> simp [Ok]
@[simp ↓] theorem ok_olen : Ok (evE T cl (.olen a) σ h) P = Ok (evE T cl a σ h) fun x h1 => ∃ c ns, clsOf h1 x = some (c, ns) ∧ T.mth c "__len__" 0 = true ∧ Ok (cl (c ++ "." ++ "__len__") [x] h1) fun r h2 => ∃ i, r = .int i ∧ (0 ≤ i ∧ i < 2 ^ 63) ∧ P (.int i) h2 := by
  simp only [evE, Ok_bind]
  congr 1; funext x h1
  cases clsOf h1 x with
  | none => simp [Ok]
  | some p =>
    obtain ⟨c, ns⟩ := p
    dsimp only
    by_cases m : T.mth c "__len__" 0 = true
    · simp only [m, if_true]
      refine propext ⟨fun q => ⟨c, ns, rfl, m, ?_⟩, fun ⟨c', ns', e1, m', q⟩ => ?_⟩
      · cases hc : cl (c ++ "." ++ "__len__") [x] h1 with
        | ok w h2 =>
          rw [hc] at q
          cases w <;> first | exact q.elim | skip
          rename_i i
          by_cases hi : 0 ≤ i ∧ i < 2 ^ 63
          · dsimp only at q
            rw [if_pos hi] at q
            exact ⟨i, rfl, hi, q⟩
          · dsimp only at q
            rw [if_neg hi] at q
            exact q.elim
        | _ => rw [hc] at q; exact q.elim
      · cases e1
        cases hc : cl (c ++ "." ++ "__len__") [x] h1 with
        | ok w h2 =>
          rw [hc] at q
          obtain ⟨i, rfl, hi, z⟩ := q
          dsimp only
          rw [if_pos hi]
          exact z
        | _ => rw [hc] at q; exact q.elim
    · simp [m, Ok]
@[simp ↓] theorem ok_slS {s : String} {l u : Option Int} : Ok (evSl (.str s) l u h) P = (s.length ≤ big ∧ P (.str (String.ofList (cut s.toList l u))) h) := by
  unfold evSl
  by_cases c : s.length ≤ big
  · simp [c, Ok]
  · simp [c, Ok]
@[simp ↓] theorem ok_ohas {neg : Bool} : Ok (evE T cl (.ohas neg a b) σ h) P = Ok (evE T cl a σ h) fun y h1 => Ok (evE T cl b σ h1) fun x h2 => ∃ c ns, clsOf h2 x = some (c, ns) ∧ T.mth c "__contains__" 1 = true ∧ Ok (cl (c ++ "." ++ "__contains__") [x, y] h2) fun r h3 => ∃ q, r = .bl q ∧ P (.bl (q != neg)) h3 := by
  simp only [evE, Ok_bind]
  congr 1; funext x h1; congr 1; funext y h2
  cases clsOf h2 y with
  | none => simp [Ok]
  | some p =>
    obtain ⟨c, ns⟩ := p
    dsimp only
    rw [ok_guard, Ok_bind]
    simp only [ex2]
    congr 2; funext r h3
    cases r <;> simp [Ok]
@[simp ↓] theorem ok_x : Ok (evE T cl (.x a) σ h) P = Ok (evE T cl a σ h) P := by simp only [evE]
@[simp ↓] theorem ok_comp2 {tg tg1 : Tg} {it1 c1 : E} {own own1 : List Nat} : Ok (evE T cl (.comp2 false e tg a c tg1 it1 c1 own own1) σ h) P = Ok (evI T cl a σ h) fun p h1 => p.1.length ≤ big ∧ Ok (compJ (fun σ' h' => (evI T cl it1 σ' h').bind fun p1 h2 =>
    if p1.1.length ≤ big then compL (fun σ2 h3 => evE T cl e σ2 h3) (fun σ2 h3 => evE T cl c1 σ2 h3) tg1 (wipeE σ' own1) p1.2 p1.1 h2 else .no) (fun σ' h' => evE T cl c σ' h') tg (wipeE σ own) p.2 p.1 h1) fun ys h2 => ys.length ≤ big ∧ P (.fl ys) h2 := by
  simp only [evE, Ok_bind]
  congr 1; funext p h1
  rw [ok_guard]
  simp only [Bool.false_eq_true, if_false, Ok_bind, ok_guard, Ok_ok]
theorem ok_sfindI {s : String} {r : R W} : Ok (r.bind fun y h2 => match y with | .str b => .ok (.int (PySem.Txt.find (PySem.Str.ofString s) (PySem.Str.ofString b))) h2 | _ => .no) P = Ok r fun y h2 => ∃ u, y = .str u ∧ P (.int (PySem.Txt.find (PySem.Str.ofString s) (PySem.Str.ofString u))) h2 := by
  rw [Ok_bind]
  congr 1; funext y h2
  cases y <;> simp [Ok]
@[simp ↓] theorem ok_sfind : Ok (evE T cl (.sfind a b) σ h) P = Ok (evE T cl a σ h) fun x h1 => ∃ s, x = .str s ∧ Ok (evE T cl b σ h1) fun y h2 => ∃ u, y = .str u ∧ P (.int (PySem.Txt.find (PySem.Str.ofString s) (PySem.Str.ofString u))) h2 := by
  simp only [evE, Ok_bind]
  congr 1; funext x h1
  cases x with
  | str s =>
    refine Eq.trans (ok_sfindI (s := s) (r := evE T cl b σ h1)) ?_
    exact propext ⟨fun z => ⟨s, rfl, z⟩, by rintro ⟨_, e, z⟩; cases e; exact z⟩
  | _ =>
    refine propext ⟨fun z => z.elim, ?_⟩
    rintro ⟨_, e, _⟩
    cases e
@[simp ↓] theorem ok_oeqx {neg : Bool} : Ok (evE T cl (.oeqx neg a b) σ h) P = Ok (evE T cl a σ h) fun x h1 => Ok (evE T cl b σ h1) fun y h2 => match clsOf h2 x with
    | some p => ((T.isc p.1 = true ∧ T.mth p.1 "__eq__" 1 = true) ∧ okR h2 p.1 y = true) ∧ Ok (cl (p.1 ++ "." ++ "__eq__") [x, y] h2) fun r h3 => ∃ q, r = .bl q ∧ P (.bl (q != neg)) h3
    | none => Ok (evC (if neg = true then .ne else .eq) x y h2) P := by
  simp only [evE, Ok_bind]
  congr 1; funext x h1; congr 1; funext y h2
  cases clsOf h2 x with
  | none => rfl
  | some p =>
    dsimp only
    rw [ok_guard, Ok_bind]
    congr 2
    funext r h3
    cases r <;> simp [Ok]
@[simp ↓] theorem ok_sjoin : Ok (evE T cl (.sjoin a b) σ h) P = Ok (evE T cl a σ h) fun x h1 => ∃ s, x = .str s ∧ Ok (evE T cl b σ h1) fun y h2 => ∃ ys, (seqOf h2 y).bind toStrs = some ys ∧ (ys.map String.length).sum + ys.length * s.length ≤ 16777216 ∧ P (.str (joinS s ys)) h2 := by
  simp only [evE, Ok_bind]
  congr 1; funext x h1
  cases x with
  | str s =>
    simp only [Ok_bind]
    refine propext ⟨fun z => ⟨s, rfl, z.mono fun y h2 q => ?_⟩, ?_⟩
    · split at q
      · rename_i ys hy
        rw [ok_guard] at q
        exact ⟨ys, hy, q.1, q.2⟩
      · exact q.elim
    · rintro ⟨_, e, z⟩
      cases e
      refine z.mono fun y h2 ⟨ys, hy, q1, q2⟩ => ?_
      rw [hy]
      dsimp only
      rw [ok_guard]
      exact ⟨q1, q2⟩
  | _ =>
    refine propext ⟨fun z => z.elim, ?_⟩
    rintro ⟨_, e, _⟩
    cases e
theorem ex3 {α β : Type} {c c' : α} {d d' : β} {F : α → β → β → Prop} : (∃ a b b', (some (c, d) : Option (α × β)) = some (a, b) ∧ (some (c', d') : Option (α × β)) = some (a, b') ∧ F a b b') = (c = c' ∧ F c d d') := propext ⟨by rintro ⟨_, _, _, e, e', f⟩; cases e; cases e'; exact ⟨rfl, f⟩, fun ⟨e, f⟩ => ⟨_, _, _, rfl, by rw [e], f⟩⟩
@[simp ↓] theorem ok_oeq {neg : Bool} : Ok (evE T cl (.oeq neg a b) σ h) P = Ok (evE T cl a σ h) fun x h1 => Ok (evE T cl b σ h1) fun y h2 => ∃ c ns ms, clsOf h2 x = some (c, ns) ∧ clsOf h2 y = some (c, ms) ∧ T.mth c "__eq__" 1 = true ∧ Ok (cl (c ++ "." ++ "__eq__") [x, y] h2) fun r h3 => ∃ q, r = .bl q ∧ P (.bl (q != neg)) h3 := by
  simp only [evE, Ok_bind]
  congr 1; funext x h1; congr 1; funext y h2
  cases clsOf h2 x with
  | none => simp [Ok]
  | some p =>
    obtain ⟨c, ns⟩ := p
    cases clsOf h2 y with
    | none => simp [Ok]
    | some q =>
      obtain ⟨c', ms⟩ := q
      dsimp only
      rw [ok_guard, Ok_bind, ex3, and_assoc]
      congr 2
      congr 2; funext r h3
      cases r <;> simp [Ok]
@[simp ↓] theorem ok_lrng2 : Ok (evE T cl (.lrng2 false a b) σ h) P = Ok (evE T cl a σ h) fun x h1 => Ok (evE T cl b σ h1) fun y h2 => Ok (rng x y h2) fun p h3 => P (.fl p.1) h3 := by
  simp only [evE, Ok_bind]
  rfl
@[simp ↓] theorem ok_sset : Ok (evE T cl (.sset a) σ h) P = Ok (evE T cl a σ h) fun x h1 => Ok (evSset x h1) P := by simp only [evE, Ok_bind]
@[simp ↓] theorem ok_lset : Ok (evE T cl (.lset a) σ h) P = Ok (evE T cl a σ h) fun x h1 => Ok (evLset x h1) P := by simp only [evE, Ok_bind]
@[simp ↓] theorem ok_kin {neg : Bool} {x : String} : Ok (evE T cl (.kin neg a x) σ h) P = ∃ ps, T.kd x = some ps ∧ Ok (evE T cl a σ h) fun y h1 => ∃ s, y = .str s ∧ P (.bl ((kdl s ps).isSome != neg)) h1 := by
  simp only [evE]
  cases T.kd x with
  | none => simp [Ok]
  | some ps =>
    simp only [Ok_bind, Option.some.injEq, exists_eq_left']
    congr 1; funext y h1
    cases y <;> simp [Ok]
@[simp ↓] theorem ok_kix {x : String} : Ok (evE T cl (.kix x a) σ h) P = ∃ ps, T.kd x = some ps ∧ Ok (evE T cl a σ h) fun y h1 => ∃ s, y = .str s ∧ ∃ w, kdl s ps = some w ∧ P w h1 := by
  simp only [evE]
  cases T.kd x with
  | none => simp [Ok]
  | some ps =>
    simp only [Ok_bind, Option.some.injEq, exists_eq_left']
    congr 1; funext y h1
    cases y <;> simp [Ok]
    rename_i s
    cases kdl s ps <;> simp
@[simp] theorem cls_obj {c : String} {ns : List String} {fs : List W} : clsOf h (.obj c ns fs) = some (c, ns) := nrfl rfl
@[simp] theorem dic_dic {ks vs : List W} : dicOf h (.dic ks vs) = some (ks, vs) := nrfl rfl
theorem dic_ref {n : Nat} {ks vs : List W} (e : h[n]? = some (.dic ks vs)) : dicOf h (.ref n) = some (ks, vs) := by simp [dicOf, e]
variable {Q : List W × Gd → LH → Prop}
@[simp ↓] theorem ok_itv : Ok (evI T cl (.itv a) σ h) Q = Ok (evE T cl a σ h) fun x h1 => ∃ xs, seqOf h1 x = some xs ∧ Q (xs, gdOf h1 x) h1 := by
  simp only [evI, Ok_bind]
  congr 1; funext x h1
  cases seqOf h1 x <;> simp [Ok]
@[simp ↓] theorem ok_sitv : Ok (evI T cl (.sitv a) σ h) Q = Ok (evE T cl a σ h) fun x h1 => ∃ s, x = .str s ∧ Q (chars s, []) h1 := by
  simp only [evI, Ok_bind]
  congr 1; funext x h1
  cases x <;> simp [Ok]
@[simp ↓] theorem ok_rng1 : Ok (evI T cl (.rng1 a) σ h) Q = Ok (evE T cl a σ h) fun x h1 => Ok (rng (.int 0) x h1) Q := by simp only [evI, Ok_bind]
@[simp ↓] theorem ok_rng2 : Ok (evI T cl (.rng2 a b) σ h) Q = Ok (evE T cl a σ h) fun x h1 => Ok (evE T cl b σ h1) fun y h2 => Ok (rng x y h2) Q := by simp only [evI, Ok_bind]
@[simp ↓] theorem ok_rng3 : Ok (evI T cl (.rng3 a b c) σ h) Q = Ok (evE T cl a σ h) fun x h1 => Ok (evE T cl b σ h1) fun y h2 => Ok (evE T cl c σ h2) fun z h3 => Ok (rng3 x y z h3) Q := by simp only [evI, Ok_bind]
theorem ok_rngD {i j : Int} (ha : -(2 ^ 62) ≤ i) (ha' : i < 2 ^ 62) (hb : -(2 ^ 62) ≤ j) (hb' : j < 2 ^ 62) (hz : (i - j).toNat ≤ big) : Ok (rng3 (.int i) (.int j) (.int (-1)) h) Q = Q (rng3W i (-1) (i - j).toNat, []) h := by
  obtain ⟨h1, h2, h3, h4⟩ := L2.RgC.neg ha ha' hb hb'
  unfold rng3
  dsimp only
  have e : (PySem.Builtin.Range.rangeSize i j (-1)).toNat = (i - j).toNat := by rw [h4]; rfl
  rw [if_pos ⟨⟨h1, h2, h3, by rw [h4]; rfl⟩, by rw [e]; exact hz⟩, e, okOk]
@[simp ↓] theorem ok_enum : Ok (evI T cl (.enum a) σ h) Q = Ok (evE T cl a σ h) fun x h1 => ∃ xs, seqOf h1 x = some xs ∧ Q (enumW 0 xs, gdOf h1 x) h1 := by
  simp only [evI, Ok_bind]
  congr 1; funext x h1
  cases seqOf h1 x <;> simp [Ok]
@[simp ↓] theorem ok_rev : Ok (evI T cl (.rev a) σ h) Q = Ok (evE T cl a σ h) fun x h1 => ∃ xs, seqOf h1 x = some xs ∧ Q (xs.reverse, gdOf h1 x) h1 := by
  simp only [evI, Ok_bind]
  congr 1; funext x h1
  cases seqOf h1 x <;> simp [Ok]
@[simp ↓] theorem ok_zip : Ok (evI T cl (.zip a b) σ h) Q = Ok (evE T cl a σ h) fun x h1 => Ok (evE T cl b σ h1) fun y h2 => ∃ xs ys, seqOf h2 x = some xs ∧ seqOf h2 y = some ys ∧ Q (zipW xs ys, gdOf h2 x ++ gdOf h2 y) h2 := by
  simp only [evI, Ok_bind]
  congr 1; funext x h1; congr 1; funext y h2
  unfold zip2
  cases seqOf h2 x <;> cases seqOf h2 y <;> simp [Ok]
@[simp ↓] theorem ok_rng {i j : Int} : Ok (rng (.int i) (.int j) h) Q = (okRng i j = true ∧ Q (rngW i j, []) h) := by
  unfold rng
  dsimp only
  split
  · rename_i q; simp [q, Ok]
  · rename_i q; simp [q, Ok]
/-! operations -/
variable {i j : Int}
@[simp ↓] theorem ok_add : Ok (evB .add (.int i) (.int j) h) P = P (.int (i + j)) h := nrfl rfl
@[simp ↓] theorem ok_sub : Ok (evB .sub (.int i) (.int j) h) P = P (.int (i - j)) h := nrfl rfl
@[simp ↓] theorem ok_mul : Ok (evB .mul (.int i) (.int j) h) P = (((-(2 ^ 64) < i ∧ i < 2 ^ 64) ∨ (-(2 ^ 64) < j ∧ j < 2 ^ 64)) ∧ P (.int (i * j)) h) := by
  show Ok (if _ then _ else .no) P = _
  rw [ok_guard]; rfl
@[simp ↓] theorem ok_fdiv : Ok (evB .fdiv (.int i) (.int j) h) P = ((0 < j ∧ j < 1073741824) ∧ P (.int (i / j)) h) := by
  show Ok (if _ then _ else .no) P = _
  rw [ok_guard]; rfl
@[simp ↓] theorem ok_mod : Ok (evB .mod (.int i) (.int j) h) P = (0 < j ∧ P (.int (i % j)) h) := by
  show Ok (if _ then _ else .no) P = _
  rw [ok_guard]; rfl
@[simp ↓] theorem ok_shl : Ok (evB .shl (.int i) (.int j) h) P = ((0 ≤ j ∧ j ≤ 1000000 ∧ i.natAbs < 2 ^ 64) ∧ P (.int (i * 2 ^ j.toNat)) h) := by
  show Ok (if _ then _ else .no) P = _
  rw [ok_guard]; rfl
@[simp ↓] theorem ok_pow : Ok (evB .pow (.int i) (.int j) h) P = ((0 ≤ j ∧ j ≤ 1000000 ∧ i.natAbs < 2 ^ 64) ∧ P (.int (i ^ j.toNat)) h) := by
  show Ok (if _ then _ else .no) P = _
  rw [ok_guard]; rfl
@[simp ↓] theorem ok_shr : Ok (evB .shr (.int i) (.int j) h) P = (0 ≤ j ∧ P (.int (i / 2 ^ j.toNat)) h) := by
  show Ok (if _ then _ else .no) P = _
  rw [ok_guard]; rfl
@[simp ↓] theorem ok_band : Ok (evB .band (.int i) (.int j) h) P = P (.int (PySem.Builtin.bitAnd i j)) h := nrfl rfl
@[simp ↓] theorem ok_bor : Ok (evB .bor (.int i) (.int j) h) P = P (.int (PySem.Builtin.bitOr i j)) h := nrfl rfl
@[simp ↓] theorem ok_bxor : Ok (evB .bxor (.int i) (.int j) h) P = P (.int (PySem.Builtin.bitXor i j)) h := nrfl rfl
@[simp ↓] theorem ok_addL {xs ys : List W} : Ok (evB .add (.fl xs) (.fl ys) h) P = (xs.length + ys.length ≤ big ∧ P (.fl (xs ++ ys)) h) := by
  show Ok (if _ then _ else .no) P = _
  rw [ok_guard]; rfl
@[simp ↓] theorem ok_eqi : Ok (evC .eq (.int i) (.int j) h) P = P (.bl (decide (i = j))) h := nrfl rfl
@[simp ↓] theorem ok_nei : Ok (evC .ne (.int i) (.int j) h) P = P (.bl (!decide (i = j))) h := nrfl rfl
@[simp ↓] theorem ok_eqb {x y : Bool} : Ok (evC .eq (.bl x) (.bl y) h) P = P (.bl (decide (x = y))) h := nrfl rfl
@[simp ↓] theorem ok_neb {x y : Bool} : Ok (evC .ne (.bl x) (.bl y) h) P = P (.bl (!decide (x = y))) h := nrfl rfl
@[simp ↓] theorem ok_lti : Ok (evC .lt (.int i) (.int j) h) P = P (.bl (decide (i < j))) h := nrfl rfl
@[simp ↓] theorem ok_lei : Ok (evC .le (.int i) (.int j) h) P = P (.bl (decide (i ≤ j))) h := nrfl rfl
@[simp ↓] theorem ok_gti : Ok (evC .gt (.int i) (.int j) h) P = P (.bl (decide (j < i))) h := nrfl rfl
@[simp ↓] theorem ok_gei : Ok (evC .ge (.int i) (.int j) h) P = P (.bl (decide (j ≤ i))) h := nrfl rfl
@[simp ↓] theorem ok_isN {x : W} : Ok (evC .is x .non h) P = P (.bl (isNon x)) h := nrfl rfl
@[simp ↓] theorem ok_isnN {x : W} : Ok (evC .isn x .non h) P = P (.bl (!isNon x)) h := nrfl rfl
@[simp ↓] theorem ok_isB {x y : Bool} : Ok (evC .is (.bl x) (.bl y) h) P = P (.bl (decide (x = y))) h := nrfl rfl
@[simp] theorem isNon_int : isNon (.int i) = false := nrfl rfl
@[simp] theorem isNon_non : isNon .non = true := nrfl rfl
@[simp ↓] theorem ok_int : Ok (evF .int [.int i] h) P = P (.int i) h := nrfl rfl
@[simp ↓] theorem ok_abs : Ok (evF .abs [.int i] h) P = P (.int (if i < 0 then -i else i)) h := nrfl rfl
@[simp ↓] theorem ok_divmod : Ok (evF .divmod [.int i, .int j] h) P = ((0 < j ∧ j < 1073741824) ∧ P (.tup [.int (i / j), .int (i % j)]) h) := by
  show Ok (if _ then _ else .no) P = _
  rw [ok_guard]; rfl
@[simp ↓] theorem ok_lenT {xs : List W} : Ok (evF .len [.tup xs] h) P = P (.int xs.length) h := nrfl rfl
@[simp ↓] theorem ok_lenF {xs : List W} : Ok (evF .len [.fl xs] h) P = P (.int xs.length) h := nrfl rfl
@[simp ↓] theorem ok_lenR {xs : List W} : Ok (evF .len [.rd xs] h) P = P (.int xs.length) h := nrfl rfl
@[simp ↓] theorem ok_tupT {xs : List W} : Ok (evF .tuple [.tup xs] h) P = P (.tup xs) h := nrfl rfl
@[simp ↓] theorem ok_tupF {xs : List W} : Ok (evF .tuple [.fl xs] h) P = P (.tup xs) h := nrfl rfl
@[simp ↓] theorem ok_lstT {xs : List W} : Ok (evF .list [.tup xs] h) P = P (.fl xs) h := nrfl rfl
@[simp ↓] theorem ok_lstF {xs : List W} : Ok (evF .list [.fl xs] h) P = P (.fl xs) h := nrfl rfl
@[simp] theorem tru_bl {q : Bool} : truW h (.bl q) = some q := nrfl rfl
@[simp] theorem tru_int : truW h (.int i) = some (i != 0) := nrfl rfl
@[simp] theorem sq_tup {xs : List W} : seqOf h (.tup xs) = some xs := nrfl rfl
@[simp] theorem sq_fl {xs : List W} : seqOf h (.fl xs) = some xs := nrfl rfl
@[simp] theorem sq_rd {xs : List W} : seqOf h (.rd xs) = some xs := nrfl rfl
@[simp] theorem gd_tup {xs : List W} : gdOf h (.tup xs) = [] := nrfl rfl
@[simp] theorem gd_fl {xs : List W} : gdOf h (.fl xs) = [] := nrfl rfl
@[simp] theorem gd_rd {xs : List W} : gdOf h (.rd xs) = [] := nrfl rfl
@[simp] theorem gok_nil : gOk [] h = true := nrfl rfl
@[simp ↓] theorem ok_ixT {xs : List W} : Ok (evIx (.tup xs) (.int i) h) P = ∃ w, ix xs i = some w ∧ P w h := by
  show Ok (match ix xs i with | some w => R.ok w h | none => R.no) P = _
  cases ix xs i <;> simp [Ok]
@[simp ↓] theorem ok_ixF {xs : List W} : Ok (evIx (.fl xs) (.int i) h) P = ∃ w, ix xs i = some w ∧ P w h := by
  show Ok (match ix xs i with | some w => R.ok w h | none => R.no) P = _
  cases ix xs i <;> simp [Ok]
@[simp ↓] theorem ok_ixR {xs : List W} : Ok (evIx (.rd xs) (.int i) h) P = ∃ w, ix xs i = some w ∧ P w h := by
  show Ok (match ix xs i with | some w => R.ok w h | none => R.no) P = _
  cases ix xs i <;> simp [Ok]
@[simp ↓] theorem ok_ixr {n : Nat} : Ok (evIx (.ref n) (.int i) h) P = ∃ xs, h[n]? = some (.lst xs) ∧ ∃ w, ix xs i = some w ∧ P w h := by
  show Ok (match seqOf h (.ref n) with | some xs => (match ix xs i with | some w => R.ok w h | none => R.no) | none => R.no) P = _
  unfold seqOf
  dsimp only
  cases hq : h[n]? with
  | none => simp [Ok]
  | some o =>
    cases o <;> simp [Ok]
    rename_i xs
    cases ix xs i <;> simp
theorem ixn_nat {n k : Nat} : ixn n (k : Int) = if k < n then some k else none := by
  unfold ixn
  by_cases hk : k < n
  · simp [hk]
  · simp [hk]
theorem ix_nat {α : Type} {xs : List α} {k : Nat} : ix xs (k : Int) = xs[k]? := by
  unfold ix ixn
  by_cases hk : k < xs.length
  · simp [hk]
  · simp [hk]
@[simp] theorem ixn_0 {n : Nat} : ixn n 0 = if 0 < n then some 0 else none := ixn_nat (k := 0)
@[simp] theorem ix_0 {α : Type} {xs : List α} : ix xs 0 = xs[0]? := ix_nat (k := 0)
@[simp] theorem ixn_1 {n : Nat} : ixn n 1 = if 1 < n then some 1 else none := ixn_nat (k := 1)
@[simp] theorem ix_1 {α : Type} {xs : List α} : ix xs 1 = xs[1]? := ix_nat (k := 1)
@[simp] theorem ixn_2 {n : Nat} : ixn n 2 = if 2 < n then some 2 else none := ixn_nat (k := 2)
@[simp] theorem ix_2 {α : Type} {xs : List α} : ix xs 2 = xs[2]? := ix_nat (k := 2)
@[simp] theorem ixn_3 {n : Nat} : ixn n 3 = if 3 < n then some 3 else none := ixn_nat (k := 3)
@[simp] theorem ix_3 {α : Type} {xs : List α} : ix xs 3 = xs[3]? := ix_nat (k := 3)
@[simp] theorem ixn_4 {n : Nat} : ixn n 4 = if 4 < n then some 4 else none := ixn_nat (k := 4)
@[simp] theorem ix_4 {α : Type} {xs : List α} : ix xs 4 = xs[4]? := ix_nat (k := 4)
@[simp] theorem ixn_5 {n : Nat} : ixn n 5 = if 5 < n then some 5 else none := ixn_nat (k := 5)
@[simp] theorem ix_5 {α : Type} {xs : List α} : ix xs 5 = xs[5]? := ix_nat (k := 5)
@[simp] theorem ixn_6 {n : Nat} : ixn n 6 = if 6 < n then some 6 else none := ixn_nat (k := 6)
@[simp] theorem ix_6 {α : Type} {xs : List α} : ix xs 6 = xs[6]? := ix_nat (k := 6)
@[simp] theorem ixn_7 {n : Nat} : ixn n 7 = if 7 < n then some 7 else none := ixn_nat (k := 7)
@[simp] theorem ix_7 {α : Type} {xs : List α} : ix xs 7 = xs[7]? := ix_nat (k := 7)
@[simp] theorem ixn_8 {n : Nat} : ixn n 8 = if 8 < n then some 8 else none := ixn_nat (k := 8)
@[simp] theorem ix_8 {α : Type} {xs : List α} : ix xs 8 = xs[8]? := ix_nat (k := 8)
@[simp] theorem ixn_9 {n : Nat} : ixn n 9 = if 9 < n then some 9 else none := ixn_nat (k := 9)
@[simp] theorem ix_9 {α : Type} {xs : List α} : ix xs 9 = xs[9]? := ix_nat (k := 9)
theorem ix_map {α β : Type} {f : α → β} {xs : List α} {i : Int} : ix (xs.map f) i = (ix xs i).map f := by
  unfold ix
  rw [List.length_map]
  cases ixn xs.length i <;> simp
theorem ix_get {α : Type} {xs : List α} {i : Int} (h0 : 0 ≤ i) (h1 : i < xs.length) : ∃ x, ix xs i = some x ∧ x ∈ xs := by
  unfold ix ixn
  rw [if_pos h0, if_pos h1]
  have h2 : i.toNat < xs.length := by omega
  exact ⟨xs[i.toNat], by simp [h2], List.getElem_mem h2⟩
end
section
variable {T : Tab} {cl : Cl} {σ : Env} {h : LH} {nx ct bk : Env → LH → Prop} {rt : W → LH → Prop} {e : E} {s r : S}
@[simp ↓] theorem sk_nil : Sk (evS T cl .nil σ h) nx rt ct bk = nx σ h := by simp only [evS, Sk]
@[simp ↓] theorem sk_seq : Sk (evS T cl (.seq s r) σ h) nx rt ct bk = Sk (evS T cl s σ h) (fun σ1 h1 => Sk (evS T cl r σ1 h1) nx rt ct bk) rt ct bk := Sk_seq
@[simp ↓] theorem sk_asg {i : Nat} : Sk (evS T cl (.asg i e) σ h) nx rt ct bk = Ok (evE T cl e σ h) fun w h1 => nx (σ.set i (some w)) h1 := by simp only [evS, Sk_toS, Sk_nx]
@[simp ↓] theorem sk_expr : Sk (evS T cl (.expr e) σ h) nx rt ct bk = Ok (evE T cl e σ h) fun w h1 => nx σ h1 := by simp only [evS, Sk_toS, Sk_nx]
@[simp ↓] theorem sk_ret : Sk (evS T cl (.ret e) σ h) nx rt ct bk = Ok (evE T cl e σ h) rt := by simp only [evS, Sk_toS, Sk_ret]
@[simp ↓] theorem sk_retN : Sk (evS T cl .retN σ h) nx rt ct bk = rt .non h := by simp only [evS, Sk]
@[simp ↓] theorem sk_ifs {c : E} {a b : S} : Sk (evS T cl (.ifs c a b) σ h) nx rt ct bk = Ok (evE T cl c σ h) fun x h1 => ∃ q, x = .bl q ∧ if q = true then Sk (evS T cl a σ h1) nx rt ct bk else Sk (evS T cl b σ h1) nx rt ct bk := by
  simp only [evS, Sk_toS]
  congr 1; funext x h1
  cases x <;> simp [Sk]
  rename_i q
  cases q <;> simp
@[simp ↓] theorem sk_kill {is : List Nat} : Sk (evS T cl (.kill is) σ h) nx rt ct bk = nx (wipeE σ is) h := by simp only [evS, Sk]
@[simp ↓] theorem sk_brk : Sk (evS T cl .brk σ h) nx rt ct bk = bk σ h := by simp only [evS, Sk]
@[simp ↓] theorem sk_cont : Sk (evS T cl .cont σ h) nx rt ct bk = ct σ h := by simp only [evS, Sk]
@[simp ↓] theorem sk_pass : Sk (evS T cl .pass σ h) nx rt ct bk = nx σ h := by simp only [evS, Sk]
@[simp ↓] theorem sk_for {tg : Tg} {it : E} {b : S} : Sk (evS T cl (.for_ tg it b) σ h) nx rt ct bk = Ok (evI T cl it σ h) fun p h1 => Sk (forL (fun σ' h' => evS T cl b σ' h') tg p.2 p.1 σ h1) nx rt ct bk := by
  simp only [evS]
  cases evI T cl it σ h <;> rfl
@[simp ↓] theorem sk_setI {a k : E} : Sk (evS T cl (.setI a k e) σ h) nx rt ct bk = Ok (evE T cl e σ h) fun w h1 => Ok (evE T cl a σ h1) fun x h2 => Ok (evE T cl k σ h2) fun y h3 => ∃ n i xs j, x = .ref n ∧ y = .int i ∧ h3[n]? = some (.lst xs) ∧ ixn xs.length i = some j ∧ nx σ (h3.set n (.lst (xs.set j w))) := by
  simp only [evS, Sk_toS]
  congr 1; funext w h1; congr 1; funext x h2; congr 1; funext y h3
  cases x <;> simp [Sk]
  rename_i n
  cases y <;> simp [Sk]
  rename_i i
  cases hq : h3[n]? with
  | none => simp
  | some o =>
    cases o <;> simp
    rename_i xs
    cases ixn xs.length i <;> simp
@[simp ↓] theorem sk_setD {a k : E} : Sk (evS T cl (.setD a k e) σ h) nx rt ct bk = Ok (evE T cl e σ h) fun w h1 => Ok (evE T cl a σ h1) fun x h2 => Ok (evE T cl k σ h2) fun y h3 => ∃ n ks vs, x = .ref n ∧ h3[n]? = some (.dic ks vs) ∧ (keyF y = true ∧ ks.length < big) ∧ nx σ (h3.set n (.dic (dputK y ks) (dputV y w ks vs))) := by
  simp only [evS, Sk_toS]
  congr 1; funext w h1; congr 1; funext x h2; congr 1; funext y h3
  cases x <;> simp [Sk]
  rename_i n
  cases hq : h3[n]? with
  | none => simp
  | some o =>
    cases o <;> simp
    rename_i ks vs
    constructor
    · intro z
      by_cases hc : keyF y = true ∧ ks.length < big
      · rw [if_pos hc] at z; exact ⟨_, _, ⟨rfl, rfl⟩, hc, z⟩
      · rw [if_neg hc] at z; exact z.elim
    · rintro ⟨_, _, ⟨rfl, rfl⟩, hc, z⟩
      rw [if_pos hc]; exact z
@[simp ↓] theorem sk_setA {a : E} {f : String} : Sk (evS T cl (.setA a f e) σ h) nx rt ct bk = Ok (evE T cl e σ h) fun w h1 => Ok (evE T cl a σ h1) fun x h2 => ∃ n c ns fs, x = .ref n ∧ h2[n]? = some (.ins c ns fs) ∧ ((T.fld c).contains f = true ∧ fs.length < 900) ∧ nx σ (h2.set n (.ins c (put f w ns fs).1 (put f w ns fs).2)) := by
  simp only [evS, Sk_toS]
  congr 1; funext w h1; congr 1; funext x h2
  cases x <;> simp [Sk]
  rename_i n
  cases hq : h2[n]? with
  | none => simp
  | some o =>
    cases o <;> simp
    rename_i c ns fs
    constructor
    · intro z
      by_cases hc : f ∈ T.fld c ∧ fs.length < 900
      · rw [if_pos hc] at z; exact ⟨_, _, _, ⟨rfl, rfl, rfl⟩, hc, z⟩
      · rw [if_neg hc] at z; exact z.elim
    · rintro ⟨_, _, _, ⟨rfl, rfl, rfl⟩, hc, z⟩
      rw [if_pos hc]; exact z
@[simp ↓] theorem sk_wh {c : E} {b : S} : Sk (evS T cl (.wh c b) σ h) nx rt ct bk = Sk (whL (fun σ' h' => evE T cl c σ' h') (fun σ' h' => evS T cl b σ' h') T.wf σ h) nx rt ct bk := by simp only [evS]
@[simp ↓] theorem sk_unp {is : List Nat} : Sk (evS T cl (.unp is e) σ h) nx rt ct bk = Ok (evE T cl e σ h) fun w h1 => ∃ σ1, bindT (.many is) w σ = some σ1 ∧ nx σ1 h1 := by
  simp only [evS, Sk_toS]
  congr 1; funext w h1
  cases bindT (.many is) w σ <;> simp [Sk]
@[simp ↓] theorem sk_par {i j : Nat} {a b : E} : Sk (evS T cl (.par i j a b) σ h) nx rt ct bk = Ok (evE T cl a σ h) fun x h1 => Ok (evE T cl b σ h1) fun y h2 => nx ((σ.set i (some x)).set j (some y)) h2 := by simp only [evS, Sk_toS, Sk_nx]
@[simp ↓] theorem sk_par3 {i j k : Nat} {a b e : E} : Sk (evS T cl (.par3 i j k a b e) σ h) nx rt ct bk = Ok (evE T cl a σ h) fun x h1 => Ok (evE T cl b σ h1) fun y h2 => Ok (evE T cl e σ h2) fun z h3 => nx (((σ.set i (some x)).set j (some y)).set k (some z)) h3 := by simp only [evS, Sk_toS, Sk_nx]
@[simp] theorem wipe_nil : wipeE σ [] = σ := nrfl rfl
@[simp] theorem wipe_cons {i : Nat} {is : List Nat} : wipeE σ (i :: is) = (wipeE σ is).set i none := nrfl rfl
@[simp] theorem bind_one {i : Nat} {w : W} : bindT (.one i) w σ = some (σ.set i (some w)) := nrfl rfl
@[simp] theorem bind_twoF {i j : Nat} {w v : W} : bindT (.many [i, j]) (.fl [w, v]) σ = some ((σ.set i (some w)).set j (some v)) := nrfl rfl
@[simp] theorem bind_three {i j k : Nat} {w v u : W} : bindT (.many [i, j, k]) (.tup [w, v, u]) σ = some (((σ.set i (some w)).set j (some v)).set k (some u)) := nrfl rfl
@[simp] theorem bind_threeF {i j k : Nat} {w v u : W} : bindT (.many [i, j, k]) (.fl [w, v, u]) σ = some (((σ.set i (some w)).set j (some v)).set k (some u)) := nrfl rfl
@[simp] theorem bind_two {i j : Nat} {w v : W} : bindT (.many [i, j]) (.tup [w, v]) σ = some ((σ.set i (some w)).set j (some v)) := nrfl rfl
/-- a comprehension, turn by turn -/
theorem compL_nil {f c : Env → LH → R W} {tg : Tg} {P : List W → LH → Prop} (hp : P [] h) : Ok (compL f c tg σ [] [] h) P := hp
theorem compL_step {f c : Env → LH → R W} {tg : Tg} {w : W} {ws : List W} {σ1 : Env} {P : List W → LH → Prop} (hb : bindT tg w σ = some σ1) (hc : c σ1 h = .ok (.bl true) h)
    (hf : Ok (f σ1 h) fun y h2 => Ok (compL f c tg σ [] ws h2) fun ys h3 => P (y :: ys) h3) : Ok (compL f c tg σ [] (w :: ws) h) P := by
  obtain ⟨y, l, e, k⟩ := hf.get
  unfold compL
  rw [if_pos (show gOk [] h = true from rfl), hb]
  dsimp only
  rw [hc]
  show Ok ((f σ1 h).noex.bind fun y h2 => (compL f c tg σ [] ws h2).bind fun ys h3 => .ok (y :: ys) h3) P
  rw [e]
  show Ok ((compL f c tg σ [] ws l).bind fun ys h3 => .ok (y :: ys) h3) P
  rw [Ok_bind]
  exact k
end
section
variable {T : Tab} {cl : Cl} {b q r s : S} {σ σ1 : Env} {h h1 : LH} {c : String} {ns : List String} {fs : List W} {nx ct bk : Env → LH → Prop} {rt : W → LH → Prop}
/-- a try whose body ends without an exception -/
theorem sk_try (hq : hdAll T q = true) (hb : Sk (evS T cl b σ h) nx rt ct bk) : Sk (evS T cl (.try_ b q) σ h) nx rt ct bk := by
  simp only [evS, hq, if_true]
  cases e : evS T cl b σ h with
  | ex _ _ _ _ _ => rw [e] at hb; exact hb.elim
  | no => rw [e] at hb; exact hb.elim
  | nx _ _ => rw [e] at hb; exact hb
  | brk _ _ => rw [e] at hb; exact hb
  | cont _ _ => rw [e] at hb; exact hb
  | ret _ _ => rw [e] at hb; exact hb
/-- .. with one -/
theorem sk_tryX (hq : hdAll T q = true) (e : evS T cl b σ h = .ex c ns fs σ1 h1) (hb : Sk (evHd T cl c ns fs q σ1 h1) nx rt ct bk) : Sk (evS T cl (.try_ b q) σ h) nx rt ct bk := by
  simp only [evS, hq, if_true, e]
  exact hb
/-- the clause that fits -/
theorem sk_hd {x : String} (h1 : T.xh x = true) (h2 : T.sup c ≠ []) (h3 : (T.sup c).contains x = true) (hs : Sk (evS T cl s σ h) nx rt ct bk) : Sk (evHd T cl c ns fs (.hdl x none s r) σ h) nx rt ct bk := by
  simp only [evHd, h1, h2, h3, ne_eq, not_false_eq_true, and_self, if_true]
  exact hs
theorem sk_hdN {x : String} (h1 : T.xh x = true) (h2 : T.sup c ≠ []) (h3 : (T.sup c).contains x = false) (hs : Sk (evHd T cl c ns fs r σ h) nx rt ct bk) : Sk (evHd T cl c ns fs (.hdl x none s r) σ h) nx rt ct bk := by
  simp only [evHd, h1, h2, h3, ne_eq, not_false_eq_true, and_self, if_true]
  exact hs
end
end Mp
/-! defs that laws share (printed by gen.py) -/
namespace Lb
open Mp
/-- is_sequence: 0 thing -/
def d_is_sequence : Def := { np := 1, n := 1, body :=
 (.seq (.ret (.isiT (.var 0) [.list, .tuple]))
 .nil) }
/-- is_whole: 0 thing, 1 low, 2 high -/
def d_is_whole : Def := { np := 3, n := 3, dfl := [.non, .non], body :=
 (.seq (.ifs (.tor (.tE (.isi (.var 0) .bool)) (.tnot (.tE (.isi (.var 0) .int)))) (.seq (.ret (.cst (.bl false)))
 .nil) .nil)
 (.seq (.ifs (.tand (.tE (.cmp .isn (.var 1) (.cst .non))) (.tE (.cmp .lt (.var 0) (.var 1)))) (.seq (.ret (.cst (.bl false)))
 .nil) .nil)
 (.seq (.ret (.or (.cmp .is (.var 2) (.cst .non)) (.cmp .le (.var 0) (.var 2))))
 .nil))) }
/-- check_stands: 0 v -/
def d_check_stands : Def := { np := 1, n := 1, body :=
 (.seq (.ifs (.tnot (.tE (.call "is_whole" (.cons (.var 0) (.cons (.cst (.int 1)) (.cons (.cst (.int 6)) .nil)))))) (.seq (.raise "BadStands" .nil)
 .nil) .nil)
 (.seq (.ret (.var 0))
 .nil)) }
/-- all_stands: 0 v -/
def d_all_stands : Def := { np := 1, n := 1, body :=
 (.seq (.ret (.bin .sub (.bin .shl (.cst (.int 1)) (.call "check_stands" (.cons (.var 0) .nil))) (.cst (.int 1))))
 .nil) }
/-- check_lot: 0 v, 1 lot -/
def d_check_lot : Def := { np := 2, n := 2, body :=
 (.seq (.ifs (.tnot (.tE (.call "is_whole" (.cons (.var 1) (.cons (.cst (.int 0)) (.cons (.call "all_stands" (.cons (.var 0) .nil)) .nil)))))) (.seq (.raise "BadLot" .nil)
 .nil) .nil)
 (.seq (.ret (.var 1))
 .nil)) }
/-- check_row: 0 stands, 1 row, 2 place, 3 lot -/
def d_check_row : Def := { np := 2, n := 4, body :=
 (.seq (.expr (.call "check_stands" (.cons (.var 0) .nil)))
 (.seq (.ifs (.tor (.tnot (.tE (.call "is_sequence" (.cons (.var 1) .nil)))) (.tE (.cmp .ne (.bf .len (.cons (.var 1) .nil)) (.var 0)))) (.seq (.raise "BadRow" (.cons (.cst .non) .nil))
 .nil) .nil)
 (.seq (.for_ (.many [2, 3]) (.enum (.var 1)) (.seq (.ifs (.tnot (.tE (.call "is_whole" (.cons (.var 3) (.cons (.cst (.int 0)) (.cons (.call "all_stands" (.cons (.var 0) .nil)) .nil)))))) (.seq (.raise "BadRow" (.cons (.var 2) .nil))
 .nil) .nil)
 (.seq (.kill [2, 3])
 .nil)))
 (.seq (.ret (.bf .tuple (.cons (.var 1) .nil)))
 .nil)))) }
/-- check_rows: 0 stands, 1 rows, 2 row -/
def d_check_rows : Def := { np := 2, n := 3, body :=
 (.seq (.expr (.call "check_stands" (.cons (.var 0) .nil)))
 (.seq (.ifs (.tor (.tnot (.tE (.call "is_sequence" (.cons (.var 1) .nil)))) (.tE (.cmp .gt (.bf .len (.cons (.var 1) .nil)) (.glo "MOST_ROWS")))) (.seq (.raise "BadRow" (.cons (.cst .non) .nil))
 .nil) .nil)
 (.seq (.ret (.bf .tuple (.cons (.comp false (.call "check_row" (.cons (.var 0) (.cons (.var 2) .nil))) (.one 2) (.itv (.var 1)) (.cst (.bl true)) [2]) .nil)))
 .nil))) }
/-- next_lot: 0 row, 1 lot, 2 found, 3 stand, 4 reached -/
def d_next_lot : Def := { np := 2, n := 5, body :=
 (.seq (.asg 2 (.cst (.int 0)))
 (.seq (.for_ (.many [3, 4]) (.enum (.var 0)) (.seq (.ifs (.tE (.cmp .eq (.bin .band (.bin .shr (.var 1) (.var 3)) (.cst (.int 1))) (.cst (.int 1)))) (.seq (.asg 2 (.bin .bor (.var 2) (.var 4)))
 .nil) .nil)
 (.seq (.kill [3, 4])
 .nil)))
 (.seq (.ret (.var 2))
 .nil))) }
/-- back_lot: 0 row, 1 lot, 2 found, 3 stand, 4 reached -/
def d_back_lot : Def := { np := 2, n := 5, body :=
 (.seq (.asg 2 (.cst (.int 0)))
 (.seq (.for_ (.many [3, 4]) (.enum (.var 0)) (.seq (.ifs (.tE (.cmp .eq (.bin .band (.var 4) (.var 1)) (.var 4))) (.seq (.asg 2 (.bin .bor (.var 2) (.bin .shl (.cst (.int 1)) (.var 3))))
 .nil) .nil)
 (.seq (.kill [3, 4])
 .nil)))
 (.seq (.ret (.var 2))
 .nil))) }
/-- test_row: 0 stands, 1 lot, 2 stand -/
def d_test_row : Def := { np := 2, n := 3, body :=
 (.seq (.expr (.call "check_stands" (.cons (.var 0) .nil)))
 (.seq (.expr (.call "check_lot" (.cons (.var 0) (.cons (.var 1) .nil))))
 (.seq (.ret (.bf .tuple (.cons (.comp false (.bin .band (.var 1) (.bin .shl (.cst (.int 1)) (.var 2))) (.one 2) (.rng1 (.var 0)) (.cst (.bl true)) [2]) .nil)))
 .nil))) }
/-- joined_row: 0 one, 1 other, 2 left, 3 right -/
def d_joined_row : Def := { np := 2, n := 4, body :=
 (.seq (.ret (.bf .tuple (.cons (.comp false (.bin .bor (.var 2) (.var 3)) (.many [2, 3]) (.zip (.var 0) (.var 1)) (.cst (.bl true)) [2, 3]) .nil)))
 .nil) }
/-- behind_row: 0 one, 1 other, 2 reached -/
def d_behind_row : Def := { np := 2, n := 3, body :=
 (.seq (.ret (.bf .tuple (.cons (.comp false (.call "next_lot" (.cons (.var 1) (.cons (.var 2) .nil))) (.one 2) (.itv (.var 0)) (.cst (.bl true)) [2]) .nil)))
 .nil) }
/-- _law_hand: 0 _law_script, 1 _law_total, 2 _law_cells, 3 _law_cell -/
def d__law_hand : Def := { np := 1, n := 4, body :=
 (.seq (.asg 1 (.bin .add (.bf .len (.cons (.var 0) .nil)) (.cst (.int 41))))
 (.seq (.asg 2 (.lstm .nil))
 (.seq (.for_ (.one 3) (.itv (.var 0)) (.seq (.asg 1 (.bin .mod (.bf .int (.cons (.bin .add (.bin .mul (.var 1) (.cst (.int 1721))) (.bf .int (.cons (.var 3) .nil))) .nil)) (.cst (.int 2147483549))))
 (.seq (.expr (.lm (.var 2) .append (.cons (.bf .abs (.cons (.bf .int (.cons (.var 3) .nil)) .nil)) .nil)))
 (.seq (.kill [3])
 .nil))))
 (.seq (.ret (.lstm (.cons (.frz (.var 2)) (.cons (.cst (.int 0)) (.cons (.cst (.int 0)) (.cons (.var 1) .nil))))))
 .nil)))) }
/-- _law_mixed: 0 _law_number, 1 _law_turn, 2 _law_once, 3 _law_twice -/
def d__law_mixed : Def := { np := 2, n := 4, body :=
 (.seq (.asg 2 (.bin .mod (.bf .int (.cons (.bin .add (.bin .add (.bin .mul (.var 0) (.cst (.int 48271))) (.bin .mul (.var 1) (.cst (.int 7919)))) (.cst (.int 30011))) .nil)) (.cst (.int 2147483399))))
 (.seq (.asg 3 (.bin .mod (.bf .int (.cons (.bin .add (.bin .add (.bin .mul (.var 2) (.var 2)) (.bin .mul (.var 1) (.cst (.int 92821)))) (.bin .fdiv (.var 2) (.cst (.int 131)))) .nil)) (.cst (.int 2147483629))))
 (.seq (.ret (.bin .fdiv (.bf .int (.cons (.bin .mod (.bf .int (.cons (.bin .add (.bin .mul (.var 3) (.cst (.int 69621))) (.bin .fdiv (.var 2) (.cst (.int 13)))) .nil)) (.cst (.int 2147483587))) .nil)) (.cst (.int 32))))
 .nil))) }
/-- _law_take: 0 _law_hand_here, 1 _law_many, 2 _law_cell, 3 _law_rest -/
def d__law_take : Def := { np := 2, n := 4, body :=
 (.seq (.ifs (.tand (.tE (.cmp .eq (.idx (.var 0) (.cst (.int 2))) (.cst (.int 0)))) (.tE (.cmp .lt (.idx (.var 0) (.cst (.int 1))) (.bf .len (.cons (.idx (.var 0) (.cst (.int 0))) .nil))))) (.seq (.asg 2 (.idx (.idx (.var 0) (.cst (.int 0))) (.idx (.var 0) (.cst (.int 1)))))
 (.seq (.setI (.var 0) (.cst (.int 1)) (.bin .add (.idx (.var 0) (.cst (.int 1))) (.cst (.int 1))))
 (.seq (.ifs (.tE (.cmp .lt (.var 2) (.bin .pow (.cst (.int 10)) (.cst (.int 18))))) (.seq (.ret (.bin .mod (.bf .int (.cons (.call "_law_mixed" (.cons (.bin .mod (.bf .int (.cons (.var 2) .nil)) (.cst (.int 2147483399))) (.cons (.idx (.var 0) (.cst (.int 1))) .nil))) .nil)) (.var 1)))
 .nil) .nil)
 (.seq (.setI (.var 0) (.cst (.int 2)) (.var 2))
 .nil)))) .nil)
 (.seq (.ifs (.tE (.cmp .gt (.idx (.var 0) (.cst (.int 2))) (.cst (.int 0)))) (.seq (.asg 3 (.idx (.var 0) (.cst (.int 2))))
 (.seq (.setI (.var 0) (.cst (.int 2)) (.bin .fdiv (.bf .int (.cons (.var 3) .nil)) (.var 1)))
 (.seq (.ret (.bin .mod (.bf .int (.cons (.var 3) .nil)) (.var 1)))
 .nil))) .nil)
 (.seq (.setI (.var 0) (.cst (.int 3)) (.bin .mod (.bf .int (.cons (.bin .add (.idx (.var 0) (.cst (.int 3))) (.cst (.int 1))) .nil)) (.cst (.int 2147483549))))
 (.seq (.ret (.bin .mod (.bf .int (.cons (.call "_law_mixed" (.cons (.idx (.var 0) (.cst (.int 3))) (.cons (.idx (.var 0) (.cst (.int 1))) .nil))) .nil)) (.var 1)))
 .nil)))) }
/-- _law_stands: 0 _law_hand_here -/
def d__law_stands : Def := { np := 1, n := 1, body :=
 (.seq (.ret (.idx (.tup (.cons (.cst (.int 3)) (.cons (.cst (.int 4)) (.cons (.cst (.int 3)) (.cons (.cst (.int 4)) (.cons (.cst (.int 3)) (.cons (.cst (.int 4)) (.cons (.cst (.int 3)) (.cons (.cst (.int 4)) (.cons (.cst (.int 2)) (.cons (.cst (.int 2)) (.cons (.cst (.int 5)) (.cons (.cst (.int 5)) (.cons (.cst (.int 6)) (.cons (.cst (.int 6)) (.cons (.cst (.int 3)) (.cons (.cst (.int 1)) .nil))))))))))))))))) (.call "_law_take" (.cons (.var 0) (.cons (.cst (.int 16)) .nil)))))
 .nil) }
/-- _law_every: 0 _law_v -/
def d__law_every : Def := { np := 1, n := 1, body :=
 (.seq (.ret (.bin .sub (.bin .shl (.cst (.int 1)) (.var 0)) (.cst (.int 1))))
 .nil) }
/-- _law_within: 0 _law_one, 1 _law_other -/
def d__law_within : Def := { np := 2, n := 2, body :=
 (.seq (.ret (.cmp .eq (.bin .band (.var 0) (.var 1)) (.var 0)))
 .nil) }
/-- _law_single: 0 _law_hand_here, 1 _law_v, 2 _law_s -/
def d__law_single : Def := { np := 2, n := 3, body :=
 (.seq (.ret (.comp false (.bin .shl (.cst (.int 1)) (.call "_law_take" (.cons (.var 0) (.cons (.var 1) .nil)))) (.one 2) (.rng1 (.var 1)) (.cst (.bl true)) [2]))
 .nil) }
/-- _law_drawn_row: 0 _law_hand_here, 1 _law_v, 2 _law_way, 3 _law_kept, 4 _law_s, 5 _law_one -/
def d__law_drawn_row : Def := { np := 2, n := 6, body :=
 (.seq (.asg 2 (.call "_law_take" (.cons (.var 0) (.cons (.cst (.int 8)) .nil))))
 (.seq (.ifs (.tE (.cmp .lt (.var 2) (.cst (.int 3)))) (.seq (.ret (.call "_law_single" (.cons (.var 0) (.cons (.var 1) .nil))))
 .nil) .nil)
 (.seq (.ifs (.tE (.cmp .eq (.var 2) (.cst (.int 3)))) (.seq (.asg 3 (.call "_law_take" (.cons (.var 0) (.cons (.bin .shl (.cst (.int 1)) (.var 1)) .nil))))
 (.seq (.ret (.comp false (.bin .band (.bin .shl (.cst (.int 1)) (.var 4)) (.var 3)) (.one 4) (.rng1 (.var 1)) (.cst (.bl true)) [4]))
 .nil)) .nil)
 (.seq (.ifs (.tE (.cmp .eq (.var 2) (.cst (.int 4)))) (.seq (.asg 5 (.call "_law_take" (.cons (.var 0) (.cons (.var 1) .nil))))
 (.seq (.ret (.comp false (.bin .shl (.cst (.int 1)) (.ite (.tE (.cmp .ne (.var 4) (.var 5))) (.var 4) (.call "_law_take" (.cons (.var 0) (.cons (.var 1) .nil))))) (.one 4) (.rng1 (.var 1)) (.cst (.bl true)) [4]))
 .nil)) .nil)
 (.seq (.ifs (.tE (.cmp .eq (.var 2) (.cst (.int 5)))) (.seq (.ret (.comp false (.ite (.tE (.call "_law_take" (.cons (.var 0) (.cons (.cst (.int 3)) .nil)))) (.bin .shl (.cst (.int 1)) (.call "_law_take" (.cons (.var 0) (.cons (.var 1) .nil)))) (.cst (.int 0))) (.one 4) (.rng1 (.var 1)) (.cst (.bl true)) [4]))
 .nil) .nil)
 (.seq (.ret (.comp false (.call "_law_take" (.cons (.var 0) (.cons (.bin .shl (.cst (.int 1)) (.var 1)) .nil))) (.one 4) (.rng1 (.var 1)) (.cst (.bl true)) [4]))
 .nil)))))) }
/-- _law_next: 0 _law_row, 1 _law_lot, 2 _law_found, 3 _law_s -/
def d__law_next : Def := { np := 2, n := 4, body :=
 (.seq (.asg 2 (.cst (.int 0)))
 (.seq (.for_ (.one 3) (.rng1 (.bf .len (.cons (.var 0) .nil))) (.seq (.ifs (.tE (.cmp .eq (.bin .mod (.bf .int (.cons (.bin .shr (.var 1) (.var 3)) .nil)) (.cst (.int 2))) (.cst (.int 1)))) (.seq (.asg 2 (.bin .bor (.var 2) (.idx (.var 0) (.var 3))))
 .nil) .nil)
 (.seq (.kill [3])
 .nil)))
 (.seq (.ret (.var 2))
 .nil))) }
/-- _law_back: 0 _law_row, 1 _law_lot, 2 _law_found, 3 _law_s -/
def d__law_back : Def := { np := 2, n := 4, body :=
 (.seq (.asg 2 (.cst (.int 0)))
 (.seq (.for_ (.one 3) (.rng1 (.bf .len (.cons (.var 0) .nil))) (.seq (.ifs (.tE (.cmp .eq (.bin .band (.idx (.var 0) (.var 3)) (.var 1)) (.idx (.var 0) (.var 3)))) (.seq (.asg 2 (.bin .bor (.var 2) (.bin .shl (.cst (.int 1)) (.var 3))))
 .nil) .nil)
 (.seq (.kill [3])
 .nil)))
 (.seq (.ret (.var 2))
 .nil))) }
/-- _law_list: 0 _law_hand_here, 1 _law_items -/
def d__law_list : Def := { np := 2, n := 2, body :=
 (.seq (.ret (.ite (.tE (.call "_law_take" (.cons (.var 0) (.cons (.cst (.int 2)) .nil)))) (.bf .list (.cons (.var 1) .nil)) (.bf .tuple (.cons (.var 1) .nil))))
 .nil) }
/-- _law_int: 0 _law_thing -/
def d__law_int : Def := { np := 1, n := 1, body :=
 (.seq (.ret (.and (.isi (.var 0) .int) (.not (.isi (.var 0) .bool))))
 .nil) }
/-- _law_exact: 0 _law_told, 1 _law_due, 2 _law_k -/
def d__law_exact : Def := { np := 2, n := 3, body :=
 (.seq (.ifs (.tE (.isi (.var 1) .tuple)) (.seq (.ifs (.tor (.tnot (.tE (.isi (.var 0) .tuple))) (.tE (.cmp .ne (.bf .len (.cons (.var 0) .nil)) (.bf .len (.cons (.var 1) .nil))))) (.seq (.ret (.cst (.bl false)))
 .nil) .nil)
 (.seq (.ret (.cmp .eq (.comp false (.var 2) (.one 2) (.rng1 (.bf .len (.cons (.var 1) .nil))) (.tnot (.tE (.call "_law_exact" (.cons (.idx (.var 0) (.var 2)) (.cons (.idx (.var 1) (.var 2)) .nil))))) [2]) (.lst .nil)))
 .nil)) .nil)
 (.seq (.ifs (.tE (.cmp .is (.var 1) (.cst .non))) (.seq (.ret (.cmp .is (.var 0) (.cst .non)))
 .nil) .nil)
 (.seq (.ifs (.tE (.isi (.var 1) .bool)) (.seq (.ret (.ite (.tE (.var 1)) (.cmp .is (.var 0) (.cst (.bl true))) (.cmp .is (.var 0) (.cst (.bl false)))))
 .nil) .nil)
 (.seq (.ifs (.tE (.isi (.var 1) .str)) (.seq (.ret (.and (.isi (.var 0) .str) (.cmp .eq (.var 0) (.var 1))))
 .nil) .nil)
 (.seq (.ret (.and (.call "_law_int" (.cons (.var 0) .nil)) (.cmp .eq (.var 0) (.var 1))))
 .nil))))) }
/-- rounded_alike: 0 glasses, 1 row, 2 lot, 3 ahead -/
def d_rounded_alike : Def := { np := 3, n := 4, body :=
 (.seq (.asg 3 (.meth (.var 0) "rounded" (.cons (.call "next_lot" (.cons (.var 1) (.cons (.var 2) .nil))) .nil)))
 (.seq (.ret (.cmp .eq (.var 3) (.meth (.var 0) "rounded" (.cons (.call "next_lot" (.cons (.var 1) (.cons (.meth (.var 0) "rounded" (.cons (.var 2) .nil)) .nil))) .nil))))
 .nil)) }
/-- sharp_at: 0 glasses, 1 row, 2 lot -/
def d_sharp_at : Def := { np := 3, n := 3, body :=
 (.seq (.asg 1 (.call "check_row" (.cons (.attr (.var 0) "stands") (.cons (.var 1) .nil))))
 (.seq (.ret (.call "rounded_alike" (.cons (.var 0) (.cons (.var 1) (.cons (.call "check_lot" (.cons (.attr (.var 0) "stands") (.cons (.var 2) .nil))) .nil)))))
 .nil)) }
/-- blurring_lot: 0 glasses, 1 row, 2 lot, 3 back -/
def d_blurring_lot : Def := { np := 3, n := 4, body :=
 (.seq (.asg 1 (.call "check_row" (.cons (.attr (.var 0) "stands") (.cons (.var 1) .nil))))
 (.seq (.expr (.call "check_lot" (.cons (.attr (.var 0) "stands") (.cons (.var 2) .nil))))
 (.seq (.asg 3 (.call "back_lot" (.cons (.var 1) (.cons (.meth (.var 0) "rounded" (.cons (.call "next_lot" (.cons (.var 1) (.cons (.var 2) .nil))) .nil)) .nil))))
 (.seq (.ret (.call "lot_without" (.cons (.meth (.var 0) "rounded" (.cons (.var 2) .nil)) (.cons (.var 3) .nil))))
 .nil)))) }
/-- lot_without: 0 lot, 1 other -/
def d_lot_without : Def := { np := 2, n := 2, body :=
 (.seq (.ret (.bin .sub (.var 0) (.bin .band (.var 0) (.var 1))))
 .nil) }
/-- first_unmet: 0 members, 1 i, 2 j -/
def d_first_unmet : Def := { np := 1, n := 3, body :=
 (.seq (.for_ (.one 1) (.rng1 (.bf .len (.cons (.var 0) .nil))) (.seq (.for_ (.one 2) (.rng2 (.bin .add (.var 1) (.cst (.int 1))) (.bf .len (.cons (.var 0) .nil))) (.seq (.ifs (.tE (.cmp .nin (.bin .band (.idx (.var 0) (.var 1)) (.idx (.var 0) (.var 2))) (.var 0))) (.seq (.ret (.tup (.cons (.var 1) (.cons (.var 2) .nil))))
 .nil) .nil)
 (.seq (.kill [2])
 .nil)))
 (.seq (.kill [1, 2])
 .nil)))
 (.seq (.ret (.cst .non))
 .nil)) }
/-- Glasses.__init__: 0 self, 1 stands, 2 members, 3 every, 4 last, 5 place, 6 member, 7 unmet -/
def d_Glassesu_initu : Def := { np := 3, n := 8, body :=
 (.seq (.ifs (.tnot (.tE (.call "is_whole" (.cons (.var 1) (.cons (.cst (.int 1)) (.cons (.cst (.int 6)) .nil)))))) (.seq (.raise "BadGlasses" (.cons (.cst (.str "stands")) (.cons (.cst (.int 0)) .nil)))
 .nil) .nil)
 (.seq (.ifs (.tor (.tnot (.tE (.call "is_sequence" (.cons (.var 2) .nil)))) (.tE (.cmp .eq (.bf .len (.cons (.var 2) .nil)) (.cst (.int 0))))) (.seq (.raise "BadGlasses" (.cons (.cst (.str "many")) (.cons (.cst (.int 0)) .nil)))
 .nil) .nil)
 (.seq (.asg 3 (.bin .sub (.bin .shl (.cst (.int 1)) (.var 1)) (.cst (.int 1))))
 (.seq (.asg 4 (.un .neg (.cst (.int 1))))
 (.seq (.for_ (.many [5, 6]) (.enum (.var 2)) (.seq (.ifs (.tnot (.tE (.call "is_whole" (.cons (.var 6) (.cons (.cst (.int 0)) (.cons (.var 3) .nil)))))) (.seq (.raise "BadGlasses" (.cons (.cst (.str "lot")) (.cons (.var 5) .nil)))
 .nil) .nil)
 (.seq (.ifs (.tE (.cmp .le (.var 6) (.var 4))) (.seq (.raise "BadGlasses" (.cons (.cst (.str "order")) (.cons (.var 5) .nil)))
 .nil) .nil)
 (.seq (.asg 4 (.var 6))
 (.seq (.kill [5, 6])
 .nil)))))
 (.seq (.ifs (.tE (.cmp .ne (.var 4) (.var 3))) (.seq (.raise "BadGlasses" (.cons (.cst (.str "all")) (.cons (.cst (.int 0)) .nil)))
 .nil) .nil)
 (.seq (.asg 7 (.call "first_unmet" (.cons (.var 2) .nil)))
 (.seq (.ifs (.tE (.cmp .isn (.var 7) (.cst .non))) (.seq (.raise "BadGlasses" (.cons (.cst (.str "meet")) (.cons (.var 7) .nil)))
 .nil) .nil)
 (.seq (.setA (.var 0) "stands" (.var 1))
 (.seq (.setA (.var 0) "members" (.bf .tuple (.cons (.var 2) .nil)))
 .nil)))))))))) }
/-- Glasses.every: 0 self -/
def d_Glasses_every : Def := { np := 1, n := 1, body :=
 (.seq (.ret (.idx (.attr (.var 0) "members") (.un .neg (.cst (.int 1)))))
 .nil) }
/-- Glasses.least: 0 self -/
def d_Glasses_least : Def := { np := 1, n := 1, body :=
 (.seq (.ret (.idx (.attr (.var 0) "members") (.cst (.int 0))))
 .nil) }
/-- Glasses.rounded: 0 self, 1 lot, 2 found, 3 member -/
def d_Glasses_rounded : Def := { np := 2, n := 4, body :=
 (.seq (.expr (.call "check_lot" (.cons (.attr (.var 0) "stands") (.cons (.var 1) .nil))))
 (.seq (.asg 2 (.idx (.attr (.var 0) "members") (.un .neg (.cst (.int 1)))))
 (.seq (.for_ (.one 3) (.itv (.attr (.var 0) "members")) (.seq (.ifs (.tE (.cmp .eq (.bin .band (.var 1) (.var 3)) (.var 1))) (.seq (.asg 2 (.bin .band (.var 2) (.var 3)))
 .nil) .nil)
 (.seq (.kill [3])
 .nil)))
 (.seq (.ret (.var 2))
 .nil)))) }
/-- Glasses.__contains__: 0 self, 1 thing -/
def d_Glassesu_containsu : Def := { np := 2, n := 2, body :=
 (.seq (.ret (.and (.call "is_whole" (.cons (.var 1) .nil)) (.cmp .isin (.var 1) (.attr (.var 0) "members"))))
 .nil) }
/-- _law_met: 0 _law_v, 1 _law_lots, 2 _law_found, 3 _law_lot, 4 _law_one -/
def d__law_met : Def := { np := 2, n := 5, body :=
 (.seq (.asg 2 (.dlit (.cons (.call "_law_every" (.cons (.var 0) .nil)) (.cons (.cst (.bl true)) .nil))))
 (.seq (.for_ (.one 3) (.itv (.var 1)) (.seq (.for_ (.one 4) (.itv (.dkeys (.var 2))) (.seq (.setD (.var 2) (.bin .band (.var 4) (.var 3)) (.cst (.bl true)))
 (.seq (.kill [4])
 .nil)))
 (.seq (.kill [3, 4])
 .nil)))
 (.seq (.ret (.bf .sorted (.cons (.dkeys (.var 2)) .nil)))
 .nil))) }
/-- _law_members: 0 _law_hand_here, 1 _law_v, 2 _law_way, 3 _law_lots, 4 _law_k -/
def d__law_members : Def := { np := 2, n := 5, body :=
 (.seq (.asg 2 (.call "_law_take" (.cons (.var 0) (.cons (.cst (.int 16)) .nil))))
 (.seq (.ifs (.tE (.cmp .eq (.var 2) (.cst (.int 0)))) (.seq (.ret (.lrng false (.bin .shl (.cst (.int 1)) (.var 1))))
 .nil) .nil)
 (.seq (.ifs (.tE (.cmp .eq (.var 2) (.cst (.int 1)))) (.seq (.ret (.lst (.cons (.call "_law_every" (.cons (.var 1) .nil)) .nil)))
 .nil) .nil)
 (.seq (.asg 3 (.comp true (.call "_law_take" (.cons (.var 0) (.cons (.bin .shl (.cst (.int 1)) (.var 1)) .nil))) (.one 4) (.rng1 (.bin .add (.cst (.int 1)) (.call "_law_take" (.cons (.var 0) (.cons (.cst (.int 4)) .nil))))) (.cst (.bl true)) [4]))
 (.seq (.ifs (.tE (.call "_law_take" (.cons (.var 0) (.cons (.cst (.int 2)) .nil)))) (.seq (.expr (.lm (.var 3) .append (.cons (.cst (.int 0)) .nil)))
 .nil) .nil)
 (.seq (.ret (.call "_law_met" (.cons (.var 1) (.cons (.var 3) .nil))))
 .nil)))))) }
/-- _law_rounded: 0 _law_members_here, 1 _law_lot, 2 _law_found, 3 _law_member -/
def d__law_rounded : Def := { np := 2, n := 4, body :=
 (.seq (.asg 2 (.idx (.var 0) (.un .neg (.cst (.int 1)))))
 (.seq (.for_ (.one 3) (.itv (.var 0)) (.seq (.ifs (.tE (.cmp .eq (.bin .band (.var 1) (.var 3)) (.var 1))) (.seq (.asg 2 (.bin .band (.var 2) (.var 3)))
 .nil) .nil)
 (.seq (.kill [3])
 .nil)))
 (.seq (.ret (.var 2))
 .nil))) }
/-- _law_rounds: 0 _law_members_here, 1 _law_v, 2 _law_lot -/
def d__law_rounds : Def := { np := 2, n := 3, body :=
 (.seq (.ret (.comp false (.call "_law_rounded" (.cons (.var 0) (.cons (.var 2) .nil))) (.one 2) (.rng1 (.bin .shl (.cst (.int 1)) (.var 1))) (.cst (.bl true)) [2]))
 .nil) }
/-- _law_alike: 0 _law_rounds_here, 1 _law_row, 2 _law_lot -/
def d__law_alike : Def := { np := 3, n := 3, body :=
 (.seq (.ret (.cmp .eq (.idx (.var 0) (.call "_law_next" (.cons (.var 1) (.cons (.var 2) .nil)))) (.idx (.var 0) (.call "_law_next" (.cons (.var 1) (.cons (.idx (.var 0) (.var 2)) .nil))))))
 .nil) }
/-- _law_refined: 0 _law_v, 1 _law_members_here, 2 _law_rows, 3 _law_step, 4 _law_lots, 5 _law_row, 6 _law_grown, 7 _law_member -/
def d__law_refined : Def := { np := 3, n := 8, body :=
 (.seq (.for_ (.one 3) (.rng1 (.cst (.int 64))) (.seq (.asg 4 (.bf .list (.cons (.var 1) .nil)))
 (.seq (.for_ (.one 5) (.itv (.var 2)) (.seq (.asg 4 (.bin .add (.var 4) (.comp false (.call "_law_back" (.cons (.var 5) (.cons (.var 7) .nil))) (.one 7) (.itv (.var 1)) (.cst (.bl true)) [7])))
 (.seq (.kill [5])
 .nil)))
 (.seq (.asg 6 (.call "_law_met" (.cons (.var 0) (.cons (.var 4) .nil))))
 (.seq (.ifs (.tE (.cmp .eq (.var 6) (.var 1))) (.seq (.ret (.var 1))
 .nil) .nil)
 (.seq (.asg 1 (.var 6))
 (.seq (.kill [3, 4, 5, 6])
 .nil)))))))
 (.seq (.ret (.var 1))
 .nil)) }
/-- _law_rich_members: 0 _law_hand_here, 1 _law_v, 2 _law_k -/
def d__law_rich_members : Def := { np := 2, n := 3, body :=
 (.seq (.ifs (.tE (.cmp .eq (.call "_law_take" (.cons (.var 0) (.cons (.cst (.int 2)) .nil))) (.cst (.int 0)))) (.seq (.ret (.call "_law_members" (.cons (.var 0) (.cons (.var 1) .nil))))
 .nil) .nil)
 (.seq (.ret (.call "_law_met" (.cons (.var 1) (.cons (.bin .add (.lst (.cons (.cst (.int 0)) .nil)) (.comp false (.call "_law_take" (.cons (.var 0) (.cons (.bin .shl (.cst (.int 1)) (.var 1)) .nil))) (.one 2) (.rng1 (.bin .add (.cst (.int 2)) (.call "_law_take" (.cons (.var 0) (.cons (.cst (.int 3)) .nil))))) (.cst (.bl true)) [2])) .nil))))
 .nil)) }
/-- stands_of: 0 lot, 1 stand -/
def d_stands_of : Def := { np := 1, n := 2, body :=
 (.seq (.expr (.call "check_lot" (.cons (.cst (.int 6)) (.cons (.var 0) .nil))))
 (.seq (.ret (.bf .tuple (.cons (.comp false (.var 1) (.one 1) (.rng1 (.cst (.int 6))) (.tE (.cmp .eq (.bin .band (.bin .shr (.var 0) (.var 1)) (.cst (.int 1))) (.cst (.int 1)))) [1]) .nil)))
 .nil)) }
/-- is_within: 0 one, 1 other -/
def d_is_within : Def := { np := 2, n := 2, body :=
 (.seq (.expr (.call "check_lot" (.cons (.cst (.int 6)) (.cons (.var 0) .nil))))
 (.seq (.expr (.call "check_lot" (.cons (.cst (.int 6)) (.cons (.var 1) .nil))))
 (.seq (.ret (.cmp .eq (.bin .band (.var 0) (.var 1)) (.var 0)))
 .nil))) }
/-- unsharp_member: 0 glasses, 1 row, 2 member, 3 back -/
def d_unsharp_member : Def := { np := 2, n := 4, body :=
 (.seq (.asg 1 (.call "check_row" (.cons (.attr (.var 0) "stands") (.cons (.var 1) .nil))))
 (.seq (.for_ (.one 2) (.itv (.attr (.var 0) "members")) (.seq (.asg 3 (.call "back_lot" (.cons (.var 1) (.cons (.var 2) .nil))))
 (.seq (.ifs (.tE (.ohas true (.var 3) (.var 0))) (.seq (.ret (.make "Unsharp" (.cons (.var 2) (.cons (.var 3) .nil))))
 .nil) .nil)
 (.seq (.kill [2, 3])
 .nil))))
 (.seq (.ret (.cst .non))
 .nil))) }
/-- blurred_lots: 0 glasses, 1 row, 2 lot -/
def d_blurred_lots : Def := { np := 2, n := 3, body :=
 (.seq (.asg 1 (.call "check_row" (.cons (.attr (.var 0) "stands") (.cons (.var 1) .nil))))
 (.seq (.ret (.bf .tuple (.cons (.comp false (.var 2) (.one 2) (.rng1 (.bin .add (.prop (.var 0) "every") (.cst (.int 1)))) (.tnot (.tE (.call "rounded_alike" (.cons (.var 0) (.cons (.var 1) (.cons (.var 2) .nil)))))) [2]) .nil)))
 .nil)) }
/-- greatest_blurred: 0 glasses, 1 row, 2 backs, 3 member, 4 back, 5 lot -/
def d_greatest_blurred : Def := { np := 2, n := 6, body :=
 (.seq (.asg 1 (.call "check_row" (.cons (.attr (.var 0) "stands") (.cons (.var 1) .nil))))
 (.seq (.asg 2 (.lstm .nil))
 (.seq (.for_ (.one 3) (.itv (.attr (.var 0) "members")) (.seq (.asg 4 (.call "back_lot" (.cons (.var 1) (.cons (.var 3) .nil))))
 (.seq (.ifs (.tand (.tE (.ohas true (.var 4) (.var 0))) (.tE (.cmp .nin (.var 4) (.var 2)))) (.seq (.expr (.lm (.var 2) .append (.cons (.var 4) .nil)))
 .nil) .nil)
 (.seq (.kill [3, 4])
 .nil))))
 (.seq (.ret (.bf .tuple (.cons (.bf .sorted (.cons (.comp false (.var 5) (.one 5) (.itv (.var 2)) (.tE (.call "within_none" (.cons (.var 5) (.cons (.var 2) .nil)))) [5]) .nil)) .nil)))
 .nil)))) }
/-- within_none: 0 lot, 1 lots, 2 other -/
def d_within_none : Def := { np := 2, n := 3, body :=
 (.seq (.for_ (.one 2) (.itv (.var 1)) (.seq (.ifs (.tand (.tE (.cmp .ne (.var 2) (.var 0))) (.tE (.call "is_within" (.cons (.var 0) (.cons (.var 2) .nil))))) (.seq (.ret (.cst (.bl false)))
 .nil) .nil)
 (.seq (.kill [2])
 .nil)))
 (.seq (.ret (.cst (.bl true)))
 .nil)) }
/-- least_sharp: 0 glasses, 1 row, 2 lot, 3 member, 4 found, 5 other, 6 elder -/
def d_least_sharp : Def := { np := 3, n := 7, body :=
 (.seq (.asg 1 (.call "check_row" (.cons (.attr (.var 0) "stands") (.cons (.var 1) .nil))))
 (.seq (.expr (.call "check_lot" (.cons (.attr (.var 0) "stands") (.cons (.var 2) .nil))))
 (.seq (.asg 3 (.meth (.var 0) "rounded" (.cons (.var 2) .nil)))
 (.seq (.asg 4 (.lstm .nil))
 (.seq (.for_ (.one 5) (.itv (.call "lots_by_size" (.cons (.var 3) .nil))) (.seq (.ifs (.tand (.tE (.cmp .eq (.meth (.var 0) "rounded" (.cons (.var 5) .nil)) (.var 3))) (.tE (.call "rounded_alike" (.cons (.var 0) (.cons (.var 1) (.cons (.var 5) .nil)))))) (.seq (.ifs (.tnot (.tE (.bf .any (.cons (.comp false (.call "is_within" (.cons (.var 6) (.cons (.var 5) .nil))) (.one 6) (.itv (.var 4)) (.cst (.bl true)) [6]) .nil)))) (.seq (.expr (.lm (.var 4) .append (.cons (.var 5) .nil)))
 .nil) .nil)
 .nil) .nil)
 (.seq (.kill [5])
 .nil)))
 (.seq (.ret (.bf .tuple (.cons (.bf .sorted (.cons (.var 4) .nil)) .nil)))
 .nil)))))) }
/-- lots_by_size: 0 member, 1 rows, 2 lot, 3 size -/
def d_lots_by_size : Def := { np := 1, n := 4, body :=
 (.seq (.asg 1 (.comp false (.tup (.cons (.bf .len (.cons (.call "stands_of" (.cons (.var 2) .nil)) .nil)) (.cons (.var 2) .nil))) (.one 2) (.rng1 (.bin .add (.var 0) (.cst (.int 1)))) (.tE (.call "is_within" (.cons (.var 2) (.cons (.var 0) .nil)))) [2]))
 (.seq (.ret (.comp false (.var 2) (.many [3, 2]) (.itv (.bf .sorted (.cons (.var 1) .nil))) (.cst (.bl true)) [3, 2]))
 .nil)) }
/-- Unsharp.__init__: 0 self, 1 member, 2 back -/
def d_Unsharpu_initu : Def := { np := 3, n := 3, body :=
 (.seq (.setA (.var 0) "member" (.var 1))
 (.seq (.setA (.var 0) "back" (.var 2))
 .nil)) }
/-- _law_least_of: 0 _law_lots, 1 _law_lot, 2 _law_one -/
def d__law_least_of : Def := { np := 1, n := 3, body :=
 (.seq (.ret (.comp false (.var 1) (.one 1) (.itv (.var 0)) (.tE (.cmp .eq (.comp false (.var 2) (.one 2) (.itv (.var 0)) (.tand (.tE (.cmp .ne (.var 2) (.var 1))) (.tE (.call "_law_within" (.cons (.var 2) (.cons (.var 1) .nil))))) [2]) (.lst .nil))) [1]))
 .nil) }
/-- sharp_core: 0 glasses, 1 row, 2 left, 3 cuts, 4 cut, 5 stand, 6 member -/
def d_sharp_core : Def := { np := 2, n := 7, body :=
 (.seq (.asg 2 (.bf .listm (.cons (.call "check_row" (.cons (.attr (.var 0) "stands") (.cons (.var 1) .nil))) .nil)))
 (.seq (.asg 3 (.lstm .nil))
 (.seq (.asg 4 (.call "first_cut" (.cons (.var 0) (.cons (.var 2) .nil))))
 (.seq (.wh (.tE (.cmp .isn (.var 4) (.cst .non))) (.seq (.unp [5, 6] (.var 4))
 (.seq (.setI (.var 2) (.var 5) (.bin .band (.idx (.var 2) (.var 5)) (.var 6)))
 (.seq (.expr (.lm (.var 3) .append (.cons (.var 4) .nil)))
 (.seq (.asg 4 (.call "first_cut" (.cons (.var 0) (.cons (.var 2) .nil))))
 (.seq (.kill [5, 6])
 .nil))))))
 (.seq (.ret (.make "Core" (.cons (.bf .tuple (.cons (.var 2) .nil)) (.cons (.bf .tuple (.cons (.var 3) .nil)) .nil))))
 .nil))))) }
/-- first_cut: 0 glasses, 1 row, 2 member, 3 back, 4 lacking -/
def d_first_cut : Def := { np := 2, n := 5, body :=
 (.seq (.for_ (.one 2) (.itv (.attr (.var 0) "members")) (.seq (.asg 3 (.call "back_lot" (.cons (.var 1) (.cons (.var 2) .nil))))
 (.seq (.asg 4 (.call "stands_of" (.cons (.call "lot_without" (.cons (.meth (.var 0) "rounded" (.cons (.var 3) .nil)) (.cons (.var 3) .nil))) .nil)))
 (.seq (.ifs (.tE (.var 4)) (.seq (.ret (.tup (.cons (.idx (.var 4) (.cst (.int 0))) (.cons (.var 2) .nil))))
 .nil) .nil)
 (.seq (.kill [2, 3, 4])
 .nil)))))
 (.seq (.ret (.cst .non))
 .nil)) }
/-- core_fault: 0 glasses, 1 row, 2 core, 3 left, 4 at, 5 cut, 6 stand, 7 member -/
def d_core_fault : Def := { np := 3, n := 8, body :=
 (.seq (.asg 3 (.bf .listm (.cons (.call "check_row" (.cons (.attr (.var 0) "stands") (.cons (.var 1) .nil))) .nil)))
 (.seq (.for_ (.many [4, 5]) (.enum (.attr (.var 2) "cuts")) (.seq (.ifs (.tnot (.tE (.call "is_cut" (.cons (.var 0) (.cons (.var 5) .nil))))) (.seq (.ret (.tup (.cons (.var 4) (.cons (.cst (.str "cut")) .nil))))
 .nil) .nil)
 (.seq (.unp [6, 7] (.var 5))
 (.seq (.ifs (.tnot (.tE (.call "is_right_cut" (.cons (.var 0) (.cons (.var 3) (.cons (.var 6) (.cons (.var 7) .nil))))))) (.seq (.ret (.tup (.cons (.var 4) (.cons (.cst (.str "back")) .nil))))
 .nil) .nil)
 (.seq (.setI (.var 3) (.var 6) (.bin .band (.idx (.var 3) (.var 6)) (.var 7)))
 (.seq (.kill [4, 5, 6, 7])
 .nil))))))
 (.seq (.ifs (.tor (.tnot (.tE (.isi (.attr (.var 2) "row") .tuple))) (.tE (.cmp .ne (.attr (.var 2) "row") (.bf .tuple (.cons (.var 3) .nil))))) (.seq (.ret (.tup (.cons (.bf .len (.cons (.attr (.var 2) "cuts") .nil)) (.cons (.cst (.str "row")) .nil))))
 .nil) .nil)
 (.seq (.ifs (.tE (.cmp .isn (.call "unsharp_member" (.cons (.var 0) (.cons (.var 3) .nil))) (.cst .non))) (.seq (.ret (.tup (.cons (.bf .len (.cons (.attr (.var 2) "cuts") .nil)) (.cons (.cst (.str "sharp")) .nil))))
 .nil) .nil)
 (.seq (.ret (.cst .non))
 .nil))))) }
/-- is_cut: 0 glasses, 1 thing -/
def d_is_cut : Def := { np := 2, n := 2, body :=
 (.seq (.ifs (.tor (.tnot (.tE (.isi (.var 1) .tuple))) (.tE (.cmp .ne (.bf .len (.cons (.var 1) .nil)) (.cst (.int 2))))) (.seq (.ret (.cst (.bl false)))
 .nil) .nil)
 (.seq (.ret (.and (.call "is_whole" (.cons (.idx (.var 1) (.cst (.int 0))) (.cons (.cst (.int 0)) (.cons (.bin .sub (.attr (.var 0) "stands") (.cst (.int 1))) .nil)))) (.ohas false (.idx (.var 1) (.cst (.int 1))) (.var 0))))
 .nil)) }
/-- is_right_cut: 0 glasses, 1 row, 2 stand, 3 member, 4 back, 5 lacking -/
def d_is_right_cut : Def := { np := 4, n := 6, body :=
 (.seq (.asg 4 (.call "back_lot" (.cons (.var 1) (.cons (.var 3) .nil))))
 (.seq (.asg 5 (.call "lot_without" (.cons (.meth (.var 0) "rounded" (.cons (.var 4) .nil)) (.cons (.var 4) .nil))))
 (.seq (.ret (.cmp .eq (.bin .band (.bin .shr (.var 5) (.var 2)) (.cst (.int 1))) (.cst (.int 1))))
 .nil))) }
/-- Core.__init__: 0 self, 1 row, 2 cuts -/
def d_Coreu_initu : Def := { np := 3, n := 3, body :=
 (.seq (.setA (.var 0) "row" (.var 1))
 (.seq (.setA (.var 0) "cuts" (.var 2))
 .nil)) }
/-- _law_sharp: 0 _law_members_here, 1 _law_row, 2 _law_member -/
def d__law_sharp : Def := { np := 2, n := 3, body :=
 (.seq (.for_ (.one 2) (.itv (.var 0)) (.seq (.ifs (.tE (.cmp .nin (.call "_law_back" (.cons (.var 1) (.cons (.var 2) .nil))) (.var 0))) (.seq (.ret (.cst (.bl false)))
 .nil) .nil)
 (.seq (.kill [2])
 .nil)))
 (.seq (.ret (.cst (.bl true)))
 .nil)) }
/-- _law_row_within: 0 _law_one, 1 _law_other, 2 _law_s -/
def d__law_row_within : Def := { np := 2, n := 3, body :=
 (.seq (.ret (.cmp .eq (.comp false (.var 2) (.one 2) (.rng1 (.bf .len (.cons (.var 0) .nil))) (.tnot (.tE (.call "_law_within" (.cons (.idx (.var 0) (.var 2)) (.cons (.idx (.var 1) (.var 2)) .nil))))) [2]) (.lst .nil)))
 .nil) }
/-- _law_size: 0 _law_lot, 1 _law_s -/
def d__law_size : Def := { np := 1, n := 2, body :=
 (.seq (.ret (.bf .len (.cons (.comp false (.var 1) (.one 1) (.rng1 (.cst (.int 6))) (.tE (.cmp .eq (.bin .mod (.bf .int (.cons (.bin .shr (.var 0) (.var 1)) .nil)) (.cst (.int 2))) (.cst (.int 1)))) [1]) .nil)))
 .nil) }
/-- _law_told_row: 0 _law_told, 1 _law_v, 2 _law_lot -/
def d__law_told_row : Def := { np := 2, n := 3, body :=
 (.seq (.ifs (.tor (.tnot (.tE (.isi (.var 0) .tuple))) (.tE (.cmp .ne (.bf .len (.cons (.var 0) .nil)) (.var 1)))) (.seq (.ret (.cst (.bl false)))
 .nil) .nil)
 (.seq (.ret (.cmp .eq (.comp false (.var 2) (.one 2) (.itv (.var 0)) (.tor (.tnot (.tE (.call "_law_int" (.cons (.var 2) .nil)))) (.tor (.tE (.cmp .lt (.var 2) (.cst (.int 0)))) (.tE (.cmp .gt (.var 2) (.call "_law_every" (.cons (.var 1) .nil)))))) [2]) (.lst .nil)))
 .nil)) }
/-- _law_core_due: 0 _law_members_here, 1 _law_rounds_here, 2 _law_row, 3 _law_told_row_here, 4 _law_cuts, 5 _law_left, 6 _law_at, 7 _law_cut -/
def d__law_core_due : Def := { np := 5, n := 8, body :=
 (.seq (.asg 5 (.bf .listm (.cons (.var 2) .nil)))
 (.seq (.for_ (.one 6) (.rng1 (.bf .len (.cons (.var 4) .nil))) (.seq (.asg 7 (.idx (.var 4) (.var 6)))
 (.seq (.ifs (.tor (.tnot (.tE (.isi (.var 7) .tuple))) (.tE (.cmp .ne (.bf .len (.cons (.var 7) .nil)) (.cst (.int 2))))) (.seq (.ret (.tup (.cons (.var 6) (.cons (.cst (.str "cut")) .nil))))
 .nil) .nil)
 (.seq (.ifs (.tor (.tnot (.tE (.call "_law_int" (.cons (.idx (.var 7) (.cst (.int 0))) .nil)))) (.tnot (.tE (.cmp2 .le .lt (.cst (.int 0)) (.idx (.var 7) (.cst (.int 0))) (.bf .len (.cons (.var 2) .nil)))))) (.seq (.ret (.tup (.cons (.var 6) (.cons (.cst (.str "cut")) .nil))))
 .nil) .nil)
 (.seq (.ifs (.tor (.tnot (.tE (.call "_law_int" (.cons (.idx (.var 7) (.cst (.int 1))) .nil)))) (.tE (.cmp .nin (.idx (.var 7) (.cst (.int 1))) (.var 0)))) (.seq (.ret (.tup (.cons (.var 6) (.cons (.cst (.str "cut")) .nil))))
 .nil) .nil)
 (.seq (.ifs (.tnot (.tE (.call "_law_right" (.cons (.var 0) (.cons (.var 1) (.cons (.var 5) (.cons (.idx (.var 7) (.cst (.int 0))) (.cons (.idx (.var 7) (.cst (.int 1))) .nil)))))))) (.seq (.ret (.tup (.cons (.var 6) (.cons (.cst (.str "back")) .nil))))
 .nil) .nil)
 (.seq (.setI (.var 5) (.idx (.var 7) (.cst (.int 0))) (.bin .band (.idx (.var 5) (.idx (.var 7) (.cst (.int 0)))) (.idx (.var 7) (.cst (.int 1)))))
 (.seq (.kill [6, 7])
 .nil))))))))
 (.seq (.ifs (.tor (.tnot (.tE (.isi (.var 3) .tuple))) (.tE (.cmp .ne (.var 3) (.bf .tuple (.cons (.var 5) .nil))))) (.seq (.ret (.tup (.cons (.bf .len (.cons (.var 4) .nil)) (.cons (.cst (.str "row")) .nil))))
 .nil) .nil)
 (.seq (.ifs (.tnot (.tE (.call "_law_sharp" (.cons (.var 0) (.cons (.var 5) .nil))))) (.seq (.ret (.tup (.cons (.bf .len (.cons (.var 4) .nil)) (.cons (.cst (.str "sharp")) .nil))))
 .nil) .nil)
 (.seq (.ret (.cst .non))
 .nil))))) }
/-- _law_right: 0 _law_members_here, 1 _law_rounds_here, 2 _law_row, 3 _law_stand, 4 _law_member, 5 _law_back_here -/
def d__law_right : Def := { np := 5, n := 6, body :=
 (.seq (.asg 5 (.call "_law_back" (.cons (.var 2) (.cons (.var 4) .nil))))
 (.seq (.ret (.and (.call "_law_within" (.cons (.bin .shl (.cst (.int 1)) (.var 3)) (.cons (.idx (.var 1) (.var 5)) .nil))) (.not (.call "_law_within" (.cons (.bin .shl (.cst (.int 1)) (.var 3)) (.cons (.var 5) .nil))))))
 .nil)) }
/-- _law_chain: 0 _law_hand_here, 1 _law_members_here, 2 _law_rounds_here, 3 _law_row, 4 _law_left, 5 _law_cuts, 6 _law_step, 7 _law_fitting, 8 _law_member, 9 _law_cut, 10 _law_s -/
def d__law_chain : Def := { np := 4, n := 11, body :=
 (.seq (.asg 4 (.bf .listm (.cons (.var 3) .nil)))
 (.seq (.asg 5 (.lstm .nil))
 (.seq (.for_ (.one 6) (.rng1 (.cst (.int 40))) (.seq (.asg 7 (.lst .nil))
 (.seq (.for_ (.one 8) (.itv (.var 1)) (.seq (.asg 7 (.bin .add (.var 7) (.comp false (.tup (.cons (.var 10) (.cons (.var 8) .nil))) (.one 10) (.rng1 (.bf .len (.cons (.var 3) .nil))) (.tE (.call "_law_right" (.cons (.var 1) (.cons (.var 2) (.cons (.var 4) (.cons (.var 10) (.cons (.var 8) .nil))))))) [10])))
 (.seq (.kill [8])
 .nil)))
 (.seq (.ifs (.tE (.cmp .eq (.var 7) (.lst .nil))) (.seq .brk
 .nil) .nil)
 (.seq (.asg 9 (.idx (.var 7) (.call "_law_take" (.cons (.var 0) (.cons (.bf .len (.cons (.var 7) .nil)) .nil)))))
 (.seq (.setI (.var 4) (.idx (.var 9) (.cst (.int 0))) (.bin .band (.idx (.var 4) (.idx (.var 9) (.cst (.int 0)))) (.idx (.var 9) (.cst (.int 1)))))
 (.seq (.expr (.lm (.var 5) .append (.cons (.var 9) .nil)))
 (.seq (.kill [6, 7, 8, 9])
 .nil))))))))
 (.seq (.kill [6, 7, 8, 9])
 (.seq (.ret (.tup (.cons (.frz (.var 4)) (.cons (.frz (.var 5)) .nil))))
 .nil))))) }
/-- _law_rows_in: 0 _law_hand_here, 1 _law_row, 2 _law_v, 3 _law_k, 4 _law_lot, 5 _law_rows, 6 _law_parts, 7 _law_longer, 8 _law_low, 9 _law_part -/
def d__law_rows_in : Def := { np := 2, n := 10, body :=
 (.seq (.asg 2 (.bf .len (.cons (.var 1) .nil)))
 (.seq (.ifs (.tE (.cmp .gt (.bf .sum (.cons (.comp false (.call "_law_size" (.cons (.var 4) .nil)) (.one 4) (.itv (.var 1)) (.cst (.bl true)) [4]) .nil)) (.cst (.int 9)))) (.seq (.ret (.comp false (.comp false (.bin .band (.var 4) (.call "_law_take" (.cons (.var 0) (.cons (.bin .shl (.cst (.int 1)) (.var 2)) .nil)))) (.one 4) (.itv (.var 1)) (.cst (.bl true)) [4]) (.one 3) (.rng1 (.cst (.int 30))) (.cst (.bl true)) [3]))
 .nil) .nil)
 (.seq (.asg 5 (.lst (.cons (.lst .nil) .nil)))
 (.seq (.for_ (.one 4) (.itv (.var 1)) (.seq (.asg 6 (.comp false (.var 9) (.one 9) (.rng1 (.bin .add (.var 4) (.cst (.int 1)))) (.tE (.call "_law_within" (.cons (.var 9) (.cons (.var 4) .nil)))) [9]))
 (.seq (.asg 7 (.lst .nil))
 (.seq (.for_ (.one 8) (.itv (.var 5)) (.seq (.asg 7 (.bin .add (.var 7) (.comp false (.bin .add (.var 8) (.lst (.cons (.var 9) .nil))) (.one 9) (.itv (.var 6)) (.cst (.bl true)) [9])))
 (.seq (.kill [8])
 .nil)))
 (.seq (.asg 5 (.var 7))
 (.seq (.kill [4, 6, 7, 8])
 .nil))))))
 (.seq (.ret (.var 5))
 .nil))))) }
/-- check_alike: 0 one, 1 other -/
def d_check_alike : Def := { np := 2, n := 2, body :=
 (.seq (.ifs (.tE (.cmp .ne (.attr (.var 0) "stands") (.attr (.var 1) "stands"))) (.seq (.raise "UnlikeStands" .nil)
 .nil) .nil)
 .nil) }
/-- sharp_steps: 0 glasses, 1 steps, 2 name, 3 row -/
def d_sharp_steps : Def := { np := 2, n := 4, body :=
 (.seq (.expr (.call "check_alike" (.cons (.var 0) (.cons (.var 1) .nil))))
 (.seq (.ret (.bf .tuple (.cons (.comp false (.var 2) (.many [2, 3]) (.zip (.attr (.var 1) "names") (.attr (.var 1) "rows")) (.tE (.cmp .is (.call "unsharp_member" (.cons (.var 0) (.cons (.var 3) .nil))) (.cst .non))) [2, 3]) .nil)))
 .nil)) }
/-- is_name: 0 thing, 1 sign -/
def d_is_name : Def := { np := 1, n := 2, body :=
 (.seq (.ifs (.tor (.tnot (.tE (.isi (.var 0) .str))) (.tor (.tnot (.tE (.cmp2 .le .le (.cst (.int 1)) (.bf .len (.cons (.var 0) .nil)) (.cst (.int 8))))) (.tE (.cmp .eq (.var 0) (.cst (.str "nothing")))))) (.seq (.ret (.cst (.bl false)))
 .nil) .nil)
 (.seq (.ret (.cmp .eq (.comp false (.var 1) (.one 1) (.sitv (.var 0)) (.tE (.cmp .nin (.var 1) (.glo "LETTERS"))) [1]) (.lst .nil)))
 .nil)) }
/-- entry_fault: 0 stands, 1 entry, 2 had, 3 lot -/
def d_entry_fault : Def := { np := 3, n := 4, body :=
 (.seq (.ifs (.tor (.tnot (.tE (.call "is_sequence" (.cons (.var 1) .nil)))) (.tor (.tE (.cmp .ne (.bf .len (.cons (.var 1) .nil)) (.cst (.int 2)))) (.tor (.tnot (.tE (.call "is_name" (.cons (.idx (.var 1) (.cst (.int 0))) .nil)))) (.tE (.cmp .isin (.idx (.var 1) (.cst (.int 0))) (.var 2)))))) (.seq (.ret (.cst (.str "name")))
 .nil) .nil)
 (.seq (.ifs (.tor (.tnot (.tE (.call "is_sequence" (.cons (.idx (.var 1) (.cst (.int 1))) .nil)))) (.tE (.cmp .ne (.bf .len (.cons (.idx (.var 1) (.cst (.int 1))) .nil)) (.var 0)))) (.seq (.ret (.cst (.str "row")))
 .nil) .nil)
 (.seq (.ifs (.tE (.cmp .ne (.comp false (.var 3) (.one 3) (.itv (.idx (.var 1) (.cst (.int 1)))) (.tnot (.tE (.call "is_whole" (.cons (.var 3) (.cons (.cst (.int 0)) (.cons (.call "all_stands" (.cons (.var 0) .nil)) .nil)))))) [3]) (.lst .nil))) (.seq (.ret (.cst (.str "lot")))
 .nil) .nil)
 (.seq (.ret (.cst .non))
 .nil)))) }
/-- Steps.__init__: 0 self, 1 stands, 2 entries, 3 names, 4 place, 5 entry, 6 word -/
def d_Stepsu_initu : Def := { np := 3, n := 7, body :=
 (.seq (.ifs (.tnot (.tE (.call "is_whole" (.cons (.var 1) (.cons (.cst (.int 1)) (.cons (.glo "MOST_STANDS") .nil)))))) (.seq (.raise "BadSteps" (.cons (.cst (.str "stands")) (.cons (.cst (.int 0)) .nil)))
 .nil) .nil)
 (.seq (.ifs (.tor (.tnot (.tE (.call "is_sequence" (.cons (.var 2) .nil)))) (.tE (.cmp .gt (.bf .len (.cons (.var 2) .nil)) (.glo "MOST_STEPS")))) (.seq (.raise "BadSteps" (.cons (.cst (.str "entries")) (.cons (.cst (.int 0)) .nil)))
 .nil) .nil)
 (.seq (.asg 3 (.lstm .nil))
 (.seq (.for_ (.many [4, 5]) (.enum (.var 2)) (.seq (.asg 6 (.call "entry_fault" (.cons (.var 1) (.cons (.var 5) (.cons (.var 3) .nil)))))
 (.seq (.ifs (.tE (.cmp .isn (.var 6) (.cst .non))) (.seq (.raise "BadSteps" (.cons (.var 6) (.cons (.var 4) .nil)))
 .nil) .nil)
 (.seq (.expr (.lm (.var 3) .append (.cons (.idx (.var 5) (.cst (.int 0))) .nil)))
 (.seq (.kill [4, 6])
 .nil)))))
 (.seq (.setA (.var 0) "stands" (.var 1))
 (.seq (.setA (.var 0) "names" (.bf .tuple (.cons (.var 3) .nil)))
 (.seq (.setA (.var 0) "rows" (.bf .tuple (.cons (.comp false (.bf .tuple (.cons (.idx (.var 5) (.cst (.int 1))) .nil)) (.one 5) (.itv (.var 2)) (.cst (.bl true)) [5]) .nil)))
 .nil))))))) }
/-- Steps.with_row: 0 self, 1 name, 2 row, 3 entries, 4 known, 5 had -/
def d_Steps_with_row : Def := { np := 3, n := 6, body :=
 (.seq (.asg 3 (.comp true (.tup (.cons (.var 4) (.cons (.var 5) .nil))) (.many [4, 5]) (.zip (.attr (.var 0) "names") (.attr (.var 0) "rows")) (.cst (.bl true)) [4, 5]))
 (.seq (.ifs (.tand (.tE (.isi (.var 1) .str)) (.tE (.cmp .isin (.var 1) (.attr (.var 0) "names")))) (.seq (.setI (.var 3) (.lidx (.attr (.var 0) "names") (.var 1)) (.tup (.cons (.var 1) (.cons (.var 2) .nil))))
 .nil) (.seq (.expr (.lm (.var 3) .append (.cons (.tup (.cons (.var 1) (.cons (.var 2) .nil))) .nil)))
 .nil))
 (.seq (.ret (.make "Steps" (.cons (.attr (.var 0) "stands") (.cons (.frz (.var 3)) .nil))))
 .nil))) }
/-- _law_names: 0 _law_hand_here, 1 _law_many, 2 _law_pool, 3 _law_names_here, 4 _law_k, 5 _law_at -/
def d__law_names : Def := { np := 2, n := 6, body :=
 (.seq (.asg 2 (.lst (.cons (.cst (.str "f")) (.cons (.cst (.str "g")) (.cons (.cst (.str "h")) (.cons (.cst (.str "ab")) (.cons (.cst (.str "zz")) (.cons (.cst (.str "go")) (.cons (.cst (.str "longname")) (.cons (.cst (.str "n")) (.cons (.cst (.str "nothings")) (.cons (.cst (.str "a")) .nil))))))))))))
 (.seq (.asg 3 (.lstm .nil))
 (.seq (.for_ (.one 4) (.rng1 (.var 1)) (.seq (.asg 5 (.call "_law_take" (.cons (.var 0) (.cons (.bf .len (.cons (.var 2) .nil)) .nil))))
 (.seq (.expr (.lm (.var 3) .append (.cons (.idx (.var 2) (.var 5)) .nil)))
 (.seq (.asg 2 (.bin .add (.sl (.var 2) .nil (.var 5)) (.sl (.var 2) (.bin .add (.var 5) (.cst (.int 1))) .nil)))
 (.seq (.kill [4, 5])
 .nil)))))
 (.seq (.ret (.frz (.var 3)))
 .nil)))) }
/-- _law_entries: 0 _law_hand_here, 1 _law_v, 2 _law_many, 3 _law_name -/
def d__law_entries : Def := { np := 3, n := 4, body :=
 (.seq (.ret (.comp false (.tup (.cons (.var 3) (.cons (.call "_law_drawn_row" (.cons (.var 0) (.cons (.var 1) .nil))) .nil))) (.one 3) (.itv (.call "_law_names" (.cons (.var 0) (.cons (.var 2) .nil)))) (.cst (.bl true)) [3]))
 .nil) }
/-- _law_steps: 0 _law_hand_here, 1 _law_v, 2 _law_entries_here, 3 _law_name, 4 _law_row -/
def d__law_steps : Def := { np := 3, n := 5, body :=
 (.seq (.ret (.make "Steps" (.cons (.var 1) (.cons (.call "_law_list" (.cons (.var 0) (.cons (.comp false (.call "_law_list" (.cons (.var 0) (.cons (.lst (.cons (.var 3) (.cons (.call "_law_list" (.cons (.var 0) (.cons (.var 4) .nil))) .nil))) .nil))) (.many [3, 4]) (.itv (.var 2)) (.cst (.bl true)) [3, 4]) .nil))) .nil))))
 .nil) }
/-- Steps.__contains__: 0 self, 1 name -/
def d_Stepsu_containsu : Def := { np := 2, n := 2, body :=
 (.seq (.ret (.and (.isi (.var 1) .str) (.cmp .isin (.var 1) (.attr (.var 0) "names"))))
 .nil) }
/-- Steps.row_of: 0 self, 1 name, 2 known, 3 row -/
def d_Steps_row_of : Def := { np := 2, n := 4, body :=
 (.seq (.for_ (.many [2, 3]) (.zip (.attr (.var 0) "names") (.attr (.var 0) "rows")) (.seq (.ifs (.tand (.tE (.isi (.var 1) .str)) (.tE (.cmp .eq (.var 2) (.var 1)))) (.seq (.ret (.var 3))
 .nil) .nil)
 (.seq (.kill [2, 3])
 .nil)))
 (.seq (.raise "NoStep" (.cons (.var 1) .nil))
 .nil)) }
/-- has_shape: 0 thing, 1 word -/
def d_has_shape : Def := { np := 1, n := 2, body :=
 (.seq (.ifs (.tor (.tnot (.tE (.isi (.var 0) .tuple))) (.tE (.cmp .eq (.bf .len (.cons (.var 0) .nil)) (.cst (.int 0))))) (.seq (.ret (.cst (.bl false)))
 .nil) .nil)
 (.seq (.asg 1 (.idx (.var 0) (.cst (.int 0))))
 (.seq (.ret (.and (.isi (.var 1) .str) (.and (.kin false (.var 1) "SIZES") (.cmp .eq (.bf .len (.cons (.var 0) .nil)) (.kix "SIZES" (.var 1))))))
 .nil))) }
/-- inner_programs: 0 program -/
def d_inner_programs : Def := { np := 1, n := 1, body :=
 (.seq (.ifs (.tE (.cmp .eq (.idx (.var 0) (.cst (.int 0))) (.cst (.str "step")))) (.seq (.ret (.tup .nil))
 .nil) .nil)
 (.seq (.ret (.sl (.var 0) (.cst (.int 1)) .nil))
 .nil)) }
/-- check_node: 0 steps, 1 node, 2 deep, 3 agains, 4 had, 5 met, 6 below, 7 inner -/
def d_check_node : Def := { np := 5, n := 8, body :=
 (.seq (.ifs (.tE (.cmp .gt (.var 2) (.glo "MOST_DEEP"))) (.seq (.raise "BadProgram" (.cons (.cst (.str "deep")) .nil))
 .nil) .nil)
 (.seq (.ifs (.tE (.cmp .ge (.var 4) (.glo "MOST_LONG"))) (.seq (.raise "BadProgram" (.cons (.cst (.str "long")) .nil))
 .nil) .nil)
 (.seq (.ifs (.tnot (.tE (.call "has_shape" (.cons (.var 1) .nil)))) (.seq (.raise "BadProgram" (.cons (.cst (.str "kind")) .nil))
 .nil) .nil)
 (.seq (.ifs (.tand (.tE (.cmp .eq (.idx (.var 1) (.cst (.int 0))) (.cst (.str "again")))) (.tE (.cmp .ge (.var 3) (.glo "MOST_AGAINS")))) (.seq (.raise "BadProgram" (.cons (.cst (.str "again")) .nil))
 .nil) .nil)
 (.seq (.ifs (.tand (.tE (.cmp .eq (.idx (.var 1) (.cst (.int 0))) (.cst (.str "step")))) (.tE (.ohas true (.idx (.var 1) (.cst (.int 1))) (.var 0)))) (.seq (.raise "BadProgram" (.cons (.cst (.str "name")) .nil))
 .nil) .nil)
 (.seq (.asg 5 (.bin .add (.var 4) (.cst (.int 1))))
 (.seq (.asg 6 (.bin .add (.var 3) (.ite (.tE (.cmp .eq (.idx (.var 1) (.cst (.int 0))) (.cst (.str "again")))) (.cst (.int 1)) (.cst (.int 0)))))
 (.seq (.for_ (.one 7) (.itv (.call "inner_programs" (.cons (.var 1) .nil))) (.seq (.asg 5 (.call "check_node" (.cons (.var 0) (.cons (.var 7) (.cons (.bin .add (.var 2) (.cst (.int 1))) (.cons (.var 6) (.cons (.var 5) .nil)))))))
 (.seq (.kill [7])
 .nil)))
 (.seq (.ret (.var 5))
 .nil))))))))) }
/-- check_program: 0 steps, 1 program -/
def d_check_program : Def := { np := 2, n := 2, body :=
 (.seq (.expr (.call "check_node" (.cons (.var 0) (.cons (.var 1) (.cons (.cst (.int 1)) (.cons (.cst (.int 0)) (.cons (.cst (.int 0)) .nil)))))))
 (.seq (.ret (.var 1))
 .nil)) }
/-- end_of: 0 steps, 1 program, 2 lot, 3 word, 4 reached, 5 grown -/
def d_end_of : Def := { np := 3, n := 6, body :=
 (.seq (.asg 3 (.idx (.var 1) (.cst (.int 0))))
 (.seq (.ifs (.tE (.cmp .eq (.var 3) (.cst (.str "step")))) (.seq (.ret (.call "next_lot" (.cons (.meth (.var 0) "row_of" (.cons (.idx (.var 1) (.cst (.int 1))) .nil)) (.cons (.var 2) .nil))))
 .nil) .nil)
 (.seq (.ifs (.tE (.cmp .eq (.var 3) (.cst (.str "nothing")))) (.seq (.ret (.var 2))
 .nil) .nil)
 (.seq (.ifs (.tE (.cmp .eq (.var 3) (.cst (.str "behind")))) (.seq (.ret (.call "end_of" (.cons (.var 0) (.cons (.idx (.var 1) (.cst (.int 2))) (.cons (.call "end_of" (.cons (.var 0) (.cons (.idx (.var 1) (.cst (.int 1))) (.cons (.var 2) .nil)))) .nil)))))
 .nil) .nil)
 (.seq (.ifs (.tE (.cmp .eq (.var 3) (.cst (.str "either")))) (.seq (.ret (.bin .bor (.call "end_of" (.cons (.var 0) (.cons (.idx (.var 1) (.cst (.int 1))) (.cons (.var 2) .nil)))) (.call "end_of" (.cons (.var 0) (.cons (.idx (.var 1) (.cst (.int 2))) (.cons (.var 2) .nil))))))
 .nil) .nil)
 (.seq (.asg 4 (.var 2))
 (.seq (.wh (.tE (.cst (.bl true))) (.seq (.asg 5 (.bin .bor (.var 4) (.call "end_of" (.cons (.var 0) (.cons (.idx (.var 1) (.cst (.int 1))) (.cons (.var 4) .nil))))))
 (.seq (.ifs (.tE (.cmp .eq (.var 5) (.var 4))) (.seq (.ret (.var 4))
 .nil) .nil)
 (.seq (.asg 4 (.var 5))
 (.seq (.kill [5])
 .nil)))))
 .nil))))))) }
/-- true_end: 0 steps, 1 program, 2 lot -/
def d_true_end : Def := { np := 3, n := 3, body :=
 (.seq (.expr (.call "check_program" (.cons (.var 0) (.cons (.var 1) .nil))))
 (.seq (.expr (.call "check_lot" (.cons (.attr (.var 0) "stands") (.cons (.var 2) .nil))))
 (.seq (.ret (.call "end_of" (.cons (.var 0) (.cons (.var 1) (.cons (.var 2) .nil)))))
 .nil))) }
/-- check_run: 0 glasses, 1 steps, 2 program, 3 lot -/
def d_check_run : Def := { np := 4, n := 4, body :=
 (.seq (.expr (.call "check_alike" (.cons (.var 0) (.cons (.var 1) .nil))))
 (.seq (.expr (.call "check_program" (.cons (.var 1) (.cons (.var 2) .nil))))
 (.seq (.expr (.call "check_lot" (.cons (.attr (.var 1) "stands") (.cons (.var 3) .nil))))
 .nil))) }
/-- seen_from: 0 glasses, 1 steps, 2 program, 3 member, 4 word, 5 middle, 6 left, 7 right -/
def d_seen_from : Def := { np := 4, n := 8, body :=
 (.seq (.asg 4 (.idx (.var 2) (.cst (.int 0))))
 (.seq (.ifs (.tE (.cmp .eq (.var 4) (.cst (.str "nothing")))) (.seq (.ret (.var 3))
 .nil) .nil)
 (.seq (.ifs (.tE (.cmp .eq (.var 4) (.cst (.str "step")))) (.seq (.ret (.meth (.var 0) "rounded" (.cons (.call "next_lot" (.cons (.meth (.var 1) "row_of" (.cons (.idx (.var 2) (.cst (.int 1))) .nil)) (.cons (.var 3) .nil))) .nil)))
 .nil) .nil)
 (.seq (.ifs (.tE (.cmp .eq (.var 4) (.cst (.str "behind")))) (.seq (.asg 5 (.call "seen_from" (.cons (.var 0) (.cons (.var 1) (.cons (.idx (.var 2) (.cst (.int 1))) (.cons (.var 3) .nil))))))
 (.seq (.ret (.call "seen_from" (.cons (.var 0) (.cons (.var 1) (.cons (.idx (.var 2) (.cst (.int 2))) (.cons (.var 5) .nil))))))
 .nil)) .nil)
 (.seq (.ifs (.tE (.cmp .eq (.var 4) (.cst (.str "either")))) (.seq (.asg 6 (.call "seen_from" (.cons (.var 0) (.cons (.var 1) (.cons (.idx (.var 2) (.cst (.int 1))) (.cons (.var 3) .nil))))))
 (.seq (.asg 7 (.call "seen_from" (.cons (.var 0) (.cons (.var 1) (.cons (.idx (.var 2) (.cst (.int 2))) (.cons (.var 3) .nil))))))
 (.seq (.ret (.meth (.var 0) "rounded" (.cons (.bin .bor (.var 6) (.var 7)) .nil)))
 .nil))) .nil)
 (.seq (.ret (.idx (.call "rounds_from" (.cons (.var 0) (.cons (.var 1) (.cons (.var 2) (.cons (.var 3) .nil))))) (.un .neg (.cst (.int 1)))))
 .nil)))))) }
/-- rounds_from: 0 glasses, 1 steps, 2 program, 3 member, 4 found, 5 end, 6 grown -/
def d_rounds_from : Def := { np := 4, n := 7, body :=
 (.seq (.asg 4 (.lstm (.cons (.var 3) .nil)))
 (.seq (.wh (.tE (.cst (.bl true))) (.seq (.asg 5 (.call "seen_from" (.cons (.var 0) (.cons (.var 1) (.cons (.idx (.var 2) (.cst (.int 1))) (.cons (.idx (.var 4) (.un .neg (.cst (.int 1)))) .nil))))))
 (.seq (.asg 6 (.meth (.var 0) "rounded" (.cons (.bin .bor (.idx (.var 4) (.un .neg (.cst (.int 1)))) (.var 5)) .nil)))
 (.seq (.ifs (.tE (.cmp .eq (.var 6) (.idx (.var 4) (.un .neg (.cst (.int 1)))))) (.seq (.ret (.frz (.var 4)))
 .nil) .nil)
 (.seq (.expr (.lm (.var 4) .append (.cons (.var 6) .nil)))
 (.seq (.kill [5, 6])
 .nil))))))
 .nil)) }
/-- seen_end: 0 glasses, 1 steps, 2 program, 3 lot -/
def d_seen_end : Def := { np := 4, n := 4, body :=
 (.seq (.expr (.call "check_run" (.cons (.var 0) (.cons (.var 1) (.cons (.var 2) (.cons (.var 3) .nil))))))
 (.seq (.ret (.call "seen_from" (.cons (.var 0) (.cons (.var 1) (.cons (.var 2) (.cons (.meth (.var 0) "rounded" (.cons (.var 3) .nil)) .nil))))))
 .nil)) }
/-- seen_table: 0 glasses, 1 steps, 2 program, 3 member -/
def d_seen_table : Def := { np := 3, n := 4, body :=
 (.seq (.expr (.call "check_alike" (.cons (.var 0) (.cons (.var 1) .nil))))
 (.seq (.expr (.call "check_program" (.cons (.var 1) (.cons (.var 2) .nil))))
 (.seq (.ret (.bf .tuple (.cons (.comp false (.call "seen_from" (.cons (.var 0) (.cons (.var 1) (.cons (.var 2) (.cons (.var 3) .nil))))) (.one 3) (.itv (.attr (.var 0) "members")) (.cst (.bl true)) [3]) .nil)))
 .nil))) }
/-- seen_gap: 0 glasses, 1 steps, 2 program, 3 lot, 4 seen, 5 due -/
def d_seen_gap : Def := { np := 4, n := 6, body :=
 (.seq (.asg 4 (.call "seen_end" (.cons (.var 0) (.cons (.var 1) (.cons (.var 2) (.cons (.var 3) .nil))))))
 (.seq (.asg 5 (.meth (.var 0) "rounded" (.cons (.call "true_end" (.cons (.var 1) (.cons (.var 2) (.cons (.var 3) .nil)))) .nil)))
 (.seq (.ret (.bin .sub (.var 4) (.bin .band (.var 4) (.var 5))))
 .nil))) }
/-- _law_rows_of: 0 _law_entries_here, 1 _law_rows, 2 _law_name, 3 _law_row -/
def d__law_rows_of : Def := { np := 1, n := 4, body :=
 (.seq (.asg 1 .dnew)
 (.seq (.for_ (.many [2, 3]) (.itv (.var 0)) (.seq (.setD (.var 1) (.var 2) (.var 3))
 (.seq (.kill [2, 3])
 .nil)))
 (.seq (.ret (.x (.frzd (.var 1))))
 .nil))) }
/-- _law_program: 0 _law_hand_here, 1 _law_names_here, 2 _law_leaves, 3 _law_deep, 4 _law_way, 5 _law_left, 6 _law_word, 7 _law_one -/
def d__law_program : Def := { np := 4, n := 8, body :=
 (.seq (.asg 4 (.call "_law_take" (.cons (.var 0) (.cons (.cst (.int 8)) .nil))))
 (.seq (.ifs (.tand (.tE (.cmp .gt (.var 3) (.cst (.int 0)))) (.tE (.cmp .lt (.var 4) (.cst (.int 2))))) (.seq (.ret (.tup (.cons (.cst (.str "again")) (.cons (.call "_law_program" (.cons (.var 0) (.cons (.var 1) (.cons (.var 2) (.cons (.bin .sub (.var 3) (.cst (.int 1))) .nil))))) .nil))))
 .nil) .nil)
 (.seq (.ifs (.tE (.cmp .lt (.var 2) (.cst (.int 2)))) (.seq (.ifs (.tand (.tE (.cmp .eq (.var 4) (.cst (.int 7)))) (.tE (.cmp .eq (.call "_law_take" (.cons (.var 0) (.cons (.cst (.int 3)) .nil))) (.cst (.int 0))))) (.seq (.ret (.tup (.cons (.cst (.str "nothing")) .nil)))
 .nil) .nil)
 (.seq (.ret (.tup (.cons (.cst (.str "step")) (.cons (.idx (.var 1) (.call "_law_take" (.cons (.var 0) (.cons (.bf .len (.cons (.var 1) .nil)) .nil)))) .nil))))
 .nil)) .nil)
 (.seq (.asg 5 (.bin .add (.cst (.int 1)) (.call "_law_take" (.cons (.var 0) (.cons (.bin .sub (.var 2) (.cst (.int 1))) .nil)))))
 (.seq (.asg 6 (.ite (.tE (.cmp .lt (.var 4) (.cst (.int 5)))) (.cst (.str "behind")) (.cst (.str "either"))))
 (.seq (.asg 7 (.call "_law_program" (.cons (.var 0) (.cons (.var 1) (.cons (.var 5) (.cons (.var 3) .nil))))))
 (.seq (.ret (.tup (.cons (.var 6) (.cons (.var 7) (.cons (.call "_law_program" (.cons (.var 0) (.cons (.var 1) (.cons (.bin .sub (.var 2) (.var 5)) (.cons (.var 3) .nil))))) .nil)))))
 .nil))))))) }
/-- _law_run: 0 _law_rows, 1 _law_program_here, 2 _law_lot, 3 _law_path, 4 _law_out, 5 _law_word, 6 _law_middle, 7 _law_one, 8 _law_k, 9 _law_grown -/
def d__law_run : Def := { np := 5, n := 10, body :=
 (.seq (.asg 5 (.idx (.var 1) (.cst (.int 0))))
 (.seq (.ifs (.tE (.cmp .eq (.var 5) (.cst (.str "nothing")))) (.seq (.ret (.var 2))
 .nil) .nil)
 (.seq (.ifs (.tE (.cmp .eq (.var 5) (.cst (.str "step")))) (.seq (.expr (.lm (.var 4) .append (.cons (.tup (.cons (.var 3) (.cons (.idx (.var 1) (.cst (.int 1))) (.cons (.var 2) .nil)))) .nil)))
 (.seq (.ret (.call "_law_next" (.cons (.didx (.var 0) (.idx (.var 1) (.cst (.int 1)))) (.cons (.var 2) .nil))))
 .nil)) .nil)
 (.seq (.ifs (.tE (.cmp .eq (.var 5) (.cst (.str "behind")))) (.seq (.asg 6 (.call "_law_run" (.cons (.var 0) (.cons (.idx (.var 1) (.cst (.int 1))) (.cons (.var 2) (.cons (.bin .add (.var 3) (.tup (.cons (.cst (.int 0)) .nil))) (.cons (.var 4) .nil)))))))
 (.seq (.ret (.call "_law_run" (.cons (.var 0) (.cons (.idx (.var 1) (.cst (.int 2))) (.cons (.var 6) (.cons (.bin .add (.var 3) (.tup (.cons (.cst (.int 1)) .nil))) (.cons (.var 4) .nil)))))))
 .nil)) .nil)
 (.seq (.ifs (.tE (.cmp .eq (.var 5) (.cst (.str "either")))) (.seq (.asg 7 (.call "_law_run" (.cons (.var 0) (.cons (.idx (.var 1) (.cst (.int 1))) (.cons (.var 2) (.cons (.bin .add (.var 3) (.tup (.cons (.cst (.int 0)) .nil))) (.cons (.var 4) .nil)))))))
 (.seq (.ret (.bin .bor (.var 7) (.call "_law_run" (.cons (.var 0) (.cons (.idx (.var 1) (.cst (.int 2))) (.cons (.var 2) (.cons (.bin .add (.var 3) (.tup (.cons (.cst (.int 1)) .nil))) (.cons (.var 4) .nil))))))))
 .nil)) .nil)
 (.seq (.for_ (.one 8) (.rng1 (.cst (.int 8))) (.seq (.asg 9 (.bin .bor (.var 2) (.call "_law_run" (.cons (.var 0) (.cons (.idx (.var 1) (.cst (.int 1))) (.cons (.var 2) (.cons (.bin .add (.var 3) (.tup (.cons (.var 8) .nil))) (.cons (.var 4) .nil))))))))
 (.seq (.ifs (.tE (.cmp .eq (.var 9) (.var 2))) (.seq (.ret (.var 2))
 .nil) .nil)
 (.seq (.asg 2 (.var 9))
 (.seq (.kill [8, 9])
 .nil)))))
 (.seq (.ret (.var 2))
 .nil))))))) }
/-- _law_true: 0 _law_rows, 1 _law_program_here, 2 _law_lot -/
def d__law_true : Def := { np := 3, n := 3, body :=
 (.seq (.ret (.call "_law_run" (.cons (.var 0) (.cons (.var 1) (.cons (.var 2) (.cons (.tup .nil) (.cons (.lstm .nil) .nil)))))))
 .nil) }
/-- _law_look: 0 _law_members_here, 1 _law_rows, 2 _law_program_here, 3 _law_lot, 4 _law_path, 5 _law_out, 6 _law_word, 7 _law_after, 8 _law_middle, 9 _law_one, 10 _law_k, 11 _law_grown -/
def d__law_look : Def := { np := 6, n := 12, body :=
 (.seq (.asg 6 (.idx (.var 2) (.cst (.int 0))))
 (.seq (.ifs (.tE (.cmp .eq (.var 6) (.cst (.str "nothing")))) (.seq (.ret (.var 3))
 .nil) .nil)
 (.seq (.ifs (.tE (.cmp .eq (.var 6) (.cst (.str "step")))) (.seq (.asg 7 (.call "_law_rounded" (.cons (.var 0) (.cons (.call "_law_next" (.cons (.didx (.var 1) (.idx (.var 2) (.cst (.int 1)))) (.cons (.var 3) .nil))) .nil))))
 (.seq (.expr (.lm (.var 5) .append (.cons (.tup (.cons (.var 4) (.cons (.idx (.var 2) (.cst (.int 1))) (.cons (.var 3) (.cons (.var 7) .nil))))) .nil)))
 (.seq (.ret (.var 7))
 .nil))) .nil)
 (.seq (.ifs (.tE (.cmp .eq (.var 6) (.cst (.str "behind")))) (.seq (.asg 8 (.call "_law_look" (.cons (.var 0) (.cons (.var 1) (.cons (.idx (.var 2) (.cst (.int 1))) (.cons (.var 3) (.cons (.bin .add (.var 4) (.tup (.cons (.cst (.int 0)) .nil))) (.cons (.var 5) .nil))))))))
 (.seq (.ret (.call "_law_look" (.cons (.var 0) (.cons (.var 1) (.cons (.idx (.var 2) (.cst (.int 2))) (.cons (.var 8) (.cons (.bin .add (.var 4) (.tup (.cons (.cst (.int 1)) .nil))) (.cons (.var 5) .nil))))))))
 .nil)) .nil)
 (.seq (.ifs (.tE (.cmp .eq (.var 6) (.cst (.str "either")))) (.seq (.asg 9 (.call "_law_look" (.cons (.var 0) (.cons (.var 1) (.cons (.idx (.var 2) (.cst (.int 1))) (.cons (.var 3) (.cons (.bin .add (.var 4) (.tup (.cons (.cst (.int 0)) .nil))) (.cons (.var 5) .nil))))))))
 (.seq (.ret (.call "_law_rounded" (.cons (.var 0) (.cons (.bin .bor (.var 9) (.call "_law_look" (.cons (.var 0) (.cons (.var 1) (.cons (.idx (.var 2) (.cst (.int 2))) (.cons (.var 3) (.cons (.bin .add (.var 4) (.tup (.cons (.cst (.int 1)) .nil))) (.cons (.var 5) .nil)))))))) .nil))))
 .nil)) .nil)
 (.seq (.for_ (.one 10) (.rng1 (.cst (.int 8))) (.seq (.asg 11 (.call "_law_rounded" (.cons (.var 0) (.cons (.bin .bor (.var 3) (.call "_law_look" (.cons (.var 0) (.cons (.var 1) (.cons (.idx (.var 2) (.cst (.int 1))) (.cons (.var 3) (.cons (.bin .add (.var 4) (.tup (.cons (.var 10) .nil))) (.cons (.var 5) .nil)))))))) .nil))))
 (.seq (.ifs (.tE (.cmp .eq (.var 11) (.var 3))) (.seq (.ret (.var 3))
 .nil) .nil)
 (.seq (.asg 3 (.var 11))
 (.seq (.kill [10, 11])
 .nil)))))
 (.seq (.ret (.var 3))
 .nil))))))) }
/-- meaning_row: 0 steps, 1 program, 2 stand -/
def d_meaning_row : Def := { np := 2, n := 3, body :=
 (.seq (.expr (.call "check_program" (.cons (.var 0) (.cons (.var 1) .nil))))
 (.seq (.ret (.bf .tuple (.cons (.comp false (.call "end_of" (.cons (.var 0) (.cons (.var 1) (.cons (.bin .shl (.cst (.int 1)) (.var 2)) .nil)))) (.one 2) (.rng1 (.attr (.var 0) "stands")) (.cst (.bl true)) [2]) .nil)))
 .nil)) }
/-- exact_at: 0 glasses, 1 steps, 2 program, 3 lot, 4 seen -/
def d_exact_at : Def := { np := 4, n := 5, body :=
 (.seq (.expr (.call "check_alike" (.cons (.var 0) (.cons (.var 1) .nil))))
 (.seq (.expr (.call "check_program" (.cons (.var 1) (.cons (.var 2) .nil))))
 (.seq (.expr (.call "check_lot" (.cons (.attr (.var 0) "stands") (.cons (.var 3) .nil))))
 (.seq (.asg 4 (.call "seen_end" (.cons (.var 0) (.cons (.var 1) (.cons (.var 2) (.cons (.var 3) .nil))))))
 (.seq (.ret (.cmp .eq (.meth (.var 0) "rounded" (.cons (.call "true_end" (.cons (.var 1) (.cons (.var 2) (.cons (.var 3) .nil)))) .nil)) (.var 4)))
 .nil))))) }
/-- first_inexact: 0 glasses, 1 steps, 2 program, 3 row, 4 seen, 5 member, 6 lot -/
def d_first_inexact : Def := { np := 3, n := 7, body :=
 (.seq (.expr (.call "check_alike" (.cons (.var 0) (.cons (.var 1) .nil))))
 (.seq (.expr (.call "check_program" (.cons (.var 1) (.cons (.var 2) .nil))))
 (.seq (.asg 3 (.call "meaning_row" (.cons (.var 1) (.cons (.var 2) .nil))))
 (.seq (.asg 4 .dnew)
 (.seq (.for_ (.one 5) (.itv (.attr (.var 0) "members")) (.seq (.setD (.var 4) (.var 5) (.call "seen_end" (.cons (.var 0) (.cons (.var 1) (.cons (.var 2) (.cons (.var 5) .nil))))))
 (.seq (.kill [5])
 .nil)))
 (.seq (.for_ (.one 6) (.rng1 (.bin .add (.prop (.var 0) "every") (.cst (.int 1)))) (.seq (.ifs (.tE (.cmp .ne (.meth (.var 0) "rounded" (.cons (.call "next_lot" (.cons (.var 3) (.cons (.var 6) .nil))) .nil)) (.didx (.var 4) (.meth (.var 0) "rounded" (.cons (.var 6) .nil))))) (.seq (.ret (.var 6))
 .nil) .nil)
 (.seq (.kill [6])
 .nil)))
 (.seq (.ret (.cst .non))
 .nil))))))) }
/-- all_exact: 0 glasses, 1 steps, 2 name, 3 row, 4 found -/
def d_all_exact : Def := { np := 2, n := 5, body :=
 (.seq (.expr (.call "check_alike" (.cons (.var 0) (.cons (.var 1) .nil))))
 (.seq (.for_ (.many [2, 3]) (.zip (.attr (.var 1) "names") (.attr (.var 1) "rows")) (.seq (.asg 4 (.call "unsharp_member" (.cons (.var 0) (.cons (.var 3) .nil))))
 (.seq (.ifs (.tE (.cmp .isn (.var 4) (.cst .non))) (.seq (.ret (.make "Misled" (.cons (.var 2) (.cons (.attr (.var 4) "back") (.cons (.attr (.var 4) "member") .nil)))))
 .nil) .nil)
 (.seq (.kill [2, 3, 4])
 .nil))))
 (.seq (.ret (.cst .non))
 .nil))) }
/-- Misled.__init__: 0 self, 1 name, 2 lot, 3 wish -/
def d_Misledu_initu : Def := { np := 4, n := 4, body :=
 (.seq (.setA (.var 0) "name" (.var 1))
 (.seq (.setA (.var 0) "lot" (.var 2))
 (.seq (.setA (.var 0) "wish" (.var 3))
 .nil))) }
/-- alarm_of: 0 glasses, 1 steps, 2 program, 3 lot, 4 wish, 5 truly -/
def d_alarm_of : Def := { np := 5, n := 6, body :=
 (.seq (.expr (.call "check_alike" (.cons (.var 0) (.cons (.var 1) .nil))))
 (.seq (.asg 5 (.call "true_end" (.cons (.var 1) (.cons (.var 2) (.cons (.var 3) .nil)))))
 (.seq (.expr (.call "check_member" (.cons (.var 0) (.cons (.var 4) .nil))))
 (.seq (.ifs (.tE (.call "is_within" (.cons (.call "seen_end" (.cons (.var 0) (.cons (.var 1) (.cons (.var 2) (.cons (.var 3) .nil))))) (.cons (.var 4) .nil)))) (.seq (.ret (.cst (.str "none")))
 .nil) .nil)
 (.seq (.ifs (.tE (.call "is_within" (.cons (.var 5) (.cons (.var 4) .nil)))) (.seq (.ret (.cst (.str "false")))
 .nil) .nil)
 (.seq (.ret (.cst (.str "true")))
 .nil)))))) }
/-- false_wishes: 0 glasses, 1 steps, 2 program, 3 lot, 4 truly, 5 seen, 6 found, 7 member -/
def d_false_wishes : Def := { np := 4, n := 8, body :=
 (.seq (.expr (.call "check_alike" (.cons (.var 0) (.cons (.var 1) .nil))))
 (.seq (.asg 4 (.call "true_end" (.cons (.var 1) (.cons (.var 2) (.cons (.var 3) .nil)))))
 (.seq (.asg 5 (.call "seen_end" (.cons (.var 0) (.cons (.var 1) (.cons (.var 2) (.cons (.var 3) .nil))))))
 (.seq (.asg 6 (.lstm .nil))
 (.seq (.for_ (.one 7) (.itv (.attr (.var 0) "members")) (.seq (.ifs (.tand (.tE (.call "is_within" (.cons (.var 4) (.cons (.var 7) .nil)))) (.tnot (.tE (.call "is_within" (.cons (.var 5) (.cons (.var 7) .nil)))))) (.seq (.expr (.lm (.var 6) .append (.cons (.var 7) .nil)))
 .nil) .nil)
 (.seq (.kill [7])
 .nil)))
 (.seq (.ret (.bf .tuple (.cons (.var 6) .nil)))
 .nil)))))) }
/-- check_member: 0 glasses, 1 lot -/
def d_check_member : Def := { np := 2, n := 2, body :=
 (.seq (.expr (.call "check_lot" (.cons (.attr (.var 0) "stands") (.cons (.var 1) .nil))))
 (.seq (.ifs (.tE (.cmp .nin (.var 1) (.attr (.var 0) "members"))) (.seq (.raise "NoMember" .nil)
 .nil) .nil)
 (.seq (.ret (.var 1))
 .nil))) }
/-- _law_exact_runs: 0 _law_glasses, 1 _law_steps_here, 2 _law_programs, 3 _law_members_here, 4 _law_rows, 5 _law_lots, 6 _law_program_here, 7 _law_lot, 8 _law_due -/
def d__law_exact_runs : Def := { np := 6, n := 9, body :=
 (.seq (.ifs (.tE (.cmp .isn (.call "all_exact" (.cons (.var 0) (.cons (.var 1) .nil))) (.cst .non))) (.seq (.ret (.cst (.bl false)))
 .nil) .nil)
 (.seq (.for_ (.one 6) (.itv (.var 2)) (.seq (.ifs (.tE (.cmp .isn (.call "first_inexact" (.cons (.var 0) (.cons (.var 1) (.cons (.var 6) .nil)))) (.cst .non))) (.seq (.ret (.cst (.bl false)))
 .nil) .nil)
 (.seq (.for_ (.one 7) (.itv (.var 5)) (.seq (.asg 8 (.call "_law_rounded" (.cons (.var 3) (.cons (.call "_law_true" (.cons (.var 4) (.cons (.var 6) (.cons (.var 7) .nil)))) .nil))))
 (.seq (.ifs (.tnot (.tE (.call "_law_exact" (.cons (.call "seen_end" (.cons (.var 0) (.cons (.var 1) (.cons (.var 6) (.cons (.var 7) .nil))))) (.cons (.var 8) .nil))))) (.seq (.ret (.cst (.bl false)))
 .nil) .nil)
 (.seq (.ifs (.tnot (.tE (.call "_law_exact" (.cons (.call "exact_at" (.cons (.var 0) (.cons (.var 1) (.cons (.var 6) (.cons (.var 7) .nil))))) (.cons (.cst (.bl true)) .nil))))) (.seq (.ret (.cst (.bl false)))
 .nil) .nil)
 (.seq (.ifs (.tnot (.tE (.call "_law_exact" (.cons (.call "false_wishes" (.cons (.var 0) (.cons (.var 1) (.cons (.var 6) (.cons (.var 7) .nil))))) (.cons (.tup .nil) .nil))))) (.seq (.ret (.cst (.bl false)))
 .nil) .nil)
 (.seq (.kill [7, 8])
 .nil))))))
 (.seq (.kill [6, 7, 8])
 .nil))))
 (.seq (.ret (.cst (.bl true)))
 .nil))) }
/-- exactness_word: 0 glasses, 1 steps, 2 program, 3 lot, 4 here, 5 member, 6 there -/
def d_exactness_word : Def := { np := 4, n := 7, body :=
 (.seq (.ifs (.tE (.call "exact_at" (.cons (.var 0) (.cons (.var 1) (.cons (.var 2) (.cons (.var 3) .nil)))))) (.seq (.ret (.cst (.str "exact")))
 .nil) .nil)
 (.seq (.asg 4 (.meth (.var 0) "rounded" (.cons (.call "true_end" (.cons (.var 1) (.cons (.var 2) (.cons (.var 3) .nil)))) .nil)))
 (.seq (.asg 5 (.meth (.var 0) "rounded" (.cons (.var 3) .nil)))
 (.seq (.asg 6 (.meth (.var 0) "rounded" (.cons (.call "true_end" (.cons (.var 1) (.cons (.var 2) (.cons (.var 5) .nil)))) .nil)))
 (.seq (.ifs (.tE (.cmp .eq (.var 6) (.call "seen_end" (.cons (.var 0) (.cons (.var 1) (.cons (.var 2) (.cons (.var 5) .nil))))))) (.seq (.ret (.cst (.str "rounding")))
 .nil) .nil)
 (.seq (.ret (.ite (.tE (.cmp .eq (.var 4) (.var 6))) (.cst (.str "run")) (.cst (.str "both"))))
 .nil)))))) }
/-- _law_seen: 0 _law_members_here, 1 _law_rows, 2 _law_program_here, 3 _law_lot -/
def d__law_seen : Def := { np := 4, n := 4, body :=
 (.seq (.ret (.call "_law_look" (.cons (.var 0) (.cons (.var 1) (.cons (.var 2) (.cons (.call "_law_rounded" (.cons (.var 0) (.cons (.var 3) .nil))) (.cons (.tup .nil) (.cons (.lstm .nil) .nil))))))))
 .nil) }
/-- _law_inner: 0 _law_program_here, 1 _law_found, 2 _law_part -/
def d__law_inner : Def := { np := 1, n := 3, body :=
 (.seq (.asg 1 (.lst (.cons (.var 0) .nil)))
 (.seq (.for_ (.one 2) (.itv (.sl (.var 0) (.cst (.int 1)) .nil)) (.seq (.ifs (.tE (.isi (.var 2) .tuple)) (.seq (.asg 1 (.bin .add (.var 1) (.call "_law_inner" (.cons (.var 2) .nil))))
 .nil) .nil)
 (.seq (.kill [2])
 .nil)))
 (.seq (.ret (.var 1))
 .nil))) }
/-- _law_by_parts: 0 _law_glasses, 1 _law_steps_here, 2 _law_program_here, 3 _law_lot, 4 _law_word, 5 _law_middle -/
def d__law_by_parts : Def := { np := 4, n := 6, body :=
 (.seq (.asg 4 (.idx (.var 2) (.cst (.int 0))))
 (.seq (.ifs (.tE (.cmp .eq (.var 4) (.cst (.str "behind")))) (.seq (.asg 5 (.call "true_end" (.cons (.var 1) (.cons (.idx (.var 2) (.cst (.int 1))) (.cons (.var 3) .nil)))))
 (.seq (.ret (.and (.call "exact_at" (.cons (.var 0) (.cons (.var 1) (.cons (.idx (.var 2) (.cst (.int 1))) (.cons (.var 3) .nil))))) (.call "exact_at" (.cons (.var 0) (.cons (.var 1) (.cons (.idx (.var 2) (.cst (.int 2))) (.cons (.var 5) .nil)))))))
 .nil)) .nil)
 (.seq (.ifs (.tE (.cmp .eq (.var 4) (.cst (.str "either")))) (.seq (.ret (.and (.call "exact_at" (.cons (.var 0) (.cons (.var 1) (.cons (.idx (.var 2) (.cst (.int 1))) (.cons (.var 3) .nil))))) (.call "exact_at" (.cons (.var 0) (.cons (.var 1) (.cons (.idx (.var 2) (.cst (.int 2))) (.cons (.var 3) .nil)))))))
 .nil) .nil)
 (.seq (.ifs (.tE (.cmp .eq (.var 4) (.cst (.str "again")))) (.seq (.ret (.call "exact_at" (.cons (.var 0) (.cons (.var 1) (.cons (.idx (.var 2) (.cst (.int 1))) (.cons (.call "true_end" (.cons (.var 1) (.cons (.var 2) (.cons (.var 3) .nil)))) .nil))))))
 .nil) .nil)
 (.seq (.ret (.cmp .eq (.var 4) (.cst (.str "nothing"))))
 .nil))))) }
/-- _law_word_due: 0 _law_rounds_here, 1 _law_ends_here, 2 _law_seen_here, 3 _law_lot, 4 _law_high -/
def d__law_word_due : Def := { np := 4, n := 5, body :=
 (.seq (.asg 4 (.idx (.var 0) (.var 3)))
 (.seq (.ifs (.tE (.cmp .eq (.idx (.var 0) (.idx (.var 1) (.var 3))) (.didx (.var 2) (.var 4)))) (.seq (.ret (.cst (.str "exact")))
 .nil) .nil)
 (.seq (.ifs (.tE (.cmp .eq (.idx (.var 0) (.idx (.var 1) (.var 4))) (.didx (.var 2) (.var 4)))) (.seq (.ret (.cst (.str "rounding")))
 .nil) .nil)
 (.seq (.ret (.ite (.tE (.cmp .eq (.idx (.var 0) (.idx (.var 1) (.var 3))) (.idx (.var 0) (.idx (.var 1) (.var 4))))) (.cst (.str "run")) (.cst (.str "both"))))
 .nil)))) }
/-- _law_ends: 0 _law_rows, 1 _law_program_here, 2 _law_v, 3 _law_meaning, 4 _law_s, 5 _law_lot -/
def d__law_ends : Def := { np := 3, n := 6, body :=
 (.seq (.asg 3 (.comp false (.call "_law_true" (.cons (.var 0) (.cons (.var 1) (.cons (.bin .shl (.cst (.int 1)) (.var 4)) .nil)))) (.one 4) (.rng1 (.var 2)) (.cst (.bl true)) [4]))
 (.seq (.ret (.comp false (.call "_law_next" (.cons (.var 3) (.cons (.var 5) .nil))) (.one 5) (.rng1 (.bin .shl (.cst (.int 1)) (.var 2))) (.cst (.bl true)) [5]))
 .nil)) }
/-- _law_handed: 0 _law_hand_here, 1 _law_entries_here, 2 _law_found, 3 _law_name, 4 _law_row -/
def d__law_handed : Def := { np := 2, n := 5, body :=
 (.seq (.asg 2 (.lstm .nil))
 (.seq (.for_ (.many [3, 4]) (.itv (.var 1)) (.seq (.expr (.lm (.var 2) .append (.cons (.call "_law_list" (.cons (.var 0) (.cons (.lst (.cons (.var 3) (.cons (.call "_law_list" (.cons (.var 0) (.cons (.var 4) .nil))) .nil))) .nil))) .nil)))
 (.seq (.kill [3, 4])
 .nil)))
 (.seq (.ret (.call "_law_list" (.cons (.var 0) (.cons (.var 2) .nil))))
 .nil))) }
/-- _law_entries: 0 _law_hand_here, 1 _law_v, 2 _law_many, 3 _law_found, 4 _law_name -/
def d__law_entries12 : Def := { np := 3, n := 5, body :=
 (.seq (.asg 3 (.lstm .nil))
 (.seq (.for_ (.one 4) (.itv (.call "_law_names" (.cons (.var 0) (.cons (.var 2) .nil)))) (.seq (.expr (.lm (.var 3) .append (.cons (.tup (.cons (.var 4) (.cons (.call "_law_drawn_row" (.cons (.var 0) (.cons (.var 1) .nil))) .nil))) .nil)))
 (.seq (.kill [4])
 .nil)))
 (.seq (.ret (.frz (.var 3)))
 .nil))) }
/-- _law_world: 0 _law_hand_here, 1 _law_v, 2 _law_members_here, 3 _law_entries_here, 4 _law_leaves, 5 _law_program_here, 6 _law_name, 7 _law_row -/
def d__law_world12 : Def := { np := 1, n := 8, body :=
 (.seq (.asg 1 (.call "_law_stands" (.cons (.var 0) .nil)))
 (.seq (.asg 2 (.call "_law_members" (.cons (.var 0) (.cons (.var 1) .nil))))
 (.seq (.asg 3 (.call "_law_entries" (.cons (.var 0) (.cons (.var 1) (.cons (.bin .add (.cst (.int 1)) (.call "_law_take" (.cons (.var 0) (.cons (.cst (.int 4)) .nil)))) .nil)))))
 (.seq (.asg 4 (.bin .add (.cst (.int 1)) (.call "_law_take" (.cons (.var 0) (.cons (.ite (.tE (.cmp .lt (.var 1) (.cst (.int 5)))) (.cst (.int 6)) (.cst (.int 3))) .nil)))))
 (.seq (.asg 5 (.call "_law_program" (.cons (.var 0) (.cons (.comp false (.var 6) (.many [6, 7]) (.itv (.var 3)) (.cst (.bl true)) [6, 7]) (.cons (.var 4) (.cons (.ite (.tE (.cmp .lt (.var 1) (.cst (.int 5)))) (.cst (.int 2)) (.cst (.int 1))) .nil))))))
 (.seq (.ret (.tup (.cons (.var 1) (.cons (.var 2) (.cons (.var 3) (.cons (.var 5) .nil))))))
 .nil)))))) }
end Lb
/-! defs that laws share (printed by gen.py) -/
namespace Lb
open Mp
/-- _law_met: 0 _law_v, 1 _law_lots, 2 _law_found, 3 _law_lot, 4 _law_other -/
def d__law_met12 : Def := { np := 2, n := 5, body :=
 (.seq (.asg 2 (.lst (.cons (.call "_law_every" (.cons (.var 0) .nil)) .nil)))
 (.seq (.for_ (.one 3) (.itv (.var 1)) (.seq (.asg 2 (.sset (.bin .add (.var 2) (.comp false (.bin .band (.var 3) (.var 4)) (.one 4) (.itv (.var 2)) (.cst (.bl true)) [4]))))
 (.seq (.kill [3])
 .nil)))
 (.seq (.ret (.var 2))
 .nil))) }
/-- _law_small: 0 _law_hand_here, 1 _law_v, 2 _law_entries_here, 3 _law_names_here, 4 _law_name, 5 _law_row -/
def d__law_small : Def := { np := 2, n := 6, body :=
 (.seq (.asg 2 (.call "_law_entries" (.cons (.var 0) (.cons (.var 1) (.cons (.bin .add (.cst (.int 1)) (.call "_law_take" (.cons (.var 0) (.cons (.cst (.int 3)) .nil)))) .nil)))))
 (.seq (.asg 3 (.comp false (.var 4) (.many [4, 5]) (.itv (.var 2)) (.cst (.bl true)) [4, 5]))
 (.seq (.ifs (.tE (.cmp .gt (.var 1) (.cst (.int 4)))) (.seq (.ret (.lst (.cons (.var 2) (.cons (.call "_law_program" (.cons (.var 0) (.cons (.var 3) (.cons (.bin .add (.cst (.int 1)) (.call "_law_take" (.cons (.var 0) (.cons (.cst (.int 4)) .nil)))) (.cons (.cst (.int 1)) .nil))))) .nil))))
 .nil) .nil)
 (.seq (.ret (.lst (.cons (.var 2) (.cons (.call "_law_program" (.cons (.var 0) (.cons (.var 3) (.cons (.bin .add (.cst (.int 1)) (.call "_law_take" (.cons (.var 0) (.cons (.cst (.int 6)) .nil)))) (.cons (.cst (.int 2)) .nil))))) .nil))))
 .nil)))) }
/-- _law_glasses: 0 _law_hand_here, 1 _law_v, 2 _law_members_here -/
def d__law_glasses : Def := { np := 3, n := 3, body :=
 (.seq (.ret (.make "Glasses" (.cons (.var 1) (.cons (.call "_law_list" (.cons (.var 0) (.cons (.var 2) .nil))) .nil))))
 .nil) }
/-- _law_starts: 0 _law_members_here, 1 _law_rows, 2 _law_program_here, 3 _law_v, 4 _law_ends, 5 _law_member, 6 _law_found, 7 _law_start -/
def d__law_starts : Def := { np := 4, n := 8, body :=
 (.seq (.asg 4 .dnew)
 (.seq (.for_ (.one 5) (.itv (.var 0)) (.seq (.setD (.var 4) (.var 5) (.call "_law_look" (.cons (.var 0) (.cons (.var 1) (.cons (.var 2) (.cons (.var 5) (.cons (.tup .nil) (.cons (.lstm .nil) .nil))))))))
 (.seq (.kill [5])
 .nil)))
 (.seq (.asg 6 (.lstm .nil))
 (.seq (.for_ (.one 7) (.rng1 (.bin .shl (.cst (.int 1)) (.var 3))) (.seq (.ifs (.tE (.cmp .eq (.call "_law_rounded" (.cons (.var 0) (.cons (.call "_law_true" (.cons (.var 1) (.cons (.var 2) (.cons (.var 7) .nil)))) .nil))) (.didx (.var 4) (.call "_law_rounded" (.cons (.var 0) (.cons (.var 7) .nil)))))) (.seq (.expr (.lm (.var 6) .append (.cons (.var 7) .nil)))
 .nil) .nil)
 (.seq (.kill [7])
 .nil)))
 (.seq (.ret (.bf .tuple (.cons (.var 6) .nil)))
 .nil))))) }
/-- _law_world: 0 _law_hand_here, 1 _law_v, 2 _law_members_here, 3 _law_entries_here, 4 _law_program_here, 5 _law_k -/
def d__law_world32 : Def := { np := 2, n := 6, body :=
 (.seq (.par3 2 3 4 (.lst .nil) (.lst .nil) (.tup (.cons (.cst (.str "nothing")) .nil)))
 (.seq (.for_ (.one 5) (.rng1 (.cst (.int 3))) (.seq (.asg 2 (.call "_law_members" (.cons (.var 0) (.cons (.var 1) .nil))))
 (.seq (.unp [3, 4] (.call "_law_small" (.cons (.var 0) (.cons (.var 1) .nil))))
 (.seq (.ifs (.tor (.tE (.cmp .gt (.var 1) (.cst (.int 4)))) (.tE (.cmp .lt (.bf .len (.cons (.call "_law_starts" (.cons (.var 2) (.cons (.call "_law_rows_of" (.cons (.var 3) .nil)) (.cons (.var 4) (.cons (.var 1) .nil))))) .nil)) (.bin .shl (.cst (.int 1)) (.var 1))))) (.seq .brk
 .nil) .nil)
 (.seq (.kill [5])
 .nil)))))
 (.seq (.kill [5])
 (.seq (.ret (.lst (.cons (.var 2) (.cons (.var 3) (.cons (.var 4) .nil)))))
 .nil)))) }
end Lb
/-! defs that laws share (printed by gen.py) -/
namespace Lb
open Mp
/-- check_lots: 0 v, 1 lots, 2 every, 3 lot -/
def d_check_lots : Def := { np := 2, n := 4, body :=
 (.seq (.asg 2 (.call "all_stands" (.cons (.var 0) .nil)))
 (.seq (.ifs (.tor (.tnot (.tE (.call "is_sequence" (.cons (.var 1) .nil)))) (.tE (.cmp .gt (.bf .len (.cons (.var 1) .nil)) (.cst (.int 64))))) (.seq (.raise "BadLot" .nil)
 .nil) .nil)
 (.seq (.for_ (.one 3) (.itv (.var 1)) (.seq (.ifs (.tnot (.tE (.call "is_whole" (.cons (.var 3) (.cons (.cst (.int 0)) (.cons (.var 2) .nil)))))) (.seq (.raise "BadLot" .nil)
 .nil) .nil)
 (.seq (.kill [3])
 .nil)))
 (.seq (.ret (.bf .tuple (.cons (.var 1) .nil)))
 .nil)))) }
/-- start_within: 0 glasses, 1 steps, 2 program, 3 lot, 4 row, 5 goal -/
def d_start_within : Def := { np := 4, n := 6, body :=
 (.seq (.expr (.call "check_alike" (.cons (.var 0) (.cons (.var 1) .nil))))
 (.seq (.asg 4 (.call "meaning_row" (.cons (.var 1) (.cons (.var 2) .nil))))
 (.seq (.expr (.call "check_lot" (.cons (.attr (.var 0) "stands") (.cons (.var 3) .nil))))
 (.seq (.asg 5 (.meth (.var 0) "rounded" (.cons (.call "next_lot" (.cons (.var 4) (.cons (.var 3) .nil))) .nil)))
 (.seq (.ret (.bin .band (.meth (.var 0) "rounded" (.cons (.var 3) .nil)) (.call "back_lot" (.cons (.var 4) (.cons (.var 5) .nil)))))
 .nil))))) }
/-- closed_members: 0 members, 1 found, 2 lot, 3 elder -/
def d_closed_members : Def := { np := 1, n := 4, body :=
 (.seq (.asg 1 (.lstm .nil))
 (.seq (.for_ (.one 2) (.itv (.var 0)) (.seq (.for_ (.one 3) (.itv (.bf .list (.cons (.var 1) .nil))) (.seq (.ifs (.tE (.cmp .nin (.bin .band (.var 2) (.var 3)) (.var 1))) (.seq (.expr (.lm (.var 1) .append (.cons (.bin .band (.var 2) (.var 3)) .nil)))
 .nil) .nil)
 (.seq (.kill [3])
 .nil)))
 (.seq (.ifs (.tE (.cmp .nin (.var 2) (.var 1))) (.seq (.expr (.lm (.var 1) .append (.cons (.var 2) .nil)))
 .nil) .nil)
 (.seq (.kill [2, 3])
 .nil))))
 (.seq (.ret (.bf .tuple (.cons (.bf .sorted (.cons (.var 1) .nil)) .nil)))
 .nil))) }
/-- made_glasses: 0 v, 1 lots -/
def d_made_glasses : Def := { np := 2, n := 2, body :=
 (.seq (.asg 1 (.call "check_lots" (.cons (.var 0) (.cons (.var 1) .nil))))
 (.seq (.ret (.make "Glasses" (.cons (.var 0) (.cons (.call "closed_members" (.cons (.bin .add (.tup (.cons (.call "all_stands" (.cons (.var 0) .nil)) .nil)) (.var 1)) .nil)) .nil))))
 .nil)) }
/-- mended_glasses: 0 glasses, 1 lot -/
def d_mended_glasses : Def := { np := 2, n := 2, body :=
 (.seq (.expr (.call "check_lot" (.cons (.attr (.var 0) "stands") (.cons (.var 1) .nil))))
 (.seq (.ifs (.tE (.ohas false (.var 1) (.var 0))) (.seq (.ret (.call "made_glasses" (.cons (.attr (.var 0) "stands") (.cons (.attr (.var 0) "members") .nil))))
 .nil) .nil)
 (.seq (.ret (.call "made_glasses" (.cons (.attr (.var 0) "stands") (.cons (.bin .add (.attr (.var 0) "members") (.tup (.cons (.var 1) .nil))) .nil))))
 .nil))) }
/-- free_lots: 0 glasses, 1 lot -/
def d_free_lots : Def := { np := 1, n := 2, body :=
 (.seq (.ret (.comp false (.var 1) (.one 1) (.rng1 (.bin .add (.prop (.var 0) "every") (.cst (.int 1)))) (.tE (.ohas true (.var 1) (.var 0))) [1]))
 .nil) }
/-- is_mended: 0 glasses, 1 steps, 2 program, 3 lot, 4 truly -/
def d_is_mended : Def := { np := 5, n := 5, body :=
 (.seq (.ret (.cmp .eq (.meth (.var 0) "rounded" (.cons (.var 4) .nil)) (.call "seen_end" (.cons (.var 0) (.cons (.var 1) (.cons (.var 2) (.cons (.var 3) .nil)))))))
 .nil) }
/-- single_mends: 0 glasses, 1 steps, 2 program, 3 lot, 4 truly, 5 found, 6 added -/
def d_single_mends : Def := { np := 4, n := 7, body :=
 (.seq (.expr (.call "check_alike" (.cons (.var 0) (.cons (.var 1) .nil))))
 (.seq (.asg 4 (.call "true_end" (.cons (.var 1) (.cons (.var 2) (.cons (.var 3) .nil)))))
 (.seq (.ifs (.tE (.cmp .gt (.attr (.var 0) "stands") (.glo "MOST_SINGLE"))) (.seq (.raise "TooMany" (.cons (.glo "MOST_SINGLE") .nil))
 .nil) .nil)
 (.seq (.asg 5 (.lstm .nil))
 (.seq (.for_ (.one 6) (.itv (.call "free_lots" (.cons (.var 0) .nil))) (.seq (.ifs (.tE (.call "is_mended" (.cons (.call "mended_glasses" (.cons (.var 0) (.cons (.var 6) .nil))) (.cons (.var 1) (.cons (.var 2) (.cons (.var 3) (.cons (.var 4) .nil))))))) (.seq (.expr (.lm (.var 5) .append (.cons (.var 6) .nil)))
 .nil) .nil)
 (.seq (.kill [6])
 .nil)))
 (.seq (.ret (.bf .tuple (.cons (.var 5) .nil)))
 .nil)))))) }
/-- greatest_mends: 0 glasses, 1 steps, 2 program, 3 lot, 4 mends, 5 found, 6 one, 7 above, 8 other -/
def d_greatest_mends : Def := { np := 4, n := 9, body :=
 (.seq (.asg 4 (.call "single_mends" (.cons (.var 0) (.cons (.var 1) (.cons (.var 2) (.cons (.var 3) .nil))))))
 (.seq (.asg 5 (.lstm .nil))
 (.seq (.for_ (.one 6) (.itv (.var 4)) (.seq (.asg 7 (.comp false (.var 8) (.one 8) (.itv (.var 4)) (.tand (.tE (.cmp .ne (.var 8) (.var 6))) (.tE (.call "is_within" (.cons (.var 6) (.cons (.var 8) .nil))))) [8]))
 (.seq (.ifs (.tE (.cmp .eq (.bf .len (.cons (.var 7) .nil)) (.cst (.int 0)))) (.seq (.expr (.lm (.var 5) .append (.cons (.var 6) .nil)))
 .nil) .nil)
 (.seq (.kill [6, 7])
 .nil))))
 (.seq (.ret (.bf .tuple (.cons (.var 5) .nil)))
 .nil)))) }
/-- _law_exact_at: 0 _law_members_here, 1 _law_rows, 2 _law_program_here, 3 _law_lot -/
def d__law_exact_at : Def := { np := 4, n := 4, body :=
 (.seq (.ret (.cmp .eq (.call "_law_rounded" (.cons (.var 0) (.cons (.call "_law_true" (.cons (.var 1) (.cons (.var 2) (.cons (.var 3) .nil)))) .nil))) (.call "_law_seen" (.cons (.var 0) (.cons (.var 1) (.cons (.var 2) (.cons (.var 3) .nil)))))))
 .nil) }
/-- _law_singles: 0 _law_members_here, 1 _law_rows, 2 _law_program_here, 3 _law_lot, 4 _law_v, 5 _law_found, 6 _law_one -/
def d__law_singles : Def := { np := 5, n := 7, body :=
 (.seq (.asg 5 (.lstm .nil))
 (.seq (.for_ (.one 6) (.rng1 (.bin .shl (.cst (.int 1)) (.var 4))) (.seq (.ifs (.tand (.tE (.cmp .nin (.var 6) (.var 0))) (.tE (.call "_law_exact_at" (.cons (.call "_law_met" (.cons (.var 4) (.cons (.bin .add (.var 0) (.lst (.cons (.var 6) .nil))) .nil))) (.cons (.var 1) (.cons (.var 2) (.cons (.var 3) .nil))))))) (.seq (.expr (.lm (.var 5) .append (.cons (.var 6) .nil)))
 .nil) .nil)
 (.seq (.kill [6])
 .nil)))
 (.seq (.ret (.bf .tuple (.cons (.var 5) .nil)))
 .nil))) }
/-- fewest_added: 0 glasses, 1 steps, 2 program, 3 lot, 4 truly, 5 free, 6 one, 7 half, 8 other -/
def d_fewest_added : Def := { np := 4, n := 9, body :=
 (.seq (.expr (.call "check_alike" (.cons (.var 0) (.cons (.var 1) .nil))))
 (.seq (.asg 4 (.call "true_end" (.cons (.var 1) (.cons (.var 2) (.cons (.var 3) .nil)))))
 (.seq (.ifs (.tE (.cmp .gt (.attr (.var 0) "stands") (.glo "MOST_FEWEST"))) (.seq (.raise "TooMany" (.cons (.glo "MOST_FEWEST") .nil))
 .nil) .nil)
 (.seq (.ifs (.tE (.call "is_mended" (.cons (.var 0) (.cons (.var 1) (.cons (.var 2) (.cons (.var 3) (.cons (.var 4) .nil))))))) (.seq (.ret (.tup .nil))
 .nil) .nil)
 (.seq (.asg 5 (.call "free_lots" (.cons (.var 0) .nil)))
 (.seq (.for_ (.one 6) (.itv (.var 5)) (.seq (.ifs (.tE (.call "is_mended" (.cons (.call "mended_glasses" (.cons (.var 0) (.cons (.var 6) .nil))) (.cons (.var 1) (.cons (.var 2) (.cons (.var 3) (.cons (.var 4) .nil))))))) (.seq (.ret (.tup (.cons (.var 6) .nil)))
 .nil) .nil)
 (.seq (.kill [6])
 .nil)))
 (.seq (.for_ (.one 6) (.itv (.var 5)) (.seq (.asg 7 (.call "mended_glasses" (.cons (.var 0) (.cons (.var 6) .nil))))
 (.seq (.for_ (.one 8) (.itv (.var 5)) (.seq (.ifs (.tand (.tE (.cmp .gt (.var 8) (.var 6))) (.tE (.call "is_mended" (.cons (.call "mended_glasses" (.cons (.var 7) (.cons (.var 8) .nil))) (.cons (.var 1) (.cons (.var 2) (.cons (.var 3) (.cons (.var 4) .nil)))))))) (.seq (.ret (.tup (.cons (.var 6) (.cons (.var 8) .nil))))
 .nil) .nil)
 (.seq (.kill [8])
 .nil)))
 (.seq (.kill [6, 7, 8])
 .nil))))
 (.seq (.ret (.cst .non))
 .nil)))))))) }
/-- _law_mends: 0 _law_members_here, 1 _law_rows, 2 _law_program_here, 3 _law_lot, 4 _law_truly -/
def d__law_mends : Def := { np := 5, n := 5, body :=
 (.seq (.ret (.cmp .eq (.call "_law_rounded" (.cons (.var 0) (.cons (.var 4) .nil))) (.call "_law_seen" (.cons (.var 0) (.cons (.var 1) (.cons (.var 2) (.cons (.var 3) .nil)))))))
 .nil) }
/-- _law_fewest: 0 _law_members_here, 1 _law_rows, 2 _law_program_here, 3 _law_lot, 4 _law_v, 5 _law_truly, 6 _law_free, 7 _law_one, 8 _law_half, 9 _law_other -/
def d__law_fewest : Def := { np := 5, n := 10, body :=
 (.seq (.asg 5 (.call "_law_true" (.cons (.var 1) (.cons (.var 2) (.cons (.var 3) .nil)))))
 (.seq (.ifs (.tE (.call "_law_mends" (.cons (.var 0) (.cons (.var 1) (.cons (.var 2) (.cons (.var 3) (.cons (.var 5) .nil))))))) (.seq (.ret (.tup .nil))
 .nil) .nil)
 (.seq (.asg 6 (.comp false (.var 7) (.one 7) (.rng1 (.bin .shl (.cst (.int 1)) (.var 4))) (.tE (.cmp .nin (.var 7) (.var 0))) [7]))
 (.seq (.for_ (.one 7) (.itv (.var 6)) (.seq (.ifs (.tE (.call "_law_mends" (.cons (.call "_law_met" (.cons (.var 4) (.cons (.bin .add (.var 0) (.lst (.cons (.var 7) .nil))) .nil))) (.cons (.var 1) (.cons (.var 2) (.cons (.var 3) (.cons (.var 5) .nil))))))) (.seq (.ret (.tup (.cons (.var 7) .nil)))
 .nil) .nil)
 (.seq (.kill [7])
 .nil)))
 (.seq (.for_ (.one 7) (.itv (.var 6)) (.seq (.asg 8 (.call "_law_met" (.cons (.var 4) (.cons (.bin .add (.var 0) (.lst (.cons (.var 7) .nil))) .nil))))
 (.seq (.for_ (.one 9) (.itv (.var 6)) (.seq (.ifs (.tand (.tE (.cmp .gt (.var 9) (.var 7))) (.tE (.call "_law_mends" (.cons (.call "_law_met" (.cons (.var 4) (.cons (.bin .add (.var 8) (.lst (.cons (.var 9) .nil))) .nil))) (.cons (.var 1) (.cons (.var 2) (.cons (.var 3) (.cons (.var 5) .nil)))))))) (.seq (.ret (.tup (.cons (.var 7) (.cons (.var 9) .nil))))
 .nil) .nil)
 (.seq (.kill [9])
 .nil)))
 (.seq (.kill [7, 8, 9])
 .nil))))
 (.seq (.ret (.cst .non))
 .nil)))))) }
end Lb
/-! defs that laws share (printed by gen.py) -/
namespace Lb
open Mp
/-- Pair.__init__: 0 self, 1 first, 2 second -/
def d_Pairu_initu : Def := { np := 3, n := 3, body :=
 (.seq (.ifs (.tnot (.tE (.call "is_whole" (.cons (.var 1) (.cons (.cst (.int 2)) (.cons (.cst (.int 3)) .nil)))))) (.seq (.raise "BadPair" (.cons (.cst (.str "first")) .nil))
 .nil) .nil)
 (.seq (.ifs (.tnot (.tE (.call "is_whole" (.cons (.var 2) (.cons (.cst (.int 2)) (.cons (.cst (.int 3)) .nil)))))) (.seq (.raise "BadPair" (.cons (.cst (.str "second")) .nil))
 .nil) .nil)
 (.seq (.ifs (.tE (.cmp .gt (.bin .mul (.var 1) (.var 2)) (.cst (.int 6)))) (.seq (.raise "BadPair" (.cons (.cst (.str "both")) .nil))
 .nil) .nil)
 (.seq (.setA (.var 0) "first" (.var 1))
 (.seq (.setA (.var 0) "second" (.var 2))
 (.seq (.setA (.var 0) "stands" (.bin .mul (.var 1) (.var 2)))
 .nil)))))) }
/-- check_side: 0 which -/
def d_check_side : Def := { np := 1, n := 1, body :=
 (.seq (.ifs (.tnot (.tE (.call "is_whole" (.cons (.var 0) (.cons (.cst (.int 0)) (.cons (.cst (.int 1)) .nil)))))) (.seq (.raise "BadSide" .nil)
 .nil) .nil)
 (.seq (.ret (.var 0))
 .nil)) }
/-- side_sharp: 0 one, 1 other, 2 which, 3 row, 4 own, 5 beside, 6 checked, 7 nowhere, 8 backs, 9 member, 10 lost, 11 back -/
def d_side_sharp : Def := { np := 4, n := 12, body :=
 (.seq (.expr (.make "Pair" (.cons (.attr (.var 0) "stands") (.cons (.attr (.var 1) "stands") .nil))))
 (.seq (.expr (.call "check_side" (.cons (.var 2) .nil)))
 (.seq (.asg 4 (.ite (.tE (.cmp .eq (.var 2) (.cst (.int 0)))) (.var 0) (.var 1)))
 (.seq (.asg 5 (.ite (.tE (.cmp .eq (.var 2) (.cst (.int 0)))) (.var 1) (.var 0)))
 (.seq (.asg 6 (.call "check_row" (.cons (.attr (.var 4) "stands") (.cons (.var 3) .nil))))
 (.seq (.asg 7 (.call "back_lot" (.cons (.var 6) (.cons (.cst (.int 0)) .nil))))
 (.seq (.ifs (.tE (.cmp .eq (.var 7) (.prop (.var 4) "every"))) (.seq (.ret (.cst (.bl true)))
 .nil) .nil)
 (.seq (.asg 8 (.comp false (.call "back_lot" (.cons (.var 6) (.cons (.var 9) .nil))) (.one 9) (.itv (.attr (.var 4) "members")) (.tE (.cmp .ne (.var 9) (.cst (.int 0)))) [9]))
 (.seq (.asg 10 (.comp false (.var 11) (.one 11) (.itv (.var 8)) (.tE (.ohas true (.var 11) (.var 4))) [11]))
 (.seq (.ifs (.tE (.cmp .eq (.var 7) (.cst (.int 0)))) (.seq (.ret (.cmp .eq (.comp false (.var 11) (.one 11) (.itv (.var 10)) (.tor (.tE (.cmp .ne (.var 11) (.cst (.int 0)))) (.tE (.ohas true (.cst (.int 0)) (.var 5)))) [11]) (.lst .nil)))
 .nil) .nil)
 (.seq (.ifs (.tE (.cmp .ne (.comp false (.var 9) (.one 9) (.itv (.attr (.var 5) "members")) (.tE (.cmp .nin (.var 9) (.tup (.cons (.cst (.int 0)) (.cons (.prop (.var 5) "every") .nil))))) [9]) (.lst .nil))) (.seq (.ret (.cst (.bl false)))
 .nil) .nil)
 (.seq (.ifs (.tand (.tor (.tE (.ohas false (.cst (.int 0)) (.var 4))) (.tE (.ohas false (.cst (.int 0)) (.var 5)))) (.tE (.ohas true (.var 7) (.var 4)))) (.seq (.ret (.cst (.bl false)))
 .nil) .nil)
 (.seq (.ret (.cmp .eq (.var 10) (.lst .nil)))
 .nil))))))))))))) }
/-- _law_pair: 0 _law_hand_here -/
def d__law_pair : Def := { np := 1, n := 1, body :=
 (.seq (.ret (.idx (.tup (.cons (.tup (.cons (.cst (.int 2)) (.cons (.cst (.int 2)) .nil))) (.cons (.tup (.cons (.cst (.int 2)) (.cons (.cst (.int 3)) .nil))) (.cons (.tup (.cons (.cst (.int 3)) (.cons (.cst (.int 2)) .nil))) .nil)))) (.call "_law_take" (.cons (.var 0) (.cons (.cst (.int 3)) .nil)))))
 .nil) }
/-- _law_box: 0 _law_n, 1 _law_m, 2 _law_one, 3 _law_other, 4 _law_found, 5 _law_x, 6 _law_y -/
def d__law_box : Def := { np := 4, n := 7, body :=
 (.seq (.asg 4 (.cst (.int 0)))
 (.seq (.for_ (.one 5) (.rng1 (.var 0)) (.seq (.for_ (.one 6) (.rng1 (.var 1)) (.seq (.ifs (.tand (.tE (.cmp .eq (.bin .mod (.bf .int (.cons (.bin .shr (.var 2) (.var 5)) .nil)) (.cst (.int 2))) (.cst (.int 1)))) (.tE (.cmp .eq (.bin .mod (.bf .int (.cons (.bin .shr (.var 3) (.var 6)) .nil)) (.cst (.int 2))) (.cst (.int 1))))) (.seq (.asg 4 (.bin .bor (.var 4) (.bin .shl (.cst (.int 1)) (.bin .add (.bin .mul (.var 5) (.var 1)) (.var 6)))))
 .nil) .nil)
 (.seq (.kill [6])
 .nil)))
 (.seq (.kill [5, 6])
 .nil)))
 (.seq (.ret (.var 4))
 .nil))) }
/-- _law_beside: 0 _law_n, 1 _law_m, 2 _law_which, 3 _law_table, 4 _law_found, 5 _law_x, 6 _law_y, 7 _law_lot -/
def d__law_beside : Def := { np := 4, n := 8, body :=
 (.seq (.asg 4 (.lstm .nil))
 (.seq (.for_ (.one 5) (.rng1 (.var 0)) (.seq (.for_ (.one 6) (.rng1 (.var 1)) (.seq (.asg 7 (.idx (.var 3) (.bin .add (.bin .mul (.var 5) (.var 1)) (.var 6))))
 (.seq (.expr (.lm (.var 4) .append (.cons (.ite (.tE (.var 2)) (.call "_law_box" (.cons (.var 0) (.cons (.var 1) (.cons (.bin .shl (.cst (.int 1)) (.var 5)) (.cons (.var 7) .nil))))) (.call "_law_box" (.cons (.var 0) (.cons (.var 1) (.cons (.var 7) (.cons (.bin .shl (.cst (.int 1)) (.var 6)) .nil)))))) .nil)))
 (.seq (.kill [6, 7])
 .nil))))
 (.seq (.kill [5, 6, 7])
 .nil)))
 (.seq (.ret (.frz (.var 4)))
 .nil))) }
/-- _law_side: 0 _law_n, 1 _law_m, 2 _law_which, 3 _law_row, 4 _law_table, 5 _law_x, 6 _law_y -/
def d__law_side : Def := { np := 4, n := 7, body :=
 (.seq (.asg 4 (.lst .nil))
 (.seq (.for_ (.one 5) (.rng1 (.var 0)) (.seq (.asg 4 (.bin .add (.var 4) (.comp false (.idx (.var 3) (.ite (.tE (.var 2)) (.var 6) (.var 5))) (.one 6) (.rng1 (.var 1)) (.cst (.bl true)) [6])))
 (.seq (.kill [5])
 .nil)))
 (.seq (.ret (.call "_law_beside" (.cons (.var 0) (.cons (.var 1) (.cons (.var 2) (.cons (.var 4) .nil))))))
 .nil))) }
/-- _law_apart: 0 _law_n, 1 _law_m, 2 _law_ones, 3 _law_others, 4 _law_found, 5 _law_one, 6 _law_other -/
def d__law_apart : Def := { np := 4, n := 7, body :=
 (.seq (.asg 4 (.lst .nil))
 (.seq (.for_ (.one 5) (.itv (.var 2)) (.seq (.asg 4 (.bin .add (.var 4) (.comp false (.call "_law_box" (.cons (.var 0) (.cons (.var 1) (.cons (.var 5) (.cons (.var 6) .nil))))) (.one 6) (.itv (.var 3)) (.cst (.bl true)) [6])))
 (.seq (.kill [5])
 .nil)))
 (.seq (.ret (.sset (.var 4)))
 .nil))) }
/-- _law_rows: 0 _law_hand_here, 1 _law_many, 2 _law_k, 3 _law_found, 4 _law_s -/
def d__law_rows : Def := { np := 2, n := 5, body :=
 (.seq (.ifs (.tE (.cmp .eq (.var 1) (.cst (.int 2)))) (.seq (.ret (.comp false (.lst (.cons (.bin .fdiv (.var 2) (.cst (.int 4))) (.cons (.bin .sub (.var 2) (.bin .mul (.cst (.int 4)) (.bin .fdiv (.var 2) (.cst (.int 4))))) .nil))) (.one 2) (.rng1 (.cst (.int 16))) (.cst (.bl true)) [2]))
 .nil) .nil)
 (.seq (.asg 3 (.lstm (.cons (.lst (.cons (.cst (.int 0)) (.cons (.cst (.int 0)) (.cons (.cst (.int 0)) .nil)))) (.cons (.call "_law_single" (.cons (.var 0) (.cons (.var 1) .nil))) .nil))))
 (.seq (.for_ (.one 2) (.rng1 (.cst (.int 3))) (.seq (.expr (.lm (.var 3) .append (.cons (.comp false (.bin .add (.cst (.int 1)) (.call "_law_take" (.cons (.var 0) (.cons (.cst (.int 7)) .nil)))) (.one 4) (.rng1 (.var 1)) (.cst (.bl true)) [4]) .nil)))
 (.seq (.kill [2])
 .nil)))
 (.seq (.for_ (.one 2) (.rng1 (.cst (.int 3))) (.seq (.expr (.lm (.var 3) .append (.cons (.call "_law_drawn_row" (.cons (.var 0) (.cons (.var 1) .nil))) .nil)))
 (.seq (.kill [2])
 .nil)))
 (.seq (.ret (.frz (.var 3)))
 .nil))))) }
/-- _law_is_sharp: 0 _law_members_here, 1 _law_row, 2 _law_member -/
def d__law_is_sharp : Def := { np := 2, n := 3, body :=
 (.seq (.ret (.cmp .eq (.comp false (.var 2) (.one 2) (.itv (.var 0)) (.tE (.cmp .nin (.call "_law_back" (.cons (.var 1) (.cons (.var 2) .nil))) (.var 0))) [2]) (.lst .nil)))
 .nil) }
/-- _law_first_blurred: 0 _law_members_here, 1 _law_row, 2 _law_lot, 3 _law_after -/
def d__law_first_blurred : Def := { np := 2, n := 4, body :=
 (.seq (.for_ (.one 2) (.rng1 (.bin .add (.idx (.var 0) (.un .neg (.cst (.int 1)))) (.cst (.int 1)))) (.seq (.asg 3 (.call "_law_rounded" (.cons (.var 0) (.cons (.call "_law_next" (.cons (.var 1) (.cons (.var 2) .nil))) .nil))))
 (.seq (.ifs (.tE (.cmp .ne (.var 3) (.call "_law_rounded" (.cons (.var 0) (.cons (.call "_law_next" (.cons (.var 1) (.cons (.call "_law_rounded" (.cons (.var 0) (.cons (.var 2) .nil))) .nil))) .nil))))) (.seq (.ret (.var 2))
 .nil) .nil)
 (.seq (.kill [2, 3])
 .nil))))
 (.seq (.ret (.cst .non))
 .nil)) }
end Lb
/-! defs that laws share (printed by gen.py) -/
namespace Lb
open Mp
/-- side_stands: 0 pair, 1 which -/
def d_side_stands : Def := { np := 2, n := 2, body :=
 (.seq (.ret (.ite (.tE (.cmp .eq (.var 1) (.cst (.int 0)))) (.attr (.var 0) "first") (.attr (.var 0) "second")))
 .nil) }
/-- box_of: 0 pair, 1 one, 2 other, 3 found, 4 stand, 5 x, 6 y -/
def d_box_of : Def := { np := 3, n := 7, body :=
 (.seq (.expr (.call "check_lot" (.cons (.attr (.var 0) "first") (.cons (.var 1) .nil))))
 (.seq (.expr (.call "check_lot" (.cons (.attr (.var 0) "second") (.cons (.var 2) .nil))))
 (.seq (.asg 3 (.cst (.int 0)))
 (.seq (.for_ (.one 4) (.rng1 (.attr (.var 0) "stands")) (.seq (.unp [5, 6] (.bf .divmod (.cons (.var 4) (.cons (.attr (.var 0) "second") .nil))))
 (.seq (.ifs (.tand (.tE (.cmp .eq (.bin .band (.bin .shr (.var 1) (.var 5)) (.cst (.int 1))) (.cst (.int 1)))) (.tE (.cmp .eq (.bin .band (.bin .shr (.var 2) (.var 6)) (.cst (.int 1))) (.cst (.int 1))))) (.seq (.asg 3 (.bin .bor (.var 3) (.bin .shl (.cst (.int 1)) (.var 4))))
 .nil) .nil)
 (.seq (.kill [4, 5, 6])
 .nil))))
 (.seq (.ret (.var 3))
 .nil))))) }
/-- changed_row: 0 pair, 1 which, 2 table, 3 found, 4 stand, 5 lot, 6 x, 7 y -/
def d_changed_row : Def := { np := 3, n := 8, body :=
 (.seq (.asg 3 (.lstm .nil))
 (.seq (.for_ (.many [4, 5]) (.enum (.var 2)) (.seq (.unp [6, 7] (.bf .divmod (.cons (.var 4) (.cons (.attr (.var 0) "second") .nil))))
 (.seq (.ifs (.tE (.cmp .eq (.var 1) (.cst (.int 0)))) (.seq (.expr (.lm (.var 3) .append (.cons (.call "box_of" (.cons (.var 0) (.cons (.var 5) (.cons (.bin .shl (.cst (.int 1)) (.var 7)) .nil)))) .nil)))
 .nil) (.seq (.expr (.lm (.var 3) .append (.cons (.call "box_of" (.cons (.var 0) (.cons (.bin .shl (.cst (.int 1)) (.var 6)) (.cons (.var 5) .nil)))) .nil)))
 .nil))
 (.seq (.kill [4, 5, 6, 7])
 .nil))))
 (.seq (.ret (.bf .tuple (.cons (.var 3) .nil)))
 .nil))) }
/-- side_row: 0 pair, 1 which, 2 row, 3 own, 4 stand -/
def d_side_row : Def := { np := 3, n := 5, body :=
 (.seq (.expr (.call "check_side" (.cons (.var 1) .nil)))
 (.seq (.asg 3 (.call "check_row" (.cons (.call "side_stands" (.cons (.var 0) (.cons (.var 1) .nil))) (.cons (.var 2) .nil))))
 (.seq (.ret (.call "changed_row" (.cons (.var 0) (.cons (.var 1) (.cons (.comp false (.idx (.var 3) (.idx (.bf .divmod (.cons (.var 4) (.cons (.attr (.var 0) "second") .nil))) (.var 1))) (.one 4) (.rng1 (.attr (.var 0) "stands")) (.cst (.bl true)) [4]) .nil)))))
 .nil))) }
/-- side_steps: 0 pair, 1 one, 2 other, 3 entries, 4 name, 5 row, 6 more -/
def d_side_steps : Def := { np := 3, n := 7, body :=
 (.seq (.ifs (.tor (.tE (.cmp .ne (.attr (.var 1) "stands") (.attr (.var 0) "first"))) (.tE (.cmp .ne (.attr (.var 2) "stands") (.attr (.var 0) "second")))) (.seq (.raise "UnlikeStands" .nil)
 .nil) .nil)
 (.seq (.asg 3 (.comp false (.tup (.cons (.var 4) (.cons (.call "side_row" (.cons (.var 0) (.cons (.cst (.int 0)) (.cons (.var 5) .nil)))) .nil))) (.many [4, 5]) (.zip (.attr (.var 1) "names") (.attr (.var 1) "rows")) (.cst (.bl true)) [4, 5]))
 (.seq (.asg 6 (.comp false (.tup (.cons (.var 4) (.cons (.call "side_row" (.cons (.var 0) (.cons (.cst (.int 1)) (.cons (.var 5) .nil)))) .nil))) (.many [4, 5]) (.zip (.attr (.var 2) "names") (.attr (.var 2) "rows")) (.cst (.bl true)) [4, 5]))
 (.seq (.ret (.make "Steps" (.cons (.attr (.var 0) "stands") (.cons (.bin .add (.var 3) (.var 6)) .nil))))
 .nil)))) }
/-- keep_names: 0 program, 1 names, 2 inner -/
def d_keep_names : Def := { np := 2, n := 3, body :=
 (.seq (.ifs (.tE (.cmp .eq (.idx (.var 0) (.cst (.int 0))) (.cst (.str "nothing")))) (.seq (.ret (.var 0))
 .nil) .nil)
 (.seq (.ifs (.tE (.cmp .eq (.idx (.var 0) (.cst (.int 0))) (.cst (.str "step")))) (.seq (.ret (.ite (.tE (.cmp .isin (.idx (.var 0) (.cst (.int 1))) (.var 1))) (.var 0) (.tup (.cons (.cst (.str "nothing")) .nil))))
 .nil) .nil)
 (.seq (.ret (.bin .add (.tup (.cons (.idx (.var 0) (.cst (.int 0))) .nil)) (.bf .tuple (.cons (.comp false (.call "keep_names" (.cons (.var 2) (.cons (.var 1) .nil))) (.one 2) (.itv (.sl (.var 0) (.cst (.int 1)) .nil)) (.cst (.bl true)) [2]) .nil))))
 .nil))) }
/-- shadow_program: 0 steps, 1 program, 2 kept -/
def d_shadow_program : Def := { np := 3, n := 3, body :=
 (.seq (.expr (.call "check_program" (.cons (.var 0) (.cons (.var 1) .nil))))
 (.seq (.ret (.call "keep_names" (.cons (.var 1) (.cons (.attr (.var 2) "names") .nil))))
 .nil)) }
/-- apart_glasses: 0 one, 1 other, 2 pair, 3 boxes, 4 left, 5 right -/
def d_apart_glasses : Def := { np := 2, n := 6, body :=
 (.seq (.asg 2 (.make "Pair" (.cons (.attr (.var 0) "stands") (.cons (.attr (.var 1) "stands") .nil))))
 (.seq (.asg 3 (.x (.comp2 false (.call "box_of" (.cons (.var 2) (.cons (.var 4) (.cons (.var 5) .nil)))) (.one 4) (.itv (.attr (.var 0) "members")) (.cst (.bl true)) (.one 5) (.itv (.attr (.var 1) "members")) (.cst (.bl true)) [4, 5] [5])))
 (.seq (.ret (.make "Glasses" (.cons (.attr (.var 2) "stands") (.cons (.sset (.var 3)) .nil))))
 .nil))) }
/-- project_lot: 0 pair, 1 lot, 2 which, 3 found, 4 stand, 5 both -/
def d_project_lot : Def := { np := 3, n := 6, body :=
 (.seq (.expr (.call "check_lot" (.cons (.attr (.var 0) "stands") (.cons (.var 1) .nil))))
 (.seq (.expr (.call "check_side" (.cons (.var 2) .nil)))
 (.seq (.asg 3 (.cst (.int 0)))
 (.seq (.for_ (.one 4) (.rng1 (.attr (.var 0) "stands")) (.seq (.ifs (.tE (.cmp .eq (.bin .band (.bin .shr (.var 1) (.var 4)) (.cst (.int 1))) (.cst (.int 1)))) (.seq (.asg 5 (.bf .divmod (.cons (.var 4) (.cons (.attr (.var 0) "second") .nil))))
 (.seq (.asg 3 (.bin .bor (.var 3) (.bin .shl (.cst (.int 1)) (.idx (.var 5) (.var 2)))))
 .nil)) .nil)
 (.seq (.kill [4, 5])
 .nil)))
 (.seq (.ret (.var 3))
 .nil))))) }
/-- _law_shadow: 0 _law_program_here, 1 _law_names_here, 2 _law_inner -/
def d__law_shadow : Def := { np := 2, n := 3, body :=
 (.seq (.ifs (.tE (.cmp .eq (.idx (.var 0) (.cst (.int 0))) (.cst (.str "step")))) (.seq (.ret (.ite (.tE (.cmp .isin (.idx (.var 0) (.cst (.int 1))) (.var 1))) (.var 0) (.tup (.cons (.cst (.str "nothing")) .nil))))
 .nil) .nil)
 (.seq (.ifs (.tE (.cmp .eq (.idx (.var 0) (.cst (.int 0))) (.cst (.str "nothing")))) (.seq (.ret (.var 0))
 .nil) .nil)
 (.seq (.ret (.bin .add (.tup (.cons (.idx (.var 0) (.cst (.int 0))) .nil)) (.bf .tuple (.cons (.comp false (.call "_law_shadow" (.cons (.var 2) (.cons (.var 1) .nil))) (.one 2) (.itv (.sl (.var 0) (.cst (.int 1)) .nil)) (.cst (.bl true)) [2]) .nil))))
 .nil))) }
/-- _law_part: 0 _law_n, 1 _law_m, 2 _law_lot, 3 _law_which, 4 _law_found, 5 _law_x, 6 _law_y -/
def d__law_part : Def := { np := 4, n := 7, body :=
 (.seq (.asg 4 (.cst (.int 0)))
 (.seq (.for_ (.one 5) (.rng1 (.var 0)) (.seq (.for_ (.one 6) (.rng1 (.var 1)) (.seq (.ifs (.tE (.cmp .eq (.bin .mod (.bf .int (.cons (.bin .shr (.var 2) (.bin .add (.bin .mul (.var 5) (.var 1)) (.var 6))) .nil)) (.cst (.int 2))) (.cst (.int 1)))) (.seq (.asg 4 (.bin .bor (.var 4) (.bin .shl (.cst (.int 1)) (.ite (.tE (.var 3)) (.var 6) (.var 5)))))
 .nil) .nil)
 (.seq (.kill [6])
 .nil)))
 (.seq (.kill [5, 6])
 .nil)))
 (.seq (.ret (.var 4))
 .nil))) }
/-- _law_going: 0 _law_hand_here, 1 _law_v, 2 _law_many, 3 _law_found, 4 _law_k, 5 _law_way, 6 _law_s -/
def d__law_going : Def := { np := 3, n := 7, body :=
 (.seq (.asg 3 (.lstm .nil))
 (.seq (.for_ (.one 4) (.rng1 (.var 2)) (.seq (.asg 5 (.call "_law_take" (.cons (.var 0) (.cons (.cst (.int 3)) .nil))))
 (.seq (.ifs (.tE (.cmp .eq (.var 5) (.cst (.int 0)))) (.seq (.expr (.lm (.var 3) .append (.cons (.call "_law_single" (.cons (.var 0) (.cons (.var 1) .nil))) .nil)))
 .nil) (.seq (.expr (.lm (.var 3) .append (.cons (.comp false (.bin .add (.cst (.int 1)) (.call "_law_take" (.cons (.var 0) (.cons (.bin .sub (.bin .shl (.cst (.int 1)) (.var 1)) (.cst (.int 1))) .nil)))) (.one 6) (.rng1 (.var 1)) (.cst (.bl true)) [6]) .nil)))
 .nil))
 (.seq (.kill [4, 5])
 .nil))))
 (.seq (.ret (.frz (.var 3)))
 .nil))) }
/-- _law_two: 0 _law_hand_here, 1 _law_n, 2 _law_m, 3 _law_going_here, 4 _law_names_here, 5 _law_left, 6 _law_k, 7 _law_right, 8 _law_many, 9 _law_ones -/
def d__law_two : Def := { np := 4, n := 10, body :=
 (.seq (.asg 4 (.call "_law_names" (.cons (.var 0) (.cons (.cst (.int 4)) .nil))))
 (.seq (.asg 5 (.ite (.tE (.var 3)) (.call "_law_going" (.cons (.var 0) (.cons (.var 1) (.cons (.cst (.int 2)) .nil)))) (.comp false (.call "_law_drawn_row" (.cons (.var 0) (.cons (.var 1) .nil))) (.one 6) (.rng1 (.cst (.int 2))) (.cst (.bl true)) [6])))
 (.seq (.asg 7 (.ite (.tE (.var 3)) (.call "_law_going" (.cons (.var 0) (.cons (.var 2) (.cons (.cst (.int 2)) .nil)))) (.comp false (.call "_law_drawn_row" (.cons (.var 0) (.cons (.var 2) .nil))) (.one 6) (.rng1 (.cst (.int 2))) (.cst (.bl true)) [6])))
 (.seq (.asg 8 (.bin .add (.cst (.int 1)) (.call "_law_take" (.cons (.var 0) (.cons (.cst (.int 2)) .nil)))))
 (.seq (.asg 9 (.comp false (.tup (.cons (.idx (.var 4) (.var 6)) (.cons (.idx (.var 5) (.var 6)) .nil))) (.one 6) (.rng1 (.var 8)) (.cst (.bl true)) [6]))
 (.seq (.ret (.tup (.cons (.var 9) (.cons (.comp false (.tup (.cons (.idx (.var 4) (.bin .add (.cst (.int 2)) (.var 6))) (.cons (.idx (.var 7) (.var 6)) .nil))) (.one 6) (.rng1 (.bin .add (.cst (.int 1)) (.call "_law_take" (.cons (.var 0) (.cons (.cst (.int 2)) .nil))))) (.cst (.bl true)) [6]) .nil))))
 .nil)))))) }
/-- _law_put: 0 _law_n, 1 _law_m, 2 _law_ones, 3 _law_others, 4 _law_found, 5 _law_name, 6 _law_row -/
def d__law_put : Def := { np := 4, n := 7, body :=
 (.seq (.asg 4 (.comp false (.tup (.cons (.var 5) (.cons (.call "_law_side" (.cons (.var 0) (.cons (.var 1) (.cons (.cst (.int 0)) (.cons (.var 6) .nil))))) .nil))) (.many [5, 6]) (.itv (.var 2)) (.cst (.bl true)) [5, 6]))
 (.seq (.ret (.bin .add (.var 4) (.comp false (.tup (.cons (.var 5) (.cons (.call "_law_side" (.cons (.var 0) (.cons (.var 1) (.cons (.cst (.int 1)) (.cons (.var 6) .nil))))) .nil))) (.many [5, 6]) (.itv (.var 3)) (.cst (.bl true)) [5, 6])))
 .nil)) }
end Lb
/-! defs that laws share (printed by gen.py) -/
namespace Lb
open Mp
/-- _law_all_glasses: 0 _law_v, 1 _law_every_here, 2 _law_found, 3 _law_mask, 4 _law_members, 5 _law_lot -/
def d__law_all_glasses : Def := { np := 1, n := 6, body :=
 (.seq (.asg 1 (.call "_law_every" (.cons (.var 0) .nil)))
 (.seq (.asg 2 (.lstm .nil))
 (.seq (.for_ (.one 3) (.rng1 (.bin .shl (.cst (.int 1)) (.var 1))) (.seq (.asg 4 (.bin .add (.comp false (.var 5) (.one 5) (.rng1 (.var 1)) (.tE (.cmp .eq (.bin .mod (.bf .int (.cons (.bin .shr (.var 3) (.var 5)) .nil)) (.cst (.int 2))) (.cst (.int 1)))) [5]) (.lst (.cons (.var 1) .nil))))
 (.seq (.ifs (.tE (.cmp .eq (.bf .len (.cons (.call "_law_met" (.cons (.var 0) (.cons (.var 4) .nil))) .nil)) (.bf .len (.cons (.var 4) .nil)))) (.seq (.expr (.lm (.var 2) .append (.cons (.var 4) .nil)))
 .nil) .nil)
 (.seq (.kill [3, 4])
 .nil))))
 (.seq (.ret (.bf .sorted (.cons (.var 2) .nil)))
 .nil)))) }
/-- is_finer: 0 one, 1 other, 2 member -/
def d_is_finer : Def := { np := 2, n := 3, body :=
 (.seq (.expr (.call "check_alike" (.cons (.var 0) (.cons (.var 1) .nil))))
 (.seq (.ret (.cmp .eq (.comp false (.var 2) (.one 2) (.itv (.attr (.var 1) "members")) (.tE (.ohas true (.var 2) (.var 0))) [2]) (.lst .nil)))
 .nil)) }
/-- boxed_lot: 0 pair, 1 lot -/
def d_boxed_lot : Def := { np := 2, n := 2, body :=
 (.seq (.ret (.call "box_of" (.cons (.var 0) (.cons (.call "project_lot" (.cons (.var 0) (.cons (.var 1) (.cons (.cst (.int 0)) .nil)))) (.cons (.call "project_lot" (.cons (.var 0) (.cons (.var 1) (.cons (.cst (.int 1)) .nil)))) .nil)))))
 .nil) }
/-- is_box: 0 pair, 1 lot -/
def d_is_box : Def := { np := 2, n := 2, body :=
 (.seq (.ret (.cmp .eq (.call "boxed_lot" (.cons (.var 0) (.cons (.var 1) .nil))) (.var 1)))
 .nil) }
/-- related_lots: 0 pair, 1 glasses, 2 member -/
def d_related_lots : Def := { np := 2, n := 3, body :=
 (.seq (.expr (.call "check_alike" (.cons (.var 0) (.cons (.var 1) .nil))))
 (.seq (.ret (.bf .tuple (.cons (.comp false (.var 2) (.one 2) (.itv (.attr (.var 1) "members")) (.tnot (.tE (.call "is_box" (.cons (.var 0) (.cons (.var 2) .nil))))) [2]) .nil)))
 .nil)) }
/-- finest_apart: 0 pair, 1 glasses, 2 first, 3 second, 4 ones, 5 lot, 6 others -/
def d_finest_apart : Def := { np := 2, n := 7, body :=
 (.seq (.expr (.call "check_alike" (.cons (.var 0) (.cons (.var 1) .nil))))
 (.seq (.asg 2 (.call "all_stands" (.cons (.attr (.var 0) "first") .nil)))
 (.seq (.asg 3 (.call "all_stands" (.cons (.attr (.var 0) "second") .nil)))
 (.seq (.asg 4 (.comp false (.var 5) (.one 5) (.rng1 (.bin .add (.var 2) (.cst (.int 1)))) (.tE (.ohas false (.call "box_of" (.cons (.var 0) (.cons (.var 5) (.cons (.var 3) .nil)))) (.var 1))) [5]))
 (.seq (.asg 6 (.comp false (.var 5) (.one 5) (.rng1 (.bin .add (.var 3) (.cst (.int 1)))) (.tE (.ohas false (.call "box_of" (.cons (.var 0) (.cons (.var 2) (.cons (.var 5) .nil)))) (.var 1))) [5]))
 (.seq (.ret (.tup (.cons (.make "Glasses" (.cons (.attr (.var 0) "first") (.cons (.var 4) .nil))) (.cons (.make "Glasses" (.cons (.attr (.var 0) "second") (.cons (.var 6) .nil))) .nil))))
 .nil)))))) }
/-- _law_couples: 0 _law_hand_here, 1 _law_n, 2 _law_m, 3 _law_found, 4 _law_rights, 5 _law_left, 6 _law_right, 7 _law_begin, 8 _law_k, 9 _law_couple -/
def d__law_couples : Def := { np := 3, n := 10, body :=
 (.seq (.asg 3 (.lst .nil))
 (.seq (.asg 4 (.call "_law_all_glasses" (.cons (.var 2) .nil)))
 (.seq (.for_ (.one 5) (.itv (.call "_law_all_glasses" (.cons (.var 1) .nil))) (.seq (.asg 3 (.bin .add (.var 3) (.comp false (.tup (.cons (.var 5) (.cons (.var 6) .nil))) (.one 6) (.itv (.var 4)) (.cst (.bl true)) [6])))
 (.seq (.kill [5])
 .nil)))
 (.seq (.ifs (.tE (.cmp .lt (.bf .len (.cons (.var 3) .nil)) (.cst (.int 50)))) (.seq (.ret (.var 3))
 .nil) .nil)
 (.seq (.asg 7 (.call "_law_take" (.cons (.var 0) (.cons (.cst (.int 14)) .nil))))
 (.seq (.ret (.comp false (.var 9) (.many [8, 9]) (.enum (.var 3)) (.tE (.cmp .eq (.bin .mul (.bin .fdiv (.bin .sub (.var 8) (.var 7)) (.cst (.int 14))) (.cst (.int 14))) (.bin .sub (.var 8) (.var 7)))) [8, 9]))
 .nil)))))) }
/-- _law_drawn: 0 _law_hand_here, 1 _law_n, 2 _law_m, 3 _law_way, 4 _law_apart_here, 5 _law_k -/
def d__law_drawn66 : Def := { np := 3, n := 6, body :=
 (.seq (.asg 3 (.call "_law_take" (.cons (.var 0) (.cons (.cst (.int 3)) .nil))))
 (.seq (.ifs (.tE (.cmp .eq (.var 3) (.cst (.int 0)))) (.seq (.ret (.tup (.cons (.call "_law_members" (.cons (.var 0) (.cons (.bin .mul (.var 1) (.var 2)) .nil))) (.cons (.cst (.bl false)) .nil))))
 .nil) .nil)
 (.seq (.asg 4 (.call "_law_apart" (.cons (.var 1) (.cons (.var 2) (.cons (.call "_law_members" (.cons (.var 0) (.cons (.var 1) .nil))) (.cons (.call "_law_members" (.cons (.var 0) (.cons (.var 2) .nil))) .nil))))))
 (.seq (.ifs (.tE (.cmp .eq (.var 3) (.cst (.int 1)))) (.seq (.ret (.tup (.cons (.var 4) (.cons (.cst (.bl true)) .nil))))
 .nil) .nil)
 (.seq (.ret (.tup (.cons (.call "_law_met" (.cons (.bin .mul (.var 1) (.var 2)) (.cons (.bin .add (.var 4) (.comp false (.call "_law_take" (.cons (.var 0) (.cons (.bin .shl (.cst (.int 1)) (.bin .mul (.var 1) (.var 2))) .nil))) (.one 5) (.rng1 (.bin .add (.cst (.int 1)) (.call "_law_take" (.cons (.var 0) (.cons (.cst (.int 2)) .nil))))) (.cst (.bl true)) [5])) .nil))) (.cons (.cst (.bl false)) .nil))))
 .nil))))) }
end Lb
/-! defs that laws share (printed by gen.py) -/
namespace Lb
open Mp
/-- check_facts: 0 stands, 1 facts, 2 place, 3 fact, 4 lot -/
def d_check_facts : Def := { np := 2, n := 5, body :=
 (.seq (.expr (.call "check_stands" (.cons (.var 0) .nil)))
 (.seq (.ifs (.tor (.tnot (.tE (.call "is_sequence" (.cons (.var 1) .nil)))) (.tE (.cmp .gt (.bf .len (.cons (.var 1) .nil)) (.glo "MOST_FACTS")))) (.seq (.raise "BadFact" (.cons (.cst .non) .nil))
 .nil) .nil)
 (.seq (.for_ (.many [2, 3]) (.enum (.var 1)) (.seq (.ifs (.tor (.tnot (.tE (.call "is_sequence" (.cons (.var 3) .nil)))) (.tE (.cmp .ne (.bf .len (.cons (.var 3) .nil)) (.cst (.int 2))))) (.seq (.raise "BadFact" (.cons (.var 2) .nil))
 .nil) .nil)
 (.seq (.ifs (.tE (.cmp .ne (.comp false (.var 4) (.one 4) (.itv (.var 3)) (.tnot (.tE (.call "is_whole" (.cons (.var 4) (.cons (.cst (.int 0)) (.cons (.call "all_stands" (.cons (.var 0) .nil)) .nil)))))) [4]) (.lst .nil))) (.seq (.raise "BadFact" (.cons (.var 2) .nil))
 .nil) .nil)
 (.seq (.kill [2])
 .nil))))
 (.seq (.ret (.bf .tuple (.cons (.comp false (.bf .tuple (.cons (.var 3) .nil)) (.one 3) (.itv (.var 1)) (.cst (.bl true)) [3]) .nil)))
 .nil)))) }
/-- is_fitting: 0 glasses, 1 facts, 2 shown, 3 rounding -/
def d_is_fitting : Def := { np := 2, n := 4, body :=
 (.seq (.for_ (.many [2, 3]) (.itv (.call "check_facts" (.cons (.attr (.var 0) "stands") (.cons (.var 1) .nil)))) (.seq (.ifs (.tE (.cmp .ne (.meth (.var 0) "rounded" (.cons (.var 2) .nil)) (.var 3))) (.seq (.ret (.cst (.bl false)))
 .nil) .nil)
 (.seq (.kill [2, 3])
 .nil)))
 (.seq (.ret (.cst (.bl true)))
 .nil)) }
/-- keeps_fact: 0 lot, 1 fact -/
def d_keeps_fact : Def := { np := 2, n := 2, body :=
 (.seq (.ret (.or (.not (.call "is_within" (.cons (.idx (.var 1) (.cst (.int 0))) (.cons (.var 0) .nil)))) (.call "is_within" (.cons (.idx (.var 1) (.cst (.int 1))) (.cons (.var 0) .nil)))))
 .nil) }
/-- Misfit.__init__: 0 self, 1 place, 2 other -/
def d_Misfitu_initu : Def := { np := 3, n := 3, body :=
 (.seq (.setA (.var 0) "place" (.var 1))
 (.seq (.setA (.var 0) "other" (.var 2))
 .nil)) }
/-- misfit_of: 0 stands, 1 facts, 2 checked, 3 place, 4 fact, 5 other, 6 known -/
def d_misfit_of : Def := { np := 2, n := 7, body :=
 (.seq (.asg 2 (.call "check_facts" (.cons (.var 0) (.cons (.var 1) .nil))))
 (.seq (.for_ (.many [3, 4]) (.enum (.var 2)) (.seq (.for_ (.many [5, 6]) (.enum (.var 2)) (.seq (.ifs (.tand (.tE (.cmp .eq (.var 3) (.var 5))) (.tnot (.tE (.call "is_within" (.cons (.idx (.var 4) (.cst (.int 0))) (.cons (.idx (.var 4) (.cst (.int 1))) .nil)))))) (.seq (.ret (.make "Misfit" (.cons (.var 3) (.cons (.var 5) .nil))))
 .nil) .nil)
 (.seq (.ifs (.tand (.tE (.cmp .ne (.var 3) (.var 5))) (.tnot (.tE (.call "keeps_fact" (.cons (.idx (.var 4) (.cst (.int 1))) (.cons (.var 6) .nil)))))) (.seq (.ret (.make "Misfit" (.cons (.var 3) (.cons (.var 5) .nil))))
 .nil) .nil)
 (.seq (.kill [5, 6])
 .nil))))
 (.seq (.kill [3, 4, 5, 6])
 .nil)))
 (.seq (.ret (.cst .non))
 .nil))) }
/-- fitting_facts: 0 stands, 1 facts, 2 misfit -/
def d_fitting_facts : Def := { np := 2, n := 3, body :=
 (.seq (.asg 2 (.call "misfit_of" (.cons (.var 0) (.cons (.var 1) .nil))))
 (.seq (.ifs (.tE (.cmp .isn (.var 2) (.cst .non))) (.seq (.raise "NoneFits" (.cons (.attr (.var 2) "place") (.cons (.attr (.var 2) "other") .nil)))
 .nil) .nil)
 (.seq (.ret (.call "check_facts" (.cons (.var 0) (.cons (.var 1) .nil))))
 .nil))) }
/-- finest_glasses: 0 stands, 1 facts, 2 checked, 3 members, 4 lot, 5 fact -/
def d_finest_glasses : Def := { np := 2, n := 6, body :=
 (.seq (.asg 2 (.call "fitting_facts" (.cons (.var 0) (.cons (.var 1) .nil))))
 (.seq (.asg 3 (.lstm .nil))
 (.seq (.for_ (.one 4) (.rng1 (.bin .add (.call "all_stands" (.cons (.var 0) .nil)) (.cst (.int 1)))) (.seq (.ifs (.tE (.cmp .eq (.comp false (.var 5) (.one 5) (.itv (.var 2)) (.tnot (.tE (.call "keeps_fact" (.cons (.var 4) (.cons (.var 5) .nil))))) [5]) (.lst .nil))) (.seq (.expr (.lm (.var 3) .append (.cons (.var 4) .nil)))
 .nil) .nil)
 (.seq (.kill [4])
 .nil)))
 (.seq (.ret (.make "Glasses" (.cons (.var 0) (.cons (.frz (.var 3)) .nil))))
 .nil)))) }
/-- coarsest_glasses: 0 stands, 1 facts, 2 fact -/
def d_coarsest_glasses : Def := { np := 2, n := 3, body :=
 (.seq (.ret (.call "made_glasses" (.cons (.var 0) (.cons (.comp false (.idx (.var 2) (.cst (.int 1))) (.one 2) (.itv (.call "fitting_facts" (.cons (.var 0) (.cons (.var 1) .nil)))) (.cst (.bl true)) [2]) .nil))))
 .nil) }
/-- next_ask: 0 stands, 1 facts, 2 finest, 3 coarsest, 4 lot -/
def d_next_ask : Def := { np := 2, n := 5, body :=
 (.seq (.asg 2 (.call "finest_glasses" (.cons (.var 0) (.cons (.var 1) .nil))))
 (.seq (.asg 3 (.call "coarsest_glasses" (.cons (.var 0) (.cons (.var 1) .nil))))
 (.seq (.for_ (.one 4) (.rng1 (.bin .add (.call "all_stands" (.cons (.var 0) .nil)) (.cst (.int 1)))) (.seq (.ifs (.tE (.cmp .ne (.meth (.var 2) "rounded" (.cons (.var 4) .nil)) (.meth (.var 3) "rounded" (.cons (.var 4) .nil)))) (.seq (.ret (.var 4))
 .nil) .nil)
 (.seq (.kill [4])
 .nil)))
 (.seq (.ret (.cst .non))
 .nil)))) }
/-- shows_surely: 0 stands, 1 facts, 2 lot, 3 checked, 4 rounding -/
def d_shows_surely : Def := { np := 3, n := 5, body :=
 (.seq (.asg 3 (.call "check_facts" (.cons (.var 0) (.cons (.var 1) .nil))))
 (.seq (.expr (.call "check_lot" (.cons (.var 0) (.cons (.var 2) .nil))))
 (.seq (.asg 4 (.meth (.call "finest_glasses" (.cons (.var 0) (.cons (.var 3) .nil))) "rounded" (.cons (.var 2) .nil)))
 (.seq (.ifs (.tE (.cmp .ne (.var 4) (.meth (.call "coarsest_glasses" (.cons (.var 0) (.cons (.var 3) .nil))) "rounded" (.cons (.var 2) .nil)))) (.seq (.ret (.cst .non))
 .nil) .nil)
 (.seq (.ret (.var 4))
 .nil))))) }
/-- _law_keeps: 0 _law_lot, 1 _law_fact -/
def d__law_keeps : Def := { np := 2, n := 2, body :=
 (.seq (.ret (.or (.not (.call "_law_within" (.cons (.idx (.var 1) (.cst (.int 0))) (.cons (.var 0) .nil)))) (.call "_law_within" (.cons (.idx (.var 1) (.cst (.int 1))) (.cons (.var 0) .nil)))))
 .nil) }
/-- _law_misfit: 0 _law_facts, 1 _law_i, 2 _law_j -/
def d__law_misfit : Def := { np := 1, n := 3, body :=
 (.seq (.for_ (.one 1) (.rng1 (.bf .len (.cons (.var 0) .nil))) (.seq (.for_ (.one 2) (.rng1 (.bf .len (.cons (.var 0) .nil))) (.seq (.ifs (.tand (.tE (.cmp .eq (.var 1) (.var 2))) (.tnot (.tE (.call "_law_within" (.cons (.idx (.idx (.var 0) (.var 1)) (.cst (.int 0))) (.cons (.idx (.idx (.var 0) (.var 1)) (.cst (.int 1))) .nil)))))) (.seq (.ret (.tup (.cons (.var 1) (.cons (.var 2) .nil))))
 .nil) .nil)
 (.seq (.ifs (.tand (.tE (.cmp .ne (.var 1) (.var 2))) (.tnot (.tE (.call "_law_keeps" (.cons (.idx (.idx (.var 0) (.var 1)) (.cst (.int 1))) (.cons (.idx (.var 0) (.var 2)) .nil)))))) (.seq (.ret (.tup (.cons (.var 1) (.cons (.var 2) .nil))))
 .nil) .nil)
 (.seq (.kill [2])
 .nil))))
 (.seq (.kill [1, 2])
 .nil)))
 (.seq (.ret (.cst .non))
 .nil)) }
/-- _law_finest: 0 _law_v, 1 _law_facts, 2 _law_lot, 3 _law_fact -/
def d__law_finest09 : Def := { np := 2, n := 4, body :=
 (.seq (.ret (.comp false (.var 2) (.one 2) (.rng1 (.bin .shl (.cst (.int 1)) (.var 0))) (.tE (.cmp .eq (.comp false (.var 3) (.one 3) (.itv (.var 1)) (.tnot (.tE (.call "_law_keeps" (.cons (.var 2) (.cons (.var 3) .nil))))) [3]) (.lst .nil))) [2]))
 .nil) }
/-- _law_given: 0 _law_hand_here, 1 _law_facts, 2 _law_fact -/
def d__law_given09 : Def := { np := 2, n := 3, body :=
 (.seq (.ret (.call "_law_list" (.cons (.var 0) (.cons (.comp false (.call "_law_list" (.cons (.var 0) (.cons (.var 2) .nil))) (.one 2) (.itv (.var 1)) (.cst (.bl true)) [2]) .nil))))
 .nil) }
/-- _law_drawn_facts: 0 _law_hand_here, 1 _law_v, 2 _law_members_here, 3 _law_many, 4 _law_k, 5 _law_facts, 6 _law_lot, 7 _law_at -/
def d__law_drawn_facts : Def := { np := 3, n := 8, body :=
 (.seq (.asg 3 (.ite (.tE (.call "_law_take" (.cons (.var 0) (.cons (.cst (.int 32)) .nil)))) (.call "_law_take" (.cons (.var 0) (.cons (.cst (.int 13)) .nil))) (.cst (.int 40))))
 (.seq (.ifs (.tE (.cmp .eq (.call "_law_take" (.cons (.var 0) (.cons (.cst (.int 5)) .nil))) (.cst (.int 0)))) (.seq (.ret (.comp false (.tup (.cons (.call "_law_take" (.cons (.var 0) (.cons (.bin .shl (.cst (.int 1)) (.var 1)) .nil))) (.cons (.call "_law_take" (.cons (.var 0) (.cons (.bin .shl (.cst (.int 1)) (.var 1)) .nil))) .nil))) (.one 4) (.rng1 (.bin .fdiv (.var 3) (.cst (.int 4)))) (.cst (.bl true)) [4]))
 .nil) .nil)
 (.seq (.asg 5 (.lstm .nil))
 (.seq (.for_ (.one 4) (.rng1 (.var 3)) (.seq (.asg 6 (.call "_law_take" (.cons (.var 0) (.cons (.bin .shl (.cst (.int 1)) (.var 1)) .nil))))
 (.seq (.expr (.lm (.var 5) .append (.cons (.tup (.cons (.var 6) (.cons (.call "_law_rounded" (.cons (.var 2) (.cons (.var 6) .nil))) .nil))) .nil)))
 (.seq (.kill [4, 6])
 .nil))))
 (.seq (.for_ (.one 4) (.rng1 (.call "_law_take" (.cons (.var 0) (.cons (.cst (.int 3)) .nil)))) (.seq (.ifs (.tE (.var 5)) (.seq (.asg 7 (.call "_law_take" (.cons (.var 0) (.cons (.bf .len (.cons (.var 5) .nil)) .nil))))
 (.seq (.setI (.var 5) (.var 7) (.tup (.cons (.idx (.idx (.var 5) (.var 7)) (.cst (.int 0))) (.cons (.bin .bxor (.idx (.idx (.var 5) (.var 7)) (.cst (.int 1))) (.bin .shl (.cst (.int 1)) (.call "_law_take" (.cons (.var 0) (.cons (.var 1) .nil))))) .nil))))
 .nil)) .nil)
 (.seq (.kill [4, 7])
 .nil)))
 (.seq (.ret (.frz (.var 5)))
 .nil)))))) }
end Lb
/-! defs that laws share (printed by gen.py) -/
namespace Lb
open Mp
/-- entry_of: 0 name, 1 entry -/
def d_entry_of : Def := { np := 1, n := 2, body :=
 (.seq (.for_ (.one 1) (.itv (.glo "TABLE")) (.seq (.ifs (.tand (.tE (.isi (.var 0) .str)) (.tE (.cmp .eq (.idx (.var 1) (.cst (.int 0))) (.var 0)))) (.seq (.ret (.var 1))
 .nil) .nil)
 (.seq (.kill [1])
 .nil)))
 (.seq (.raise "BadRewriting" (.cons (.cst (.str "name")) .nil))
 .nil)) }
/-- filled_shape: 0 shape, 1 letters, 2 inner -/
def d_filled_shape : Def := { np := 2, n := 3, body :=
 (.seq (.ifs (.tE (.isi (.var 0) .str)) (.seq (.ret (.didx (.var 1) (.var 0)))
 .nil) .nil)
 (.seq (.ret (.bf .tuple (.cons (.bin .add (.lst (.cons (.idx (.var 0) (.cst (.int 0))) .nil)) (.comp false (.call "filled_shape" (.cons (.var 2) (.cons (.var 1) .nil))) (.one 2) (.itv (.sl (.var 0) (.cst (.int 1)) .nil)) (.cst (.bl true)) [2])) .nil)))
 .nil)) }
/-- rewriting_pair: 0 name, 1 programs, 2 entry, 3 letters, 4 number, 5 program -/
def d_rewriting_pair : Def := { np := 2, n := 6, body :=
 (.seq (.asg 2 (.call "entry_of" (.cons (.var 0) .nil)))
 (.seq (.ifs (.tor (.tnot (.tE (.call "is_sequence" (.cons (.var 1) .nil)))) (.tE (.cmp .ne (.bf .len (.cons (.var 1) .nil)) (.idx (.var 2) (.cst (.int 1)))))) (.seq (.raise "BadRewriting" (.cons (.cst (.str "many")) .nil))
 .nil) .nil)
 (.seq (.asg 3 .dnew)
 (.seq (.for_ (.many [4, 5]) (.enum (.var 1)) (.seq (.setD (.var 3) (.idx (.cst (.str "rst")) (.var 4)) (.var 5))
 (.seq (.kill [4, 5])
 .nil)))
 (.seq (.ret (.tup (.cons (.call "filled_shape" (.cons (.idx (.var 2) (.cst (.int 3))) (.cons (.var 3) .nil))) (.cons (.call "filled_shape" (.cons (.idx (.var 2) (.cst (.int 4))) (.cons (.var 3) .nil))) .nil))))
 .nil))))) }
/-- _law_names: 0 _law_hand_here, 1 _law_many, 2 _law_pool, 3 _law_called, 4 _law_k, 5 _law_at -/
def d__law_names39 : Def := { np := 2, n := 6, body :=
 (.seq (.asg 2 (.lst (.cons (.cst (.str "f")) (.cons (.cst (.str "g")) (.cons (.cst (.str "h")) (.cons (.cst (.str "ab")) (.cons (.cst (.str "zz")) (.cons (.cst (.str "go")) (.cons (.cst (.str "longname")) (.cons (.cst (.str "n")) (.cons (.cst (.str "nothings")) (.cons (.cst (.str "a")) .nil))))))))))))
 (.seq (.ifs (.tE (.call "_law_take" (.cons (.var 0) (.cons (.cst (.int 2)) .nil)))) (.seq (.asg 2 (.lst (.cons (.cst (.str "r")) (.cons (.cst (.str "s")) (.cons (.cst (.str "t")) (.cons (.cst (.str "again")) (.cons (.cst (.str "step")) (.cons (.cst (.str "either")) (.cons (.cst (.str "behind")) (.cons (.cst (.str "back")) (.cons (.cst (.str "meet")) (.cons (.cst (.str "f")) .nil))))))))))))
 .nil) .nil)
 (.seq (.asg 3 (.lstm .nil))
 (.seq (.for_ (.one 4) (.rng1 (.var 1)) (.seq (.asg 5 (.call "_law_take" (.cons (.var 0) (.cons (.bf .len (.cons (.var 2) .nil)) .nil))))
 (.seq (.expr (.lm (.var 3) .append (.cons (.idx (.var 2) (.var 5)) .nil)))
 (.seq (.asg 2 (.bin .add (.sl (.var 2) .nil (.var 5)) (.sl (.var 2) (.bin .add (.var 5) (.cst (.int 1))) .nil)))
 (.seq (.kill [4, 5])
 .nil)))))
 (.seq (.ret (.frz (.var 3)))
 .nil))))) }
/-- _law_make: 0 _law_hand_here, 1 _law_v, 2 _law_members_here, 3 _law_entries_here -/
def d__law_make : Def := { np := 4, n := 4, body :=
 (.seq (.ret (.tup (.cons (.make "Glasses" (.cons (.var 1) (.cons (.call "_law_list" (.cons (.var 0) (.cons (.var 2) .nil))) .nil))) (.cons (.call "_law_made" (.cons (.var 0) (.cons (.var 1) (.cons (.var 3) .nil)))) .nil))))
 .nil) }
/-- _law_table: 0 _law_rr, 1 _law_still, 2 _law_loop -/
def d__law_table : Def := { np := 0, n := 3, body :=
 (.seq (.asg 0 (.tup (.cons (.cst (.str "again")) (.cons (.cst (.str "r")) .nil))))
 (.seq (.asg 1 (.tup (.cons (.cst (.str "nothing")) .nil)))
 (.seq (.asg 2 (.tup (.cons (.cst (.str "again")) (.cons (.tup (.cons (.cst (.str "either")) (.cons (.cst (.str "r")) (.cons (.cst (.str "s")) .nil)))) .nil))))
 (.seq (.ret (.lst (.cons (.tup (.cons (.cst (.str "bracket_behind")) (.cons (.cst (.int 3)) (.cons (.cst (.str "alike")) (.cons (.tup (.cons (.cst (.str "behind")) (.cons (.tup (.cons (.cst (.str "behind")) (.cons (.cst (.str "r")) (.cons (.cst (.str "s")) .nil)))) (.cons (.cst (.str "t")) .nil)))) (.cons (.tup (.cons (.cst (.str "behind")) (.cons (.cst (.str "r")) (.cons (.tup (.cons (.cst (.str "behind")) (.cons (.cst (.str "s")) (.cons (.cst (.str "t")) .nil)))) .nil)))) .nil)))))) (.cons (.tup (.cons (.cst (.str "drop_first")) (.cons (.cst (.int 1)) (.cons (.cst (.str "alike")) (.cons (.tup (.cons (.cst (.str "behind")) (.cons (.var 1) (.cons (.cst (.str "r")) .nil)))) (.cons (.cst (.str "r")) .nil)))))) (.cons (.tup (.cons (.cst (.str "drop_last")) (.cons (.cst (.int 1)) (.cons (.cst (.str "alike")) (.cons (.tup (.cons (.cst (.str "behind")) (.cons (.cst (.str "r")) (.cons (.var 1) .nil)))) (.cons (.cst (.str "r")) .nil)))))) (.cons (.tup (.cons (.cst (.str "drop_double")) (.cons (.cst (.int 1)) (.cons (.cst (.str "alike")) (.cons (.tup (.cons (.cst (.str "either")) (.cons (.cst (.str "r")) (.cons (.cst (.str "r")) .nil)))) (.cons (.cst (.str "r")) .nil)))))) (.cons (.tup (.cons (.cst (.str "turn_either")) (.cons (.cst (.int 2)) (.cons (.cst (.str "alike")) (.cons (.tup (.cons (.cst (.str "either")) (.cons (.cst (.str "r")) (.cons (.cst (.str "s")) .nil)))) (.cons (.tup (.cons (.cst (.str "either")) (.cons (.cst (.str "s")) (.cons (.cst (.str "r")) .nil)))) .nil)))))) (.cons (.tup (.cons (.cst (.str "bracket_either")) (.cons (.cst (.int 3)) (.cons (.cst (.str "alike")) (.cons (.tup (.cons (.cst (.str "either")) (.cons (.tup (.cons (.cst (.str "either")) (.cons (.cst (.str "r")) (.cons (.cst (.str "s")) .nil)))) (.cons (.cst (.str "t")) .nil)))) (.cons (.tup (.cons (.cst (.str "either")) (.cons (.cst (.str "r")) (.cons (.tup (.cons (.cst (.str "either")) (.cons (.cst (.str "s")) (.cons (.cst (.str "t")) .nil)))) .nil)))) .nil)))))) (.cons (.tup (.cons (.cst (.str "spread_first")) (.cons (.cst (.int 3)) (.cons (.cst (.str "alike")) (.cons (.tup (.cons (.cst (.str "behind")) (.cons (.cst (.str "r")) (.cons (.tup (.cons (.cst (.str "either")) (.cons (.cst (.str "s")) (.cons (.cst (.str "t")) .nil)))) .nil)))) (.cons (.tup (.cons (.cst (.str "either")) (.cons (.tup (.cons (.cst (.str "behind")) (.cons (.cst (.str "r")) (.cons (.cst (.str "s")) .nil)))) (.cons (.tup (.cons (.cst (.str "behind")) (.cons (.cst (.str "r")) (.cons (.cst (.str "t")) .nil)))) .nil)))) .nil)))))) (.cons (.tup (.cons (.cst (.str "again_once")) (.cons (.cst (.int 1)) (.cons (.cst (.str "alike")) (.cons (.tup (.cons (.cst (.str "again")) (.cons (.var 0) .nil))) (.cons (.var 0) .nil)))))) (.cons (.tup (.cons (.cst (.str "again_twice")) (.cons (.cst (.int 1)) (.cons (.cst (.str "alike")) (.cons (.tup (.cons (.cst (.str "behind")) (.cons (.var 0) (.cons (.var 0) .nil)))) (.cons (.var 0) .nil)))))) (.cons (.tup (.cons (.cst (.str "again_mixed")) (.cons (.cst (.int 2)) (.cons (.cst (.str "alike")) (.cons (.var 2) (.cons (.tup (.cons (.cst (.str "again")) (.cons (.tup (.cons (.cst (.str "behind")) (.cons (.var 0) (.cons (.tup (.cons (.cst (.str "again")) (.cons (.cst (.str "s")) .nil))) .nil)))) .nil))) .nil)))))) (.cons (.tup (.cons (.cst (.str "again_ended")) (.cons (.cst (.int 1)) (.cons (.cst (.str "alike")) (.cons (.var 0) (.cons (.tup (.cons (.cst (.str "either")) (.cons (.var 1) (.cons (.tup (.cons (.cst (.str "behind")) (.cons (.var 0) (.cons (.cst (.str "r")) .nil)))) .nil)))) .nil)))))) (.cons (.tup (.cons (.cst (.str "again_turns")) (.cons (.cst (.int 2)) (.cons (.cst (.str "alike")) (.cons (.var 2) (.cons (.tup (.cons (.cst (.str "behind")) (.cons (.tup (.cons (.cst (.str "again")) (.cons (.tup (.cons (.cst (.str "behind")) (.cons (.var 0) (.cons (.cst (.str "s")) .nil)))) .nil))) (.cons (.var 0) .nil)))) .nil)))))) (.cons (.tup (.cons (.cst (.str "spread_last")) (.cons (.cst (.int 3)) (.cons (.cst (.str "sharper")) (.cons (.tup (.cons (.cst (.str "behind")) (.cons (.tup (.cons (.cst (.str "either")) (.cons (.cst (.str "r")) (.cons (.cst (.str "s")) .nil)))) (.cons (.cst (.str "t")) .nil)))) (.cons (.tup (.cons (.cst (.str "either")) (.cons (.tup (.cons (.cst (.str "behind")) (.cons (.cst (.str "r")) (.cons (.cst (.str "t")) .nil)))) (.cons (.tup (.cons (.cst (.str "behind")) (.cons (.cst (.str "s")) (.cons (.cst (.str "t")) .nil)))) .nil)))) .nil)))))) (.cons (.tup (.cons (.cst (.str "unroll")) (.cons (.cst (.int 1)) (.cons (.cst (.str "sharper")) (.cons (.var 0) (.cons (.tup (.cons (.cst (.str "either")) (.cons (.var 1) (.cons (.tup (.cons (.cst (.str "behind")) (.cons (.cst (.str "r")) (.cons (.var 0) .nil)))) .nil)))) .nil)))))) (.cons (.tup (.cons (.cst (.str "slide_one")) (.cons (.cst (.int 1)) (.cons (.cst (.str "sharper")) (.cons (.tup (.cons (.cst (.str "behind")) (.cons (.var 0) (.cons (.cst (.str "r")) .nil)))) (.cons (.tup (.cons (.cst (.str "behind")) (.cons (.cst (.str "r")) (.cons (.var 0) .nil)))) .nil)))))) (.cons (.tup (.cons (.cst (.str "slide_two")) (.cons (.cst (.int 2)) (.cons (.cst (.str "sharper")) (.cons (.tup (.cons (.cst (.str "behind")) (.cons (.tup (.cons (.cst (.str "again")) (.cons (.tup (.cons (.cst (.str "behind")) (.cons (.cst (.str "r")) (.cons (.cst (.str "s")) .nil)))) .nil))) (.cons (.cst (.str "r")) .nil)))) (.cons (.tup (.cons (.cst (.str "behind")) (.cons (.cst (.str "r")) (.cons (.tup (.cons (.cst (.str "again")) (.cons (.tup (.cons (.cst (.str "behind")) (.cons (.cst (.str "s")) (.cons (.cst (.str "r")) .nil)))) .nil))) .nil)))) .nil)))))) (.cons (.tup (.cons (.cst (.str "part_again")) (.cons (.cst (.int 2)) (.cons (.cst (.str "sharper")) (.cons (.var 2) (.cons (.tup (.cons (.cst (.str "behind")) (.cons (.var 0) (.cons (.tup (.cons (.cst (.str "again")) (.cons (.tup (.cons (.cst (.str "behind")) (.cons (.cst (.str "s")) (.cons (.var 0) .nil)))) .nil))) .nil)))) .nil)))))) (.cons (.tup (.cons (.cst (.str "halve_again")) (.cons (.cst (.int 1)) (.cons (.cst (.str "sharper")) (.cons (.var 0) (.cons (.tup (.cons (.cst (.str "behind")) (.cons (.tup (.cons (.cst (.str "either")) (.cons (.var 1) (.cons (.cst (.str "r")) .nil)))) (.cons (.tup (.cons (.cst (.str "again")) (.cons (.tup (.cons (.cst (.str "behind")) (.cons (.cst (.str "r")) (.cons (.cst (.str "r")) .nil)))) .nil))) .nil)))) .nil)))))) .nil))))))))))))))))))))
 .nil)))) }
/-- _law_put: 0 _law_shape, 1 _law_letters_here, 2 _law_inner -/
def d__law_put39 : Def := { np := 2, n := 3, body :=
 (.seq (.ifs (.tE (.isi (.var 0) .str)) (.seq (.ret (.idx (.var 1) (.x (.sfind (.cst (.str "rst")) (.var 0)))))
 .nil) .nil)
 (.seq (.ret (.bf .tuple (.cons (.bin .add (.lst (.cons (.didx (.var 0) (.cst (.int 0))) .nil)) (.comp false (.call "_law_put" (.cons (.var 2) (.cons (.var 1) .nil))) (.one 2) (.itv (.sl (.var 0) (.cst (.int 1)) .nil)) (.cst (.bl true)) [2])) .nil)))
 .nil)) }
/-- _law_letters: 0 _law_hand_here, 1 _law_called, 2 _law_many, 3 _law_leaves, 4 _law_deep, 5 _law_letters_here, 6 _law_k -/
def d__law_letters : Def := { np := 5, n := 7, body :=
 (.seq (.asg 5 (.lstm .nil))
 (.seq (.for_ (.one 6) (.rng1 (.var 2)) (.seq (.expr (.lm (.var 5) .append (.cons (.call "_law_program" (.cons (.var 0) (.cons (.var 1) (.cons (.bin .add (.cst (.int 1)) (.call "_law_take" (.cons (.var 0) (.cons (.var 3) .nil)))) (.cons (.call "_law_take" (.cons (.var 0) (.cons (.bin .add (.var 4) (.cst (.int 1))) .nil))) .nil))))) .nil)))
 (.seq (.kill [6])
 .nil)))
 (.seq (.ifs (.tE (.cmp .eq (.call "_law_take" (.cons (.var 0) (.cons (.cst (.int 8)) .nil))) (.cst (.int 0)))) (.seq (.setI (.var 5) (.bin .sub (.var 2) (.cst (.int 1))) (.idx (.var 5) (.cst (.int 0))))
 .nil) .nil)
 (.seq (.ret (.frz (.var 5)))
 .nil)))) }
/-- _law_starts: 0 _law_hand_here, 1 _law_v, 2 _law_many, 3 _law_k -/
def d__law_starts39 : Def := { np := 3, n := 4, body :=
 (.seq (.ifs (.tE (.cmp .le (.var 1) (.cst (.int 3)))) (.seq (.ret (.lrng false (.bin .shl (.cst (.int 1)) (.var 1))))
 .nil) .nil)
 (.seq (.ret (.comp false (.call "_law_take" (.cons (.var 0) (.cons (.bin .shl (.cst (.int 1)) (.var 1)) .nil))) (.one 3) (.rng1 (.var 2)) (.cst (.bl true)) [3]))
 .nil)) }
/-- _law_world: 0 _law_hand_here, 1 _law_v, 2 _law_members_here, 3 _law_one, 4 _law_entries_here -/
def d__law_world39 : Def := { np := 1, n := 5, body :=
 (.seq (.asg 1 (.call "_law_stands" (.cons (.var 0) .nil)))
 (.seq (.asg 2 (.call "_law_members" (.cons (.var 0) (.cons (.var 1) .nil))))
 (.seq (.ifs (.tE (.call "_law_take" (.cons (.var 0) (.cons (.cst (.int 2)) .nil)))) (.seq (.asg 3 (.bin .shl (.cst (.int 1)) (.call "_law_take" (.cons (.var 0) (.cons (.var 1) .nil)))))
 (.seq (.asg 2 (.call "_law_met" (.cons (.var 1) (.cons (.bin .add (.var 2) (.lst (.cons (.var 3) (.cons (.bin .shl (.cst (.int 1)) (.call "_law_take" (.cons (.var 0) (.cons (.var 1) .nil)))) .nil)))) .nil))))
 .nil)) .nil)
 (.seq (.asg 4 (.call "_law_entries" (.cons (.var 0) (.cons (.var 1) (.cons (.bin .add (.cst (.int 1)) (.call "_law_take" (.cons (.var 0) (.cons (.cst (.int 3)) .nil)))) .nil)))))
 (.seq (.ret (.lst (.cons (.var 1) (.cons (.var 2) (.cons (.var 4) (.cons (.call "_law_rows_of" (.cons (.var 4) .nil)) .nil))))))
 .nil))))) }
end Lb
/-! defs that laws share (printed by gen.py) -/
namespace Lb
open Mp
/-- cross_row: 0 pair, 1 which, 2 table, 3 place, 4 lot -/
def d_cross_row : Def := { np := 3, n := 5, body :=
 (.seq (.expr (.call "check_side" (.cons (.var 1) .nil)))
 (.seq (.ifs (.tor (.tnot (.tE (.call "is_sequence" (.cons (.var 2) .nil)))) (.tE (.cmp .ne (.bf .len (.cons (.var 2) .nil)) (.attr (.var 0) "stands")))) (.seq (.raise "BadRow" (.cons (.cst .non) .nil))
 .nil) .nil)
 (.seq (.for_ (.many [3, 4]) (.enum (.var 2)) (.seq (.ifs (.tnot (.tE (.call "is_whole" (.cons (.var 4) (.cons (.cst (.int 0)) (.cons (.call "all_stands" (.cons (.call "side_stands" (.cons (.var 0) (.cons (.var 1) .nil))) .nil)) .nil)))))) (.seq (.raise "BadRow" (.cons (.var 3) .nil))
 .nil) .nil)
 (.seq (.kill [3, 4])
 .nil)))
 (.seq (.ret (.call "changed_row" (.cons (.var 0) (.cons (.var 1) (.cons (.var 2) .nil)))))
 .nil)))) }
/-- _law_are_lots: 0 _law_pair_here, 1 _law_n, 2 _law_m, 3 _law_ones, 4 _law_others, 5 _law_apart_here, 6 _law_lot, 7 _law_one, 8 _law_other, 9 _law_box_here, 10 _law_due -/
def d__law_are_lots : Def := { np := 6, n := 11, body :=
 (.seq (.for_ (.one 6) (.rng1 (.bin .shl (.cst (.int 1)) (.bin .mul (.var 1) (.var 2)))) (.seq (.asg 7 (.call "_law_part" (.cons (.var 1) (.cons (.var 2) (.cons (.var 6) (.cons (.cst (.int 0)) .nil))))))
 (.seq (.asg 8 (.call "_law_part" (.cons (.var 1) (.cons (.var 2) (.cons (.var 6) (.cons (.cst (.int 1)) .nil))))))
 (.seq (.ifs (.tnot (.tE (.call "_law_exact" (.cons (.tup (.cons (.call "project_lot" (.cons (.var 0) (.cons (.var 6) (.cons (.cst (.int 0)) .nil)))) (.cons (.call "project_lot" (.cons (.var 0) (.cons (.var 6) (.cons (.cst (.int 1)) .nil)))) .nil))) (.cons (.tup (.cons (.var 7) (.cons (.var 8) .nil))) .nil))))) (.seq (.ret (.cst (.bl false)))
 .nil) .nil)
 (.seq (.asg 9 (.call "_law_box" (.cons (.var 1) (.cons (.var 2) (.cons (.var 7) (.cons (.var 8) .nil))))))
 (.seq (.ifs (.tnot (.tE (.call "_law_exact" (.cons (.tup (.cons (.call "boxed_lot" (.cons (.var 0) (.cons (.var 6) .nil))) (.cons (.call "is_box" (.cons (.var 0) (.cons (.var 6) .nil))) .nil))) (.cons (.tup (.cons (.var 9) (.cons (.cmp .eq (.var 9) (.var 6)) .nil))) .nil))))) (.seq (.ret (.cst (.bl false)))
 .nil) .nil)
 (.seq (.asg 10 (.call "_law_box" (.cons (.var 1) (.cons (.var 2) (.cons (.call "_law_rounded" (.cons (.var 3) (.cons (.var 7) .nil))) (.cons (.call "_law_rounded" (.cons (.var 4) (.cons (.var 8) .nil))) .nil))))))
 (.seq (.ifs (.tnot (.tE (.call "_law_exact" (.cons (.meth (.var 5) "rounded" (.cons (.var 6) .nil)) (.cons (.var 10) .nil))))) (.seq (.ret (.cst (.bl false)))
 .nil) .nil)
 (.seq (.kill [6, 7, 8, 9, 10])
 .nil)))))))))
 (.seq (.ret (.cst (.bl true)))
 .nil)) }
end Lb
/-! defs that laws share (printed by gen.py) -/
namespace Lb
open Mp
/-- rewriting_names: 0 entry -/
def d_rewriting_names : Def := { np := 0, n := 1, body :=
 (.seq (.ret (.bf .tuple (.cons (.comp false (.idx (.var 0) (.cst (.int 0))) (.one 0) (.itv (.glo "TABLE")) (.cst (.bl true)) [0]) .nil)))
 .nil) }
/-- verdict_of: 0 name -/
def d_verdict_of : Def := { np := 1, n := 1, body :=
 (.seq (.ret (.idx (.call "entry_of" (.cons (.var 0) .nil)) (.cst (.int 2))))
 .nil) }
/-- letters_of: 0 name -/
def d_letters_of : Def := { np := 1, n := 1, body :=
 (.seq (.ret (.idx (.call "entry_of" (.cons (.var 0) .nil)) (.cst (.int 1))))
 .nil) }
end Lb
namespace Lw
open PySem PySem.Spec PyProof.Rows L2 Mp
abbrev pg : Program := PySem.Challenge.pw_truealarms_k37_whole_rewritings_told_and
def top (i : Nat) : Stmt := pg.main.body.getD i (.Pass ⟨0, 0, 0, 0⟩)
def mem (i j : Nat) : Stmt := match top i with
  | .ClassDef _ _ _ b _ _ _ _ _ _ _ => b.getD j (.Pass ⟨0, 0, 0, 0⟩)
  | s => s
/-- is_sequence: 0 thing -/
abbrev r_is_sequence : Mp.Row := { f := "is_sequence", d := Lb.d_is_sequence, N := ["thing"], ps := ["thing"], at_ := ("is_sequence", none), nm := "is_sequence", qual := "is_sequence", st := top 4 }
/-- rewriting_names: 0 entry -/
abbrev r_rewriting_names : Mp.Row := { f := "rewriting_names", d := Lb.d_rewriting_names, N := ["entry"], ps := [], at_ := ("rewriting_names", none), nm := "rewriting_names", qual := "rewriting_names", st := top 7 }
/-- entry_of: 0 name, 1 entry -/
abbrev r_entry_of : Mp.Row := { f := "entry_of", d := Lb.d_entry_of, N := ["name", "entry"], ps := ["name"], at_ := ("entry_of", none), nm := "entry_of", qual := "entry_of", st := top 8 }
/-- verdict_of: 0 name -/
abbrev r_verdict_of : Mp.Row := { f := "verdict_of", d := Lb.d_verdict_of, N := ["name"], ps := ["name"], at_ := ("verdict_of", none), nm := "verdict_of", qual := "verdict_of", st := top 9 }
/-- letters_of: 0 name -/
abbrev r_letters_of : Mp.Row := { f := "letters_of", d := Lb.d_letters_of, N := ["name"], ps := ["name"], at_ := ("letters_of", none), nm := "letters_of", qual := "letters_of", st := top 10 }
/-- filled_shape: 0 shape, 1 letters, 2 inner -/
abbrev r_filled_shape : Mp.Row := { f := "filled_shape", d := Lb.d_filled_shape, N := ["shape", "letters", "inner"], ps := ["shape", "letters"], at_ := ("filled_shape", none), nm := "filled_shape", qual := "filled_shape", st := top 11 }
/-- rewriting_pair: 0 name, 1 programs, 2 entry, 3 letters, 4 number, 5 program -/
abbrev r_rewriting_pair : Mp.Row := { f := "rewriting_pair", d := Lb.d_rewriting_pair, N := ["name", "programs", "entry", "letters", "number", "program"], ps := ["name", "programs"], at_ := ("rewriting_pair", none), nm := "rewriting_pair", qual := "rewriting_pair", st := top 12 }
/-- _law_hand: 0 _law_script, 1 _law_total, 2 _law_cells, 3 _law_cell -/
abbrev r__law_hand : Mp.Row := { f := "_law_hand", d := Lb.d__law_hand, N := ["_law_script", "_law_total", "_law_cells", "_law_cell"], ps := ["_law_script"], at_ := ("_law_hand", none), nm := "_law_hand", qual := "_law_hand", st := top 14 }
/-- _law_mixed: 0 _law_number, 1 _law_turn, 2 _law_once, 3 _law_twice -/
abbrev r__law_mixed : Mp.Row := { f := "_law_mixed", d := Lb.d__law_mixed, N := ["_law_number", "_law_turn", "_law_once", "_law_twice"], ps := ["_law_number", "_law_turn"], at_ := ("_law_mixed", none), nm := "_law_mixed", qual := "_law_mixed", st := top 15 }
/-- _law_take: 0 _law_hand_here, 1 _law_many, 2 _law_cell, 3 _law_rest -/
abbrev r__law_take : Mp.Row := { f := "_law_take", d := Lb.d__law_take, N := ["_law_hand_here", "_law_many", "_law_cell", "_law_rest"], ps := ["_law_hand_here", "_law_many"], at_ := ("_law_take", none), nm := "_law_take", qual := "_law_take", st := top 16 }
/-- _law_names: 0 _law_hand_here, 1 _law_many, 2 _law_pool, 3 _law_called, 4 _law_k, 5 _law_at -/
abbrev r__law_names : Mp.Row := { f := "_law_names", d := Lb.d__law_names39, N := ["_law_hand_here", "_law_many", "_law_pool", "_law_called", "_law_k", "_law_at"], ps := ["_law_hand_here", "_law_many"], at_ := ("_law_names", none), nm := "_law_names", qual := "_law_names", st := top 17 }
/-- _law_program: 0 _law_hand_here, 1 _law_called, 2 _law_leaves, 3 _law_deep, 4 _law_way, 5 _law_left, 6 _law_word_here, 7 _law_one -/
abbrev r__law_program : Mp.Row := { f := "_law_program", d := Lb.d__law_program, N := ["_law_hand_here", "_law_called", "_law_leaves", "_law_deep", "_law_way", "_law_left", "_law_word_here", "_law_one"], ps := ["_law_hand_here", "_law_called", "_law_leaves", "_law_deep"], at_ := ("_law_program", none), nm := "_law_program", qual := "_law_program", st := top 18 }
/-- _law_list: 0 _law_hand_here, 1 _law_items -/
abbrev r__law_list : Mp.Row := { f := "_law_list", d := Lb.d__law_list, N := ["_law_hand_here", "_law_items"], ps := ["_law_hand_here", "_law_items"], at_ := ("_law_list", none), nm := "_law_list", qual := "_law_list", st := top 19 }
/-- _law_int: 0 _law_thing -/
abbrev r__law_int : Mp.Row := { f := "_law_int", d := Lb.d__law_int, N := ["_law_thing"], ps := ["_law_thing"], at_ := ("_law_int", none), nm := "_law_int", qual := "_law_int", st := top 20 }
/-- _law_exact: 0 _law_told, 1 _law_due, 2 _law_k -/
abbrev r__law_exact : Mp.Row := { f := "_law_exact", d := Lb.d__law_exact, N := ["_law_told", "_law_due", "_law_k"], ps := ["_law_told", "_law_due"], at_ := ("_law_exact", none), nm := "_law_exact", qual := "_law_exact", st := top 21 }
/-- _law_table: 0 _law_rr, 1 _law_still, 2 _law_loop -/
abbrev r__law_table : Mp.Row := { f := "_law_table", d := Lb.d__law_table, N := ["_law_rr", "_law_still", "_law_loop"], ps := [], at_ := ("_law_table", none), nm := "_law_table", qual := "_law_table", st := top 22 }
/-- _law_put: 0 _law_shape, 1 _law_letters_here, 2 _law_inner -/
abbrev r__law_put : Mp.Row := { f := "_law_put", d := Lb.d__law_put39, N := ["_law_shape", "_law_letters_here", "_law_inner"], ps := ["_law_shape", "_law_letters_here"], at_ := ("_law_put", none), nm := "_law_put", qual := "_law_put", st := top 23 }
/-- _law_letters: 0 _law_hand_here, 1 _law_called, 2 _law_many, 3 _law_leaves, 4 _law_deep, 5 _law_letters_here, 6 _law_k -/
abbrev r__law_letters : Mp.Row := { f := "_law_letters", d := Lb.d__law_letters, N := ["_law_hand_here", "_law_called", "_law_many", "_law_leaves", "_law_deep", "_law_letters_here", "_law_k"], ps := ["_law_hand_here", "_law_called", "_law_many", "_law_leaves", "_law_deep"], at_ := ("_law_letters", none), nm := "_law_letters", qual := "_law_letters", st := top 24 }
/-- _law_word: 0 _law_way, 1 _law_name, 2 _law_programs, 3 e -/
def d__law_word : Def := { np := 3, n := 4, body :=
 (.seq (.try_ (.seq (.ifs (.tE (.cmp .eq (.var 0) (.cst (.int 0)))) (.seq (.expr (.call "verdict_of" (.cons (.var 1) .nil)))
 .nil) (.seq (.ifs (.tE (.cmp .eq (.var 0) (.cst (.int 1)))) (.seq (.expr (.call "letters_of" (.cons (.var 1) .nil)))
 .nil) (.seq (.expr (.call "rewriting_pair" (.cons (.var 1) (.cons (.var 2) .nil))))
 .nil))
 .nil))
 .nil)
 (.hdl "BadRewriting" (some 3) (.seq (.ret (.attr (.var 3) "what")) .nil) (.hdl "CheckerError" none (.seq (.ret (.cst (.str "other")))
 .nil) .nil)))
 (.seq (.ret (.cst (.str "let")))
 .nil)) }
abbrev r__law_word : Mp.Row := { f := "_law_word", d := d__law_word, N := ["_law_way", "_law_name", "_law_programs", "e"], ps := ["_law_way", "_law_name", "_law_programs"], at_ := ("_law_word", none), nm := "_law_word", qual := "_law_word", st := top 25 }
/-- law: 0 _law_script, 1 _law_hand_here, 2 _law_table_here, 3 _law_entry, 4 _law_first, 5 _law_turn, 6 _law_called, 7 _law_letters_here, 8 _law_given, 9 _law_due, 10 _law_strange, 11 _law_odd, 12 _law_wrong, 13 _law_way -/
def d_law : Def := { np := 1, n := 14, body :=
 (.seq (.asg 1 (.call "_law_hand" (.cons (.var 0) .nil)))
 (.seq (.asg 2 (.call "_law_table" .nil))
 (.seq (.ifs (.tnot (.tE (.call "_law_exact" (.cons (.call "rewriting_names" .nil) (.cons (.bf .tuple (.cons (.comp false (.idx (.var 3) (.cst (.int 0))) (.one 3) (.itv (.var 2)) (.cst (.bl true)) [3]) .nil)) .nil))))) (.seq (.ret (.cst (.bl false)))
 .nil) .nil)
 (.seq (.asg 4 (.call "_law_take" (.cons (.var 1) (.cons (.cst (.int 18)) .nil))))
 (.seq (.for_ (.one 5) (.rng1 (.cst (.int 6))) (.seq (.asg 3 (.idx (.var 2) (.bin .mod (.bf .int (.cons (.bin .add (.var 4) (.bin .mul (.var 5) (.cst (.int 7)))) .nil)) (.cst (.int 18)))))
 (.seq (.ifs (.tor (.tnot (.tE (.call "_law_exact" (.cons (.call "verdict_of" (.cons (.idx (.var 3) (.cst (.int 0))) .nil)) (.cons (.idx (.var 3) (.cst (.int 2))) .nil))))) (.tnot (.tE (.call "_law_exact" (.cons (.call "letters_of" (.cons (.idx (.var 3) (.cst (.int 0))) .nil)) (.cons (.idx (.var 3) (.cst (.int 1))) .nil)))))) (.seq (.ret (.cst (.bl false)))
 .nil) .nil)
 (.seq (.asg 6 (.call "_law_names" (.cons (.var 1) (.cons (.bin .add (.cst (.int 1)) (.call "_law_take" (.cons (.var 1) (.cons (.cst (.int 3)) .nil)))) .nil))))
 (.seq (.asg 7 (.call "_law_letters" (.cons (.var 1) (.cons (.var 6) (.cons (.idx (.var 3) (.cst (.int 1))) (.cons (.cst (.int 4)) (.cons (.cst (.int 3)) .nil)))))))
 (.seq (.asg 8 (.call "_law_list" (.cons (.var 1) (.cons (.var 7) .nil))))
 (.seq (.asg 9 (.tup (.cons (.call "_law_put" (.cons (.idx (.var 3) (.cst (.int 3))) (.cons (.var 7) .nil))) (.cons (.call "_law_put" (.cons (.idx (.var 3) (.cst (.int 4))) (.cons (.var 7) .nil))) .nil))))
 (.seq (.ifs (.tnot (.tE (.call "_law_exact" (.cons (.call "rewriting_pair" (.cons (.idx (.var 3) (.cst (.int 0))) (.cons (.var 8) .nil))) (.cons (.var 9) .nil))))) (.seq (.ret (.cst (.bl false)))
 .nil) .nil)
 (.seq (.asg 10 (.lst (.cons (.cst (.str "")) (.cons (.bin .add (.idx (.var 3) (.cst (.int 0))) (.cst (.str "x"))) (.cons (.bin .add (.cst (.str "X")) (.idx (.var 3) (.cst (.int 0)))) (.cons (.bin .add (.idx (.var 3) (.cst (.int 0))) (.cst (.str " "))) (.cons (.cst .non) (.cons (.cst (.bl true)) (.cons (.var 5) (.cons (.tup (.cons (.idx (.var 3) (.cst (.int 0))) .nil)) (.cons (.lst (.cons (.idx (.var 3) (.cst (.int 0))) .nil)) .nil)))))))))))
 (.seq (.asg 11 (.idx (.var 10) (.call "_law_take" (.cons (.var 1) (.cons (.cst (.int 9)) .nil)))))
 (.seq (.ifs (.tE (.cmp .ne (.comp false (.var 13) (.one 13) (.rng1 (.cst (.int 3))) (.tE (.cmp .ne (.call "_law_word" (.cons (.var 13) (.cons (.var 11) (.cons (.var 8) .nil)))) (.cst (.str "name")))) [13]) (.lst .nil))) (.seq (.ret (.cst (.bl false)))
 .nil) .nil)
 (.seq (.asg 10 (.lst (.cons (.sl (.var 7) (.cst (.int 1)) .nil) (.cons (.bin .add (.var 7) (.lst (.cons (.idx (.var 7) (.cst (.int 0))) .nil))) (.cons (.cst .non) (.cons (.sl (.cst (.str "rst")) .nil (.idx (.var 3) (.cst (.int 1)))) (.cons (.idx (.var 3) (.cst (.int 1))) (.cons .dnew (.cons (.bf .tuple (.cons (.sl (.var 7) .nil (.un .neg (.cst (.int 1)))) .nil)) .nil)))))))))
 (.seq (.asg 12 (.idx (.var 10) (.call "_law_take" (.cons (.var 1) (.cons (.cst (.int 7)) .nil)))))
 (.seq (.ifs (.tor (.tE (.cmp .ne (.call "_law_word" (.cons (.cst (.int 2)) (.cons (.idx (.var 3) (.cst (.int 0))) (.cons (.var 12) .nil)))) (.cst (.str "many")))) (.tE (.cmp .ne (.call "_law_word" (.cons (.cst (.int 2)) (.cons (.var 11) (.cons (.var 12) .nil)))) (.cst (.str "name"))))) (.seq (.ret (.cst (.bl false)))
 .nil) .nil)
 (.seq (.ifs (.tor (.tE (.cmp .ne (.call "_law_word" (.cons (.cst (.int 2)) (.cons (.idx (.var 3) (.cst (.int 0))) (.cons (.var 8) .nil)))) (.cst (.str "let")))) (.tnot (.tE (.call "_law_exact" (.cons (.bf .tuple (.cons (.var 8) .nil)) (.cons (.bf .tuple (.cons (.var 7) .nil)) .nil)))))) (.seq (.ret (.cst (.bl false)))
 .nil) .nil)
 (.seq (.ifs (.tnot (.tE (.call "_law_exact" (.cons (.call "rewriting_pair" (.cons (.idx (.var 3) (.cst (.int 0))) (.cons (.var 8) .nil))) (.cons (.var 9) .nil))))) (.seq (.ret (.cst (.bl false)))
 .nil) .nil)
 (.seq (.kill [3, 5, 6, 7, 8, 9, 10, 11, 12])
 .nil)))))))))))))))))
 (.seq (.ret (.cst (.bl true)))
 .nil)))))) }
abbrev r_law : Mp.Row := { f := "law", d := d_law, N := ["_law_script", "_law_hand_here", "_law_table_here", "_law_entry", "_law_first", "_law_turn", "_law_called", "_law_letters_here", "_law_given", "_law_due", "_law_strange", "_law_odd", "_law_wrong", "_law_way"], ps := ["_law_script"], at_ := ("law", none), nm := "law", qual := "law", st := top 26 }
def rows : List Mp.Row := [r_is_sequence, r_rewriting_names, r_entry_of, r_verdict_of, r_letters_of, r_filled_shape, r_rewriting_pair, r__law_hand, r__law_mixed, r__law_take, r__law_names, r__law_program, r__law_list, r__law_int, r__law_exact, r__law_table, r__law_put, r__law_letters, r__law_word, r_law]
def cs : List (String × W) := [("TABLE", (.tup [(.tup [(.str "bracket_behind"), (.int 3), (.str "alike"), (.tup [(.str "behind"), (.tup [(.str "behind"), (.str "r"), (.str "s")]), (.str "t")]), (.tup [(.str "behind"), (.str "r"), (.tup [(.str "behind"), (.str "s"), (.str "t")])])]), (.tup [(.str "drop_first"), (.int 1), (.str "alike"), (.tup [(.str "behind"), (.tup [(.str "nothing")]), (.str "r")]), (.str "r")]), (.tup [(.str "drop_last"), (.int 1), (.str "alike"), (.tup [(.str "behind"), (.str "r"), (.tup [(.str "nothing")])]), (.str "r")]), (.tup [(.str "drop_double"), (.int 1), (.str "alike"), (.tup [(.str "either"), (.str "r"), (.str "r")]), (.str "r")]), (.tup [(.str "turn_either"), (.int 2), (.str "alike"), (.tup [(.str "either"), (.str "r"), (.str "s")]), (.tup [(.str "either"), (.str "s"), (.str "r")])]), (.tup [(.str "bracket_either"), (.int 3), (.str "alike"), (.tup [(.str "either"), (.tup [(.str "either"), (.str "r"), (.str "s")]), (.str "t")]), (.tup [(.str "either"), (.str "r"), (.tup [(.str "either"), (.str "s"), (.str "t")])])]), (.tup [(.str "spread_first"), (.int 3), (.str "alike"), (.tup [(.str "behind"), (.str "r"), (.tup [(.str "either"), (.str "s"), (.str "t")])]), (.tup [(.str "either"), (.tup [(.str "behind"), (.str "r"), (.str "s")]), (.tup [(.str "behind"), (.str "r"), (.str "t")])])]), (.tup [(.str "again_once"), (.int 1), (.str "alike"), (.tup [(.str "again"), (.tup [(.str "again"), (.str "r")])]), (.tup [(.str "again"), (.str "r")])]), (.tup [(.str "again_twice"), (.int 1), (.str "alike"), (.tup [(.str "behind"), (.tup [(.str "again"), (.str "r")]), (.tup [(.str "again"), (.str "r")])]), (.tup [(.str "again"), (.str "r")])]), (.tup [(.str "again_mixed"), (.int 2), (.str "alike"), (.tup [(.str "again"), (.tup [(.str "either"), (.str "r"), (.str "s")])]), (.tup [(.str "again"), (.tup [(.str "behind"), (.tup [(.str "again"), (.str "r")]), (.tup [(.str "again"), (.str "s")])])])]), (.tup [(.str "again_ended"), (.int 1), (.str "alike"), (.tup [(.str "again"), (.str "r")]), (.tup [(.str "either"), (.tup [(.str "nothing")]), (.tup [(.str "behind"), (.tup [(.str "again"), (.str "r")]), (.str "r")])])]), (.tup [(.str "again_turns"), (.int 2), (.str "alike"), (.tup [(.str "again"), (.tup [(.str "either"), (.str "r"), (.str "s")])]), (.tup [(.str "behind"), (.tup [(.str "again"), (.tup [(.str "behind"), (.tup [(.str "again"), (.str "r")]), (.str "s")])]), (.tup [(.str "again"), (.str "r")])])]), (.tup [(.str "spread_last"), (.int 3), (.str "sharper"), (.tup [(.str "behind"), (.tup [(.str "either"), (.str "r"), (.str "s")]), (.str "t")]), (.tup [(.str "either"), (.tup [(.str "behind"), (.str "r"), (.str "t")]), (.tup [(.str "behind"), (.str "s"), (.str "t")])])]), (.tup [(.str "unroll"), (.int 1), (.str "sharper"), (.tup [(.str "again"), (.str "r")]), (.tup [(.str "either"), (.tup [(.str "nothing")]), (.tup [(.str "behind"), (.str "r"), (.tup [(.str "again"), (.str "r")])])])]), (.tup [(.str "slide_one"), (.int 1), (.str "sharper"), (.tup [(.str "behind"), (.tup [(.str "again"), (.str "r")]), (.str "r")]), (.tup [(.str "behind"), (.str "r"), (.tup [(.str "again"), (.str "r")])])]), (.tup [(.str "slide_two"), (.int 2), (.str "sharper"), (.tup [(.str "behind"), (.tup [(.str "again"), (.tup [(.str "behind"), (.str "r"), (.str "s")])]), (.str "r")]), (.tup [(.str "behind"), (.str "r"), (.tup [(.str "again"), (.tup [(.str "behind"), (.str "s"), (.str "r")])])])]), (.tup [(.str "part_again"), (.int 2), (.str "sharper"), (.tup [(.str "again"), (.tup [(.str "either"), (.str "r"), (.str "s")])]), (.tup [(.str "behind"), (.tup [(.str "again"), (.str "r")]), (.tup [(.str "again"), (.tup [(.str "behind"), (.str "s"), (.tup [(.str "again"), (.str "r")])])])])]), (.tup [(.str "halve_again"), (.int 1), (.str "sharper"), (.tup [(.str "again"), (.str "r")]), (.tup [(.str "behind"), (.tup [(.str "either"), (.tup [(.str "nothing")]), (.str "r")]), (.tup [(.str "again"), (.tup [(.str "behind"), (.str "r"), (.str "r")])])])])]))]
def cd : Mp.Cd := []
def kd : Mp.Kd := []
def ic : List String := []
def xc : Mp.Xc := [("CheckerError", some [], ["CheckerError"]), ("BadRewriting", some ["what"], ["BadRewriting", "CheckerError"])]
abbrev x_BadRewriting : Mp.Xi := { c := "BadRewriting", ns := ["what"], self := "self", qual := "BadRewriting.__init__", st := mem 2 0, b := some "CheckerError" }
def xi : List Mp.Xi := [x_BadRewriting]
theorem xk_BadRewriting : XiOk x_BadRewriting where
  chk := by decide +kernel
  sc := ⟨rfl, rfl, rfl, by decide +kernel, rfl, by decide +kernel, by decide +kernel⟩
  nd := by decide +kernel
  len := by decide
  bi := fun K f fd F => FunD.bindsN (ps := x_BadRewriting.N) F fun _ _ _ _ _ _ us hl => match us, hl with | [_, _], _ => rfl
theorem xi_ok : ∀ x ∈ xi, XiOk x := by
  unfold xi
  intro x hx
  simp only [List.mem_cons, List.mem_nil_iff, or_false] at hx
  rcases hx with rfl
  · exact xk_BadRewriting
theorem xi_all : xiAll xc xi = true := by decide +kernel
def T : Mp.Tab := { gl := glOf cs, fld := fldOf cd, mth := mthOf cd rows, prp := prpOf cd rows, kd := kdOf kd, isc := iscOf ic, ex := exOf xc, sup := supOf xc, xh := xhOf xc }
theorem ic_cd : ∀ c ∈ ic, ∃ q ∈ cd, q.1 = c := by decide
def ar : Ar := arOf rows
abbrev fa : List He.Fa := lawFa cd rows
abbrev fn : List He.DefD := lawFx rows xi
abbrev pr : List He.DefD := lawPr rows
def as0 : List PySem.Addr := [3, 6, 4, 24, 44, 53, 150, 155, 162, 169, 176, 181, 188, 195, 202, 209, 216, 223, 230, 237, 242, 249, 254, 261, 268, 273, 0, 23, 43, 52, 58, 61, 64, 66, 69, 74, 80, 84, 89, 96, 102, 110, 116, 122, 127, 134, 142, 149, 154, 161, 168, 175, 180, 187, 194, 201, 208, 215, 222, 229, 236, 241, 248, 253, 260, 267, 272, 22, 25, 41, 42, 47, 48, 49, 50, 51, 55, 57, 60, 63, 65, 67, 68, 71, 73, 76, 79, 82, 83, 87, 88, 91, 95, 97, 101, 104, 109, 112, 115, 117, 121, 124, 126, 130, 133, 136, 141, 143, 148, 151, 152, 153, 156, 157, 158, 159, 160, 163, 164, 165, 166, 167, 170, 171, 172, 173, 174, 177, 178, 179, 182, 183, 184, 185, 186, 189, 190, 191, 192, 193, 196, 197, 198, 199, 200, 203, 204, 205, 206, 207, 210, 211, 212, 213, 214, 217, 218, 219, 220, 221, 224, 225, 226, 227, 228, 231, 232, 233, 234, 235, 238, 239, 240, 243, 244, 245, 246, 247, 250, 251, 252, 255, 256, 257, 258, 259, 262, 263, 264, 265, 266, 269, 270, 271, 40, 54, 56, 59, 62, 70, 72, 75, 77, 78, 81, 85, 86, 90, 94, 98, 100, 103, 107, 108, 111, 113, 114, 118, 120, 123, 125, 129, 132, 135, 137, 140, 145, 147, 35, 36, 37, 38, 39, 92, 93, 99, 106, 119, 128, 131, 139, 144, 146, 105, 138, 2]
abbrev hk : PySem.W.Hook := hookL as0 fa fn pr (lawTs kd) (lawEx cs kd ic xc xi)
def ob (s : PySem.W.SharedT) : AlM := obsL as0 fa fn pr (lawTs kd) (lawEx cs kd ic xc xi) (HandSHeadRun.getT s)
theorem ob_eq (s : PySem.W.SharedT) : ob s = hk.obs s.abs := obsL_eq (HandSHeadRun.getT_eq s)
abbrev RwO : PySem.W.OpenRow := PySem.W.OpenLaw.row PySem.Challenge.rw_truealarms_k37_whole_rewritings_told_and
def loose0 : List Str := [("__name__" : Str), ("CheckerError" : Str), ("BadRewriting" : Str), ("is_sequence" : Str), ("TABLE" : Str), ("rewriting_names" : Str), ("entry_of" : Str), ("verdict_of" : Str), ("letters_of" : Str), ("filled_shape" : Str), ("rewriting_pair" : Str), ("_law_hand" : Str), ("_law_mixed" : Str), ("_law_take" : Str), ("_law_names" : Str), ("_law_program" : Str), ("_law_list" : Str), ("_law_int" : Str), ("_law_exact" : Str), ("_law_table" : Str), ("_law_put" : Str), ("_law_letters" : Str), ("_law_word" : Str)]
def loose : List Str := loose0
open PySem PySem.W PySem.Calls PyProof.Rows HandSHeadRun in
theorem runNa (w : World) (os : OsState) : (endF (stepQ (denQ tabQ) RwO.prog w) 12000 RwO.prog w os).map (fun s => looksF RwO.prog (boot_heap w.params) s.abs) = some (true) := by kernel_rfl
open PySem PySem.W PySem.Calls PyProof.Rows HandSHeadRun in
theorem runNb (w : World) (os : OsState) : (endF (stepQ (denQ tabQ) RwO.prog w) 12000 RwO.prog w os).map (fun s => seenQ (view RwO.prog [26]) loose (importedModules RwO.prog.main.body) (fun s => xlAt (view RwO.prog [26]) [] s && recOk RwO.toRowW.records s) s.abs) = some (openGood (view RwO.prog [26]) loose) := by kernel_rfl
open PySem PySem.W PySem.Calls PyProof.Rows HandSHeadRun in
theorem runNo (w : World) (os : OsState) : (endF (stepQ (denQ tabQ) RwO.prog w) 12000 RwO.prog w os).map (ob) = some (hk.val w) := by kernel_rfl
theorem run (w : World) : HandSHeadRun.RunEq RwO (PySem.W.view RwO.prog [26]) hk ob 12000 loose w := fun os => map3 (runNa w os) (runNb w os) (runNo w os)
end Lw
namespace Lb
open Mp
/-- the law has this def -/
class Has (D : String → Option Def) (f : String) (d : Def) : Prop where
  eq : D f = some d
/-! ### the hand of numbers -/
def Hn (rest h : LH) : Prop := ∃ (cs : List Int) (i r s : Int), h = O.dead :: O.lst [.fl (cs.map .int), .int i, .int r, .int s] :: rest ∧ (∀ c ∈ cs, 0 ≤ c) ∧ 0 ≤ i ∧ 0 ≤ r ∧ 0 ≤ s
section
variable {T : Tab} {D : String → Option Def} {n : Nat} {rest h : LH}
theorem mixed_sp [Has D "_law_mixed" d__law_mixed] {a b : Int} (ha : 0 ≤ a) (hb : 0 ≤ b) : Ok (call T D (n + 1) "_law_mixed" [.int a, .int b] h) fun w h' => h' = h ∧ ∃ r : Int, w = .int r ∧ 0 ≤ r := by
  rw [Ok_call (Has.eq : D "_law_mixed" = some d__law_mixed) rfl]
  simp [d__law_mixed]
  have h1 := Int.emod_nonneg (a * 48271 + b * 7919 + 30011) (show (2147483399 : Int) ≠ 0 by decide)
  have h2 := Int.emod_lt_of_pos (a * 48271 + b * 7919 + 30011) (show (0 : Int) < 2147483399 by decide)
  refine ⟨⟨by omega, by omega⟩, ?_⟩
  apply Int.ediv_nonneg _ (by decide)
  exact Int.emod_nonneg _ (by decide)
theorem take_sp [Has D "_law_mixed" d__law_mixed] [Has D "_law_take" d__law_take] {m : Int} (hh : Hn rest h) (h0 : 0 < m) (h1 : m < 1073741824) : Ok (call T D (n + 2) "_law_take" [.ref 1, .int m] h) fun w h' => Hn rest h' ∧ ∃ r : Nat, w = .int r ∧ (r : Int) < m := by
  obtain ⟨cs, i, r, s, rfl, hc, hi, hr, hs⟩ := hh
  rw [Ok_call (Has.eq : D "_law_take" = some d__law_take) rfl]
  have fin : ∀ {x : Int} {h : LH}, 0 ≤ x → Hn rest h → Hn rest h ∧ ∃ r : Nat, W.int (x % m) = .int r ∧ (r : Int) < m := fun {x h} hx hh => by
    have a1 := Int.emod_nonneg x (show m ≠ 0 by omega)
    have a2 := Int.emod_lt_of_pos x h0
    exact ⟨hh, (x % m).toNat, by rw [Int.toNat_of_nonneg a1], by rw [Int.toNat_of_nonneg a1]; exact a2⟩
  by_cases hr0 : r = 0
  · subst hr0
    by_cases hlt : i < cs.length
    · obtain ⟨c, hc1, hc2⟩ := ix_get hi hlt
      have hc0 := hc c hc2
      have hm : ix (cs.map W.int) i = some (.int c) := by rw [ix_map, hc1]; rfl
      by_cases hbig : c < 1000000000000000000
      · simp [d__law_take, hlt, hm, hbig]
        refine Ok.mono (mixed_sp (Int.emod_nonneg _ (by decide)) (by omega)) ?_
        rintro _ _ ⟨rfl, x, rfl, hx⟩
        simp [h0]
        simpa using fin hx ⟨cs, i + 1, 0, s, rfl, hc, by omega, by omega, hs⟩
      · have : 0 < c := by omega
        simp [d__law_take, hlt, hm, hbig, h0, h1, this]
        simpa using fin hc0 ⟨cs, i + 1, c / m, s, rfl, hc, by omega, Int.ediv_nonneg hc0 (by omega), hs⟩
    · simp [d__law_take, hlt]
      have h5 := Int.emod_nonneg (s + 1) (show (2147483549 : Int) ≠ 0 by decide)
      refine Ok.mono (mixed_sp h5 hi) ?_
      rintro _ _ ⟨rfl, x, rfl, hx⟩
      simp [h0]
      simpa using fin hx ⟨cs, i, 0, _, rfl, hc, hi, by omega, h5⟩
  · have : 0 < r := by omega
    simp [d__law_take, hr0, h0, h1, this]
    simpa using fin hr ⟨cs, i, r / m, s, rfl, hc, hi, Int.ediv_nonneg hr (by omega), hs⟩
theorem hand_sp [Has D "_law_hand" d__law_hand] {ns : List Int} (hl : ns.length ≤ 63) : Ok (call T D (n + 1) "_law_hand" [.rd (ns.map .int)] []) fun w h' => w = .ref 1 ∧ Hn [] h' := by
  rw [Ok_call (Has.eq : D "_law_hand" = some d__law_hand) rfl]
  simp [d__law_hand]
  refine forL_ok (fun ws σ h => ∃ (us cs : List Int) (t : Int), ws = us.map .int ∧ σ = [some (.rd (ns.map .int)), some (.int t), some (.ref 0), none] ∧ h = [.lst (cs.map .int)] ∧ 0 ≤ t ∧ (∀ c ∈ cs, 0 ≤ c) ∧ cs.length + us.length ≤ 63) ?_ ?_ ⟨ns, [], (ns.length : Int) + 41, rfl, rfl, rfl, by omega, by simp, by simpa using hl⟩
  · rintro σ h ⟨us, cs, t, hu, rfl, rfl, ht, hc, _⟩
    simp
    exact ⟨cs, 0, 0, t, rfl, hc, by omega, by omega, ht⟩
  · rintro w ws σ h ⟨us, cs, t, hu, rfl, rfl, ht, hc, hlen⟩
    cases us with
    | nil => cases hu
    | cons u us =>
      simp at hu hlen
      obtain ⟨rfl, rfl⟩ := hu
      refine ⟨rfl, _, rfl, ?_⟩
      have hb : cs.length < big := by unfold big; omega
      simp [isLst, evLm, hb]
      refine ⟨us, rfl, cs ++ [if u < 0 then -u else u], by simp, Int.emod_nonneg _ (by decide), ?_, by simp; omega⟩
      intro c hcm
      rcases List.mem_append.mp hcm with h1 | h1
      · exact hc c h1
      · simp at h1
        subst h1
        split <;> omega
end
end Lb
namespace Lb
open Mp
theorem sub_iff (a b : Nat) : a &&& b = a ↔ ∀ k, a.testBit k = true → b.testBit k = true := by
  constructor
  · intro h k hk
    have := congrArg (fun z => Nat.testBit z k) h
    simp [hk] at this
    exact this
  · intro h
    apply Nat.eq_of_testBit_eq
    intro k
    rw [Nat.testBit_and]
    cases hk : a.testBit k
    · simp
    · simp [h k hk]
theorem bit_lt {a k : Nat} {v : Nat} (h : a < 2 ^ v) (hk : a.testBit k = true) : k < v := by
  refine Classical.byContradiction fun z => ?_
  have := Nat.testBit_lt_two_pow (Nat.lt_of_lt_of_le h (Nat.pow_le_pow_right (by decide) (Nat.le_of_not_lt z)))
  rw [hk] at this
  cases this
/-! ### next and back lots -/
def nxF : List Nat → Nat → Nat → Nat → Nat
  | [], _, _, acc => acc
  | r :: rs, i, lot, acc => nxF rs (i + 1) lot (if lot.testBit i = true then acc ||| r else acc)
def nx (row : List Nat) (lot : Nat) : Nat := nxF row 0 lot 0
def bkF : List Nat → Nat → Nat → Nat → Nat
  | [], _, _, acc => acc
  | r :: rs, i, lot, acc => bkF rs (i + 1) lot (if r &&& lot = r then acc ||| 2 ^ i else acc)
def bk (row : List Nat) (lot : Nat) : Nat := bkF row 0 lot 0
theorem nxF_bit : ∀ (rs : List Nat) (i lot acc k : Nat), (nxF rs i lot acc).testBit k = true ↔ acc.testBit k = true ∨ ∃ j r, rs[j]? = some r ∧ lot.testBit (i + j) = true ∧ r.testBit k = true
  | [], i, lot, acc, k => by simp [nxF]
  | r :: rs, i, lot, acc, k => by
    unfold nxF
    rw [nxF_bit rs]
    constructor
    · rintro (h | ⟨j, r', h1, h2, h3⟩)
      · split at h
        · rename_i hb
          rw [Nat.testBit_or, Bool.or_eq_true] at h
          rcases h with h | h
          · exact .inl h
          · exact .inr ⟨0, r, rfl, hb, h⟩
        · exact .inl h
      · exact .inr ⟨j + 1, r', by simpa using h1, by rw [show i + (j + 1) = i + 1 + j by omega]; exact h2, h3⟩
    · rintro (h | ⟨j, r', h1, h2, h3⟩)
      · left
        split
        · rw [Nat.testBit_or, h]; rfl
        · exact h
      · cases j with
        | zero =>
          left
          simp at h1 h2
          subst h1
          rw [if_pos h2, Nat.testBit_or, h3, Bool.or_true]
        | succ j => exact .inr ⟨j, r', by simpa using h1, by rw [show i + 1 + j = i + (j + 1) by omega]; exact h2, h3⟩
theorem nx_bit (row : List Nat) (lot k : Nat) : (nx row lot).testBit k = true ↔ ∃ j r, row[j]? = some r ∧ lot.testBit j = true ∧ r.testBit k = true := by
  unfold nx
  rw [nxF_bit]
  simp
theorem bkF_bit : ∀ (rs : List Nat) (i lot acc k : Nat), (bkF rs i lot acc).testBit k = true ↔ acc.testBit k = true ∨ ∃ j r, rs[j]? = some r ∧ r &&& lot = r ∧ k = i + j
  | [], i, lot, acc, k => by simp [bkF]
  | r :: rs, i, lot, acc, k => by
    unfold bkF
    rw [bkF_bit rs]
    constructor
    · rintro (h | ⟨j, r', h1, h2, h3⟩)
      · split at h
        · rename_i hb
          rw [Nat.testBit_or, Bool.or_eq_true] at h
          rcases h with h | h
          · exact .inl h
          · rw [Nat.testBit_two_pow] at h
            have := of_decide_eq_true h
            exact .inr ⟨0, r, rfl, hb, by omega⟩
        · exact .inl h
      · exact .inr ⟨j + 1, r', by simpa using h1, h2, by omega⟩
    · rintro (h | ⟨j, r', h1, h2, h3⟩)
      · left
        split
        · rw [Nat.testBit_or, h]; rfl
        · exact h
      · cases j with
        | zero =>
          left
          simp at h1
          subst h1
          subst h3
          rw [if_pos h2, Nat.testBit_or, Nat.testBit_two_pow]
          simp
        | succ j => exact .inr ⟨j, r', by simpa using h1, h2, by omega⟩
theorem bk_bit (row : List Nat) (lot k : Nat) : (bk row lot).testBit k = true ↔ ∃ r, row[k]? = some r ∧ r &&& lot = r := by
  unfold bk
  rw [bkF_bit]
  simp
  constructor
  · rintro ⟨j, r, h1, h2, rfl⟩; exact ⟨r, h1, h2⟩
  · rintro ⟨r, h1, h2⟩; exact ⟨k, r, h1, h2, rfl⟩
def joinN (a b : List Nat) : List Nat := (a.zip b).map fun p => p.1 ||| p.2
def testN (v kept : Nat) : List Nat := (List.range v).map fun s => 2 ^ s &&& kept
end Lb
namespace Lb
open Mp
/-! ### wholes, stands, lots, rows -/
def nats (ns : List Nat) : List W := ns.map fun (n : Nat) => W.int n
/-- a tuple, or a list that stays -/
def Sq (w : W) (xs : List W) : Prop := w = .tup xs ∨ w = .fl xs
section
variable {T : Tab} {D : String → Option Def} {n : Nat} {h : LH}
theorem isq_eq [Has D "is_sequence" d_is_sequence] {w : W} {xs : List W} (hw : Sq w xs) : call T D (n + 1) "is_sequence" [w] h = .ok (.bl true) h := by
  apply Ok.eq
  rw [Ok_call (Has.eq : D "is_sequence" = some d_is_sequence) rfl]
  rcases hw with rfl | rfl <;> simp [d_is_sequence, tyAny, tyB, tyOf, kit, tyName]
theorem len_sq {w : W} {xs : List W} (hw : Sq w xs) {P : W → LH → Prop} : Ok (evF .len [w] h) P = P (.int xs.length) h := by
  rcases hw with rfl | rfl <;> rfl
theorem tup_sq {w : W} {xs : List W} (hw : Sq w xs) {P : W → LH → Prop} : Ok (evF .tuple [w] h) P = P (.tup xs) h := by
  rcases hw with rfl | rfl <;> rfl
theorem lst_sq {w : W} {xs : List W} (hw : Sq w xs) {P : W → LH → Prop} : Ok (evF .list [w] h) P = P (.fl xs) h := by
  rcases hw with rfl | rfl <;> rfl
theorem seq_sq {w : W} {xs : List W} (hw : Sq w xs) : seqOf h w = some xs := by
  rcases hw with rfl | rfl <;> rfl
theorem gd_sq {w : W} {xs : List W} (hw : Sq w xs) : gdOf h w = [] := by
  rcases hw with rfl | rfl <;> rfl
theorem rngW_nat (v : Nat) : rngW 0 (v : Int) = (List.range v).map fun (s : Nat) => W.int s := by
  unfold rngW
  simp
end
end Lb
namespace Lb
open Mp
/-! ### what the laws draw, and their own sums -/
/-- each of them a whole below m -/
def Bel (m : Nat) (y : W) : Prop := ∃ r : Nat, y = .int r ∧ r < m
section
variable {T : Tab} {D : String → Option Def} {n : Nat} {rest h : LH}
theorem rng_ok {v : Nat} (hv : v ≤ 1000) : okRng 0 (v : Int) = true ∧ v ≤ big := by
  unfold okRng big
  exact ⟨decide_eq_true (by omega), by omega⟩
end
end Lb
namespace Lb
open Mp
/-- what `_law_exact` takes, k deep -/
def exD : Nat → W → Prop
  | _, .non => True
  | _, .bl _ => True
  | _, .int _ => True
  | k + 1, .tup xs => xs.length ≤ 1000 ∧ ∀ x ∈ xs, exD k x
  | _, _ => False
section
variable {T : Tab} {D : String → Option Def} {n : Nat} {rest h : LH}
theorem lin_eq [Has D "_law_int" d__law_int] {i : Int} : call T D (n + 1) "_law_int" [.int i] h = .ok (.bl true) h := by
  apply Ok.eq
  rw [Ok_call (Has.eq : D "_law_int" = some d__law_int) rfl]
  simp [d__law_int, tyOk, tyB, tyOf, kit, tyName]
theorem exa_sc [Has D "_law_exact" d__law_exact] [Has D "_law_int" d__law_int] {w : W} (hw : w = .non ∨ (∃ b, w = .bl b) ∨ ∃ i, w = .int i) : call T D (n + 2) "_law_exact" [w, w] h = .ok (.bl true) h := by
  apply Ok.eq
  rw [Ok_call (Has.eq : D "_law_exact" = some d__law_exact) rfl]
  rcases hw with rfl | ⟨b, rfl⟩ | ⟨i, rfl⟩
  · simp [d__law_exact, tyOk, tyB, tyOf, kit, tyName]
  · cases b <;> simp [d__law_exact, tyOk, tyB, tyOf, kit, tyName, isNon]
  · simp [d__law_exact, tyOk, tyB, tyOf, kit, tyName, lin_eq]

theorem lst_sp [Has D "_law_list" d__law_list] [Has D "_law_mixed" d__law_mixed] [Has D "_law_take" d__law_take] {w : W} {xs : List W} (hh : Hn rest h) (hw : Sq w xs) : Ok (call T D (n + 3) "_law_list" [.ref 1, w] h) fun v h' => Hn rest h' ∧ Sq v xs := by
  rw [Ok_call (Has.eq : D "_law_list" = some d__law_list) rfl]
  simp [d__law_list]
  refine Ok.mono (take_sp hh (by decide) (by decide)) ?_
  rintro _ h' ⟨hh', r, rfl, hr⟩
  by_cases h0 : r = 0
  · subst h0
    simp [tup_sq hw]
    exact ⟨hh', .inl rfl⟩
  · simp [h0, lst_sq hw]
    exact ⟨hh', .inr rfl⟩
end
end Lb
namespace Lb
open Mp PySem
/-! ### data is like itself -/
def dt : Nat → W → Prop
  | _, .non => True
  | _, .bl _ => True
  | _, .int _ => True
  | k + 1, .tup xs => ∀ x ∈ xs, dt k x
  | k + 1, .fl xs => ∀ x ∈ xs, dt k x
  | _, _ => False
theorem ok_eqW {x y : W} {h : LH} {b : Bool} {P : W → LH → Prop} (e : eqW h x y = some b) : Ok (evC .eq x y h) P = P (.bl b) h := by
  simp only [evC, e, okOk]
theorem ok_neW {x y : W} {h : LH} {b : Bool} {P : W → LH → Prop} (e : eqW h x y = some b) : Ok (evC .ne x y h) P = P (.bl (!b)) h := by
  simp only [evC, e, okOk]
end Lb
namespace Lb
open Mp
/-! ### lots within lots -/
abbrev Sb (a b : Nat) : Prop := a &&& b = a
theorem Sb.refl (a : Nat) : Sb a a := Nat.and_self a
theorem Sb.trans {a b c : Nat} (h : Sb a b) (k : Sb b c) : Sb a c := (sub_iff _ _).mpr fun i hi => (sub_iff _ _).mp k i ((sub_iff _ _).mp h i hi)
theorem Sb.anti {a b : Nat} (h : Sb a b) (k : Sb b a) : a = b := by
  rw [← h, Nat.and_comm]; exact k
theorem Sb.le {a b : Nat} (h : Sb a b) : a ≤ b := by rw [← h]; exact Nat.and_le_right
theorem Sb.inl (a b : Nat) : Sb (a &&& b) a := (sub_iff _ _).mpr fun i hi => by rw [Nat.testBit_and] at hi; exact (Bool.and_eq_true_iff.mp hi).1
theorem Sb.inr (a b : Nat) : Sb (a &&& b) b := (sub_iff _ _).mpr fun i hi => by rw [Nat.testBit_and] at hi; exact (Bool.and_eq_true_iff.mp hi).2
theorem Sb.and {a b c : Nat} (h : Sb a b) (k : Sb a c) : Sb a (b &&& c) := (sub_iff _ _).mpr fun i hi => by
  rw [Nat.testBit_and, (sub_iff _ _).mp h i hi, (sub_iff _ _).mp k i hi]; rfl
theorem Sb.or {a b c : Nat} (h : Sb a c) (k : Sb b c) : Sb (a ||| b) c := (sub_iff _ _).mpr fun i hi => by
  rw [Nat.testBit_or] at hi
  rcases Bool.or_eq_true_iff.mp hi with z | z
  · exact (sub_iff _ _).mp h i z
  · exact (sub_iff _ _).mp k i z
theorem Sb.orl (a b : Nat) : Sb a (a ||| b) := (sub_iff _ _).mpr fun i hi => by rw [Nat.testBit_or, hi]; rfl
theorem Sb.orr (a b : Nat) : Sb b (a ||| b) := (sub_iff _ _).mpr fun i hi => by rw [Nat.testBit_or, hi, Bool.or_true]
theorem Sb.zero (a : Nat) : Sb 0 a := Nat.zero_and a
theorem every_bit {v k : Nat} : (2 ^ v - 1).testBit k = decide (k < v) := Nat.testBit_two_pow_sub_one v k
theorem Sb.every {v a : Nat} (h : a < 2 ^ v) : Sb a (2 ^ v - 1) := (sub_iff _ _).mpr fun i hi => by rw [every_bit]; exact decide_eq_true (bit_lt h hi)
theorem Sb.lt {v a b : Nat} (h : Sb a b) (k : b < 2 ^ v) : a < 2 ^ v := Nat.lt_of_le_of_lt h.le k
theorem every_lt (v : Nat) : 2 ^ v - 1 < 2 ^ v := Nat.sub_lt (Nat.two_pow_pos v) (by decide)
theorem or_lt {v a b : Nat} (h : a < 2 ^ v) (k : b < 2 ^ v) : a ||| b < 2 ^ v := Nat.or_lt_two_pow h k
theorem and_lt {v a b : Nat} (h : a < 2 ^ v) : a &&& b < 2 ^ v := (Sb.inl a b).lt h
theorem pow6 {v : Nat} (hv : v ≤ 6) : 2 ^ v ≤ 64 := by
  have := Nat.pow_le_pow_right (show 0 < 2 by decide) hv
  simpa using this
/-! ### next and back lots -/
theorem nx_mono {row : List Nat} {a b : Nat} (h : Sb a b) : Sb (nx row a) (nx row b) := (sub_iff _ _).mpr fun k hk => by
  obtain ⟨j, r, h1, h2, h3⟩ := (nx_bit ..).mp hk
  exact (nx_bit ..).mpr ⟨j, r, h1, (sub_iff _ _).mp h j h2, h3⟩
theorem lt_of_bits {a v : Nat} (h : ∀ k, a.testBit k = true → k < v) : a < 2 ^ v := by
  apply Nat.lt_pow_two_of_testBit
  intro i hi
  cases e : a.testBit i
  · rfl
  · have := h i e; omega
theorem nx_lt {row : List Nat} {a v : Nat} (h : ∀ r ∈ row, r < 2 ^ v) : nx row a < 2 ^ v := lt_of_bits fun k hk => by
  obtain ⟨j, r, h1, h2, h3⟩ := (nx_bit ..).mp hk
  exact bit_lt (h r (List.mem_of_getElem? h1)) h3
/-! ### glasses -/
/-- members: ascending, ALL the last, common parts are members -/
structure Gl (v : Nat) (ms : List Nat) : Prop where
  asc : ms.Pairwise (· < ·)
  lt : ∀ m ∈ ms, m < 2 ^ v
  all : 2 ^ v - 1 ∈ ms
  met : ∀ a ∈ ms, ∀ b ∈ ms, a &&& b ∈ ms
/-- as the sums round -/
def rdF (lot : Nat) (acc : Nat) (ms : List Nat) : Nat := ms.foldl (fun acc m => if lot &&& m = lot then acc &&& m else acc) acc
def rd (ms : List Nat) (lot : Nat) : Nat := rdF lot (ms.getLastD 0) ms
theorem rdF_sb {lot : Nat} : ∀ {ms : List Nat} {acc : Nat}, Sb (rdF lot acc ms) acc ∧ ∀ m ∈ ms, Sb lot m → Sb (rdF lot acc ms) m
  | [], acc => ⟨Sb.refl _, fun m hm => by cases hm⟩
  | x :: ms, acc => by
    have ih := rdF_sb (lot := lot) (ms := ms) (acc := if lot &&& x = lot then acc &&& x else acc)
    show Sb (rdF lot (if lot &&& x = lot then acc &&& x else acc) ms) acc ∧ ∀ m ∈ x :: ms, Sb lot m → Sb (rdF lot (if lot &&& x = lot then acc &&& x else acc) ms) m
    by_cases h : lot &&& x = lot
    · rw [if_pos h] at ih ⊢
      refine ⟨ih.1.trans (Sb.inl _ _), fun m hm hs => ?_⟩
      rcases List.mem_cons.mp hm with rfl | hm
      · exact ih.1.trans (Sb.inr _ _)
      · exact ih.2 m hm hs
    · rw [if_neg h] at ih ⊢
      refine ⟨ih.1, fun m hm hs => ?_⟩
      rcases List.mem_cons.mp hm with rfl | hm
      · exact absurd hs h
      · exact ih.2 m hm hs
theorem rdF_has {lot : Nat} : ∀ {ms : List Nat} {acc : Nat}, Sb lot acc → Sb lot (rdF lot acc ms)
  | [], acc, h => h
  | x :: ms, acc, h => by
    show Sb lot (rdF lot (if lot &&& x = lot then acc &&& x else acc) ms)
    apply rdF_has
    split
    · rename_i k; exact h.and k
    · exact h
theorem rdF_mem {lot : Nat} {M : List Nat} (hM : ∀ a ∈ M, ∀ b ∈ M, a &&& b ∈ M) : ∀ {ms : List Nat} {acc : Nat}, (∀ m ∈ ms, m ∈ M) → acc ∈ M → rdF lot acc ms ∈ M
  | [], acc, _, h => h
  | x :: ms, acc, hs, h => by
    show rdF lot (if lot &&& x = lot then acc &&& x else acc) ms ∈ M
    apply rdF_mem hM (fun m hm => hs m (List.mem_cons_of_mem _ hm))
    split
    · exact hM _ h _ (hs x (List.mem_cons_self ..))
    · exact h
section
variable {v : Nat} {ms : List Nat} (g : Gl v ms)
include g
theorem Gl.ne : ms ≠ [] := fun h => by have := g.all; rw [h] at this; cases this
theorem Gl.last : ms.getLast? = some (2 ^ v - 1) := by
  have h1 : ms.getLast? = some (ms.getLast g.ne) := List.getLast?_eq_some_getLast g.ne
  rw [h1]
  have hm := List.getLast_mem g.ne
  have h2 := g.lt _ hm
  have h3 : 2 ^ v - 1 ≤ ms.getLast g.ne := by
    obtain ⟨i, hi, e⟩ := List.getElem_of_mem g.all
    have hp := g.asc
    rw [List.pairwise_iff_getElem] at hp
    rcases Nat.lt_or_ge i (ms.length - 1) with hl | hl
    · have := hp i (ms.length - 1) hi (by omega) hl
      rw [List.getLast_eq_getElem]
      omega
    · have e2 : i = ms.length - 1 := by omega
      subst e2
      rw [List.getLast_eq_getElem]
      omega
  have : ms.getLast g.ne = 2 ^ v - 1 := by omega
  rw [this]
theorem Gl.lastD : ms.getLastD 0 = 2 ^ v - 1 := by rw [List.getLastD_eq_getLast?, g.last]; rfl
theorem Gl.rd_mem (lot : Nat) : rd ms lot ∈ ms := by
  unfold rd
  rw [g.lastD]
  exact rdF_mem g.met (fun _ h => h) g.all
theorem Gl.rd_lt (lot : Nat) : rd ms lot < 2 ^ v := g.lt _ (g.rd_mem lot)
theorem Gl.rd_has {lot : Nat} (h : lot < 2 ^ v) : Sb lot (rd ms lot) := by
  unfold rd
  rw [g.lastD]
  exact rdF_has (Sb.every h)
omit g in
theorem rd_sb {ms : List Nat} {lot m : Nat} (hm : m ∈ ms) (h : Sb lot m) : Sb (rd ms lot) m := rdF_sb.2 m hm h
theorem Gl.rd_fix {m : Nat} (hm : m ∈ ms) : rd ms m = m := (rd_sb hm (Sb.refl m)).anti (g.rd_has (g.lt m hm))
theorem Gl.mem_iff {a : Nat} (ha : a < 2 ^ v) : a ∈ ms ↔ rd ms a = a := ⟨g.rd_fix, fun h => by rw [← h]; exact g.rd_mem a⟩
theorem Gl.le {m : Nat} (hm : m ∈ ms) : m ≤ 2 ^ v - 1 := by have := g.lt m hm; omega
theorem Gl.nodup : ms.Nodup := List.Pairwise.imp (fun h => Nat.ne_of_lt h) g.asc
omit g in
theorem nodup_len : ∀ {n : Nat} {ms : List Nat}, ms.Nodup → (∀ m ∈ ms, m < n) → ms.length ≤ n
  | 0, ms, _, h => by
    cases ms with
    | nil => simp
    | cons x r => have := h x (List.mem_cons_self ..); omega
  | n + 1, ms, hn, h => by
    have h2 : ∀ m ∈ ms.erase n, m < n := fun m hm => by
      obtain ⟨h3, h4⟩ := (List.Nodup.mem_erase_iff hn).mp hm
      have := h m h4
      omega
    have h3 := nodup_len (hn.erase n) h2
    have h4 : ms.length - 1 ≤ (ms.erase n).length := by
      by_cases hm : n ∈ ms
      · rw [List.length_erase_of_mem hm]; omega
      · rw [List.erase_of_not_mem hm]; omega
    omega
theorem Gl.len : ms.length ≤ 2 ^ v := nodup_len g.nodup g.lt
/-! a step is sharp at a lot -/
/-- what the document calls sharp -/
def shp (ms row : List Nat) (lot : Nat) : Prop := rd ms (nx row lot) = rd ms (nx row (rd ms lot))
instance (ms row : List Nat) (lot : Nat) : Decidable (shp ms row lot) := inferInstanceAs (Decidable (_ = _))
end
end Lb
namespace Lb
open Mp
/-! ### sorting -/
def insN (x : Nat) : List Nat → List Nat
  | [] => [x]
  | y :: ys => if x ≤ y then x :: y :: ys else y :: insN x ys
def sortN : List Nat → List Nat
  | [] => []
  | x :: xs => insN x (sortN xs)
/-! ### lots met -/
def kput (ks : List Nat) (x : Nat) : List Nat := if x ∈ ks then ks else ks ++ [x]
def kstepF (lot : Nat) (acc : List Nat) (us : List Nat) : List Nat := us.foldl (fun acc one => kput acc (one &&& lot)) acc
def kstep (ks : List Nat) (lot : Nat) : List Nat := kstepF lot ks ks
def kmetF (ks : List Nat) (lots : List Nat) : List Nat := lots.foldl kstep ks
def kmet (v : Nat) (lots : List Nat) : List Nat := kmetF [2 ^ v - 1] lots
def mets (v : Nat) (lots : List Nat) : List Nat := sortN (kmet v lots)
theorem mem_kput {ks : List Nat} {x y : Nat} : y ∈ kput ks x ↔ y ∈ ks ∨ y = x := by
  unfold kput
  split
  · rename_i h
    exact ⟨.inl, fun z => z.elim id fun e => e ▸ h⟩
  · simp
theorem nodup_kput {ks : List Nat} {x : Nat} (h : ks.Nodup) : (kput ks x).Nodup := by
  unfold kput
  split
  · exact h
  · rename_i hx
    rw [List.nodup_append]
    exact ⟨h, by simp, fun a ha b hb e => hx (by simp at hb; rw [← hb, ← e]; exact ha)⟩
theorem mem_kstepF {lot : Nat} : ∀ {us acc : List Nat} {y : Nat}, y ∈ kstepF lot acc us ↔ y ∈ acc ∨ ∃ one ∈ us, y = one &&& lot
  | [], acc, y => by simp [kstepF]
  | u :: us, acc, y => by
    show y ∈ kstepF lot (kput acc (u &&& lot)) us ↔ _
    rw [mem_kstepF, mem_kput, or_assoc]
    simp
theorem nodup_kstepF {lot : Nat} : ∀ {us acc : List Nat}, acc.Nodup → (kstepF lot acc us).Nodup
  | [], acc, h => h
  | u :: us, acc, h => nodup_kstepF (us := us) (nodup_kput h)
theorem mem_kstep {ks : List Nat} {lot y : Nat} : y ∈ kstep ks lot ↔ y ∈ ks ∨ ∃ one ∈ ks, y = one &&& lot := mem_kstepF
/-- what the keys are while lots are met -/
structure Km (v : Nat) (ks : List Nat) : Prop where
  nd : ks.Nodup
  lt : ∀ k ∈ ks, k < 2 ^ v
  all : 2 ^ v - 1 ∈ ks
  met : ∀ a ∈ ks, ∀ b ∈ ks, a &&& b ∈ ks
theorem and4 (a b l : Nat) : (a &&& l) &&& (b &&& l) = (a &&& b) &&& l := by
  apply Nat.eq_of_testBit_eq
  intro i
  simp only [Nat.testBit_and]
  cases a.testBit i <;> cases b.testBit i <;> cases l.testBit i <;> rfl
theorem Km.step {v : Nat} {ks : List Nat} (k : Km v ks) (lot : Nat) : Km v (kstep ks lot) := by
  refine ⟨nodup_kstepF k.nd, fun y hy => ?_, mem_kstep.mpr (.inl k.all), fun a ha b hb => ?_⟩
  · rcases mem_kstep.mp hy with h | ⟨one, h, rfl⟩
    · exact k.lt y h
    · exact and_lt (k.lt one h)
  · rcases mem_kstep.mp ha with h1 | ⟨o1, h1, rfl⟩ <;> rcases mem_kstep.mp hb with h2 | ⟨o2, h2, rfl⟩
    · exact mem_kstep.mpr (.inl (k.met _ h1 _ h2))
    · exact mem_kstep.mpr (.inr ⟨_, k.met _ h1 _ h2, (Nat.and_assoc ..).symm⟩)
    · exact mem_kstep.mpr (.inr ⟨_, k.met _ h1 _ h2, by rw [Nat.and_assoc, Nat.and_comm lot, Nat.and_assoc]⟩)
    · exact mem_kstep.mpr (.inr ⟨_, k.met _ h1 _ h2, and4 ..⟩)
theorem Km.steps {v : Nat} : ∀ {lots ks : List Nat}, Km v ks → Km v (kmetF ks lots)
  | [], _, k => k
  | l :: lots, ks, k => Km.steps (lots := lots) (ks := kstep ks l) (k.step l)
theorem Km.one (v : Nat) : Km v [2 ^ v - 1] := ⟨by simp, fun k hk => by simp at hk; subst hk; exact every_lt v, by simp, fun a ha b hb => by simp at ha hb; subst ha; subst hb; simp⟩
theorem Km.len {v : Nat} {ks : List Nat} (k : Km v ks) : ks.length ≤ 2 ^ v := nodup_len k.nd k.lt
end Lb
namespace Lb
open Mp
section
variable {T : Tab} {D : String → Option Def} {n : Nat} {rest h : LH}
theorem nats_mem {ks : List Nat} {x : Nat} : W.int (x : Int) ∈ nats ks ↔ x ∈ ks := by
  unfold nats
  rw [List.mem_map]
  constructor
  · rintro ⟨y, hy, e⟩
    have : (y : Int) = x := by injection e
    have : y = x := by omega
    subst this; exact hy
  · exact fun h => ⟨x, h, rfl⟩
/-! ### the hand's heap -/
theorem Hn.len (hh : Hn rest h) : h.length = rest.length + 2 := by
  obtain ⟨cs, i, r, s, rfl, _⟩ := hh
  rfl
theorem Hn.app (hh : Hn rest h) (js : LH) : Hn (rest ++ js) (h ++ js) := by
  obtain ⟨cs, i, r, s, rfl, k⟩ := hh
  exact ⟨cs, i, r, s, rfl, k⟩
theorem Hn.at (hh : Hn rest h) (k : Nat) : h[k + 2]? = rest[k]? := by
  obtain ⟨cs, i, r, s, rfl, _⟩ := hh
  rfl
theorem Hn.put (hh : Hn rest h) (k : Nat) (o : O) : Hn (rest.set k o) (h.set (k + 2) o) := by
  obtain ⟨cs, i, r, s, rfl, q⟩ := hh
  exact ⟨cs, i, r, s, rfl, q⟩
theorem Hn.last {o : O} (hh : Hn (rest ++ [o]) h) : h[rest.length + 2]? = some o := by
  rw [hh.at]; simp
/-- a drawing function's end: things may be left behind -/
def Hx (rest h : LH) : Prop := ∃ js, Hn (rest ++ js) h
theorem Hn.hx (hh : Hn rest h) : Hx rest h := ⟨[], by simpa using hh⟩
theorem Hn.hxa {js : LH} (hh : Hn (rest ++ js) h) : Hx rest h := ⟨js, hh⟩
end
end Lb
namespace Lb
open Mp PySem
/-! ### == of data without truth values -/
mutual
def dz : W → Bool
  | .non => true
  | .int _ => true
  | .str s => PyData.canLay0 (.str (Str.ofString s))
  | .tup xs => dzs xs
  | .fl xs => dzs xs
  | _ => false
def dzs : List W → Bool
  | [] => true
  | x :: xs => dz x && dzs xs
end
mutual
def dep : W → Nat
  | .tup xs => deps xs + 1
  | .fl xs => deps xs + 1
  | _ => 0
def deps : List W → Nat
  | [] => 0
  | x :: xs => max (dep x) (deps xs)
end
mutual
def tod : W → PyData
  | .int i => .int i
  | .str s => .str (Str.ofString s)
  | .tup xs => .tuple (tods xs)
  | .fl xs => .list (tods xs)
  | .bl b => .bool b
  | _ => .none
def tods : List W → List PyData
  | [] => []
  | x :: xs => tod x :: tods xs
end
mutual
theorem dat_tod {h : LH} : ∀ (w : W) (n : Nat), dz w = true → dep w ≤ n → dat h (n + 1) w = some (tod w)
  | .non, _, _, _ => rfl
  | .int _, _, _, _ => rfl
  | .str _, _, _, _ => rfl
  | .tup xs, n, h1, h2 => by
    unfold dz at h1
    unfold dep at h2
    obtain ⟨m, rfl⟩ : ∃ m, n = m + 1 := ⟨n - 1, by omega⟩
    show (xs.mapM (dat h (m + 1))).map PyData.tuple = _
    rw [dat_tods xs m h1 (by omega)]
    unfold tod; rfl
  | .fl xs, n, h1, h2 => by
    unfold dz at h1
    unfold dep at h2
    obtain ⟨m, rfl⟩ : ∃ m, n = m + 1 := ⟨n - 1, by omega⟩
    show (xs.mapM (dat h (m + 1))).map PyData.list = _
    rw [dat_tods xs m h1 (by omega)]
    unfold tod; rfl
  | .bl _, _, h, _ => by simp [dz] at h
  | .rd _, _, h, _ => by simp [dz] at h
  | .ref _, _, h, _ => by simp [dz] at h
  | .obj _ _ _, _, h, _ => by simp [dz] at h
  | .exc _ _ _, _, h, _ => by simp [dz] at h
  | .dic _ _, _, h, _ => by simp [dz] at h
theorem dat_tods {h : LH} : ∀ (xs : List W) (n : Nat), dzs xs = true → deps xs ≤ n → xs.mapM (dat h (n + 1)) = some (tods xs)
  | [], _, _, _ => rfl
  | x :: xs, n, h1, h2 => by
    unfold dzs at h1
    unfold deps at h2
    have k := Bool.and_eq_true_iff.mp h1
    rw [List.mapM_cons, dat_tod x n k.1 (by omega), dat_tods xs n k.2 (by omega)]
    simp only [tods]; rfl
end
mutual
theorem lay_tod : ∀ w : W, dz w = true → (tod w).canLay0 = true ∧ (tod w).depth ≤ dep w
  | .non, _ => ⟨rfl, Nat.le_refl _⟩
  | .int _, _ => ⟨rfl, Nat.le_refl _⟩
  | .str s, h => by
    unfold dz at h
    exact ⟨by unfold tod; exact h, Nat.le_refl _⟩
  | .tup xs, h => by
    unfold dz at h
    obtain ⟨a, b⟩ := lay_tods xs h
    unfold tod dep
    exact ⟨by simpa [PyData.canLay0] using a, by simp only [PyData.depth]; omega⟩
  | .fl xs, h => by
    unfold dz at h
    obtain ⟨a, b⟩ := lay_tods xs h
    unfold tod dep
    exact ⟨by simpa [PyData.canLay0] using a, by simp only [PyData.depth]; omega⟩
  | .bl _, h => by simp [dz] at h
  | .rd _, h => by simp [dz] at h
  | .ref _, h => by simp [dz] at h
  | .obj _ _ _, h => by simp [dz] at h
  | .exc _ _ _, h => by simp [dz] at h
  | .dic _ _, h => by simp [dz] at h
theorem lay_tods : ∀ xs : List W, dzs xs = true → PyData.canLayAll0 (tods xs) = true ∧ PyData.depthAll (tods xs) ≤ deps xs
  | [], _ => ⟨rfl, Nat.le_refl _⟩
  | x :: xs, h => by
    unfold dzs at h
    have k := Bool.and_eq_true_iff.mp h
    obtain ⟨a, b⟩ := lay_tod x k.1
    obtain ⟨c, d⟩ := lay_tods xs k.2
    unfold tods deps
    exact ⟨by simp only [PyData.canLayAll0, a, c, Bool.and_self], by simp only [PyData.depthAll]; omega⟩
end
mutual
theorem eqv_tod : ∀ x y : W, dz x = true → dz y = true → PyData.eqv (tod x) (tod y) = decide (x = y)
  | .non, y, _, h => by cases y <;> first | (simp [dz] at h; done) | simp [tod, PyData.eqv]
  | .int i, y, _, h => by
    cases y <;> first | (simp [dz] at h; done) | simp [tod, PyData.eqv]
    exact Bool.eq_iff_iff.mpr (by simp)
  | .str s, y, _, h => by
    cases y <;> first | (simp [dz] at h; done) | simp [tod, PyData.eqv]
    rename_i t
    by_cases e : s = t
    · subst e; simp
    · have : ¬ Str.ofString s = Str.ofString t := fun z => e (str_inj z)
      simp [e, this]
  | .tup xs, y, h1, h => by
    unfold dz at h1
    cases y <;> first | (simp [dz] at h; done) | (simp [tod, PyData.eqv]; done) | skip
    rename_i ys
    unfold dz at h
    show PyData.eqv (.tuple (tods xs)) (.tuple (tods ys)) = _
    unfold PyData.eqv
    rw [eqv_tods xs ys h1 h]
    by_cases e : xs = ys <;> simp [e]
  | .fl xs, y, h1, h => by
    unfold dz at h1
    cases y <;> first | (simp [dz] at h; done) | (simp [tod, PyData.eqv]; done) | skip
    rename_i ys
    unfold dz at h
    show PyData.eqv (.list (tods xs)) (.list (tods ys)) = _
    unfold PyData.eqv
    rw [eqv_tods xs ys h1 h]
    by_cases e : xs = ys <;> simp [e]
  | .bl _, _, h, _ => by simp [dz] at h
  | .rd _, _, h, _ => by simp [dz] at h
  | .ref _, _, h, _ => by simp [dz] at h
  | .obj _ _ _, _, h, _ => by simp [dz] at h
  | .exc _ _ _, _, h, _ => by simp [dz] at h
  | .dic _ _, _, h, _ => by simp [dz] at h
theorem eqv_tods : ∀ xs ys : List W, dzs xs = true → dzs ys = true → PyData.eqvAll (tods xs) (tods ys) = decide (xs = ys)
  | [], [], _, _ => by simp [tods, PyData.eqvAll]
  | [], y :: ys, _, _ => by simp [tods, PyData.eqvAll]
  | x :: xs, [], _, _ => by simp [tods, PyData.eqvAll]
  | x :: xs, y :: ys, h1, h2 => by
    unfold dzs at h1 h2
    have k1 := Bool.and_eq_true_iff.mp h1
    have k2 := Bool.and_eq_true_iff.mp h2
    unfold tods PyData.eqvAll
    rw [eqv_tod x y k1.1 k2.1, eqv_tods xs ys k1.2 k2.2]
    by_cases e1 : x = y <;> by_cases e2 : xs = ys <;> simp [e1, e2]
end
theorem scq_dz {x y : W} {b : Bool} (h1 : dz x = true) (h2 : dz y = true) (e : scq x y = some b) : b = decide (x = y) := by
  cases x <;> first | (simp [dz] at h1; done) | skip
  all_goals cases y <;> first | (simp [dz] at h2; done) | (simp [scq] at e; done) | skip
  all_goals
    simp [scq] at e
    subst e
    simp
theorem eqW_dz {h : LH} {x y : W} (h1 : dz x = true) (h2 : dz y = true) (d1 : dep x ≤ 20) (d2 : dep y ≤ 20) : eqW h x y = some (decide (x = y)) := by
  unfold eqW
  cases e : scq x y with
  | some b => rw [scq_dz h1 h2 e]
  | none =>
    have e1 : dat h depthMax x = some (tod x) := dat_tod x 23 h1 (by omega)
    have e2 : dat h depthMax y = some (tod y) := dat_tod y 23 h2 (by omega)
    obtain ⟨a1, a2⟩ := lay_tod x h1
    obtain ⟨b1, b2⟩ := lay_tod y h2
    dsimp only
    rw [e1, e2]
    dsimp only
    have s1 : SeqAt.shaped (tod x) = true := by
      unfold SeqAt.shaped
      rw [a1, decide_eq_true (by omega : (tod x).depth ≤ 64)]; rfl
    have s2 : SeqAt.shaped (tod y) = true := by
      unfold SeqAt.shaped
      rw [b1, decide_eq_true (by omega : (tod y).depth ≤ 64)]; rfl
    rw [s1, s2, eqv_tod x y h1 h2]
    rfl
theorem dzs_nats : ∀ ns : List Nat, dzs (nats ns) = true ∧ deps (nats ns) = 0
  | [] => ⟨rfl, rfl⟩
  | n :: ns => by
    obtain ⟨a, b⟩ := dzs_nats ns
    show dzs (W.int n :: nats ns) = true ∧ deps (W.int n :: nats ns) = 0
    unfold dzs deps
    rw [a, b]
    exact ⟨rfl, rfl⟩
theorem nats_inj : ∀ {a b : List Nat}, nats a = nats b ↔ a = b
  | [], [] => by simp
  | [], y :: b => by simp [nats]
  | x :: a, [] => by simp [nats]
  | x :: a, y :: b => by
    show W.int x :: nats a = W.int y :: nats b ↔ _
    simp only [List.cons.injEq, W.int.injEq, nats_inj (a := a) (b := b)]
    constructor
    · rintro ⟨h1, h2⟩; exact ⟨by omega, h2⟩
    · rintro ⟨h1, h2⟩; exact ⟨by omega, h2⟩
theorem eqW_fl {h : LH} {a b : List Nat} : eqW h (.fl (nats a)) (.fl (nats b)) = some (decide (a = b)) := by
  have e : ∀ c : List Nat, dz (.fl (nats c)) = true ∧ dep (.fl (nats c)) = 1 := fun c => by
    obtain ⟨x, y⟩ := dzs_nats c
    unfold dz dep
    rw [x, y]; exact ⟨rfl, rfl⟩
  rw [eqW_dz (e a).1 (e b).1 (by rw [(e a).2]; decide) (by rw [(e b).2]; decide)]
  congr 1
  exact Bool.eq_iff_iff.mpr (by simp only [decide_eq_true_iff, W.fl.injEq, nats_inj])
theorem eqW_tu {h : LH} {a b : List Nat} : eqW h (.tup (nats a)) (.tup (nats b)) = some (decide (a = b)) := by
  have e : ∀ c : List Nat, dz (.tup (nats c)) = true ∧ dep (.tup (nats c)) = 1 := fun c => by
    obtain ⟨x, y⟩ := dzs_nats c
    unfold dz dep
    rw [x, y]; exact ⟨rfl, rfl⟩
  rw [eqW_dz (e a).1 (e b).1 (by rw [(e a).2]; decide) (by rw [(e b).2]; decide)]
  congr 1
  exact Bool.eq_iff_iff.mpr (by simp only [decide_eq_true_iff, W.tup.injEq, nats_inj])
@[simp ↓] theorem ok_eqfl {h : LH} {a b : List Nat} {P : W → LH → Prop} : Ok (evC .eq (.fl (nats a)) (.fl (nats b)) h) P = P (.bl (decide (a = b))) h := ok_eqW eqW_fl
@[simp ↓] theorem ok_nefl {h : LH} {a b : List Nat} {P : W → LH → Prop} : Ok (evC .ne (.fl (nats a)) (.fl (nats b)) h) P = P (.bl (!decide (a = b))) h := ok_neW eqW_fl
@[simp ↓] theorem ok_eqtu {h : LH} {a b : List Nat} {P : W → LH → Prop} : Ok (evC .eq (.tup (nats a)) (.tup (nats b)) h) P = P (.bl (decide (a = b))) h := ok_eqW eqW_tu
@[simp ↓] theorem ok_netu {h : LH} {a b : List Nat} {P : W → LH → Prop} : Ok (evC .ne (.tup (nats a)) (.tup (nats b)) h) P = P (.bl (!decide (a = b))) h := ok_neW eqW_tu
/-- in, of wholes -/
theorem flat_nats (ns : List Nat) : (nats ns).all flatW = true := by
  rw [List.all_eq_true]
  intro x hx
  obtain ⟨u, _, rfl⟩ := List.mem_map.mp hx
  rfl
theorem any_nats (x : Nat) (ns : List Nat) : ((nats ns).any fun z => eqF z (.int (x : Int))) = decide (x ∈ ns) := by
  rw [Bool.eq_iff_iff, List.any_eq_true, decide_eq_true_iff]
  constructor
  · rintro ⟨y, hy, e⟩
    obtain ⟨u, hu, rfl⟩ := List.mem_map.mp hy
    have e2 : (u : Int) = x := of_decide_eq_true e
    have : u = x := by omega
    subst this; exact hu
  · intro h
    exact ⟨.int x, nats_mem.mpr h, decide_eq_true rfl⟩
theorem inW_sq {h : LH} {w : W} {ns : List Nat} {x : Nat} (hw : seqOf h w = some (nats ns)) : inW h (.int (x : Int)) w = some (decide (x ∈ ns)) := by
  unfold inW
  rw [hw]
  dsimp only
  rw [flat_nats, any_nats]
  rfl
theorem ok_in {h : LH} {w : W} {ns : List Nat} {x : Nat} (hw : seqOf h w = some (nats ns)) {P : W → LH → Prop} : Ok (evC .isin (.int (x : Int)) w h) P = P (.bl (decide (x ∈ ns))) h := by
  show Ok (match inW h (.int (x : Int)) w with | some b => R.ok (.bl b) h | none => R.no) P = _
  rw [inW_sq hw, okOk]
theorem ok_nin {h : LH} {w : W} {ns : List Nat} {x : Nat} (hw : seqOf h w = some (nats ns)) {P : W → LH → Prop} : Ok (evC .nin (.int (x : Int)) w h) P = P (.bl (!decide (x ∈ ns))) h := by
  show Ok (match inW h (.int (x : Int)) w with | some b => R.ok (.bl (!b)) h | none => R.no) P = _
  rw [inW_sq hw, okOk]
@[simp ↓] theorem ok_inF {h : LH} {ns : List Nat} {x : Nat} {P : W → LH → Prop} : Ok (evC .isin (.int (x : Int)) (.fl (nats ns)) h) P = P (.bl (decide (x ∈ ns))) h := ok_in rfl
@[simp ↓] theorem ok_inT {h : LH} {ns : List Nat} {x : Nat} {P : W → LH → Prop} : Ok (evC .isin (.int (x : Int)) (.tup (nats ns)) h) P = P (.bl (decide (x ∈ ns))) h := ok_in rfl
@[simp ↓] theorem ok_ninF {h : LH} {ns : List Nat} {x : Nat} {P : W → LH → Prop} : Ok (evC .nin (.int (x : Int)) (.fl (nats ns)) h) P = P (.bl (!decide (x ∈ ns))) h := ok_nin rfl
@[simp ↓] theorem ok_ninT {h : LH} {ns : List Nat} {x : Nat} {P : W → LH → Prop} : Ok (evC .nin (.int (x : Int)) (.tup (nats ns)) h) P = P (.bl (!decide (x ∈ ns))) h := ok_nin rfl
end Lb
namespace Lb
open Mp
/-- glasses as they stand -/
def gl (v : Nat) (ms : List Nat) : W := .obj "Glasses" ["stands", "members"] [.int v, .tup (nats ms)]
/-- the law's table knows the class -/
class GT (T : Tab) : Prop where
  fld : T.fld "Glasses" = ["stands", "members"]
  ini : T.mth "Glasses" "__init__" 2 = true
  rnd : T.mth "Glasses" "rounded" 1 = true
  con : T.mth "Glasses" "__contains__" 1 = true
  evr : T.prp "Glasses" "every" = true
  lst : T.prp "Glasses" "least" = true
section
variable {T : Tab} {D : String → Option Def} {n : Nat} {rest h : LH}
theorem okRng_small {a b : Nat} (ha : a ≤ 1000) (hb : b ≤ 1000) : okRng (a : Int) (b : Int) = true := by
  unfold okRng big
  exact decide_eq_true (by omega)
end
end Lb
namespace Lb
open Mp
@[simp] theorem and_flat {a b c : Prop} : ((a ∧ b) ∧ c) = (a ∧ (b ∧ c)) := propext and_assoc
/-- a row that is good for v stands -/
structure Rw (v : Nat) (row : List Nat) : Prop where
  len : row.length = v
  lt : ∀ r ∈ row, r < 2 ^ v
theorem Rw.le {v : Nat} {row : List Nat} (r : Rw v row) (h : v ≤ 6) : row.length ≤ 1000 := by have := r.len; omega
section
variable {T : Tab} {D : String → Option Def} {n : Nat} {rest h : LH}
theorem comp_sift {f c : Env → LH → R W} {i : Nat} {g : Gd} {σ : Env} (F : Nat → W) (p : Nat → Bool) {us : List Nat} (hg : gOk g h = true) (hs : ∀ u ∈ us, c (σ.set i (some (.int (u : Nat)))) h = .ok (.bl (p u)) h ∧ (p u = true → f (σ.set i (some (.int (u : Nat)))) h = .ok (F u) h)) : compL f c (.one i) σ g (nats us) h = .ok ((us.filter p).map F) h := by
  rw [compL_filter (fun x => match x with | .int i => F i.toNat | x => x) (fun x => match x with | .int i => p i.toNat | _ => false) hg]
  · unfold nats
    rw [List.filter_map, List.map_map]
    rfl
  · intro w hw
    obtain ⟨s, hs1, rfl⟩ := List.mem_map.mp hw
    obtain ⟨a1, a2⟩ := hs s hs1
    exact ⟨_, rfl, a1, a2⟩
/-- rounded lots, all of them -/
def rds (v : Nat) (ms : List Nat) : List Nat := (List.range (2 ^ v)).map (rd ms)
/-- rows as they are handed round -/
def Rows (v : Nat) (ws : List W) (rows : List (List Nat)) : Prop := ws.length = rows.length ∧ ∀ (i : Nat) (w : W) (row : List Nat), ws[i]? = some w → rows[i]? = some row → Sq w (nats row) ∧ Rw v row
theorem Rows.cons {v : Nat} {w : W} {ws : List W} {rows : List (List Nat)} (r : Rows v (w :: ws) rows) : ∃ row rs, rows = row :: rs ∧ Sq w (nats row) ∧ Rw v row ∧ Rows v ws rs := by
  cases rows with
  | nil => have := r.1; cases this
  | cons row rs =>
    obtain ⟨a, b⟩ := r.2 0 w row rfl rfl
    exact ⟨row, rs, rfl, a, b, by have := r.1; simpa using this, fun i w row h1 h2 => r.2 (i + 1) w row (by simpa using h1) (by simpa using h2)⟩
@[simp ↓] theorem ok_eqfl0 {a : List Nat} {P : W → LH → Prop} : Ok (evC .eq (.fl (nats a)) (.fl []) h) P = P (.bl (decide (a = []))) h := ok_eqfl (b := [])
@[simp ↓] theorem ok_nefl0 {a : List Nat} {P : W → LH → Prop} : Ok (evC .ne (.fl (nats a)) (.fl []) h) P = P (.bl (!decide (a = []))) h := ok_nefl (b := [])
theorem exa_int [Has D "_law_exact" d__law_exact] [Has D "_law_int" d__law_int] {i : Int} : call T D (n + 2) "_law_exact" [.int i, .int i] h = .ok (.bl true) h := exa_sc (.inr (.inr ⟨i, rfl⟩))
end
end Lb
namespace Lb
open Mp
/-! ### a body in parts -/
def fst : Nat → S → S
  | n + 1, .seq s r => .seq s (fst n r)
  | _, _ => .nil
def rst : Nat → S → S
  | n + 1, .seq _ r => rst n r
  | 0, s => s
  | _ + 1, s => s
section
variable {T : Tab} {cl : Cl} {nx ct bk : Env → LH → Prop} {rt : W → LH → Prop}
theorem Sk_cut0 : ∀ (k : Nat) (s : S) (σ : Env) (h : LH), Sk (evS T cl (fst k s) σ h) (fun σ1 h1 => Sk (evS T cl (rst k s) σ1 h1) nx rt ct bk) rt ct bk → Sk (evS T cl s σ h) nx rt ct bk
  | 0, s, σ, h, q => by
    have q2 : Sk (evS T cl .nil σ h) (fun σ1 h1 => Sk (evS T cl s σ1 h1) nx rt ct bk) rt ct bk := by cases s <;> exact q
    rw [sk_nil] at q2
    exact q2
  | k + 1, s, σ, h, q => by
    cases s with
    | seq s r =>
      have q2 : Sk (evS T cl (.seq s (fst k r)) σ h) (fun σ1 h1 => Sk (evS T cl (rst k r) σ1 h1) nx rt ct bk) rt ct bk := q
      rw [sk_seq] at q2 ⊢
      exact q2.mono (fun σ1 h1 z => Sk_cut0 k r σ1 h1 z) (fun _ _ z => z) (fun _ _ z => z) (fun _ _ z => z)
    | _ =>
      have q2 : Sk (evS T cl .nil σ h) (fun σ1 h1 => Sk (evS T cl _ σ1 h1) nx rt ct bk) rt ct bk := q
      rw [sk_nil] at q2
      exact q2
end
end Lb
namespace Lb
open Mp
/-! ### back lots that are no members -/
def obk (ms row : List Nat) : List Nat := (ms.map (bk row)).filter fun b => decide (b ∉ ms)
section
variable {v : Nat} {ms row : List Nat}
theorem Rw.nx_lt (r : Rw v row) {m : Nat} : nx row m < 2 ^ v := Lb.nx_lt r.lt
end
/-! ### lots by their size -/
def sts (l : Nat) : List Nat := (List.range 6).filter fun s => l.testBit s
theorem sts_mem {l s : Nat} : s ∈ sts l ↔ s < 6 ∧ l.testBit s = true := by
  unfold sts
  rw [List.mem_filter, List.mem_range]
theorem sts_sub {a b : Nat} (h : Sb a b) : (sts a).Sublist (sts b) := by
  unfold sts
  have e : (List.range 6).filter (fun s => a.testBit s) = ((List.range 6).filter fun s => b.testBit s).filter fun s => a.testBit s := by
    rw [List.filter_filter]
    apply List.filter_congr
    intro s _
    cases e : a.testBit s
    · rfl
    · rw [(sub_iff _ _).mp h s e]; rfl
  rw [e]
  exact List.filter_sublist
theorem sts_len {a b : Nat} (h : Sb a b) (hb : b < 64) (hl : (sts b).length ≤ (sts a).length) : b = a := by
  have e := (sts_sub h).eq_of_length_le hl
  refine Sb.anti ((sub_iff _ _).mpr fun i hi => ?_) h
  have : i < 6 := bit_lt (v := 6) hb hi
  exact (sts_mem.mp (by rw [e]; exact sts_mem.mpr ⟨this, hi⟩)).2
/-- a lot with its size -/
def szp (l : Nat) : Int × Int := ((sts l).length, l)
def wis (m : Nat) : List Nat := (List.range (m + 1)).filter fun l => decide (l &&& m = l)
/-- the lots within m, by size -/
def lbs (m : Nat) : List Nat := (sortP ((wis m).map szp)).map fun p => p.2.toNat
/-- those with P that have none below them -/
def lstF (P : Nat → Bool) (os : List Nat) : List Nat := os.filter fun o => P o && os.all fun e => !(P e && decide (Sb e o)) || decide (e = o)
/-- as the program gathers them: the elder ones hold it or not -/
def lstG (P : Nat → Bool) (fd : List Nat) (o : Nat) : List Nat := if P o = true ∧ ¬ ∃ e ∈ fd, Sb e o then fd ++ [o] else fd
end Lb
namespace Lb
open Mp
section
variable {T : Tab} {D : String → Option Def} {n : Nat} {rest h : LH}
theorem seq_ref {k : Nat} {xs : List W} (hk : h[k]? = some (.lst xs)) : seqOf h (.ref k) = some xs := by
  show (match h[k]? with | some (.lst xs) => some xs | _ => none) = _
  rw [hk]
/-- a list or a tuple, at any place -/
def Lq (h : LH) (w : W) (xs : List W) : Prop := w = .tup xs ∨ w = .fl xs ∨ ∃ k, w = .ref k ∧ h[k]? = some (.lst xs)
theorem Lq.seq {w : W} {xs : List W} (q : Lq h w xs) : seqOf h w = some xs := by
  rcases q with rfl | rfl | ⟨k, rfl, hk⟩
  · rfl
  · rfl
  · exact seq_ref hk
theorem Lq.ref {k : Nat} {xs : List W} (hk : h[k]? = some (.lst xs)) : Lq h (.ref k) xs := .inr (.inr ⟨k, rfl, hk⟩)
/-! ### the first member whose back lot is no member -/
/-- the law's table knows the class -/
class UT (T : Tab) : Prop where
  fld : T.fld "Unsharp" = ["member", "back"]
  ini : T.mth "Unsharp" "__init__" 2 = true
def uns (ms row : List Nat) : Option Nat := ms.find? fun m => decide (bk row m ∉ ms)
def unsW (m b : Nat) : W := .obj "Unsharp" ["member", "back"] [.int m, .int b]
end
end Lb
namespace Lb
open Mp
section
variable {T : Tab} {D : String → Option Def} {n : Nat} {rest h : LH}
/-! ### greatest and least ones, as the texts find them -/
/-- none of the lots above it -/
def topB (bs : List Nat) (x : Nat) : Bool := bs.all fun o => decide (o = x) || !decide (Sb x o)
/-- none of the lots below it -/
def lowB (bs : List Nat) (x : Nat) : Bool := bs.all fun o => decide (o = x) || !decide (Sb o x)
/-- the back lots that are no members, each once -/
def bksS (ms row : List Nat) (acc : List Nat) (m : Nat) : List Nat := if bk row m ∉ ms ∧ bk row m ∉ acc then acc ++ [bk row m] else acc
def bks (ms row : List Nat) : List Nat := ms.foldl (bksS ms row) []
theorem app_at {h : LH} {o : O} : (h ++ [o])[h.length]? = some o := by simp
def lshP (ms row : List Nat) (m : Nat) (o : Nat) : Bool := decide (rd ms o = m) && decide (shp ms row o)
end
end Lb
namespace Lb
open Mp
section
variable {T : Tab} {D : String → Option Def} {n : Nat} {rest h : LH}
/-! ### comprehensions and loops over what a list of things is mapped to -/
theorem comp_gen {α : Type} {f c : Env → LH → R W} {tg : Tg} {g : Gd} {σ : Env} (G F : α → W) (p : α → Bool) (τ : α → Env) (hg : gOk g h = true) : ∀ {us : List α},
    (∀ u ∈ us, bindT tg (G u) σ = some (τ u) ∧ c (τ u) h = .ok (.bl (p u)) h ∧ (p u = true → f (τ u) h = .ok (F u) h)) → compL f c tg σ g (us.map G) h = .ok ((us.filter p).map F) h
  | [], _ => by unfold compL; rw [List.map_nil]; dsimp only; rw [if_pos hg]; rfl
  | u :: us, hs => by
    obtain ⟨h1, h2, h3⟩ := hs u (List.mem_cons_self ..)
    have ih := comp_gen G F p τ hg fun w hw => hs w (List.mem_cons_of_mem _ hw)
    rw [List.map_cons]
    unfold compL
    rw [if_pos hg, h1]
    dsimp only
    rw [h2]
    cases hp : p u with
    | true =>
      show ((f (τ u) h).noex.bind fun y h2 => (compL f c tg σ g (us.map G) h2).bind fun ys h3 => .ok (y :: ys) h3) = _
      rw [h3 hp]
      show ((compL f c tg σ g (us.map G) h).bind fun ys h3 => .ok (F u :: ys) h3) = _
      rw [ih, List.filter_cons_of_pos hp]
      rfl
    | false =>
      show compL f c tg σ g (us.map G) h = _
      rw [ih, List.filter_cons_of_neg (by simp [hp])]
theorem comp_all {α : Type} {f c : Env → LH → R W} {tg : Tg} {g : Gd} {σ : Env} (G F : α → W) (τ : α → Env) {us : List α} (hg : gOk g h = true)
    (hs : ∀ u ∈ us, bindT tg (G u) σ = some (τ u) ∧ c (τ u) h = .ok (.bl true) h ∧ f (τ u) h = .ok (F u) h) : compL f c tg σ g (us.map G) h = .ok (us.map F) h := by
  rw [comp_gen G F (fun _ => true) τ hg fun u hu => ⟨(hs u hu).1, (hs u hu).2.1, fun _ => (hs u hu).2.2⟩, List.filter_eq_self.mpr fun _ _ => rfl]
theorem for_inv {α : Type} {body : Env → LH → RS} {tg : Tg} {g : Gd} {nx ct bk : Env → LH → Prop} {rt : W → LH → Prop} (G : α → W) (I : List α → Env → LH → Prop) (h0 : ∀ σ h, I [] σ h → gOk g h = true ∧ nx σ h)
    (hs : ∀ u us σ h, I (u :: us) σ h → gOk g h = true ∧ ∃ σ1, bindT tg (G u) σ = some σ1 ∧ Sk (body σ1 h) (I us) rt (I us) nx) {us : List α} {σ : Env} {h : LH} (i : I us σ h) : Sk (forL body tg g (us.map G) σ h) nx rt ct bk := by
  refine forL_ok (fun ws σ h => ∃ us, ws = us.map G ∧ I us σ h) ?_ ?_ ⟨us, rfl, i⟩
  · rintro σ h ⟨us, e, i⟩
    cases us with
    | nil => exact h0 σ h i
    | cons u us => cases e
  · rintro w ws σ h ⟨us, e, i⟩
    cases us with
    | nil => cases e
    | cons u us =>
      obtain ⟨rfl, rfl⟩ := List.cons.inj e
      obtain ⟨h1, σ1, h2, h3⟩ := hs u us σ h i
      exact ⟨h1, σ1, h2, h3.mono (fun _ _ z => ⟨us, rfl, z⟩) (fun _ _ z => z) (fun _ _ z => ⟨us, rfl, z⟩) (fun _ _ z => z)⟩
@[simp ↓] theorem ok_eq00 {P : W → LH → Prop} : Ok (evC .eq (.fl []) (.fl []) h) P = P (.bl true) h := ok_eqfl0 (a := [])
@[simp ↓] theorem ok_ne00 {P : W → LH → Prop} : Ok (evC .ne (.fl []) (.fl []) h) P = P (.bl false) h := ok_nefl0 (a := [])
end
end Lb
/-! cores of rows: the plain law -/
namespace Lb
open Mp
section
variable {v : Nat} {ms row l ρ : List Nat}
/-- one row within another -/
def Rle (a b : List Nat) : Prop := a.length = b.length ∧ ∀ (i x y : Nat), a[i]? = some x → b[i]? = some y → Sb x y
theorem Rle.refl (a : List Nat) : Rle a a := ⟨rfl, fun i x y h1 h2 => by rw [h1] at h2; cases h2; exact Sb.refl x⟩
theorem Rle.trans {a b c : List Nat} (h : Rle a b) (k : Rle b c) : Rle a c := ⟨h.1.trans k.1, fun i x y h1 h2 => by
  have hl : i < b.length := by rw [k.1]; exact (List.getElem?_eq_some_iff.mp h2).1
  exact (h.2 i x _ h1 (List.getElem?_eq_getElem hl)).trans (k.2 i _ y (List.getElem?_eq_getElem hl) h2)⟩
theorem Rle.anti {a b : List Nat} (h : Rle a b) (k : Rle b a) : a = b := by
  refine List.ext_getElem? fun i => ?_
  by_cases hi : i < a.length
  · have hj : i < b.length := by rw [← h.1]; exact hi
    rw [List.getElem?_eq_getElem hi, List.getElem?_eq_getElem hj]
    exact congrArg some ((h.2 i _ _ (List.getElem?_eq_getElem hi) (List.getElem?_eq_getElem hj)).anti (k.2 i _ _ (List.getElem?_eq_getElem hj) (List.getElem?_eq_getElem hi)))
  · have hj : ¬ i < b.length := by rw [← h.1]; exact hi
    rw [List.getElem?_eq_none (by omega), List.getElem?_eq_none (by omega)]
theorem Rle.bk {a b : List Nat} (h : Rle a b) {m : Nat} : Sb (bk b m) (bk a m) := (sub_iff _ _).mpr fun k hk => by
  obtain ⟨y, h1, h2⟩ := (bk_bit ..).mp hk
  have hl : k < a.length := by rw [h.1]; exact (List.getElem?_eq_some_iff.mp h1).1
  refine (bk_bit ..).mpr ⟨a[k], List.getElem?_eq_getElem hl, ?_⟩
  exact (h.2 k _ y (List.getElem?_eq_getElem hl) h1).trans h2
def shpA (ms row : List Nat) : Prop := ∀ m ∈ ms, bk row m ∈ ms
instance : Decidable (shpA ms row) := inferInstanceAs (Decidable (∀ m ∈ ms, bk row m ∈ ms))
/-- a row with one lot cut -/
def cutS (row : List Nat) (s m : Nat) : List Nat := row.set s (row.getD s 0 &&& m)
def rgt (ms row : List Nat) (s m : Nat) : Bool := (rd ms (bk row m)).testBit s && !(bk row m).testBit s
theorem cutS_len {s m : Nat} : (cutS row s m).length = row.length := List.length_set
theorem cutS_get {s m i : Nat} : (cutS row s m)[i]? = (row[i]?).map fun x => if i = s then x &&& m else x := by
  unfold cutS
  rw [List.getElem?_set]
  by_cases h : s = i
  · subst h
    rw [if_pos rfl]
    by_cases hl : s < row.length
    · rw [if_pos hl, List.getElem?_eq_getElem hl]
      simp [List.getD, List.getElem?_eq_getElem hl]
    · rw [if_neg hl, List.getElem?_eq_none (by omega)]
      rfl
  · rw [if_neg h]
    cases row[i]? with
    | none => rfl
    | some x => simp [show ¬ i = s from fun z => h z.symm]
theorem Rw.cut (r : Rw v row) {s m : Nat} : Rw v (cutS row s m) := ⟨by rw [cutS_len]; exact r.len, fun x hx => by
  obtain ⟨i, hi⟩ := List.mem_iff_getElem?.mp hx
  rw [cutS_get] at hi
  obtain ⟨y, h1, h2⟩ := Option.map_eq_some_iff.mp hi
  have hy := r.lt y (List.mem_of_getElem? h1)
  subst h2
  split
  · exact and_lt hy
  · exact hy⟩
theorem cutS_le {s m : Nat} : Rle (cutS row s m) row := ⟨cutS_len, fun i x y h1 h2 => by
  rw [cutS_get, h2] at h1
  simp only [Option.map_some, Option.some.injEq] at h1
  subst h1
  split
  · exact Sb.inl _ _
  · exact Sb.refl _⟩
theorem cut_keeps (g : Gl v ms) (r : Rw v row) {s m : Nat} (hm : m ∈ ms) (hr : rgt ms row s m = true) (hl : Rle ρ row) (hs : shpA ms ρ) : Rle ρ (cutS row s m) := by
  refine ⟨by rw [cutS_len]; exact hl.1, fun i x y h1 h2 => ?_⟩
  rw [cutS_get] at h2
  obtain ⟨z, h3, h4⟩ := Option.map_eq_some_iff.mp h2
  have h5 := hl.2 i x z h1 h3
  subst h4
  split
  · rename_i e
    subst e
    refine h5.and ?_
    unfold rgt at hr
    have hr := (Bool.and_eq_true_iff.mp hr).1
    have h6 : Sb (rd ms (bk row m)) (bk ρ m) := rd_sb (hs m hm) hl.bk
    have h7 := (sub_iff _ _).mp h6 i hr
    obtain ⟨q, h8, h9⟩ := (bk_bit ..).mp h7
    rw [h8] at h1
    cases h1
    exact h9
  · exact h5
/-- right cuts, one behind another -/
inductive Chn (v : Nat) (ms : List Nat) : List Nat → List (Nat × Nat) → List Nat → Prop
  | nil (row : List Nat) : Chn v ms row [] row
  | cons {row : List Nat} {s m : Nat} {cs : List (Nat × Nat)} {l : List Nat} : s < v → m ∈ ms → rgt ms row s m = true → Chn v ms (cutS row s m) cs l → Chn v ms row ((s, m) :: cs) l
theorem Chn.rw {cs : List (Nat × Nat)} (c : Chn v ms row cs l) (r : Rw v row) : Rw v l := by
  induction c with
  | nil row => exact r
  | cons _ _ _ _ ih => exact ih r.cut
theorem Chn.le {cs : List (Nat × Nat)} (c : Chn v ms row cs l) : Rle l row := by
  induction c with
  | nil row => exact Rle.refl _
  | cons _ _ _ _ ih => exact ih.trans cutS_le
theorem Chn.keeps {cs : List (Nat × Nat)} (c : Chn v ms row cs l) (g : Gl v ms) (r : Rw v row) (hl : Rle ρ row) (hs : shpA ms ρ) : Rle ρ l := by
  induction c with
  | nil row => exact hl
  | cons h1 h2 h3 h4 ih => exact ih r.cut (cut_keeps g r h2 h3 hl hs)
theorem sum_le {B : Nat} : ∀ {l : List Nat}, (∀ x ∈ l, x < B) → l.sum ≤ l.length * B
  | [], _ => Nat.zero_le _
  | x :: l, h => by
    have := sum_le (l := l) fun y hy => h y (List.mem_cons_of_mem _ hy)
    have := h x (List.mem_cons_self ..)
    rw [List.sum_cons, List.length_cons, Nat.succ_mul]; omega
theorem Rw.sum (r : Rw v row) (h6 : v ≤ 6) : row.sum ≤ 384 := by
  have h1 := sum_le (B := 64) fun x hx => Nat.lt_of_lt_of_le (r.lt x hx) (pow6 h6)
  have h2 := r.len
  have : row.length * 64 ≤ 6 * 64 := Nat.mul_le_mul_right _ (by omega)
  omega
/-- the first right cut -/
def wo (a b : Nat) : Nat := a - (a &&& b)
def fcut (ms row : List Nat) (us : List Nat) : Option (Nat × Nat) := us.findSome? fun m => ((sts (wo (rd ms (bk row m)) (bk row m)))[0]?).map fun s => (s, m)
end
end Lb
/-! cores of rows: the walks -/
namespace Lb
open Mp
@[simp] theorem tru_tup {h : LH} {xs : List W} : truW h (.tup xs) = some (!xs.isEmpty) := nrfl rfl
@[simp] theorem tru_fl {h : LH} {xs : List W} : truW h (.fl xs) = some (!xs.isEmpty) := nrfl rfl
theorem ev_cst {T : Tab} {cl : Cl} {w : W} {σ : Env} {h : LH} : evE T cl (.cst w) σ h = .ok w h := by simp only [evE]
class KT (T : Tab) : Prop where
  fld : T.fld "Core" = ["row", "cuts"]
  ini : T.mth "Core" "__init__" 2 = true
  wf : T.wf = 5000
section
variable {T : Tab} {D : String → Option Def} {n : Nat} {rest h : LH}
variable {v : Nat} {ms row : List Nat}
def cutW (c : Nat × Nat) : W := .tup [.int c.1, .int c.2]
def cutO : Option (Nat × Nat) → W
  | none => .non
  | some c => cutW c
def coreW (l : List Nat) (cs : List (Nat × Nat)) : W := .obj "Core" ["row", "cuts"] [.tup (nats l), .tup (cs.map cutW)]
end
end Lb
/-! chains of cuts, judged -/
namespace Lb
open Mp
/-- an int or a truth value -/
def Ib (w : W) : Prop := (∃ i, w = .int i) ∨ ∃ b, w = .bl b
/-- things that are put in the place of cuts -/
def Cti (w : W) : Prop := w = .non ∨ (∃ xs, w = .fl xs) ∨ (∃ xs, w = .tup xs ∧ xs.length ≠ 2) ∨ ∃ a b, w = .tup [a, b] ∧ Ib a ∧ Ib b
def cutOf (v : Nat) (ms : List Nat) : W → Option (Nat × Nat)
  | .tup [.int a, .int b] => if 0 ≤ a ∧ a < v ∧ 0 ≤ b ∧ b.toNat ∈ ms then some (a.toNat, b.toNat) else none
  | _ => none
/-- the first fault of a chain -/
def flt (v : Nat) (ms : List Nat) (told : W) : List Nat → Nat → List W → W
  | l, i, [] => if told = .tup (nats l) then (if shpA ms l then .non else .tup [.int i, .str "sharp"]) else .tup [.int i, .str "row"]
  | l, i, c :: cs => match cutOf v ms c with
    | none => .tup [.int i, .str "cut"]
    | some p => if rgt ms l p.1 p.2 = true then flt v ms told (cutS l p.1 p.2) (i + 1) cs else .tup [.int i, .str "back"]
section
variable {T : Tab} {D : String → Option Def} {n : Nat} {rest h : LH}
variable {v : Nat} {ms row : List Nat}
end
end Lb
/-! chains of cuts, judged: the walks -/
namespace Lb
open Mp
section
variable {T : Tab} {D : String → Option Def} {n : Nat} {rest h : LH}
variable {v : Nat} {ms row : List Nat}
end
end Lb
/-! cores: the law's own sums -/
namespace Lb
open Mp
section
variable {T : Tab} {D : String → Option Def} {n : Nat} {rest h : LH}
variable {v : Nat} {ms row : List Nat}
def rle (a b : List Nat) : Bool := (List.range a.length).all fun i => decide (Sb (a.getD i 0) (b.getD i 0))
def siz (l : Nat) : Nat := (sts l).length
end
end Lb
/-! cores: the law's judge, its chain -/
namespace Lb
open Mp
section
variable {T : Tab} {D : String → Option Def} {n : Nat} {rest h : LH}
variable {v : Nat} {ms row : List Nat}
end
end Lb
/-! cores: a chain in a drawn order -/
namespace Lb
open Mp
section
variable {v : Nat} {ms row l : List Nat}
def pop (l : List Nat) : Nat := (l.map siz).sum
theorem pop_le : ∀ {l : List Nat}, pop l ≤ l.length * 6
  | [] => Nat.zero_le _
  | x :: l => by
    have := pop_le (l := l)
    have h : siz x ≤ 6 := by
      have := List.length_filter_le (fun s => x.testBit s) (List.range 6)
      rw [List.length_range] at this
      exact this
    unfold pop at this ⊢
    rw [List.map_cons, List.sum_cons, List.length_cons, Nat.succ_mul]; omega
theorem Rw.pop (r : Rw v row) (h6 : v ≤ 6) : pop row ≤ 36 := by
  have h1 := pop_le (l := row)
  have h2 := r.len
  have : row.length * 6 ≤ 6 * 6 := Nat.mul_le_mul_right _ (by omega)
  omega
/-- all right cuts that a member makes -/
def fit1 (v : Nat) (ms l : List Nat) (m : Nat) : List (Nat × Nat) := ((List.range v).filter fun s => rgt ms l s m).map fun s => (s, m)
def fits (v : Nat) (ms l : List Nat) : List (Nat × Nat) := ms.flatMap (fit1 v ms l)
end
section
variable {T : Tab} {D : String → Option Def} {n : Nat} {rest h : LH}
variable {v : Nat} {ms row : List Nat}
end
end Lb
/-! rows within a row -/
namespace Lb
open Mp
section
variable {h : LH}
end
def flN (k : List Nat) : W := .fl (nats k)
section
variable {T : Tab} {D : String → Option Def} {n : Nat} {rest h : LH}
variable {v : Nat} {ms row : List Nat}
end
end Lb
/-! slices; data with truth values -/
namespace Lb
open Mp PySem
section
variable {T : Tab} {cl : Cl} {σ : Mp.Env} {h : LH} {P : W → LH → Prop}
theorem ok_optP {o : Option (Option Int)} {l : LH} {Q : Option Int → LH → Prop} : Ok (optR o l) Q = ∃ i, o = some i ∧ Q i l := by cases o <;> simp [optR, Ok]
@[simp ↓] theorem ok_sl {o lo hi : E} : Ok (evE T cl (.sl o lo hi) σ h) P = Ok (evE T cl o σ h) fun x h1 => Ok (evE T cl lo σ h1) fun y h2 => ∃ l, part (isNil lo) y = some l ∧ Ok (evE T cl hi σ h2) fun z h3 => ∃ u, part (isNil hi) z = some u ∧ Ok (evSl x l u h3) P := by
  simp only [evE, Ok_bind, ok_optP]
theorem clip_nat {n d k : Nat} : clip n d (some (k : Int)) = min k n := by
  unfold clip
  dsimp only
  rw [if_neg (by omega)]
  rfl
theorem cut_take {α : Type} {xs : List α} {k : Nat} : cut xs none (some (k : Int)) = xs.take k := by
  unfold cut
  rw [clip_nat]
  unfold clip
  dsimp only
  rw [List.drop_zero, Nat.sub_zero, ← List.take_eq_take_min]
theorem cut_drop {α : Type} {xs : List α} {k : Nat} : cut xs (some (k : Int)) none = xs.drop k := by
  unfold cut
  rw [clip_nat]
  unfold clip
  dsimp only
  by_cases hk : k ≤ xs.length
  · rw [Nat.min_eq_left hk, List.take_of_length_le (by rw [List.length_drop]; exact Nat.le_refl _)]
  · rw [Nat.min_eq_right (by omega), List.drop_length, List.drop_of_length_le (by omega), List.take_nil]
theorem cut_drop1 {α : Type} {xs : List α} {k : Nat} : cut xs (some ((k : Int) + 1)) none = xs.drop (k + 1) := cut_drop (k := k + 1)
@[simp ↓] theorem ok_slF {xs : List W} {l u : Option Int} : Ok (evSl (.fl xs) l u h) P = P (.fl (cut xs l u)) h := nrfl rfl
@[simp ↓] theorem ok_slT {xs : List W} {l u : Option Int} : Ok (evSl (.tup xs) l u h) P = P (.tup (cut xs l u)) h := nrfl rfl
@[simp] theorem part_t {w : W} : part true w = some none := by cases w <;> rfl
@[simp] theorem part_i {i : Int} : part false (.int i) = some (some i) := nrfl rfl
@[simp] theorem isNil_n : isNil .nil = true := nrfl rfl
@[simp] theorem isNil_v {i : Nat} : isNil (.var i) = false := nrfl rfl
@[simp] theorem isNil_u {o : UOp} {a : E} : isNil (.un o a) = false := nrfl rfl
@[simp] theorem isNil_b {o : BOp} {a b : E} : isNil (.bin o a b) = false := nrfl rfl
@[simp] theorem isNil_c {w : W} : isNil (.cst w) = false := nrfl rfl
@[simp ↓] theorem ok_lsmF {xs : List W} : Ok (evF .listm [.fl xs] h) P = P (.ref h.length) (h ++ [.lst xs]) := nrfl rfl
@[simp ↓] theorem ok_lsmT {xs : List W} : Ok (evF .listm [.tup xs] h) P = P (.ref h.length) (h ++ [.lst xs]) := nrfl rfl
@[simp ↓] theorem ok_neg {i : Int} : Ok (evU .neg (.int i) h) P = P (.int (-i)) h := nrfl rfl
end
/-! ### data, truth values among them -/
mutual
def dy : W → Bool
  | .non => true
  | .int _ => true
  | .bl _ => true
  | .tup xs => dys xs
  | .fl xs => dys xs
  | _ => false
def dys : List W → Bool
  | [] => true
  | x :: xs => dy x && dys xs
end
mutual
theorem dat_dy {h : LH} : ∀ (w : W) (n : Nat), dy w = true → dep w ≤ n → dat h (n + 1) w = some (tod w)
  | .non, _, _, _ => rfl
  | .int _, _, _, _ => rfl
  | .bl _, _, _, _ => rfl
  | .tup xs, n, h1, h2 => by
    unfold dy at h1
    unfold dep at h2
    obtain ⟨m, rfl⟩ : ∃ m, n = m + 1 := ⟨n - 1, by omega⟩
    show (xs.mapM (dat h (m + 1))).map PyData.tuple = _
    rw [dat_dys xs m h1 (by omega)]
    unfold tod; rfl
  | .fl xs, n, h1, h2 => by
    unfold dy at h1
    unfold dep at h2
    obtain ⟨m, rfl⟩ : ∃ m, n = m + 1 := ⟨n - 1, by omega⟩
    show (xs.mapM (dat h (m + 1))).map PyData.list = _
    rw [dat_dys xs m h1 (by omega)]
    unfold tod; rfl
  | .str _, _, h, _ => by simp [dy] at h
  | .rd _, _, h, _ => by simp [dy] at h
  | .ref _, _, h, _ => by simp [dy] at h
  | .obj _ _ _, _, h, _ => by simp [dy] at h
  | .exc _ _ _, _, h, _ => by simp [dy] at h
  | .dic _ _, _, h, _ => by simp [dy] at h
theorem dat_dys {h : LH} : ∀ (xs : List W) (n : Nat), dys xs = true → deps xs ≤ n → xs.mapM (dat h (n + 1)) = some (tods xs)
  | [], _, _, _ => rfl
  | x :: xs, n, h1, h2 => by
    unfold dys at h1
    unfold deps at h2
    have k := Bool.and_eq_true_iff.mp h1
    rw [List.mapM_cons, dat_dy x n k.1 (by omega), dat_dys xs n k.2 (by omega)]
    simp only [tods]; rfl
end
mutual
theorem lay_dy : ∀ w : W, dy w = true → (tod w).canLay0 = true ∧ (tod w).depth ≤ dep w
  | .non, _ => ⟨rfl, Nat.le_refl _⟩
  | .int _, _ => ⟨rfl, Nat.le_refl _⟩
  | .bl _, _ => ⟨rfl, Nat.le_refl _⟩
  | .tup xs, h => by
    unfold dy at h
    obtain ⟨a, b⟩ := lay_dys xs h
    unfold tod dep
    exact ⟨by simpa [PyData.canLay0] using a, by simp only [PyData.depth]; omega⟩
  | .fl xs, h => by
    unfold dy at h
    obtain ⟨a, b⟩ := lay_dys xs h
    unfold tod dep
    exact ⟨by simpa [PyData.canLay0] using a, by simp only [PyData.depth]; omega⟩
  | .str _, h => by simp [dy] at h
  | .rd _, h => by simp [dy] at h
  | .ref _, h => by simp [dy] at h
  | .obj _ _ _, h => by simp [dy] at h
  | .exc _ _ _, h => by simp [dy] at h
  | .dic _ _, h => by simp [dy] at h
theorem lay_dys : ∀ xs : List W, dys xs = true → PyData.canLayAll0 (tods xs) = true ∧ PyData.depthAll (tods xs) ≤ deps xs
  | [], _ => ⟨rfl, Nat.le_refl _⟩
  | x :: xs, h => by
    unfold dys at h
    have k := Bool.and_eq_true_iff.mp h
    obtain ⟨a, b⟩ := lay_dy x k.1
    obtain ⟨c, d⟩ := lay_dys xs k.2
    unfold tods deps
    exact ⟨by simp only [PyData.canLayAll0, a, c, Bool.and_self], by simp only [PyData.depthAll]; omega⟩
end
end Lb
/-! named steps -/
namespace Lb
open Mp
/-- things and what they stand for, one by one -/
inductive Rl {α : Type} (R : W → α → Prop) : List W → List α → Prop
  | nil : Rl R [] []
  | cons {w : W} {u : α} {ws : List W} {us : List α} : R w u → Rl R ws us → Rl R (w :: ws) (u :: us)
theorem Rl.len {α : Type} {R : W → α → Prop} {ws : List W} {us : List α} (r : Rl R ws us) : ws.length = us.length := by
  induction r with
  | nil => rfl
  | cons _ _ ih => simp [ih]
theorem Rl.map {α : Type} {R : W → α → Prop} (F : α → W) {us : List α} (h : ∀ u ∈ us, R (F u) u) : Rl R (us.map F) us := by
  induction us with
  | nil => exact .nil
  | cons u us ih => exact .cons (h u (List.mem_cons_self ..)) (ih fun x hx => h x (List.mem_cons_of_mem _ hx))
theorem Rl.app {α : Type} {R : W → α → Prop} {ws xs : List W} {us vs : List α} (a : Rl R ws us) (b : Rl R xs vs) : Rl R (ws ++ xs) (us ++ vs) := by
  induction a with
  | nil => exact b
  | cons h _ ih => exact .cons h ih
@[simp] theorem filter_no {α : Type} {l : List α} : l.filter (fun _ => false) = [] := List.filter_eq_nil_iff.mpr fun _ _ z => by cases z
class ST (T : Tab) : Prop where
  lets : T.gl "LETTERS" = some (.str "abcdefghijklmnopqrstuvwxyz")
  mst : T.gl "MOST_STANDS" = some (.int 6)
  mse : T.gl "MOST_STEPS" = some (.int 20)
  fld : T.fld "Steps" = ["stands", "names", "rows"]
  ini : T.mth "Steps" "__init__" 2 = true
def lets : List Char := ['a', 'b', 'c', 'd', 'e', 'f', 'g', 'h', 'i', 'j', 'k', 'l', 'm', 'n', 'o', 'p', 'q', 'r', 's', 't', 'u', 'v', 'w', 'x', 'y', 'z']
def nmB (s : String) : Bool := decide (1 ≤ s.length) && (decide (s.length ≤ 8) && (!decide (s = "nothing") && s.toList.all fun c => decide (c ∈ lets)))
section
variable {h : LH} {P : W → LH → Prop}
@[simp ↓] theorem ok_lenS {s : String} : Ok (evF .len [.str s] h) P = (s.length ≤ big ∧ P (.int s.length) h) := by
  show Ok (if _ then _ else _) P = _
  split <;> simp [*, Ok]
@[simp ↓] theorem ok_eqSt {s t : String} : Ok (evC .eq (.str s) (.str t) h) P = P (.bl (decide (s = t))) h := nrfl rfl
@[simp ↓] theorem ok_neSt {s t : String} : Ok (evC .ne (.str s) (.str t) h) P = P (.bl (!decide (s = t))) h := nrfl rfl
end
section
variable {T : Tab} {D : String → Option Def} {n : Nat} {rest h : LH}
variable {v : Nat} {ms row : List Nat}
/-- an entry's name and row -/
def EntR (v : Nat) (w : W) (p : String × List Nat) : Prop := ∃ wr, Sq w [.str p.1, wr] ∧ Sq wr (nats p.2) ∧ Rw v p.2
def stW (v : Nat) (st : List (String × List Nat)) : W := .obj "Steps" ["stands", "names", "rows"] [.int v, .tup (st.map fun p => .str p.1), .tup (st.map fun p => .tup (nats p.2))]
/-- names drawn out of the pool -/
def pool : List String := ["f", "g", "h", "ab", "zz", "go", "longname", "n", "nothings", "a"]
end
end Lb
/-! named steps: drawn ones -/
namespace Lb
open Mp
section
variable {T : Tab} {D : String → Option Def} {n : Nat} {rest h : LH}
variable {v : Nat} {ms row : List Nat}
theorem Hx.app {rest h js : LH} (x : Hx rest h) : Hx rest (h ++ js) := by
  obtain ⟨k, hh⟩ := x
  exact ⟨k ++ js, by rw [← List.append_assoc]; exact hh.app js⟩
theorem Hx.tr {rest js h : LH} (x : Hx (rest ++ js) h) : Hx rest h := by
  obtain ⟨k, hh⟩ := x
  exact ⟨js ++ k, by rw [← List.append_assoc]; exact hh⟩
/-- a name and its row, as the laws hold them -/
def entW (p : String × List Nat) : W := .tup [.str p.1, .fl (nats p.2)]
/-- good named steps -/
structure Stp (v : Nat) (st : List (String × List Nat)) : Prop where
  nd : (st.map (·.1)).Nodup
  nm : ∀ p ∈ st, nmB p.1 = true
  rw : ∀ p ∈ st, Rw v p.2
  len : st.length ≤ 20
theorem Rl.of {α : Type} {R : W → α → Prop} : ∀ {us : List α} {ys : List W}, ys.length = us.length → (∀ (i : Nat) (u : α) (y : W), us[i]? = some u → ys[i]? = some y → R y u) → Rl R ys us
  | [], ys, hl, _ => by rw [List.length_eq_zero_iff.mp hl]; exact .nil
  | u :: us, [], hl, _ => by cases hl
  | u :: us, y :: ys, hl, hq => .cons (hq 0 u y rfl rfl) (Rl.of (by simpa using hl) fun i v z h1 h2 => hq (i + 1) v z h1 h2)
end
end Lb
/-! steps joined and behind one another: the plain law -/
namespace Lb
open Mp
section
variable {v : Nat} {ms a b l1 l2 : List Nat} {lot : Nat}
theorem Rw.behind (ra : Rw v a) (rb : Rw v b) : Rw v (a.map (nx b)) := ⟨by rw [List.length_map, ra.len], fun x hx => by
  obtain ⟨r, _, rfl⟩ := List.mem_map.mp hx
  exact Lb.nx_lt rb.lt⟩
theorem Rle.nxt (h : Rle l2 b) {S : Nat} : Sb (nx l2 S) (nx b S) := (sub_iff _ _).mpr fun k hk => by
  obtain ⟨j, r, f1, f2, f3⟩ := (nx_bit ..).mp hk
  have hj : j < b.length := by rw [← h.1]; exact (List.getElem?_eq_some_iff.mp f1).1
  have f4 := List.getElem?_eq_getElem hj
  exact (nx_bit ..).mpr ⟨j, _, f4, f2, (sub_iff _ _).mp (h.2 j _ _ f1 f4) k f3⟩
theorem Rle.behind (h1 : Rle l1 a) (h2 : Rle l2 b) : Rle (l1.map (nx l2)) (a.map (nx b)) := by
  refine ⟨by rw [List.length_map, List.length_map, h1.1], fun i x y e1 e2 => ?_⟩
  rw [List.getElem?_map] at e1 e2
  obtain ⟨p, f1, rfl⟩ := Option.map_eq_some_iff.mp e1
  obtain ⟨q, f2, rfl⟩ := Option.map_eq_some_iff.mp e2
  exact h2.nxt.trans (nx_mono (h1.2 i _ _ f1 f2))
end
section
variable {T : Tab} {D : String → Option Def} {n : Nat} {h : LH}
/-- exact of a tuple whose items are so -/
theorem exa_tup [Has D "_law_exact" d__law_exact] [Has D "_law_int" d__law_int] {xs : List W} (hl : xs.length ≤ 1000) (hx : ∀ x ∈ xs, call T D (n + 1) "_law_exact" [x, x] h = .ok (.bl true) h) : call T D (n + 2) "_law_exact" [.tup xs, .tup xs] h = .ok (.bl true) h := by
  apply Ok.eq
  rw [Ok_call (Has.eq : D "_law_exact" = some d__law_exact) rfl]
  have e := rng_ok (v := xs.length) hl
  simp [d__law_exact, tyOk, tyB, tyOf, kit, tyName, e.1, rngW_nat, e.2]
  rw [show List.map (fun (s : Nat) => W.int s) (List.range xs.length) = nats (List.range xs.length) from rfl, comp_sift (fun u => .int u) (fun _ => false) rfl]
  · simp
  · intro u hu
    have hu := List.mem_range.mp hu
    refine ⟨?_, fun z => by cases z⟩
    apply Ok.eq
    simp [ix_nat, hu, hx xs[u] (List.getElem_mem hu)]
theorem exa_str [Has D "_law_exact" d__law_exact] [Has D "_law_int" d__law_int] {s : String} : call T D (n + 1) "_law_exact" [.str s, .str s] h = .ok (.bl true) h := by
  apply Ok.eq
  rw [Ok_call (Has.eq : D "_law_exact" = some d__law_exact) rfl]
  simp [d__law_exact, tyOk, tyB, tyOf, kit, tyName]
theorem exa_strs [Has D "_law_exact" d__law_exact] [Has D "_law_int" d__law_int] {ns : List String} (hl : ns.length ≤ 1000) : call T D (n + 2) "_law_exact" [.tup (ns.map .str), .tup (ns.map .str)] h = .ok (.bl true) h :=
  exa_tup (by rw [List.length_map]; exact hl) fun x hx => by
    obtain ⟨s, _, rfl⟩ := List.mem_map.mp hx
    exact exa_str
end
end Lb
/-! programs: true and seen ends, the plain law -/
namespace Lb
open Mp
inductive Pg where
  | stp (s : String) | non | beh (a b : Pg) | eit (a b : Pg) | aga (a : Pg)
def Pg.w : Pg → W
  | .stp s => .tup [.str "step", .str s]
  | .non => .tup [.str "nothing"]
  | .beh a b => .tup [.str "behind", a.w, b.w]
  | .eit a b => .tup [.str "either", a.w, b.w]
  | .aga a => .tup [.str "again", a.w]
def Pg.size : Pg → Nat
  | .stp _ => 1 | .non => 1
  | .beh a b => a.size + b.size + 1 | .eit a b => a.size + b.size + 1 | .aga a => a.size + 1
def Pg.dep : Pg → Nat
  | .stp _ => 1 | .non => 1
  | .beh a b => max a.dep b.dep + 1 | .eit a b => max a.dep b.dep + 1 | .aga a => a.dep + 1
def Pg.agn : Pg → Nat
  | .stp _ => 0 | .non => 0
  | .beh a b => max a.agn b.agn | .eit a b => max a.agn b.agn | .aga a => a.agn + 1
/-- how many steps a run meets at most -/
def Pg.cnt : Pg → Nat
  | .stp _ => 1 | .non => 0
  | .beh a b => a.cnt + b.cnt | .eit a b => a.cnt + b.cnt | .aga a => 8 * a.cnt
def Pg.names : Pg → List String
  | .stp s => [s] | .non => []
  | .beh a b => a.names ++ b.names | .eit a b => a.names ++ b.names | .aga a => a.names
abbrev Sts := List (String × List Nat)
def look : Sts → String → List Nat
  | [], _ => []
  | p :: r, s => if p.1 = s then p.2 else look r s
def itr (f : Nat → Nat) : Nat → Nat → Nat
  | 0, l => l
  | k + 1, l => if l ||| f l = l then l else itr f k (l ||| f l)
def its (ms : List Nat) (f : Nat → Nat) : Nat → Nat → Nat
  | 0, l => l
  | k + 1, l => if rd ms (l ||| f l) = l then l else its ms f k (rd ms (l ||| f l))
def tru (st : Sts) : Pg → Nat → Nat
  | .stp s, l => nx (look st s) l
  | .non, l => l
  | .beh a b, l => tru st b (tru st a l)
  | .eit a b, l => tru st a l ||| tru st b l
  | .aga a, l => itr (fun x => tru st a x) 8 l
def sen (ms : List Nat) (st : Sts) : Pg → Nat → Nat
  | .stp s, m => rd ms (nx (look st s) m)
  | .non, m => m
  | .beh a b, m => sen ms st b (sen ms st a m)
  | .eit a b, m => rd ms (sen ms st a m ||| sen ms st b m)
  | .aga a, m => its ms (fun x => sen ms st a x) 8 m
/-- programs over these steps -/
def Pg.on (st : Sts) (p : Pg) : Prop := ∀ s ∈ p.names, s ∈ st.map (·.1)
theorem look_mem {st : Sts} {s : String} (h : s ∈ st.map (·.1)) : ∃ p ∈ st, p.1 = s ∧ look st s = p.2 := by
  induction st with
  | nil => cases h
  | cons q r ih =>
    unfold look
    by_cases c : q.1 = s
    · exact ⟨q, List.mem_cons_self .., c, if_pos c⟩
    · rw [List.map_cons] at h
      rcases List.mem_cons.mp h with h | h
      · exact absurd h.symm c
      · obtain ⟨p, hp, e1, e2⟩ := ih h
        exact ⟨p, List.mem_cons_of_mem _ hp, e1, by rw [if_neg c]; exact e2⟩
section
variable {v : Nat} {st : Sts} {ms : List Nat}
theorem look_rw (hr : ∀ p ∈ st, Rw v p.2) {s : String} (h : s ∈ st.map (·.1)) : Rw v (look st s) := by
  obtain ⟨p, hp, _, e⟩ := look_mem h
  rw [e]; exact hr p hp
theorem siz_le {l : Nat} : siz l ≤ 6 := by
  have := List.length_filter_le (fun s => l.testBit s) (List.range 6)
  rw [List.length_range] at this
  exact this
theorem siz_lt {a b : Nat} (h : Sb a b) (hb : b < 64) (n : b ≠ a) : siz a < siz b := Nat.lt_of_not_le fun z => n (sts_len h hb z)
theorem its_mem {f : Nat → Nat} (g : Gl v ms) : ∀ (k l : Nat), l ∈ ms → its ms f k l ∈ ms
  | 0, l, h => h
  | k + 1, l, h => by
    unfold its
    split
    · exact h
    · exact its_mem g k _ (g.rd_mem _)
theorem its_fix {f : Nat → Nat} (g : Gl v ms) (h6 : v ≤ 6) (hf : ∀ x ∈ ms, f x ∈ ms) : ∀ (k l : Nat), l ∈ ms → 6 < siz l + k → rd ms (its ms f k l ||| f (its ms f k l)) = its ms f k l
  | 0, l, _, hk => by have := siz_le (l := l); omega
  | k + 1, l, hl, hk => by
    unfold its
    split
    · assumption
    · rename_i n
      have h2 := or_lt (g.lt l hl) (g.lt _ (hf l hl))
      have h3 := g.rd_lt (l ||| f l)
      have := siz_lt ((Sb.orl l (f l)).trans (g.rd_has h2)) (Nat.lt_of_lt_of_le h3 (pow6 h6)) n
      exact its_fix g h6 hf k _ (g.rd_mem _) (by omega)
theorem sen_mem (g : Gl v ms) : ∀ (p : Pg) (m : Nat), m ∈ ms → sen ms st p m ∈ ms
  | .stp s, m, _ => g.rd_mem _
  | .non, m, h => h
  | .beh a b, m, h => by unfold sen; exact sen_mem g b _ (sen_mem g a m h)
  | .eit a b, m, h => by unfold sen; exact g.rd_mem _
  | .aga a, m, h => by unfold sen; exact its_mem g 8 m h
/-- a fix point of the rounds -/
theorem its_at {f : Nat → Nat} {y : Nat} (e : rd ms (y ||| f y) = y) : ∀ k, its ms f k y = y
  | 0 => rfl
  | k + 1 => by unfold its; rw [if_pos e]
theorem its_sub {f : Nat → Nat} (g : Gl v ms) (hf : ∀ x ∈ ms, f x ∈ ms) : ∀ (k l : Nat), l ∈ ms → Sb l (its ms f k l)
  | 0, l, _ => Sb.refl l
  | k + 1, l, h => by
    unfold its
    split
    · exact Sb.refl l
    · exact ((Sb.orl l (f l)).trans (g.rd_has (or_lt (g.lt l h) (g.lt _ (hf l h))))).trans (its_sub g hf k _ (g.rd_mem _))
end
end Lb
/-! programs: the walks -/
namespace Lb
open Mp
class PT (T : Tab) : Prop where
  siz : T.kd "SIZES" = some [("step", .int 2), ("nothing", .int 1), ("behind", .int 3), ("either", .int 3), ("again", .int 2)]
  dee : T.gl "MOST_DEEP" = some (.int 12)
  lon : T.gl "MOST_LONG" = some (.int 60)
  aga : T.gl "MOST_AGAINS" = some (.int 4)
  con : T.mth "Steps" "__contains__" 1 = true
  row : T.mth "Steps" "row_of" 1 = true
  wf : T.wf = 5000
def Pg.inner : Pg → List W
  | .stp _ => [] | .non => []
  | .beh a b => [a.w, b.w] | .eit a b => [a.w, b.w] | .aga a => [a.w]
section
variable {T : Tab} {D : String → Option Def} {n : Nat} {rest h : LH}
variable {v : Nat} {ms row : List Nat} {st : Sts}
end
end Lb
/-! true and seen ends: the walks -/
namespace Lb
open Mp
/-- a program that check_program lets -/
structure Pok (st : Sts) (p : Pg) : Prop where
  on : p.on st
  dep : p.dep ≤ 12
  agn : p.agn ≤ 4
  size : p.size ≤ 60
section
variable {T : Tab} {D : String → Option Def} {n : Nat} {rest h : LH}
variable {v : Nat} {ms row : List Nat} {st : Sts}
end
end Lb
/-! seen ends: the walks -/
namespace Lb
open Mp
/-- the members that the rounds begin with -/
def rnd (ms : List Nat) (f : Nat → Nat) : Nat → Nat → List Nat
  | 0, l => [l]
  | k + 1, l => if rd ms (l ||| f l) = l then [l] else l :: rnd ms f k (rd ms (l ||| f l))
section
variable {T : Tab} {D : String → Option Def} {n : Nat} {rest h : LH}
variable {v : Nat} {ms row : List Nat} {st : Sts}
def SenOk (T : Tab) (D : String → Option Def) (v : Nat) (ms : List Nat) (st : Sts) (n : Nat) (p : Pg) : Prop :=
  ∀ (m : Nat) (h : LH), m ∈ ms → Ok (call T D n "seen_from" [gl v ms, stW v st, p.w, .int m] h) fun w h' => w = .int (sen ms st p m : Nat) ∧ ∃ js, h' = h ++ js
end
end Lb
/-! seen ends, exactness, alarms: the walks -/
namespace Lb
open Mp
class XT (T : Tab) : Prop where
  fld : T.fld "Misled" = ["name", "lot", "wish"]
  ini : T.mth "Misled" "__init__" 3 = true
section
variable {T : Tab} {D : String → Option Def} {n : Nat} {rest h : LH}
variable {v : Nat} {ms row : List Nat} {st : Sts} {p : Pg} {l : Nat}
/-- the whole program as a row -/
def mnr (v : Nat) (st : Sts) (p : Pg) : List Nat := (List.range v).map fun s => tru st p (2 ^ s)
end
end Lb
/-! all exact, alarms, false wishes, the first inexact lot: the walks -/
namespace Lb
open Mp
def blu (ms : List Nat) (st : Sts) : Sts := st.filter fun p => !decide (shpA ms p.2)
def misW (s : String) (l m : Nat) : W := .obj "Misled" ["name", "lot", "wish"] [.str s, .int l, .int m]
section
variable {T : Tab} {D : String → Option Def} {n : Nat} {rest h : LH}
variable {v : Nat} {ms row : List Nat} {st : Sts} {p : Pg} {l : Nat}
def alm (t s m : Nat) : String := if Sb s m then "none" else if Sb t m then "false" else "true"
def fwi (ms : List Nat) (t s : Nat) : List Nat := ms.filter fun m => decide (Sb t m) && !decide (Sb s m)
end
end Lb
/-! programs: true ends are additive; smaller steps, smaller ends -/
namespace Lb
open Mp
section
variable {v : Nat} {st s2 : Sts} {ms row : List Nat}
end
end Lb
/-! the first inexact lot: the walk -/
namespace Lb
open Mp
section
variable {T : Tab} {D : String → Option Def} {n : Nat} {rest h : LH}
variable {v : Nat} {ms row : List Nat} {st : Sts} {p : Pg} {l : Nat}
end
end Lb
/-! programs: the law's side -/
namespace Lb
open Mp
section
variable {T : Tab} {D : String → Option Def} {n : Nat} {rest h : LH}
variable {v : Nat} {ms row : List Nat} {st : Sts}
/-- the law's rows by name -/
def rowsD (G : List Nat → W) (st : Sts) : W := .dic (st.map fun p => .str p.1) (st.map fun p => G p.2)
def RunOk (T : Tab) (D : String → Option Def) (G : List Nat → W) (st : Sts) (n : Nat) (p : Pg) : Prop :=
  ∀ (l : Nat) (path xs : List W) (h : LH), path.length + p.dep ≤ 100 → xs.length + p.cnt ≤ 100000 →
    Ok (call T D n "_law_run" [rowsD G st, p.w, .int l, .tup path, .ref h.length] (h ++ [.lst xs])) fun w h' => w = .int (tru st p l : Nat) ∧ ∃ ys, h' = h ++ [.lst (xs ++ ys)] ∧ ys.length ≤ p.cnt
end
end Lb
/-! programs drawn -/
namespace Lb
open Mp
/-- a drawn program -/
structure Drn (ns : List String) (leaves deep : Nat) (p : Pg) : Prop where
  nam : ∀ s ∈ p.names, s ∈ ns
  size : p.size + 1 ≤ (deep + 2) * leaves
  dep : p.dep ≤ leaves + deep
  agn : p.agn ≤ deep
  cnt : p.cnt ≤ leaves * 8 ^ deep
section
variable {T : Tab} {D : String → Option Def} {n : Nat} {rest h : LH}
variable {ns : List String}
theorem Drn.mkA {leaves deep : Nat} {p : Pg} (d : Drn ns leaves deep p) (hl : 1 ≤ leaves) : Drn ns leaves (deep + 1) (.aga p) := ⟨d.nam, by
    have := d.size
    have e : (deep + 1 + 2) * leaves = (deep + 2) * leaves + leaves := by rw [show deep + 1 + 2 = (deep + 2) + 1 by omega, Nat.add_mul, Nat.one_mul]
    have s0 : (Pg.aga p).size = p.size + 1 := rfl
    rw [e, s0]; omega, by
    have := d.dep
    have s0 : (Pg.aga p).dep = p.dep + 1 := rfl
    rw [s0]; omega, by
    have := d.agn
    have s0 : (Pg.aga p).agn = p.agn + 1 := rfl
    rw [s0]; omega, by
    have := d.cnt
    have s0 : (Pg.aga p).cnt = 8 * p.cnt := rfl
    rw [s0, Nat.pow_succ, ← Nat.mul_assoc]; omega⟩
theorem Drn.mkB {x y deep : Nat} {p q : Pg} (d : Drn ns x deep p) (e : Drn ns y deep q) (hx : 1 ≤ x) (hy : 1 ≤ y) : Drn ns (x + y) deep (.beh p q) := ⟨fun s hs => by
    rcases List.mem_append.mp hs with h | h
    · exact d.nam s h
    · exact e.nam s h, by
    have := d.size; have := e.size
    have s0 : (Pg.beh p q).size = p.size + q.size + 1 := rfl
    rw [s0, Nat.mul_add]; omega, by
    have := d.dep; have := e.dep
    have s0 : (Pg.beh p q).dep = max p.dep q.dep + 1 := rfl
    rw [s0]; omega, by
    have := d.agn; have := e.agn
    have s0 : (Pg.beh p q).agn = max p.agn q.agn := rfl
    rw [s0]; omega, by
    have := d.cnt; have := e.cnt
    have s0 : (Pg.beh p q).cnt = p.cnt + q.cnt := rfl
    rw [s0, Nat.add_mul]; omega⟩
theorem Drn.mkE {x y deep : Nat} {p q : Pg} (d : Drn ns x deep p) (e : Drn ns y deep q) (hx : 1 ≤ x) (hy : 1 ≤ y) : Drn ns (x + y) deep (.eit p q) := ⟨(d.mkB e hx hy).nam, (d.mkB e hx hy).size, (d.mkB e hx hy).dep, (d.mkB e hx hy).agn, (d.mkB e hx hy).cnt⟩
theorem Drn.leaf {deep : Nat} {p : Pg} (h1 : ∀ s ∈ p.names, s ∈ ns) (h2 : p.size = 1) (h3 : p.dep = 1) (h4 : p.agn = 0) (h5 : p.cnt ≤ 1) : Drn ns 1 deep p := ⟨h1, by omega, by omega, by omega, by
  have : 0 < 8 ^ deep := Nat.pow_pos (by decide)
  omega⟩
theorem lpr_sp [Has D "_law_program" d__law_program] [Has D "_law_take" d__law_take] [Has D "_law_mixed" d__law_mixed] (hn : ns ≠ []) (hn2 : ns.length ≤ 1000) : ∀ (N : Nat) {n leaves deep : Nat} {h : LH}, leaves + deep ≤ N → 1 ≤ leaves → leaves ≤ 1000 → Hn rest h →
    Ok (call T D (n + N + 3) "_law_program" [.ref 1, .fl (ns.map .str), .int (leaves : Nat), .int (deep : Nat)] h) fun w h' => Hn rest h' ∧ ∃ p : Pg, w = p.w ∧ Drn ns leaves deep p := by
  intro N
  induction N with
  | zero => intro n leaves deep h h1 h2; omega
  | succ N ih =>
    intro n leaves deep h h1 h2 h3 hh
    rw [Ok_call (Has.eq : D "_law_program" = some d__law_program) rfl]
    simp [d__law_program]
    refine Ok.mono (take_sp hh (by decide) (by decide)) ?_
    rintro _ l1 ⟨hh1, k, rfl, hk⟩
    by_cases c : 0 < deep ∧ k < 2
    · obtain ⟨deep, rfl⟩ : ∃ d, deep = d + 1 := ⟨deep - 1, by omega⟩
      have c1 : (0 : Int) < (deep : Int) + 1 := by omega
      have c2 : (k : Int) < 2 := by omega
      have e1 : (deep : Int) + 1 - 1 = (deep : Int) := by omega
      simp [c1, c2, e1]
      refine Ok.mono (ih (n := n) (leaves := leaves) (deep := deep) (by omega) h2 h3 hh1) ?_
      rintro _ l2 ⟨hh2, p, rfl, dp⟩
      exact ⟨hh2, .aga p, rfl, dp.mkA h2⟩
    · have hpos : (0 : Int) < (ns.length : Int) := by
        have := List.length_pos_iff.mpr hn
        omega
      have leafA : ∀ l, Hn rest l → Ok (call T D (n + (N + 1) + 2) "_law_take" [.ref 1, .int ns.length] l) fun y h2 => Ok (evIx (.fl (ns.map .str)) y h2) fun w h1 => Hn rest h1 ∧ ∃ p : Pg, W.tup [W.str "step", w] = p.w ∧ Drn ns 1 deep p := by
        intro l hl
        refine Ok.mono (take_sp hl hpos (by omega)) ?_
        rintro _ l2 ⟨hh2, i, rfl, hi⟩
        have hi' : i < ns.length := by omega
        have e : ix (ns.map W.str) (i : Int) = some (.str ns[i]) := by rw [ix_nat, List.getElem?_map, List.getElem?_eq_getElem hi']; rfl
        simp [e]
        refine ⟨hh2, .stp ns[i], rfl, Drn.leaf (fun s hs => ?_) rfl rfl rfl (Nat.le_refl _)⟩
        have : s = ns[i] := List.mem_singleton.mp hs
        rw [this]
        exact List.getElem_mem hi'
      by_cases cl : leaves = 1
      · subst cl
        simp
        rcases Nat.eq_zero_or_pos deep with z | z
        · refine .inl ⟨z, ?_⟩
          by_cases c7 : k = 7
          · refine .inr ⟨by omega, ?_⟩
            refine Ok.mono (take_sp hh1 (by decide) (by decide)) ?_
            rintro _ l2 ⟨hh2, i, rfl, hi⟩
            by_cases c0 : (i : Int) = 0
            · simp [c0]
              exact ⟨hh2, .non, rfl, Drn.leaf (fun s hs => by cases hs) rfl rfl rfl (by decide)⟩
            · simp [c0]
              refine .inl ⟨by omega, leafA l2 hh2⟩
          · refine .inl ⟨by omega, leafA l1 hh1⟩
        · refine .inr ⟨z, .inl ⟨by omega, ?_⟩⟩
          by_cases c7 : k = 7
          · refine .inr ⟨by omega, ?_⟩
            refine Ok.mono (take_sp hh1 (by decide) (by decide)) ?_
            rintro _ l2 ⟨hh2, i, rfl, hi⟩
            by_cases c0 : (i : Int) = 0
            · simp [c0]
              exact ⟨hh2, .non, rfl, Drn.leaf (fun s hs => by cases hs) rfl rfl rfl (by decide)⟩
            · simp [c0]
              refine .inl ⟨by omega, leafA l2 hh2⟩
          · refine .inl ⟨by omega, leafA l1 hh1⟩
      · have c2 : (2 : Int) ≤ (leaves : Int) := by omega
        have c3 : ¬ (leaves : Int) < 2 := by omega
        simp [c2, c3]
        rcases Nat.eq_zero_or_pos deep with z | z
        · refine .inl ⟨z, ?_⟩
          refine Ok.mono (take_sp hh1 (by omega) (by omega)) ?_
          rintro _ l2 ⟨hh2, j, rfl, hj⟩
          have q1 := ih (n := n) (leaves := 1 + j) (deep := deep) (h := l2) (by omega) (by omega) (by omega) hh2
          simp only [Int.natCast_add, Int.natCast_one, Int.cast_ofNat_Int] at q1
          have e2 : (leaves : Int) - (1 + (j : Int)) = ((leaves - (1 + j) : Nat) : Int) := by omega
          have q2 := fun l hl => ih (n := n) (leaves := leaves - (1 + j)) (deep := deep) (h := l) (by omega) (by omega) (by omega) hl
          rw [← e2] at q2
          by_cases c5 : (k : Int) < 5
          · simp [c5]
            refine .inr ?_
            refine Ok.mono q1 ?_
            rintro _ l3 ⟨hh3, p, rfl, dp⟩
            refine Ok.mono (q2 l3 hh3) ?_
            rintro _ l4 ⟨hh4, q, rfl, dq⟩
            exact ⟨hh4, .beh p q, rfl, by have := dp.mkB dq (by omega) (by omega); rwa [show 1 + j + (leaves - (1 + j)) = leaves by omega] at this⟩
          · simp [c5]
            refine ⟨by omega, ?_⟩
            refine Ok.mono q1 ?_
            rintro _ l3 ⟨hh3, p, rfl, dp⟩
            refine Ok.mono (q2 l3 hh3) ?_
            rintro _ l4 ⟨hh4, q, rfl, dq⟩
            exact ⟨hh4, .eit p q, rfl, by have := dp.mkE dq (by omega) (by omega); rwa [show 1 + j + (leaves - (1 + j)) = leaves by omega] at this⟩
        · refine .inr ⟨z, .inl ⟨by omega, ?_⟩⟩
          refine Ok.mono (take_sp hh1 (by omega) (by omega)) ?_
          rintro _ l2 ⟨hh2, j, rfl, hj⟩
          have q1 := ih (n := n) (leaves := 1 + j) (deep := deep) (h := l2) (by omega) (by omega) (by omega) hh2
          simp only [Int.natCast_add, Int.natCast_one, Int.cast_ofNat_Int] at q1
          have e2 : (leaves : Int) - (1 + (j : Int)) = ((leaves - (1 + j) : Nat) : Int) := by omega
          have q2 := fun l hl => ih (n := n) (leaves := leaves - (1 + j)) (deep := deep) (h := l) (by omega) (by omega) (by omega) hl
          rw [← e2] at q2
          by_cases c5 : (k : Int) < 5
          · simp [c5]
            refine .inr ?_
            refine Ok.mono q1 ?_
            rintro _ l3 ⟨hh3, p, rfl, dp⟩
            refine Ok.mono (q2 l3 hh3) ?_
            rintro _ l4 ⟨hh4, q, rfl, dq⟩
            exact ⟨hh4, .beh p q, rfl, by have := dp.mkB dq (by omega) (by omega); rwa [show 1 + j + (leaves - (1 + j)) = leaves by omega] at this⟩
          · simp [c5]
            refine ⟨by omega, ?_⟩
            refine Ok.mono q1 ?_
            rintro _ l3 ⟨hh3, p, rfl, dp⟩
            refine Ok.mono (q2 l3 hh3) ?_
            rintro _ l4 ⟨hh4, q, rfl, dq⟩
            exact ⟨hh4, .eit p q, rfl, by have := dp.mkE dq (by omega) (by omega); rwa [show 1 + j + (leaves - (1 + j)) = leaves by omega] at this⟩
end
end Lb
/-! sharp steps: exact runs -/
namespace Lb
open Mp
section
variable {T : Tab} {D : String → Option Def} {n : Nat} {rest h : LH}
variable {v : Nat} {ms row : List Nat} {st : Sts} {p : Pg} {l : Nat}
/-- what the law's runs need -/
structure Run (st : Sts) (p : Pg) : Prop where
  ok : Pok st p
  cnt : p.cnt ≤ 100000
end
end Lb
/-! programs as they are seen: the law's side -/
namespace Lb
open Mp
section
variable {T : Tab} {D : String → Option Def} {n : Nat} {rest h : LH}
variable {v : Nat} {ms row : List Nat} {st : Sts}
def LkOk (T : Tab) (D : String → Option Def) (ms : List Nat) (G : List Nat → W) (st : Sts) (n : Nat) (p : Pg) : Prop :=
  ∀ (l : Nat) (path xs : List W) (h : LH), path.length + p.dep ≤ 100 → xs.length + p.cnt ≤ 100000 →
    Ok (call T D n "_law_look" [.fl (nats ms), rowsD G st, p.w, .int l, .tup path, .ref h.length] (h ++ [.lst xs])) fun w h' => w = .int (sen ms st p l : Nat) ∧ ∃ ys, h' = h ++ [.lst (xs ++ ys)] ∧ ys.length ≤ p.cnt
end
end Lb
/-! exactness words, seen tables and gaps; what the law sees -/
namespace Lb
open Mp
section
variable {T : Tab} {D : String → Option Def} {n : Nat} {rest h : LH}
variable {v : Nat} {ms row : List Nat} {st : Sts} {p : Pg} {l : Nat}
/-- here, there and the seen end: a word -/
def exw (a b s : Nat) : String := if a = s then "exact" else if b = s then "rounding" else if a = b then "run" else "both"
end
end Lb
/-! worlds of glasses, entries, a program; entries handed over -/
namespace Lb
open Mp
section
variable {T : Tab} {D : String → Option Def} {n : Nat} {rest h : LH}
variable {v : Nat} {ms row : List Nat} {st : Sts}
/-- a world of glasses, steps, a program -/
def Wld (w : W) : Prop := ∃ (v : Nat) (ms : List Nat) (st : Sts) (p : Pg), w = .tup [.int v, .fl (nats ms), .fl (st.map entW), p.w] ∧ 1 ≤ v ∧ v ≤ 6 ∧ Gl v ms ∧ Stp v st ∧ st ≠ [] ∧ st.length ≤ 4 ∧ (∀ q ∈ st, q.1 ∈ pool) ∧ Run st p
end
end Lb
/-! finer glasses see less; worlds of the laws of alarms -/
namespace Lb
open Mp
section
variable {v : Nat} {ms fs : List Nat} {st : Sts}
theorem rd_finer (gm : Gl v ms) (sub : ∀ m ∈ ms, m ∈ fs) {a b : Nat} (hb : b < 2 ^ v) (h : Sb a b) : Sb (rd fs a) (rd ms b) := rd_sb (sub _ (gm.rd_mem b)) (h.trans (gm.rd_has hb))
theorem its_finer {f q : Nat → Nat} (gf : Gl v fs) (gm : Gl v ms) (sub : ∀ m ∈ ms, m ∈ fs) (hq : ∀ y ∈ ms, q y ∈ ms) (hs : ∀ x ∈ fs, ∀ y ∈ ms, Sb x y → Sb (f x) (q y)) : ∀ (k x y : Nat), x ∈ fs → y ∈ ms → Sb x y → Sb (its fs f k x) (its ms q k y)
  | 0, x, y, _, _, h => h
  | k + 1, x, y, hx, hy, h => by
    have ly : y ||| q y < 2 ^ v := or_lt (gm.lt _ hy) (gm.lt _ (hq y hy))
    have h1 : Sb (x ||| f x) (y ||| q y) := Sb.or (h.trans (Sb.orl _ _)) ((hs x hx y hy h).trans (Sb.orr _ _))
    have h2 : Sb (rd fs (x ||| f x)) (rd ms (y ||| q y)) := rd_finer gm sub ly h1
    have my := gm.rd_mem (y ||| q y)
    have mx := gf.rd_mem (x ||| f x)
    by_cases cx : rd fs (x ||| f x) = x
    · rw [show its fs f (k + 1) x = x by unfold its; rw [if_pos cx]]
      exact h.trans (its_sub gm hq (k + 1) y hy)
    · rw [show its fs f (k + 1) x = its fs f k (rd fs (x ||| f x)) by conv => lhs; unfold its; rw [if_neg cx]]
      by_cases cy : rd ms (y ||| q y) = y
      · rw [show its ms q (k + 1) y = y by unfold its; rw [if_pos cy]]
        have := its_finer gf gm sub hq hs k (rd fs (x ||| f x)) y mx hy (by rw [cy] at h2; exact h2)
        rwa [its_at cy] at this
      · rw [show its ms q (k + 1) y = its ms q k (rd ms (y ||| q y)) by conv => lhs; unfold its; rw [if_neg cy]]
        exact its_finer gf gm sub hq hs k _ _ mx my h2
/-- what finer glasses see lies within what coarser ones see -/
theorem sen_finer (gf : Gl v fs) (gm : Gl v ms) (sub : ∀ m ∈ ms, m ∈ fs) (hr : ∀ p ∈ st, Rw v p.2) : ∀ (p : Pg) (x y : Nat), p.on st → x ∈ fs → y ∈ ms → Sb x y → Sb (sen fs st p x) (sen ms st p y)
  | .stp s, x, y, ho, hx, hy, h => by
    have r := look_rw hr (ho s (by unfold Pg.names; exact List.mem_singleton.mpr rfl))
    exact rd_finer gm sub r.nx_lt (nx_mono h)
  | .non, x, y, _, _, _, h => h
  | .beh a b, x, y, ho, hx, hy, h => sen_finer gf gm sub hr b _ _ (fun s hs => ho s (List.mem_append_right _ hs)) (sen_mem gf a x hx) (sen_mem gm a y hy) (sen_finer gf gm sub hr a x y (fun s hs => ho s (List.mem_append_left _ hs)) hx hy h)
  | .eit a b, x, y, ho, hx, hy, h => by
    have h1 := sen_finer gf gm sub hr a x y (fun s hs => ho s (List.mem_append_left _ hs)) hx hy h
    have h2 := sen_finer gf gm sub hr b x y (fun s hs => ho s (List.mem_append_right _ hs)) hx hy h
    exact rd_finer gm sub (or_lt (gm.lt _ (sen_mem gm a y hy)) (gm.lt _ (sen_mem gm b y hy))) (Sb.or (h1.trans (Sb.orl _ _)) (h2.trans (Sb.orr _ _)))
  | .aga a, x, y, ho, hx, hy, h => its_finer gf gm sub (fun y hy => sen_mem gm a y hy) (fun x hx y hy h => sen_finer gf gm sub hr a x y ho hx hy h) 8 x y hx hy h
end
section
variable {T : Tab} {D : String → Option Def} {n : Nat} {rest h : LH}
variable {v : Nat} {ms row : List Nat} {st : Sts}
theorem Drn.run {ns : List String} {lv dp : Nat} {p : Pg} (d : Drn ns lv dp p) (e : st.map (·.1) = ns) (l6 : lv ≤ 6) (d2 : dp ≤ 2) : Run st p := by
  subst e
  refine ⟨⟨d.nam, ?_, ?_, ?_⟩, ?_⟩
  · have := d.dep; omega
  · have := d.agn; omega
  · have := d.size
    have : (dp + 2) * lv ≤ 4 * 6 := Nat.mul_le_mul (by omega) l6
    omega
  · have := d.cnt
    have : lv * 8 ^ dp ≤ 6 * 8 ^ 2 := Nat.mul_le_mul l6 (Nat.pow_le_pow_right (by decide) d2)
    omega
/-- entries and a program over them -/
def Sml (v : Nat) (w : W) : Prop := ∃ (st : Sts) (p : Pg), w = .fl [.fl (st.map entW), p.w] ∧ Stp v st ∧ st ≠ [] ∧ st.length ≤ 3 ∧ (∀ q ∈ st, q.1 ∈ pool) ∧ Run st p
/-- the starts at which a program is exact -/
def exl (v : Nat) (ms : List Nat) (st : Sts) (p : Pg) : List Nat := (List.range (2 ^ v)).filter fun l => decide (rd ms (tru st p l) = sen ms st p (rd ms l))
/-- members, entries, a program -/
def Wl3 (v : Nat) (w : W) : Prop := ∃ (ms : List Nat) (st : Sts) (p : Pg), w = .fl [.fl (nats ms), .fl (st.map entW), p.w] ∧ Gl v ms ∧ Stp v st ∧ st ≠ [] ∧ st.length ≤ 3 ∧ (∀ q ∈ st, q.1 ∈ pool) ∧ Run st p
end
end Lb
/-! exact lots of a program, of its parts; a statement in two parts -/
namespace Lb
open Mp
theorem Sk_mid {T : Tab} {cl : Cl} {nx ct bk : Env → LH → Prop} {rt : W → LH → Prop} (k : Nat) {s : S} {σ : Env} {h : LH} (mid : Env → LH → Prop) (a : Sk (evS T cl (fst k s) σ h) mid rt ct bk) (b : ∀ R, R = rst k s → ∀ σ1 h1, mid σ1 h1 → Sk (evS T cl R σ1 h1) nx rt ct bk) : Sk (evS T cl s σ h) nx rt ct bk :=
  Sk_cut0 k s σ h (a.mono (fun σ1 h1 z => b _ rfl σ1 h1 z) (fun _ _ z => z) (fun _ _ z => z) (fun _ _ z => z))
section
variable {v : Nat} {ms : List Nat} {st : Sts} {p : Pg} {l : Nat}
def xat (ms : List Nat) (st : Sts) (p : Pg) (l : Nat) : Prop := rd ms (tru st p l) = sen ms st p (rd ms l)
instance : Decidable (xat ms st p l) := inferInstanceAs (Decidable (_ = _))
end
def subs : Pg → List Pg
  | .stp s => [.stp s] | .non => [.non]
  | .beh a b => .beh a b :: (subs a ++ subs b) | .eit a b => .eit a b :: (subs a ++ subs b) | .aga a => .aga a :: subs a
section
variable {st : Sts}
theorem Run.sub1 {p q : Pg} (r : Run st p) (h1 : ∀ s ∈ q.names, s ∈ p.names) (h2 : q.dep ≤ p.dep) (h3 : q.agn ≤ p.agn) (h4 : q.size ≤ p.size) (h5 : q.cnt ≤ p.cnt) : Run st q :=
  ⟨⟨fun s hs => r.ok.on s (h1 s hs), by have := r.ok.dep; omega, by have := r.ok.agn; omega, by have := r.ok.size; omega⟩, by have := r.cnt; omega⟩
theorem Run.behA {a b : Pg} (r : Run st (.beh a b)) : Run st a := r.sub1 (fun s hs => List.mem_append_left _ hs) (by have : (Pg.beh a b).dep = max a.dep b.dep + 1 := rfl; omega) (by have : (Pg.beh a b).agn = max a.agn b.agn := rfl; omega) (by have : (Pg.beh a b).size = a.size + b.size + 1 := rfl; omega) (by have : (Pg.beh a b).cnt = a.cnt + b.cnt := rfl; omega)
theorem Run.behB {a b : Pg} (r : Run st (.beh a b)) : Run st b := r.sub1 (fun s hs => List.mem_append_right _ hs) (by have : (Pg.beh a b).dep = max a.dep b.dep + 1 := rfl; omega) (by have : (Pg.beh a b).agn = max a.agn b.agn := rfl; omega) (by have : (Pg.beh a b).size = a.size + b.size + 1 := rfl; omega) (by have : (Pg.beh a b).cnt = a.cnt + b.cnt := rfl; omega)
theorem Run.eitA {a b : Pg} (r : Run st (.eit a b)) : Run st a := r.sub1 (fun s hs => List.mem_append_left _ hs) (by have : (Pg.eit a b).dep = max a.dep b.dep + 1 := rfl; omega) (by have : (Pg.eit a b).agn = max a.agn b.agn := rfl; omega) (by have : (Pg.eit a b).size = a.size + b.size + 1 := rfl; omega) (by have : (Pg.eit a b).cnt = a.cnt + b.cnt := rfl; omega)
theorem Run.eitB {a b : Pg} (r : Run st (.eit a b)) : Run st b := r.sub1 (fun s hs => List.mem_append_right _ hs) (by have : (Pg.eit a b).dep = max a.dep b.dep + 1 := rfl; omega) (by have : (Pg.eit a b).agn = max a.agn b.agn := rfl; omega) (by have : (Pg.eit a b).size = a.size + b.size + 1 := rfl; omega) (by have : (Pg.eit a b).cnt = a.cnt + b.cnt := rfl; omega)
theorem Run.agaA {a : Pg} (r : Run st (.aga a)) : Run st a := r.sub1 (fun s hs => hs) (by have : (Pg.aga a).dep = a.dep + 1 := rfl; omega) (by have : (Pg.aga a).agn = a.agn + 1 := rfl; omega) (by have : (Pg.aga a).size = a.size + 1 := rfl; omega) (by have : (Pg.aga a).cnt = 8 * a.cnt := rfl; omega)
theorem Run.subs : ∀ {p q : Pg}, Run st p → q ∈ subs p → Run st q
  | .stp s, q, r, h => by have : q = .stp s := List.mem_singleton.mp h; subst this; exact r
  | .non, q, r, h => by have : q = .non := List.mem_singleton.mp h; subst this; exact r
  | .beh a b, q, r, h => by
    rcases List.mem_cons.mp h with rfl | h
    · exact r
    · rcases List.mem_append.mp h with h | h
      · exact r.behA.subs h
      · exact r.behB.subs h
  | .eit a b, q, r, h => by
    rcases List.mem_cons.mp h with rfl | h
    · exact r
    · rcases List.mem_append.mp h with h | h
      · exact r.eitA.subs h
      · exact r.eitB.subs h
  | .aga a, q, r, h => by
    rcases List.mem_cons.mp h with rfl | h
    · exact r
    · exact r.agaA.subs h
end
section
variable {T : Tab} {D : String → Option Def} {n : Nat} {rest h : LH}
variable {v : Nat} {ms row : List Nat} {st : Sts} {p : Pg} {l : Nat}
/-- ends of all lots, by the law -/
def ens (v : Nat) (st : Sts) (p : Pg) : List Nat := (List.range (2 ^ v)).map fun l => tru st p l
end
end Lb
/-! mends: glasses with a lot more -/
namespace Lb
open Mp
class MT (T : Tab) : Prop where
  sin : T.gl "MOST_SINGLE" = some (.int 5)
section
variable {v : Nat} {ms : List Nat} {st : Sts} {p : Pg} {l : Nat}
/-- the lot within which a mended start is rounded -/
def bnd (v : Nat) (ms : List Nat) (st : Sts) (p : Pg) (l : Nat) : Nat := rd ms l &&& bk (mnr v st p) (rd ms (tru st p l))
/-- single mends -/
def sgl (v : Nat) (ms : List Nat) (st : Sts) (p : Pg) (l : Nat) : List Nat := (List.range (2 ^ v)).filter fun o => decide (o ∉ ms) && decide (xat (mets v (ms ++ [o])) st p l)
end
end Lb
/-! mends: the walks -/
namespace Lb
open Mp
section
variable {T : Tab} {D : String → Option Def} {n : Nat} {rest h : LH}
variable {v : Nat} {ms row : List Nat} {st : Sts} {p : Pg} {l : Nat}
/-- those within no other one -/
def lone (L : List Nat) (a : Nat) : Bool := (L.filter fun b => !decide (b = a) && decide (Sb a b)).isEmpty
def tops (L : List Nat) : List Nat := L.filter (lone L)
end
end Lb
/-! the fewest lots added -/
namespace Lb
open Mp
class FT (T : Tab) : Prop where
  few : T.gl "MOST_FEWEST" = some (.int 4)
section
variable {v : Nat} {ms : List Nat} {st : Sts} {p : Pg} {l : Nat}
/-- the lots that are no members -/
def frl (v : Nat) (ms : List Nat) : List Nat := (List.range (2 ^ v)).filter fun o => !decide (o ∈ ms)
def add1 (v : Nat) (ms : List Nat) (o : Nat) : List Nat := mets v (ms ++ [o])
/-- the second of a couple -/
def fw2 (v : Nat) (ms : List Nat) (st : Sts) (p : Pg) (l o : Nat) (L : List Nat) : Option Nat := L.find? fun o2 => decide (o < o2) && decide (xat (add1 v (add1 v ms o) o2) st p l)
/-- the first couple -/
def fwp (v : Nat) (ms : List Nat) (st : Sts) (p : Pg) (l : Nat) (F : List Nat) : List Nat → Option (Nat × Nat)
  | [] => none
  | o :: os => match fw2 v ms st p l o F with
    | some o2 => some (o, o2)
    | none => fwp v ms st p l F os
def few (v : Nat) (ms : List Nat) (st : Sts) (p : Pg) (l : Nat) : W :=
  if xat ms st p l then .tup [] else
  match (frl v ms).find? fun o => decide (xat (add1 v ms o) st p l) with
  | some o => .tup [.int o]
  | none => (match fwp v ms st p l (frl v ms) (frl v ms) with
    | some q => .tup [.int q.1, .int q.2]
    | none => .non)
end
section
variable {T : Tab} {D : String → Option Def} {n : Nat} {rest h : LH}
variable {v : Nat} {ms row : List Nat} {st : Sts} {p : Pg} {l : Nat}
end
end Lb
namespace Lb
open Mp
/-! ### pairs of names: boxes, side rows, which of them are sharp -/
def boxF (m a b x acc : Nat) (ys : List Nat) : Nat := ys.foldl (fun acc y => if a.testBit x && b.testBit y then acc ||| 2 ^ (x * m + y) else acc) acc
def boxG (m a b acc : Nat) (k : Nat) (xs : List Nat) : Nat := xs.foldl (fun acc x => boxF m a b x acc (List.range k)) acc
def box (n m a b : Nat) : Nat := boxG m a b 0 m (List.range n)
/-- the boxes of two members -/
def bxs (n m : Nat) (os bs : List Nat) : List Nat := os.flatMap fun a => bs.map fun b => box n m a b
/-- the members of the apart glasses -/
def aps (n m : Nat) (os bs : List Nat) : List Nat := mets (n * m) (bxs n m os bs)
/-- the side row -/
def sdr (n m : Nat) (w : Bool) (row : List Nat) : List Nat := (List.range (n * m)).map fun k => if w then box n m (2 ^ (k / m)) (row.getD (k % m) 0) else box n m (row.getD (k / m) 0) (2 ^ (k % m))
/-- at each pair of stands: nowhere, or back and beside, as in a box -/
def Bq (p q N K b a' b' : Nat) : Prop := ∀ x < p, ∀ y < q, (N.testBit x = true ∨ (K.testBit x = true ∧ b.testBit y = true)) ↔ (a'.testBit x = true ∧ b'.testBit y = true)
/-- what side_sharp judges by -/
def Sid (p q : Nat) (os bs row : List Nat) : Prop :=
  bk row 0 = 2 ^ p - 1 ∨ (bk row 0 ≠ 2 ^ p - 1 ∧ (bk row 0 = 0 ∧ (∀ a ∈ os, a ≠ 0 → bk row a ∉ os → bk row a = 0 ∧ 0 ∈ bs) ∨ (bk row 0 ≠ 0 ∧ (∀ b ∈ bs, b = 0 ∨ b = 2 ^ q - 1) ∧ (0 ∈ os ∨ 0 ∈ bs → bk row 0 ∈ os) ∧ ∀ a ∈ os, a ≠ 0 → bk row a ∈ os)))
end Lb
namespace Lb
open Mp
/-- the law's table knows the class Pair -/
class PrT (T : Tab) : Prop where
  fld : T.fld "Pair" = ["first", "second", "stands"]
  ini : T.mth "Pair" "__init__" 2 = true
def Pr (n m : Nat) : Prop := (n = 2 ∧ m = 2) ∨ (n = 2 ∧ m = 3) ∨ (n = 3 ∧ m = 2)
theorem Pr.lo {n m : Nat} (p : Pr n m) : 2 ≤ n ∧ 2 ≤ m ∧ n ≤ 3 ∧ m ≤ 3 ∧ n * m ≤ 6 := by
  rcases p with ⟨rfl, rfl⟩ | ⟨rfl, rfl⟩ | ⟨rfl, rfl⟩ <;> decide
section
variable {T : Tab} {D : String → Option Def} {n : Nat} {rest h : LH} {N M : Nat}
def tbw (M : Nat) (w : Bool) (row : List Nat) (x : Nat) : List Nat := (List.range M).map fun y => row.getD (if w then y else x) 0
def tbs (M : Nat) (w : Bool) (row : List Nat) (xs : List Nat) : List Nat := xs.flatMap (tbw M w row)
def cel (N M : Nat) (w : Bool) (row : List Nat) (x y : Nat) : Nat := if w then box N M (2 ^ x) (row.getD y 0) else box N M (row.getD x 0) (2 ^ y)
end
end Lb
namespace Lb
open Mp
section
variable {T : Tab} {D : String → Option Def} {n : Nat} {rest h : LH} {N M : Nat}
def rwW (r : List Nat) : W := .fl (nats r)
end
end Lb
namespace Lb
open Mp
section
variable {T : Tab} {D : String → Option Def} {n : Nat} {rest h : LH} {N M : Nat}
def sshE (one other : W) (wh : Bool) (w : W) (p q : Nat) (os bs row : List Nat) (x7 x8 x10 : Option W) : Env := [some one, some other, some (.int (if wh then 1 else 0)), some w, some (gl p os), some (gl q bs), some (.tup (nats row)), x7, x8, none, x10, none]
def lostN (os row : List Nat) : List Nat := ((os.filter fun m => !decide (m = 0)).map (bk row)).filter fun b => !decide (b ∈ os)
end
end Lb
namespace Lb
open Mp
/-! ### the lots of one name in a lot of a pair; shadows (plain law) -/
def orF (c : Nat → Bool) (g : Nat → Nat) (acc : Nat) (ys : List Nat) : Nat := ys.foldl (fun acc y => if c y then acc ||| 2 ^ g y else acc) acc
def orG (c : Nat → Nat → Bool) (g : Nat → Nat → Nat) (acc k : Nat) (xs : List Nat) : Nat := xs.foldl (fun acc x => orF (c x) (g x) acc (List.range k)) acc
/-- the lot of one name that occurs in a lot of the pair -/
def prj (n m : Nat) (w : Bool) (u : Nat) : Nat := orG (fun x y => u.testBit (x * m + y)) (fun x y => if w then y else x) 0 m (List.range n)
section
variable {n m : Nat}
theorem key {k : Nat} (hk : k < n * m) : ∃ x y, x < n ∧ y < m ∧ x * m + y = k := by
  have hm : 0 < m := by
    rcases Nat.eq_zero_or_pos m with z | z
    · rw [z, Nat.mul_zero] at hk; omega
    · exact z
  refine ⟨k / m, k % m, Nat.div_lt_of_lt_mul (by rw [Nat.mul_comm]; exact hk), Nat.mod_lt _ hm, ?_⟩
  rw [Nat.mul_comm]
  exact Nat.div_add_mod k m
/-- a row that goes somewhere from each stand -/
def Gng (v : Nat) (row : List Nat) : Prop := ∀ x < v, row.getD x 0 ≠ 0
end
end Lb
namespace Lb
open Mp
/-! ### shadows of programs (plain law) -/
def sh (S : List String) : Pg → Pg
  | .stp s => if s ∈ S then .stp s else .non
  | .non => .non
  | .beh a b => .beh (sh S a) (sh S b)
  | .eit a b => .eit (sh S a) (sh S b)
  | .aga a => .aga (sh S a)
abbrev nms (st : Sts) : List String := st.map (·.1)
theorem sh_on {st : Sts} : ∀ p : Pg, (sh (nms st) p).on st
  | .stp s => by
    unfold sh
    split
    · rename_i h
      intro t ht
      rw [List.mem_singleton.mp ht]; exact h
    · intro t ht; cases ht
  | .non => fun t ht => by cases ht
  | .beh a b => fun t ht => (List.mem_append.mp ht).elim (sh_on a t) (sh_on b t)
  | .eit a b => fun t ht => (List.mem_append.mp ht).elim (sh_on a t) (sh_on b t)
  | .aga a => fun t ht => sh_on a t ht
/-- steps of two names put into one pair -/
structure Two (n m : Nat) (s1 s2 st : Sts) : Prop where
  l1 : ∀ s ∈ nms s1, look st s = sdr n m false (look s1 s)
  l2 : ∀ s ∈ nms s2, look st s = sdr n m true (look s2 s)
  r1 : ∀ p ∈ s1, Rw n p.2
  r2 : ∀ p ∈ s2, Rw m p.2
  dj : ∀ s ∈ nms s1, s ∉ nms s2
  on : ∀ s ∈ nms st, s ∈ nms s1 ∨ s ∈ nms s2
  rs : ∀ p ∈ st, Rw (n * m) p.2
section
variable {n m : Nat} {s1 s2 st : Sts} {os bs : List Nat}
/-- all steps go somewhere from each stand -/
structure Goi (n m : Nat) (s1 s2 : Sts) : Prop where
  g1 : ∀ p ∈ s1, Gng n p.2
  g2 : ∀ p ∈ s2, Gng m p.2
end
end Lb
namespace Lb
open Mp
section
variable {n m : Nat} {s1 s2 st : Sts} {os bs : List Nat}
end
end Lb
namespace Lb
open Mp
section
variable {T : Tab} {D : String → Option Def} {n : Nat} {rest h : LH} {N M : Nat}
end
end Lb
namespace Lb
open Mp
/-! ### pairs: boxes, side rows and side steps, as the program makes them -/
def paW (N M : Nat) : W := .obj "Pair" ["first", "second", "stands"] [.int N, .int M, .int (N * M : Nat)]
section
variable {T : Tab} {D : String → Option Def} {n : Nat} {rest h : LH} {N M : Nat}
/-- the table's row -/
def cgF (N M : Nat) (w : Bool) (tb : List Nat) (k : Nat) : Nat := if w then box N M (2 ^ (k / M)) (tb.getD k 0) else box N M (tb.getD k 0) (2 ^ (k % M))
def cgr (N M : Nat) (w : Bool) (tb : List Nat) : List Nat := (List.range (N * M)).map (cgF N M w tb)
def tbo (N M : Nat) (w : Bool) (row : List Nat) : List Nat := (List.range (N * M)).map fun k => row.getD (if w then k % M else k / M) 0
end
end Lb
namespace Lb
open Mp
/-! ### the steps of two names in one pair, shadows of programs, apart glasses -/
def two (N M : Nat) (s1 s2 : Sts) : Sts := (s1.map fun p => (p.1, sdr N M false p.2)) ++ s2.map fun p => (p.1, sdr N M true p.2)
section
variable {T : Tab} {D : String → Option Def} {n : Nat} {rest h : LH} {N M : Nat}
def etW (p : String × List Nat) : W := .tup [.str p.1, .tup (nats p.2)]
end
end Lb
namespace Lb
open Mp
section
variable {T : Tab} {D : String → Option Def} {n : Nat} {rest h : LH} {N M : Nat}
end
end Lb
namespace Lb
open Mp
section
variable {T : Tab} {D : String → Option Def} {n : Nat} {rest h : LH} {N M : Nat}
/-- what _law_two draws -/
def Twd (N M : Nat) (g : Bool) (w : W) : Prop := ∃ s1 s2 : Sts, w = .tup [.fl (s1.map entW), .fl (s2.map entW)] ∧ Stp N s1 ∧ Stp M s2 ∧ (∀ s ∈ nms s1, s ∉ nms s2) ∧ (1 ≤ s1.length ∧ s1.length ≤ 2 ∧ 1 ≤ s2.length ∧ s2.length ≤ 2) ∧ (g = true → Goi N M s1 s2)
def Tw4 (N M : Nat) (g : Bool) (σ1 : Env) : Prop := ∃ (a b c d : String) (x y z u : List Nat), [a, b, c, d].Nodup ∧ (∀ s ∈ [a, b, c, d], s ∈ pool) ∧ (Rw N x ∧ Rw N y) ∧ (Rw M z ∧ Rw M u) ∧ (g = true → (Gng N x ∧ Gng N y) ∧ (Gng M z ∧ Gng M u)) ∧ σ1 = [some (.ref 1), some (.int N), some (.int M), some (.bl g), some (.fl ([a, b, c, d].map .str)), some (.fl [rwW x, rwW y]), none, some (.fl [rwW z, rwW u]), none, none]
end
end Lb
namespace Lb
open Mp
/-! ### programs drawn of a tuple of names; shadows' sizes; exact programs -/
theorem sh_dep {S : List String} : ∀ p : Pg, (sh S p).dep = p.dep
  | .stp s => by unfold sh; split <;> rfl
  | .non => rfl
  | .beh a b => by show max _ _ + 1 = max _ _ + 1; rw [sh_dep a, sh_dep b]
  | .eit a b => by show max _ _ + 1 = max _ _ + 1; rw [sh_dep a, sh_dep b]
  | .aga a => by show _ + 1 = _ + 1; rw [sh_dep a]
theorem sh_agn {S : List String} : ∀ p : Pg, (sh S p).agn = p.agn
  | .stp s => by unfold sh; split <;> rfl
  | .non => rfl
  | .beh a b => by show max _ _ = max _ _; rw [sh_agn a, sh_agn b]
  | .eit a b => by show max _ _ = max _ _; rw [sh_agn a, sh_agn b]
  | .aga a => by show _ + 1 = _ + 1; rw [sh_agn a]
theorem sh_size {S : List String} : ∀ p : Pg, (sh S p).size = p.size
  | .stp s => by unfold sh; split <;> rfl
  | .non => rfl
  | .beh a b => by show _ + _ + 1 = _ + _ + 1; rw [sh_size a, sh_size b]
  | .eit a b => by show _ + _ + 1 = _ + _ + 1; rw [sh_size a, sh_size b]
  | .aga a => by show _ + 1 = _ + 1; rw [sh_size a]
theorem sh_cnt {S : List String} : ∀ p : Pg, (sh S p).cnt ≤ p.cnt
  | .stp s => by
    unfold sh
    split
    · exact Nat.le_refl _
    · exact Nat.zero_le _
  | .non => Nat.le_refl _
  | .beh a b => Nat.add_le_add (sh_cnt a) (sh_cnt b)
  | .eit a b => Nat.add_le_add (sh_cnt a) (sh_cnt b)
  | .aga a => Nat.mul_le_mul_left 8 (sh_cnt a)
theorem Run.sh {st s1 : Sts} {p : Pg} (r : Run st p) : Run s1 (sh (nms s1) p) :=
  ⟨⟨sh_on p, by rw [sh_dep]; exact r.ok.dep, by rw [sh_agn]; exact r.ok.agn, by rw [sh_size]; exact r.ok.size⟩, Nat.le_trans (sh_cnt p) r.cnt⟩
section
variable {T : Tab} {D : String → Option Def} {n : Nat} {rest h : LH}
theorem exa_pg [Has D "_law_exact" d__law_exact] [Has D "_law_int" d__law_int] : ∀ (p : Pg) {n : Nat} {h : LH}, call T D (n + p.dep + 1) "_law_exact" [p.w, p.w] h = .ok (.bl true) h
  | .stp s, n, h => exa_tup (n := n) (by simp) fun x hx => by
    rcases List.mem_cons.mp hx with rfl | hx
    · exact exa_str
    · rw [List.mem_singleton.mp hx]; exact exa_str
  | .non, n, h => exa_tup (n := n) (by simp) fun x hx => by rw [List.mem_singleton.mp hx]; exact exa_str
  | .beh a b, n, h => exa_tup (n := n + max a.dep b.dep) (by simp) fun x hx => by
    rcases List.mem_cons.mp hx with rfl | hx
    · exact exa_str
    · rcases List.mem_cons.mp hx with rfl | hx
      · have := exa_pg a (n := n + (max a.dep b.dep - a.dep)) (h := h)
        rwa [show n + (max a.dep b.dep - a.dep) + a.dep + 1 = n + max a.dep b.dep + 1 by omega] at this
      · rw [List.mem_singleton.mp hx]
        have := exa_pg b (n := n + (max a.dep b.dep - b.dep)) (h := h)
        rwa [show n + (max a.dep b.dep - b.dep) + b.dep + 1 = n + max a.dep b.dep + 1 by omega] at this
  | .eit a b, n, h => exa_tup (n := n + max a.dep b.dep) (by simp) fun x hx => by
    rcases List.mem_cons.mp hx with rfl | hx
    · exact exa_str
    · rcases List.mem_cons.mp hx with rfl | hx
      · have := exa_pg a (n := n + (max a.dep b.dep - a.dep)) (h := h)
        rwa [show n + (max a.dep b.dep - a.dep) + a.dep + 1 = n + max a.dep b.dep + 1 by omega] at this
      · rw [List.mem_singleton.mp hx]
        have := exa_pg b (n := n + (max a.dep b.dep - b.dep)) (h := h)
        rwa [show n + (max a.dep b.dep - b.dep) + b.dep + 1 = n + max a.dep b.dep + 1 by omega] at this
  | .aga a, n, h => exa_tup (n := n + a.dep) (by simp) fun x hx => by
    rcases List.mem_cons.mp hx with rfl | hx
    · exact exa_str
    · rw [List.mem_singleton.mp hx]
      exact exa_pg a
variable {ns : List String}
end
end Lb
namespace Lb
open Mp
section
variable {T : Tab} {D : String → Option Def} {n : Nat} {rest h : LH} {N M : Nat}
variable {v l : Nat} {ms : List Nat} {st : Sts} {p : Pg}
end
end Lb
namespace Lb
open Mp
/-! ### the finest two glasses whose apart glasses lie within some glasses -/
def onF (N M : Nat) (ms : List Nat) : List Nat := (List.range (2 ^ N)).filter fun a => decide (box N M a (2 ^ M - 1) ∈ ms)
def otF (N M : Nat) (ms : List Nat) : List Nat := (List.range (2 ^ M)).filter fun b => decide (box N M (2 ^ N - 1) b ∈ ms)
section
variable {N M : Nat} {ms os bs : List Nat}
def bxd (N M u : Nat) : Nat := box N M (prj N M false u) (prj N M true u)
def relF (N M : Nat) (ms : List Nat) : List Nat := ms.filter fun u => !decide (bxd N M u = u)
end
section
variable {T : Tab} {D : String → Option Def} {n : Nat} {rest h : LH} {N M : Nat} {ms : List Nat}
end
end Lb
namespace Lb
open Mp
/-! ### all glasses -/
def mkG (v k : Nat) : List Nat := (List.range (2 ^ v - 1)).filter (fun l => k.testBit l) ++ [2 ^ v - 1]
def glB (v k : Nat) : Bool := decide ((mets v (mkG v k)).length = (mkG v k).length)
def allG (v : Nat) : List (List Nat) := ((List.range (2 ^ (2 ^ v - 1))).filter fun k => glB v k).map (mkG v)
section
variable {T : Tab} {D : String → Option Def} {n : Nat} {rest h : LH}
end
end Lb
namespace Lb
open Mp
def cpW (c : List Nat × List Nat) : W := .tup [rwW c.1, rwW c.2]
def Cps (N M : Nat) (cs : List (List Nat × List Nat)) : Prop := (∀ c ∈ cs, Gl N c.1 ∧ Gl M c.2)
def Drw (N M : Nat) (w : W) : Prop := ∃ (ms : List Nat) (kn : Bool), w = .tup [.fl (nats ms), .bl kn] ∧ Gl (N * M) ms ∧ (kn = true → ∃ os bs, Gl N os ∧ Gl M bs ∧ aps N M os bs = ms)
section
variable {T : Tab} {D : String → Option Def} {n : Nat} {rest h : LH} {N M : Nat} {ms : List Nat}
end
end Lb
namespace Lb
open Mp
section
variable {v : Nat} {ms row : List Nat} {st : Sts} {p : Pg} {l : Nat}
end
section
variable {T : Tab} {D : String → Option Def} {n : Nat} {rest h : LH} {v : Nat} {as bs : List Nat}
end
end Lb
namespace Lb
open Mp
/-! ### facts: a lot and what it is rounded to -/
/-- a lot keeps a fact -/
def kpB (l : Nat) (f : Nat × Nat) : Bool := !decide (Sb f.1 l) || decide (Sb f.2 l)
/-- members of the finest glasses -/
def fins (v : Nat) (F : List (Nat × Nat)) : List Nat := (List.range (2 ^ v)).filter fun l => F.all (kpB l)
/-- .. and of the coarsest -/
def crs (v : Nat) (F : List (Nat × Nat)) : List Nat := mets v (F.map (·.2))
def Fc (v : Nat) (F : List (Nat × Nat)) : Prop := ∀ f ∈ F, f.1 < 2 ^ v ∧ f.2 < 2 ^ v
/-- the pair of facts that does not fit -/
def badF (F : List (Nat × Nat)) (i j : Nat) : Bool := if i = j then !decide (Sb (F.getD i (0, 0)).1 (F.getD i (0, 0)).2) else !kpB (F.getD i (0, 0)).2 (F.getD j (0, 0))
def rowB (F : List (Nat × Nat)) (i : Nat) : Option (Nat × Nat) := ((List.range' 0 F.length).find? (badF F i)).map fun j => (i, j)
def msf (F : List (Nat × Nat)) : Option (Nat × Nat) := (List.range' 0 F.length).findSome? (rowB F)
/-- the first lot at which the two differ -/
def ask (v : Nat) (F : List (Nat × Nat)) : Option Nat := (List.range (2 ^ v)).find? fun l => !decide (rd (fins v F) l = rd (crs v F) l)
end Lb
/-! facts: the walks -/
namespace Lb
open Mp
/-- what a law with facts says of its names -/
class FcT (T : Tab) : Prop where
  most : T.gl "MOST_FACTS" = some (.int 64)
  fld : T.fld "Misfit" = ["place", "other"]
  ini : T.mth "Misfit" "__init__" 2 = true
  nof : T.ex "NoneFits" = some ["place", "other"]
section
variable {T : Tab} {D : String → Option Def} {n : Nat} {rest h : LH}
variable {v : Nat}
def fw (f : Nat × Nat) : List W := [.int f.1, .int f.2]
/-- facts as they are handed in -/
def Gv (v : Nat) (Gs : List (W × Nat × Nat)) : Prop := ∀ g ∈ Gs, Sq g.1 (fw g.2) ∧ g.2.1 < 2 ^ v ∧ g.2.2 < 2 ^ v
def fcW (F : List (Nat × Nat)) : List W := F.map fun f => .tup (fw f)
end
end Lb
/-! facts: fitting, misfits -/
namespace Lb
open Mp
section
variable {T : Tab} {D : String → Option Def} {n : Nat} {rest h : LH}
variable {v : Nat}
def mfW (p : Nat × Nat) : W := .obj "Misfit" ["place", "other"] [.int p.1, .int p.2]
def mfP (F : List (Nat × Nat)) (h : LH) (x : W) (h' : LH) : Prop := match msf F with
  | none => x = .non ∧ h' = h
  | some p => x = mfW p ∧ h' = h ++ [.dead]
end
end Lb
/-! facts: the law's own misfits; fitting facts -/
namespace Lb
open Mp
section
variable {T : Tab} {D : String → Option Def} {n : Nat} {rest h : LH}
variable {v : Nat}
/-- .. as the law reckons it -/
def mfO (F : List (Nat × Nat)) : W := match msf F with
  | none => .non
  | some p => .tup [.int p.1, .int p.2]
end
end Lb
/-! facts that fit, facts that do not -/
namespace Lb
open Mp
section
variable {T : Tab} {D : String → Option Def} {n : Nat} {rest h : LH}
variable {v : Nat}
end
end Lb
/-! facts: the finest and the coarsest glasses -/
namespace Lb
open Mp
section
variable {T : Tab} {D : String → Option Def} {n : Nat} {rest h : LH}
variable {v : Nat}
end
end Lb
/-! facts: asks; what does not fit leaves by an exception -/
namespace Lb
open Mp
section
variable {T : Tab} {D : String → Option Def} {n : Nat} {rest h : LH}
variable {v : Nat}
theorem call_D {f : String} {d : Def} {ws : List W} (hd : D f = some d) (hl : ws.length = d.np) : call T D (n + 1) f ws h = (evS T (call T D n) d.body (ws.map some ++ List.replicate (d.n - d.np) none) h).toR := by
  show (match D f with | some d => callD T (call T D n) d ws h | none => .no) = _
  rw [hd]
  exact callD_len hl
def nfX (p : Nat × Nat) (h : LH) : R W := .ex "NoneFits" ["place", "other"] [.int p.1, .int p.2] h
/-- facts as data are facts as they are handed in -/
def tG (F : List (Nat × Nat)) : List (W × Nat × Nat) := F.map fun f => (.tup (fw f), f)
end
end Lb
/-! facts: asks and what they show -/
namespace Lb
open Mp
section
variable {T : Tab} {D : String → Option Def} {n : Nat} {rest h : LH}
variable {v : Nat}
def askW : Option Nat → W
  | none => .non
  | some l => .int l
end
end Lb
/-! facts: the law's finest glasses -/
namespace Lb
open Mp
section
variable {T : Tab} {D : String → Option Def} {n : Nat} {rest h : LH}
variable {v : Nat}
end
end Lb
/-! facts: as the law hands them in -/
namespace Lb
open Mp
section
variable {T : Tab} {D : String → Option Def} {n : Nat} {rest h : LH}
variable {v : Nat}
end
end Lb
/-! facts: as the law draws them -/
namespace Lb
open Mp
section
variable {T : Tab} {D : String → Option Def} {n : Nat} {rest h : LH}
variable {v : Nat}
end
end Lb
/-! facts: as the law draws them, whole -/
namespace Lb
open Mp
section
variable {T : Tab} {D : String → Option Def} {n : Nat} {rest h : LH}
variable {v : Nat}
theorem Fc.set {F : List (Nat × Nat)} {i a b : Nat} (h : Fc v F) (ha : a < 2 ^ v) (hb : b < 2 ^ v) : Fc v (F.set i (a, b)) := fun f hf => by
  rcases List.mem_or_eq_of_mem_set hf with hf | hf
  · exact h f hf
  · rw [hf]; exact ⟨ha, hb⟩
end
end Lb
/-! rewritings: shapes, and what is seen of them -/
namespace Lb
open Mp
/-- a shape with letters -/
inductive Sh where
  | ltr (i : Nat) | non | beh (a b : Sh) | eit (a b : Sh) | aga (a : Sh)
def ltrS : Nat → String
  | 0 => "r" | 1 => "s" | _ => "t"
def Sh.w : Sh → W
  | .ltr i => .str (ltrS i)
  | .non => .tup [.str "nothing"]
  | .beh a b => .tup [.str "behind", a.w, b.w]
  | .eit a b => .tup [.str "either", a.w, b.w]
  | .aga a => .tup [.str "again", a.w]
def Sh.fil (ps : Nat → Pg) : Sh → Pg
  | .ltr i => ps i
  | .non => .non
  | .beh a b => .beh (a.fil ps) (b.fil ps)
  | .eit a b => .eit (a.fil ps) (b.fil ps)
  | .aga a => .aga (a.fil ps)
/-- bounds of what is filled in -/
def Sh.dep (d : Nat) : Sh → Nat
  | .ltr _ => d | .non => 1
  | .beh a b => max (a.dep d) (b.dep d) + 1 | .eit a b => max (a.dep d) (b.dep d) + 1 | .aga a => a.dep d + 1
def Sh.size (d : Nat) : Sh → Nat
  | .ltr _ => d | .non => 1
  | .beh a b => a.size d + b.size d + 1 | .eit a b => a.size d + b.size d + 1 | .aga a => a.size d + 1
def Sh.agn (d : Nat) : Sh → Nat
  | .ltr _ => d | .non => 0
  | .beh a b => max (a.agn d) (b.agn d) | .eit a b => max (a.agn d) (b.agn d) | .aga a => a.agn d + 1
def Sh.cnt (d : Nat) : Sh → Nat
  | .ltr _ => d | .non => 0
  | .beh a b => a.cnt d + b.cnt d | .eit a b => a.cnt d + b.cnt d | .aga a => 8 * a.cnt d
/-- only letters below n -/
def Sh.let (n : Nat) : Sh → Bool
  | .ltr i => decide (i < n) | .non => true
  | .beh a b => a.let n && b.let n | .eit a b => a.let n && b.let n | .aga a => a.let n
def Sh.sz : Sh → Nat
  | .ltr _ => 1 | .non => 1
  | .beh a b => max a.sz b.sz + 1 | .eit a b => max a.sz b.sz + 1 | .aga a => a.sz + 1
section
variable {ps : Nat → Pg} {d n : Nat}
theorem fil_dep : ∀ (s : Sh), s.let n = true → (∀ i < n, (ps i).dep ≤ d) → (s.fil ps).dep ≤ s.dep d
  | .ltr i, h, q => q i (of_decide_eq_true h)
  | .non, _, _ => Nat.le_refl _
  | .beh a b, h, q => by
    obtain ⟨h1, h2⟩ := Bool.and_eq_true_iff.mp h
    have := fil_dep a h1 q; have := fil_dep b h2 q
    show max (a.fil ps).dep (b.fil ps).dep + 1 ≤ max (a.dep d) (b.dep d) + 1
    omega
  | .eit a b, h, q => by
    obtain ⟨h1, h2⟩ := Bool.and_eq_true_iff.mp h
    have := fil_dep a h1 q; have := fil_dep b h2 q
    show max (a.fil ps).dep (b.fil ps).dep + 1 ≤ max (a.dep d) (b.dep d) + 1
    omega
  | .aga a, h, q => Nat.succ_le_succ (fil_dep a h q)
end
/-! ### closures -/
section
variable {v : Nat} {ms : List Nat} {f q : Nat → Nat}
/-- f on members -/
structure Mf (ms : List Nat) (f : Nat → Nat) : Prop where
  mem : ∀ x ∈ ms, f x ∈ ms
  mono : ∀ x ∈ ms, ∀ y ∈ ms, Sb x y → Sb (f x) (f y)
theorem jn_l (g : Gl v ms) {a b : Nat} (ha : a ∈ ms) (hb : b ∈ ms) : Sb a (rd ms (a ||| b)) := (Sb.orl a b).trans (g.rd_has (or_lt (g.lt a ha) (g.lt b hb)))
theorem jn_r (g : Gl v ms) {a b : Nat} (ha : a ∈ ms) (hb : b ∈ ms) : Sb b (rd ms (a ||| b)) := (Sb.orr a b).trans (g.rd_has (or_lt (g.lt a ha) (g.lt b hb)))
theorem jn_le (g : Gl v ms) {a b c : Nat} (hc : c ∈ ms) (h1 : Sb a c) (h2 : Sb b c) : Sb (rd ms (a ||| b)) c := rd_sb hc (h1.or h2)
theorem its_up (g : Gl v ms) (hf : Mf ms f) {m : Nat} (hm : m ∈ ms) (k : Nat) : Sb m (its ms f k m) := its_sub g hf.mem k m hm
theorem its_in (g : Gl v ms) (hf : Mf ms f) {m : Nat} (hm : m ∈ ms) (k : Nat) : its ms f k m ∈ ms := its_mem g k m hm
theorem its_le (g : Gl v ms) (hf : Mf ms f) {z : Nat} (hz : z ∈ ms) (h : Sb (f z) z) : ∀ (k m : Nat), m ∈ ms → Sb m z → Sb (its ms f k m) z
  | 0, m, _, hm => hm
  | k + 1, m, mm, hm => by
    unfold its
    split
    · exact hm
    · exact its_le g hf hz h k _ (g.rd_mem _) (jn_le g hz hm ((hf.mono m mm z hz hm).trans h))
theorem its_clo (g : Gl v ms) (h6 : v ≤ 6) (hf : Mf ms f) {m : Nat} (hm : m ∈ ms) : Sb (f (its ms f 8 m)) (its ms f 8 m) := by
  have e := its_fix g h6 hf.mem 8 m hm (by omega)
  have i := its_in g hf hm 8
  have := jn_r g i (hf.mem _ i)
  rwa [e] at this
theorem its_id (g : Gl v ms) (hf : Mf ms f) {m : Nat} (hm : m ∈ ms) (h : Sb (f m) m) (k : Nat) : its ms f k m = m := (its_le g hf hm h k m hm (Sb.refl m)).anti (its_up g hf hm k)
theorem Mf.clo (g : Gl v ms) (h6 : v ≤ 6) (hf : Mf ms f) : Mf ms (its ms f 8) := ⟨fun x hx => its_in g hf hx 8, fun x hx y hy h => its_le g hf (its_in g hf hy 8) (its_clo g h6 hf hy) 8 x hx (h.trans (its_up g hf hy 8))⟩
theorem Mf.beh (hf : Mf ms f) (hq : Mf ms q) : Mf ms fun x => q (f x) := ⟨fun x hx => hq.mem _ (hf.mem x hx), fun x hx y hy h => hq.mono _ (hf.mem x hx) _ (hf.mem y hy) (hf.mono x hx y hy h)⟩
theorem Mf.eit (g : Gl v ms) (hf : Mf ms f) (hq : Mf ms q) : Mf ms fun x => rd ms (f x ||| q x) :=
  ⟨fun x hx => g.rd_mem _, fun x hx y hy h => jn_le g (g.rd_mem _) ((hf.mono x hx y hy h).trans (jn_l g (hf.mem y hy) (hq.mem y hy))) ((hq.mono x hx y hy h).trans (jn_r g (hf.mem y hy) (hq.mem y hy)))⟩
theorem jn_assoc (g : Gl v ms) {a b c : Nat} (ha : a ∈ ms) (hb : b ∈ ms) (hc : c ∈ ms) : rd ms (rd ms (a ||| b) ||| c) = rd ms (a ||| rd ms (b ||| c)) := by
  have hbc := g.rd_mem (b ||| c)
  have hab := g.rd_mem (a ||| b)
  refine (jn_le g (g.rd_mem _) (jn_le g (g.rd_mem _) (jn_l g ha hbc) ((jn_l g hb hc).trans (jn_r g ha hbc))) ((jn_r g hb hc).trans (jn_r g ha hbc))).anti
    (jn_le g (g.rd_mem _) ((jn_l g ha hb).trans (jn_l g hab hc)) (jn_le g (g.rd_mem _) ((jn_r g ha hb).trans (jn_l g hab hc)) (jn_r g hab hc)))
theorem again_once (g : Gl v ms) (h6 : v ≤ 6) (hf : Mf ms f) {m : Nat} (hm : m ∈ ms) : its ms (its ms f 8) 8 m = its ms f 8 m := by
  have hc := hf.clo g h6
  have e1 : its ms f 8 (its ms f 8 m) = its ms f 8 m := its_id g hf (its_in g hf hm 8) (its_clo g h6 hf hm) 8
  refine (its_le g hc (its_in g hf hm 8) (by rw [e1]; exact Sb.refl _) 8 m hm (its_up g hf hm 8)).anti ?_
  have i := its_in g hc hm 8
  exact its_le g hf i ((hf.mono _ i _ (hc.mem _ i) (its_up g hf i 8)).trans ((its_clo g h6 hf i).trans (its_clo g h6 hc hm))) 8 m hm (its_up g hc hm 8)
theorem again_twice (g : Gl v ms) (h6 : v ≤ 6) (hf : Mf ms f) {m : Nat} (hm : m ∈ ms) : its ms f 8 (its ms f 8 m) = its ms f 8 m := its_id g hf (its_in g hf hm 8) (its_clo g h6 hf hm) 8
/-- closed under f: under its closure -/
theorem clo_iff (g : Gl v ms) (h6 : v ≤ 6) (hf : Mf ms f) {x : Nat} (hx : x ∈ ms) : Sb (its ms f 8 x) x ↔ Sb (f x) x :=
  ⟨fun h => (hf.mono x hx _ (its_in g hf hx 8) (its_up g hf hx 8)).trans ((its_clo g h6 hf hx).trans h), fun h => by rw [its_id g hf hx h]; exact Sb.refl _⟩
theorem eit_iff (g : Gl v ms) (hf : Mf ms f) (hq : Mf ms q) {x : Nat} (hx : x ∈ ms) : Sb (rd ms (f x ||| q x)) x ↔ Sb (f x) x ∧ Sb (q x) x :=
  ⟨fun h => ⟨(jn_l g (hf.mem x hx) (hq.mem x hx)).trans h, (jn_r g (hf.mem x hx) (hq.mem x hx)).trans h⟩, fun ⟨a, b⟩ => jn_le g hx a b⟩
/-- two functions with the same closed members have the same closure -/
theorem clo_same (g : Gl v ms) (h6 : v ≤ 6) (hf : Mf ms f) (hq : Mf ms q) (h : ∀ x ∈ ms, Sb (f x) x ↔ Sb (q x) x) {m : Nat} (hm : m ∈ ms) : its ms f 8 m = its ms q 8 m :=
  (its_le g hf (its_in g hq hm 8) ((h _ (its_in g hq hm 8)).mpr (its_clo g h6 hq hm)) 8 m hm (its_up g hq hm 8)).anti
    (its_le g hq (its_in g hf hm 8) ((h _ (its_in g hf hm 8)).mp (its_clo g h6 hf hm)) 8 m hm (its_up g hf hm 8))
theorem again_mixed (g : Gl v ms) (h6 : v ≤ 6) (hf : Mf ms f) (hq : Mf ms q) {m : Nat} (hm : m ∈ ms) : its ms (fun x => rd ms (f x ||| q x)) 8 m = its ms (fun x => its ms q 8 (its ms f 8 x)) 8 m := by
  refine clo_same g h6 (hf.eit g hq) ((hf.clo g h6).beh (hq.clo g h6)) (fun x hx => ?_) hm
  rw [eit_iff g hf hq hx]
  constructor
  · rintro ⟨a, b⟩
    rw [its_id g hf hx a, its_id g hq hx b]
    exact Sb.refl x
  · intro h
    have i := its_in g hf hx 8
    have a : Sb (its ms f 8 x) x := (its_up g hq i 8).trans h
    have e := a.anti (its_up g hf hx 8)
    rw [e] at h
    exact ⟨(clo_iff g h6 hf hx).mp a, (clo_iff g h6 hq hx).mp h⟩
theorem again_ended (g : Gl v ms) (h6 : v ≤ 6) (hf : Mf ms f) {m : Nat} (hm : m ∈ ms) : its ms f 8 m = rd ms (m ||| f (its ms f 8 m)) := by
  have i := its_in g hf hm 8
  have fi := hf.mem _ i
  have up : Sb (rd ms (m ||| f (its ms f 8 m))) (its ms f 8 m) := jn_le g i (its_up g hf hm 8) (its_clo g h6 hf hm)
  exact (its_le g hf (g.rd_mem _) ((hf.mono _ (g.rd_mem _) _ i up).trans (jn_r g hm fi)) 8 m hm (jn_l g hm fi)).anti up
theorem again_turns (g : Gl v ms) (h6 : v ≤ 6) (hf : Mf ms f) (hq : Mf ms q) {m : Nat} (hm : m ∈ ms) : its ms (fun x => rd ms (f x ||| q x)) 8 m = its ms f 8 (its ms (fun x => q (its ms f 8 x)) 8 m) := by
  have he := hf.eit g hq
  have hb := (hf.clo g h6).beh hq
  have iz := its_in g hb hm 8
  have iw := its_in g hf iz 8
  have iy := its_in g he hm 8
  obtain ⟨y1, y2⟩ := (eit_iff g hf hq iy).mp (its_clo g h6 he hm)
  refine (its_le g he iw ((eit_iff g hf hq iw).mpr ⟨its_clo g h6 hf iz, (its_clo g h6 hb hm).trans (its_up g hf iz 8)⟩) 8 m hm ((its_up g hb hm 8).trans (its_up g hf iz 8))).anti ?_
  refine its_le g hf iy y1 8 _ iz (its_le g hb iy ?_ 8 m hm (its_up g he hm 8))
  show Sb (q (its ms f 8 _)) _
  rw [its_id g hf iy y1]
  exact y2
end
end Lb
/-! the rewritings family: what the laws draw -/
namespace Lb
open Mp
def pool2 : List String := ["r", "s", "t", "again", "step", "either", "behind", "back", "meet", "f"]
section
variable {T : Tab} {D : String → Option Def} {n : Nat} {rest h : LH}
variable {v : Nat} {ms : List Nat}
theorem nam39_sp [Has D "_law_names" d__law_names39] [Has D "_law_take" d__law_take] [Has D "_law_mixed" d__law_mixed] {m : Nat} (hm : m ≤ 10) (hh : Hn rest h) : Ok (call T D (n + 3) "_law_names" [.ref 1, .int m] h) fun w h' => Hx rest h' ∧ ∃ ns : List String, w = .fl (ns.map .str) ∧ ns.length = m ∧ ns.Nodup ∧ ∀ s ∈ ns, s ∈ pool ∨ s ∈ pool2 := by
  rw [Ok_call (Has.eq : D "_law_names" = some d__law_names39) rfl]
  have hlen := hh.len
  have hq : ∀ {x : O} {k : LH}, Hn (rest ++ [x]) k → k[h.length]? = some x := fun {x k} hk => by
    have a := hk.at rest.length
    rw [hlen]
    simpa using a
  have hp : ∀ {x : O} {k : LH}, Hn (rest ++ [x]) k → ∀ z, Hn (rest ++ [z]) (k.set h.length z) := fun {x k} hk z => by
    have := hk.put rest.length z
    rw [hlen]
    simpa using this
  have e5 : okRng 0 (m : Int) = true := okRng_small (a := 0) (b := m) (by omega) (by omega)
  have e6 : rngW 0 (m : Int) = nats (List.range m) := rngW_nat m
  refine Sk_mid 2 (fun σ1 h1 => ∃ p0 : List String, (p0 = pool ∨ p0 = pool2) ∧ Hn rest h1 ∧ σ1 = [some (.ref 1), some (.int m), some (.fl (p0.map .str)), none, none, none]) ?_ ?_
  · simp [d__law_names39, fst]
    refine Ok.mono (take_sp hh (by decide) (by decide)) ?_
    rintro _ h1 ⟨hh1, r, rfl, hr⟩
    have hr2 : r = 0 ∨ r = 1 := by omega
    rcases hr2 with rfl | rfl
    · simp
      exact .inl ⟨hh1, rfl⟩
    · simp
      exact .inr ⟨hh1, rfl⟩
  rintro R hR σ1 h1 ⟨p0, hp0, hh1, rfl⟩
  have hR2 : R = rst 2 d__law_names39.body := hR
  clear hR
  subst hR2
  have nd0 : p0.Nodup := by rcases hp0 with rfl | rfl <;> decide
  have l0 : p0.length = 10 := by rcases hp0 with rfl | rfl <;> rfl
  have in0 : ∀ s ∈ p0, s ∈ pool ∨ s ∈ pool2 := fun s hs => by
    rcases hp0 with rfl | rfl
    · exact .inl hs
    · exact .inr hs
  have hlen1 : h1.length = h.length := by rw [hh1.len, hlen]
  simp [d__law_names39, rst, e5, e6, hlen1]
  have hh0 : Hn (rest ++ [O.lst []]) (h1 ++ [O.lst []]) := hh1.app _
  refine for_inv (us := List.range m) (fun (k : Nat) => .int k) (fun us σ h' => ∃ acc pl : List String, Hn (rest ++ [.lst (acc.map .str)]) h' ∧ σ = [some (.ref 1), some (.int m), some (.fl (pl.map .str)), some (.ref h.length), none, none] ∧ (acc ++ pl).Nodup ∧ (∀ s ∈ acc ++ pl, s ∈ p0) ∧ acc.length + pl.length = 10 ∧ acc.length + us.length = m) ?_ ?_ ⟨[], p0, hh0, rfl, nd0, fun _ z => z, by simpa using l0, by simp⟩
  · rintro σ h' ⟨acc, pl, hk, rfl, nd, hn, _, hl⟩
    refine ⟨rfl, ?_⟩
    simp [hq hk]
    refine ⟨⟨_, hp hk .dead⟩, acc, rfl, by simpa using hl, (List.nodup_append.mp nd).1, fun s hs => in0 s (hn s (List.mem_append_left _ hs))⟩
  · rintro u us σ h' ⟨acc, pl, hk, rfl, nd, hn, h10, hl⟩
    rw [List.length_cons] at hl
    refine ⟨rfl, _, rfl, ?_⟩
    simp
    refine Ok.mono (take_sp hk (by omega) (by omega)) ?_
    rintro _ h2 ⟨hh2, i, rfl, hi⟩
    have hi : i < pl.length := by omega
    have hix : ix (pl.map W.str) (i : Int) = some (.str pl[i]) := by rw [ix_nat]; simp [hi]
    have hix2 : ∃ a, ix pl (i : Int) = some a ∧ a = pl[i] := ⟨pl[i], by rw [ix_nat]; simp [hi], rfl⟩
    have al : acc.length < big := by unfold big; omega
    have c1 : cut (pl.map W.str) none (some (i : Int)) = (pl.take i).map .str := by rw [cut_take, List.map_take]
    have c2 : cut (pl.map W.str) (some ((i : Int) + 1)) none = (pl.drop (i + 1)).map .str := by rw [cut_drop1, List.map_drop]
    have lb : (pl.take i).length + (pl.drop (i + 1)).length ≤ big := by
      have := List.length_take_le i pl
      rw [List.length_drop]
      unfold big; omega
    simp [hix, hq hh2, isLst, evLm, al, c1, c2]
    have epl : pl = pl.take i ++ pl[i] :: pl.drop (i + 1) := by
      rw [← List.drop_eq_getElem_cons hi, List.take_append_drop]
    have perm : ((acc ++ [pl[i]]) ++ (pl.take i ++ pl.drop (i + 1))).Perm (acc ++ pl) := by
      rw [List.append_assoc]
      refine List.Perm.append_left _ ?_
      have := (List.perm_middle (a := pl[i]) (l₁ := pl.take i) (l₂ := pl.drop (i + 1))).symm
      rw [← epl] at this
      exact this
    refine ⟨by have := List.length_take_le i pl; unfold big; omega, acc ++ [pl[i]], ?_, pl.take i ++ pl.drop (i + 1), by rw [List.map_append, List.map_take, List.map_drop], perm.nodup_iff.mpr nd, fun s hs => hn s (perm.mem_iff.mp (List.mem_append.mpr hs)), ?_, by rw [List.length_append, List.length_singleton]; omega⟩
    · rw [List.map_append]
      exact hp hh2 _
    · rw [List.length_append, List.length_singleton, List.length_append, List.length_take, List.length_drop, Nat.min_eq_left (by omega)]
      omega
/-- a letter's program -/
def Ltp (ns : List String) (lv dp : Nat) (p : Pg) : Prop := ∃ a b, 1 ≤ a ∧ a ≤ lv ∧ b ≤ dp ∧ Drn ns a b p
def LetP (rest : LH) (k : Nat) (ns : List String) (m lv dp : Nat) (ps : List Pg) (j : Nat) (σ1 : Env) (h1 : LH) : Prop := Hn (rest ++ [.lst (ps.map Pg.w)]) h1 ∧ ps.length = j ∧ (∀ p ∈ ps, Ltp ns lv dp p) ∧ σ1 = [some (.ref 1), some (.fl (ns.map .str)), some (.int m), some (.int lv), some (.int dp), some (.ref k), none]
abbrev flM (r : List Nat) : W := .fl (nats r)
def Wl39 (w : W) : Prop := ∃ (v : Nat) (ms : List Nat) (st : Sts), w = .fl [.int v, .fl (nats ms), .fl (st.map entW), rowsD flM st] ∧ 1 ≤ v ∧ v ≤ 6 ∧ Gl v ms ∧ Stp v st ∧ st ≠ [] ∧ st.length ≤ 3
end
end Lb
/-! the table of rewritings -/
namespace Lb
open Mp
structure RwE where
  nm : String
  n : Nat
  vd : String
  l : Sh
  r : Sh
def RwE.w (e : RwE) : W := .tup [.str e.nm, .int e.n, .str e.vd, e.l.w, e.r.w]
abbrev lR : Sh := .ltr 0
abbrev lS : Sh := .ltr 1
abbrev lT : Sh := .ltr 2
def rwT : List RwE := [
  ⟨"bracket_behind", 3, "alike", .beh (.beh lR lS) lT, .beh lR (.beh lS lT)⟩,
  ⟨"drop_first", 1, "alike", .beh .non lR, lR⟩,
  ⟨"drop_last", 1, "alike", .beh lR .non, lR⟩,
  ⟨"drop_double", 1, "alike", .eit lR lR, lR⟩,
  ⟨"turn_either", 2, "alike", .eit lR lS, .eit lS lR⟩,
  ⟨"bracket_either", 3, "alike", .eit (.eit lR lS) lT, .eit lR (.eit lS lT)⟩,
  ⟨"spread_first", 3, "alike", .beh lR (.eit lS lT), .eit (.beh lR lS) (.beh lR lT)⟩,
  ⟨"again_once", 1, "alike", .aga (.aga lR), .aga lR⟩,
  ⟨"again_twice", 1, "alike", .beh (.aga lR) (.aga lR), .aga lR⟩,
  ⟨"again_mixed", 2, "alike", .aga (.eit lR lS), .aga (.beh (.aga lR) (.aga lS))⟩,
  ⟨"again_ended", 1, "alike", .aga lR, .eit .non (.beh (.aga lR) lR)⟩,
  ⟨"again_turns", 2, "alike", .aga (.eit lR lS), .beh (.aga (.beh (.aga lR) lS)) (.aga lR)⟩,
  ⟨"spread_last", 3, "sharper", .beh (.eit lR lS) lT, .eit (.beh lR lT) (.beh lS lT)⟩,
  ⟨"unroll", 1, "sharper", .aga lR, .eit .non (.beh lR (.aga lR))⟩,
  ⟨"slide_one", 1, "sharper", .beh (.aga lR) lR, .beh lR (.aga lR)⟩,
  ⟨"slide_two", 2, "sharper", .beh (.aga (.beh lR lS)) lR, .beh lR (.aga (.beh lS lR))⟩,
  ⟨"part_again", 2, "sharper", .aga (.eit lR lS), .beh (.aga lR) (.aga (.beh lS (.aga lR)))⟩,
  ⟨"halve_again", 1, "sharper", .aga lR, .beh (.eit .non lR) (.aga (.beh lR lR))⟩]
theorem rwT_nd : (rwT.map (·.nm)).Nodup := by decide
theorem rwT_let : ∀ e ∈ rwT, (e.l.let e.n = true ∧ e.r.let e.n = true) ∧ 1 ≤ e.n ∧ e.n ≤ 3 ∧ e.l.sz ≤ 5 ∧ e.r.sz ≤ 5 := by decide
class RwT (T : Tab) : Prop where
  tab : T.gl "TABLE" = some (.tup (rwT.map RwE.w))
section
variable {v : Nat} {ms : List Nat} {st : Sts} {ps : Nat → Pg}
theorem sen_mf (g : Gl v ms) (hr : ∀ p ∈ st, Rw v p.2) {p : Pg} (ho : p.on st) : Mf ms (fun x => sen ms st p x) := ⟨fun x hx => sen_mem g p x hx, fun x hx y hy h => sen_finer g g (fun _ z => z) hr p x y ho hx hy h⟩
theorem alike (g : Gl v ms) (h6 : v ≤ 6) (hr : ∀ p ∈ st, Rw v p.2) {e : RwE} (he : e ∈ rwT) (hv : e.vd = "alike") (hf : ∀ i < e.n, (ps i).on st) {m : Nat} (hm : m ∈ ms) : sen ms st (e.l.fil ps) m = sen ms st (e.r.fil ps) m := by
  have F : ∀ i < e.n, Mf ms (fun x => sen ms st (ps i) x) := fun i hi => sen_mf g hr (hf i hi)
  have M : ∀ i < e.n, ∀ x ∈ ms, sen ms st (ps i) x ∈ ms := fun i hi => (F i hi).mem
  simp only [rwT, List.mem_cons, List.not_mem_nil, or_false] at he
  rcases he with rfl | rfl | rfl | rfl | rfl | rfl | rfl | rfl | rfl | rfl | rfl | rfl | rfl | rfl | rfl | rfl | rfl | rfl
  · rfl
  · rfl
  · rfl
  · show rd ms (_ ||| _) = _
    rw [Nat.or_self]
    exact g.rd_fix (M 0 (by decide) m hm)
  · show rd ms (_ ||| _) = rd ms (_ ||| _)
    rw [Nat.or_comm]
  · exact jn_assoc g (M 0 (by decide) m hm) (M 1 (by decide) m hm) (M 2 (by decide) m hm)
  · rfl
  · exact again_once g h6 (F 0 (by decide)) hm
  · exact again_twice g h6 (F 0 (by decide)) hm
  · exact again_mixed g h6 (F 0 (by decide)) (F 1 (by decide)) hm
  · exact again_ended g h6 (F 0 (by decide)) hm
  · exact again_turns g h6 (F 0 (by decide)) (F 1 (by decide)) hm
  all_goals exact absurd hv (by decide : ¬ "sharper" = "alike")
end
section
variable {T : Tab} {D : String → Option Def} {n : Nat} {rest h : LH}
variable {v : Nat} {ms : List Nat} {ps : Nat → Pg}
theorem ety_eq [RwT T] [Has D "entry_of" d_entry_of] {e : RwE} (he : e ∈ rwT) : call T D (n + 1) "entry_of" [.str e.nm] h = .ok e.w h := by
  apply Ok.eq
  rw [Ok_call (Has.eq : D "entry_of" = some d_entry_of) rfl]
  have tl : (rwT.map RwE.w).length = 18 := by rw [List.length_map]; rfl
  simp [d_entry_of, RwT.tab, seqOf]
  refine for_inv (us := rwT) RwE.w (fun us σ h' => (e ∈ us ∧ (us.map (·.nm)).Nodup) ∧ σ = [some (.str e.nm), none] ∧ h' = h) ?_ ?_ ⟨⟨he, rwT_nd⟩, rfl, rfl⟩
  · rintro σ h' ⟨⟨z, _⟩, _⟩
    cases z
  · rintro u us σ h' ⟨⟨z, nd⟩, rfl, rfl⟩
    refine ⟨rfl, _, rfl, ?_⟩
    rw [List.map_cons, List.nodup_cons] at nd
    by_cases c : u.nm = e.nm
    · have ue : u = e := by
        rcases List.mem_cons.mp z with z | z
        · exact z.symm
        · exact absurd (List.mem_map.mpr ⟨e, z, c.symm⟩) nd.1
      subst ue
      have i0 : ix [W.str u.nm, .int u.n, .str u.vd, u.l.w, u.r.w] 0 = some (.str u.nm) := by simp [ix]
      have ts : tyOk h' (.str u.nm) .str = some true := rfl
      simp [RwE.w, i0, ts]
    · have ze : e ∈ us := by
        rcases List.mem_cons.mp z with z | z
        · exact absurd (congrArg RwE.nm z.symm) c
        · exact z
      have i0 : ix [W.str u.nm, .int u.n, .str u.vd, u.l.w, u.r.w] 0 = some (.str u.nm) := by simp [ix]
      have ts : tyOk h' (.str e.nm) .str = some true := rfl
      simp [RwE.w, i0, c, ts]
      exact ⟨ze, nd.2⟩
theorem fil_nod [Has D "filled_shape" d_filled_shape] {k : Nat} (wd : String) (ks : List Sh) (hk : ∀ s ∈ ks, call T D n "filled_shape" [s.w, .ref k] h = .ok (s.fil ps).w h) (ll : ks.length ≤ 10) :
    call T D (n + 1) "filled_shape" [.tup (.str wd :: ks.map Sh.w), .ref k] h = .ok (.tup (.str wd :: ks.map fun s => (s.fil ps).w)) h := by
  apply Ok.eq
  rw [Ok_call (Has.eq : D "filled_shape" = some d_filled_shape) rfl]
  have i0 : ∀ r, ix (W.str wd :: r) 0 = some (.str wd) := fun r => by simp [ix]
  have c1 : cut (W.str wd :: ks.map Sh.w) (some 1) none = ks.map Sh.w := cut_drop (k := 1)
  have cm : compL (evE T (call T D n) (.call "filled_shape" (.cons (.var 2) (.cons (.var 1) .nil)))) (evE T (call T D n) (.cst (.bl true))) (.one 2) [some (.tup (.str wd :: ks.map Sh.w)), some (.ref k), none] [] (ks.map Sh.w) h = .ok (ks.map fun s => (s.fil ps).w) h := by
    refine comp_all Sh.w _ (fun s => _) rfl fun s hs => ⟨rfl, ev_cst, ?_⟩
    apply Ok.eq
    simp [hk s hs]
  have tt : tyOk h (.tup (W.str wd :: ks.map Sh.w)) .str = some false := rfl
  simp [d_filled_shape, i0, c1, tt]
  refine ⟨by unfold big; omega, Eq.mpr (congrArg (fun r => Ok r _) cm) ?_⟩
  simp
  unfold big; omega
theorem fil_eq [Has D "filled_shape" d_filled_shape] {k nl : Nat} {ks vs : List W} (hd : h[k]? = some (.dic ks vs)) (hl : ∀ i < nl, dlk (.str (ltrS i)) ks vs = some (ps i).w) : ∀ (s : Sh) {n : Nat}, s.let nl = true → call T D (n + s.sz) "filled_shape" [s.w, .ref k] h = .ok (s.fil ps).w h
  | .ltr i, n, q => by
    have qi : i < nl := of_decide_eq_true q
    apply Ok.eq
    show Ok (call T D (n + 1) "filled_shape" [.str (ltrS i), .ref k] h) _
    rw [Ok_call (Has.eq : D "filled_shape" = some d_filled_shape) rfl]
    have ts : tyOk h (.str (ltrS i)) .str = some true := rfl
    simp [d_filled_shape, hd, keyF, hl i qi, ts]
    rfl
  | .non, n, q => fil_nod (n := n) (ps := ps) "nothing" [] (fun s hs => by cases hs) (by decide)
  | .aga a, n, q => fil_nod (n := n + a.sz) "again" [a] (fun s hs => by rw [List.mem_singleton.mp hs]; exact fil_eq hd hl a q) (by show 1 ≤ 10; decide)
  | .beh a b, n, q => by
    obtain ⟨q1, q2⟩ := Bool.and_eq_true_iff.mp q
    refine fil_nod (n := n + max a.sz b.sz) "behind" [a, b] (fun s hs => ?_) (by show 2 ≤ 10; decide)
    rcases List.mem_cons.mp hs with e | hs
    · rw [e]
      have := fil_eq hd hl a (n := n + (max a.sz b.sz - a.sz)) q1
      rwa [show n + (max a.sz b.sz - a.sz) + a.sz = n + max a.sz b.sz by omega] at this
    · rw [List.mem_singleton.mp hs]
      have := fil_eq hd hl b (n := n + (max a.sz b.sz - b.sz)) q2
      rwa [show n + (max a.sz b.sz - b.sz) + b.sz = n + max a.sz b.sz by omega] at this
  | .eit a b, n, q => by
    obtain ⟨q1, q2⟩ := Bool.and_eq_true_iff.mp q
    refine fil_nod (n := n + max a.sz b.sz) "either" [a, b] (fun s hs => ?_) (by show 2 ≤ 10; decide)
    rcases List.mem_cons.mp hs with e | hs
    · rw [e]
      have := fil_eq hd hl a (n := n + (max a.sz b.sz - a.sz)) q1
      rwa [show n + (max a.sz b.sz - a.sz) + a.sz = n + max a.sz b.sz by omega] at this
    · rw [List.mem_singleton.mp hs]
      have := fil_eq hd hl b (n := n + (max a.sz b.sz - b.sz)) q2
      rwa [show n + (max a.sz b.sz - b.sz) + b.sz = n + max a.sz b.sz by omega] at this
/-- the law's own filling -/
theorem find_ltr : ∀ i < 3, PySem.Txt.find (PySem.Str.ofString "rst") (PySem.Str.ofString (ltrS i)) = (i : Int) := by decide +kernel
theorem put_nod [Has D "_law_put" d__law_put39] {L : W} (wd : String) (ks : List Sh) (hk : ∀ s ∈ ks, call T D n "_law_put" [s.w, L] h = .ok (s.fil ps).w h) (ll : ks.length ≤ 10) :
    call T D (n + 1) "_law_put" [.tup (.str wd :: ks.map Sh.w), L] h = .ok (.tup (.str wd :: ks.map fun s => (s.fil ps).w)) h := by
  apply Ok.eq
  rw [Ok_call (Has.eq : D "_law_put" = some d__law_put39) rfl]
  have i0 : ∀ r, ix (W.str wd :: r) 0 = some (.str wd) := fun r => by simp [ix]
  have c1 : cut (W.str wd :: ks.map Sh.w) (some 1) none = ks.map Sh.w := cut_drop (k := 1)
  have cm : compL (evE T (call T D n) (.call "_law_put" (.cons (.var 2) (.cons (.var 1) .nil)))) (evE T (call T D n) (.cst (.bl true))) (.one 2) [some (.tup (.str wd :: ks.map Sh.w)), some L, none] [] (ks.map Sh.w) h = .ok (ks.map fun s => (s.fil ps).w) h := by
    refine comp_all Sh.w _ (fun s => _) rfl fun s hs => ⟨rfl, ev_cst, ?_⟩
    apply Ok.eq
    simp [hk s hs]
  have tt : tyOk h (.tup (W.str wd :: ks.map Sh.w)) .str = some false := rfl
  simp [d__law_put39, i0, c1, tt]
  refine ⟨by unfold big; omega, Eq.mpr (congrArg (fun r => Ok r _) cm) ?_⟩
  simp
  unfold big; omega
theorem put_eq [Has D "_law_put" d__law_put39] {L : List Pg} (l3 : L.length ≤ 3) : ∀ (s : Sh) {n : Nat}, s.let L.length = true → call T D (n + s.sz) "_law_put" [s.w, .fl (L.map Pg.w)] h = .ok (s.fil fun i => L.getD i .non).w h
  | .ltr i, n, q => by
    have qi : i < L.length := of_decide_eq_true q
    apply Ok.eq
    show Ok (call T D (n + 1) "_law_put" [.str (ltrS i), .fl (L.map Pg.w)] h) _
    rw [Ok_call (Has.eq : D "_law_put" = some d__law_put39) rfl]
    have hx : ix (L.map Pg.w) (i : Int) = some (L.getD i .non).w := by rw [ix_nat, List.getElem?_map, List.getElem?_eq_getElem qi]; simp [qi]
    have ts : tyOk h (.str (ltrS i)) .str = some true := rfl
    rw [List.getD_eq_getElem?_getD] at hx
    simp [d__law_put39, find_ltr i (by omega), hx, ts]
    simp [Sh.fil]
  | .non, n, q => put_nod (n := n) (ps := fun i => L.getD i .non) "nothing" [] (fun s hs => by cases hs) (by decide)
  | .aga a, n, q => put_nod (n := n + a.sz) "again" [a] (fun s hs => by rw [List.mem_singleton.mp hs]; exact put_eq l3 a q) (by show 1 ≤ 10; decide)
  | .beh a b, n, q => by
    obtain ⟨q1, q2⟩ := Bool.and_eq_true_iff.mp q
    refine put_nod (n := n + max a.sz b.sz) "behind" [a, b] (fun s hs => ?_) (by show 2 ≤ 10; decide)
    rcases List.mem_cons.mp hs with e | hs
    · rw [e]
      have := put_eq l3 a (n := n + (max a.sz b.sz - a.sz)) q1
      rwa [show n + (max a.sz b.sz - a.sz) + a.sz = n + max a.sz b.sz by omega] at this
    · rw [List.mem_singleton.mp hs]
      have := put_eq l3 b (n := n + (max a.sz b.sz - b.sz)) q2
      rwa [show n + (max a.sz b.sz - b.sz) + b.sz = n + max a.sz b.sz by omega] at this
  | .eit a b, n, q => by
    obtain ⟨q1, q2⟩ := Bool.and_eq_true_iff.mp q
    refine put_nod (n := n + max a.sz b.sz) "either" [a, b] (fun s hs => ?_) (by show 2 ≤ 10; decide)
    rcases List.mem_cons.mp hs with e | hs
    · rw [e]
      have := put_eq l3 a (n := n + (max a.sz b.sz - a.sz)) q1
      rwa [show n + (max a.sz b.sz - a.sz) + a.sz = n + max a.sz b.sz by omega] at this
    · rw [List.mem_singleton.mp hs]
      have := put_eq l3 b (n := n + (max a.sz b.sz - b.sz)) q2
      rwa [show n + (max a.sz b.sz - b.sz) + b.sz = n + max a.sz b.sz by omega] at this
theorem table_eq [Has D "_law_table" d__law_table] : call T D (n + 1) "_law_table" [] h = .ok (.fl (rwT.map RwE.w)) h := by
  rw [call_D (Has.eq : D "_law_table" = some d__law_table) rfl]
  rfl
/-- the letters, numbered -/
def enP : Nat → List Pg → List (Nat × Pg)
  | _, [] => []
  | k, p :: r => (k, p) :: enP (k + 1) r
def enG (q : Nat × Pg) : W := .tup [.int q.1, q.2.w]
theorem enP_w : ∀ (L : List Pg) (k : Nat), enumW k (L.map Pg.w) = (enP k L).map enG
  | [], _ => rfl
  | p :: r, k => by
    show W.tup [.int k, p.w] :: enumW (k + 1) (r.map Pg.w) = _
    rw [enP_w r (k + 1)]
    rfl
def ltK (k : Nat) : List W := (List.range k).map fun i => .str (ltrS i)
theorem ltK_new : ∀ k < 3, W.str (ltrS k) ∉ ltK k := by decide
theorem rst_ix : ∀ (k : Nat), k < 3 → evIx (.str "rst") (.int (k : Int)) h = .ok (.str (ltrS k)) h := fun k hk => by
  have : k = 0 ∨ k = 1 ∨ k = 2 := by omega
  rcases this with rfl | rfl | rfl <;> rfl
theorem ltK_look {L : List Pg} (l3 : L.length ≤ 3) : ∀ i < L.length, dlk (.str (ltrS i)) (ltK L.length) (L.map Pg.w) = some (L.getD i .non).w := fun i hi => by
  match L, l3, hi with
  | [a], _, hi => rw [show i = 0 by simpa using hi]; rfl
  | [a, b], _, hi =>
    have hi : i < 2 := hi
    have : i = 0 ∨ i = 1 := by omega
    rcases this with rfl | rfl <;> rfl
  | [a, b, c], _, hi =>
    have hi : i < 3 := hi
    have : i = 0 ∨ i = 1 ∨ i = 2 := by omega
    rcases this with rfl | rfl | rfl <;> rfl
theorem pair_ok [RwT T] [Has D "rewriting_pair" d_rewriting_pair] [Has D "entry_of" d_entry_of] [Has D "filled_shape" d_filled_shape] [Has D "is_sequence" d_is_sequence] {e : RwE} {L : List Pg} {w : W} (he : e ∈ rwT) (hw : Sq w (L.map Pg.w)) (hl : L.length = e.n) : ∃ o, call T D (n + 6) "rewriting_pair" [.str e.nm, w] h = .ok (.tup [(e.l.fil fun i => L.getD i .non).w, (e.r.fil fun i => L.getD i .non).w]) (h ++ [o]) := by
  obtain ⟨⟨q1, q2⟩, n1, n3, s1, s2⟩ := rwT_let e he
  have l3 : L.length ≤ 3 := by omega
  refine ⟨.dic (ltK L.length) (L.map Pg.w), ?_⟩
  apply Ok.eq
  rw [Ok_call (Has.eq : D "rewriting_pair" = some d_rewriting_pair) rfl]
  have et : ∀ h, call T D (n + 5) "entry_of" [.str e.nm] h = .ok e.w h := fun h => ety_eq (n := n + 4) he
  have i1 : ix [W.str e.nm, .int e.n, .str e.vd, e.l.w, e.r.w] 1 = some (.int e.n) := rfl
  have i3 : ix [W.str e.nm, .int e.n, .str e.vd, e.l.w, e.r.w] 3 = some e.l.w := rfl
  have i4 : ix [W.str e.nm, .int e.n, .str e.vd, e.l.w, e.r.w] 4 = some e.r.w := rfl
  have iq := isq_eq (T := T) (D := D) (n := n + 4) (h := h) hw
  have lw : (L.map Pg.w).length = e.n := by rw [List.length_map, hl]
  simp [d_rewriting_pair, et, RwE.w, i1, iq, len_sq hw, hl, seq_sq hw, gd_sq hw]
  rw [enP_w]
  refine for_inv (us := enP 0 L) enG (fun us σ h' => ∃ pre suf, L = pre ++ suf ∧ us = enP pre.length suf ∧ h' = h ++ [.dic (ltK pre.length) (pre.map Pg.w)] ∧ σ = [some (.str e.nm), some w, some e.w, some (.ref h.length), none, none]) ?_ ?_ ⟨[], L, rfl, rfl, rfl, rfl⟩
  · rintro σ h' ⟨pre, suf, e1, e2, rfl, rfl⟩
    have s0 : suf = [] := by cases suf with
      | nil => rfl
      | cons a b => cases e2
    subst s0
    rw [List.append_nil] at e1
    subst e1
    refine ⟨rfl, ?_⟩
    have hd : (h ++ [O.dic (ltK L.length) (L.map Pg.w)])[h.length]? = some (.dic (ltK L.length) (L.map Pg.w)) := app_at
    have f1 := fil_eq (T := T) (D := D) hd (ltK_look l3) e.l (n := n + (5 - e.l.sz)) (by rw [hl]; exact q1)
    have f2 := fil_eq (T := T) (D := D) hd (ltK_look l3) e.r (n := n + (5 - e.r.sz)) (by rw [hl]; exact q2)
    rw [show n + (5 - e.l.sz) + e.l.sz = n + 5 by omega] at f1
    rw [show n + (5 - e.r.sz) + e.r.sz = n + 5 by omega] at f2
    simp [RwE.w, i3, i4, f1, f2]
    rw [hl]
  · rintro u us σ h' ⟨pre, suf, e1, e2, rfl, rfl⟩
    cases suf with
    | nil => cases e2
    | cons p suf =>
      obtain ⟨rfl, rfl⟩ := List.cons.inj e2
      have pl : pre.length < 3 := by
        have := congrArg List.length e1
        simp at this
        omega
      refine ⟨rfl, _, rfl, ?_⟩
      have b1 : (ltK pre.length).length < big := by unfold ltK big; rw [List.length_map, List.length_range]; omega
      have k1 : dputK (.str (ltrS pre.length)) (ltK pre.length) = ltK (pre.length + 1) := by
        unfold dputK
        rw [if_neg (ltK_new _ pl)]
        unfold ltK
        rw [List.range_succ, List.map_append]
        rfl
      have k2 : dputV (.str (ltrS pre.length)) p.w (ltK pre.length) (pre.map Pg.w) = (pre ++ [p]).map Pg.w := by
        unfold dputV
        rw [if_neg (ltK_new _ pl), List.map_append]
        rfl
      simp [rst_ix _ pl, keyF, b1, k1, k2]
      refine ⟨pre ++ [p], suf, by rw [e1, List.append_assoc]; rfl, by rw [List.length_append]; rfl, by rw [List.length_append]; rfl, by rw [List.map_append]; rfl⟩
end
end Lb
/-! pairs: tables of one name over both, cross rows -/
namespace Lb
open Mp
/-- the k-th statement; a loop's body -/
def nthS : Nat → S → S
  | 0, .seq s _ => s
  | k + 1, .seq _ r => nthS k r
  | _, s => s
def forB : S → S
  | .for_ _ _ b => b
  | s => s
section
variable {T : Tab} {D : String → Option Def} {n : Nat} {rest h : LH}
variable {N M : Nat}
def celT (N M : Nat) (w : Bool) (tb : List Nat) (x y : Nat) : Nat := if w then box N M (2 ^ x) (tb.getD (x * M + y) 0) else box N M (tb.getD (x * M + y) 0) (2 ^ y)
end
end Lb
/-! the table of rewritings: what is refused -/
namespace Lb
open Mp
/-- BadRewriting keeps what it was told -/
class RwX (T : Tab) : Prop where
  ex : T.ex "BadRewriting" = some ["what"]
section
variable {T : Tab} {D : String → Option Def} {n : Nat} {h rest : LH}
theorem Sk_nx_ex {r : RS} {P : Env → LH → Prop} (hr : Sk r P (fun _ _ => False) (fun _ _ => False) (fun _ _ => False)) : ∃ σ h', r = .nx σ h' ∧ P σ h' := by
  cases r with
  | nx σ h => exact ⟨σ, h, rfl, hr⟩
  | _ => exact hr.elim
def rwEx (s : String) (h : LH) : R W := .ex "BadRewriting" ["what"] [.str s] h
/-- no name of the table -/
def Odd (w : W) : Prop := (∀ h, tyOk h w .str = some false) ∨ ∃ s, w = .str s ∧ ∀ e ∈ rwT, e.nm ≠ s
theorem callD_ex {cl : Cl} {d : Def} {ws : List W} {f : String} (hd : D f = some d) (hl : ws.length = d.np) : call T D (n + 1) f ws h = (evS T (call T D n) d.body (ws.map some ++ List.replicate (d.n - d.np) none) h).toR := by
  show (match D f with | some d => callD T (call T D n) d ws h | none => .no) = _
  rw [hd]
  exact callD_len hl
theorem ety_no [RwT T] [RwX T] [Has D "entry_of" d_entry_of] {w : W} (hw : Odd w) : call T D (n + 1) "entry_of" [w] h = rwEx "name" h := by
  rw [callD_ex (cl := call T D n) (Has.eq : D "entry_of" = some d_entry_of) rfl]
  have tl : (rwT.map RwE.w).length = 18 := by rw [List.length_map]; rfl
  have key : ∃ σ h', evS T (call T D n) (nthS 0 d_entry_of.body) [some w, none] h = .nx σ h' ∧ (σ = [some w, none] ∧ h' = h) := by
    apply Sk_nx_ex
    simp [d_entry_of, nthS, RwT.tab, seqOf]
    refine for_inv (us := rwT) RwE.w (fun us σ h' => (∀ e ∈ us, e ∈ rwT) ∧ σ = [some w, none] ∧ h' = h) ?_ ?_ ⟨fun e he => he, rfl, rfl⟩
    · rintro σ h' ⟨_, rfl, rfl⟩
      exact ⟨rfl, rfl, rfl⟩
    · rintro u us σ h' ⟨hu, rfl, rfl⟩
      refine ⟨rfl, _, rfl, ?_⟩
      have hu1 := hu u (List.mem_cons_self ..)
      have hus : ∀ e ∈ us, e ∈ rwT := fun e he => hu e (List.mem_cons_of_mem _ he)
      have i0 : ix [W.str u.nm, .int u.n, .str u.vd, u.l.w, u.r.w] 0 = some (.str u.nm) := by simp [ix]
      rcases hw with hw | ⟨s, rfl, hs⟩
      · simp [RwE.w, hw h']
        exact hus
      · have ts : tyOk h' (.str s) .str = some true := rfl
        have ne := hs u hu1
        simp [RwE.w, i0, ts, ne]
        exact hus
  obtain ⟨σ, h', e, rfl, rfl⟩ := key
  have e2 : evS T (call T D n) d_entry_of.body [some w, none] h' = (match evS T (call T D n) (nthS 0 d_entry_of.body) [some w, none] h' with
    | .nx σ1 h1 => evS T (call T D n) (rst 1 d_entry_of.body) σ1 h1
    | r => r) := by rfl
  show (evS T (call T D n) d_entry_of.body [some w, none] h').toR = _
  rw [e2, e]
  simp [d_entry_of, rst, evS, evE, R.toS, R.bind, RwX.ex, items, RS.toR, rwEx]
theorem vrd_eq [RwT T] [Has D "entry_of" d_entry_of] [Has D "verdict_of" d_verdict_of] {e : RwE} (he : e ∈ rwT) : call T D (n + 2) "verdict_of" [.str e.nm] h = .ok (.str e.vd) h := by
  apply Ok.eq
  rw [Ok_call (Has.eq : D "verdict_of" = some d_verdict_of) rfl]
  have i2 : ix [W.str e.nm, .int e.n, .str e.vd, e.l.w, e.r.w] 2 = some (.str e.vd) := by simp [ix]
  simp [d_verdict_of, ety_eq (T := T) (D := D) (n := n) he, RwE.w, i2]
theorem lof_eq [RwT T] [Has D "entry_of" d_entry_of] [Has D "letters_of" d_letters_of] {e : RwE} (he : e ∈ rwT) : call T D (n + 2) "letters_of" [.str e.nm] h = .ok (.int e.n) h := by
  apply Ok.eq
  rw [Ok_call (Has.eq : D "letters_of" = some d_letters_of) rfl]
  have i1 : ix [W.str e.nm, .int e.n, .str e.vd, e.l.w, e.r.w] 1 = some (.int e.n) := by simp [ix]
  simp [d_letters_of, ety_eq (T := T) (D := D) (n := n) he, RwE.w, i1]
theorem vrd_no [RwT T] [RwX T] [Has D "entry_of" d_entry_of] [Has D "verdict_of" d_verdict_of] {w : W} (hw : Odd w) : call T D (n + 2) "verdict_of" [w] h = rwEx "name" h := by
  rw [callD_ex (cl := call T D (n + 1)) (Has.eq : D "verdict_of" = some d_verdict_of) rfl]
  simp [d_verdict_of, evS, evE, R.toS, R.bind, RS.toR, ety_no (T := T) (D := D) (n := n) hw, rwEx]
theorem lof_no [RwT T] [RwX T] [Has D "entry_of" d_entry_of] [Has D "letters_of" d_letters_of] {w : W} (hw : Odd w) : call T D (n + 2) "letters_of" [w] h = rwEx "name" h := by
  rw [callD_ex (cl := call T D (n + 1)) (Has.eq : D "letters_of" = some d_letters_of) rfl]
  simp [d_letters_of, evS, evE, R.toS, R.bind, RS.toR, ety_no (T := T) (D := D) (n := n) hw, rwEx]
theorem pair_no [RwT T] [RwX T] [Has D "entry_of" d_entry_of] [Has D "rewriting_pair" d_rewriting_pair] [Has D "filled_shape" d_filled_shape] [Has D "is_sequence" d_is_sequence] {w x : W} (hw : Odd w) : call T D (n + 2) "rewriting_pair" [w, x] h = rwEx "name" h := by
  rw [callD_ex (cl := call T D (n + 1)) (Has.eq : D "rewriting_pair" = some d_rewriting_pair) rfl]
  simp [d_rewriting_pair, evS, evE, R.toS, R.bind, RS.toR, ety_no (T := T) (D := D) (n := n) hw, rwEx]
/-- no sequence as long as is asked -/
def Wrg (h : LH) (m : Nat) (x : W) : Prop := tyAny h x [.list, .tuple] = some false ∨ ∃ xs, Sq x xs ∧ xs.length ≠ m
theorem isq_no [Has D "is_sequence" d_is_sequence] {x : W} (hx : tyAny h x [.list, .tuple] = some false) : call T D (n + 1) "is_sequence" [x] h = .ok (.bl false) h := by
  apply Ok.eq
  rw [Ok_call (Has.eq : D "is_sequence" = some d_is_sequence) rfl]
  simp [d_is_sequence, hx]
theorem pair_many [RwT T] [RwX T] [Has D "entry_of" d_entry_of] [Has D "rewriting_pair" d_rewriting_pair] [Has D "is_sequence" d_is_sequence] [Has D "filled_shape" d_filled_shape] {e : RwE} {x : W} (he : e ∈ rwT) (hx : Wrg h e.n x) : call T D (n + 2) "rewriting_pair" [.str e.nm, x] h = rwEx "many" h := by
  rw [callD_ex (cl := call T D (n + 1)) (Has.eq : D "rewriting_pair" = some d_rewriting_pair) rfl]
  have et : ∀ h, call T D (n + 1) "entry_of" [.str e.nm] h = .ok e.w h := fun h => ety_eq (n := n) he
  have i1 : ∀ h, evIx e.w (.int 1) h = .ok (.int e.n) h := fun h => by
    apply Ok.eq
    have i1 : ix [W.str e.nm, .int e.n, .str e.vd, e.l.w, e.r.w] 1 = some (.int e.n) := rfl
    simp [RwE.w, i1]
  have tr : ∀ b : Bool, truW h (.bl b) = some b := fun b => rfl
  rcases hx with hx | ⟨xs, hs, hl⟩
  · have iq := isq_no (T := T) (D := D) (n := n) hx
    simp [d_rewriting_pair, evS, evE, R.toS, R.bind, RS.toR, et, iq, tr, RwX.ex, items, rwEx]
  · have iq := isq_eq (T := T) (D := D) (n := n) (h := h) hs
    have ll : evF .len [x] h = .ok (.int xs.length) h := by
      apply Ok.eq
      rw [len_sq hs]
      exact ⟨rfl, rfl⟩
    have nq : evC .ne (.int xs.length) (.int e.n) h = .ok (.bl true) h := by
      apply Ok.eq
      simp
      omega
    simp [d_rewriting_pair, evS, evE, R.toS, R.bind, RS.toR, et, iq, tr, ll, i1, nq, RwX.ex, items, rwEx]
theorem rnm_eq [RwT T] [Has D "rewriting_names" d_rewriting_names] : call T D (n + 1) "rewriting_names" [] h = .ok (.tup (rwT.map fun e => .str e.nm)) h := by
  apply Ok.eq
  rw [Ok_call (Has.eq : D "rewriting_names" = some d_rewriting_names) rfl]
  have cn : ∀ σ h (_ : 0 < σ.length), compL (evE T (call T D n) (.idx (.var 0) (.cst (.int 0)))) (evE T (call T D n) (.cst (.bl true))) (.one 0) σ [] (rwT.map RwE.w) h = .ok (rwT.map fun e => .str e.nm) h := fun σ h h9 => by
    refine comp_all RwE.w _ (fun p => σ.set 0 (some p.w)) rfl fun p hp => ⟨rfl, ev_cst, ?_⟩
    apply Ok.eq
    have i0 : ix [W.str p.nm, .int p.n, .str p.vd, p.l.w, p.r.w] 0 = some (.str p.nm) := by simp [ix]
    simp [List.getElem?_set_self h9, RwE.w, i0]
  simp [d_rewriting_names, RwT.tab, seqOf, cn, -List.map_map]
  unfold big
  decide
theorem letters7_sp [Has D "_law_letters" d__law_letters] [Has D "_law_program" d__law_program] [Has D "_law_take" d__law_take] [Has D "_law_mixed" d__law_mixed] {ns : List String} {m lv dp : Nat} (hn : ns ≠ []) (hn2 : ns.length ≤ 1000) (m1 : 1 ≤ m) (m3 : m ≤ 3) (hlv : lv ≤ 4) (l1 : 1 ≤ lv) (hdp : dp ≤ 3) (hh : Hn rest h) :
    Ok (call T D (n + 12) "_law_letters" [.ref 1, .fl (ns.map .str), .int m, .int lv, .int dp] h) fun w h' => Hx rest h' ∧ ∃ ps : List Pg, w = .fl (ps.map Pg.w) ∧ ps.length = m ∧ ∀ p ∈ ps, Ltp ns lv dp p := by
  rw [Ok_call (Has.eq : D "_law_letters" = some d__law_letters) rfl]
  have hlen := hh.len
  have at0 : ∀ {x : O} {k : LH}, Hn (rest ++ [x]) k → k[h.length]? = some x := fun {x k} hk => by
    have a := hk.at rest.length
    rw [hlen, a]
    simp
  have put0 : ∀ {x : O} {k : LH}, Hn (rest ++ [x]) k → ∀ z, Hn (rest ++ [z]) (k.set h.length z) := fun {x k} hk z => by
    have := hk.put rest.length z
    rw [hlen]
    simpa using this
  have e5 : okRng 0 (m : Int) = true := (rng_ok (by omega)).1
  have hh0 : Hn (rest ++ [O.lst (([] : List Pg).map Pg.w)]) (h ++ [O.lst []]) := hh.app _
  generalize hB : d__law_letters.body = B
  refine Sk_mid 2 (fun σ1 h1 => ∃ ps, LetP rest h.length ns m lv dp ps m σ1 h1) ?_ ?_
  · subst hB
    simp [d__law_letters, fst, e5, rngW_nat]
    refine for_inv (us := List.range m) (fun o : Nat => .int o) (fun us σ h' => ∃ ps j, LetP rest h.length ns m lv dp ps j σ h' ∧ j + us.length = m) ?_ ?_ ⟨([] : List Pg), 0, ⟨hh0, rfl, (fun p hp => by cases hp), rfl⟩, by simp⟩
    · rintro σ h' ⟨ps, j, ⟨hh3, hl, hp, rfl⟩, hj⟩
      exact ⟨rfl, ps, hh3, by simpa [hl] using hj, hp, rfl⟩
    · rintro k us σ h' ⟨ps, j, ⟨hh3, hl, hp, rfl⟩, hj⟩
      refine ⟨rfl, _, rfl, ?_⟩
      rw [List.length_cons] at hj
      simp [isLst, at0 hh3]
      refine Ok.mono (take_sp hh3 (by omega) (by omega)) ?_
      rintro _ h4 ⟨hh4, a, rfl, ha⟩
      simp
      refine Ok.mono (take_sp hh4 (by omega) (by omega)) ?_
      rintro _ h5 ⟨hh5, b, rfl, hb⟩
      have lp := lpr_sp (T := T) (D := D) (ns := ns) hn hn2 8 (n := n) (leaves := 1 + a) (deep := b) (h := h5) (by omega) (by omega) (by omega) hh5
      rw [show ((1 + a : Nat) : Int) = 1 + (a : Int) by omega] at lp
      refine Ok.mono lp ?_
      rintro _ h6 ⟨hh6, p, rfl, dr⟩
      have b1 : ps.length < big := by unfold big; omega
      simp [isLst, at0 hh6, evLm, b1]
      refine ⟨ps ++ [p], j + 1, ⟨by rw [List.map_append]; exact put0 hh6 _, by rw [List.length_append, hl]; rfl, fun x hx => ?_, rfl⟩, by omega⟩
      rcases List.mem_append.mp hx with hx | hx
      · exact hp x hx
      · rw [List.mem_singleton.mp hx]
        exact ⟨1 + a, b, by omega, by omega, by omega, dr⟩
  rintro R hR σ1 h1 ⟨ps, ⟨hh1, hl, hp, rfl⟩⟩
  have hR2 : R = rst 2 d__law_letters.body := by rw [hB]; exact hR
  clear hR
  subst hR2
  simp [d__law_letters, rst]
  refine Ok.mono (take_sp hh1 (by decide) (by decide)) ?_
  rintro _ h2 ⟨hh2, r, rfl, hr⟩
  by_cases r0 : r = 0
  · subst r0
    cases ps with
    | nil => simp at hl; omega
    | cons p0 ps =>
      have ij : ixn (p0 :: ps).length ((m : Int) - 1) = some (m - 1) := by
        rw [show (m : Int) - 1 = ((m - 1 : Nat) : Int) by omega, ixn_nat, if_pos (by omega)]
      have hm1 : ixn (ps.length + 1) ((m : Int) - 1) = some (m - 1) := ij
      simp [at0 hh2, hm1]
      have e8 : (p0.w :: List.map Pg.w ps).set (m - 1) p0.w = ((p0 :: ps).set (m - 1) p0).map Pg.w := by rw [List.map_set]; rfl
      have hh3 := put0 hh2 (.lst (((p0 :: ps).set (m - 1) p0).map Pg.w))
      rw [e8]
      refine ⟨_, at0 hh3, (put0 hh2 .dead).hxa, _, rfl, by rw [List.length_set]; exact hl, fun x hx => ?_⟩
      rcases List.mem_or_eq_of_mem_set hx with hx | hx
      · exact hp x hx
      · rw [hx]; exact hp p0 (List.mem_cons_self ..)
  · simp [r0, at0 hh2]
    exact ⟨(put0 hh2 _).hxa, ps, rfl, hl, hp⟩
end
end Lb
namespace Lw
open PySem PySem.Spec PyProof.Rows L2 Mp
instance : Lb.Has (dOf rows) "is_sequence" Lb.d_is_sequence := ⟨rfl⟩
instance : Lb.Has (dOf rows) "rewriting_names" Lb.d_rewriting_names := ⟨rfl⟩
instance : Lb.Has (dOf rows) "entry_of" Lb.d_entry_of := ⟨rfl⟩
instance : Lb.Has (dOf rows) "verdict_of" Lb.d_verdict_of := ⟨rfl⟩
instance : Lb.Has (dOf rows) "letters_of" Lb.d_letters_of := ⟨rfl⟩
instance : Lb.Has (dOf rows) "filled_shape" Lb.d_filled_shape := ⟨rfl⟩
instance : Lb.Has (dOf rows) "rewriting_pair" Lb.d_rewriting_pair := ⟨rfl⟩
instance : Lb.Has (dOf rows) "_law_hand" Lb.d__law_hand := ⟨rfl⟩
instance : Lb.Has (dOf rows) "_law_mixed" Lb.d__law_mixed := ⟨rfl⟩
instance : Lb.Has (dOf rows) "_law_take" Lb.d__law_take := ⟨rfl⟩
instance : Lb.Has (dOf rows) "_law_names" Lb.d__law_names39 := ⟨rfl⟩
instance : Lb.Has (dOf rows) "_law_program" Lb.d__law_program := ⟨rfl⟩
instance : Lb.Has (dOf rows) "_law_list" Lb.d__law_list := ⟨rfl⟩
instance : Lb.Has (dOf rows) "_law_int" Lb.d__law_int := ⟨rfl⟩
instance : Lb.Has (dOf rows) "_law_exact" Lb.d__law_exact := ⟨rfl⟩
instance : Lb.Has (dOf rows) "_law_table" Lb.d__law_table := ⟨rfl⟩
instance : Lb.Has (dOf rows) "_law_put" Lb.d__law_put39 := ⟨rfl⟩
instance : Lb.Has (dOf rows) "_law_letters" Lb.d__law_letters := ⟨rfl⟩
instance : Lb.Has (dOf rows) "_law_word" d__law_word := ⟨rfl⟩
instance : Lb.Has (dOf rows) "law" d_law := ⟨rfl⟩
theorem k_is_sequence : RowOk (arOf rows) r_is_sequence where
  chk := by decide +kernel
  sc := ⟨rfl, rfl, rfl, by decide +kernel, rfl, by decide +kernel, by decide +kernel⟩
  np := rfl
  n := rfl
  flat := rfl
  prd := by decide
  bi := fun K f fd F n h1 h2 => by
    have b := FunD.bindsN (ps := r_is_sequence.ps) F fun _ _ _ _ _ _ us hl => match us, hl with | [_], _ => rfl
    exact ⟨[], by rw [show (Mp.Row.dvs r_is_sequence K) = [] from rfl, List.drop_nil]; exact .nil, b⟩
theorem k_rewriting_names : RowOk (arOf rows) r_rewriting_names where
  chk := by decide +kernel
  sc := ⟨rfl, rfl, rfl, by decide +kernel, rfl, by decide +kernel, by decide +kernel⟩
  np := rfl
  n := rfl
  flat := rfl
  prd := by decide
  bi := fun K f fd F n h1 h2 => by
    have b := FunD.bindsN (ps := r_rewriting_names.ps) F fun _ _ _ _ _ _ us hl => match us, hl with | [], _ => rfl
    exact ⟨[], by rw [show (Mp.Row.dvs r_rewriting_names K) = [] from rfl, List.drop_nil]; exact .nil, b⟩
theorem k_entry_of : RowOk (arOf rows) r_entry_of where
  chk := by decide +kernel
  sc := ⟨rfl, rfl, rfl, by decide +kernel, rfl, by decide +kernel, by decide +kernel⟩
  np := rfl
  n := rfl
  flat := rfl
  prd := by decide
  bi := fun K f fd F n h1 h2 => by
    have b := FunD.bindsN (ps := r_entry_of.ps) F fun _ _ _ _ _ _ us hl => match us, hl with | [_], _ => rfl
    exact ⟨[], by rw [show (Mp.Row.dvs r_entry_of K) = [] from rfl, List.drop_nil]; exact .nil, b⟩
theorem k_verdict_of : RowOk (arOf rows) r_verdict_of where
  chk := by decide +kernel
  sc := ⟨rfl, rfl, rfl, by decide +kernel, rfl, by decide +kernel, by decide +kernel⟩
  np := rfl
  n := rfl
  flat := rfl
  prd := by decide
  bi := fun K f fd F n h1 h2 => by
    have b := FunD.bindsN (ps := r_verdict_of.ps) F fun _ _ _ _ _ _ us hl => match us, hl with | [_], _ => rfl
    exact ⟨[], by rw [show (Mp.Row.dvs r_verdict_of K) = [] from rfl, List.drop_nil]; exact .nil, b⟩
theorem k_letters_of : RowOk (arOf rows) r_letters_of where
  chk := by decide +kernel
  sc := ⟨rfl, rfl, rfl, by decide +kernel, rfl, by decide +kernel, by decide +kernel⟩
  np := rfl
  n := rfl
  flat := rfl
  prd := by decide
  bi := fun K f fd F n h1 h2 => by
    have b := FunD.bindsN (ps := r_letters_of.ps) F fun _ _ _ _ _ _ us hl => match us, hl with | [_], _ => rfl
    exact ⟨[], by rw [show (Mp.Row.dvs r_letters_of K) = [] from rfl, List.drop_nil]; exact .nil, b⟩
theorem k_filled_shape : RowOk (arOf rows) r_filled_shape where
  chk := by decide +kernel
  sc := ⟨rfl, rfl, rfl, by decide +kernel, rfl, by decide +kernel, by decide +kernel⟩
  np := rfl
  n := rfl
  flat := rfl
  prd := by decide
  bi := fun K f fd F n h1 h2 => by
    have b := FunD.bindsN (ps := r_filled_shape.ps) F fun _ _ _ _ _ _ us hl => match us, hl with | [_, _], _ => rfl
    exact ⟨[], by rw [show (Mp.Row.dvs r_filled_shape K) = [] from rfl, List.drop_nil]; exact .nil, b⟩
theorem k_rewriting_pair : RowOk (arOf rows) r_rewriting_pair where
  chk := by decide +kernel
  sc := ⟨rfl, rfl, rfl, by decide +kernel, rfl, by decide +kernel, by decide +kernel⟩
  np := rfl
  n := rfl
  flat := rfl
  prd := by decide
  bi := fun K f fd F n h1 h2 => by
    have b := FunD.bindsN (ps := r_rewriting_pair.ps) F fun _ _ _ _ _ _ us hl => match us, hl with | [_, _], _ => rfl
    exact ⟨[], by rw [show (Mp.Row.dvs r_rewriting_pair K) = [] from rfl, List.drop_nil]; exact .nil, b⟩
theorem k__law_hand : RowOk (arOf rows) r__law_hand where
  chk := by decide +kernel
  sc := ⟨rfl, rfl, rfl, by decide +kernel, rfl, by decide +kernel, by decide +kernel⟩
  np := rfl
  n := rfl
  flat := rfl
  prd := by decide
  bi := fun K f fd F n h1 h2 => by
    have b := FunD.bindsN (ps := r__law_hand.ps) F fun _ _ _ _ _ _ us hl => match us, hl with | [_], _ => rfl
    exact ⟨[], by rw [show (Mp.Row.dvs r__law_hand K) = [] from rfl, List.drop_nil]; exact .nil, b⟩
theorem k__law_mixed : RowOk (arOf rows) r__law_mixed where
  chk := by decide +kernel
  sc := ⟨rfl, rfl, rfl, by decide +kernel, rfl, by decide +kernel, by decide +kernel⟩
  np := rfl
  n := rfl
  flat := rfl
  prd := by decide
  bi := fun K f fd F n h1 h2 => by
    have b := FunD.bindsN (ps := r__law_mixed.ps) F fun _ _ _ _ _ _ us hl => match us, hl with | [_, _], _ => rfl
    exact ⟨[], by rw [show (Mp.Row.dvs r__law_mixed K) = [] from rfl, List.drop_nil]; exact .nil, b⟩
theorem k__law_take : RowOk (arOf rows) r__law_take where
  chk := by decide +kernel
  sc := ⟨rfl, rfl, rfl, by decide +kernel, rfl, by decide +kernel, by decide +kernel⟩
  np := rfl
  n := rfl
  flat := rfl
  prd := by decide
  bi := fun K f fd F n h1 h2 => by
    have b := FunD.bindsN (ps := r__law_take.ps) F fun _ _ _ _ _ _ us hl => match us, hl with | [_, _], _ => rfl
    exact ⟨[], by rw [show (Mp.Row.dvs r__law_take K) = [] from rfl, List.drop_nil]; exact .nil, b⟩
theorem k__law_names : RowOk (arOf rows) r__law_names where
  chk := by decide +kernel
  sc := ⟨rfl, rfl, rfl, by decide +kernel, rfl, by decide +kernel, by decide +kernel⟩
  np := rfl
  n := rfl
  flat := rfl
  prd := by decide
  bi := fun K f fd F n h1 h2 => by
    have b := FunD.bindsN (ps := r__law_names.ps) F fun _ _ _ _ _ _ us hl => match us, hl with | [_, _], _ => rfl
    exact ⟨[], by rw [show (Mp.Row.dvs r__law_names K) = [] from rfl, List.drop_nil]; exact .nil, b⟩
theorem k__law_program : RowOk (arOf rows) r__law_program where
  chk := by decide +kernel
  sc := ⟨rfl, rfl, rfl, by decide +kernel, rfl, by decide +kernel, by decide +kernel⟩
  np := rfl
  n := rfl
  flat := rfl
  prd := by decide
  bi := fun K f fd F n h1 h2 => by
    have b := FunD.bindsN (ps := r__law_program.ps) F fun _ _ _ _ _ _ us hl => match us, hl with | [_, _, _, _], _ => rfl
    exact ⟨[], by rw [show (Mp.Row.dvs r__law_program K) = [] from rfl, List.drop_nil]; exact .nil, b⟩
theorem k__law_list : RowOk (arOf rows) r__law_list where
  chk := by decide +kernel
  sc := ⟨rfl, rfl, rfl, by decide +kernel, rfl, by decide +kernel, by decide +kernel⟩
  np := rfl
  n := rfl
  flat := rfl
  prd := by decide
  bi := fun K f fd F n h1 h2 => by
    have b := FunD.bindsN (ps := r__law_list.ps) F fun _ _ _ _ _ _ us hl => match us, hl with | [_, _], _ => rfl
    exact ⟨[], by rw [show (Mp.Row.dvs r__law_list K) = [] from rfl, List.drop_nil]; exact .nil, b⟩
theorem k__law_int : RowOk (arOf rows) r__law_int where
  chk := by decide +kernel
  sc := ⟨rfl, rfl, rfl, by decide +kernel, rfl, by decide +kernel, by decide +kernel⟩
  np := rfl
  n := rfl
  flat := rfl
  prd := by decide
  bi := fun K f fd F n h1 h2 => by
    have b := FunD.bindsN (ps := r__law_int.ps) F fun _ _ _ _ _ _ us hl => match us, hl with | [_], _ => rfl
    exact ⟨[], by rw [show (Mp.Row.dvs r__law_int K) = [] from rfl, List.drop_nil]; exact .nil, b⟩
theorem k__law_exact : RowOk (arOf rows) r__law_exact where
  chk := by decide +kernel
  sc := ⟨rfl, rfl, rfl, by decide +kernel, rfl, by decide +kernel, by decide +kernel⟩
  np := rfl
  n := rfl
  flat := rfl
  prd := by decide
  bi := fun K f fd F n h1 h2 => by
    have b := FunD.bindsN (ps := r__law_exact.ps) F fun _ _ _ _ _ _ us hl => match us, hl with | [_, _], _ => rfl
    exact ⟨[], by rw [show (Mp.Row.dvs r__law_exact K) = [] from rfl, List.drop_nil]; exact .nil, b⟩
theorem k__law_table : RowOk (arOf rows) r__law_table where
  chk := by decide +kernel
  sc := ⟨rfl, rfl, rfl, by decide +kernel, rfl, by decide +kernel, by decide +kernel⟩
  np := rfl
  n := rfl
  flat := rfl
  prd := by decide
  bi := fun K f fd F n h1 h2 => by
    have b := FunD.bindsN (ps := r__law_table.ps) F fun _ _ _ _ _ _ us hl => match us, hl with | [], _ => rfl
    exact ⟨[], by rw [show (Mp.Row.dvs r__law_table K) = [] from rfl, List.drop_nil]; exact .nil, b⟩
theorem k__law_put : RowOk (arOf rows) r__law_put where
  chk := by decide +kernel
  sc := ⟨rfl, rfl, rfl, by decide +kernel, rfl, by decide +kernel, by decide +kernel⟩
  np := rfl
  n := rfl
  flat := rfl
  prd := by decide
  bi := fun K f fd F n h1 h2 => by
    have b := FunD.bindsN (ps := r__law_put.ps) F fun _ _ _ _ _ _ us hl => match us, hl with | [_, _], _ => rfl
    exact ⟨[], by rw [show (Mp.Row.dvs r__law_put K) = [] from rfl, List.drop_nil]; exact .nil, b⟩
theorem k__law_letters : RowOk (arOf rows) r__law_letters where
  chk := by decide +kernel
  sc := ⟨rfl, rfl, rfl, by decide +kernel, rfl, by decide +kernel, by decide +kernel⟩
  np := rfl
  n := rfl
  flat := rfl
  prd := by decide
  bi := fun K f fd F n h1 h2 => by
    have b := FunD.bindsN (ps := r__law_letters.ps) F fun _ _ _ _ _ _ us hl => match us, hl with | [_, _, _, _, _], _ => rfl
    exact ⟨[], by rw [show (Mp.Row.dvs r__law_letters K) = [] from rfl, List.drop_nil]; exact .nil, b⟩
theorem k__law_word : RowOk (arOf rows) r__law_word where
  chk := by decide +kernel
  sc := ⟨rfl, rfl, rfl, by decide +kernel, rfl, by decide +kernel, by decide +kernel⟩
  np := rfl
  n := rfl
  flat := rfl
  prd := by decide
  bi := fun K f fd F n h1 h2 => by
    have b := FunD.bindsN (ps := r__law_word.ps) F fun _ _ _ _ _ _ us hl => match us, hl with | [_, _, _], _ => rfl
    exact ⟨[], by rw [show (Mp.Row.dvs r__law_word K) = [] from rfl, List.drop_nil]; exact .nil, b⟩
theorem k_law : RowOk (arOf rows) r_law where
  chk := by decide +kernel
  sc := ⟨rfl, rfl, rfl, by decide +kernel, rfl, by decide +kernel, by decide +kernel⟩
  np := rfl
  n := rfl
  flat := rfl
  prd := by decide
  bi := fun K f fd F n h1 h2 => by
    have b := FunD.bindsN (ps := r_law.ps) F fun _ _ _ _ _ _ us hl => match us, hl with | [_], _ => rfl
    exact ⟨[], by rw [show (Mp.Row.dvs r_law K) = [] from rfl, List.drop_nil]; exact .nil, b⟩
theorem rows_ok : ∀ r ∈ rows, RowOk (arOf rows) r := by
  unfold rows
  intro r hr
  simp only [List.mem_cons, List.mem_nil_iff, or_false] at hr
  rcases hr with rfl | rfl | rfl | rfl | rfl | rfl | rfl | rfl | rfl | rfl | rfl | rfl | rfl | rfl | rfl | rfl | rfl | rfl | rfl | rfl
  · exact k_is_sequence
  · exact k_rewriting_names
  · exact k_entry_of
  · exact k_verdict_of
  · exact k_letters_of
  · exact k_filled_shape
  · exact k_rewriting_pair
  · exact k__law_hand
  · exact k__law_mixed
  · exact k__law_take
  · exact k__law_names
  · exact k__law_program
  · exact k__law_list
  · exact k__law_int
  · exact k__law_exact
  · exact k__law_table
  · exact k__law_put
  · exact k__law_letters
  · exact k__law_word
  · exact k_law
theorem at0 : ∀ r ∈ rows, r.at_.2 = none → r.pr = false ∧ r.at_.1 = Str.ofString r.f := by
  unfold rows
  intro r hr
  simp only [List.mem_cons, List.mem_nil_iff, or_false] at hr
  rcases hr with rfl | rfl | rfl | rfl | rfl | rfl | rfl | rfl | rfl | rfl | rfl | rfl | rfl | rfl | rfl | rfl | rfl | rfl | rfl | rfl <;> first | exact fun _ => ⟨rfl, rfl⟩ | exact fun h => nomatch h
theorem ini (c : String) (k : Nat) : mkOk (arOf rows) c k = true → mthOf cd rows c "__init__" k = true := ini_of (cd := cd) (rows := rows) (by decide +kernel) c k
theorem bA (K : PySem.W.Frag) (f : Addr) (fd : FuncData) (F : FunD K r_law.nm r_law.qual (defArgs r_law.st) (defBody r_law.st) (defScope r_law.st) [] [] f fd) (s : Shared) (v : Value) : BindsTo s fd ⟨[v], []⟩ [("_law_script", v)] := by
  have b := FunD.bindsA (ps := ["_law_script"]) F fun _ _ _ _ _ _ us hl => match us, hl with | [_], _ => rfl
  exact b s [v] rfl
/-- what the law computes -/
def asks : Prop := ∀ ns : List Int, ns.length ≤ 63 → ∃ lh, call T (dOf rows) 100 "law" [.rd (ns.map .int)] [] = .ok (.bl true) lh
end Lw

namespace Lw
open Mp Lb
@[irreducible] def Dr : String → Option Def := dOf rows
theorem Dr_eq : Dr = dOf rows := by unfold Dr; rfl
instance {f : String} {d : Def} [i : Has (dOf rows) f d] : Has Dr f d := ⟨by rw [Dr_eq]; exact i.eq⟩
instance : RwT T := ⟨rfl⟩
instance : RwX T := ⟨rfl⟩
theorem br_xh : T.xh "BadRewriting" = true := by decide +kernel
theorem br_sup : T.sup "BadRewriting" = ["BadRewriting", "CheckerError"] := by rfl
section
variable {n : Nat} {h : LH}
def hdW : S := .hdl "BadRewriting" (some 3) (.seq (.ret (.attr (.var 3) "what")) .nil) (.hdl "CheckerError" none (.seq (.ret (.cst (.str "other"))) .nil) .nil)
theorem hd_all : hdAll T hdW = true := by decide +kernel
theorem hd_eq {cl : Cl} {a b c : Option W} {s : String} : evHd T cl "BadRewriting" ["what"] [.str s] hdW [a, b, c, none] h = .ret (.str s) h := by
  have nx : T.ex "BadRewriting" = some ["what"] := RwX.ex
  simp [hdW, evHd, br_xh, br_sup, evSu, evHx, nx, lk, R.bind, R.toS, RS.un, items]
theorem wrd_name {k : Nat} {w x : W} (hk : k < 3) (hw : Odd w) : call T Dr (n + 3) "_law_word" [.int k, w, x] h = .ok (.str "name") h := by
  have e0 := vrd_no (T := T) (D := Dr) (n := n) (h := h) hw
  have e1 := lof_no (T := T) (D := Dr) (n := n) (h := h) hw
  have e2 := pair_no (T := T) (D := Dr) (n := n) (h := h) (x := x) hw
  rw [call_D (Has.eq : Dr "_law_word" = some d__law_word) rfl]
  have q : ∀ (i j : Int), evC .eq (.int i) (.int j) h = .ok (.bl (decide (i = j))) h := fun i j => by
    apply Ok.eq
    rw [ok_eqi]
    exact ⟨rfl, rfl⟩
  have tr : ∀ b : Bool, truW h (.bl b) = some b := fun b => rfl
  have hd := @hd_eq h (call T Dr (n + 2))
  have ha := hd_all
  unfold hdW at hd ha
  have hk : k = 0 ∨ k = 1 ∨ k = 2 := by omega
  rcases hk with rfl | rfl | rfl <;> simp [d__law_word, evS, evE, R.toS, R.bind, q, tr, e0, e1, e2, items, rwEx, ha, hd, RS.toR]
theorem wrd_many {e : RwE} {x : W} (he : e ∈ rwT) (hx : Wrg h e.n x) : call T Dr (n + 3) "_law_word" [.int 2, .str e.nm, x] h = .ok (.str "many") h := by
  have e2 := pair_many (T := T) (D := Dr) (n := n) (h := h) he hx
  rw [call_D (Has.eq : Dr "_law_word" = some d__law_word) rfl]
  have q : ∀ (i j : Int), evC .eq (.int i) (.int j) h = .ok (.bl (decide (i = j))) h := fun i j => by
    apply Ok.eq
    rw [ok_eqi]
    exact ⟨rfl, rfl⟩
  have tr : ∀ b : Bool, truW h (.bl b) = some b := fun b => rfl
  have hd := @hd_eq h (call T Dr (n + 2))
  have ha := hd_all
  unfold hdW at hd ha
  simp [d__law_word, evS, evE, R.toS, R.bind, q, tr, e2, items, rwEx, ha, hd, RS.toR]
theorem wrd_let {e : RwE} {L : List Pg} {w : W} (he : e ∈ rwT) (hw : Sq w (L.map Pg.w)) (hl : L.length = e.n) : ∃ o, call T Dr (n + 7) "_law_word" [.int 2, .str e.nm, w] h = .ok (.str "let") (h ++ [o]) := by
  obtain ⟨o, e2⟩ := pair_ok (T := T) (D := Dr) (n := n) (h := h) he hw hl
  refine ⟨o, ?_⟩
  rw [call_D (Has.eq : Dr "_law_word" = some d__law_word) rfl]
  have q : ∀ (i j : Int), evC .eq (.int i) (.int j) h = .ok (.bl (decide (i = j))) h := fun i j => by
    apply Ok.eq
    rw [ok_eqi]
    exact ⟨rfl, rfl⟩
  have tr : ∀ b : Bool, truW h (.bl b) = some b := fun b => rfl
  have ha := hd_all
  unfold hdW at ha
  simp [d__law_word, evS, evE, R.toS, R.bind, q, tr, e2, items, rwEx, ha, RS.toR]
end
/-! the strange things -/
def oddL (s : String) (k : Int) : List W := [.str "", .str (s ++ "x"), .str ("X" ++ s), .str (s ++ " "), .non, .bl true, .int k, .tup [.str s], .fl [.str s]]
theorem odd_all {e : RwE} (he : e ∈ rwT) (k : Int) : ∀ w ∈ oddL e.nm k, Odd w := by
  have a1 : ∀ u ∈ rwT, u.nm ≠ "" := by decide +kernel
  have a2 : ∀ e ∈ rwT, ∀ u ∈ rwT, u.nm ≠ e.nm ++ "x" := by decide +kernel
  have a3 : ∀ e ∈ rwT, ∀ u ∈ rwT, u.nm ≠ "X" ++ e.nm := by decide +kernel
  have a4 : ∀ e ∈ rwT, ∀ u ∈ rwT, u.nm ≠ e.nm ++ " " := by decide +kernel
  intro w hw
  unfold oddL at hw
  simp only [List.mem_cons, List.mem_nil_iff, or_false] at hw
  rcases hw with rfl | rfl | rfl | rfl | rfl | rfl | rfl | rfl | rfl
  · exact .inr ⟨_, rfl, a1⟩
  · exact .inr ⟨_, rfl, a2 e he⟩
  · exact .inr ⟨_, rfl, a3 e he⟩
  · exact .inr ⟨_, rfl, a4 e he⟩
  all_goals exact .inl fun h => rfl
theorem rwT_nl : ∀ e ∈ rwT, e.nm.length ≤ 20 := by decide +kernel
theorem ok_neST {h : LH} {s t : String} {P : W → LH → Prop} : Ok (evC .ne (.str s) (.str t) h) P = P (.bl (!decide (s = t))) h := nrfl rfl
theorem rwT_bd : ∀ e ∈ rwT, e.l.dep 8 ≤ 20 ∧ e.r.dep 8 ≤ 20 := by decide
def wrgL (L : List W) (p : W) (s : String) (n : Int) (k : Nat) : List W := [.fl (cut L (some 1) none), .fl (L ++ [p]), .non, .str s, .int n, .ref k, .tup (cut L none (some (-1)))]
theorem cut_1 {α : Type} (L : List α) (h : 1 ≤ L.length) : (cut L (some 1) none).length = L.length - 1 := by
  unfold cut clip
  simp
  omega
theorem cut_m1 {α : Type} (L : List α) (h : 1 ≤ L.length) : (cut L none (some (-1))).length = L.length - 1 := by
  unfold cut clip
  simp
  omega
theorem wrg_all {L : List W} {p : W} {s : String} {n : Int} {k m : Nat} {h : LH} (hl : L.length = m) (h1 : 1 ≤ m) (hk : h[k]? = some (.dic [] [])) : ∀ x ∈ wrgL L p s n k, Wrg h m x := by
  intro x hx
  unfold wrgL at hx
  simp only [List.mem_cons, List.mem_nil_iff, or_false] at hx
  rcases hx with rfl | rfl | rfl | rfl | rfl | rfl | rfl
  · exact .inr ⟨_, .inr rfl, by rw [cut_1 L (by omega)]; omega⟩
  · exact .inr ⟨_, .inr rfl, by rw [List.length_append, hl]; simp⟩
  · exact .inl rfl
  · exact .inl rfl
  · exact .inl rfl
  · refine .inl ?_
    have e : tyOf h (.ref k) = some "dict" := by simp [tyOf, hk]
    unfold tyAny
    rw [e]
    rfl
  · exact .inr ⟨_, .inl rfl, by rw [cut_m1 L (by omega)]; omega⟩
def nthS : Nat → S → S
  | 0, .seq s _ => s
  | k + 1, .seq _ r => nthS k r
  | _, s => s
def forB : S → S
  | .for_ _ _ b => b
  | s => s
section
variable {ns : List Int}
def env0 (ns : List Int) (f0 : Nat) : Env := [some (.rd (ns.map .int)), some (.ref 1), some (.fl (rwT.map RwE.w)), none, some (.int f0), none, none, none, none, none, none, none, none, none]
def envE (ns : List Int) (f0 k : Nat) (e : RwE) (cl : W) (L : List Pg) (g : W) : Env :=
  [some (.rd (ns.map .int)), some (.ref 1), some (.fl (rwT.map RwE.w)), some e.w, some (.int f0), some (.int k), some cl, some (.fl (L.map Pg.w)), some g, some (.tup [(e.l.fil fun i => L.getD i .non).w, (e.r.fil fun i => L.getD i .non).w]), none, none, none, none]
def St1 (ns : List Int) (σ1 : Env) : Prop := ∃ f0, f0 < 18 ∧ σ1 = env0 ns f0
def St2 (ns : List Int) (f0 k : Nat) (e : RwE) (σ1 : Env) : Prop := ∃ (cl : W) (L : List Pg) (g : W), L.length = e.n ∧ (∀ p ∈ L, p.dep ≤ 8) ∧ Sq g (L.map Pg.w) ∧ σ1 = envE ns f0 k e cl L g
theorem law_ok {ns : List Int} (hns : ns.length ≤ 63) : Ok (call T Dr 100 "law" [.rd (ns.map .int)] []) fun w _ => w = .bl true := by
  rw [Ok_call (Has.eq : Dr "law" = some d_law) rfl]
  generalize hB : d_law.body = B
  refine Sk_mid 4 (fun σ1 h1 => Hx [] h1 ∧ St1 ns σ1) ?_ ?_
  · subst hB
    have tb : ∀ h, call T Dr 99 "_law_table" [] h = .ok (.fl (rwT.map RwE.w)) h := fun h => table_eq (n := 98)
    have rn : ∀ h, call T Dr 99 "rewriting_names" [] h = .ok (.tup (rwT.map fun e => .str e.nm)) h := fun h => rnm_eq (n := 98)
    have cn : ∀ σ h (_ : 3 < σ.length), compL (evE T (call T Dr 99) (.idx (.var 3) (.cst (.int 0)))) (evE T (call T Dr 99) (.cst (.bl true))) (.one 3) σ [] (rwT.map RwE.w) h = .ok (rwT.map fun e => .str e.nm) h := fun σ h h9 => by
      refine comp_all RwE.w _ (fun p => σ.set 3 (some p.w)) rfl fun p hp => ⟨rfl, ev_cst, ?_⟩
      apply Ok.eq
      have i0 : ix [W.str p.nm, .int p.n, .str p.vd, p.l.w, p.r.w] 0 = some (.str p.nm) := by simp [ix]
      simp [List.getElem?_set_self h9, RwE.w, i0]
    have ex : ∀ h, call T Dr 99 "_law_exact" [.tup (rwT.map fun e => .str e.nm), .tup (rwT.map fun e => .str e.nm)] h = .ok (.bl true) h := fun h => by
      have := exa_strs (T := T) (D := Dr) (n := 97) (h := h) (ns := rwT.map (·.nm)) (by decide)
      rwa [List.map_map] at this
    have l18 : (rwT.map RwE.w).length = 18 := by rw [List.length_map]; rfl
    simp [d_law, fst]
    refine Ok.mono (hand_sp hns) ?_
    rintro _ l ⟨rfl, hh⟩
    simp [tb, rn, -List.map_map]
    refine ⟨by unfold big; decide, Eq.mpr (congrArg (fun r => Ok r _) (cn _ _ (by simp))) ?_⟩
    simp [ex, -List.map_map]
    refine Ok.mono (take_sp hh (by decide) (by decide)) ?_
    rintro _ h3 ⟨hh3, r, rfl, hr⟩
    exact ⟨hh3.hx, r, by omega, rfl⟩
  rintro R1 hR1 σ1 h1 ⟨⟨j1, hh1⟩, f0, f18, rfl⟩
  have hR2 : R1 = rst 4 d_law.body := by rw [hB]; exact hR1
  clear hR1 hB
  subst hR2
  have o2 : okRng 0 6 = true := by decide
  have r2 : rngW 0 6 = (List.range 6).map fun (k : Nat) => W.int k := rfl
  simp [d_law, rst, env0, o2, r2, -List.map_map]
  obtain ⟨B, hB⟩ : ∃ B, B = forB (nthS 4 d_law.body) := ⟨_, rfl⟩
  change Sk (forL (fun σ' h' => evS T (call T Dr 99) (forB (nthS 4 d_law.body)) σ' h') _ _ _ _ _) _ _ _ _
  rw [← hB]
  refine for_inv (us := List.range 6) (fun k : Nat => .int k) (fun us σ h' => (∀ k ∈ us, k < 6) ∧ Hx [] h' ∧ σ = env0 ns f0) ?_ ?_ ⟨fun k hk => List.mem_range.mp hk, hh1.hxa, rfl⟩
  · rintro σ h' ⟨_, _, rfl⟩
    refine ⟨rfl, ?_⟩
    simp
  · rintro k us σ h' ⟨hu, ⟨j2, hh2⟩, rfl⟩
    have hk := hu k (List.mem_cons_self ..)
    have hus : ∀ x ∈ us, x < 6 := fun x hx => hu x (List.mem_cons_of_mem _ hx)
    refine ⟨rfl, _, rfl, ?_⟩
    obtain ⟨e, he⟩ : ∃ e, rwT[(f0 + k * 7) % 18]? = some e := ⟨_, List.getElem?_eq_getElem (by show _ < 18; omega)⟩
    have he1 := List.mem_of_getElem? he
    obtain ⟨⟨q1, q2⟩, n1, n3, sz1, sz2⟩ := rwT_let e he1
    have i0 : ix [W.str e.nm, .int e.n, .str e.vd, e.l.w, e.r.w] 0 = some (.str e.nm) := by simp [ix]
    have i1 : ix [W.str e.nm, .int e.n, .str e.vd, e.l.w, e.r.w] 1 = some (.int e.n) := by simp [ix]
    have i2 : ix [W.str e.nm, .int e.n, .str e.vd, e.l.w, e.r.w] 2 = some (.str e.vd) := by simp [ix]
    have i3 : ix [W.str e.nm, .int e.n, .str e.vd, e.l.w, e.r.w] 3 = some e.l.w := by simp [ix]
    have i4 : ix [W.str e.nm, .int e.n, .str e.vd, e.l.w, e.r.w] 4 = some e.r.w := by simp [ix]
    refine Sk_mid 6 (fun σ1 h1 => Hx [] h1 ∧ St2 ns f0 k e σ1) ?_ ?_
    · have i9 : ix (rwT.map RwE.w) (((f0 : Int) + (k : Int) * 7) % 18) = some e.w := by
        rw [show ((f0 : Int) + (k : Int) * 7) % 18 = (((f0 + k * 7) % 18 : Nat) : Int) by omega, ix_nat, List.getElem?_map, he]; rfl
      have m5 : -18446744073709551616 < (k : Int) ∧ (k : Int) < 18446744073709551616 := ⟨by omega, by omega⟩
      have vr : ∀ h, call T Dr 99 "verdict_of" [.str e.nm] h = .ok (.str e.vd) h := fun h => vrd_eq (n := 97) he1
      have lt : ∀ h, call T Dr 99 "letters_of" [.str e.nm] h = .ok (.int e.n) h := fun h => lof_eq (n := 97) he1
      have es : ∀ h, call T Dr 99 "_law_exact" [.str e.vd, .str e.vd] h = .ok (.bl true) h := fun h => exa_str (n := 98)
      have ei : ∀ h, call T Dr 99 "_law_exact" [.int e.n, .int e.n] h = .ok (.bl true) h := fun h => exa_int (n := 97)
      subst hB
      simp [d_law, nthS, forB, fst, env0, i9, m5, RwE.w, i0, i1, i2, vr, lt, es, ei, -List.map_map]
      refine Ok.mono (take_sp hh2 (by decide) (by decide)) ?_
      rintro _ h3 ⟨hh3, r, rfl, hr⟩
      simp [-List.map_map]
      have nm := nam39_sp (T := T) (D := Dr) (n := 96) (m := 1 + r) (h := h3) (by omega) hh3
      rw [show ((1 + r : Nat) : Int) = 1 + (r : Int) by omega] at nm
      refine Ok.mono nm ?_
      rintro _ h4 ⟨⟨j4, hh4⟩, cls, rfl, hc, _⟩
      refine Ok.mono (letters7_sp (T := T) (D := Dr) (n := 87) (ns := cls) (m := e.n) (lv := 4) (dp := 3) (fun z => by rw [z] at hc; simp at hc; omega) (by omega) n1 n3 (by decide) (by decide) (by decide) hh4) ?_
      rintro _ h5 ⟨⟨j5, hh5⟩, L, rfl, hL, hp⟩
      refine Ok.mono (lst_sp (n := 96) hh5 (.inr rfl)) ?_
      rintro wL h6 ⟨hh6, sL⟩
      have pt1 := fun h => put_eq (T := T) (D := Dr) (h := h) (L := L) (by omega) e.l (n := 99 - e.l.sz) (by rw [hL]; exact q1)
      have pt2 := fun h => put_eq (T := T) (D := Dr) (h := h) (L := L) (by omega) e.r (n := 99 - e.r.sz) (by rw [hL]; exact q2)
      rw [show 99 - e.l.sz + e.l.sz = 99 by omega] at pt1
      rw [show 99 - e.r.sz + e.r.sz = 99 by omega] at pt2
      simp [i3, i4, pt1, pt2, -List.map_map]
      refine ⟨hh6.hx.tr.tr.tr, .fl (cls.map .str), L, wL, hL, fun p hpp => ?_, sL, ?_⟩
      · obtain ⟨a, b, ha, ha3, hb, d⟩ := hp p hpp
        have := d.dep
        omega
      · unfold envE RwE.w
        rfl
    rintro R3 hR3 σ1 h3 ⟨⟨j3, hh3⟩, cl, L, g, hL, hp, sg, rfl⟩
    have hR4 : R3 = rst 6 (forB (nthS 4 d_law.body)) := by rw [← hB]; exact hR3
    clear hR3 hB
    subst hR4
    obtain ⟨bl, br⟩ := rwT_bd e he1
    have hp2 : ∀ i < e.n, (L.getD i .non).dep ≤ 8 := fun i hi => by
      rw [← hL] at hi
      rw [List.getD_eq_getElem?_getD, List.getElem?_eq_getElem hi]
      exact hp _ (List.getElem_mem hi)
    have d1 : (e.l.fil fun i => L.getD i .non).dep ≤ 20 := Nat.le_trans (fil_dep e.l q1 hp2) bl
    have d2 : (e.r.fil fun i => L.getD i .non).dep ≤ 20 := Nat.le_trans (fil_dep e.r q2 hp2) br
    have pr := fun h => pair_ok (T := T) (D := Dr) (n := 93) (h := h) he1 sg hL
    have wl := fun h => wrd_let (n := 92) (h := h) he1 sg hL
    unfold envE
    generalize (e.l.fil fun i => L.getD i .non) = pl at *
    generalize (e.r.fil fun i => L.getD i .non) = pp at *
    have exp : ∀ h, call T Dr 99 "_law_exact" [.tup [pl.w, pp.w], .tup [pl.w, pp.w]] h = .ok (.bl true) h := fun h => by
      refine exa_tup (n := 97) (by show 2 ≤ 1000; decide) fun x hx => ?_
      rcases List.mem_cons.mp hx with rfl | hx
      · have := exa_pg (T := T) (D := Dr) pl (n := 97 - pl.dep) (h := h)
        rwa [show 97 - pl.dep + pl.dep + 1 = 98 by omega] at this
      · rw [List.mem_singleton.mp hx]
        have := exa_pg (T := T) (D := Dr) pp (n := 97 - pp.dep) (h := h)
        rwa [show 97 - pp.dep + pp.dep + 1 = 98 by omega] at this
    have exl : ∀ h, call T Dr 99 "_law_exact" [.tup (L.map Pg.w), .tup (L.map Pg.w)] h = .ok (.bl true) h := fun h => by
      refine exa_tup (n := 97) (by rw [List.length_map]; omega) fun x hx => ?_
      obtain ⟨p, hpl, rfl⟩ := List.mem_map.mp hx
      have dp := hp p hpl
      have := exa_pg (T := T) (D := Dr) p (n := 97 - p.dep) (h := h)
      rwa [show 97 - p.dep + p.dep + 1 = 98 by omega] at this
    obtain ⟨o1, pr1⟩ := pr h3
    have hh4 := hh3.app [o1]
    have nl := rwT_nl e he1
    have ad : ∀ (a b : String) (h : LH), a.length + b.length ≤ big → evB .add (.str a) (.str b) h = .ok (.str (a ++ b)) h := fun a b h hl => if_pos hl
    have a1 : ∀ h, evB .add (.str e.nm) (.str "x") h = .ok (.str (e.nm ++ "x")) h := fun h => ad _ _ h (by unfold big; show _ + 1 ≤ _; omega)
    have a2 : ∀ h, evB .add (.str "X") (.str e.nm) h = .ok (.str ("X" ++ e.nm)) h := fun h => ad _ _ h (by unfold big; show 1 + _ ≤ _; omega)
    have a3 : ∀ h, evB .add (.str e.nm) (.str " ") h = .ok (.str (e.nm ++ " ")) h := fun h => ad _ _ h (by unfold big; show _ + 1 ≤ _; omega)
    simp [d_law, nthS, forB, rst, RwE.w, i0, i1, pr1, exp, a1, a2, a3, -List.map_map]
    refine Ok.mono (take_sp hh4 (by decide) (by decide)) ?_
    rintro _ h5 ⟨hh5, r, rfl, hr⟩
    obtain ⟨w, hw⟩ : ∃ w, (oddL e.nm k)[r]? = some w := ⟨_, List.getElem?_eq_getElem (by show r < 9; omega)⟩
    have ow := odd_all he1 k w (List.mem_of_getElem? hw)
    have i11 : ix (oddL e.nm k) (r : Int) = some w := by rw [ix_nat]; exact hw
    unfold oddL at i11
    have wn : ∀ (j : Nat) (x : W) h, j < 3 → call T Dr 99 "_law_word" [.int j, w, x] h = .ok (.str "name") h := fun j x h hj => wrd_name (n := 96) hj ow
    have cw : ∀ (σ : Env) h, σ[11]? = some (some w) → σ[8]? = some (some g) → 13 < σ.length → compL (evE T (call T Dr 99) (.var 13)) (evE T (call T Dr 99) (.tE (.cmp .ne (.call "_law_word" (.cons (.var 13) (.cons (.var 11) (.cons (.var 8) .nil)))) (.cst (.str "name"))))) (.one 13) σ [] ((List.range 3).map fun (k : Nat) => W.int k) h = .ok [] h := fun σ h e11 e8 e13 => by
      have z := comp_gen (h := h) (f := evE T (call T Dr 99) (.var 13)) (c := evE T (call T Dr 99) (.tE (.cmp .ne (.call "_law_word" (.cons (.var 13) (.cons (.var 11) (.cons (.var 8) .nil)))) (.cst (.str "name"))))) (tg := .one 13) (g := []) (σ := σ) (fun k : Nat => W.int k) (fun k : Nat => W.int k) (fun _ => false) (fun k => σ.set 13 (some (.int k))) rfl (us := List.range 3) fun j hj => ⟨rfl, by
        have hj := List.mem_range.mp hj
        apply Ok.eq
        simp [List.getElem?_set_self e13, List.getElem?_set_ne (show (13 : Nat) ≠ 11 by decide), List.getElem?_set_ne (show (13 : Nat) ≠ 8 by decide), e11, e8, wn j g h hj, ok_neST], fun z => by cases z⟩
      rw [z]
      simp
    have o3 : okRng 0 3 = true := by decide
    have r3 : rngW 0 3 = (List.range 3).map fun (k : Nat) => W.int k := rfl
    simp [i11, -List.map_map]
    refine ⟨o3, by unfold big; decide, ?_⟩
    rw [r3]
    refine Eq.mpr (congrArg (fun r => Ok r _) (cw _ _ rfl rfl (by simp))) ?_
    obtain ⟨p0, L0⟩ : ∃ p0, L[0]? = some p0 := ⟨_, List.getElem?_eq_getElem (by omega)⟩
    simp [L0, part, isNil, -List.map_map]
    refine ⟨by unfold big; omega, by unfold big; decide, ?_⟩
    have hh6 := hh5.app [O.dic [] []]
    refine Ok.mono (take_sp hh6 (by decide) (by decide)) ?_
    rintro _ h6 ⟨hh7, r2, rfl, hr2⟩
    have at6 : h6[h5.length]? = some (.dic [] []) := by
      have a := hh7.at ([] ++ j3 ++ [o1]).length
      rw [hh5.len, a]
      simp
    obtain ⟨x, hx⟩ : ∃ x, (wrgL (L.map Pg.w) p0.w (String.ofList (cut ['r', 's', 't'] none (some (e.n : Int)))) e.n h5.length)[r2]? = some x := ⟨_, List.getElem?_eq_getElem (by show r2 < 7; omega)⟩
    have wx := wrg_all (m := e.n) (by rw [List.length_map, hL]) n1 at6 x (List.mem_of_getElem? hx)
    have i12 : ix (wrgL (L.map Pg.w) p0.w (String.ofList (cut ['r', 's', 't'] none (some (e.n : Int)))) e.n h5.length) (r2 : Int) = some x := by rw [ix_nat]; exact hx
    unfold wrgL at i12
    have wm := wrd_many (n := 96) (h := h6) he1 wx
    have w2 : call T Dr 99 "_law_word" [.int 2, w, x] h6 = .ok (.str "name") h6 := wn 2 x h6 (by decide)
    obtain ⟨o2, wl2⟩ := wl h6
    obtain ⟨o4, pr4⟩ := pr (h6 ++ [o2])
    simp [i12, wm, w2, wl2, pr4, exl, exp, ok_neST, tup_sq sg, -List.map_map]
    exact ⟨hus, (hh7.app [o2, o4]).hx.tr.tr.tr.tr, rfl⟩
/-- THE LAW -/
theorem asks_ok : asks := fun ns hn => by
  rw [← Dr_eq]
  obtain ⟨w, l, e, q⟩ := (law_ok hn).get
  subst q
  exact ⟨l, e⟩
end
end Lw
open PySem PySem.W PySem.Calls PyProof.Rows
theorem Lw.holds (hl : Lw.asks) : PySem.Challenge.rw_truealarms_k37_whole_rewritings_told_and.Holds := by
  w_on; o_law
  refine HandSHeadRun.head_any (r := OpenLaw.row PySem.Challenge.rw_truealarms_k37_whole_rewritings_told_and) (q := view (OpenLaw.row PySem.Challenge.rw_truealarms_k37_whole_rewritings_told_and).prog [26]) (H := Lw.hk) (ob := Lw.ob) (M := 12000) (loose := Lw.loose) (d := HandSHeadRun.topDef (OpenLaw.row PySem.Challenge.rw_truealarms_k37_whole_rewritings_told_and).prog 26) (kwd := []) Lw.ob_eq
    (by kernel_rfl) (fun s => by kernel_rfl) Lw.run (by kernel_rfl) (by kernel_rfl) (by kernel_rfl) (by rfl) (by first | assumption | decide +kernel) (by decide +kernel) ⟨rfl, rfl, rfl, rfl, rfl, by decide +kernel⟩ ?hw ?hc
  case hw => w_witness2
  case hc =>
    refine L2.walk_ofE (l := PySem.Challenge.rw_truealarms_k37_whole_rewritings_told_and) (n := 63) (k := 2 * 100 + 1) (x := "_law_script") (CX := Mp.CXe) rfl (by decide) (by kernel_rfl) ⟨rfl, by decide, by decide⟩ ?F ?CX
    case CX =>
      rintro H s e s' ⟨c, d, H', z⟩
      exact z
    case F =>
      intro w mg fa h Y G hmg0
      obtain ⟨K, KX, c, cp⟩ := Y
      obtain ⟨fd, f1, f2, f3⟩ := Mp.law_facts (rows := Lw.rows) (cs := Lw.cs) (cd := Lw.cd) (kd := Lw.kd) (ic := Lw.ic) (xc := Lw.xc) (xi := Lw.xi) (T := Lw.T) (P := PySem.Challenge.pw_truealarms_k37_whole_rewritings_told_and) (w := w) (r := Lw.r_law) rfl rfl rfl rfl rfl rfl rfl Lw.xi_all Lw.xi_ok rfl rfl Lw.ic_cd Lw.ini Lw.rows_ok Lw.at0 KX G c cp rfl rfl rfl rfl rfl Lw.bA 100
      have hmg : mg ("law" : PySem.Str) = some (.ref fa) := by
        have e : (HandSHeadRun.topDef (OpenLaw.row PySem.Challenge.rw_truealarms_k37_whole_rewritings_told_and).prog 26).name = ("law" : PySem.Str) := by kernel_rfl
        rw [← e]
        exact hmg0
      cases hmg.symm.trans f1
      refine ⟨K, fd, _, KX, f2, fun H a ns hn hO hS => ?_, fun base _ _ => Mp.FnOk.weak (f3 base)⟩
      obtain ⟨lh, h1⟩ := hl ns hn
      exact Mp.law_sp h1 hO hS
theorem PySem.Challenge.cw_truealarms_k37_whole_rewritings_told_and_holds : PySem.Challenge.rw_truealarms_k37_whole_rewritings_told_and.Holds := by
  exact Lw.holds Lw.asks_ok
