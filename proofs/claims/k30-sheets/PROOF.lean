import PyProof.Rows.All
import Wide.All
import OpenK.AllK
import Wide.FinOn
import KE.GoesMore
import KE.GoesEnum
import HandS.Base
import HandS.Call
import HandS.List
import HandS.Dict
import HandS.Iter
import HandS.ForMost
import HandS.Exc
import HandS.TryOnly
import HandS.ExcOwn
import HandS.TupAny
import HandS.TupMul
import HandS.Flow
import HandS.TupLe
import HandS.Conv
import HandS.Zip
import PyProof.ListMulRoad
import PyProof.FactsAll.tuple_2
import HandS.SortInts
import HandS.IsInst
import HandS.DictComp
import KE.KDictZip
import PyProof.CollectWalk
import PyProof.ListNew
import HandS.Star
import HandS.Text
import KE.KDictCopyH
import KE.KRevSl
import HandS.Style
import HandS.WordsExc
import HandS.Ends
import PySem.Challenge.RW_nomoretold_k30_whole_sheets
set_option Elab.async false
set_option linter.all false
set_option maxRecDepth 1000000
set_option maxHeartbeats 0
/-! zip over a list or a tuple on each side, enumerate over either -/
namespace L2
open PySem PySem.Spec PyProof.Rows
/-- the iterator of a list (k) or of a tuple -/
def SIt (k : Bool) (h : Heap) (it l : Addr) (i : Nat) : Prop :=
  match k with
  | true => h.IsListIter it l i
  | false => h.IsTupleIter it l i
def SOf (k : Bool) (h : Heap) (l : Addr) (xs : Array Value) : Prop :=
  match k with
  | true => h.IsList l xs
  | false => h.IsTuple l xs
def Sq (k : Bool) (K : PySem.W.Frag) (H : Hp) (a : Addr) (xs : List V) : Prop :=
  match k with
  | true => SqL K H a xs
  | false => SqT K H a xs
def itObj (k : Bool) (l : Addr) : Obj :=
  match k with
  | true => { cls := .type "list_iterator", data := .fields #[.ref l, .int 0 0] }
  | false => { cls := .type "tuple_iterator", data := .fields #[.ref l, .int 0 0] }
theorem SIt.at {k : Bool} {h h' : Heap} {it l : Addr} {i : Nat} (x : SIt k h it l i)
    (e : ∀ o, h.get? it = some o → h'.get? it = some o) : SIt k h' it l i := by
  cases k
  · exact Heap.IsTupleIter.at x e
  · exact Heap.IsListIter.at x e
theorem SIt.obj {k : Bool} {h : Heap} {it l : Addr} {i : Nat} (x : SIt k h it l i) :
    ∃ o, h.get? it = some o ∧ o.data = .fields #[.ref l, .int i 0] := by
  cases k <;> (obtain ⟨o, e, _, d⟩ := x; exact ⟨o, e, d⟩)
theorem SOf.lt {k : Bool} {h : Heap} {l : Addr} {xs : Array Value} (x : SOf k h l xs) : l < h.objs.size := by
  cases k <;> (obtain ⟨o, e, _⟩ := x; exact Heap.lt_size e)
theorem draws_sq {prog : Program} {w : World} {A : Around} (hh : A.handled = none) (k : Bool) (it l : Addr)
    (hne : l ≠ it) (xs : Array Value) :
    Draws prog w A it [it, l] xs.size (fun i v => xs[i]? = some v) (fun i h => SIt k h it l i ∧ SOf k h l xs) := by
  cases k
  · exact Draws.tuple hh it l hne xs
  · exact Draws.list hh it l hne xs
theorem begins_sq (k : Bool) (l : Addr) (xs : Array Value) : Begins (.ref l) (itObj k l) fun h => SOf k h l xs := by
  cases k
  · exact begins_tuple l xs
  · exact begins_list l xs
theorem itObj_it {k : Bool} {h : Heap} {it l : Addr} (e : h.get? it = some (itObj k l)) : SIt k h it l 0 := by
  cases k <;> exact ⟨_, e, rfl, rfl⟩
section
variable {X : Cx} {pins : List (Addr × Obj)} {s : Shared} {σ : L2.St} {H : Hp}
theorem Inv.sq (I : Inv X pins σ H s) {k : Bool} {a : Addr} {xs : List V} (h : Sq k X.K H a xs) :
    ∃ its, Vals xs its ∧ SOf k s.heap a its.toArray := by
  cases k
  · obtain ⟨its, r, p, _⟩ := I.tuple h
    exact ⟨its, r, p⟩
  · obtain ⟨its, r, p, _⟩ := I.list h
    exact ⟨its, r, p.isList⟩
theorem Inv.sq_inj (I : Inv X pins σ H s) {k : Bool} {a : Addr} {xs ys : List V} (h : Sq k X.K H a xs)
    (h' : Sq k X.K H a ys) : xs = ys := by
  cases k
  · exact I.tuple_inj h h'
  · exact I.list_inj h h'
end
/-- two sequences in step, new pairs -/
def ItzX (K : PySem.W.Frag) (k1 k2 : Bool) (a b : Addr) : It where
  go := fun i H => ∃ (xs ys : List V) (x y : V), Sq k1 K H a xs ∧ Sq k2 K H b ys ∧
    xs[i]? = some x ∧ ys[i]? = some y
  yld := fun i H v H' => ∃ T x y, v = .ref T ∧ H T = none ∧ H' = upd H T (.tup [x, y]) ∧
    (∀ xs, Sq k1 K H a xs → xs[i]? = some x) ∧ ∀ ys, Sq k2 K H b ys → ys[i]? = some y
  stop := fun i H => ∃ xs ys : List V, Sq k1 K H a xs ∧ Sq k2 K H b ys ∧
    (xs.length = i ∧ i ≤ ys.length ∨ ys.length = i ∧ i ≤ xs.length)
theorem SIt.ne {k : Bool} {h : Heap} {it l : Addr} {i : Nat} {xs : Array Value} (x : SIt k h it l i)
    (p : SOf k h l xs) : l ≠ it := fun e => by
  obtain ⟨o1, e1, d1⟩ := x.obj
  rw [← e] at e1
  revert p
  cases k
  · rintro ⟨o, e2, _, n, d⟩
    rw [e1] at e2; cases e2; rw [d1] at d; cases d
  · rintro ⟨o, e2, _, n, d⟩
    rw [e1] at e2; cases e2; rw [d1] at d; cases d
theorem turn_zipX {P : Program} {w : World} {K : PySem.W.Frag} {elts : List Expr} {kk : Nat} {tpos : Pos}
    {k1 k2 : Bool} {a b z TI TO i1 i2 : Addr} (S : ZipSep2 z TI TO i1 i2 [i1, a] [i2, b]) :
    Turn P w K (.Tuple elts kk tpos) (ItzX K k1 k2 a b) [z, TI, TO, i1, i2] z (fun i h =>
      (IsZip h z TI TO .none ∧ IsTupOf2 h TI (.ref i1) (.ref i2) ∧ (∃ x y, IsTupOf2 h TO x y)) ∧
        SIt k1 h i1 a i ∧ SIt k2 h i2 b i) where
  mem := by simp
  obj := fun i h st c hc => by
    obtain ⟨⟨hz, hTI, ⟨x, y, hTO⟩⟩, h1, h2⟩ := st
    obtain ⟨o1, e1, d1⟩ := h1.obj
    obtain ⟨o2, e2, d2⟩ := h2.obj
    simp only [List.mem_cons, List.not_mem_nil, or_false] at hc
    rcases hc with q | q | q | q | q <;> rw [q]
    · exact ⟨_, hz, fun v q => nomatch q⟩
    · exact ⟨_, hTI, fun v q => nomatch q⟩
    · exact ⟨_, hTO, fun v q => nomatch q⟩
    · exact ⟨o1, e1, fun v q => by rw [d1] at q; cases q⟩
    · exact ⟨o2, e2, fun v q => by rw [d2] at q; cases q⟩
  keep := fun i h h' st kp => by
    obtain ⟨⟨hz, hTI, ⟨x, y, hTO⟩⟩, h1, h2⟩ := st
    refine ⟨⟨kp z (by simp) _ hz, kp TI (by simp) _ hTI, x, y, kp TO (by simp) _ hTO⟩, ?_, ?_⟩
    · exact h1.at fun o q => kp i1 (by simp) o q
    · exact h2.at fun o q => kp i2 (by simp) o q
  item := by
    intro X hP hw hK hc i pins s σ H E I hf st hg; subst hP hw hK
    obtain ⟨⟨hz, hTI, ⟨x0, y0, hTO⟩⟩, h1, h2⟩ := st
    obtain ⟨xs, ys, x, y, hqx, hqy, hx, hy⟩ := hg; obtain ⟨its, rv, p⟩ := I.sq hqx
    obtain ⟨its2, rv2, p2⟩ := I.sq hqy
    obtain ⟨u, hu, ru⟩ := rv.get hx; obtain ⟨u2, hu2, ru2⟩ := rv2.get hy
    have hzl : z < s.heap.objs.size := Heap.lt_size hz; have li : i < its.toArray.size := by
      have := (List.getElem?_eq_some_iff.mp hu).1
      simpa using this
    have li2 : i < its2.toArray.size := by
      have := (List.getElem?_eq_some_iff.mp hu2).1
      simpa using this
    have na := h1.ne p
    have nb := h2.ne p2
    have hd0 : X.A.in1.handled = none := I.ok.hd hc
    refine wpAny_pyNext_zipD2_item S (draws_sq hd0 k1 i1 a na its.toArray) (draws_sq hd0 k2 i2 b nb its2.toArray)
      hz hTI hTO ⟨h1, p⟩ ⟨h2, p2⟩ li li2 fun v1 v2 h' tk e1 e2 z' TO' st1 st2 hT hsz hk => ?_
    have ev1 : v1 = u := by simp at e1; rw [hu] at e1; exact (Option.some.inj e1).symm
    have ev2 : v2 = u2 := by simp at e2; rw [hu2] at e2; exact (Option.some.inj e2).symm
    subst ev1 ev2
    refine ⟨_, rfl, wpAny_letOwnedTupleGo_zip (s := { s with heap := h', toks := tk }) z' fun h'' z'' sb => ?_⟩
    have hT2 : h''.get? s.heap.objs.size = some { cls := .type "tuple", data := .seq #[v1, v2] } :=
      (sb.2 _ (Nat.ne_of_gt hzl)).trans hT
    have nwO : ObjOk X.prog X.w (upd H s.heap.objs.size (.tup [x, y])) h'' s.heap.objs.size (.tup [x, y]) :=
      ⟨by show 2 ≤ sizeLine; decide, [v1, v2], .cons ru (.cons ru2 .nil), ⟨_, hT2, rfl, _, rfl⟩⟩
    have kp : ∀ c o, c ∉ [z, TI, TO, i1, i2] → s.heap.get? c = some o → h''.get? c = some o := fun c o hb q => by
      simp only [List.mem_cons, List.not_mem_nil, or_false, not_or] at hb
      exact (sb.2 c hb.1).trans (hk c o hb.1 hb.2.2.1 hb.2.2.2.1 hb.2.2.2.2 q)
    have I1 : Inv X pins σ (upd H s.heap.objs.size (.tup [x, y])) { s with heap := h'', toks := tk } :=
      I.turnedNew (t' := tk) (ch := [z, TI, TO, i1, i2]) kp hf (Nat.le_refl _) nwO
    refine ⟨.ref s.heap.objs.size, _, I1, rfl, ⟨_, x, y, rfl, I.hok.fresh (Nat.le_refl _), rfl, ?_, ?_⟩, ⟨⟨z'', ?_, ⟨v1, v2, ?_⟩⟩, ?_, ?_⟩, fun c hcm => ?_⟩
    · exact fun l hl => by rw [I.sq_inj hl hqx]; exact hx
    · exact fun l hl => by rw [I.sq_inj hl hqy]; exact hy
    · exact (sb.2 _ S.TIz).trans (hk _ _ S.TIz S.TITO S.TIi1 S.TIi2 hTI)
    · exact (sb.2 _ S.TOz).trans TO'
    · exact st1.1.at fun o q => (sb.2 _ (fun e => S.zi1 e.symm)).trans q
    · exact st2.1.at fun o q => (sb.2 _ (fun e => S.zi2 e.symm)).trans q
    · have hcl : c < s.heap.objs.size := by
        obtain ⟨o1, g1, _⟩ := h1.obj
        obtain ⟨o2, g2, _⟩ := h2.obj
        simp only [List.mem_cons, List.not_mem_nil, or_false] at hcm
        rcases hcm with q | q | q | q | q <;> rw [q]
        · exact hzl
        · exact Heap.lt_size hTI
        · exact Heap.lt_size hTO
        · exact Heap.lt_size g1
        · exact Heap.lt_size g2
      rw [upd_ne (Nat.ne_of_lt hcl)]; exact (hf c hcm).1
  done := by
    intro X hP hw hK hc i pins s σ H E I hf st hg; subst hP hw hK
    obtain ⟨⟨hz, hTI, ⟨x0, y0, hTO⟩⟩, h1, h2⟩ := st
    obtain ⟨xs, ys, hqx, hqy, hend⟩ := hg; obtain ⟨its, rv, p⟩ := I.sq hqx
    obtain ⟨its2, rv2, p2⟩ := I.sq hqy
    have l1 : its.toArray.size = xs.length := by rw [List.size_toArray, rv.length]
    have l2 : its2.toArray.size = ys.length := by rw [List.size_toArray, rv2.length]
    have hd0 : X.A.in1.handled = none := I.ok.hd hc
    refine wpAny_pyNext_zipD2_end S (draws_sq hd0 k1 i1 a (h1.ne p) its.toArray) (draws_sq hd0 k2 i2 b (h2.ne p2) its2.toArray)
      hz hTI hTO ⟨h1, p⟩ ⟨h2, p2⟩ (by omega) (by omega) (by omega) fun h' tk hk => ⟨rfl, ?_⟩
    refine I.turnedL (t' := tk) (ch := [z, TI, TO, i1, i2]) (fun c o hb q => ?_) hf
    simp only [List.mem_cons, List.not_mem_nil, or_false, not_or] at hb
    exact hk c o hb.1 hb.2.2.1 hb.2.2.2.1 hb.2.2.2.2 q
  self := fun A i s Q E st h => wpAny_pyIter_zip st.1.1 h
def iZipX (K : PySem.W.Frag) (ta : TA) : TI := fun σ H R => ta σ H fun vs H1 => ∃ k1 k2 a b xs ys,
  vs = [.ref a, .ref b] ∧ Sq k1 K H1 a xs ∧ Sq k2 K H1 b ys ∧ R (ItzX K k1 k2 a b) H1
theorem pi_zipX {X : Cx} {e e2 : Expr} {ta : TA} {p pos tpos : Pos} {elts : List Expr} {kk : Nat}
    (hg : Gl X "zip") (hm : X.mg "zip" = none) (ha : PA X [e, e2] ta)
    (hs : starEach [e, e2] X.env = (false, eval e X.env) :: starEach [e2] X.env)
    (hpl : (backTo pos (starEach [e2] X.env)).any (·.1) = false) :
    PI X (.Tuple elts kk tpos) (.Call (.Name "zip" p) [e, e2] [] pos) (iZipX X.K ta) := by
  refine ⟨fun pins s σ H R I h => ?_⟩; refine Call_ (ld_blt I hg hm PyProof.Rows.boot_zip
    (PyProof.Rows.callWith_type1 (thn (ha.run pos pins s σ H _ I h) fun us s1 ⟨vs, H1, I1, r1, q1⟩ => ?_) hs hpl))
  obtain ⟨k1, k2, a, b, xs, ys, ex, hqx, hqy, q⟩ := q1
  subst ex
  cases r1 with
  | cons r rr =>
    cases rr with
    | cons r' rr =>
      cases rr
      cases r
      cases r'
      obtain ⟨its, rv, p1⟩ := I1.sq hqx
      obtain ⟨its2, rv2, p2⟩ := I1.sq hqy
      have la := p1.lt
      have lb := p2.lt
      have fr : ∀ c, c ∈ [s1.heap.objs.size + 4, s1.heap.objs.size + 2, s1.heap.objs.size + 3, s1.heap.objs.size, s1.heap.objs.size + 1] → FpOk X pins H1 c := fun c hcm => by
        have hlf : s1.heap.objs.size ≤ c := by
          simp only [List.mem_cons, List.not_mem_nil, or_false] at hcm
          omega
        exact I1.fpOk hlf (I1.hok.fresh hlf)
      refine zip_begins2 (begins_sq k1 a its.toArray) (begins_sq k2 b its2.toArray) p1 p2 fun h' hz hTI hTO h1 h2 hsz hk => wpAny_pyIter_zip hz ?_
      have I2 : Inv X pins σ H1 { s1 with heap := h' } := I1.kept (t' := s1.toks) hk; refine ⟨s1.heap.objs.size + 4, _, _, _, H1, rfl, I2, turn_zipX (k1 := k1) (k2 := k2) (zip_sep2 ?_ ?_), ⟨⟨hz, hTI, _, _, hTO⟩, itObj_it h1, itObj_it h2⟩, fr, q⟩
      · intro c hb
        rw [List.mem_singleton.mp hb]
        exact la
      · intro c hb
        rw [List.mem_singleton.mp hb]
        exact lb
end L2

namespace L2
open PySem PySem.Spec PyProof.Rows
set_option maxHeartbeats 2000000 in
theorem meets_enum1 {v : Value} {o : Obj} {H : Heap → Prop} (B : Begins v o H) :
    Meets (Builtin.«enumerate.__new__» ⟨[.type "enumerate", v], []⟩) (fun _ R s => H s.heap ∧
      R (.ok (.ret (.ref (s.heap.push o).objs.size)))
        { s with heap := (s.heap.push o).push { cls := .type "enumerate", data := .fields #[.none, .bool false, .ref s.heap.objs.size, rawInt 0, .none, .none] } }) :=
  .of_wp fun pg w A R s h => by
    obtain ⟨hp, g, d, tk, os⟩ := s; rcases h with ⟨h1, h⟩
    have hsub := sub_enumerate
    have q1 : ∀ {A' : Around} {E Q : Value → Shared → Prop}, Q (.ref hp.objs.size) ⟨hp.push o, g, d, tk, os⟩ →
        wpAny (model pg w) A' (pyIter v) Q E ⟨hp, g, d, tk, os⟩ :=
      fun q => B.iter pg w _ _ ⟨hp, g, d, tk, os⟩ _ h1 q
    wp_walk using q1
    refine wpAny_stack_any fun sk => wpAny_pure ?_
    split
    · rename_i c _ _ _ _ _
      cases (c == Value.type "enumerate") <;>
        (wp_walk using q1; exact ⟨_, rfl, h⟩)
    · wp_walk using q1; exact ⟨_, rfl, h⟩
section
variable {prog : Program} {w : World} {s : Shared} {A : Around} {E : Value → Shared → Prop}
theorem enum1_begins {v : Value} {o : Obj} {H : Heap → Prop} {Q : Value → Shared → Prop} (B : Begins v o H) (h1 : H s.heap)
    (h : ∀ h', IsEnum h' (s.heap.objs.size + 1) s.heap.objs.size 0 .none → h'.get? s.heap.objs.size = some o →
      (∀ b u, s.heap.get? b = some u → h'.get? b = some u) → Q (.ref (s.heap.objs.size + 1)) { s with heap := h' }) :
    wpAny (model prog w) A (call (.type "enumerate") [v]) Q E s := by
  refine callType_new F.called_enumerate (by decide) (F.typeCall_enumerate_1 _) (F.newCall_enumerate_1 _)
    (fun obj => F.args_object_init_2 obj _) F.entry_enumerate_new (meets_enum1 B) ⟨h1, ?_⟩
  have hz : (s.heap.push o).objs.size = s.heap.objs.size + 1 := Heap.size_push ..; show _ ∧ _
  rw [hz]
  have he := Heap.get?_push_size (s.heap.push o) (o := { cls := .type "enumerate", data := .fields #[.none, .bool false, .ref s.heap.objs.size, rawInt 0, .none, .none] }) rfl
  rw [hz] at he
  exact ⟨⟨_, he, rfl⟩, h _ he (Heap.get?_push_of_some _ (Heap.get?_push_size _ B.free))
    fun b o x => Heap.get?_push_of_some _ (Heap.get?_push_of_some _ x)⟩
end
def IteX (K : PySem.W.Frag) (k : Bool) (a : Addr) : It where
  go := fun i H => ∃ (xs : List V) (x : V), Sq k K H a xs ∧ xs[i]? = some x
  yld := fun i H v H' => ∃ T x, v = .ref T ∧ H T = none ∧ H' = upd H T (.tup [.int (i : Nat), x]) ∧
    ∀ xs, Sq k K H a xs → xs[i]? = some x
  stop := fun i H => ∃ xs : List V, Sq k K H a xs ∧ xs.length = i
theorem turn_enumX {P : Program} {w : World} {K : PySem.W.Frag} {elts : List Expr} {kk : Nat} {tpos : Pos}
    (k : Bool) (a e it : Addr) :
    Turn P w K (.Tuple elts kk tpos) (IteX K k a) [e, it] e (fun i h =>
      (∃ old, IsEnum h e it ((i : Nat) : Int) old) ∧ SIt k h it a i ∧ e ≠ it) where
  mem := by simp
  obj := fun i h st b hb => by
    obtain ⟨⟨old, he⟩, h1, _⟩ := st
    obtain ⟨o, ho, hd⟩ := h1.obj
    simp only [List.mem_cons, List.not_mem_nil, or_false] at hb; rcases hb with z | z <;> rw [z]
    · exact ⟨_, he, fun v q => nomatch q⟩
    · exact ⟨o, ho, fun v q => by rw [hd] at q; cases q⟩
  keep := fun i h h' st kp => by
    obtain ⟨⟨old, he⟩, h1, hne⟩ := st
    exact ⟨⟨old, kp e (by simp) _ he⟩, h1.at fun o q => kp it (by simp) o q, hne⟩
  item := by
    intro X hP hw hK hc i pins s σ H E I hf st hg; subst hP hw hK
    obtain ⟨⟨old, he⟩, h1, hne⟩ := st
    obtain ⟨xs, x, hq, hx⟩ := hg
    obtain ⟨its, rv, p⟩ := I.sq hq
    obtain ⟨u, hu, ru⟩ := rv.get hx; have hel : e < s.heap.objs.size := Heap.lt_size he
    have li : i < its.toArray.size := by
      have := (List.getElem?_eq_some_iff.mp hu).1
      simpa using this
    have nea : e ≠ a := fun z => by
      revert p
      rw [← z]
      cases k
      · rintro ⟨o, e2, _, n, d⟩
        rw [show s.heap.get? e = _ from he] at e2; cases e2; cases d
      · rintro ⟨o, e2, _, n, d⟩
        rw [show s.heap.get? e = _ from he] at e2; cases e2; cases d
    have hd0 : X.A.in1.handled = none := I.ok.hd hc
    refine wpAny_pyNext_enum_itemD (draws_sq hd0 k it a (h1.ne p) its.toArray) he ⟨h1, p⟩ li hne (by simp [hne, nea]) fun v1 h' tk e1 ho st1 hT hsz hk => ?_
    have ev1 : v1 = u := by simp at e1; rw [hu] at e1; exact (Option.some.inj e1).symm
    subst ev1
    refine ⟨_, rfl, wpAny_letOwnedTupleGo_enum (s := { s with heap := h', toks := tk + 1 }) ho fun h'' he' sb => ?_⟩
    have hT2 : h''.get? s.heap.objs.size = some { cls := .type "tuple", data := .seq #[.int i tk, v1] } :=
      (sb.2 _ (Nat.ne_of_gt hel)).trans hT
    have nwO : ObjOk X.prog X.w (upd H s.heap.objs.size (.tup [.int (i : Nat), x])) h'' s.heap.objs.size (.tup [.int (i : Nat), x]) :=
      ⟨by show 2 ≤ sizeLine; decide, [.int i tk, v1], .cons ⟨_, rfl⟩ (.cons ru .nil), ⟨_, hT2, rfl, _, rfl⟩⟩
    have kp : ∀ c o, c ∉ [e, it] → s.heap.get? c = some o → h''.get? c = some o := fun c o hb q => by
      simp only [List.mem_cons, List.not_mem_nil, or_false, not_or] at hb
      exact (sb.2 c hb.1).trans (hk c o hb.1 hb.2 q)
    have I1 : Inv X pins σ (upd H s.heap.objs.size (.tup [.int (i : Nat), x])) { s with heap := h'', toks := tk + 1 } :=
      I.turnedNew (ch := [e, it]) kp hf (Nat.le_refl _) nwO
    refine ⟨.ref s.heap.objs.size, _, I1, rfl, ⟨_, x, rfl, I.hok.fresh (Nat.le_refl _), rfl, ?_⟩, ⟨⟨v1, ?_⟩, ?_, hne⟩, fun b hb => ?_⟩
    · exact fun ys hy => by rw [I.sq_inj hy hq]; exact hx
    · have ei1 : ((i + 1 : Nat) : Int) = (i : Int) + 1 := by omega
      rw [ei1]; exact he'
    · exact st1.1.at fun o q => (sb.2 it (Ne.symm hne)).trans q
    · have hbq : b < s.heap.objs.size := by
        obtain ⟨o1, g1, _⟩ := h1.obj
        simp only [List.mem_cons, List.not_mem_nil, or_false] at hb; rcases hb with z | z <;> rw [z]
        · exact hel
        · exact Heap.lt_size g1
      rw [upd_ne (Nat.ne_of_lt hbq)]; exact (hf b hb).1
  done := by
    intro X hP hw hK hc i pins s σ H E I hf st hg; subst hP hw hK
    obtain ⟨⟨old, he⟩, h1, hne⟩ := st
    obtain ⟨xs, hq, hx⟩ := hg
    obtain ⟨its, rv, p⟩ := I.sq hq
    obtain ⟨f0, f1, f2, f3, f4, f5⟩ := hf it (by simp); have l1 : its.toArray.size = xs.length := by rw [List.size_toArray, rv.length]
    have hd0 : X.A.in1.handled = none := I.ok.hd hc
    have hi : i = its.toArray.size := by omega
    subst hi
    exact wpAny_pyNext_enum_endD (draws_sq hd0 k it a (h1.ne p) its.toArray) he ⟨h1, p⟩ fun h' eb =>
      ⟨rfl, I.turned (t' := s.toks) (fun b o hb q => eb b o hb q) f0 f1 f3 f4 f5⟩
  self := fun A j s Q E st h => by
    obtain ⟨⟨_, he⟩, _⟩ := st
    exact wpAny_pyIter_enum he h
def iEnumX (K : PySem.W.Frag) (ta : TA) : TI := fun σ H R => ta σ H fun vs H1 =>
  ∃ k a xs, vs = [.ref a] ∧ Sq k K H1 a xs ∧ R (IteX K k a) H1
theorem pi_enumX {X : Cx} {e : Expr} {ta : TA} {p pos tpos : Pos} {elts : List Expr} {kk : Nat}
    (hg : Gl X "enumerate") (hm : X.mg "enumerate" = none) (ha : PA X [e] ta)
    (hs : starEach [e] X.env = [(false, eval e X.env)]) :
    PI X (.Tuple elts kk tpos) (.Call (.Name "enumerate" p) [e] [] pos) (iEnumX X.K ta) := by
  refine ⟨fun pins s σ H R I h => ?_⟩; refine Call_ (ld_blt I hg hm boot_enumerate
    (PyProof.Rows.callWith_type1 (thn (ha.run pos pins s σ H _ I h) fun us s1 ⟨vs, H1, I1, r1, q1⟩ => ?_) hs rfl))
  obtain ⟨k, a, xs, ex, hq, q⟩ := q1
  subst ex
  cases r1 with
  | cons r rr =>
    cases rr
    cases r
    obtain ⟨its, rv, p'⟩ := I1.sq hq
    refine enum1_begins (begins_sq k a its.toArray) p' fun h' he hit hk => wpAny_pyIter_enum he ?_
    have I2 : Inv X pins σ H1 { s1 with heap := h' } := I1.kept (t' := s1.toks) hk; refine ⟨s1.heap.objs.size + 1, [s1.heap.objs.size + 1, s1.heap.objs.size], _, _, H1, rfl, I2, turn_enumX k a (s1.heap.objs.size + 1) s1.heap.objs.size, ⟨⟨.none, he⟩, itObj_it hit, Nat.succ_ne_self _⟩, fun b hb => ?_, q⟩
    have hbq : b = s1.heap.objs.size + 1 ∨ b = s1.heap.objs.size := by simpa using hb
    have hlf : s1.heap.objs.size ≤ b := by
      rcases hbq with z | z <;> rw [z]
      · exact Nat.le_add_right _ _
      · exact Nat.le_refl _
    exact I1.fpOk hlf (I1.hok.fresh hlf)
end L2

namespace Gp

/-! values, the store, results -/
inductive PV where
  | non | bl (b : Bool) | int (i : Int) | str (s : List Nat) | tup (xs : List PV) | lst (xs : List PV) | dict (ks vs : List PV) | scr (xs : List Int)
  deriving Inhabited, Repr
inductive LV where
  | pv (p : PV) | ref (k : Nat) | ls (xs : List LV) | dT (ks vs : List PV) | ht (xs : List PV)
  deriving Inhabited, Repr
inductive SO where
  | lst (xs : List PV) | dict (ks vs : List PV) | dicT (ks vs : List PV) | ins (c : Nat) (fs : List (Nat × LV)) | dead
  deriving Inhabited, Repr
abbrev Store := List SO
abbrev Env := List (Option LV)
structure PX where
  cls : Nat
  arg : Option PV
  deriving Inhabited, Repr
inductive Res (α : Type) where
  | ok (a : α) (s : Store) | exc (e : PX) (s : Store) | bad
  deriving Inhabited, Repr
def Res.bind {α β : Type} (r : Res α) (f : α → Store → Res β) : Res β :=
  match r with
  | .ok a s => f a s
  | .exc e s => .exc e s
  | .bad => .bad

/-! equality, order -/
def b2i (b : Bool) : Int := if b then 1 else 0
mutual
def PV.eqb : PV → PV → Bool
  | .non, .non => true
  | .bl a, .bl b => a == b
  | .bl a, .int j => b2i a == j
  | .int i, .bl b => i == b2i b
  | .int i, .int j => i == j
  | .str x, .str y => x == y
  | .tup xs, .tup ys => PV.eqbs xs ys
  | .lst xs, .lst ys => PV.eqbs xs ys
  | _, _ => false
def PV.eqbs : List PV → List PV → Bool
  | [], [] => true
  | x :: xs, y :: ys => PV.eqb x y && PV.eqbs xs ys
  | _, _ => false
end
def ltNats : List Nat → List Nat → Bool
  | [], [] => false
  | [], _ :: _ => true
  | _ :: _, [] => false
  | x :: xs, y :: ys => if x == y then ltNats xs ys else decide (x < y)
mutual
def PV.ltb : PV → PV → Bool
  | .int i, .int j => decide (i < j)
  | .str x, .str y => ltNats x y
  | .tup xs, .tup ys => PV.ltbs xs ys
  | _, _ => false
def PV.ltbs : List PV → List PV → Bool
  | [], [] => false
  | [], _ :: _ => true
  | _ :: _, [] => false
  | x :: xs, y :: ys => if PV.eqb x y then PV.ltbs xs ys else PV.ltb x y
end
mutual
def PV.ordOk : PV → PV → Bool
  | .int _, .int _ => true
  | .str _, .str _ => true
  | .tup xs, .tup ys => PV.ordOks xs ys
  | _, _ => false
def PV.ordOks : List PV → List PV → Bool
  | x :: xs, y :: ys => PV.ordOk x y && PV.ordOks xs ys
  | _, _ => true
end
def ins (x : PV) : List PV → List PV
  | [] => [x]
  | y :: ys => if PV.ltb x y then x :: y :: ys else y :: ins x ys
def isort (xs : List PV) : List PV := xs.foldl (fun acc x => ins x acc) []
def allPairs (p : PV → PV → Bool) : List PV → Bool
  | [] => true
  | x :: xs => xs.all (p x) && allPairs p xs
def find (ks vs : List PV) (k : PV) : Option PV :=
  match ks, vs with
  | x :: ks, v :: vs => if PV.eqb x k then some v else find ks vs k
  | _, _ => none
/-- every value at the key is replaced (the keys are unlike) -/
def rpl : List PV → List PV → PV → PV → List PV
  | x :: ks, w :: vs, k, v => (if PV.eqb x k then v else w) :: rpl ks vs k v
  | _, vs, _, _ => vs
def put (ks vs : List PV) (k v : PV) : List PV × List PV :=
  if ks.any (fun x => PV.eqb x k) then (ks, rpl ks vs k v) else (ks ++ [k], vs ++ [v])
/-- what is a key: an int or a text -/
def PV.keyOk : PV → Bool
  | .int _ => true
  | .str _ => true
  | _ => false
def PV.keyOkT : PV → Bool
  | .tup xs => xs.all PV.keyOk
  | _ => false
mutual
def PV.deep : PV → Nat
  | .tup xs => 1 + PV.deeps xs
  | .lst xs => 1 + PV.deeps xs
  | _ => 0
def PV.deeps : List PV → Nat
  | [] => 0
  | x :: xs => max (PV.deep x) (PV.deeps xs)
end
def PV.truth : PV → Bool
  | .non => false
  | .bl b => b
  | .int i => i != 0
  | .str x => !x.isEmpty
  | .tup xs => !xs.isEmpty
  | .lst xs => !xs.isEmpty
  | .dict ks _ => !ks.isEmpty
  | .scr xs => !xs.isEmpty

/-! the text -/
inductive Bop where | add | sub | mul | fdiv | mod | pow deriving Inhabited, Repr
inductive Cop where | eq | ne | lt | le | gt | ge | isN | notN | isT | isF | inn | notin deriving Inhabited, Repr
inductive Ty where | int | bool | str | tuple | list | dict deriving Inhabited, Repr
inductive Bid where
  | len | sum | all | any | sorted | min1 | max1 | min2 | max2 | int | str | abs | tuple | list | tupR1 | tupR2 | lstR1 | lstR2 | lstZip | dictOf | sortedSet | reversed
  deriving Inhabited, Repr
inductive Mid where
  | append | pop0 | pop1 | extend | insert | get | index | count | join | split | setdefault | items | values | replace
  deriving Inhabited, Repr
inductive Tg where | nm (i : Nat) | t2 (a b : Tg) | t3 (a b c : Tg) | t4 (a b c d : Tg) | t5 (a b c d e : Tg) deriving Inhabited, Repr
mutual
inductive E where
  | no
  | var (i : Nat) | con (p : PV)
  | tup (es : Es) | lst (al : Bool) (es : Es) | dct (al : Bool) (ks vs : Es) | dctT | getT (o k d : E) | getK (o k d : E) | dsp2 (j k : List Nat) (a b : E) | valsT (o : E) | tkB (a : E) | tkD (es : Es)
  | bin (o : Bop) (a b : E) | neg (a : E) | not (a : E) | and (es : Es) | or (es : Es) | ite (c a b : E)
  | cmp (o : Cop) (a b : E) | chain (o1 o2 : Cop) (a b c : E)
  | call (f : Nat) (es : Es) | blt (f : Bid) (al : Bool) (es : Es) | isi (a : E) (ts : List Ty) | mth (m : Mid) (o : E) (es : Es)
  | attr (o : E) (f : Nat) | omth (f : Nat) (o : E) (es : Es) | new (c : Nat) (es : Es)
  | idx (a b : E) | slc (a lo hi : E) | rev (a : E) | lstar (a b : E)
  | lc (al : Bool) (ws : List Nat) (e : E) (t : Tg) (it : It) (c : E)
  | lc2 (al : Bool) (ws ws2 : List Nat) (e : E) (t : Tg) (it : It) (c : E) (t2 : Tg) (it2 : It) (c2 : E)
  | dc (al : Bool) (ws : List Nat) (k v : E) (t : Tg) (it : It) (c : E)
inductive Es where
  | nil | cons (e : E) (es : Es)
inductive It where
  | ex (e : E) | r1 (a : E) | r2 (a b : E) | enum (a : E) | zip (a b : E) | items (a : E)
end
inductive Tgt where
  | g (t : Tg) | sub (o i : E) | fld (o : E) (f : Nat)
mutual
inductive S where
  | asg (t : Tgt) (e : E) | par (is : List Nat) (es : Es) | parC (t : Tg) (es : Es) | aug (i : Nat) (o : Bop) (e : E) | augF (x : E) (f : Nat) (o : Bop) (e : E)
  | exp (e : E) | forr (t : Tg) (it : It) (b : Ss) | whl (c : E) (b : Ss) | iff (c : E) (a b : Ss) | ret (e : E) | retn | rais (c : Nat) (a : E)
  | pass | brk | cnt | frz (i : Nat)
inductive Ss where
  | nil | cons (s : S) (ss : Ss)
end
instance : Inhabited E := ⟨.no⟩
instance : Inhabited Ss := ⟨.nil⟩

/-! readings of values -/
def rd (s : Store) : LV → Option PV
  | .pv p => some p
  | .ref k => match s[k]? with
    | some (.lst xs) => some (.lst xs)
    | some (.dict ks vs) => some (.dict ks vs)
    | _ => none
  | .ls _ => none
  | .dT _ _ => none
  | .ht xs => some (.tup xs)
def seqOf : PV → Option (List PV)
  | .tup xs => some xs
  | .lst xs => some xs
  | _ => none
/-- the largest length of a list that the walk takes -/
def big : Nat := 1000000
def bigI : Int := 1000000
def mulOk (i j : Int) : Bool := (decide (-18446744073709551616 < i) && decide (i < 18446744073709551616)) || (decide (-18446744073709551616 < j) && decide (j < 18446744073709551616))
def rep {α : Type} (xs : List α) : Nat → List α
  | 0 => []
  | n + 1 => xs ++ rep xs n
def binop (o : Bop) (a b : PV) : Option PV :=
  match o, a, b with
  | .add, .int i, .int j => some (.int (i + j))
  | .sub, .int i, .int j => some (.int (i - j))
  | .mul, .int i, .int j => if mulOk i j then some (.int (i * j)) else none
  | .fdiv, .int i, .int j => if decide (0 < j) && decide (j < 1073741824) then some (.int (i / j)) else none
  | .mod, .int i, .int j => if decide (0 < j) then some (.int (i % j)) else none
  | .pow, .int i, .int j => if decide (0 ≤ j) && decide (j ≤ 1000000) && decide (i.natAbs < 18446744073709551616) then some (.int (i ^ j.toNat)) else none
  | .add, .str x, .str y => if decide (x.length + y.length ≤ big) then some (.str (x ++ y)) else none
  | .add, .tup x, .tup y => if decide (x.length + y.length ≤ big) then some (.tup (x ++ y)) else none
  | .add, .lst x, .lst y => if decide (x.length + y.length ≤ big) then some (.lst (x ++ y)) else none
  | .mul, .tup x, .int n => if n = 1 then some (.tup x) else if !x.isEmpty && decide (x.length ≤ 1000) && decide (2 ≤ n) && decide (n ≤ 1000) then some (.tup (rep x n.toNat)) else none
  | .mul, .lst x, .int n => if decide (x.length * n.toNat ≤ big) && decide (-bigI < n) && decide (n < bigI) then some (.lst (rep x n.toNat)) else none
  | _, _, _ => none
/-- a place in a list by Python's index -/
def at_ (n : Nat) (i : Int) : Option Nat :=
  if 0 ≤ i then (if i < n then some i.toNat else none) else if 0 ≤ i + n then some (i + n).toNat else none
def index (a i : PV) : Option PV :=
  match a, i with
  | .tup xs, .int i => (at_ xs.length i).bind fun k => xs[k]?
  | .lst xs, .int i => (at_ xs.length i).bind fun k => xs[k]?
  | .str x, .int i => (at_ x.length i).bind fun k => (x[k]?).map fun c => .str [c]
  | .dict ks vs, k => if PV.keyOk k then find ks vs k else none
  | .scr xs, .int i => (at_ xs.length i).bind fun k => (xs[k]?).map .int
  | _, _ => none
/-- the bounds of a slice -/
def bnd (n : Nat) (i : Int) : Nat := if i < 0 then (i + n).toNat else min i.toNat n
def cut {α : Type} (xs : List α) (lo hi : Option Int) : List α :=
  let a := match lo with | some i => bnd xs.length i | none => 0
  let b := match hi with | some i => bnd xs.length i | none => xs.length
  (xs.drop a).take (b - a)
def slice (a : PV) (lo hi : Option Int) : Option PV :=
  match a with
  | .tup xs => some (.tup (cut xs lo hi))
  | .lst xs => some (.lst (cut xs lo hi))
  | .str x => some (.str (cut x lo hi))
  | _ => none
def revv : PV → Option PV
  | .tup xs => some (.tup xs.reverse)
  | _ => none
mutual
/-- == tells these: no dict within -/
def PV.eqOk : PV → Bool
  | .tup xs => PV.eqOks xs
  | .lst xs => PV.eqOks xs
  | .dict _ _ => false
  | .scr _ => false
  | .str x => x.all fun c => decide (c < 1114112)
  | _ => true
def PV.eqOks : List PV → Bool
  | [] => true
  | x :: xs => PV.eqOk x && PV.eqOks xs
end
def eqG (a b : PV) : Bool := PV.eqOk a && PV.eqOk b && decide (min (PV.deep a) (PV.deep b) ≤ 150)
def inG (x : PV) (xs : List PV) : Bool := PV.eqOk x && PV.eqOks xs && decide (PV.deep x ≤ 150)
def contains (x a : PV) : Option Bool :=
  match a with
  | .tup xs => if inG x xs then some (xs.any fun y => PV.eqb y x) else none
  | .lst xs => if inG x xs then some (xs.any fun y => PV.eqb y x) else none
  | .dict ks vs => if PV.keyOk x then some (find ks vs x).isSome else none
  | .str y => match x with
    | .str [c] => some (y.contains c)
    | _ => none
  | _ => none
def cmpop (o : Cop) (a b : PV) : Option Bool :=
  match o with
  | .eq => if eqG a b then some (PV.eqb a b) else none
  | .ne => if eqG a b then some (!PV.eqb a b) else none
  | .lt => match a, b with
    | .int i, .int j => some (decide (i < j))
    | _, _ => none
  | .gt => match a, b with
    | .int i, .int j => some (decide (j < i))
    | _, _ => none
  | .le => match a, b with
    | .int i, .int j => some (decide (i ≤ j))
    | _, _ => none
  | .ge => match a, b with
    | .int i, .int j => some (decide (j ≤ i))
    | _, _ => none
  | .isN => none
  | .notN => none
  | .isT => match a, b with
    | .bl x, .bl y => some (x == y)
    | _, _ => none
  | .isF => match a, b with
    | .bl x, .bl y => some (!(x == y))
    | _, _ => none
  | .inn => contains a b
  | .notin => (contains a b).map not
def isTy (p : PV) (t : Ty) : Bool :=
  match p, t with
  | .bl _, .int => true
  | .int _, .int => true
  | .bl _, .bool => true
  | .str _, .str => true
  | .tup _, .tuple => true
  | .lst _, .list => true
  | .dict _ _, .dict => true
  | .scr _, .list => true
  | _, _ => false
/-! numbers as texts -/
def digitsN : Nat → Nat → List Nat
  | 0, _ => []
  | f + 1, n => if n < 10 then [48 + n] else digitsN f (n / 10) ++ [48 + n % 10]
def numOf : List Nat → Nat → Option Nat
  | [], n => some n
  | c :: cs, n => if 48 ≤ c ∧ c ≤ 57 then numOf cs (n * 10 + (c - 48)) else none
def intOf (s : List Nat) : Option Int := if s.isEmpty || decide (600 < s.length) then none else (numOf s 0).map fun n => (n : Int)
def joinS (sep : List Nat) : List (List Nat) → List Nat
  | [] => []
  | [x] => x
  | x :: y :: r => x ++ sep ++ joinS sep (y :: r)
def splitC (c : Nat) : List Nat → List Nat → List (List Nat)
  | acc, [] => [acc.reverse]
  | acc, x :: xs => if x = c then acc.reverse :: splitC c [] xs else splitC c (x :: acc) xs
def strsOf : List PV → Option (List (List Nat))
  | [] => some []
  | .str x :: r => (strsOf r).map (x :: ·)
  | _ :: _ => none
def intsOf : List PV → Option (List Int)
  | [] => some []
  | .int x :: r => (intsOf r).map (x :: ·)
  | _ :: _ => none
def blsOf : List PV → Option (List Bool)
  | [] => some []
  | .bl x :: r => (blsOf r).map (x :: ·)
  | _ :: _ => none
def rangeI (a b : Int) : List PV := (List.range (b - a).toNat).map fun k => .int (a + (k : Nat))
def rangeOk (a b : Int) : Bool := decide (-bigI ≤ a) && decide (a ≤ bigI) && decide (-bigI ≤ b) && decide (b ≤ bigI) && decide (b - a ≤ bigI)
def zipP : List PV → List PV → List PV
  | x :: xs, y :: ys => .tup [x, y] :: zipP xs ys
  | _, _ => []
def enumP : Nat → List PV → List PV
  | _, [] => []
  | i, x :: xs => .tup [.int i, x] :: enumP (i + 1) xs
def least : PV → List PV → PV
  | m, [] => m
  | m, x :: xs => least (if PV.ltb x m then x else m) xs
def most : PV → List PV → PV
  | m, [] => m
  | m, x :: xs => most (if PV.ltb m x then x else m) xs
def insI (x : Int) : List Int → List Int
  | [] => [x]
  | y :: ys => if x < y then x :: y :: ys else y :: insI x ys
def isortI : List Int → List Int
  | [] => []
  | x :: xs => insI x (isortI xs)
def dedup : List PV → List PV → List PV
  | acc, [] => acc.reverse
  | acc, x :: xs => if acc.any (fun y => PV.eqb y x) then dedup acc xs else dedup (x :: acc) xs
def putAll (ks vs : List PV) : List PV → Option (List PV × List PV)
  | [] => some (ks, vs)
  | .tup [k, v] :: r => if PV.keyOk k then putAll (put ks vs k v).1 (put ks vs k v).2 r else none
  | _ :: _ => none
/-- built-ins over values that are read -/
def builtin (f : Bid) (xs : List PV) : Option PV :=
  match f, xs with
  | .len, [.tup x] => some (.int x.length)
  | .len, [.lst x] => some (.int x.length)
  | .len, [.str x] => some (.int x.length)
  | .len, [.dict ks _] => some (.int ks.length)
  | .len, [.scr x] => some (.int x.length)
  | .sum, [.lst l] => (intsOf l).map fun l => .int l.sum
  | .all, [.lst x] => (blsOf x).map fun l => .bl (l.all id)
  | .any, [.lst x] => (blsOf x).map fun l => .bl (l.any id)
  | .sorted, [.lst l] => (intsOf l).map fun l => .lst ((isortI l).map .int)
  | .sortedSet, [x] => (seqOf x).bind fun l => if allPairs (fun p q => PV.ordOk p q && PV.ordOk q p) l then some (.lst (isort (dedup [] l))) else none
  | .min1, [.lst l] => (intsOf l).bind fun l => match l with
    | y :: r => some (.int (r.foldl (fun m x => if x < m then x else m) y))
    | [] => none
  | .max1, [.lst l] => (intsOf l).bind fun l => match l with
    | y :: r => some (.int (r.foldl (fun m x => if m < x then x else m) y))
    | [] => none
  | .min2, [.int i, .int j] => some (.int (if j < i then j else i))
  | .max2, [.int i, .int j] => some (.int (if j > i then j else i))
  | .int, [.int i] => some (.int i)
  | .int, [.bl b] => some (.int (b2i b))
  | .int, [.str x] => (intOf x).map .int
  | .str, [.int i] => if decide (0 ≤ i) && decide (i < 1000000000000) then some (.str (digitsN 20 i.toNat)) else none
  | .abs, [.int i] => some (.int (if i < 0 then -i else i))
  | .tuple, [.lst x] => some (.tup x)
  | .tuple, [.tup x] => some (.tup x)
  | .list, [.lst x] => some (.lst x)
  | .list, [.tup x] => some (.lst x)
  | .tupR1, [.int j] => if rangeOk 0 j then some (.tup (rangeI 0 j)) else none
  | .tupR2, [.int i, .int j] => if rangeOk i j then some (.tup (rangeI i j)) else none
  | .lstR1, [.int j] => if rangeOk 0 j then some (.lst (rangeI 0 j)) else none
  | .lstR2, [.int i, .int j] => if rangeOk i j then some (.lst (rangeI i j)) else none
  | .lstZip, [x, y] => (seqOf x).bind fun a => (seqOf y).bind fun b => if a.length ≤ big then some (.lst (zipP a b)) else none
  | .dictOf, [.lst x] => (putAll [] [] x).map fun (ks, vs) => .dict ks vs
  | _, _ => none
def method (m : Mid) (o : PV) (xs : List PV) : Option PV :=
  match m, o, xs with
  | .get, .dict ks vs, [k, d] => if PV.keyOk k then some ((find ks vs k).getD d) else none
  | .index, o, [x] => (seqOf o).bind fun l => if inG x l then (l.findIdx? fun y => PV.eqb y x).map fun n => .int n else none
  | .count, o, [x] => (seqOf o).bind fun l => if inG x l then some (.int (l.countP fun y => PV.eqb y x)) else none
  | .join, .str s, [x] => (seqOf x).bind fun l => (strsOf l).bind fun l => if decide ((joinS s l).length ≤ big) then some (.str (joinS s l)) else none
  | .split, .str s, [.str [c]] => some (.lst ((splitC c [] s).map .str))
  | .items, .dict ks vs, [] => some (.lst (zipP ks vs))
  | .values, .dict _ vs, [] => some (.lst vs)
  | _, _, _ => none

/-! running -/
structure Ctx where
  call : Nat → List LV → Store → Res LV
  wf : Nat
def okp (p : PV) (S : Store) : Res LV := .ok (.pv p) S
def opt (o : Option PV) (S : Store) : Res LV :=
  match o with
  | some p => .ok (.pv p) S
  | none => .bad
def rdB {α : Type} (l : LV) (S : Store) (f : PV → Res α) : Res α :=
  match rd S l with
  | some p => f p
  | none => .bad
def rds (S : Store) : List LV → Option (List PV)
  | [] => some []
  | l :: r => match rd S l, rds S r with
    | some p, some q => some (p :: q)
    | _, _ => none
def pvs : List LV → Option (List PV)
  | [] => some []
  | .pv p :: r => (pvs r).map (p :: ·)
  | .ht xs :: r => (pvs r).map (.tup xs :: ·)
  | _ :: _ => none
/-- a new list -/
def mkL (al : Bool) (ls : List LV) (S : Store) : Res LV :=
  match pvs ls with
  | some ps => if al then .ok (.ref S.length) (S ++ [.lst ps]) else .ok (.pv (.lst ps)) S
  | none => .ok (.ls ls) S
def mkC (al : Bool) (ls : List LV) (S : Store) : Res LV := if decide (ls.length ≤ big) then mkL al ls S else .bad
def mkV (al : Bool) (o : Option PV) (S : Store) : Res LV :=
  match al, o with
  | false, some p => .ok (.pv p) S
  | true, some (.lst xs) => .ok (.ref S.length) (S ++ [.lst xs])
  | true, some (.dict ks vs) => .ok (.ref S.length) (S ++ [.dict ks vs])
  | _, _ => .bad
def wipe (ρ : Env) : List Nat → Env
  | [] => ρ
  | i :: is => (wipe ρ is).set i none
/-- nothing is raised here -/
def noX {α : Type} (r : Res α) : Res α :=
  match r with
  | .ok a S => .ok a S
  | _ => .bad
/-- a value stored to a target of names -/
def bindT : Tg → LV → Env → Option Env
  | .nm i, l, ρ => some (ρ.set i (some l))
  | .t2 a b, .pv (.tup [x, y]), ρ => (bindT a (.pv x) ρ).bind (bindT b (.pv y))
  | .t3 a b c, .pv (.tup [x, y, z]), ρ => ((bindT a (.pv x) ρ).bind (bindT b (.pv y))).bind (bindT c (.pv z))
  | .t4 a b c d, .pv (.tup [x, y, z, u]), ρ => (((bindT a (.pv x) ρ).bind (bindT b (.pv y))).bind (bindT c (.pv z))).bind (bindT d (.pv u))
  | .t5 a b c d e, .pv (.tup [x, y, z, u, v]), ρ => ((((bindT a (.pv x) ρ).bind (bindT b (.pv y))).bind (bindT c (.pv z))).bind (bindT d (.pv u))).bind (bindT e (.pv v))
  | _, _, _ => none
def compL (f : LV → Store → Res (Option LV)) : List LV → Store → Res (List LV)
  | [], S => .ok [] S
  | x :: xs, S => (f x S).bind fun o S => (compL f xs S).bind fun ys S => match o with
    | some y => .ok (y :: ys) S
    | none => .ok ys S
def compLL (f : LV → Store → Res (List LV)) : List LV → Store → Res (List LV)
  | [], S => .ok [] S
  | x :: xs, S => (f x S).bind fun zs S => (compLL f xs S).bind fun ys S => .ok (zs ++ ys) S
def itemsOf (l : LV) (S : Store) : Option (List LV) :=
  match l with
  | .pv (.tup xs) => some (xs.map .pv)
  | .pv (.lst xs) => some (xs.map .pv)
  | .pv (.str x) => some (x.map fun c => .pv (.str [c]))
  | .ls xs => some xs
  | _ => none
def lift {α : Type} (o : Option α) (S : Store) : Res α :=
  match o with
  | some a => .ok a S
  | none => .bad
def isNoneL (l : LV) (S : Store) : Option Bool :=
  match l with
  | .pv .non => some true
  | .pv _ => some false
  | .ls _ => some false
  | .dT _ _ => none
  | .ht _ => none
  | .ref _ => (rd S l).map fun _ => false
def blR (o : Option Bool) (S : Store) : Res LV :=
  match o with
  | some c => .ok (.pv (.bl c)) S
  | none => .bad
def cmpL (o : Cop) (a b : LV) (S : Store) : Res LV :=
  match o with
  | .isN => match b with
    | .pv .non => blR (isNoneL a S) S
    | _ => .bad
  | .notN => match b with
    | .pv .non => blR ((isNoneL a S).map not) S
    | _ => .bad
  | _ => rdB a S fun x => rdB b S fun y => blR (cmpop o x y) S
def intO : LV → Option (Option Int)
  | .pv (.int i) => some (some i)
  | .pv .non => some none
  | _ => none
/-- methods -/
def appL (o : LV) (xs : List LV) (S : Store) : Res LV :=
  match o, xs with
  | .ref k, [.pv x] => match S[k]? with
    | some (.lst l) => if l.length < big then .ok (.pv .non) (S.set k (.lst (l ++ [x]))) else .bad
    | _ => .bad
  | _, _ => .bad
def pop0L (o : LV) (xs : List LV) (S : Store) : Res LV :=
  match o, xs with
  | .ref k, [] => match S[k]? with
    | some (.lst l) => match l.getLast? with
      | some x => .ok (.pv x) (S.set k (.lst l.dropLast))
      | none => .bad
    | _ => .bad
  | _, _ => .bad
def pop1L (o : LV) (xs : List LV) (S : Store) : Res LV :=
  match o, xs with
  | .ref k, [.pv (.int i)] => match S[k]? with
    | some (.lst l) => if 0 ≤ i ∧ i < l.length ∧ i < 1000000 then match l[i.toNat]? with
        | some x => .ok (.pv x) (S.set k (.lst (l.eraseIdx i.toNat)))
        | none => .bad
      else .bad
    | _ => .bad
  | _, _ => .bad
def extL (o : LV) (xs : List LV) (S : Store) : Res LV :=
  match o, xs with
  | .ref k, [y] => match S[k]? with
    | some (.lst l) => rdB y S fun p => match p with
      | .lst z => if l.length + z.length ≤ big then .ok (.pv .non) (S.set k (.lst (l ++ z))) else .bad
      | _ => .bad
    | _ => .bad
  | _, _ => .bad
def sdL (o : LV) (xs : List LV) (S : Store) : Res LV :=
  match o, xs with
  | .ref k, [.pv a, .pv b] => match S[k]? with
    | some (.dict ks vs) => if PV.keyOk a && decide (ks.length < big) then match find ks vs a with
        | some v => .ok (.pv v) S
        | none => .ok (.pv b) (S.set k (.dict (put ks vs a b).1 (put ks vs a b).2))
      else .bad
    | _ => .bad
  | _, _ => .bad
def methL (m : Mid) (o : LV) (xs : List LV) (S : Store) : Res LV :=
  match m with
  | .append => appL o xs S
  | .pop0 => pop0L o xs S
  | .pop1 => pop1L o xs S
  | .extend => extL o xs S
  | .setdefault => sdL o xs S
  | m => rdB o S fun p => match rds S xs with
    | some ps => opt (method m p ps) S
    | none => .bad
/-- the receiver's kind -/
def mtyOk (m : Mid) (x : LV) (S : Store) : Bool :=
  match rd S x with
  | some (.lst _) => match m with
    | .append => true
    | .pop0 => true
    | .pop1 => true
    | .extend => true
    | .insert => true
    | .index => true
    | .count => true
    | _ => false
  | some (.tup _) => false
  | some (.dict _ _) => match m with
    | .get => true
    | .items => true
    | .values => true
    | .setdefault => true
    | _ => false
  | some (.str _) => match m with
    | .join => true
    | .split => true
    | .replace => true
    | _ => false
  | _ => false
def idxL (a i : LV) (S : Store) : Res LV :=
  match a with
  | .ls xs => match i with
    | .pv (.int i) => lift ((at_ xs.length i).bind fun k => xs[k]?) S
    | _ => .bad
  | _ => rdB a S fun x => rdB i S fun j => opt (index x j) S
def setL (o i v : LV) (S : Store) : Res Unit :=
  match o, v with
  | .ref k, .pv v => match S[k]? with
    | some (.lst l) => match i with
      | .pv (.int i) => match at_ l.length i with
        | some n => .ok () (S.set k (.lst (l.set n v)))
        | none => .bad
      | _ => .bad
    | some (.dict ks vs) => match i with
      | .pv a => if PV.keyOk a && decide (ks.length < big) then .ok () (S.set k (.dict (put ks vs a v).1 (put ks vs a v).2)) else .bad
      | _ => .bad
    | some (.dicT ks vs) => match i with
      | .ht a => if decide (ks.length < big) then .ok () (S.set k (.dicT (put ks vs (.tup a) v).1 (put ks vs (.tup a) v).2)) else .bad
      | _ => .bad
    | _ => .bad
  | _, _ => .bad
inductive Flow where
  | nx (ρ : Env) | rt (l : LV) | bk (ρ : Env) | ct (ρ : Env)
  deriving Inhabited
def forL (f : LV → Env → Store → Res Flow) : List LV → Env → Store → Res Flow
  | [], ρ, S => .ok (.nx ρ) S
  | x :: xs, ρ, S => (f x ρ S).bind fun fl S => match fl with
    | .nx ρ => forL f xs ρ S
    | .ct ρ => forL f xs ρ S
    | .bk ρ => .ok (.nx ρ) S
    | .rt l => .ok (.rt l) S
def whileL (c : Env → Store → Res Bool) (f : Env → Store → Res Flow) : Nat → Env → Store → Res Flow
  | 0, _, _ => .bad
  | n + 1, ρ, S => (c ρ S).bind fun t S => match t with
    | false => .ok (.nx ρ) S
    | true => (f ρ S).bind fun fl S => match fl with
      | .nx ρ => whileL c f n ρ S
      | .ct ρ => whileL c f n ρ S
      | .bk ρ => .ok (.nx ρ) S
      | .rt l => .ok (.rt l) S
def getV (ρ : Env) (i : Nat) (S : Store) : Res LV :=
  match ρ[i]? with
  | some (some l) => .ok l S
  | _ => .bad
mutual
def frzV (n0 : Nat) (S : Store) : LV → Option LV
  | .pv p => some (.pv p)
  | .ref k => if k < n0 then some (.ref k) else match S[k]? with
    | some (.lst xs) => some (.pv (.lst xs))
    | some (.dict ks vs) => some (.pv (.dict ks vs))
    | some (.dicT ks vs) => some (.dT ks vs)
    | _ => none
  | .dT ks vs => some (.dT ks vs)
  | .ht xs => some (.ht xs)
  | .ls xs => (frzVs n0 S xs).map fun ys => match pvs ys with
    | some ps => .pv (.lst ps)
    | none => .ls ys
def frzVs (n0 : Nat) (S : Store) : List LV → Option (List LV)
  | [] => some []
  | x :: xs => match frzV n0 S x, frzVs n0 S xs with
    | some y, some ys => some (y :: ys)
    | _, _ => none
end
def parT : List Nat → List LV → Env → Option Env
  | [], [], ρ => some ρ
  | i :: is, l :: ls, ρ => parT is ls (ρ.set i (some l))
  | _, _, _ => none
/-- values stored to names, by way of a tuple -/
def bindTs : Tg → List LV → Env → Option Env
  | .t2 (.nm i) (.nm j), [a, b], ρ => some ((ρ.set i (some a)).set j (some b))
  | .t3 (.nm i) (.nm j) (.nm k), [a, b, d], ρ => some (((ρ.set i (some a)).set j (some b)).set k (some d))
  | _, _, _ => none
def isNo : E → Bool
  | .no => true
  | _ => false
/-- a result as a test's, where m -/
def tst (m : Bool) (r : Res LV) : Res LV :=
  match m with
  | false => r
  | true => r.bind fun l S => rdB l S fun p => .ok (.pv (.bl p.truth)) S
def isT (r : Res LV) : Res Bool :=
  match r with
  | .ok (.pv (.bl b)) S => .ok b S
  | .ok _ _ => .bad
  | .exc e S => .exc e S
  | .bad => .bad
/-- a bound of a slice -/
def bndO (n : Bool) (r : Res LV) (S : Store) : Res (Option Int) :=
  match n with
  | true => .ok none S
  | false => r.bind fun l S => match l with
    | .pv (.int i) => .ok (some i) S
    | _ => .bad
/-- a test that may lack -/
def tstO (n : Bool) (r : Res LV) (S : Store) : Res Bool :=
  match n with
  | true => .ok true S
  | false => isT r
def iteR {α : Type} (r : Res Bool) (f g : Store → Res α) : Res α :=
  r.bind fun t S => match t with
    | true => f S
    | false => g S
/-- one turn of a comprehension -/
def turn (o : Option Env) (f : Env → Res (Option LV)) : Res (Option LV) :=
  match o with
  | some ρ => f ρ
  | none => .bad
def andR (m : Bool) (a : Res LV) (f : Store → Res LV) : Res LV :=
  match m with
  | true => iteR (isT a) f (fun S => .ok (.pv (.bl false)) S)
  | false => a.bind fun l S => rdB l S fun p => match p.truth with
    | true => f S
    | false => .ok l S
def orR (m : Bool) (a : Res LV) (f : Store → Res LV) : Res LV :=
  match m with
  | true => iteR (isT a) (fun S => .ok (.pv (.bl true)) S) f
  | false => a.bind fun l S => rdB l S fun p => match p.truth with
    | false => f S
    | true => .ok l S
def seqL (l : LV) : Option (List PV) :=
  match l with
  | .pv p => seqOf p
  | _ => none
def enumL (l : LV) (S : Store) : Res (List LV) :=
  match seqL l with
  | some xs => .ok ((enumP 0 xs).map .pv) S
  | none => .bad
def zipL (l m : LV) (S : Store) : Res (List LV) :=
  match seqL l, seqL m with
  | some xs, some ys => .ok ((zipP xs ys).map .pv) S
  | _, _ => .bad
/-- a dict of keys that are tuples, as it stands -/
def dTof (l : LV) (S : Store) : Option (List PV × List PV) :=
  match l with
  | .dT ks vs => some (ks, vs)
  | .ref k => match S[k]? with
    | some (.dicT ks vs) => some (ks, vs)
    | _ => none
  | _ => none
def getTL (o k d : LV) (S : Store) : Res LV :=
  match dTof o S, k, d with
  | some (ks, vs), .ht k, .pv d => .ok (.pv ((find ks vs (.tup k)).getD d)) S
  | _, _, _ => .bad
def dKof (l : LV) (S : Store) : Option (List PV × List PV) :=
  match rd S l with
  | some (.dict ks vs) => some (ks, vs)
  | _ => none
def getKL (o k d : LV) (S : Store) : Res LV :=
  match dKof o S, k, d with
  | some (ks, vs), .pv k, .pv d => if PV.keyOk k then .ok (.pv ((find ks vs k).getD d)) S else .bad
  | _, _, _ => .bad
/-- a display of two texts, its dict laid at n ahead of its values -/
def dspL (n : Nat) (j k : List Nat) (x y : LV) (S : Store) : Res LV :=
  match x, y, S[n]? with
  | .pv x, .pv y, some (.dict [] []) => if j != k then .ok (.ref n) (S.set n (.dict [.str j, .str k] [x, y])) else .bad
  | _, _, _ => .bad
def valsTL (o : LV) (S : Store) : Res LV :=
  match dTof o S with
  | some (_, vs) => .ok (.pv (.lst vs)) S
  | none => .bad
def lstOf : Option PV → Option (List PV)
  | some (.lst xs) => some xs
  | _ => none
/-- a new tuple that may be a key -/
def mkH (o : Option (List PV)) (S : Store) : Res LV :=
  match o with
  | some xs => if xs.all PV.keyOk then .ok (.ht xs) S else .bad
  | none => .bad
variable (c : Ctx)
mutual
def ev : E → Bool → Env → Store → Res LV
  | .no, _, _, _ => .bad
  | .var i, m, ρ, S => tst m (getV ρ i S)
  | .con p, m, _, S => tst m (.ok (.pv p) S)
  | .tup es, m, ρ, S => tst m ((evEs es ρ S).bind fun ls S => match pvs ls with
    | some ps => .ok (.pv (.tup ps)) S
    | none => .bad)
  | .lst al es, m, ρ, S => tst m ((evEs es ρ S).bind fun ls S => mkL al ls S)
  | .dct al ks vs, m, ρ, S => tst m ((evEs ks ρ S).bind fun ks S => (evEs vs ρ S).bind fun vs S => match pvs ks, pvs vs with
    | some ks, some vs => mkV al ((putAll [] [] (zipP ks vs)).map fun (ks, vs) => .dict ks vs) S
    | _, _ => .bad)
  | .dctT, m, _, S => tst m (.ok (.ref S.length) (S ++ [.dicT [] []]))
  | .getT o k d, m, ρ, S => tst m ((ev o false ρ S).bind fun x S => if (dTof x S).isSome then (ev k false ρ S).bind fun y S => (ev d false ρ S).bind fun z S => getTL x y z S else .bad)
  | .getK o k d, m, ρ, S => tst m ((ev o false ρ S).bind fun x S => if (dKof x S).isSome then (ev k false ρ S).bind fun y S => (ev d false ρ S).bind fun z S => getKL x y z S else .bad)
  | .dsp2 j k a b, m, ρ, S => tst m ((ev a false ρ (S ++ [.dict [] []])).bind fun x S' => (ev b false ρ S').bind fun y S' => dspL S.length j k x y S')
  | .valsT o, m, ρ, S => tst m ((ev o false ρ S).bind fun x S => valsTL x S)
  | .tkB a, m, ρ, S => tst m ((ev a false ρ S).bind fun x S => mkH (lstOf (rd S x)) S)
  | .tkD es, m, ρ, S => tst m ((evEs es ρ S).bind fun ls S => mkH (pvs ls) S)
  | .bin o a b, m, ρ, S => tst m ((ev a false ρ S).bind fun x S => (ev b false ρ S).bind fun y S => rdB x S fun x => rdB y S fun y => opt (binop o x y) S)
  | .neg a, m, ρ, S => tst m ((ev a false ρ S).bind fun x S => match x with
    | .pv (.int i) => .ok (.pv (.int (-i))) S
    | _ => .bad)
  | .not a, m, ρ, S => (isT (match m with | true => ev a true ρ S | false => tst true (ev a false ρ S))).bind fun t S => .ok (.pv (.bl (!t))) S
  | .and es, m, ρ, S => evAnd es m ρ S
  | .or es, m, ρ, S => evOr es m ρ S
  | .ite t a b, m, ρ, S => iteR (isT (ev t true ρ S)) (fun S => ev a m ρ S) (fun S => ev b m ρ S)
  | .cmp o a b, _, ρ, S => (ev a false ρ S).bind fun x S => (ev b false ρ S).bind fun y S => cmpL o x y S
  | .chain o1 o2 a b d, _, ρ, S => (ev a false ρ S).bind fun x S => (ev b false ρ S).bind fun y S => iteR (isT (cmpL o1 x y S)) (fun S => (ev d false ρ S).bind fun z S => cmpL o2 y z S) (fun S => .ok (.pv (.bl false)) S)
  | .call f es, m, ρ, S => tst m ((evEs es ρ S).bind fun ls S => c.call f ls S)
  | .blt f al es, m, ρ, S => tst m ((evEs es ρ S).bind fun ls S => match rds S ls with
    | some ps => mkV al (builtin f ps) S
    | none => .bad)
  | .isi a ts, m, ρ, S => tst m ((ev a false ρ S).bind fun x S => rdB x S fun p => .ok (.pv (.bl (ts.any (isTy p)))) S)
  | .mth k o es, m, ρ, S => tst m ((ev o false ρ S).bind fun x S => if mtyOk k x S then (evEs es ρ S).bind fun ls S => methL k x ls S else .bad)
  | .attr _ _, _, _, _ => .bad
  | .omth _ _ _, _, _, _ => .bad
  | .new _ _, _, _, _ => .bad
  | .idx a b, m, ρ, S => tst m ((ev a false ρ S).bind fun x S => (ev b false ρ S).bind fun y S => idxL x y S)
  | .slc a lo hi, m, ρ, S => tst m ((ev a false ρ S).bind fun x S => (bndO (isNo lo) (ev lo false ρ S) S).bind fun i S => (bndO (isNo hi) (ev hi false ρ S) S).bind fun j S => rdB x S fun p => opt (slice p i j) S)
  | .rev a, m, ρ, S => tst m ((ev a false ρ S).bind fun x S => rdB x S fun p => opt (revv p) S)
  | .lstar a b, m, ρ, S => tst m ((ev a false ρ S).bind fun x S => (ev b false ρ S).bind fun y S => match x with
    | .pv x => rdB y S fun y => match seqOf y with
      | some l => if l.length < big then .ok (.pv (.lst (x :: l))) S else .bad
      | none => .bad
    | _ => .bad)
  | .lc al ws e t it cd, m, ρ, S => tst m ((evI it ρ S).bind fun ls S => (noX (compL (fun l S => turn (bindT t l (wipe ρ ws)) fun ρ =>
      iteR (tstO (isNo cd) (ev cd true ρ S) S) (fun S => (ev e false ρ S).bind fun v S => .ok (some v) S) (fun S => .ok none S)) ls S)).bind fun ys S => mkC al ys S)
  | .lc2 al ws ws2 e t it cd t2 it2 cd2, m, ρ, S => tst m ((evI it ρ S).bind fun ls S => (noX (compLL (fun l S => match bindT t l (wipe ρ ws) with
    | some ρ => iteR (tstO (isNo cd) (ev cd true ρ S) S) (fun S => (evI it2 ρ S).bind fun ls S => compL (fun l S => turn (bindT t2 l (wipe ρ ws2)) fun ρ =>
        iteR (tstO (isNo cd2) (ev cd2 true ρ S) S) (fun S => (ev e false ρ S).bind fun v S => .ok (some v) S) (fun S => .ok none S)) ls S) (fun S => .ok [] S)
    | none => .bad) ls S)).bind fun ys S => mkC al ys S)
  | .dc al ws k v t it cd, m, ρ, S => tst m ((evI it ρ S).bind fun ls S => (noX (compL (fun l S => turn (bindT t l (wipe ρ ws)) fun ρ =>
      iteR (tstO (isNo cd) (ev cd true ρ S) S) (fun S => (ev k false ρ S).bind fun k S => (ev v false ρ S).bind fun v S => match k, v with
        | .pv k, .pv v => .ok (some (.pv (.tup [k, v]))) S
        | _, _ => .bad) (fun S => .ok none S)) ls S)).bind fun ys S => match (if decide (ys.length ≤ big) then pvs ys else none) with
      | some ps => mkV al ((putAll [] [] ps).map fun (ks, vs) => .dict ks vs) S
      | none => .bad)
def evAnd : Es → Bool → Env → Store → Res LV
  | .nil, _, _, _ => .bad
  | .cons a r, m, ρ, S => match r with
    | .nil => ev a m ρ S
    | .cons _ _ => andR m (ev a m ρ S) (fun S => evAnd r m ρ S)
def evOr : Es → Bool → Env → Store → Res LV
  | .nil, _, _, _ => .bad
  | .cons a r, m, ρ, S => match r with
    | .nil => ev a m ρ S
    | .cons _ _ => orR m (ev a m ρ S) (fun S => evOr r m ρ S)
def evEs : Es → Env → Store → Res (List LV)
  | .nil, _, S => .ok [] S
  | .cons a r, ρ, S => (ev a false ρ S).bind fun x S => (evEs r ρ S).bind fun xs S => .ok (x :: xs) S
def evI : It → Env → Store → Res (List LV)
  | .ex e, ρ, S => (ev e false ρ S).bind fun l S => lift (itemsOf l S) S
  | .r1 a, ρ, S => (ev a false ρ S).bind fun l S => match l with
    | .pv (.int j) => if rangeOk 0 j then .ok ((rangeI 0 j).map .pv) S else .bad
    | _ => .bad
  | .r2 a b, ρ, S => (ev a false ρ S).bind fun l S => (ev b false ρ S).bind fun m S => match l, m with
    | .pv (.int i), .pv (.int j) => if rangeOk i j then .ok ((rangeI i j).map .pv) S else .bad
    | _, _ => .bad
  | .enum a, ρ, S => (ev a false ρ S).bind fun l S => enumL l S
  | .zip a b, ρ, S => (ev a false ρ S).bind fun l S => (ev b false ρ S).bind fun m S => zipL l m S
  | .items a, ρ, S => (ev a false ρ S).bind fun l S => match l with
    | .pv (.dict ks vs) => .ok ((zipP ks vs).map .pv) S
    | _ => .bad
end
def pvO (n : Bool) (r : Res LV) (S : Store) : Res (Option PV) :=
  match n with
  | true => .ok none S
  | false => r.bind fun l S => match l with
    | .pv p => .ok (some p) S
    | _ => .bad
mutual
def evS : S → Env → Store → Res Flow
  | .asg t e, ρ, S => match t with
    | .g t => (ev c e false ρ S).bind fun l S => lift ((bindT t l ρ).map .nx) S
    | .sub o i => (ev c e false ρ S).bind fun v S => (ev c o false ρ S).bind fun o S => (ev c i false ρ S).bind fun i S => (setL o i v S).bind fun _ S => .ok (.nx ρ) S
    | .fld _ _ => .bad
  | .par is es, ρ, S => (evEs c es ρ S).bind fun ls S => lift ((parT is ls ρ).map .nx) S
  | .parC t es, ρ, S => (evEs c es ρ S).bind fun ls S => lift ((bindTs t ls ρ).map .nx) S
  | .aug i o e, ρ, S => (getV ρ i S).bind fun x S => (ev c e false ρ S).bind fun y S => rdB x S fun x => rdB y S fun y => match binop o x y, x with
    | some r, .int _ => .ok (.nx (ρ.set i (some (.pv r)))) S
    | _, _ => .bad
  | .augF _ _ _ _, _, _ => .bad
  | .exp e, ρ, S => (ev c e false ρ S).bind fun _ S => .ok (.nx ρ) S
  | .forr t it b, ρ, S => (evI c it ρ S).bind fun ls S => forL (fun l ρ S => match bindT t l ρ with
    | some ρ => evSs b ρ S
    | none => .bad) ls ρ S
  | .whl t b, ρ, S => whileL (fun ρ S => isT (ev c t true ρ S)) (evSs b) c.wf ρ S
  | .iff t a b, ρ, S => iteR (isT (ev c t true ρ S)) (fun S => evSs a ρ S) (fun S => evSs b ρ S)
  | .ret e, ρ, S => (ev c e false ρ S).bind fun l S => .ok (.rt l) S
  | .retn, _, S => .ok (.rt (.pv .non)) S
  | .rais k a, ρ, S => (pvO (isNo a) (ev c a false ρ S) S).bind fun p S => .exc ⟨k, p⟩ S
  | .pass, ρ, S => .ok (.nx ρ) S
  | .brk, ρ, S => .ok (.bk ρ) S
  | .cnt, ρ, S => .ok (.ct ρ) S
  | .frz i, ρ, S => match ρ[i]? with
    | some (some (.ref k)) => match S[k]? with
      | some (.lst xs) => .ok (.nx (ρ.set i (some (.pv (.lst xs))))) (S.set k .dead)
      | some (.dict ks vs) => .ok (.nx (ρ.set i (some (.pv (.dict ks vs))))) (S.set k .dead)
      | _ => .bad
    | _ => .bad
def evSs : Ss → Env → Store → Res Flow
  | .nil, ρ, S => .ok (.nx ρ) S
  | .cons s r, ρ, S => (evS s ρ S).bind fun f S => match f with
    | .nx ρ => evSs r ρ S
    | f => .ok f S
end
structure Def where
  ar : Nat
  sl : Nat
  body : Ss
  deriving Inhabited
def leave (n0 : Nat) (r : Res Flow) : Res LV :=
  match r with
  | .ok (.rt l) S => match frzV n0 S l with
    | some l => .ok l (S.take n0)
    | none => .bad
  | .ok (.nx _) S => .ok (.pv .non) (S.take n0)
  | .ok _ _ => .bad
  | .exc e S => .exc e (S.take n0)
  | .bad => .bad
def enter (d : Def) (ls : List LV) : Env := ls.map some ++ List.replicate (d.sl - d.ar) none
/-- the defs, n calls deep -/
def run (P : List Def) (wf : Nat) : Nat → Nat → List LV → Store → Res LV
  | 0, _, _, _ => .bad
  | n + 1, f, ls, S => match P[f]? with
    | some d => if ls.length = d.ar then leave S.length (evSs ⟨run P wf n, wf⟩ d.body (enter d ls) S) else .bad
    | none => .bad
end Gp

namespace Gp
open PySem PySem.Spec PyProof.Rows L2
abbrev Sg := L2.St

/-! ### what bears a pure value -/
def TupA (K : PySem.W.Frag) (bn : List Addr) (H : Hp) (a : Addr) (vs : List V) : Prop :=
  (Rd H a (.tup vs) ∧ a ∉ bn) ∨ ∃ (o : Obj) (its : Array Value) (n : Nat), K.lookup a = some o ∧ o.cls = .type "tuple" ∧ o.data = .seq its n ∧ its.size ≤ sizeLine ∧ Vals vs its.toList
def LstA (bn : List Addr) (H : Hp) (a : Addr) (vs : List V) : Prop := H a = some (.lst vs) ∧ a ∉ bn
def ScrA (K : PySem.W.Frag) (bn : List Addr) (H : Hp) (a : Addr) (vs : List V) : Prop :=
  (Rd H a (.lst vs) ∧ a ∉ bn) ∨ ∃ (o : Obj) (its : Array Value) (n : Nat), K.lookup a = some o ∧ o.cls = .type "list" ∧ o.dict = none ∧ o.data = .seq its n ∧ its.size ≤ sizeLine ∧ Vals vs its.toList
/-- a key of a dict -/
def toKey : PV → Option Key
  | .int i => some (.inl i)
  | .str x => some (.inr ⟨x.toArray⟩)
  | _ => none
def toKeys : List PV → Option (List Key)
  | [] => some []
  | x :: xs => match toKey x, toKeys xs with
    | some k, some ks => some (k :: ks)
    | _, _ => none
def toKeyT : PV → Option (List Key)
  | .tup xs => toKeys xs
  | _ => none
def KeysG {κ : Type} (tk : PV → Option κ) (ks : List PV) (kvs : List (κ × V)) : Prop := ks.map tk = kvs.map fun p => some p.1
def KeysR (ks : List PV) (kvs : List (Key × V)) : Prop := ks.map toKey = kvs.map fun p => some p.1
mutual
def RepP (K : PySem.W.Frag) (bn : List Addr) (H : Hp) : PV → V → Prop
  | .non, v => v = .non
  | .bl b, v => v = .bl b
  | .int i, v => v = .int i
  | .str x, v => v = .str ⟨x.toArray⟩ ∧ x.length ≤ big
  | .tup xs, v => ∃ a vs, v = .ref a ∧ TupA K bn H a vs ∧ RepPs K bn H xs vs
  | .lst xs, v => ∃ a vs, v = .ref a ∧ LstA bn H a vs ∧ RepPs K bn H xs vs
  | .dict ks ws, v => ∃ a kvs, v = .ref a ∧ H a = some (.dK kvs) ∧ a ∉ bn ∧ KeysR ks kvs ∧ RepPs K bn H ws (kvs.map (·.2))
  | .scr xs, v => ∃ a, v = .ref a ∧ ScrA K bn H a (xs.map V.int)
def RepPs (K : PySem.W.Frag) (bn : List Addr) (H : Hp) : List PV → List V → Prop
  | [], vs => vs = []
  | x :: xs, vs => ∃ v r, vs = v :: r ∧ RepP K bn H x v ∧ RepPs K bn H xs r
end
theorem RepPs.length {K : PySem.W.Frag} {bn : List Addr} {H : Hp} : ∀ {xs : List PV} {vs : List V}, RepPs K bn H xs vs → xs.length = vs.length
  | [], vs, h => by unfold RepPs at h; subst h; rfl
  | x :: xs, vs, h => by
    unfold RepPs at h
    obtain ⟨v, r, rfl, _, h⟩ := h
    rw [List.length_cons, List.length_cons, RepPs.length h]
theorem RepPs.get {K : PySem.W.Frag} {bn : List Addr} {H : Hp} : ∀ {xs : List PV} {vs : List V} {i : Nat} {x : PV}, RepPs K bn H xs vs → xs[i]? = some x → ∃ v, vs[i]? = some v ∧ RepP K bn H x v
  | [], _, _, _, _, e => by simp at e
  | y :: ys, vs, i, x, h, e => by
    unfold RepPs at h
    obtain ⟨v, r, rfl, h1, h2⟩ := h
    cases i with
    | zero => simp at e; subst e; exact ⟨v, rfl, h1⟩
    | succ i => exact RepPs.get (i := i) h2 (by simpa using e)
theorem repPs_cons {K : PySem.W.Frag} {bn : List Addr} {H : Hp} {x : PV} {xs : List PV} {v : V} {vs : List V} (h : RepP K bn H x v) (r : RepPs K bn H xs vs) : RepPs K bn H (x :: xs) (v :: vs) := by
  unfold RepPs; exact ⟨v, vs, rfl, h, r⟩
theorem repPs_nil {K : PySem.W.Frag} {bn : List Addr} {H : Hp} : RepPs K bn H [] [] := by unfold RepPs; rfl
theorem RepPs.append {K : PySem.W.Frag} {bn : List Addr} {H : Hp} : ∀ {xs ys : List PV} {vs us : List V}, RepPs K bn H xs vs → RepPs K bn H ys us → RepPs K bn H (xs ++ ys) (vs ++ us)
  | [], _, vs, _, h, r => by unfold RepPs at h; subst h; exact r
  | x :: xs, _, vs, _, h, r => by
    unfold RepPs at h
    obtain ⟨v, q, rfl, h1, h2⟩ := h
    exact repPs_cons h1 (RepPs.append h2 r)
theorem repPs_iff {K : PySem.W.Frag} {bn : List Addr} {H : Hp} : ∀ {xs : List PV} {vs : List V}, RepPs K bn H xs vs ↔ xs.length = vs.length ∧ ∀ (i : Nat) (x : PV) (v : V), xs[i]? = some x → vs[i]? = some v → RepP K bn H x v
  | [], vs => by
    unfold RepPs
    constructor
    · rintro rfl; exact ⟨rfl, fun i x v h => by simp at h⟩
    · rintro ⟨h, _⟩; exact List.eq_nil_of_length_eq_zero h.symm
  | x :: xs, vs => by
    constructor
    · intro h
      refine ⟨h.length, fun i y v e1 e2 => ?_⟩
      obtain ⟨v', e, r⟩ := h.get e1
      rw [e2] at e; cases e; exact r
    · rintro ⟨hl, h⟩
      cases vs with
      | nil => simp at hl
      | cons v vs =>
        refine repPs_cons (h 0 x v rfl rfl) (repPs_iff.mpr ⟨by simpa using hl, fun i y u e1 e2 => h (i + 1) y u (by simpa using e1) (by simpa using e2)⟩)

/-! ### the store, the environment -/
abbrev Mu := List (Option Addr)
mutual
def RepL (K : PySem.W.Frag) (mu : Mu) (bn : List Addr) (H : Hp) : LV → V → Prop
  | .pv p, v => RepP K bn H p v
  | .ref k, v => k < mu.length ∧ ∀ a, mu[k]? = some (some a) → v = .ref a
  | .ls xs, v => ∃ a vs, v = .ref a ∧ LstA bn H a vs ∧ RepLs K mu bn H xs vs
  | .dT ks ws, v => ∃ a kvs, v = .ref a ∧ H a = some (.dT kvs) ∧ a ∉ bn ∧ KeysG toKeyT ks kvs ∧ RepPs K bn H ws (kvs.map (·.2))
  | .ht xs, v => ∃ a key, v = .ref a ∧ H a = some (.tup (key.map kV)) ∧ a ∉ bn ∧ toKeys xs = some key ∧ RepPs K bn H xs (key.map kV)
def RepLs (K : PySem.W.Frag) (mu : Mu) (bn : List Addr) (H : Hp) : List LV → List V → Prop
  | [], vs => vs = []
  | x :: xs, vs => ∃ v r, vs = v :: r ∧ RepL K mu bn H x v ∧ RepLs K mu bn H xs r
end
def RepO (K : PySem.W.Frag) (bn : List Addr) (H : Hp) (a : Addr) : SO → Prop
  | .lst xs => ∃ vs, H a = some (.lst vs) ∧ RepPs K bn H xs vs
  | .dict ks ws => ∃ kvs, H a = some (.dK kvs) ∧ KeysR ks kvs ∧ RepPs K bn H ws (kvs.map (·.2))
  | .dicT ks ws => ∃ kvs, H a = some (.dT kvs) ∧ KeysG toKeyT ks kvs ∧ RepPs K bn H ws (kvs.map (·.2))
  | .ins _ _ => False
  | .dead => True
structure RepS (K : PySem.W.Frag) (mu : Mu) (bn : List Addr) (H : Hp) (S : Store) : Prop where
  len : mu.length = S.length
  sub : ∀ (k : Nat) (a : Addr), mu[k]? = some (some a) → a ∈ bn
  inj : ∀ (j k : Nat) (a : Addr), mu[j]? = some (some a) → mu[k]? = some (some a) → j = k
  tk : ∀ b ∈ bn, H b ≠ none
  obj : ∀ (k : Nat) (o : SO), S[k]? = some o → (∃ a, mu[k]? = some (some a) ∧ RepO K bn H a o) ∨ (o = .dead ∧ mu[k]? = some none)
/-- a state's step: stores may die and come, all else that is tracked stays -/
structure Tr (mu : Mu) (bn : List Addr) (H : Hp) (mu' : Mu) (bn' : List Addr) (H' : Hp) : Prop where
  le : mu.length ≤ mu'.length
  sub : ∀ (k : Nat) (a : Addr), k < mu.length → mu'[k]? = some (some a) → mu[k]? = some (some a)
  fresh : ∀ (k : Nat) (a : Addr), mu.length ≤ k → mu'[k]? = some (some a) → H a = none
  keep : ∀ (b : Addr) (o : HO), H b = some o → (∀ k : Nat, mu[k]? ≠ some (some b)) → H' b = some o
  there : ∀ b, H' b = none → H b = none
  news : ∀ b ∈ bn', b ∈ bn ∨ H b = none
  hold : ∀ b ∈ bn, H b ≠ none → (∀ k : Nat, mu[k]? ≠ some (some b)) → b ∈ bn'
theorem no_past {mu : Mu} {k : Nat} {a : Addr} (h : mu.length ≤ k) (e : mu[k]? = some (some a)) : False := by
  rw [List.getElem?_eq_none h] at e; cases e
theorem Tr.refl (mu : Mu) (bn : List Addr) (H : Hp) : Tr mu bn H mu bn H where
  le := Nat.le_refl _
  sub := fun _ _ _ e => e
  fresh := fun k a h e => (no_past h e).elim
  keep := fun _ _ e _ => e
  there := fun _ h => h
  news := fun _ h => .inl h
  hold := fun _ h _ _ => h
theorem Tr.trans {m1 m2 m3 : Mu} {b1 b2 b3 : List Addr} {H1 H2 H3 : Hp} (x : Tr m1 b1 H1 m2 b2 H2) (y : Tr m2 b2 H2 m3 b3 H3) : Tr m1 b1 H1 m3 b3 H3 where
  le := Nat.le_trans x.le y.le
  sub := fun k a h e => x.sub k a h (y.sub k a (Nat.lt_of_lt_of_le h x.le) e)
  fresh := fun k a h e => by
    by_cases hk : k < m2.length
    · exact x.fresh k a h (y.sub k a hk e)
    · exact x.there _ (y.fresh k a (by omega) e)
  keep := fun b o e h => y.keep b o (x.keep b o e h) fun k e2 => by
    by_cases hk : k < m1.length
    · by_cases hk2 : k < m2.length
      · exact h k (x.sub k b hk e2)
      · exact absurd hk (Nat.not_lt_of_le (Nat.le_trans x.le (Nat.le_of_not_lt hk2)))
    · have := x.fresh k b (by omega) e2
      rw [e] at this; cases this
  there := fun b h => x.there b (y.there b h)
  news := fun b h => by
    rcases y.news b h with h | h
    · exact x.news b h
    · exact .inr (x.there b h)
  hold := fun b hb h0 hn => y.hold b (x.hold b hb h0 hn) (fun z => h0 (x.there b z)) fun k e2 => by
    by_cases hk : k < m1.length
    · by_cases hk2 : k < m2.length
      · exact hn k (x.sub k b hk e2)
      · exact absurd hk (Nat.not_lt_of_le (Nat.le_trans x.le (Nat.le_of_not_lt hk2)))
    · exact h0 (x.fresh k b (by omega) e2)
section
variable {K : PySem.W.Frag} {mu mu' : Mu} {bn bn' : List Addr} {H H' : Hp} {S S' : Store}
abbrev Lw (mu mu' : Mu) : Prop := mu.length ≤ mu'.length ∧ ∀ (k : Nat) (a : Addr), k < mu.length → mu'[k]? = some (some a) → mu[k]? = some (some a)
theorem Lw.trans {m1 m2 m3 : Mu} (x : Lw m1 m2) (y : Lw m2 m3) : Lw m1 m3 := ⟨Nat.le_trans x.1 y.1, fun k a h e => x.2 k a h (y.2 k a (Nat.lt_of_lt_of_le h x.1) e)⟩
theorem Tr.lw (t : Tr mu bn H mu' bn' H') : Lw mu mu' := ⟨t.le, t.sub⟩
/-- what inline values lean on -/
structure Kp (bn : List Addr) (H : Hp) (bn' : List Addr) (H' : Hp) : Prop where
  keep : ∀ (b : Addr) (o : HO), H b = some o → b ∉ bn → H' b = some o
  news : ∀ b ∈ bn', b ∈ bn ∨ H b = none
theorem Kp.out (k : Kp bn H bn' H') {b : Addr} {o : HO} (e : H b = some o) (h : b ∉ bn) : b ∉ bn' := fun hb => by
  rcases k.news b hb with q | q
  · exact h q
  · rw [e] at q; cases q
theorem Kp.trans {b3 : List Addr} {H3 : Hp} (k : Kp bn H bn' H') (k2 : Kp bn' H' b3 H3) : Kp bn H b3 H3 where
  keep := fun b o e h => k2.keep b o (k.keep b o e h) (k.out e h)
  news := fun b hb => by
    rcases k2.news b hb with q | q
    · exact k.news b q
    · by_cases z : b ∈ bn
      · exact .inl z
      · cases e : H b with
        | none => exact .inr rfl
        | some o => rw [k.keep b o e z] at q; cases q
theorem Kp.rd (k : Kp bn H bn' H') {b : Addr} {u : HO} (r : Rd H b u) (h : b ∉ bn) : Rd H' b u ∧ b ∉ bn' := by
  rcases r with e | ⟨o, e⟩
  · exact ⟨.inl (k.keep b _ e h), k.out e h⟩
  · exact ⟨.inr ⟨o, k.keep b _ e h⟩, k.out e h⟩
theorem TupA.mono {a : Addr} {vs : List V} (k : Kp bn H bn' H') (x : TupA K bn H a vs) : TupA K bn' H' a vs := by
  rcases x with ⟨r, h⟩ | x
  · exact .inl (k.rd r h)
  · exact .inr x
theorem LstA.mono {a : Addr} {vs : List V} (k : Kp bn H bn' H') (x : LstA bn H a vs) : LstA bn' H' a vs := ⟨k.keep a _ x.1 x.2, k.out x.1 x.2⟩
theorem ScrA.mono {a : Addr} {vs : List V} (k : Kp bn H bn' H') (x : ScrA K bn H a vs) : ScrA K bn' H' a vs := by
  rcases x with ⟨r, h⟩ | x
  · exact .inl (k.rd r h)
  · exact .inr x
mutual
theorem RepP.mono (k : Kp bn H bn' H') : ∀ {p : PV} {v : V}, RepP K bn H p v → RepP K bn' H' p v
  | .non, v, h => by unfold RepP at h ⊢; exact h
  | .bl b, v, h => by unfold RepP at h ⊢; exact h
  | .int i, v, h => by unfold RepP at h ⊢; exact h
  | .str x, v, h => by unfold RepP at h ⊢; exact h
  | .tup xs, v, h => by
    unfold RepP at h ⊢
    obtain ⟨a, vs, e, ha, hr⟩ := h
    exact ⟨a, vs, e, ha.mono k, RepPs.mono k hr⟩
  | .lst xs, v, h => by
    unfold RepP at h ⊢
    obtain ⟨a, vs, e, ha, hr⟩ := h
    exact ⟨a, vs, e, ha.mono k, RepPs.mono k hr⟩
  | .dict ks ws, v, h => by
    unfold RepP at h ⊢
    obtain ⟨a, kvs, e, ha, hb, hk, hu⟩ := h
    exact ⟨a, kvs, e, k.keep a _ ha hb, k.out ha hb, hk, RepPs.mono k hu⟩
  | .scr xs, v, h => by
    unfold RepP at h ⊢
    obtain ⟨a, e, ha⟩ := h
    exact ⟨a, e, ha.mono k⟩
theorem RepPs.mono (k : Kp bn H bn' H') : ∀ {xs : List PV} {vs : List V}, RepPs K bn H xs vs → RepPs K bn' H' xs vs
  | [], vs, h => by unfold RepPs at h ⊢; exact h
  | x :: xs, vs, h => by
    unfold RepPs at h ⊢
    obtain ⟨v, r, e, h1, h2⟩ := h
    exact ⟨v, r, e, RepP.mono k h1, RepPs.mono k h2⟩
end
theorem RepS.out (R : RepS K mu bn H S) {b : Addr} (h : b ∉ bn) : ∀ k : Nat, mu[k]? ≠ some (some b) := fun k e => h (R.sub k b e)
theorem Tr.kp (t : Tr mu bn H mu' bn' H') (R : RepS K mu bn H S) : Kp bn H bn' H' := ⟨fun b o e h => t.keep b o e (R.out h), t.news⟩
mutual
theorem RepL.kp (t : mu.length ≤ mu'.length ∧ ∀ (k : Nat) (a : Addr), k < mu.length → mu'[k]? = some (some a) → mu[k]? = some (some a)) (k : Kp bn H bn' H') : ∀ {l : LV} {v : V}, RepL K mu bn H l v → RepL K mu' bn' H' l v
  | .pv p, v, h => by unfold RepL at h ⊢; exact RepP.mono k h
  | .ref j, v, h => by unfold RepL at h ⊢; exact ⟨Nat.lt_of_lt_of_le h.1 t.1, fun a e => h.2 a (t.2 j a h.1 e)⟩
  | .ls xs, v, h => by
    unfold RepL at h ⊢
    obtain ⟨a, vs, e, ha, r⟩ := h
    exact ⟨a, vs, e, ha.mono k, RepLs.kp t k r⟩
  | .dT ks ws, v, h => by
    unfold RepL at h ⊢
    obtain ⟨a, kvs, e, ha, hb, hk, hu⟩ := h
    exact ⟨a, kvs, e, k.keep a _ ha hb, k.out ha hb, hk, RepPs.mono k hu⟩
  | .ht xs, v, h => by
    unfold RepL at h ⊢
    obtain ⟨a, key, e, ha, hb, hk, hu⟩ := h
    exact ⟨a, key, e, k.keep a _ ha hb, k.out ha hb, hk, RepPs.mono k hu⟩
theorem RepLs.kp (t : mu.length ≤ mu'.length ∧ ∀ (k : Nat) (a : Addr), k < mu.length → mu'[k]? = some (some a) → mu[k]? = some (some a)) (k : Kp bn H bn' H') : ∀ {ls : List LV} {vs : List V}, RepLs K mu bn H ls vs → RepLs K mu' bn' H' ls vs
  | [], vs, h => by unfold RepLs at h ⊢; exact h
  | l :: ls, vs, h => by
    unfold RepLs at h ⊢
    obtain ⟨v, r, e, h1, h2⟩ := h
    exact ⟨v, r, e, RepL.kp t k h1, RepLs.kp t k h2⟩
end
theorem RepL.mono (t : Tr mu bn H mu' bn' H') (k : Kp bn H bn' H') {l : LV} {v : V} (h : RepL K mu bn H l v) : RepL K mu' bn' H' l v := h.kp ⟨t.le, t.sub⟩ k
theorem RepLs.mono (t : Tr mu bn H mu' bn' H') (k : Kp bn H bn' H') {ls : List LV} {vs : List V} (h : RepLs K mu bn H ls vs) : RepLs K mu' bn' H' ls vs := h.kp ⟨t.le, t.sub⟩ k
theorem repLs_cons {x : LV} {xs : List LV} {v : V} {vs : List V} (h : RepL K mu bn H x v) (r : RepLs K mu bn H xs vs) : RepLs K mu bn H (x :: xs) (v :: vs) := by
  unfold RepLs; exact ⟨v, vs, rfl, h, r⟩
theorem repLs_nil : RepLs K mu bn H [] [] := by unfold RepLs; rfl
theorem RepLs.uncons {x : LV} {xs : List LV} {vs : List V} (h : RepLs K mu bn H (x :: xs) vs) : ∃ v r, vs = v :: r ∧ RepL K mu bn H x v ∧ RepLs K mu bn H xs r := by unfold RepLs at h; exact h
theorem RepLs.unnil {vs : List V} (h : RepLs K mu bn H [] vs) : vs = [] := by unfold RepLs at h; exact h
theorem RepL.toP {p : PV} {v : V} (h : RepL K mu bn H (.pv p) v) : RepP K bn H p v := by unfold RepL at h; exact h
theorem RepL.pv {p : PV} {v : V} (h : RepP K bn H p v) : RepL K mu bn H (.pv p) v := by unfold RepL; exact h
theorem RepL.toRef {k : Nat} {v : V} (h : RepL K mu bn H (.ref k) v) : k < mu.length ∧ ∀ a, mu[k]? = some (some a) → v = .ref a := by unfold RepL at h; exact h
theorem RepL.htP {xs : List PV} {v : V} (h : RepL K mu bn H (.ht xs) v) : RepP K bn H (.tup xs) v := by
  unfold RepL at h
  obtain ⟨a, key, e, ha, hb, hk, hu⟩ := h
  unfold RepP
  exact ⟨a, _, e, .inl ⟨.inl ha, hb⟩, hu⟩
theorem RepLs.length : ∀ {xs : List LV} {vs : List V}, RepLs K mu bn H xs vs → xs.length = vs.length
  | [], vs, h => by rw [h.unnil]; rfl
  | x :: xs, vs, h => by
    obtain ⟨v, r, rfl, _, h⟩ := h.uncons
    rw [List.length_cons, List.length_cons, RepLs.length h]
theorem RepLs.get : ∀ {xs : List LV} {vs : List V} {i : Nat} {x : LV}, RepLs K mu bn H xs vs → xs[i]? = some x → ∃ v, vs[i]? = some v ∧ RepL K mu bn H x v
  | [], _, _, _, _, e => by simp at e
  | y :: ys, vs, i, x, h, e => by
    obtain ⟨v, r, rfl, h1, h2⟩ := h.uncons
    cases i with
    | zero => simp at e; subst e; exact ⟨v, rfl, h1⟩
    | succ i => exact RepLs.get (i := i) h2 (by simpa using e)
theorem repLs_pv : ∀ {xs : List PV} {vs : List V}, RepPs K bn H xs vs → RepLs K mu bn H (xs.map .pv) vs
  | [], vs, h => by unfold RepPs at h; subst h; exact repLs_nil
  | x :: xs, vs, h => by
    unfold RepPs at h
    obtain ⟨v, r, rfl, h1, h2⟩ := h
    exact repLs_cons (.pv h1) (repLs_pv h2)
theorem RepLs.append : ∀ {xs ys : List LV} {vs us : List V}, RepLs K mu bn H xs vs → RepLs K mu bn H ys us → RepLs K mu bn H (xs ++ ys) (vs ++ us)
  | [], _, vs, _, h, r => by rw [h.unnil]; exact r
  | x :: xs, _, vs, _, h, r => by
    obtain ⟨v, q, rfl, h1, h2⟩ := h.uncons
    exact repLs_cons h1 (RepLs.append h2 r)
theorem pvs_rep : ∀ {ls : List LV} {ps : List PV} {vs : List V}, pvs ls = some ps → RepLs K mu bn H ls vs → RepPs K bn H ps vs
  | [], ps, vs, e, h => by
    have : ps = [] := by simpa [pvs] using e.symm
    subst this; rw [h.unnil]; exact repPs_nil
  | .pv p :: ls, ps, vs, e, h => by
    obtain ⟨v, r, rfl, h1, h2⟩ := h.uncons
    unfold pvs at e
    cases q : pvs ls with
    | none => rw [q] at e; cases e
    | some qs =>
      rw [q] at e
      have e' : p :: qs = ps := by simpa using e
      subst e'
      exact repPs_cons h1.toP (pvs_rep q h2)
  | .ref _ :: ls, ps, vs, e, h => by unfold pvs at e; cases e
  | .ls _ :: ls, ps, vs, e, h => by unfold pvs at e; cases e
  | .dT _ _ :: ls, ps, vs, e, h => by unfold pvs at e; cases e
  | .ht p :: ls, ps, vs, e, h => by
    obtain ⟨v, r, rfl, h1, h2⟩ := h.uncons
    unfold pvs at e
    cases q : pvs ls with
    | none => rw [q] at e; cases e
    | some qs =>
      rw [q] at e
      have e' : .tup p :: qs = ps := by simpa using e
      subst e'
      exact repPs_cons h1.htP (pvs_rep q h2)
theorem repS_get (R : RepS K mu bn H S) {k : Nat} {o : SO} (e : S[k]? = some o) (hd : o ≠ .dead) : ∃ a, mu[k]? = some (some a) ∧ RepO K bn H a o := by
  rcases R.obj k o e with h | ⟨h, _⟩
  · exact h
  · exact absurd h hd
/-- the same stores over a grown heap -/
theorem RepO.mono (kp : Kp bn H bn' H') {a : Addr} (hs : H a = H' a) : ∀ {o : SO}, RepO K bn H a o → RepO K bn' H' a o
  | .lst xs, ⟨vs, e, r⟩ => ⟨vs, hs ▸ e, r.mono kp⟩
  | .dict _ _, ⟨kvs, e, hk, r⟩ => ⟨kvs, hs ▸ e, hk, r.mono kp⟩
  | .dicT _ _, ⟨kvs, e, hk, r⟩ => ⟨kvs, hs ▸ e, hk, r.mono kp⟩
  | .ins _ _, h => h
  | .dead, _ => trivial
/-- a new object, none of a store -/
theorem Tr.laid {p : Addr} {o : HO} (hp : H p = none) : Tr mu bn H mu bn (upd H p o) where
  le := Nat.le_refl _
  sub := fun _ _ _ e => e
  fresh := fun k a h e => (no_past h e).elim
  keep := fun b u e _ => by rw [upd_ne (ne_of_none e hp)]; exact e
  there := fun b h => by
    by_cases hb : b = p
    · subst hb; exact hp
    · rw [upd_ne hb] at h; exact h
  news := fun _ h => .inl h
  hold := fun _ h _ _ => h
theorem RepS.laid {p : Addr} {o : HO} (R : RepS K mu bn H S) (hp : H p = none) : RepS K mu bn (upd H p o) S := by
  refine ⟨R.len, R.sub, R.inj, fun b hb z => R.tk b hb ((Tr.laid (mu := mu) (bn := bn) (o := o) hp).there b z), fun k so e => ?_⟩
  rcases R.obj k so e with ⟨a, e1, h⟩ | h
  · refine .inl ⟨a, e1, ?_⟩
    have t := Tr.laid (mu := mu) (bn := bn) (o := o) hp
    cases so with
    | dead => trivial
    | lst xs => obtain ⟨vs, q, _⟩ := id h; exact h.mono (t.kp R) (by rw [upd_ne (ne_of_none q hp)])
    | dict _ _ => obtain ⟨vs, q, _⟩ := id h; exact h.mono (t.kp R) (by rw [upd_ne (ne_of_none q hp)])
    | dicT _ _ => obtain ⟨vs, q, _⟩ := id h; exact h.mono (t.kp R) (by rw [upd_ne (ne_of_none q hp)])
    | ins _ _ => exact h.elim
  · exact .inr h
/-- a new object into a store -/
theorem Tr.store {p : Addr} {o : HO} (hp : H p = none) : Tr mu bn H (mu ++ [some p]) (p :: bn) (upd H p o) where
  le := by rw [List.length_append]; omega
  sub := fun k a h e => by rw [List.getElem?_append_left h] at e; exact e
  fresh := fun k a h e => by
    rw [List.getElem?_append_right h] at e
    cases q : k - mu.length with
    | zero => rw [q] at e; simp at e; subst e; exact hp
    | succ n => rw [q] at e; simp at e
  keep := fun b u e _ => by rw [upd_ne (ne_of_none e hp)]; exact e
  there := (Tr.laid (mu := mu) (bn := bn) (o := o) hp).there
  news := fun b h => by
    rcases List.mem_cons.mp h with rfl | h
    · exact .inr hp
    · exact .inl h
  hold := fun b h _ _ => List.mem_cons_of_mem _ h
theorem RepS.store {p : Addr} {o : HO} {so : SO} (R : RepS K mu bn H S) (hp : H p = none) (new : RepO K (p :: bn) (upd H p o) p so) :
    RepS K (mu ++ [some p]) (p :: bn) (upd H p o) (S ++ [so]) := by
  have t := Tr.store (mu := mu) (bn := bn) (o := o) hp
  have hn : ∀ k : Nat, mu[k]? ≠ some (some p) := fun k e => R.tk p (R.sub k p e) hp
  refine ⟨by rw [List.length_append, List.length_append, R.len]; rfl, fun k a e => ?_, fun j k a e1 e2 => ?_, fun b hb z => ?_, fun k x e => ?_⟩
  rotate_left 2
  · rcases List.mem_cons.mp hb with e | hb
    · subst e; rw [upd_same] at z; cases z
    · exact R.tk b hb (t.there b z)
  rotate_left 1
  · by_cases hk : k < mu.length
    · exact List.mem_cons_of_mem _ (R.sub k a (t.sub k a hk e))
    · rw [List.getElem?_append_right (by omega)] at e
      cases q : k - mu.length with
      | zero => rw [q] at e; simp at e; subst e; exact List.mem_cons_self
      | succ n => rw [q] at e; simp at e
  · have key : ∀ i : Nat, (mu ++ [some p])[i]? = some (some a) → (i < mu.length ∧ mu[i]? = some (some a)) ∨ (i = mu.length ∧ a = p) := fun i e => by
      by_cases hi : i < mu.length
      · exact .inl ⟨hi, t.sub i a hi e⟩
      · rw [List.getElem?_append_right (by omega)] at e
        cases q : i - mu.length with
        | zero => rw [q] at e; simp at e; exact .inr ⟨by omega, e.symm⟩
        | succ n => rw [q] at e; simp at e
    rcases key j e1 with ⟨h1, g1⟩ | ⟨h1, g1⟩
    · rcases key k e2 with ⟨h2, g2⟩ | ⟨h2, g2⟩
      · exact R.inj j k a g1 g2
      · subst g2; exact absurd g1 (hn j)
    · rcases key k e2 with ⟨h2, g2⟩ | ⟨h2, g2⟩
      · subst g1; exact absurd g2 (hn k)
      · omega
  · by_cases hk : k < S.length
    · rw [List.getElem?_append_left hk] at e
      rcases R.obj k x e with ⟨a, e1, h⟩ | ⟨h, e1⟩
      · refine .inl ⟨a, by rw [List.getElem?_append_left (by rw [R.len]; exact hk)]; exact e1, ?_⟩
        cases x with
        | dead => trivial
        | lst xs => obtain ⟨vs, q, _⟩ := id h; exact h.mono (t.kp R) (by rw [upd_ne (ne_of_none q hp)])
        | dict _ _ => obtain ⟨vs, q, _⟩ := id h; exact h.mono (t.kp R) (by rw [upd_ne (ne_of_none q hp)])
        | dicT _ _ => obtain ⟨vs, q, _⟩ := id h; exact h.mono (t.kp R) (by rw [upd_ne (ne_of_none q hp)])
        | ins _ _ => exact h.elim
      · exact .inr ⟨h, by rw [List.getElem?_append_left (by rw [R.len]; exact hk)]; exact e1⟩
    · rw [List.getElem?_append_right (by omega)] at e
      cases q : k - S.length with
      | succ n => rw [q] at e; simp at e
      | zero =>
        rw [q] at e; simp at e; subst e
        have : k = S.length := by omega
        subst this
        refine .inl ⟨p, ?_, new⟩
        rw [List.getElem?_append_right (by rw [R.len]; exact Nat.le_refl _), R.len, Nat.sub_self]; rfl
theorem repO_new {p : Addr} {o : HO} {so : SO} (R : RepS K mu bn H S) (hp : H p = none) (new : RepO K (p :: bn) (upd H p o) p so) : RepS K (mu ++ [some p]) (p :: bn) (upd H p o) (S ++ [so]) := R.store hp new
/-- a store's object is written -/
theorem RepS.writeO {k : Nat} {a : Addr} {so so' : SO} {o : HO} (R : RepS K mu bn H S) (hm : mu[k]? = some (some a)) (hk : S[k]? = some so) (hd : H a ≠ none) (new : Kp bn H bn (upd H a o) → RepO K bn (upd H a o) a so') :
    Tr mu bn H mu bn (upd H a o) ∧ RepS K mu bn (upd H a o) (S.set k so') := by
  have t : Tr mu bn H mu bn (upd H a o) := {
    le := Nat.le_refl _
    sub := fun _ _ _ e => e
    fresh := fun k a h e => (no_past h e).elim
    keep := fun b u e h => by
      rw [upd_ne (fun z => by subst z; exact h k hm)]; exact e
    there := fun b h => by
      by_cases hb : b = a
      · subst hb; rw [upd_same] at h; cases h
      · rw [upd_ne hb] at h; exact h
    news := fun _ h => .inl h
    hold := fun _ h _ _ => h }
  refine ⟨t, by rw [List.length_set]; exact R.len, R.sub, R.inj, fun b hb z => R.tk b hb (t.there b z), fun j o e => ?_⟩
  by_cases hj : j = k
  · subst hj
    have hlt : j < S.length := (List.getElem?_eq_some_iff.mp hk).1
    rw [List.getElem?_set_self hlt] at e
    cases e
    exact .inl ⟨a, hm, new (t.kp R)⟩
  · rw [List.getElem?_set_ne (Ne.symm hj)] at e
    rcases R.obj j o e with ⟨a', e1, h⟩ | h
    · have na : a' ≠ a := fun z => by subst z; exact hj (R.inj _ _ _ e1 hm)
      exact .inl ⟨a', e1, h.mono (t.kp R) (by rw [upd_ne na])⟩
    · exact .inr h
/-- a store's list is written -/
theorem RepS.write {k : Nat} {a : Addr} {xs ys : List PV} {vs : List V} (R : RepS K mu bn H S) (hm : mu[k]? = some (some a)) (hk : S[k]? = some (.lst xs)) (r : RepPs K bn H ys vs) :
    Tr mu bn H mu bn (upd H a (.lst vs)) ∧ RepS K mu bn (upd H a (.lst vs)) (S.set k (.lst ys)) := by
  have ha : H a ≠ none := by
    obtain ⟨a', e, us, q, _⟩ := repS_get R hk (by simp)
    rw [hm] at e; cases e
    rw [q]; simp
  have t : Tr mu bn H mu bn (upd H a (.lst vs)) := {
    le := Nat.le_refl _
    sub := fun _ _ _ e => e
    fresh := fun k a h e => (no_past h e).elim
    keep := fun b u e h => by
      rw [upd_ne (fun z => by subst z; exact h k hm)]; exact e
    there := fun b h => by
      by_cases hb : b = a
      · subst hb; rw [upd_same] at h; cases h
      · rw [upd_ne hb] at h; exact h
    news := fun _ h => .inl h
    hold := fun _ h _ _ => h }
  refine ⟨t, by rw [List.length_set]; exact R.len, R.sub, R.inj, fun b hb z => R.tk b hb (t.there b z), fun j o e => ?_⟩
  by_cases hj : j = k
  · subst hj
    have hlt : j < S.length := (List.getElem?_eq_some_iff.mp hk).1
    rw [List.getElem?_set_self hlt] at e
    cases e
    exact .inl ⟨a, hm, vs, upd_same, r.mono (t.kp R)⟩
  · rw [List.getElem?_set_ne (Ne.symm hj)] at e
    rcases R.obj j o e with ⟨a', e1, h⟩ | h
    · have na : a' ≠ a := fun z => by subst z; exact hj (R.inj _ _ _ e1 hm)
      exact .inl ⟨a', e1, h.mono (t.kp R) (by rw [upd_ne na])⟩
    · exact .inr h
/-! ### dicts -/
theorem toKey_inj {x y : PV} {k : Key} (h1 : toKey x = some k) (h2 : toKey y = some k) : x = y := by
  cases x <;> cases h1 <;> cases y <;> cases h2 <;> rfl
theorem toKey_eq {x y : PV} {j k : Key} (h1 : toKey x = some j) (h2 : toKey y = some k) : PV.eqb x y = decide (j = k) := by
  cases x <;> cases h1 <;> cases y <;> cases h2 <;> simp [PV.eqb]
  · rw [Bool.eq_iff_iff]; simp
  · rw [Bool.eq_iff_iff]; simp
theorem KeysR.nil : KeysR [] [] := rfl
theorem KeysR.length {ks : List PV} {kvs : List (Key × V)} (h : KeysR ks kvs) : ks.length = kvs.length := by
  have := congrArg List.length h; simpa using this
theorem KeysR.uncons {x : PV} {ks : List PV} {p : Key × V} {kvs : List (Key × V)} (h : KeysR (x :: ks) (p :: kvs)) : toKey x = some p.1 ∧ KeysR ks kvs := by
  unfold KeysR at h
  rw [List.map_cons, List.map_cons] at h
  injection h with h1 h2
  exact ⟨h1, h2⟩
theorem find_rel {k : PV} {key : Key} (hk : toKey k = some key) : ∀ {ks ws : List PV} {kvs : List (Key × V)}, KeysR ks kvs → RepPs K bn H ws (kvs.map (·.2)) →
    (∀ w, find ks ws k = some w → ∃ v, valV kvs key = some v ∧ RepP K bn H w v) ∧ (find ks ws k = none → valV kvs key = none)
  | [], ws, [], _, _ => ⟨fun w h => by simp [find] at h, fun _ => rfl⟩
  | [], _, _ :: _, h, _ => by have := h.length; simp at this
  | _ :: _, _, [], h, _ => by have := h.length; simp at this
  | x :: ks, ws, p :: kvs, h, r => by
    obtain ⟨h1, h2⟩ := h.uncons
    cases ws with
    | nil => have := r.length; simp at this
    | cons w ws =>
      unfold RepPs at r
      obtain ⟨v, vr, e, r1, r2⟩ := r
      rw [List.map_cons] at e
      injection e with e1 e2
      subst e1 e2
      have ek := toKey_eq h1 hk
      by_cases q : p.1 = key
      · have e3 : PV.eqb x k = true := by rw [ek]; simpa using q
        refine ⟨fun z hz => ?_, fun hz => ?_⟩
        · simp only [find, e3, if_true] at hz
          cases hz
          exact ⟨_, valV_pos q, r1⟩
        · simp [find, e3] at hz
      · have e3 : PV.eqb x k = false := by rw [ek]; simpa using q
        have ih := find_rel hk h2 r2
        refine ⟨fun z hz => ?_, fun hz => ?_⟩
        · simp only [find, e3] at hz
          obtain ⟨v, a, b⟩ := ih.1 z (by simpa using hz)
          exact ⟨v, by rw [valV_neg q]; exact a, b⟩
        · simp only [find, e3] at hz
          rw [valV_neg q]; exact ih.2 (by simpa using hz)
theorem any_rel {k : PV} {key : Key} (hk : toKey k = some key) : ∀ {ks : List PV} {kvs : List (Key × V)}, KeysR ks kvs → (ks.any fun x => PV.eqb x k) = kvs.any fun kv => decide (kv.1 = key)
  | [], [], _ => rfl
  | [], _ :: _, h => by have := h.length; simp at this
  | _ :: _, [], h => by have := h.length; simp at this
  | x :: ks, p :: kvs, h => by
    obtain ⟨h1, h2⟩ := h.uncons
    rw [List.any_cons, List.any_cons, toKey_eq h1 hk, any_rel hk h2]
theorem rpl_rel {k w : PV} {key : Key} {v : V} (hk : toKey k = some key) (rw' : RepP K bn H w v) : ∀ {ks ws : List PV} {kvs : List (Key × V)}, KeysR ks kvs → RepPs K bn H ws (kvs.map (·.2)) →
    RepPs K bn H (rpl ks ws k w) ((kvs.map fun kv => if kv.1 = key then (kv.1, v) else kv).map (·.2))
  | [], ws, [], _, r => by
    cases ws with
    | nil => exact repPs_nil
    | cons _ _ => have := r.length; simp at this
  | [], _, _ :: _, h, _ => by have := h.length; simp at this
  | _ :: _, _, [], h, _ => by have := h.length; simp at this
  | x :: ks, ws, p :: kvs, h, r => by
    obtain ⟨h1, h2⟩ := h.uncons
    cases ws with
    | nil => have := r.length; simp at this
    | cons y ws =>
      unfold RepPs at r
      obtain ⟨v', vr, e, r1, r2⟩ := r
      rw [List.map_cons] at e
      injection e with e1 e2
      subst e1 e2
      have ek := toKey_eq h1 hk
      have ih := rpl_rel hk rw' h2 r2
      rw [List.map_cons, List.map_cons]; show RepPs K bn H ((if PV.eqb x k then w else y) :: rpl ks ws k w) _
      refine repPs_cons ?_ ih
      by_cases q : p.1 = key
      · rw [if_pos (by rw [ek]; simpa using q), if_pos q]; exact rw'
      · rw [if_neg (by rw [ek]; simpa using q), if_neg q]; exact r1
theorem put_rel {k w : PV} {key : Key} {v : V} {ks ws : List PV} {kvs : List (Key × V)} (hk : toKey k = some key) (rw' : RepP K bn H w v) (h : KeysR ks kvs) (r : RepPs K bn H ws (kvs.map (·.2))) :
    KeysR (put ks ws k w).1 (putK kvs key v) ∧ RepPs K bn H (put ks ws k w).2 ((putK kvs key v).map (·.2)) := by
  unfold put putK
  rw [any_rel hk h]
  by_cases q : (kvs.any fun kv => decide (kv.1 = key)) = true
  · rw [if_pos q, if_pos q]
    refine ⟨?_, rpl_rel hk rw' h r⟩
    unfold KeysR at h ⊢
    rw [h, List.map_map]
    apply List.map_congr_left
    intro p _
    show some p.1 = some (if p.1 = key then (p.1, v) else p).1
    split <;> rfl
  · rw [if_neg q, if_neg q]
    refine ⟨?_, ?_⟩
    · unfold KeysR at h ⊢
      rw [List.map_append, List.map_append, h]
      simp [hk]
    · rw [List.map_append]
      exact r.append (repPs_cons rw' repPs_nil)
/-! ### .. for keys of any kind -/
section
variable {κ : Type} [DecidableEq κ] {tk : PV → Option κ}
def EqOf (tk : PV → Option κ) : Prop := ∀ (x y : PV) (j k : κ), tk x = some j → tk y = some k → PV.eqb x y = decide (j = k)
theorem KeysG.length {ks : List PV} {kvs : List (κ × V)} (h : KeysG tk ks kvs) : ks.length = kvs.length := by
  have := congrArg List.length h; simpa using this
theorem KeysG.uncons {x : PV} {ks : List PV} {p : κ × V} {kvs : List (κ × V)} (h : KeysG tk (x :: ks) (p :: kvs)) : tk x = some p.1 ∧ KeysG tk ks kvs := by
  unfold KeysG at h
  rw [List.map_cons, List.map_cons] at h
  injection h with h1 h2
  exact ⟨h1, h2⟩
theorem find_relG (he : EqOf tk) {k : PV} {key : κ} (hk : tk k = some key) : ∀ {ks ws : List PV} {kvs : List (κ × V)}, KeysG tk ks kvs → RepPs K bn H ws (kvs.map (·.2)) →
    (∀ w, find ks ws k = some w → ∃ v, valV kvs key = some v ∧ RepP K bn H w v) ∧ (find ks ws k = none → valV kvs key = none)
  | [], ws, [], _, _ => ⟨fun w h => by simp [find] at h, fun _ => rfl⟩
  | [], _, _ :: _, h, _ => by have := h.length; simp at this
  | _ :: _, _, [], h, _ => by have := h.length; simp at this
  | x :: ks, ws, p :: kvs, h, r => by
    obtain ⟨h1, h2⟩ := h.uncons
    cases ws with
    | nil => have := r.length; simp at this
    | cons w ws =>
      unfold RepPs at r
      obtain ⟨v, vr, e, r1, r2⟩ := r
      rw [List.map_cons] at e
      injection e with e1 e2
      subst e1 e2
      have ek := he _ _ _ _ h1 hk
      by_cases q : p.1 = key
      · have e3 : PV.eqb x k = true := by rw [ek]; simpa using q
        refine ⟨fun z hz => ?_, fun hz => ?_⟩
        · simp only [find, e3, if_true] at hz
          cases hz
          exact ⟨_, valV_pos q, r1⟩
        · simp [find, e3] at hz
      · have e3 : PV.eqb x k = false := by rw [ek]; simpa using q
        have ih := find_relG he hk h2 r2
        refine ⟨fun z hz => ?_, fun hz => ?_⟩
        · simp only [find, e3] at hz
          obtain ⟨v, a, b⟩ := ih.1 z (by simpa using hz)
          exact ⟨v, by rw [valV_neg q]; exact a, b⟩
        · simp only [find, e3] at hz
          rw [valV_neg q]; exact ih.2 (by simpa using hz)
theorem any_relG (he : EqOf tk) {k : PV} {key : κ} (hk : tk k = some key) : ∀ {ks : List PV} {kvs : List (κ × V)}, KeysG tk ks kvs → (ks.any fun x => PV.eqb x k) = kvs.any fun kv => decide (kv.1 = key)
  | [], [], _ => rfl
  | [], _ :: _, h => by have := h.length; simp at this
  | _ :: _, [], h => by have := h.length; simp at this
  | x :: ks, p :: kvs, h => by
    obtain ⟨h1, h2⟩ := h.uncons
    rw [List.any_cons, List.any_cons, he _ _ _ _ h1 hk, any_relG he hk h2]
theorem rpl_relG (he : EqOf tk) {k w : PV} {key : κ} {v : V} (hk : tk k = some key) (rw' : RepP K bn H w v) : ∀ {ks ws : List PV} {kvs : List (κ × V)}, KeysG tk ks kvs → RepPs K bn H ws (kvs.map (·.2)) →
    RepPs K bn H (rpl ks ws k w) ((kvs.map fun kv => if kv.1 = key then (kv.1, v) else kv).map (·.2))
  | [], ws, [], _, r => by
    cases ws with
    | nil => exact repPs_nil
    | cons _ _ => have := r.length; simp at this
  | [], _, _ :: _, h, _ => by have := h.length; simp at this
  | _ :: _, _, [], h, _ => by have := h.length; simp at this
  | x :: ks, ws, p :: kvs, h, r => by
    obtain ⟨h1, h2⟩ := h.uncons
    cases ws with
    | nil => have := r.length; simp at this
    | cons y ws =>
      unfold RepPs at r
      obtain ⟨v', vr, e, r1, r2⟩ := r
      rw [List.map_cons] at e
      injection e with e1 e2
      subst e1 e2
      have ek := he _ _ _ _ h1 hk
      have ih := rpl_relG he hk rw' h2 r2
      rw [List.map_cons, List.map_cons]; show RepPs K bn H ((if PV.eqb x k then w else y) :: rpl ks ws k w) _
      refine repPs_cons ?_ ih
      by_cases q : p.1 = key
      · rw [if_pos (by rw [ek]; simpa using q), if_pos q]; exact rw'
      · rw [if_neg (by rw [ek]; simpa using q), if_neg q]; exact r1
theorem put_relG (he : EqOf tk) {k w : PV} {key : κ} {v : V} {ks ws : List PV} {kvs : List (κ × V)} (hk : tk k = some key) (rw' : RepP K bn H w v) (h : KeysG tk ks kvs) (r : RepPs K bn H ws (kvs.map (·.2))) :
    KeysG tk (put ks ws k w).1 (putK kvs key v) ∧ RepPs K bn H (put ks ws k w).2 ((putK kvs key v).map (·.2)) := by
  unfold put putK
  rw [any_relG he hk h]
  by_cases q : (kvs.any fun kv => decide (kv.1 = key)) = true
  · rw [if_pos q, if_pos q]
    refine ⟨?_, rpl_relG he hk rw' h r⟩
    unfold KeysG at h ⊢
    rw [h, List.map_map]
    apply List.map_congr_left
    intro p _
    show some p.1 = some (if p.1 = key then (p.1, v) else p).1
    split <;> rfl
  · rw [if_neg q, if_neg q]
    refine ⟨?_, ?_⟩
    · unfold KeysG at h ⊢
      rw [List.map_append, List.map_append, h]
      simp [hk]
    · rw [List.map_append]
      exact r.append (repPs_cons rw' repPs_nil)
end
theorem toKeys_eq : ∀ {xs ys : List PV} {j k : List Key}, toKeys xs = some j → toKeys ys = some k → PV.eqbs xs ys = decide (j = k)
  | [], [], j, k, h1, h2 => by cases h1; cases h2; rfl
  | [], y :: ys, j, k, h1, h2 => by
    cases h1
    unfold toKeys at h2
    split at h2
    · cases h2; simp [PV.eqbs]
    · cases h2
  | x :: xs, [], j, k, h1, h2 => by
    cases h2
    unfold toKeys at h1
    split at h1
    · cases h1; simp [PV.eqbs]
    · cases h1
  | x :: xs, y :: ys, j, k, h1, h2 => by
    unfold toKeys at h1 h2
    split at h1
    · split at h2
      · rename_i a1 a2 e1 e2 _ _ b1 b2 f1 f2
        cases h1; cases h2
        unfold PV.eqbs
        rw [toKey_eq e1 f1, toKeys_eq e2 f2, Bool.eq_iff_iff]
        simp
      · cases h2
    · cases h1
theorem toKeyT_eq : EqOf toKeyT := fun x y j k h1 h2 => by
  cases x <;> first | (cases h1; done) | skip
  cases y <;> first | (cases h2; done) | skip
  unfold PV.eqb
  exact toKeys_eq h1 h2
theorem putK_len (kvs : List (Key × V)) (k : Key) (v : V) : kvs.length ≤ (putK kvs k v).length := by
  unfold putK; split <;> simp
end
end Gp

namespace Gp
open PySem PySem.Spec PyProof.Rows L2

def Res.to {α : Type} (r : Res α) (ok : α → Store → Prop) (ex : PX → Store → Prop) : Prop :=
  match r with
  | .ok a S => ok a S
  | .exc e S => ex e S
  | .bad => False
theorem Res.to_bind {α β : Type} {r : Res α} {f : α → Store → Res β} {ok : β → Store → Prop} {ex : PX → Store → Prop} (h : (r.bind f).to ok ex) : r.to (fun a S => (f a S).to ok ex) ex := by
  cases r with
  | ok a S => exact h
  | exc e S => exact h
  | bad => exact h
theorem Res.to_mono {α : Type} {r : Res α} {ok ok' : α → Store → Prop} {ex ex' : PX → Store → Prop} (h : r.to ok ex) (h1 : ∀ a S, ok a S → ok' a S) (h2 : ∀ e S, ex e S → ex' e S) : r.to ok' ex' := by
  cases r with
  | ok a S => exact h1 a S h
  | exc e S => exact h2 e S h
  | bad => exact h
structure RepE (K : PySem.W.Frag) (mu : Mu) (bn : List Addr) (H : Hp) (ρ : Env) (σ : Sg) : Prop where
  len : ρ.length = σ.length
  get : ∀ (i : Nat) (l : LV), ρ[i]? = some (some l) → ∃ v, σ[i]? = some (some v) ∧ RepL K mu bn H l v
/-- how an exception of ours stands -/
abbrev RXT := PX → Value → Option Addr → List Addr → Hp → Prop
/-- what a law's world tells the walk -/
structure Wd where
  K : PySem.W.Frag
  RX : RXT
  mono : ∀ (e : PX) (cls : Value) (d : Option Addr) (bn : List Addr) (H : Hp) (bn' : List Addr) (H' : Hp), Kp bn H bn' H' → RX e cls d bn H → RX e cls d bn' H'
abbrev Rl (α β : Type) := Mu → List Addr → Hp → α → β → Prop
def OkG {α β : Type} (G : Wd) (Rel : Rl α β) (mu : Mu) (bn : List Addr) (H : Hp) (Q : β → Hp → Prop) (a : α) (S' : Store) : Prop :=
  ∀ mu' bn' H' b, Tr mu bn H mu' bn' H' → RepS G.K mu' bn' H' S' → Rel mu' bn' H' a b → Q b H'
def ExG (G : Wd) (W : WX) (σ : Sg) (mu : Mu) (bn : List Addr) (H : Hp) (e : PX) (S' : Store) : Prop :=
  ∀ mu' bn' H' cls d, Tr mu bn H mu' bn' H' → RepS G.K mu' bn' H' S' → G.RX e cls d bn' H' → W cls d σ H'
def gev {α β : Type} (G : Wd) (W : WX) (Rel : Rl α β) (f : Env → Store → Res α) (σ : Sg) (H : Hp) (Q : β → Hp → Prop) : Prop :=
  ∃ mu bn ρ S, RepE G.K mu bn H ρ σ ∧ RepS G.K mu bn H S ∧ (f ρ S).to (OkG G Rel mu bn H Q) (ExG G W σ mu bn H)
abbrev rlE (G : Wd) : Rl LV V := RepL G.K
abbrev rlEs (G : Wd) : Rl (List LV) (List V) := RepLs G.K
abbrev rlB : Rl Bool Bool := fun _ _ _ a b => a = b
abbrev tev (G : Wd) (W : WX) (f : Env → Store → Res LV) : TE := fun σ H Q => gev G W (rlE G) f σ H Q
abbrev tas (G : Wd) (W : WX) (f : Env → Store → Res (List LV)) : TA := fun σ H Q => gev G W (rlEs G) f σ H Q
abbrev tet (G : Wd) (W : WX) (f : Env → Store → Res Bool) : TT := fun σ H Q => gev G W rlB f σ H Q
section
variable {G : Wd} {W : WX} {mu mu' : Mu} {bn bn' : List Addr} {H H' : Hp} {S S' : Store} {ρ : Env} {σ : Sg}
theorem RepE.mono (t : Tr mu bn H mu' bn' H') (k : Kp bn H bn' H') (h : RepE G.K mu bn H ρ σ) : RepE G.K mu' bn' H' ρ σ :=
  ⟨h.len, fun i l e => let ⟨v, e1, r⟩ := h.get i l e; ⟨v, e1, r.mono t k⟩⟩
theorem OkG.mono {α β : Type} {Rel : Rl α β} {Q : β → Hp → Prop} (t : Tr mu bn H mu' bn' H') {a : α} (h : OkG G Rel mu bn H Q a S') : OkG G Rel mu' bn' H' Q a S' :=
  fun m b h' x t' R r => h m b h' x (t.trans t') R r
theorem ExG.mono (t : Tr mu bn H mu' bn' H') {e : PX} (h : ExG G W σ mu bn H e S') : ExG G W σ mu' bn' H' e S' :=
  fun m b h' c d t' R r => h m b h' c d (t.trans t') R r
theorem OkG.imp {α β : Type} {Rel : Rl α β} {Q Q' : β → Hp → Prop} {a : α} (h : OkG G Rel mu bn H Q a S') (hq : ∀ b H, Q b H → Q' b H) : OkG G Rel mu bn H Q' a S' :=
  fun m b h' x t' R r => hq _ _ (h m b h' x t' R r)
/-- a result is wanted from a state on -/
def To {α β : Type} (G : Wd) (W : WX) (Rel : Rl α β) (σ : Sg) (mu : Mu) (bn : List Addr) (H : Hp) (Q : β → Hp → Prop) (r : Res α) : Prop := r.to (OkG G Rel mu bn H Q) (ExG G W σ mu bn H)
theorem To.mono {α β : Type} {Rel : Rl α β} {Q : β → Hp → Prop} (t : Tr mu bn H mu' bn' H') {r : Res α} (h : To G W Rel σ mu bn H Q r) : To G W Rel σ mu' bn' H' Q r :=
  Res.to_mono h (fun _ _ q => q.mono t) fun _ _ q => q.mono t
theorem To.imp {α β : Type} {Rel : Rl α β} {Q Q' : β → Hp → Prop} {r : Res α} (h : To G W Rel σ mu bn H Q r) (hq : ∀ b H, Q b H → Q' b H) : To G W Rel σ mu bn H Q' r :=
  Res.to_mono h (fun _ _ q => q.imp hq) fun _ _ q => q
theorem gev.intro {α β : Type} {Rel : Rl α β} {f : Env → Store → Res α} {Q : β → Hp → Prop} (E : RepE G.K mu bn H ρ σ) (R : RepS G.K mu bn H S) (h : To G W Rel σ mu bn H Q (f ρ S)) : gev G W Rel f σ H Q := ⟨mu, bn, ρ, S, E, R, h⟩
theorem gev.imp {α β : Type} {Rel : Rl α β} {f : Env → Store → Res α} {Q Q' : β → Hp → Prop} (h : gev G W Rel f σ H Q) (hq : ∀ b H, Q b H → Q' b H) : gev G W Rel f σ H Q' := by
  obtain ⟨mu, bn, ρ, S, E, R, h⟩ := h
  exact ⟨mu, bn, ρ, S, E, R, To.imp (r := f ρ S) h hq⟩
/-- a state with values held -/
structure At (G : Wd) (mu : Mu) (bn : List Addr) (H : Hp) (ρ : Env) (σ : Sg) (S : Store) (ls : List LV) (vs : List V) : Prop where
  E : RepE G.K mu bn H ρ σ
  R : RepS G.K mu bn H S
  L : RepLs G.K mu bn H ls vs
theorem At.mono {ls : List LV} {vs : List V} (x : At G mu bn H ρ σ S ls vs) (t : Tr mu bn H mu' bn' H') (R : RepS G.K mu' bn' H' S') : At G mu' bn' H' ρ σ S' ls vs :=
  ⟨x.E.mono t (t.kp x.R), R, x.L.mono t (t.kp x.R)⟩
/-- THE STEP: a first part, its value, then the rest -/
theorem At.step {α β γ δ : Type} {Rel : Rl α β} {Rel2 : Rl γ δ} {ls : List LV} {vs : List V} {f : Env → Store → Res α} {g : α → Store → Res γ} {Q : δ → Hp → Prop} (x : At G mu bn H ρ σ S ls vs)
    (h : To G W Rel2 σ mu bn H Q ((f ρ S).bind g)) {Q1 : β → Hp → Prop}
    (hq : ∀ mu1 bn1 H1 S1 a b, At G mu1 bn1 H1 ρ σ S1 ls vs → Tr mu bn H mu1 bn1 H1 → Rel mu1 bn1 H1 a b → To G W Rel2 σ mu1 bn1 H1 Q (g a S1) → Q1 b H1) : gev G W Rel f σ H Q1 := by
  refine ⟨mu, bn, ρ, S, x.E, x.R, ?_⟩
  refine Res.to_mono (Res.to_bind h) (fun a S1 h1 => ?_) fun _ _ z => z
  exact fun m b h' y t R r => hq m b h' S1 a y (x.mono t R) t r (To.mono t (r := g a S1) h1)
theorem At.stepE {α β γ δ : Type} {Rel : Rl α β} {Rel2 : Rl γ δ} {ls : List LV} {vs : List V} {f : Env → Store → Res α} {g : α → Store → Res γ} {Q : δ → Hp → Prop} (x : At G mu bn H ρ σ S ls vs)
    (h : To G W Rel2 σ mu bn H Q ((f ρ S).bind g)) {Q1 : β → Hp → Prop}
    (hq : ∀ mu1 bn1 H1 S1 a b, f ρ S = .ok a S1 → At G mu1 bn1 H1 ρ σ S1 ls vs → Tr mu bn H mu1 bn1 H1 → Rel mu1 bn1 H1 a b → To G W Rel2 σ mu1 bn1 H1 Q (g a S1) → Q1 b H1) : gev G W Rel f σ H Q1 := by
  refine ⟨mu, bn, ρ, S, x.E, x.R, ?_⟩
  cases e : f ρ S with
  | ok a S1 =>
    rw [e] at h
    exact fun m b h' y t R r => hq m b h' S1 a y e (x.mono t R) t r (To.mono t (r := g a S1) h)
  | exc z S1 => rw [e] at h; exact h
  | bad => rw [e] at h; exact h
/-- the last part -/
theorem At.last {α β : Type} {Rel : Rl α β} {ls : List LV} {vs : List V} {f : Env → Store → Res α} {Q : β → Hp → Prop} (x : At G mu bn H ρ σ S ls vs) (h : To G W Rel σ mu bn H Q (f ρ S)) : gev G W Rel f σ H Q := ⟨mu, bn, ρ, S, x.E, x.R, h⟩
theorem At.hold {ls : List LV} {vs : List V} {l : LV} {v : V} (x : At G mu bn H ρ σ S ls vs) (r : RepL G.K mu bn H l v) : At G mu bn H ρ σ S (l :: ls) (v :: vs) := ⟨x.E, x.R, repLs_cons r x.L⟩
theorem At.hd {ls : List LV} {vs : List V} {l : LV} {v : V} (x : At G mu bn H ρ σ S (l :: ls) (v :: vs)) : RepL G.K mu bn H l v ∧ At G mu bn H ρ σ S ls vs := by
  obtain ⟨u, r, e, h1, h2⟩ := x.L.uncons
  cases e
  exact ⟨h1, x.E, x.R, h2⟩
theorem at_nil (E : RepE G.K mu bn H ρ σ) (R : RepS G.K mu bn H S) : At G mu bn H ρ σ S [] [] := ⟨E, R, repLs_nil⟩
theorem gev.out {α β : Type} {Rel : Rl α β} {f : Env → Store → Res α} {Q : β → Hp → Prop} (h : gev G W Rel f σ H Q) : ∃ mu bn ρ S, At G mu bn H ρ σ S [] [] ∧ To G W Rel σ mu bn H Q (f ρ S) := by
  obtain ⟨mu, bn, ρ, S, E, R, h⟩ := h
  exact ⟨mu, bn, ρ, S, at_nil E R, h⟩
/-- the end -/
theorem To.ret {α β : Type} {Rel : Rl α β} {Q : β → Hp → Prop} {a : α} {b : β} (h : To G W Rel σ mu bn H Q (.ok a S)) (R : RepS G.K mu bn H S) (r : Rel mu bn H a b) : Q b H :=
  (show OkG G Rel mu bn H Q a S from h) mu bn H b (Tr.refl _ _ _) R r
/-- .. with a new object -/
theorem To.new {α : Type} {Rel : Rl α V} {Q : VK} {a : α} {p : Addr} {o : HO} (h : To G W Rel σ mu bn H Q (.ok a S)) (R : RepS G.K mu bn H S) (hp : H p = none) (r : p ∉ bn → Kp bn H bn (upd H p o) → Rel mu bn (upd H p o) a (.ref p)) : Q (.ref p) (upd H p o) :=
  (show OkG G Rel mu bn H Q a S from h) mu bn _ _ (Tr.laid hp) (R.laid hp) (r (fun hb => R.tk p hb hp) ((Tr.laid hp).kp R))
end
theorem PE.mono {X : Cx} {e : Expr} {t t' : TE} (h : PE X e t) (hi : ∀ σ H Q, t' σ H Q → t σ H Q) : PE X e t' := ⟨fun pins s σ H Q I q => h.run pins s σ H Q I (hi σ H Q q)⟩
theorem PT.mono {X : Cx} {e : Expr} {t t' : TT} (h : PT X e t) (hi : ∀ σ H Q, t' σ H Q → t σ H Q) : PT X e t' := ⟨fun pins s σ H Q I q => h.run pins s σ H Q I (hi σ H Q q)⟩
theorem PA.mono {X : Cx} {e : List Expr} {t t' : TA} (h : PA X e t) (hi : ∀ σ H Q, t' σ H Q → t σ H Q) : PA X e t' := ⟨fun pos pins s σ H Q I q => h.run pos pins s σ H Q I (hi σ H Q q)⟩
theorem PS.mono {X : Cx} {e : Stmt} {t t' : TS} (h : PS X e t) (hi : ∀ D σ H, t' D σ H → t D σ H) : PS X e t' := ⟨fun pins s σ H D I q => h.run pins s σ H D I (hi D σ H q)⟩
theorem PSs.mono {X : Cx} {e : List Stmt} {t t' : TS} (h : PSs X e t) (hi : ∀ D σ H, t' D σ H → t D σ H) : PSs X e t' := ⟨fun pins s σ H D I q => h.run pins s σ H D I (hi D σ H q)⟩

/-! ### values that are read -/
def RepV (K : PySem.W.Frag) (bn : List Addr) (H : Hp) : PV → V → Prop
  | .tup xs, v => ∃ a vs, v = .ref a ∧ SqT K H a vs ∧ RepPs K bn H xs vs
  | .lst xs, v => ∃ a vs, v = .ref a ∧ H a = some (.lst vs) ∧ RepPs K bn H xs vs
  | .dict ks ws, v => ∃ a kvs, v = .ref a ∧ H a = some (.dK kvs) ∧ KeysR ks kvs ∧ RepPs K bn H ws (kvs.map (·.2))
  | p, v => RepP K bn H p v
section
variable {G : Wd} {W : WX} {mu mu' : Mu} {bn bn' : List Addr} {H H' : Hp} {S S' : Store} {ρ : Env} {σ : Sg}
theorem TupA.sq {K : PySem.W.Frag} {a : Addr} {vs : List V} (h : TupA K bn H a vs) : SqT K H a vs := by
  rcases h with ⟨h, _⟩ | h
  · exact .inl h
  · exact .inr h
theorem ScrA.sq {K : PySem.W.Frag} {a : Addr} {vs : List V} (h : ScrA K bn H a vs) : SqL K H a vs := by
  rcases h with ⟨h, _⟩ | h
  · exact .inl h
  · exact .inr h
theorem RepP.v {K : PySem.W.Frag} : ∀ {p : PV} {v : V}, RepP K bn H p v → RepV K bn H p v
  | .tup xs, v, h => by unfold RepP at h; obtain ⟨a, vs, e, t, r⟩ := h; exact ⟨a, vs, e, t.sq, r⟩
  | .lst xs, v, h => by unfold RepP at h; obtain ⟨a, vs, e, t, r⟩ := h; exact ⟨a, vs, e, t.1, r⟩
  | .dict _ _, v, h => by unfold RepP at h; obtain ⟨a, kvs, e, t, _, hk, r⟩ := h; exact ⟨a, kvs, e, t, hk, r⟩
  | .non, _, h => h
  | .bl _, _, h => h
  | .int _, _, h => h
  | .str _, _, h => h
  | .scr _, _, h => h
theorem rd_rep {K : PySem.W.Frag} (R : RepS K mu bn H S) : ∀ {l : LV} {v : V} {p : PV}, RepL K mu bn H l v → rd S l = some p → RepV K bn H p v
  | .pv q, v, p, h, e => by
    have e' : q = p := Option.some.inj e
    subst e'; exact RepP.v h.toP
  | .ref k, v, p, h, e => by
    cases hk : S[k]? with
    | none => simp [rd, hk] at e
    | some o =>
      cases o with
      | lst xs =>
        simp only [rd, hk, Option.some.injEq] at e
        subst e
        obtain ⟨a, e1, vs, q, r⟩ := repS_get R hk (by simp)
        exact ⟨a, vs, h.toRef.2 a e1, q, r⟩
      | dict ks vs =>
        simp only [rd, hk, Option.some.injEq] at e
        subst e
        obtain ⟨a, e1, kvs, q, r⟩ := repS_get R hk (by simp)
        exact ⟨a, kvs, h.toRef.2 a e1, q, r⟩
      | dicT _ _ => simp [rd, hk] at e
      | ins _ _ => simp [rd, hk] at e
      | dead => simp [rd, hk] at e
  | .ls _, v, p, h, e => by simp [rd] at e
  | .dT _ _, v, p, h, e => by simp [rd] at e
  | .ht xs, v, p, h, e => by
    have e' : PV.tup xs = p := Option.some.inj e
    subst e'; exact RepP.v h.htP
theorem rep_int {K : PySem.W.Frag} {i : Int} {v : V} (h : RepV K bn H (.int i) v) : v = .int i := by unfold RepV RepP at h; exact h
theorem rep_bl {K : PySem.W.Frag} {i : Bool} {v : V} (h : RepV K bn H (.bl i) v) : v = .bl i := by unfold RepV RepP at h; exact h
theorem rep_non {K : PySem.W.Frag} {v : V} (h : RepV K bn H .non v) : v = .non := by unfold RepV RepP at h; exact h
theorem rep_str {K : PySem.W.Frag} {i : List Nat} {v : V} (h : RepV K bn H (.str i) v) : v = .str ⟨i.toArray⟩ := by unfold RepV RepP at h; exact h.1
theorem rep_strL {K : PySem.W.Frag} {i : List Nat} {v : V} (h : RepV K bn H (.str i) v) : i.length ≤ big := by unfold RepV RepP at h; exact h.2
theorem repP_int {K : PySem.W.Frag} {i : Int} : RepP K bn H (.int i) (.int i) := by unfold RepP; rfl
theorem repP_bl {K : PySem.W.Frag} {i : Bool} : RepP K bn H (.bl i) (.bl i) := by unfold RepP; rfl
theorem repP_non {K : PySem.W.Frag} : RepP K bn H .non .non := by unfold RepP; rfl
theorem repP_str {K : PySem.W.Frag} {i : List Nat} (h : i.length ≤ big) : RepP K bn H (.str i) (.str ⟨i.toArray⟩) := by unfold RepP; exact ⟨rfl, h⟩
theorem repP_tup {K : PySem.W.Frag} {xs : List PV} {a : Addr} {vs : List V} (h : H a = some (.tup vs)) (hb : a ∉ bn) (r : RepPs K bn H xs vs) : RepP K bn H (.tup xs) (.ref a) := by
  unfold RepP; exact ⟨a, vs, rfl, .inl ⟨.inl h, hb⟩, r⟩
theorem repP_lst {K : PySem.W.Frag} {xs : List PV} {a : Addr} {vs : List V} (h : H a = some (.lst vs)) (hb : a ∉ bn) (r : RepPs K bn H xs vs) : RepP K bn H (.lst xs) (.ref a) := by
  unfold RepP; exact ⟨a, vs, rfl, ⟨h, hb⟩, r⟩
theorem To.opt {Q : VK} {o : Option PV} (h : To G W (rlE G) σ mu bn H Q (opt o S)) : ∃ p, o = some p ∧ To G W (rlE G) σ mu bn H Q (.ok (.pv p) S) := by
  cases o with
  | some p => exact ⟨p, rfl, h⟩
  | none => exact h.elim
theorem To.rdB {α β : Type} {Rel : Rl α β} {Q : β → Hp → Prop} {l : LV} {f : PV → Res α} (h : To G W Rel σ mu bn H Q (rdB l S f)) : ∃ p, rd S l = some p ∧ To G W Rel σ mu bn H Q (f p) := by
  unfold Gp.rdB at h
  cases e : rd S l with
  | some p => rw [e] at h; exact ⟨p, rfl, h⟩
  | none => rw [e] at h; exact h.elim
end
end Gp

namespace L2
open PySem PySem.Spec PyProof.Rows
/-- t * 1 is t -/
theorem tup_once {l : Addr} {its : Array Value} {n : Nat} {dd : Option Addr} {sl : Array (Option Value)} {u : Tok} :
    Meets (Builtin.«tuple.__mul__» ⟨[.ref l, .int 1 u], []⟩)
      (fun _ R s => s.heap.get? l = some { cls := .type "tuple", dict := dd, data := .seq its n, slots := sl } ∧ R (.ok (.ret (Value.ref l))) s) :=
  .of_wp fun prog w A R s h => by
    obtain ⟨hp, g, d, tk, os⟩ := s; obtain ⟨hl, h⟩ := h
    have f1 := AutoSeq1.idx_int
    wp_walk using wpAny_loadPart' hl
    repeat (first
      | (refine wpAny_ite_false (decide_eq_false (by decide)) ?_; wp_walk using wpAny_loadPart' hl)
      | (refine wpAny_ite_true (decide_eq_true (by simp)) ?_; wp_walk using wpAny_loadPart' hl))
    exact ⟨_, rfl, h⟩
theorem tup_noFill : fillsNumberSlot (.type "tuple") "mul" = pure false :=
  PySem.fillsNumberSlot_seq (id := "tuple.__mul__")
    (r := some (.builtin "tuple.__rmul__"))
    PySem.F.slot_tuple_mul.lookup (by decide +kernel)
    PySem.F.slot_tuple_rmul.lookup (by decide +kernel)
theorem tup_seqRep : seqRepeat? (.type "tuple") = pure (some (.builtin "tuple.__mul__")) := by
  unfold seqRepeat?
  rw [PySem.seqSlot_of (T := "tuple") (name := "__mul__")
      (id := "tuple.__mul__") PySem.F.slot_tuple_mul.lookup (by decide +kernel),
    PySem.seqSlot_of (T := "tuple") (name := "__rmul__")
      (id := "tuple.__rmul__") PySem.F.slot_tuple_rmul.lookup (by decide +kernel)]
  rfl
theorem int_rmul_t1 {t : Tok} {l : Addr} {items : Array Value} {n : Nat}
    {dd : Option Addr} {sl : Array (Option Value)} {a : Int} :
    Meets (Builtin.«int.__rmul__» ⟨[.int a t, .ref l], []⟩)
      (fun _ R s => s.heap.get? l = some { cls := .type "tuple", dict := dd, data := .seq items n, slots := sl } ∧
        R (.ok (.ret Value.notImplemented)) s) :=
  .of_wp fun prog w A R s h => by
    obtain ⟨hp, g, d, tk, os⟩ := s; obtain ⟨hl, h⟩ := h
    wp_walk using wpAny_loadPart' hl; exact ⟨_, rfl, h⟩
def rRepT1 (K : PySem.W.Frag) : R2 := fun x y H Q => ∃ l xs, x = .ref l ∧ y = .int 1 ∧ SqT K H l xs ∧ Q (.ref l) H
theorem op_repT1 {X : Cx} : OpR X (binaryOp .Mult) (rRepT1 X.K) := by
  intro pins s σ H x y v u Q I rx ry h; obtain ⟨l, xs, rfl, rfl, hT, q⟩ := h
  cases rx
  obtain ⟨t, rfl⟩ := ry
  obtain ⟨its, r, ⟨⟨cls, dd, data, sl⟩, ho, hc, n, hd⟩, hs⟩ := I.tuple hT; simp only at hc hd
  subst hc hd
  refine wpAny_binaryOp_repeat_ref (T := "tuple") (U := "int") (by decide) ⟨_, ho, rfl⟩
    (fun s' => typeIs_int s' 1 t) tup_noFill F.fills_int_mul F.slot_int_rmul tup_seqRep
    F.slot_int_index.lookup ?_
  refine call_meets F.slot_int_rmul (typeIs_int s 1 t) F.entry_int_rmul (F.args_int_rmul_2 _ _)
    int_rmul_t1 ⟨ho, rfl, ⟨_, ho, rfl⟩, ?_⟩
  refine call_meets F.slot_tuple_mul ⟨_, ho, rfl⟩ F.entry_tuple_mul (F.args_tuple_mul_2 _ _)
    tup_once ⟨ho, ?_⟩
  exact ⟨.ref l, H, I, rfl, q⟩
end L2
namespace Gp
open PySem PySem.Spec PyProof.Rows L2

theorem big_line : big ≤ sizeLine := by rw [sizeLine_eq]; decide
section
variable {G : Wd} {X : Cx} {mu mu' : Mu} {bn bn' : List Addr} {H H' : Hp} {S S' : Store}
/-- what is wanted of a pure value at a state -/
abbrev Wn (G : Wd) (mu : Mu) (bn : List Addr) (H : Hp) (S : Store) (Q : VK) (p : PV) : Prop := OkG G (rlE G) mu bn H Q (.pv p) S
theorem Wn.scal {Q : VK} {p : PV} {v : V} (h : Wn G mu bn H S Q p) (R : RepS G.K mu bn H S) (r : RepP G.K bn H p v) : Q v H := h mu bn H v (Tr.refl _ _ _) R (.pv r)
theorem Wn.tup {Q : VK} {xs : List PV} {vs : List V} {p : Addr} (h : Wn G mu bn H S Q (.tup xs)) (R : RepS G.K mu bn H S) (hp : H p = none) (r : RepPs G.K bn H xs vs) : Q (.ref p) (upd H p (.tup vs)) :=
  h mu bn _ _ (Tr.laid hp) (R.laid hp) (.pv <| repP_tup upd_same (fun hb => R.tk p hb hp) (r.mono ((Tr.laid hp).kp R)))
theorem Wn.lst {Q : VK} {xs : List PV} {vs : List V} {p : Addr} (h : Wn G mu bn H S Q (.lst xs)) (R : RepS G.K mu bn H S) (hp : H p = none) (r : RepPs G.K bn H xs vs) : Q (.ref p) (upd H p (.lst vs)) :=
  h mu bn _ _ (Tr.laid hp) (R.laid hp) (.pv <| repP_lst upd_same (fun hb => R.tk p hb hp) (r.mono ((Tr.laid hp).kp R)))
/-- a tuple that is read stands as a value -/
theorem repV_tup {K : PySem.W.Frag} {xs : List PV} {v : V} (h : RepP K bn H (.tup xs) v) : ∃ a vs, v = .ref a ∧ SqT K H a vs ∧ RepPs K bn H xs vs := by
  unfold RepP at h
  obtain ⟨a, vs, e, t, r⟩ := h
  exact ⟨a, vs, e, t.sq, r⟩

/-- an operation of two values by the pure one -/
def rB (G : Wd) (f : PV → PV → Option PV) : R2 := fun x y H Q => ∃ mu bn S p q r, RepS G.K mu bn H S ∧ RepV G.K bn H p x ∧ RepV G.K bn H q y ∧ (∀ xs, p = .tup xs → RepP G.K bn H p x) ∧ (∀ xs, q = .tup xs → RepP G.K bn H q y) ∧ f p q = some r ∧ Wn G mu bn H S Q r
theorem RepPs.nil_iff {K : PySem.W.Frag} {xs : List PV} {vs : List V} (h : RepPs K bn H xs vs) : xs = [] ↔ vs = [] := by
  have := h.length
  constructor
  · rintro rfl; exact List.eq_nil_of_length_eq_zero this.symm
  · rintro rfl; exact List.eq_nil_of_length_eq_zero this
theorem repPs_rep {K : PySem.W.Frag} {xs : List PV} {vs : List V} (h : RepPs K bn H xs vs) : ∀ n : Nat, RepPs K bn H (rep xs n) (List.replicate n vs).flatten
  | 0 => repPs_nil
  | n + 1 => by
    rw [List.replicate_succ, List.flatten_cons]; exact h.append (repPs_rep h n)
theorem op_binA (hK : X.K = G.K) : OpR X (binaryOp .Add) (rB G (binop .add)) := by
  intro pins s σ H x y v u Q I rx ry h; obtain ⟨mu, bn, S, p, q, r, R, hp, hq, tp, tq, e, w⟩ := h
  rw [← hK] at R hp hq tp tq
  cases p <;> cases q <;> simp [binop] at e
  · -- ints
    subst e
    rw [rep_int hp] at rx; rw [rep_int hq] at ry
    exact op_add pins s σ H _ _ v u Q I rx ry ⟨_, _, rfl, rfl, w.scal (hK ▸ R) repP_int⟩
  · obtain ⟨e1, e⟩ := e
    subst e
    rw [rep_str hp] at rx; rw [rep_str hq] at ry
    refine op_add_str pins s σ H _ _ v u Q I rx ry ⟨_, _, rfl, rfl, ?_, w.scal (hK ▸ R) ?_⟩
    · exact Nat.le_trans (by simpa [Str.length] using e1) big_line
    · have e2 : ∀ a b : List Nat, ((⟨a.toArray⟩ : Str) ++ (⟨b.toArray⟩ : Str)) = ⟨(a ++ b).toArray⟩ := fun a b => by
        show Str.mk (a.toArray ++ b.toArray) = _
        simp
      rw [e2]; exact repP_str (by rw [List.length_append]; exact e1)
  · obtain ⟨e1, e⟩ := e
    subst e
    have hp' := tp _ rfl
    have hq' := tq _ rfl
    obtain ⟨a, vs, rfl, ha, ra⟩ := hp
    obtain ⟨b, us, rfl, hb, rb⟩ := hq
    refine op_catA pins s σ H _ _ v u Q I rx ry ⟨_, _, _, _, rfl, rfl, ha, hb, ?_, fun z => ?_, fun z z2 => ?_, fun z z2 p hp => ?_⟩
    · rw [← ra.length, ← rb.length]; exact Nat.le_trans e1 big_line
    · have z1 := ra.nil_iff.mpr z
      subst z1
      exact w.scal (hK ▸ R) (by rw [← hK]; exact hq')
    · have z1 := rb.nil_iff.mpr z2
      subst z1
      rw [List.append_nil] at w
      exact w.scal (hK ▸ R) (by rw [← hK]; exact hp')
    · exact w.tup (hK ▸ R) hp (by rw [← hK]; exact ra.append rb)
  · obtain ⟨e1, e⟩ := e
    subst e
    obtain ⟨a, vs, rfl, ha, ra⟩ := hp
    obtain ⟨b, us, rfl, hb, rb⟩ := hq
    refine op_cat pins s σ H _ _ v u Q I rx ry ⟨_, _, _, _, rfl, rfl, ha, hb, ?_, fun p hp => ?_⟩
    · rw [← ra.length, ← rb.length]; exact Nat.le_trans e1 big_line
    · exact w.lst (hK ▸ R) hp (by rw [← hK]; exact ra.append rb)
theorem op_binS (hK : X.K = G.K) : OpR X (binaryOp .Sub) (rB G (binop .sub)) := by
  intro pins s σ H x y v u Q I rx ry h; obtain ⟨mu, bn, S, p, q, r, R, hp, hq, tp, tq, e, w⟩ := h
  cases p <;> cases q <;> simp [binop] at e
  subst e
  rw [rep_int hp] at rx; rw [rep_int hq] at ry
  exact op_sub pins s σ H _ _ v u Q I rx ry ⟨_, _, rfl, rfl, w.scal R repP_int⟩
theorem op_binF (hK : X.K = G.K) : OpR X (binaryOp .FloorDiv) (rB G (binop .fdiv)) := by
  intro pins s σ H x y v u Q I rx ry h; obtain ⟨mu, bn, S, p, q, r, R, hp, hq, tp, tq, e, w⟩ := h
  cases p <;> cases q <;> simp [binop] at e
  obtain ⟨e1, e⟩ := e
  subst e
  rw [rep_int hp] at rx; rw [rep_int hq] at ry
  exact op_fdiv pins s σ H _ _ v u Q I rx ry ⟨_, _, rfl, rfl, e1, w.scal R repP_int⟩
theorem op_binM (hK : X.K = G.K) : OpR X (binaryOp .Mod) (rB G (binop .mod)) := by
  intro pins s σ H x y v u Q I rx ry h; obtain ⟨mu, bn, S, p, q, r, R, hp, hq, tp, tq, e, w⟩ := h
  cases p <;> cases q <;> simp [binop] at e
  obtain ⟨e1, e⟩ := e
  subst e
  rw [rep_int hp] at rx; rw [rep_int hq] at ry
  exact op_mod pins s σ H _ _ v u Q I rx ry ⟨_, _, rfl, rfl, e1, w.scal R repP_int⟩
theorem op_binP (hK : X.K = G.K) : OpR X (binaryOp .Pow) (rB G (binop .pow)) := by
  intro pins s σ H x y v u Q I rx ry h; obtain ⟨mu, bn, S, p, q, r, R, hp, hq, tp, tq, e, w⟩ := h
  cases p <;> cases q <;> simp [binop] at e
  obtain ⟨e1, e⟩ := e
  subst e
  rw [rep_int hp] at rx; rw [rep_int hq] at ry
  exact op_pow pins s σ H _ _ v u Q I rx ry ⟨_, _, rfl, rfl, ⟨e1.1.1, e1.1.2, e1.2⟩, w.scal R repP_int⟩
theorem op_binX (hK : X.K = G.K) : OpR X (binaryOp .Mult) (rB G (binop .mul)) := by
  intro pins s σ H x y v u Q I rx ry h; obtain ⟨mu, bn, S, p, q, r, R, hp, hq, tp, tq, e, w⟩ := h
  cases p <;> cases q <;> simp [binop] at e
  · obtain ⟨e1, e⟩ := e
    subst e
    rw [rep_int hp] at rx; rw [rep_int hq] at ry
    refine op_mul pins s σ H _ _ v u Q I rx ry ⟨_, _, rfl, rfl, ?_, w.scal R repP_int⟩
    unfold mulOk at e1
    simp only [Bool.or_eq_true, Bool.and_eq_true, decide_eq_true_eq] at e1
    exact e1
  · split at e
    · rename_i e1
      subst e1
      cases e
      rw [rep_int hq] at ry
      have hp' := tp _ rfl
      obtain ⟨a, vs, rfl, ha, ra⟩ := hp
      exact op_repT1 pins s σ H _ _ v u Q I rx ry ⟨a, vs, rfl, rfl, by rw [hK]; exact ha, w.scal R hp'⟩
    simp at e
    obtain ⟨⟨⟨⟨e1, e2⟩, e3⟩, e4⟩, e⟩ := e
    subst e
    rw [rep_int hq] at ry
    obtain ⟨a, vs, rfl, ha, ra⟩ := hp
    refine op_repT pins s σ H _ _ v u Q I rx ry ⟨_, _, vs, rfl, rfl, by rw [hK]; exact ha, fun z => e1 (ra.nil_iff.mpr z), e3, e4, by rw [← ra.length]; exact e2, fun p hp => ?_⟩
    exact w.tup R hp (repPs_rep ra _)
  · obtain ⟨⟨⟨e1, e2⟩, e3⟩, e⟩ := e
    subst e
    rw [rep_int hq] at ry
    obtain ⟨a, vs, rfl, ha, ra⟩ := hp
    unfold bigI at e2 e3
    refine op_rep pins s σ H _ _ v u Q I rx ry ⟨_, _, vs, rfl, rfl, ha, by omega, by omega, Nat.le_trans (by rw [← ra.length]; exact e1) big_line, fun p hp => ?_⟩
    exact w.lst R hp (repPs_rep ra _)

/-! ### == -/
mutual
def toD : PV → PyData
  | .non => .none
  | .bl b => .bool b
  | .int i => .int i
  | .str x => .str ⟨x.toArray⟩
  | .tup xs => .tuple (toDs xs)
  | .lst xs => .list (toDs xs)
  | .dict _ _ => .none
  | .scr _ => .none
def toDs : List PV → List PyData
  | [] => []
  | x :: xs => toD x :: toDs xs
end
mutual
theorem toD_lay : ∀ p : PV, PV.eqOk p = true → (toD p).canLay0 = true ∧ (toD p).depth = PV.deep p
  | .non, _ => ⟨rfl, rfl⟩
  | .bl _, _ => ⟨rfl, rfl⟩
  | .int _, _ => ⟨rfl, rfl⟩
  | .str x, h => by
    refine ⟨?_, rfl⟩
    unfold PV.eqOk at h
    show PyData.strOk ⟨x.toArray⟩ = true
    unfold PyData.strOk
    simpa using h
  | .tup xs, h => by
    unfold PV.eqOk at h
    obtain ⟨h1, h2⟩ := toDs_lay xs h
    refine ⟨h1, ?_⟩
    show PyData.depthAll (toDs xs) + 1 = _
    unfold PV.deep; omega
  | .lst xs, h => by
    unfold PV.eqOk at h
    obtain ⟨h1, h2⟩ := toDs_lay xs h
    refine ⟨h1, ?_⟩
    show PyData.depthAll (toDs xs) + 1 = _
    unfold PV.deep; omega
  | .dict _ _, h => by unfold PV.eqOk at h; cases h
  | .scr _, h => by unfold PV.eqOk at h; cases h
theorem toDs_lay : ∀ xs : List PV, PV.eqOks xs = true → PyData.canLayAll0 (toDs xs) = true ∧ PyData.depthAll (toDs xs) = PV.deeps xs
  | [], _ => ⟨rfl, rfl⟩
  | x :: xs, h => by
    unfold PV.eqOks at h
    simp only [Bool.and_eq_true] at h; obtain ⟨h1, h2⟩ := toD_lay x h.1
    obtain ⟨h3, h4⟩ := toDs_lay xs h.2
    refine ⟨by show (PyData.canLay0 (toD x) && PyData.canLayAll0 (toDs xs)) = true; rw [h1, h3]; rfl, ?_⟩
    show max (toD x).depth (PyData.depthAll (toDs xs)) = _
    unfold PV.deeps
    rw [h2, h4]
end
mutual
theorem toD_eqv : ∀ p q : PV, PV.eqOk p = true → PV.eqOk q = true → PyData.eqv (toD p) (toD q) = PV.eqb p q
  | .tup xs, q, h, h2 => by
    cases q with
    | tup ys => unfold PV.eqOk at h h2; unfold PV.eqb; exact toDs_eqv xs ys h h2
    | dict _ _ => unfold PV.eqOk at h2; cases h2
    | scr _ => unfold PV.eqOk at h2; cases h2
    | _ => simp [toD, PyData.eqv, PV.eqb]
  | .lst xs, q, h, h2 => by
    cases q with
    | lst ys => unfold PV.eqOk at h h2; unfold PV.eqb; exact toDs_eqv xs ys h h2
    | dict _ _ => unfold PV.eqOk at h2; cases h2
    | scr _ => unfold PV.eqOk at h2; cases h2
    | _ => simp [toD, PyData.eqv, PV.eqb]
  | .dict _ _, _, h, _ => by unfold PV.eqOk at h; cases h
  | .scr _, _, h, _ => by unfold PV.eqOk at h; cases h
  | .non, q, _, h2 => by cases q <;> first | (unfold PV.eqOk at h2; cases h2; done) | simp [toD, PyData.eqv, PV.eqb]
  | .bl _, q, _, h2 => by cases q <;> first | (unfold PV.eqOk at h2; cases h2; done) | simp [toD, PyData.eqv, PV.eqb, b2i]
  | .int _, q, _, h2 => by cases q <;> first | (unfold PV.eqOk at h2; cases h2; done) | simp [toD, PyData.eqv, PV.eqb, b2i]
  | .str x, q, _, h2 => by
    cases q with
    | str y =>
      simp only [toD, PyData.eqv, PV.eqb]
      rw [Bool.eq_iff_iff, beq_iff_eq, beq_iff_eq]
      constructor
      · intro e; injection e with e; simpa using congrArg Array.toList e
      · rintro rfl; rfl
    | dict _ _ => unfold PV.eqOk at h2; cases h2
    | scr _ => unfold PV.eqOk at h2; cases h2
    | _ => simp [toD, PyData.eqv, PV.eqb]
theorem toDs_eqv : ∀ xs ys : List PV, PV.eqOks xs = true → PV.eqOks ys = true → PyData.eqvAll (toDs xs) (toDs ys) = PV.eqbs xs ys
  | [], [], _, _ => rfl
  | [], _ :: _, _, _ => rfl
  | _ :: _, [], _, _ => rfl
  | x :: xs, y :: ys, h, h2 => by
    unfold PV.eqOks at h h2
    simp only [Bool.and_eq_true] at h h2
    show (PyData.eqv (toD x) (toD y) && PyData.eqvAll (toDs xs) (toDs ys)) = _
    rw [toD_eqv x y h.1 h2.1, toDs_eqv xs ys h.2 h2.2]
    rfl
end
mutual
theorem dp_of {K : PySem.W.Frag} : ∀ {p : PV} {v : V}, RepP K bn H p v → PV.eqOk p = true → Dp K H v (toD p)
  | .non, v, h, _ => by unfold RepP at h; subst h; exact .non
  | .bl b, v, h, _ => by unfold RepP at h; subst h; exact .bl b
  | .int i, v, h, _ => by unfold RepP at h; subst h; exact .int i
  | .str x, v, h, _ => by unfold RepP at h; obtain ⟨rfl, _⟩ := h; exact .str _
  | .tup xs, v, h, e => by
    unfold RepP at h; unfold PV.eqOk at e
    obtain ⟨a, vs, rfl, ha, r⟩ := h
    exact .tup ha.sq (dps_of r e)
  | .lst xs, v, h, e => by
    unfold RepP at h; unfold PV.eqOk at e
    obtain ⟨a, vs, rfl, ha, r⟩ := h
    exact .lst (SqL.of ha.1) (dps_of r e)
  | .dict _ _, v, h, e => by unfold PV.eqOk at e; cases e
  | .scr _, v, h, e => by unfold PV.eqOk at e; cases e
theorem dps_of {K : PySem.W.Frag} : ∀ {xs : List PV} {vs : List V}, RepPs K bn H xs vs → PV.eqOks xs = true → DpAll K H vs (toDs xs)
  | [], vs, h, _ => by unfold RepPs at h; subst h; exact .nil
  | x :: xs, vs, h, e => by
    unfold RepPs at h; unfold PV.eqOks at e
    obtain ⟨v, r, rfl, h1, h2⟩ := h
    simp only [Bool.and_eq_true] at e; exact .cons (dp_of h1 e.1) (dps_of h2 e.2)
end
theorem dpv_of {K : PySem.W.Frag} : ∀ {p : PV} {v : V}, RepV K bn H p v → PV.eqOk p = true → Dp K H v (toD p)
  | .tup xs, v, h, e => by
    unfold PV.eqOk at e
    obtain ⟨a, vs, rfl, ha, r⟩ := h
    exact .tup ha (dps_of r e)
  | .lst xs, v, h, e => by
    unfold PV.eqOk at e
    obtain ⟨a, vs, rfl, ha, r⟩ := h
    exact .lst (SqL.of ha) (dps_of r e)
  | .dict _ _, v, h, e => by unfold PV.eqOk at e; cases e
  | .scr _, v, h, e => by unfold PV.eqOk at e; cases e
  | .non, _, h, e => dp_of (bn := bn) h e
  | .bl _, _, h, e => dp_of (bn := bn) h e
  | .int _, _, h, e => dp_of (bn := bn) h e
  | .str _, _, h, e => dp_of (bn := bn) h e
/-- a comparison of two values by the pure one -/
def rC (G : Wd) (o : Cop) : R2 := fun x y H Q => ∃ bn p q b, RepV G.K bn H p x ∧ RepV G.K bn H q y ∧ cmpop o p q = some b ∧ Q (.bl b) H
theorem op_cEq (hK : X.K = G.K) (hu : X.A.units + 200 < cLine) : OpR X (compareOp .Eq) (rC G .eq) := by
  intro pins s σ H x y v u Q I rx ry h; obtain ⟨bn, p, q, b, hp, hq, e, w⟩ := h
  rw [← hK] at hp hq
  simp only [cmpop] at e
  split at e
  · rename_i g
    cases e
    unfold eqG at g
    simp only [Bool.and_eq_true, decide_eq_true_eq] at g
    obtain ⟨⟨g1, g2⟩, g3⟩ := g
    obtain ⟨as, r1⟩ := Dp.reads I _ x v (dpv_of hp g1) rx
    obtain ⟨bs, r2⟩ := Dp.reads I _ y u (dpv_of hq g2) ry
    obtain ⟨l1, d1⟩ := toD_lay p g1
    obtain ⟨l2, d2⟩ := toD_lay q g2
    refine SeqAt.compareEq_reads r1 r2 l1 l2 (by rw [d1, d2]; omega) ⟨.bl _, H, I, rfl, ?_⟩
    rw [toD_eqv p q g1 g2]; exact w
  · cases e
theorem op_cNe (hK : X.K = G.K) (hu : X.A.units + 200 < cLine) : OpR X (compareOp .NotEq) (rC G .ne) := by
  intro pins s σ H x y v u Q I rx ry h; obtain ⟨bn, p, q, b, hp, hq, e, w⟩ := h
  rw [← hK] at hp hq
  simp only [cmpop] at e
  split at e
  · rename_i g
    cases e
    unfold eqG at g
    simp only [Bool.and_eq_true, decide_eq_true_eq] at g
    obtain ⟨⟨g1, g2⟩, g3⟩ := g
    obtain ⟨as, r1⟩ := Dp.reads I _ x v (dpv_of hp g1) rx
    obtain ⟨bs, r2⟩ := Dp.reads I _ y u (dpv_of hq g2) ry
    obtain ⟨l1, d1⟩ := toD_lay p g1
    obtain ⟨l2, d2⟩ := toD_lay q g2
    refine SeqAt.compareNe_reads r1 r2 l1 l2 (by rw [d1, d2]; omega) ⟨.bl _, H, I, rfl, ?_⟩
    rw [toD_eqv p q g1 g2]; exact w
  · cases e
theorem op_cLt : OpR X (compareOp .Lt) (rC G .lt) := by
  intro pins s σ H x y v u Q I rx ry h; obtain ⟨bn, p, q, b, hp, hq, e, w⟩ := h
  cases p <;> cases q <;> simp [cmpop] at e
  subst e
  rw [rep_int hp] at rx; rw [rep_int hq] at ry
  exact op_lt pins s σ H _ _ v u Q I rx ry ⟨_, _, rfl, rfl, w⟩
theorem op_cLe : OpR X (compareOp .LtE) (rC G .le) := by
  intro pins s σ H x y v u Q I rx ry h; obtain ⟨bn, p, q, b, hp, hq, e, w⟩ := h
  cases p <;> cases q <;> simp [cmpop] at e
  subst e
  rw [rep_int hp] at rx; rw [rep_int hq] at ry
  exact op_le pins s σ H _ _ v u Q I rx ry ⟨_, _, rfl, rfl, w⟩
theorem op_cGt : OpR X (compareOp .Gt) (rC G .gt) := by
  intro pins s σ H x y v u Q I rx ry h; obtain ⟨bn, p, q, b, hp, hq, e, w⟩ := h
  cases p <;> cases q <;> simp [cmpop] at e
  subst e
  rw [rep_int hp] at rx; rw [rep_int hq] at ry
  exact op_gt pins s σ H _ _ v u Q I rx ry ⟨_, _, rfl, rfl, w⟩
theorem op_cGe : OpR X (compareOp .GtE) (rC G .ge) := by
  intro pins s σ H x y v u Q I rx ry h; obtain ⟨bn, p, q, b, hp, hq, e, w⟩ := h
  cases p <;> cases q <;> simp [cmpop] at e
  subst e
  rw [rep_int hp] at rx; rw [rep_int hq] at ry
  exact op_ge pins s σ H _ _ v u Q I rx ry ⟨_, _, rfl, rfl, w⟩
theorem op_cIsT : OpR X (compareOp .Is) (rC G .isT) := by
  intro pins s σ H x y v u Q I rx ry h; obtain ⟨bn, p, q, b, hp, hq, e, w⟩ := h
  cases p <;> cases q <;> simp [cmpop] at e
  rename_i a c
  subst e
  rw [rep_bl hp] at rx; rw [rep_bl hq] at ry
  refine op_is_bl pins s σ H _ _ v u Q I rx ry ⟨_, _, rfl, rfl, ?_⟩
  rw [← Bool.beq_eq_decide_eq]; exact w
theorem op_cIsF : OpR X (compareOp .IsNot) (rC G .isF) := by
  intro pins s σ H x y v u Q I rx ry h; obtain ⟨bn, p, q, b, hp, hq, e, w⟩ := h
  cases p <;> cases q <;> simp [cmpop] at e
  rename_i a c
  have e2 : b = !(a == c) := by rw [e]; simp
  subst e2
  rw [rep_bl hp] at rx; rw [rep_bl hq] at ry
  refine op_isnot_bl pins s σ H _ _ v u Q I rx ry ⟨_, _, rfl, rfl, ?_⟩
  rw [← Bool.beq_eq_decide_eq]; exact w

/-! ### in -/
open Classical in
/-- == with a pure value, told of machine values -/
noncomputable def eqBy (h : Heap) (x : PV) (y : Value) : Bool := if e : ∃ p : PV, PV.eqOk p = true ∧ ∃ as, Reads h y (toD p) as then PV.eqb (choose e) x else false
theorem eqBy_eq {h : Heap} {x p : PV} {y : Value} {as : List Addr} (hx : PV.eqOk x = true) (hp : PV.eqOk p = true) (r : Reads h y (toD p) as) : eqBy h x y = PV.eqb p x := by
  classical
  have e : ∃ p : PV, PV.eqOk p = true ∧ ∃ as, Reads h y (toD p) as := ⟨p, hp, as, r⟩
  unfold eqBy
  rw [dif_pos e]
  obtain ⟨h1, bs, r2⟩ := Classical.choose_spec e
  have := SeqAt.Reads.unique _ _ _ _ _ (toD_lay _ h1).1 r2 r
  rw [← toD_eqv _ _ h1 hx, this, toD_eqv _ _ hp hx]
theorem any_eqBy {K : PySem.W.Frag} {pins : List (Addr × Obj)} {σ : Sg} {s : Shared} {x : PV} (I : Inv X pins σ H s) (hx : PV.eqOk x = true) : ∀ {ps : List PV} {vs : List V} {us : List Value}, RepPs X.K bn H ps vs → Vals vs us → PV.eqOks ps = true →
    us.any (eqBy s.heap x) = ps.any fun y => PV.eqb y x
  | [], vs, us, h, r, _ => by unfold RepPs at h; subst h; cases r; rfl
  | p :: ps, vs, us, h, r, e => by
    unfold RepPs at h; unfold PV.eqOks at e
    obtain ⟨v, q, rfl, h1, h2⟩ := h
    simp only [Bool.and_eq_true] at e; cases r with
    | cons r1 r2 =>
      obtain ⟨as, rr⟩ := Dp.reads I _ v _ (dp_of h1 e.1) r1
      rw [List.any_cons, List.any_cons, eqBy_eq hx e.1 rr, any_eqBy (K := K) I hx h2 r2 e.2]
theorem at_eqBy {pins : List (Addr × Obj)} {σ : Sg} {s : Shared} {x : PV} {xv : V} {xu : Value} (I : Inv X pins σ H s) (hu : X.A.units + 200 < cLine) (hx : PV.eqOk x = true) (hd : PV.deep x ≤ 150) (rx : RepV X.K bn H x xv) (ru : RelV xv xu) :
    ∀ {ps : List PV} {vs : List V} {us : List Value}, RepPs X.K bn H ps vs → Vals vs us → PV.eqOks ps = true → ∀ y ∈ us, SeqAt.EqAt X.A.in1 s y xu (eqBy s.heap x y)
  | [], vs, us, h, r, _ => by unfold RepPs at h; subst h; cases r; intro y hy; cases hy
  | p :: ps, vs, us, h, r, e => by
    unfold RepPs at h; unfold PV.eqOks at e
    obtain ⟨v, q, rfl, h1, h2⟩ := h
    simp only [Bool.and_eq_true] at e; cases r with
    | cons r1 r2 =>
      intro y hy
      rcases List.mem_cons.mp hy with rfl | hy
      · obtain ⟨as, rr⟩ := Dp.reads I _ v _ (dp_of h1 e.1) r1
        obtain ⟨bs, rs⟩ := Dp.reads I _ xv _ (dpv_of rx hx) ru
        rw [eqBy_eq hx e.1 rr, ← toD_eqv _ _ e.1 hx]
        obtain ⟨l1, d1⟩ := toD_lay p e.1
        obtain ⟨l2, d2⟩ := toD_lay x hx
        refine SeqAt.eqAt_reads _ _ _ s _ _ as bs rr rs l1 l2 ?_
        rw [d1, d2]
        show X.A.units + 1 + _ < _
        omega
      · exact at_eqBy I hu hx hd rx ru h2 r2 e.2 y hy
theorem key_ok {p : PV} (h : PV.keyOk p = true) : ∃ key, toKey p = some key := by
  cases p <;> first | exact ⟨_, rfl⟩ | cases h
theorem key_v {K : PySem.W.Frag} {bn : List Addr} {H : Hp} {p : PV} {v : V} {key : Key} (h : RepV K bn H p v) (hk : toKey p = some key) : v = kV key := by
  cases p <;> cases hk
  · rw [rep_int h]; rfl
  · rw [rep_str h]; rfl
theorem find_isSome {K : PySem.W.Frag} {bn : List Addr} {H : Hp} {k : PV} {key : Key} (hk : toKey k = some key) {ks ws : List PV} {kvs : List (Key × V)} (h : KeysR ks kvs) (r : RepPs K bn H ws (kvs.map (·.2))) : (find ks ws k).isSome = (valV kvs key).isSome := by
  obtain ⟨h1, h2⟩ := find_rel hk h r
  cases e : find ks ws k with
  | none => rw [h2 e]; rfl
  | some w => obtain ⟨v, e2, _⟩ := h1 w e; rw [e2]; rfl
theorem op_cIn (hK : X.K = G.K) (hu : X.A.units + 200 < cLine) : OpR X (compareOp .In) (rC G .inn) := by
  intro pins s σ H x y v u Q I rx ry h; obtain ⟨bn, p, q, b, hp, hq, e, w⟩ := h
  rw [← hK] at hp hq
  simp only [cmpop] at e
  cases q <;> simp only [contains] at e
  case str z =>
    split at e
    · rename_i c
      cases e
      rw [rep_str hp] at rx; rw [rep_str hq] at ry
      refine op_in_sign pins s σ H _ _ v u Q I rx ry ⟨c, _, rfl, rfl, ?_⟩
      have e1 : decide (c ∈ (⟨z.toArray⟩ : Str).cps.toList) = z.contains c := by simp
      rw [e1]; exact w
    · cases e
  case tup xs =>
    split at e
    · rename_i g
      cases e
      unfold inG at g
      simp only [Bool.and_eq_true, decide_eq_true_eq] at g
      obtain ⟨a, vs, rfl, ha, ra⟩ := hq
      cases ry
      obtain ⟨its, rv, pl, hz⟩ := I.tuple ha
      refine SeqAt.in_tupleAt (eqBy s.heap p) pl (fun y hy => at_eqBy I hu g.1.1 g.2 hp rx ra rv g.1.2 y (by simpa using hy)) ⟨.bl _, H, I, rfl, ?_⟩
      rw [show its.toArray.any (eqBy s.heap p) = its.any (eqBy s.heap p) by simp, any_eqBy (K := X.K) I g.1.1 ra rv g.1.2]
      exact w
    · cases e
  case lst xs =>
    split at e
    · rename_i g
      cases e
      unfold inG at g
      simp only [Bool.and_eq_true, decide_eq_true_eq] at g
      obtain ⟨a, vs, rfl, ha, ra⟩ := hq
      cases ry
      obtain ⟨its, rv, pl, hz⟩ := I.list (SqL.of ha)
      refine SeqAt.in_listAt (eqBy s.heap p) pl.isList (fun y hy => at_eqBy I hu g.1.1 g.2 hp rx ra rv g.1.2 y (by simpa using hy)) ⟨.bl _, H, I, rfl, ?_⟩
      rw [show its.toArray.any (eqBy s.heap p) = its.any (eqBy s.heap p) by simp, any_eqBy (K := X.K) I g.1.1 ra rv g.1.2]
      exact w
    · cases e
  case dict ks vs =>
    split at e
    · rename_i g
      cases e
      obtain ⟨key, hk⟩ := key_ok g
      have ev := key_v hp hk
      subst ev
      obtain ⟨a, kvs, rfl, ha, hks, hr⟩ := hq
      cases ry
      refine d_in (show X.A.units + 1 < cLine by omega) I (DGet.k ha) rx fun s' I' => ⟨.bl _, H, I', rfl, ?_⟩
      rw [← find_isSome hk hks hr]
      exact w
    · cases e
  all_goals cases e
theorem op_cNotIn (hK : X.K = G.K) (hu : X.A.units + 200 < cLine) : OpR X (compareOp .NotIn) (rC G .notin) := by
  intro pins s σ H x y v u Q I rx ry h; obtain ⟨bn, p, q, b, hp, hq, e, w⟩ := h
  rw [← hK] at hp hq
  simp only [cmpop] at e
  cases q <;> simp only [contains] at e
  case str z =>
    split at e
    · rename_i c
      cases e
      rw [rep_str hp] at rx; rw [rep_str hq] at ry
      refine op_notIn_sign pins s σ H _ _ v u Q I rx ry ⟨c, _, rfl, rfl, ?_⟩
      have e1 : decide (c ∈ (⟨z.toArray⟩ : Str).cps.toList) = z.contains c := by simp
      rw [e1]; exact w
    · cases e
  case tup xs =>
    split at e
    · rename_i g
      cases e
      unfold inG at g
      simp only [Bool.and_eq_true, decide_eq_true_eq] at g
      obtain ⟨a, vs, rfl, ha, ra⟩ := hq
      cases ry
      obtain ⟨its, rv, pl, hz⟩ := I.tuple ha
      refine SeqAt.notIn_tupleAt (eqBy s.heap p) pl (fun y hy => at_eqBy I hu g.1.1 g.2 hp rx ra rv g.1.2 y (by simpa using hy)) ⟨.bl _, H, I, rfl, ?_⟩
      rw [show its.toArray.any (eqBy s.heap p) = its.any (eqBy s.heap p) by simp, any_eqBy (K := X.K) I g.1.1 ra rv g.1.2]
      exact w
    · cases e
  case lst xs =>
    split at e
    · rename_i g
      cases e
      unfold inG at g
      simp only [Bool.and_eq_true, decide_eq_true_eq] at g
      obtain ⟨a, vs, rfl, ha, ra⟩ := hq
      cases ry
      obtain ⟨its, rv, pl, hz⟩ := I.list (SqL.of ha)
      refine SeqAt.notIn_listAt (eqBy s.heap p) pl.isList (fun y hy => at_eqBy I hu g.1.1 g.2 hp rx ra rv g.1.2 y (by simpa using hy)) ⟨.bl _, H, I, rfl, ?_⟩
      rw [show its.toArray.any (eqBy s.heap p) = its.any (eqBy s.heap p) by simp, any_eqBy (K := X.K) I g.1.1 ra rv g.1.2]
      exact w
    · cases e
  case dict ks vs =>
    split at e
    · rename_i g
      cases e
      obtain ⟨key, hk⟩ := key_ok g
      have ev := key_v hp hk
      subst ev
      obtain ⟨a, kvs, rfl, ha, hks, hr⟩ := hq
      cases ry
      refine d_notIn (show X.A.units + 1 < cLine by omega) I (DGet.k ha) rx fun s' I' => ⟨.bl _, H, I', rfl, ?_⟩
      rw [← find_isSome hk hks hr]
      exact w
    · cases e
  all_goals cases e

/-! ### items, slices, truth -/
theorem at_ix {n : Nat} {i : Int} {k : Nat} (h : at_ n i = some k) : ixN n i = some k ∧ k < n := by
  unfold at_ at h; unfold ixN
  by_cases h0 : 0 ≤ i
  · rw [if_pos h0] at h ⊢
    by_cases h1 : i < n
    · rw [if_pos h1] at h ⊢; cases h; exact ⟨rfl, by omega⟩
    · rw [if_neg h1] at h; cases h
  · rw [if_neg h0] at h ⊢
    by_cases h1 : 0 ≤ i + n
    · rw [if_pos h1] at h; rw [if_pos (by omega)]; cases h; exact ⟨rfl, by omega⟩
    · rw [if_neg h1] at h; cases h
/-- a[i] by the pure one: the item itself -/
def rX (G : Wd) : R2 := fun x y H Q => ∃ bn p q r, RepV G.K bn H p x ∧ RepV G.K bn H q y ∧ index p q = some r ∧ ∀ v, RepP G.K bn H r v → Q v H
theorem ix_dk (hu : X.A.units + 1 < cLine) : IxR X (fun x y H Q => ∃ a v, x = .ref a ∧ DGet H a y (some v) ∧ Q v H) := by
  intro value slice pins s σ H x y ov iv Q I rx ry ⟨a, v, ex, g, q⟩ hs
  subst ex
  obtain rfl : ov = Value.ref a := rx; have hT := dict_typeIs I g
  unfold subscriptTail
  refine wpAny_bind ?_
  rw [getitemInPython_of_ne hT.not_modules]; refine wpAny_bind (wpAny_specialOf hT PySem.F.slot_dict_getitem.lookup ?_)
  have fin : wpAny (model X.prog X.w) X.A (subscripted slice false (.ref a) iv) (fun r s₃ => wpAny (model X.prog X.w) X.A (letTemporaryGo value (.ref a) r >>= fun _ => pure r) (EP X pins σ Q) X.xe s₃) X.xe s := by
    rw [hs]
    exact wpAny_operating (d_getItem hu I g ry fun w' s3 I3 rw' => wpAny_bind (wpAny_letTemporaryGo (wpAny_pure ⟨v, H, I3, rw', q⟩)))
  first
    | exact wpAny_pure (wpAny_bind fin)
    | exact wpAny_bind (wpAny_pure (wpAny_bind fin))
    | exact wpAny_bind fin
theorem ix_pure (hK : X.K = G.K) (hu : X.A.units + 200 < cLine) : IxR X (rX G) := by
  intro value slice pins s σ H x y v u Q I rx ry h hs; obtain ⟨bn, p, q, r, hp, hq, e, w⟩ := h
  rw [← hK] at hp hq w
  by_cases hd : ∃ ks vs, p = .dict ks vs
  · obtain ⟨ks, vs, rfl⟩ := hd
    have e : (if PV.keyOk q then find ks vs q else none) = some r := by cases q <;> exact e
    split at e
    · rename_i g
      obtain ⟨key, hk⟩ := key_ok g
      have ev := key_v hq hk
      subst ev
      obtain ⟨a, kvs, rfl, ha, hks, hr⟩ := hp
      obtain ⟨v0, e1, r0⟩ := (find_rel hk hks hr).1 r e
      exact ix_dk (by omega) value slice pins s σ H _ _ v u Q I rx ry ⟨a, v0, rfl, e1 ▸ DGet.k ha, w _ r0⟩ hs
    · cases e
  refine ix_seq value slice pins s σ H x y v u Q I rx ry ?_ hs
  cases p <;> cases q <;> simp only [index] at e <;> (try cases e; done) <;> (try exact (hd ⟨_, _, rfl⟩).elim; done)
  case str.int z i =>
    have hz := rep_strL hp
    rw [rep_str hp, rep_int hq]
    cases k : at_ z.length i with
    | none => rw [k] at e; cases e
    | some j =>
      rw [k] at e
      obtain ⟨h1, h2⟩ := at_ix k
      cases c : z[j]? with
      | none => simp [c] at e
      | some ch =>
        have e2 : PV.str [ch] = r := by simpa [c] using e
        subst e2
        refine .inr (.inr ⟨_, i, ch, rfl, rfl, ?_, ?_, w _ (repP_str (by show 1 ≤ big; decide))⟩)
        · exact Nat.le_trans (by simpa [Str.length] using hz) big_line
        · show (ixN (z.toArray.toList).length i).bind _ = _
          simp only [List.toList_toArray]
          rw [h1]; exact c
  case tup.int xs i =>
    obtain ⟨a, vs, rfl, ha, ra⟩ := hp
    rw [rep_int hq]
    cases k : at_ xs.length i with
    | none => rw [k] at e; cases e
    | some j =>
      rw [k] at e
      obtain ⟨h1, h2⟩ := at_ix k
      have e' : xs[j]? = some r := e
      obtain ⟨v', g, rr⟩ := ra.get e'
      refine .inr (.inl ⟨a, vs, i, v', rfl, rfl, ha, ?_, w _ rr⟩)
      unfold atI; rw [← ra.length, h1]; exact g
  case lst.int xs i =>
    obtain ⟨a, vs, rfl, ha, ra⟩ := hp
    rw [rep_int hq]
    cases k : at_ xs.length i with
    | none => rw [k] at e; cases e
    | some j =>
      rw [k] at e
      obtain ⟨h1, h2⟩ := at_ix k
      have e' : xs[j]? = some r := e
      obtain ⟨v', g, rr⟩ := ra.get e'
      refine .inl ⟨a, vs, i, v', rfl, rfl, SqL.of ha, ?_, w _ rr⟩
      unfold atI; rw [← ra.length, h1]; exact g
  case scr.int xs i =>
    unfold RepV RepP at hp
    obtain ⟨a, rfl, ha⟩ := hp
    rw [rep_int hq]
    cases k : at_ xs.length i with
    | none => rw [k] at e; cases e
    | some j =>
      rw [k] at e
      obtain ⟨h1, h2⟩ := at_ix k
      cases c : xs[j]? with
      | none => simp [c] at e
      | some n =>
        have e2 : PV.int n = r := by simpa [c] using e
        subst e2
        refine .inl ⟨a, _, i, .int n, rfl, rfl, ha.sq, ?_, w _ repP_int⟩
        unfold atI; rw [List.length_map, h1]
        show (xs.map V.int)[j]? = _
        rw [List.getElem?_map, c]; rfl
end
end Gp

namespace Gp
open PySem PySem.Spec PyProof.Rows L2
section
variable {G : Wd} {W : WX} {X : Cx} {mu mu' : Mu} {bn bn' : List Addr} {H H' : Hp} {S S' : Store}
/-- values that are read -/
def RepR (K : PySem.W.Frag) (bn : List Addr) (H : Hp) (p : PV) (v : V) : Prop := RepV K bn H p v ∧ ∀ xs, p = .tup xs → RepP K bn H p v
def RepRs (K : PySem.W.Frag) (bn : List Addr) (H : Hp) : List PV → List V → Prop
  | [], vs => vs = []
  | p :: ps, vs => ∃ v r, vs = v :: r ∧ RepR K bn H p v ∧ RepRs K bn H ps r
theorem rds_rep {K : PySem.W.Frag} (R : RepS K mu bn H S) : ∀ {ls : List LV} {vs : List V} {ps : List PV}, RepLs K mu bn H ls vs → rds S ls = some ps → RepRs K bn H ps vs
  | [], vs, ps, h, e => by
    have e' : ps = [] := by simpa [rds] using e.symm
    subst e'; exact h.unnil
  | l :: ls, vs, ps, h, e => by
    obtain ⟨v, r, rfl, h1, h2⟩ := h.uncons
    unfold rds at e
    cases e1 : rd S l with
    | none => rw [e1] at e; cases e
    | some p =>
      cases e2 : rds S ls with
      | none => rw [e1, e2] at e; cases e
      | some q =>
        rw [e1, e2] at e
        have e' : p :: q = ps := by simpa using e
        subst e'
        exact ⟨v, r, rfl, ⟨rd_rep R h1 e1, by
          intro xs ep
          subst ep
          cases l with
          | pv q => have e' : q = .tup xs := Option.some.inj e1
                    subst e'; exact h1.toP
          | ref k =>
            cases hk : S[k]? with
            | none => simp [rd, hk] at e1
            | some o => cases o <;> simp [rd, hk] at e1
          | ls _ => simp [rd] at e1
          | dT _ _ => simp [rd] at e1
          | ht ys =>
            have e' : PV.tup ys = .tup xs := Option.some.inj e1
            cases e'; exact h1.htP⟩, rds_rep R h2 e2⟩
theorem RepRs.one {K : PySem.W.Frag} {p : PV} {vs : List V} (h : RepRs K bn H [p] vs) : ∃ v, vs = [v] ∧ RepR K bn H p v := by
  obtain ⟨v, r, rfl, h1, h2⟩ := h
  have h2 : r = [] := h2
  subst h2
  exact ⟨v, rfl, h1⟩
theorem RepRs.two {K : PySem.W.Frag} {p q : PV} {vs : List V} (h : RepRs K bn H [p, q] vs) : ∃ v u, vs = [v, u] ∧ RepR K bn H p v ∧ RepR K bn H q u := by
  obtain ⟨v, r, rfl, h1, h2⟩ := h
  obtain ⟨u, e, h3⟩ := RepRs.one h2
  subst e
  exact ⟨v, u, rfl, h1, h3⟩
/-- a built-in's call by the pure one -/
def rBl (G : Wd) (f : Bid) : List V → Hp → VK → Prop := fun vs H Q => ∃ (W : WX) (σ : Sg) (mu : Mu) (bn : List Addr) (S : Store) (ps : List PV) (al : Bool), RepS G.K mu bn H S ∧ RepRs G.K bn H ps vs ∧ To G W (rlE G) σ mu bn H Q (mkV al (builtin f ps) S)
theorem mk_new {σ : Sg} {Q : VK} {al : Bool} {xs : List PV} {vs : List V} {p : Addr} (h : To G W (rlE G) σ mu bn H Q (mkV al (some (.lst xs)) S)) (R : RepS G.K mu bn H S) (hp : H p = none) (r : RepPs G.K bn H xs vs) : Q (.ref p) (upd H p (.lst vs)) := by
  cases al with
  | false => exact Wn.lst (show Wn G mu bn H S Q (.lst xs) from h) R hp r
  | true =>
    have h : OkG G (rlE G) mu bn H Q (.ref S.length) (S ++ [.lst xs]) := h
    have t := Tr.store (mu := mu) (bn := bn) (o := .lst vs) hp
    have k : Kp bn H (p :: bn) (upd H p (.lst vs)) := t.kp R
    refine h _ _ _ _ t (R.store hp ⟨vs, upd_same, r.mono k⟩) ?_
    unfold rlE RepL
    refine ⟨by rw [List.length_append, R.len]; simp, fun a e => ?_⟩
    rw [List.getElem?_append_right (by rw [R.len]; exact Nat.le_refl _), R.len, Nat.sub_self] at e
    simp at e
    rw [e]
theorem mk_val {σ : Sg} {Q : VK} {al : Bool} {o : Option PV} (h : To G W (rlE G) σ mu bn H Q (mkV al o S)) (hl : ∀ xs, o ≠ some (.lst xs)) (hd : ∀ ks vs, o ≠ some (.dict ks vs)) : ∃ p, o = some p ∧ Wn G mu bn H S Q p := by
  cases o with
  | none => cases al <;> exact h.elim
  | some p =>
    refine ⟨p, rfl, ?_⟩
    cases al with
    | false => exact h
    | true =>
      cases p with
      | lst xs => exact absurd rfl (hl xs)
      | dict ks vs => exact absurd rfl (hd ks vs)
      | _ => exact h.elim
theorem intsOf_rep {K : PySem.W.Frag} : ∀ {xs : List PV} {ns : List Int} {vs : List V}, intsOf xs = some ns → RepPs K bn H xs vs → vs = ns.map V.int
  | [], ns, vs, e, h => by
    have : ns = [] := by simpa [intsOf] using e.symm
    subst this; unfold RepPs at h; exact h
  | x :: xs, ns, vs, e, h => by
    unfold RepPs at h
    obtain ⟨v, r, rfl, h1, h2⟩ := h
    cases x <;> simp only [intsOf] at e <;> (try cases e; done)
    rename_i i
    cases q : intsOf xs with
    | none => rw [q] at e; cases e
    | some ms =>
      rw [q] at e
      have e' : i :: ms = ns := by simpa using e
      subst e'
      rw [rep_int h1.v, intsOf_rep q h2]; rfl
theorem blsOf_rep {K : PySem.W.Frag} : ∀ {xs : List PV} {ns : List Bool} {vs : List V}, blsOf xs = some ns → RepPs K bn H xs vs → vs = ns.map V.bl
  | [], ns, vs, e, h => by
    have : ns = [] := by simpa [blsOf] using e.symm
    subst this; unfold RepPs at h; exact h
  | x :: xs, ns, vs, e, h => by
    unfold RepPs at h
    obtain ⟨v, r, rfl, h1, h2⟩ := h
    cases x <;> simp only [blsOf] at e <;> (try cases e; done)
    rename_i i
    cases q : blsOf xs with
    | none => rw [q] at e; cases e
    | some ms =>
      rw [q] at e
      have e' : i :: ms = ns := by simpa using e
      subst e'
      rw [rep_bl h1.v, blsOf_rep q h2]; rfl
theorem repPs_ints {K : PySem.W.Frag} : ∀ ns : List Int, RepPs K bn H (ns.map .int) (ns.map V.int)
  | [] => repPs_nil
  | n :: ns => repPs_cons repP_int (repPs_ints ns)
theorem pull (o : Option PV) : (∃ p, o = some p) ∨ o = none := by cases o <;> simp
theorem cb_len (hK : X.K = G.K) : CallR X (.builtin "len") (rBl G .len) := by
  intro pins s σ H vs us Q I r h; obtain ⟨W, σ', mu, bn, S, ps, al, R, rp, h⟩ := h
  rw [← hK] at rp
  match ps, rp, h with
  | [], _, h => cases al <;> exact h.elim
  | _ :: _ :: _, _, h => rename_i a b c _; cases a <;> cases al <;> exact h.elim
  | [p], rp, h =>
    obtain ⟨v, rfl, rv, rt⟩ := rp.one
    cases p with
    | tup xs =>
      obtain ⟨q, e, w⟩ := mk_val h (by intro _ e; cases e) (by intro _ _ e; cases e)
      cases e
      obtain ⟨a, us, rfl, ha, ra⟩ := rv
      refine call_len_seq pins s σ H _ _ Q I r ⟨a, us, rfl, .inr ha, w.scal R ?_⟩
      rw [← ra.length]; exact repP_int
    | lst xs =>
      obtain ⟨q, e, w⟩ := mk_val h (by intro _ e; cases e) (by intro _ _ e; cases e)
      cases e
      obtain ⟨a, us, rfl, ha, ra⟩ := rv
      refine call_len_seq pins s σ H _ _ Q I r ⟨a, us, rfl, .inl (SqL.of ha), w.scal R ?_⟩
      rw [← ra.length]; exact repP_int
    | scr xs =>
      obtain ⟨q, e, w⟩ := mk_val h (by intro _ e; cases e) (by intro _ _ e; cases e)
      cases e
      unfold RepV RepP at rv
      obtain ⟨a, rfl, ha⟩ := rv
      refine call_len_seq pins s σ H _ _ Q I r ⟨a, _, rfl, .inl ha.sq, w.scal R ?_⟩
      rw [List.length_map]; exact repP_int
    | str xs =>
      obtain ⟨q, e, w⟩ := mk_val h (by intro _ e; cases e) (by intro _ _ e; cases e)
      cases e
      have hl := rep_strL rv
      have ev := rep_str rv
      subst ev
      exact call_len_str pins s σ H _ _ Q I r ⟨_, rfl, Nat.le_trans (by simpa [Str.length] using hl) big_line, w.scal R (by simpa [Str.length] using repP_int)⟩
    | dict ks ws =>
      obtain ⟨q, e, w⟩ := mk_val h (by intro _ e; cases e) (by intro _ _ e; cases e)
      cases e
      obtain ⟨a, kvs, rfl, ha, hk, _⟩ := rv
      refine call_lenD pins s σ H _ _ Q I r ⟨a, kvs, rfl, ha, w.scal R ?_⟩
      rw [← hk.length]; exact repP_int
    | non => cases al <;> exact h.elim
    | bl _ => cases al <;> exact h.elim
    | int _ => cases al <;> exact h.elim
/-- of one list of ints, bools .. -/
theorem arg_lst {f : Bid} {σ : Sg} {al : Bool} {ps : List PV} {vs : List V} {Q : VK} (rp : RepRs X.K bn H ps vs) (h : To G W (rlE G) σ mu bn H Q (mkV al (builtin f ps) S))
    (hf : ∀ ps p, builtin f ps = some p → ∃ xs, ps = [.lst xs]) : ∃ xs a us, ps = [.lst xs] ∧ vs = [.ref a] ∧ H a = some (.lst us) ∧ RepPs X.K bn H xs us := by
  rcases pull (builtin f ps) with ⟨p, e⟩ | e
  · obtain ⟨xs, rfl⟩ := hf ps p e
    obtain ⟨v, rfl, rv, _⟩ := rp.one
    obtain ⟨a, us, rfl, ha, ra⟩ := rv
    exact ⟨xs, a, us, rfl, rfl, ha, ra⟩
  · rw [e] at h; cases al <;> exact h.elim
theorem shape_sum : ∀ ps p, builtin .sum ps = some p → ∃ xs, ps = [.lst xs] := by
  intro ps p e
  match ps, e with
  | [], e => cases e
  | [x], e => cases x <;> first | exact ⟨_, rfl⟩ | cases e
  | x :: _ :: _, e => cases x <;> cases e
theorem shape_all : ∀ ps p, builtin .all ps = some p → ∃ xs, ps = [.lst xs] := by
  intro ps p e
  match ps, e with
  | [], e => cases e
  | [x], e => cases x <;> first | exact ⟨_, rfl⟩ | cases e
  | x :: _ :: _, e => cases x <;> cases e
theorem shape_any : ∀ ps p, builtin .any ps = some p → ∃ xs, ps = [.lst xs] := by
  intro ps p e
  match ps, e with
  | [], e => cases e
  | [x], e => cases x <;> first | exact ⟨_, rfl⟩ | cases e
  | x :: _ :: _, e => cases x <;> cases e
theorem shape_sorted : ∀ ps p, builtin .sorted ps = some p → ∃ xs, ps = [.lst xs] := by
  intro ps p e
  match ps, e with
  | [], e => cases e
  | [x], e => cases x <;> first | exact ⟨_, rfl⟩ | cases e
  | x :: _ :: _, e => cases x <;> cases e
theorem shape_min : ∀ ps p, builtin .min1 ps = some p → ∃ xs, ps = [.lst xs] := by
  intro ps p e
  match ps, e with
  | [], e => cases e
  | [x], e => cases x <;> first | exact ⟨_, rfl⟩ | cases e
  | x :: _ :: _, e => cases x <;> cases e
theorem shape_max : ∀ ps p, builtin .max1 ps = some p → ∃ xs, ps = [.lst xs] := by
  intro ps p e
  match ps, e with
  | [], e => cases e
  | [x], e => cases x <;> first | exact ⟨_, rfl⟩ | cases e
  | x :: _ :: _, e => cases x <;> cases e
theorem cb_sum (hK : X.K = G.K) (hc : X.calm = true) : CallR X (.builtin "sum") (rBl G .sum) := by
  intro pins s σ H vs us Q I r h; obtain ⟨W, σ', mu, bn, S, ps, al, R, rp, h⟩ := h
  rw [← hK] at rp
  obtain ⟨xs, a, ws, rfl, rfl, ha, ra⟩ := arg_lst rp h shape_sum
  have h : To G W (rlE G) σ' mu bn H Q (mkV al ((intsOf xs).map fun l => .int l.sum) S) := h
  cases e : intsOf xs with
  | none => rw [e] at h; cases al <;> exact h.elim
  | some ns =>
    rw [e] at h
    obtain ⟨q, e2, w⟩ := mk_val h (by intro _ e; cases e) (by intro _ _ e; cases e)
    cases e2
    have ew := intsOf_rep e ra
    subst ew
    exact cr_sum hc pins s σ H _ _ Q I r ⟨a, ns, rfl, SqL.of ha, w.scal R repP_int⟩
theorem cb_all (hK : X.K = G.K) (hc : X.calm = true) : CallR X (.builtin "all") (rBl G .all) := by
  intro pins s σ H vs us Q I r h; obtain ⟨W, σ', mu, bn, S, ps, al, R, rp, h⟩ := h
  rw [← hK] at rp
  obtain ⟨xs, a, ws, rfl, rfl, ha, ra⟩ := arg_lst rp h shape_all
  have h : To G W (rlE G) σ' mu bn H Q (mkV al ((blsOf xs).map fun l => .bl (l.all id)) S) := h
  cases e : blsOf xs with
  | none => rw [e] at h; cases al <;> exact h.elim
  | some ns =>
    rw [e] at h
    obtain ⟨q, e2, w⟩ := mk_val h (by intro _ e; cases e) (by intro _ _ e; cases e)
    cases e2
    have ew := blsOf_rep e ra
    subst ew
    exact cr_all hc pins s σ H _ _ Q I r ⟨a, ns, rfl, SqL.of ha, w.scal R repP_bl⟩
theorem cb_any (hK : X.K = G.K) (hc : X.calm = true) : CallR X (.builtin "any") (rBl G .any) := by
  intro pins s σ H vs us Q I r h; obtain ⟨W, σ', mu, bn, S, ps, al, R, rp, h⟩ := h
  rw [← hK] at rp
  obtain ⟨xs, a, ws, rfl, rfl, ha, ra⟩ := arg_lst rp h shape_any
  have h : To G W (rlE G) σ' mu bn H Q (mkV al ((blsOf xs).map fun l => .bl (l.any id)) S) := h
  cases e : blsOf xs with
  | none => rw [e] at h; cases al <;> exact h.elim
  | some ns =>
    rw [e] at h
    obtain ⟨q, e2, w⟩ := mk_val h (by intro _ e; cases e) (by intro _ _ e; cases e)
    cases e2
    have ew := blsOf_rep e ra
    subst ew
    exact cr_any hc pins s σ H _ _ Q I r ⟨a, ns, rfl, SqL.of ha, w.scal R repP_bl⟩
/-! ints sorted, the least, the greatest -/
theorem insI_perm (x : Int) : ∀ l : List Int, (insI x l).Perm (x :: l)
  | [] => List.Perm.refl _
  | y :: ys => by
    unfold insI
    split
    · exact List.Perm.refl _
    · exact ((insI_perm x ys).cons y).trans (List.Perm.swap x y ys)
theorem isortI_perm : ∀ l : List Int, (isortI l).Perm l
  | [] => List.Perm.refl _
  | x :: xs => (insI_perm x _).trans ((isortI_perm xs).cons x)
theorem insI_sorted (x : Int) : ∀ l : List Int, l.Pairwise (· ≤ ·) → (insI x l).Pairwise (· ≤ ·)
  | [], _ => by simp [insI]
  | y :: ys, h => by
    obtain ⟨h1, h2⟩ := List.pairwise_cons.mp h; unfold insI
    split
    · rename_i hx
      refine List.pairwise_cons.mpr ⟨fun z hz => ?_, h⟩
      rcases List.mem_cons.mp hz with rfl | hz
      · omega
      · have := h1 z hz; omega
    · rename_i hx
      refine List.pairwise_cons.mpr ⟨fun z hz => ?_, insI_sorted x ys h2⟩
      rcases List.mem_cons.mp ((insI_perm x ys).mem_iff.mp hz) with rfl | hz
      · omega
      · exact h1 z hz
theorem isortI_sorted : ∀ l : List Int, (isortI l).Pairwise (· ≤ ·)
  | [] => List.Pairwise.nil
  | x :: xs => insI_sorted x _ (isortI_sorted xs)
theorem sorted_unique : ∀ {l m : List Int}, l.Perm m → l.Pairwise (· ≤ ·) → m.Pairwise (· ≤ ·) → l = m := fun p h1 h2 =>
  List.Perm.eq_of_pairwise (fun a b _ _ => Int.le_antisymm) h1 h2 p
theorem cb_sorted (hK : X.K = G.K) : CallR X (.builtin "sorted") (rBl G .sorted) := by
  intro pins s σ H vs us Q I r h; obtain ⟨W, σ', mu, bn, S, ps, al, R, rp, h⟩ := h
  rw [← hK] at rp
  obtain ⟨xs, a, ws, rfl, rfl, ha, ra⟩ := arg_lst rp h shape_sorted
  have h : To G W (rlE G) σ' mu bn H Q (mkV al ((intsOf xs).map fun l => .lst ((isortI l).map .int)) S) := h
  cases e : intsOf xs with
  | none => rw [e] at h; cases al <;> exact h.elim
  | some ns =>
    rw [e] at h
    have ew := intsOf_rep e ra
    subst ew
    refine cr_sortedI pins s σ H _ _ Q I r ⟨a, ns, rfl, SqL.of ha, fun ns' p h1 h2 hp => ?_⟩
    have e2 : ns' = isortI ns := sorted_unique (h1.trans (isortI_perm ns).symm) h2 (isortI_sorted ns)
    subst e2
    exact mk_new h R hp (repPs_ints _)
theorem foldMin : ∀ (l : List Int) (y : Int), (l.foldl (fun m x => if x < m then x else m) y ∈ y :: l) ∧ ∀ z ∈ y :: l, l.foldl (fun m x => if x < m then x else m) y ≤ z
  | [], y => ⟨List.mem_singleton.mpr rfl, fun z hz => by rw [List.mem_singleton.mp hz]; exact Int.le_refl _⟩
  | x :: l, y => by
    obtain ⟨h1, h2⟩ := foldMin l (if x < y then x else y)
    rw [List.foldl_cons]
    refine ⟨?_, fun z hz => ?_⟩
    · rcases List.mem_cons.mp h1 with e | e
      · rw [e]; split <;> simp
      · simp [e]
    · have h3 := h2 _ List.mem_cons_self
      rcases List.mem_cons.mp hz with rfl | hz
      · exact Int.le_trans h3 (by split <;> omega)
      · rcases List.mem_cons.mp hz with rfl | hz
        · exact Int.le_trans h3 (by split <;> omega)
        · exact h2 z (List.mem_cons_of_mem _ hz)
theorem foldMax : ∀ (l : List Int) (y : Int), (l.foldl (fun m x => if m < x then x else m) y ∈ y :: l) ∧ ∀ z ∈ y :: l, z ≤ l.foldl (fun m x => if m < x then x else m) y
  | [], y => ⟨List.mem_singleton.mpr rfl, fun z hz => by rw [List.mem_singleton.mp hz]; exact Int.le_refl _⟩
  | x :: l, y => by
    obtain ⟨h1, h2⟩ := foldMax l (if y < x then x else y)
    rw [List.foldl_cons]
    refine ⟨?_, fun z hz => ?_⟩
    · rcases List.mem_cons.mp h1 with e | e
      · rw [e]; split <;> simp
      · simp [e]
    · have h3 := h2 _ List.mem_cons_self
      rcases List.mem_cons.mp hz with rfl | hz
      · exact Int.le_trans (by split <;> omega) h3
      · rcases List.mem_cons.mp hz with rfl | hz
        · exact Int.le_trans (by split <;> omega) h3
        · exact h2 z (List.mem_cons_of_mem _ hz)
theorem cb_min1 (hK : X.K = G.K) (hc : X.calm = true) : CallR X (.builtin "min") (rBl G .min1) := by
  intro pins s σ H vs us Q I r h; obtain ⟨W, σ', mu, bn, S, ps, al, R, rp, h⟩ := h
  rw [← hK] at rp
  obtain ⟨xs, a, ws, rfl, rfl, ha, ra⟩ := arg_lst rp h shape_min
  simp only [builtin] at h
  cases e : intsOf xs with
  | none => rw [e] at h; cases al <;> exact h.elim
  | some ns =>
    rw [e] at h
    have ew := intsOf_rep e ra
    subst ew
    cases ns with
    | nil => cases al <;> exact h.elim
    | cons y ys =>
      obtain ⟨q, e2, w⟩ := mk_val h (by intro _ e; cases e) (by intro _ _ e; cases e)
      cases e2
      obtain ⟨f1, f2⟩ := foldMin ys y
      refine cr_min hc pins s σ H _ _ Q I r ⟨a, y :: ys, rfl, SqL.of ha, by simp, fun m hm hle => ?_⟩
      have : m = ys.foldl (fun m x => if x < m then x else m) y := Int.le_antisymm (hle _ f1) (f2 _ hm)
      subst this
      exact w.scal R repP_int
theorem cb_max1 (hK : X.K = G.K) (hc : X.calm = true) : CallR X (.builtin "max") (rBl G .max1) := by
  intro pins s σ H vs us Q I r h; obtain ⟨W, σ', mu, bn, S, ps, al, R, rp, h⟩ := h
  rw [← hK] at rp
  obtain ⟨xs, a, ws, rfl, rfl, ha, ra⟩ := arg_lst rp h shape_max
  simp only [builtin] at h
  cases e : intsOf xs with
  | none => rw [e] at h; cases al <;> exact h.elim
  | some ns =>
    rw [e] at h
    have ew := intsOf_rep e ra
    subst ew
    cases ns with
    | nil => cases al <;> exact h.elim
    | cons y ys =>
      obtain ⟨q, e2, w⟩ := mk_val h (by intro _ e; cases e) (by intro _ _ e; cases e)
      cases e2
      obtain ⟨f1, f2⟩ := foldMax ys y
      refine cr_max hc pins s σ H _ _ Q I r ⟨a, y :: ys, rfl, SqL.of ha, by simp, fun m hm hle => ?_⟩
      have : m = ys.foldl (fun m x => if m < x then x else m) y := Int.le_antisymm (f2 _ hm) (hle _ f1)
      subst this
      exact w.scal R repP_int
end
end Gp

namespace Gp
open PySem PySem.Spec PyProof.Rows L2
section
variable {G : Wd} {W : WX} {X : Cx} {mu mu' : Mu} {bn bn' : List Addr} {H H' : Hp} {S S' : Store}
theorem mk_sc {σ : Sg} {Q : VK} {al : Bool} {p : PV} (h : To G W (rlE G) σ mu bn H Q (mkV al (some p) S)) (hl : ∀ xs, p ≠ .lst xs) (hd : ∀ ks vs, p ≠ .dict ks vs) : Wn G mu bn H S Q p := by
  obtain ⟨q, e, w⟩ := mk_val h (fun xs e => hl xs (Option.some.inj e)) (fun ks vs e => hd ks vs (Option.some.inj e))
  cases e; exact w
theorem mk_none {σ : Sg} {Q : VK} {al : Bool} (h : To G W (rlE G) σ mu bn H Q (mkV al none S)) : False := by cases al <;> exact h
theorem nums_eq : ∀ (f n : Nat), n < 10 ^ f → 0 < f → digitsN f n = TL.numL n
  | 0, _, _, h => absurd h (Nat.lt_irrefl 0)
  | f + 1, n, h, _ => by
    unfold digitsN
    split
    · rename_i h1; rw [TL.numL_lt h1]
    · rename_i h1
      have hf : 0 < f := by
        rcases Nat.eq_zero_or_pos f with e | e
        · subst e; simp at h; omega
        · exact e
      have hn : 10 ≤ n := by omega
      rw [nums_eq f (n / 10) (by rw [Nat.pow_succ, Nat.mul_comm] at h; exact Nat.div_lt_of_lt_mul h) hf, ← TL.numL_step hn]
theorem digits_len : ∀ (f n : Nat), (digitsN f n).length ≤ f
  | 0, _ => by simp [digitsN]
  | f + 1, n => by
    unfold digitsN
    split
    · simp
    · rw [List.length_append]; have := digits_len f (n / 10); simp; omega
theorem str_num {i : Int} (h0 : 0 ≤ i) (h1 : i < 1000000000000) : (Str.ofString (toString i) : Str) = ⟨(digitsN 20 i.toNat).toArray⟩ := by
  obtain ⟨n, rfl⟩ := Int.eq_ofNat_of_zero_le h0
  apply TL.ext_tl
  rw [TL.tl_num]
  show _ = (digitsN 20 n).toArray.toList
  rw [nums_eq 20 n (by omega) (by decide)]
theorem num_val : ∀ (x : List Nat) (n k : Nat), numOf x n = some k → NumText.AllDigits x ∧ k = x.foldl (fun n c => n * 10 + (c - 48)) n
  | [], n, k, h => ⟨fun c hc => (by cases hc), by simpa [numOf] using h.symm⟩
  | c :: cs, n, k, h => by
    unfold numOf at h
    split at h
    · rename_i hc
      obtain ⟨h1, h2⟩ := num_val cs _ k h
      refine ⟨fun d hd => ?_, h2⟩
      rcases List.mem_cons.mp hd with rfl | hd
      · exact hc
      · exact h1 d hd
    · cases h
theorem int_text {x : List Nat} {i : Int} (h : intOf x = some i) : PySem.intText? ⟨x.toArray⟩ = some i ∧ x.length ≤ 600 := by
  unfold intOf at h
  split at h
  · cases h
  · rename_i hc
    simp only [Bool.or_eq_true, decide_eq_true_eq, not_or] at hc
    cases e : numOf x 0 with
    | none => rw [e] at h; cases h
    | some k =>
      rw [e] at h
      have h : (k : Int) = i := by simpa using h
      subst h
      obtain ⟨h1, h2⟩ := num_val x 0 k e
      refine ⟨?_, by omega⟩
      have q := intText_digits (x := ⟨x.toArray⟩) (by simpa using h1) (by intro z; apply hc.1; have z : x = [] := by simpa using z
                                                                          rw [z]; rfl) (by simp [Str.length]; omega)
      rw [q]
      have : (NumText.digitsVal x) = k := by rw [h2]; rfl
      simp only [List.toList_toArray]
      rw [this]
theorem cb_int (hK : X.K = G.K) : CallR X (.type "int") (rBl G .int) := by
  intro pins s σ H vs us Q I r h; obtain ⟨W, σ', mu, bn, S, ps, al, R, rp, h⟩ := h
  rw [← hK] at rp
  match ps, rp, h with
  | [], _, h => exact (mk_none h).elim
  | a :: _ :: _, _, h => cases a <;> exact (mk_none h).elim
  | [p], rp, h =>
    obtain ⟨v, rfl, rv, rt⟩ := rp.one
    cases p with
    | int i =>
      have w := mk_sc h (by intro _ e; cases e) (by intro _ _ e; cases e)
      have e := rep_int rv; subst e
      exact call_int1 pins s σ H _ _ Q I r (.inl ⟨i, rfl, w.scal R repP_int⟩)
    | bl b =>
      have w := mk_sc h (by intro _ e; cases e) (by intro _ _ e; cases e)
      have e := rep_bl rv; subst e
      exact call_int1 pins s σ H _ _ Q I r (.inr ⟨b, rfl, w.scal R repP_int⟩)
    | str x =>
      have h : To G W (rlE G) σ' mu bn H Q (mkV al ((intOf x).map .int) S) := h
      cases e : intOf x with
      | none => rw [e] at h; exact (mk_none h).elim
      | some i =>
        rw [e] at h
        have w := mk_sc h (by intro _ e; cases e) (by intro _ _ e; cases e)
        obtain ⟨e1, e2⟩ := int_text e
        have ev := rep_str rv; subst ev
        exact call_int_str pins s σ H _ _ Q I r ⟨_, i, rfl, e1, by simp [Str.length]; omega, w.scal R repP_int⟩
    | _ => exact (mk_none h).elim
theorem cb_str (hK : X.K = G.K) : CallR X (.type "str") (rBl G .str) := by
  intro pins s σ H vs us Q I r h; obtain ⟨W, σ', mu, bn, S, ps, al, R, rp, h⟩ := h
  rw [← hK] at rp
  match ps, rp, h with
  | [], _, h => exact (mk_none h).elim
  | a :: _ :: _, _, h => cases a <;> exact (mk_none h).elim
  | [p], rp, h =>
    obtain ⟨v, rfl, rv, rt⟩ := rp.one
    cases p with
    | int i =>
      have h : To G W (rlE G) σ' mu bn H Q (mkV al (if decide (0 ≤ i) && decide (i < 1000000000000) then some (.str (digitsN 20 i.toNat)) else none) S) := h
      split at h
      · rename_i g
        simp only [Bool.and_eq_true, decide_eq_true_eq] at g
        have w := mk_sc h (by intro _ e; cases e) (by intro _ _ e; cases e)
        have e := rep_int rv; subst e
        refine call_str_int pins s σ H _ _ Q I r ⟨i, rfl, ?_, ?_⟩
        · have h40 : i.natAbs < 2 ^ 40 := by omega
          have hl : i.natAbs.log2 < 41 := by
            rcases Nat.eq_zero_or_pos i.natAbs with e | e
            · rw [e]; decide
            · exact Nat.lt_of_lt_of_le ((Nat.log2_lt (by omega)).mpr h40) (by decide)
          omega
        · rw [str_num g.1 g.2]
          exact w.scal R (repP_str (Nat.le_trans (digits_len _ _) (by decide)))
      · exact (mk_none h).elim
    | _ => exact (mk_none h).elim
theorem cb_abs (hK : X.K = G.K) : CallR X (.builtin "abs") (rBl G .abs) := by
  intro pins s σ H vs us Q I r h; obtain ⟨W, σ', mu, bn, S, ps, al, R, rp, h⟩ := h
  rw [← hK] at rp
  match ps, rp, h with
  | [], _, h => exact (mk_none h).elim
  | a :: _ :: _, _, h => cases a <;> exact (mk_none h).elim
  | [p], rp, h =>
    obtain ⟨v, rfl, rv, rt⟩ := rp.one
    cases p with
    | int i =>
      have w := mk_sc h (by intro _ e; cases e) (by intro _ _ e; cases e)
      have e := rep_int rv; subst e
      exact call_abs pins s σ H _ _ Q I r ⟨i, rfl, w.scal R repP_int⟩
    | _ => exact (mk_none h).elim
theorem cb_min2 (hK : X.K = G.K) (hc : X.calm = true) : CallR X (.builtin "min") (rBl G .min2) := by
  intro pins s σ H vs us Q I r h; obtain ⟨W, σ', mu, bn, S, ps, al, R, rp, h⟩ := h
  rw [← hK] at rp
  match ps, rp, h with
  | [], _, h => exact (mk_none h).elim
  | [a], _, h => cases a <;> exact (mk_none h).elim
  | a :: b :: _ :: _, _, h => cases a <;> cases b <;> exact (mk_none h).elim
  | [p, q], rp, h =>
    obtain ⟨v, u, rfl, rv, ru⟩ := rp.two
    cases p <;> (try exact (mk_none h).elim)
    cases q <;> (try exact (mk_none h).elim)
    rename_i i j
    have w := mk_sc h (by intro _ e; cases e) (by intro _ _ e; cases e)
    have e := rep_int rv.1; subst e
    have e := rep_int ru.1; subst e
    exact call_min2 hc pins s σ H _ _ Q I r ⟨i, j, rfl, w.scal R repP_int⟩
theorem cb_max2 (hK : X.K = G.K) (hc : X.calm = true) : CallR X (.builtin "max") (rBl G .max2) := by
  intro pins s σ H vs us Q I r h; obtain ⟨W, σ', mu, bn, S, ps, al, R, rp, h⟩ := h
  rw [← hK] at rp
  match ps, rp, h with
  | [], _, h => exact (mk_none h).elim
  | [a], _, h => cases a <;> exact (mk_none h).elim
  | a :: b :: _ :: _, _, h => cases a <;> cases b <;> exact (mk_none h).elim
  | [p, q], rp, h =>
    obtain ⟨v, u, rfl, rv, ru⟩ := rp.two
    cases p <;> (try exact (mk_none h).elim)
    cases q <;> (try exact (mk_none h).elim)
    rename_i i j
    have w := mk_sc h (by intro _ e; cases e) (by intro _ _ e; cases e)
    have e := rep_int rv.1; subst e
    have e := rep_int ru.1; subst e
    exact call_max2 hc pins s σ H _ _ Q I r ⟨i, j, rfl, w.scal R repP_int⟩
theorem cb_tuple (hK : X.K = G.K) : CallR X (.type "tuple") (rBl G .tuple) := by
  intro pins s σ H vs us Q I r h; obtain ⟨W, σ', mu, bn, S, ps, al, R, rp, h⟩ := h
  rw [← hK] at rp
  match ps, rp, h with
  | [], _, h => exact (mk_none h).elim
  | a :: _ :: _, _, h => cases a <;> exact (mk_none h).elim
  | [p], rp, h =>
    obtain ⟨v, rfl, rv, rt⟩ := rp.one
    cases p with
    | lst xs =>
      have w := mk_sc h (by intro _ e; cases e) (by intro _ _ e; cases e)
      obtain ⟨a, ws, rfl, ha, ra⟩ := rv
      exact call_tuple_of pins s σ H _ _ Q I r ⟨a, ws, rfl, .inl ⟨SqL.of ha, fun l hl => w.tup R hl (hK ▸ ra)⟩⟩
    | tup xs =>
      have w := mk_sc h (by intro _ e; cases e) (by intro _ _ e; cases e)
      have hp := rt _ rfl
      obtain ⟨a, ws, rfl, ha, ra⟩ := rv
      exact call_tuple_of pins s σ H _ _ Q I r ⟨a, ws, rfl, .inr ⟨ha, w.scal R (hK ▸ hp)⟩⟩
    | _ => exact (mk_none h).elim
theorem cb_list (hK : X.K = G.K) : CallR X (.type "list") (rBl G .list) := by
  intro pins s σ H vs us Q I r h; obtain ⟨W, σ', mu, bn, S, ps, al, R, rp, h⟩ := h
  rw [← hK] at rp
  match ps, rp, h with
  | [], _, h => exact (mk_none h).elim
  | a :: _ :: _, _, h => cases a <;> exact (mk_none h).elim
  | [p], rp, h =>
    obtain ⟨v, rfl, rv, rt⟩ := rp.one
    cases p with
    | lst xs =>
      obtain ⟨a, ws, rfl, ha, ra⟩ := rv
      exact call_list_of pins s σ H _ _ Q I r ⟨a, ws, rfl, .inl (SqL.of ha), fun l hl => mk_new h R hl (hK ▸ ra)⟩
    | tup xs =>
      obtain ⟨a, ws, rfl, ha, ra⟩ := rv
      exact call_list_of pins s σ H _ _ Q I r ⟨a, ws, rfl, .inr ha, fun l hl => mk_new h R hl (hK ▸ ra)⟩
    | _ => exact (mk_none h).elim

/-! ### isinstance -/
def nmTy : Ty → String
  | .int => "int"
  | .bool => "bool"
  | .str => "str"
  | .tuple => "tuple"
  | .list => "list"
  | .dict => "dict"
def tyN : PV → String
  | .non => "NoneType"
  | .bl _ => "bool"
  | .int _ => "int"
  | .str _ => "str"
  | .tup _ => "tuple"
  | .lst _ => "list"
  | .dict _ _ => "dict"
  | .scr _ => "list"
def isN (n : String) (t : Ty) : Bool :=
  match t with
  | .int => n == "int" || n == "bool"
  | .bool => n == "bool"
  | .str => n == "str"
  | .tuple => n == "tuple"
  | .list => n == "list"
  | .dict => n == "dict"
theorem kit_tab : (["NoneType", "bool", "int", "str", "tuple", "list", "dict"].all fun n => [Ty.int, .bool, .str, .tuple, .list, .dict].all fun t => kitB n (nmTy t) == some (isN n t)) = true := by decide +kernel
theorem kit_is (p : PV) (t : Ty) : kitB (tyN p) (nmTy t) = some (isTy p t) := by
  have e : isN (tyN p) t = isTy p t := by cases p <;> cases t <;> rfl
  have h := kit_tab
  rw [List.all_eq_true] at h
  have h1 := h (tyN p) (by cases p <;> simp [tyN])
  rw [List.all_eq_true] at h1
  have h2 := h1 t (by cases t <;> simp)
  rw [← e]; exact beq_iff_eq.mp h2
theorem tyx_of {K : PySem.W.Frag} {p : PV} {v : V} (h : RepV K bn H p v) : TyX K H v (.type (tyN p)) := by
  cases p with
  | non => rw [rep_non h]; exact .base .non
  | bl b => rw [rep_bl h]; exact .base (.bl b)
  | int b => rw [rep_int h]; exact .base (.int b)
  | str b => rw [rep_str h]; exact .base (.str _)
  | tup b =>
    obtain ⟨a, vs, rfl, ha, _⟩ := h
    rcases ha with (ha | ⟨o, ha⟩) | ⟨o, its, n, ho, hc, _⟩
    · exact .base (.tup ha)
    · exact .fTuple ha
    · exact .kTuple ho hc
  | lst b => obtain ⟨a, vs, rfl, ha, _⟩ := h; exact .base (.lst ha)
  | dict _ _ => obtain ⟨a, kvs, rfl, ha, _⟩ := h; exact .base (.dK ha)
  | scr b =>
    unfold RepV RepP at h
    obtain ⟨a, rfl, (⟨ha | ⟨o, ha⟩, _⟩) | ⟨o, its, n, ho, hc, _⟩⟩ := h
    · exact .base (.lst ha)
    · exact .base (.frz ha)
    · exact .kList ho hc
theorem kit_any (K : PySem.W.Frag) (p : PV) : ∀ ts : List Ty, PySem.W.kitAny K (.type (tyN p)) (ts.map fun t => Value.type (nmTy t)) = some (ts.any (isTy p))
  | [] => kitAny_nil
  | t :: ts => by
    have h := kit_any K p ts
    refine kitAny_cons (kit_ty (kit_is p t)) (fun e => ?_) (fun e => ?_)
    · rw [h, List.any_cons, e]; rfl
    · rw [List.any_cons, e]; rfl
end
end Gp

namespace Gp
open PySem PySem.Spec PyProof.Rows L2

section
variable {G : Wd} {W : WX} {X : Cx} {a b d e : Expr} {fa fb fd : Env → Store → Res LV} {pos : Pos}

/-- two values, then an operation on them -/
theorem red_two {r : R2} {g : LV → LV → Store → Res LV}
    (hr : ∀ mu bn H S σ x y u v (Q : VK), RepS G.K mu bn H S → RepL G.K mu bn H x u → RepL G.K mu bn H y v → To G W (rlE G) σ mu bn H Q (g x y S) → r u v H Q) (σ : Sg) (H : Hp) (Q : VK)
    (h : tev G W (fun ρ S => (fa ρ S).bind fun x S => (fb ρ S).bind fun y S => g x y S) σ H Q) : tOp r (tev G W fa) (tev G W fb) σ H Q := by
  obtain ⟨mu, bn, ρ, S, A, h⟩ := h.out
  refine A.step h fun mu1 bn1 H1 S1 x u A1 t1 rx h1 => ?_
  refine (A1.hold rx).step h1 fun mu2 bn2 H2 S2 y v A2 t2 ry h2 => ?_
  exact hr mu2 bn2 H2 S2 σ x y u v Q A2.R A2.hd.1 ry h2
theorem To.okb {mu : Mu} {bn : List Addr} {H : Hp} {S : Store} {σ : Sg} {Q : VK} {p : PV} (h : To G W (rlE G) σ mu bn H Q (.ok (.pv p) S)) : Wn G mu bn H S Q p := h
theorem rd_tup {K : PySem.W.Frag} {mu : Mu} {bn : List Addr} {H : Hp} {S : Store} {l : LV} {v : V} {p : PV} (R : RepS K mu bn H S) (h : RepL K mu bn H l v) (e : rd S l = some p) : ∀ xs, p = .tup xs → RepP K bn H p v := by
  intro xs ep
  subst ep
  cases l with
  | pv q => have e' : q = .tup xs := Option.some.inj e
            subst e'; exact h.toP
  | ref k =>
    cases hk : S[k]? with
    | none => simp [rd, hk] at e
    | some o => cases o <;> simp [rd, hk] at e
  | ls _ => simp [rd] at e
  | dT _ _ => simp [rd] at e
  | ht ys =>
    have e' : PV.tup ys = .tup xs := Option.some.inj e
    cases e'; exact h.htP
theorem s_bin {op : Operator} {o : Bop} (ho : OpR X (binaryOp op) (rB G (binop o))) (ha : PE X a (tev G W fa)) (hb : PE X b (tev G W fb)) :
    PE X (.BinOp a op b pos) (tev G W fun ρ S => (fa ρ S).bind fun x S => (fb ρ S).bind fun y S => rdB x S fun x => rdB y S fun y => opt (binop o x y) S) :=
  PE.mono (pe_op ho ha hb) (red_two fun mu bn H S σ x y u v Q R rx ry h => by
    obtain ⟨p, e1, h⟩ := h.rdB
    obtain ⟨q, e2, h⟩ := h.rdB
    obtain ⟨r, e3, h⟩ := h.opt
    exact ⟨mu, bn, S, p, q, r, R, rd_rep R rx e1, rd_rep R ry e2, rd_tup R rx e1, rd_tup R ry e2, e3, h⟩)
/-- the test of an expression that is no test of its own -/
def plainT : Expr → Bool
  | .UnaryOp .Not _ _ => false
  | .BoolOp _ _ _ => false
  | .IfExp _ _ _ _ => false
  | .Compare _ _ _ _ => false
  | _ => true
theorem plainT_eq {e : Expr} (h : plainT e = true) (env : PySem.Env) (wh : Sem Value) : isTrue e env wh = (do let v ← wh; standAt e.pos; holding [v] (truthy v)) := by
  cases e with
  | UnaryOp op _ _ => cases op <;> first | rfl | cases h
  | BoolOp _ _ _ => cases h
  | IfExp _ _ _ _ => cases h
  | Compare _ _ _ _ => cases h
  | _ => rfl
theorem tru_of {mu : Mu} {bn : List Addr} {H : Hp} {p : PV} {v : V} (h : RepV G.K bn H p v) : TruV G.K v H p.truth := by
  cases p with
  | non => rw [rep_non h]; rfl
  | bl b => rw [rep_bl h]; rfl
  | int i => rw [rep_int h]; rfl
  | str x =>
    have hl := rep_strL h
    rw [rep_str h]
    refine ⟨Nat.le_trans (by simpa [Str.length] using hl) big_line, ?_⟩
    show (!x.isEmpty) = (((⟨x.toArray⟩ : Str).length : Int) != 0)
    cases x <;> simp [Str.length] <;> omega
  | tup xs =>
    obtain ⟨a, vs, rfl, ha, r⟩ := h
    refine .inr (.inl ⟨vs, ha, ?_⟩)
    have := r.length
    cases xs <;> cases vs <;> first | rfl | simp at this
  | lst xs =>
    obtain ⟨a, vs, rfl, ha, r⟩ := h
    refine .inl ⟨vs, SqL.of ha, ?_⟩
    have := r.length
    cases xs <;> cases vs <;> first | rfl | simp at this
  | dict ks _ =>
    obtain ⟨a, kvs, rfl, ha, hk, _⟩ := h
    refine .inr (.inr ⟨kvs, ha, ?_⟩)
    have := hk.length
    cases ks <;> cases kvs <;> first | rfl | simp at this
  | scr xs =>
    unfold RepV RepP at h
    obtain ⟨a, rfl, ha⟩ := h
    refine .inl ⟨_, ha.sq, ?_⟩
    cases xs <;> rfl
theorem isT_tst {r : Res LV} {σ : Sg} {mu : Mu} {bn : List Addr} {H : Hp} {Q : Bool → Hp → Prop} (h : To G W rlB σ mu bn H Q (isT (tst true r))) : To G W rlB σ mu bn H Q (r.bind fun l S => match rd S l with | some p => .ok p.truth S | none => .bad) := by
  cases r with
  | ok l S =>
    show To G W rlB σ mu bn H Q (match rd S l with | some p => Res.ok p.truth S | none => Res.bad)
    have h : To G W rlB σ mu bn H Q (isT (rdB l S fun p => .ok (.pv (.bl p.truth)) S)) := h
    unfold Gp.rdB at h
    cases e : rd S l with
    | none => rw [e] at h; exact h
    | some p => rw [e] at h; exact h
  | exc e S => exact h
  | bad => exact h
theorem s_test (hK : X.K = G.K) (hp : plainT e = true) (ha : PE X e (tev G W fa)) : PT X e (tet G W fun ρ S => isT (tst true (fa ρ S))) := by
  refine PT.mono (pt_truth ha (plainT_eq hp X.env)) fun σ H Q h => ?_
  obtain ⟨mu, bn, ρ, S, A, h⟩ := h.out
  have h := isT_tst h
  refine A.step h fun mu1 bn1 H1 S1 x u A1 t1 rx h1 => ?_
  cases e1 : rd S1 x with
  | none => rw [e1] at h1; exact h1.elim
  | some p =>
    rw [e1] at h1
    exact ⟨p.truth, by rw [hK]; exact tru_of (mu := mu1) (rd_rep A1.R rx e1), h1.ret A1.R rfl⟩
/-- a pair: as a value, as a test -/
structure PB (G : Wd) (W : WX) (X : Cx) (e : Expr) (f : Bool → Env → Store → Res LV) : Prop where
  v : PE X e (tev G W (f false))
  t : PT X e (tet G W fun ρ S => isT (f true ρ S))
theorem PB.plain (hK : X.K = G.K) (hp : plainT e = true) (ha : PE X e (tev G W fa)) : PB G W X e (fun m ρ S => tst m (fa ρ S)) := ⟨ha, s_test hK hp ha⟩
/-- a value that is a bool always -/
theorem isT_bind {r : Res LV} {r2 : Res Bool} {σ : Sg} {mu : Mu} {bn : List Addr} {H : Hp} {Q : Bool → Hp → Prop} (h : To G W rlB σ mu bn H Q (isT (r2.bind fun t S => .ok (.pv (.bl t)) S))) : To G W rlB σ mu bn H Q r2 := by
  cases r2 with
  | ok a S => exact h
  | exc e S => exact h
  | bad => exact h
theorem isT_not {r : Res Bool} {σ : Sg} {mu : Mu} {bn : List Addr} {H : Hp} {Q : Bool → Hp → Prop} (h : To G W rlB σ mu bn H Q (isT (r.bind fun t S => .ok (.pv (.bl (!t))) S))) : To G W rlB σ mu bn H Q (r.bind fun t S => .ok (!t) S) := by
  cases r with
  | ok a S => exact h
  | exc e S => exact h
  | bad => exact h
theorem bind_tst {r : Res LV} {σ : Sg} {mu : Mu} {bn : List Addr} {H : Hp} {Q : VK} {g : Bool → Store → Res LV} (h : To G W (rlE G) σ mu bn H Q ((isT (tst true r)).bind g)) : To G W (rlE G) σ mu bn H Q (r.bind fun l S => match rd S l with | some p => g p.truth S | none => .bad) := by
  cases r with
  | ok l S =>
    show To G W (rlE G) σ mu bn H Q (match rd S l with | some p => g p.truth S | none => Res.bad)
    have h : To G W (rlE G) σ mu bn H Q ((isT (rdB l S fun p => .ok (.pv (.bl p.truth)) S)).bind g) := h
    unfold Gp.rdB at h
    cases e : rd S l with
    | none => rw [e] at h; exact h
    | some p => rw [e] at h; exact h
  | exc e S => exact h
  | bad => exact h
theorem s_not (hK : X.K = G.K) {f : Bool → Env → Store → Res LV} (ha : PB G W X a f) : PB G W X (.UnaryOp .Not a pos) (fun m ρ S => (isT (match m with | true => f true ρ S | false => tst true (f false ρ S))).bind fun t S => .ok (.pv (.bl (!t))) S) where
  v := by
    refine PE.mono (pe_notT ha.v) fun σ H Q h => ?_
    obtain ⟨mu, bn, ρ, S, A, h⟩ := h.out
    have h := bind_tst (r := f false ρ S) h
    refine A.step h fun mu1 bn1 H1 S1 x u A1 t1 rx h1 => ?_
    cases e1 : rd S1 x with
    | none => rw [e1] at h1; exact h1.elim
    | some p =>
      rw [e1] at h1
      exact ⟨p.truth, by rw [hK]; exact tru_of (mu := mu1) (rd_rep A1.R rx e1), h1.ret A1.R (.pv repP_bl)⟩
  t := by
    refine PT.mono (pt_not ha.t) fun σ H Q h => ?_
    obtain ⟨mu, bn, ρ, S, A, h⟩ := h.out
    have h := isT_not (r := isT (f true ρ S)) h
    refine A.step h fun mu1 bn1 H1 S1 x u A1 t1 rx h1 => ?_
    have rx : x = u := rx
    subst rx
    exact h1.ret A1.R rfl
/-! ### and, or, if -/
theorem isT_iteB {r : Res Bool} {f g : Store → Res LV} {σ : Sg} {mu : Mu} {bn : List Addr} {H : Hp} {Q : Bool → Hp → Prop} (h : To G W rlB σ mu bn H Q (isT (iteR r f g))) :
    To G W rlB σ mu bn H Q (r.bind fun t S => match t with | true => isT (f S) | false => isT (g S)) := by
  cases r with
  | ok a S => cases a <;> exact h
  | exc e S => exact h
  | bad => exact h
/-- the reading of a test, then one of two -/
theorem red_ite {f : Env → Store → Res Bool} {α β : Type} {Rel : Rl α β} {g1 g2 : Env → Store → Res α} {σ : Sg} {H : Hp} {mu : Mu} {bn : List Addr} {ρ : Env} {S : Store} {Q : β → Hp → Prop} (A : At G mu bn H ρ σ S [] [])
    (h : To G W Rel σ mu bn H Q ((f ρ S).bind fun t S => match t with | true => g1 ρ S | false => g2 ρ S)) :
    gev G W rlB f σ H (fun c H1 => if c = true then gev G W Rel g1 σ H1 Q else gev G W Rel g2 σ H1 Q) := by
  refine A.step h fun mu1 bn1 H1 S1 x u A1 t1 rx h1 => ?_
  have rx : x = u := rx
  subst rx
  cases x with
  | true => exact A1.last h1
  | false => exact A1.last h1
variable {rest : List Expr}
structure PL (G : Wd) (W : WX) (X : Cx) (e : Expr) (f : Bool → Env → Store → Res LV) : Prop where
  v : PE X e (tev G W (f false))
  t : PW X e (tet G W fun ρ S => isT (f true ρ S))
theorem PL.pb {f : Bool → Env → Store → Res LV} (h : PL G W X e f) : PB G W X e f := ⟨h.v, h.t.pt⟩
theorem PW.mono {X : Cx} {e : Expr} {t t' : TT} (h : PW X e t) (hi : ∀ σ H Q, t' σ H Q → t σ H Q) : PW X e t' := ⟨fun wh pins s σ H Q I q => h.run wh pins s σ H Q I (hi σ H Q q)⟩
variable {f g : Bool → Env → Store → Res LV}
theorem s_and1 (ha : PB G W X a f) : PL G W X (.BoolOp .And [a] pos) f := ⟨pe_one ha.v, pw_and1 ha.t⟩
theorem s_or1 (ha : PB G W X a f) : PL G W X (.BoolOp .Or [a] pos) f := ⟨pe_one ha.v, pw_or1 ha.t⟩
theorem s_and (hK : X.K = G.K) (ha : PB G W X a f) (hb : PL G W X (.BoolOp .And (b :: rest) pos) g) : PL G W X (.BoolOp .And (a :: b :: rest) pos) (fun m ρ S => andR m (f m ρ S) fun S => g m ρ S) where
  v := by
    refine PE.mono (pe_andT ha.v hb.v) fun σ H Q h => ?_
    obtain ⟨mu, bn, ρ, S, A, h⟩ := h.out
    have h : To G W (rlE G) σ mu bn H Q ((f false ρ S).bind fun l S => rdB l S fun p => match p.truth with | true => g false ρ S | false => .ok l S) := h
    refine A.step h fun mu1 bn1 H1 S1 x u A1 t1 rx h1 => ?_
    obtain ⟨p, e1, h1⟩ := h1.rdB
    refine ⟨p.truth, by rw [hK]; exact tru_of (mu := mu1) (rd_rep A1.R rx e1), ?_⟩
    cases hb : p.truth with
    | true => rw [hb] at h1; exact A1.last h1
    | false => rw [hb] at h1; exact h1.ret A1.R rx
  t := by
    refine PW.mono (pw_and ha.t hb.t) fun σ H Q h => ?_
    obtain ⟨mu, bn, ρ, S, A, h⟩ := h.out
    have h := isT_iteB (r := isT (f true ρ S)) h
    refine A.step h fun mu1 bn1 H1 S1 x u A1 t1 rx h1 => ?_
    have rx : x = u := rx
    subst rx
    cases x with
    | true => exact A1.last h1
    | false => exact h1.ret A1.R rfl
theorem s_or (hK : X.K = G.K) (ha : PB G W X a f) (hb : PL G W X (.BoolOp .Or (b :: rest) pos) g) : PL G W X (.BoolOp .Or (a :: b :: rest) pos) (fun m ρ S => orR m (f m ρ S) fun S => g m ρ S) where
  v := by
    refine PE.mono (pe_orT ha.v hb.v) fun σ H Q h => ?_
    obtain ⟨mu, bn, ρ, S, A, h⟩ := h.out
    have h : To G W (rlE G) σ mu bn H Q ((f false ρ S).bind fun l S => rdB l S fun p => match p.truth with | false => g false ρ S | true => .ok l S) := h
    refine A.step h fun mu1 bn1 H1 S1 x u A1 t1 rx h1 => ?_
    obtain ⟨p, e1, h1⟩ := h1.rdB
    refine ⟨p.truth, by rw [hK]; exact tru_of (mu := mu1) (rd_rep A1.R rx e1), ?_⟩
    cases hb : p.truth with
    | false => rw [hb] at h1; exact A1.last h1
    | true => rw [hb] at h1; exact h1.ret A1.R rx
  t := by
    refine PW.mono (pw_or ha.t hb.t) fun σ H Q h => ?_
    obtain ⟨mu, bn, ρ, S, A, h⟩ := h.out
    have h := isT_iteB (r := isT (f true ρ S)) h
    refine A.step h fun mu1 bn1 H1 S1 x u A1 t1 rx h1 => ?_
    have rx : x = u := rx
    subst rx
    cases x with
    | false => exact A1.last h1
    | true => exact h1.ret A1.R rfl
theorem iteR_bind {α β : Type} {Rel : Rl α β} {r : Res Bool} {f g : Store → Res α} {σ : Sg} {mu : Mu} {bn : List Addr} {H : Hp} {Q : β → Hp → Prop} (h : To G W Rel σ mu bn H Q (iteR r f g)) :
    To G W Rel σ mu bn H Q (r.bind fun t S => match t with | true => f S | false => g S) := h
variable {k : Bool → Env → Store → Res LV}
theorem s_ite (ht : PB G W X d k) (ha : PB G W X a f) (hb : PB G W X b g) : PB G W X (.IfExp d a b pos) (fun m ρ S => iteR (isT (k true ρ S)) (fun S => f m ρ S) (fun S => g m ρ S)) where
  v := by
    refine PE.mono (pe_ifExp ht.t ha.v hb.v) fun σ H Q h => ?_
    obtain ⟨mu, bn, ρ, S, A, h⟩ := h.out
    exact red_ite (f := fun ρ S => isT (k true ρ S)) (g1 := f false) (g2 := g false) A (iteR_bind (r := isT (k true ρ S)) h)
  t := by
    refine ⟨fun pins s σ H Q I h => ?_⟩; obtain ⟨mu, bn, ρ, S, A, h⟩ := h.out
    have key := red_ite (f := fun ρ S => isT (k true ρ S)) (g1 := fun ρ S => isT (f true ρ S)) (g2 := fun ρ S => isT (g true ρ S)) A (isT_iteB (r := isT (k true ρ S)) h)
    have r1 := ht.t.run pins s σ H _ I key
    show wpAny (model X.prog X.w) X.A (do if ← isTrue d X.env (eval d X.env) then isTrue a X.env (eval a X.env) else isTrue b X.env (eval b X.env)) _ _ s
    refine wpAny_bind (thn r1 fun c s1 ⟨H1, I1, q1⟩ => ?_)
    cases c with
    | true => exact ha.t.run pins s1 σ H1 Q I1 q1
    | false => exact hb.t.run pins s1 σ H1 Q I1 q1

/-! ### comparisons -/
def cmpOf : CmpOp → Cop → Bool
  | .Eq, .eq => true
  | .NotEq, .ne => true
  | .Lt, .lt => true
  | .LtE, .le => true
  | .Gt, .gt => true
  | .GtE, .ge => true
  | .Is, .isN => true
  | .IsNot, .notN => true
  | .Is, .isT => true
  | .IsNot, .isF => true
  | .In, .inn => true
  | .NotIn, .notin => true
  | _, _ => false
/-- a comparison of two values of ours -/
def rCL (G : Wd) (o : Cop) : R2 := fun u v H Q => ∃ mu bn S x y c, RepS G.K mu bn H S ∧ RepL G.K mu bn H x u ∧ RepL G.K mu bn H y v ∧ cmpL o x y S = .ok (.pv (.bl c)) S ∧ Q (.bl c) H
theorem blR_ok {o : Option Bool} {S : Store} {c : Bool} (h : blR o S = .ok (.pv (.bl c)) S) : o = some c := by
  cases o with
  | none => cases h
  | some b => unfold blR at h; injection h with h; injection h with h; injection h with h; rw [h]
theorem rdB_ok {α : Type} {l : LV} {S : Store} {f : PV → Res α} {r : α} {S' : Store} (h : rdB l S f = .ok r S') : ∃ p, rd S l = some p ∧ f p = .ok r S' := by
  unfold rdB at h
  cases e : rd S l with
  | none => rw [e] at h; cases h
  | some p => rw [e] at h; exact ⟨p, rfl, h⟩
theorem non_iff {mu : Mu} {bn : List Addr} {H : Hp} {S : Store} {l : LV} {v : V} {c : Bool} (R : RepS G.K mu bn H S) (h : RepL G.K mu bn H l v) (e : isNoneL l S = some c) : decide (v = .non) = c := by
  cases l with
  | pv p =>
    have h := h.toP.v
    cases p with
    | non => rw [rep_non h]; cases e; rfl
    | bl b => rw [rep_bl h]; cases e; rfl
    | int b => rw [rep_int h]; cases e; rfl
    | str b => rw [rep_str h]; cases e; rfl
    | tup b => obtain ⟨a, vs, rfl, _⟩ := h; cases e; rfl
    | lst b => obtain ⟨a, vs, rfl, _⟩ := h; cases e; rfl
    | dict b => obtain ⟨a, vs, rfl, _⟩ := h; cases e; rfl
    | scr b => unfold RepV RepP at h; obtain ⟨a, rfl, _⟩ := h; cases e; rfl
  | ref k =>
    unfold isNoneL at e
    cases q : rd S (.ref k) with
    | none => simp [q] at e
    | some p =>
      have e2 : c = false := by simpa [q] using e.symm
      subst e2
      have hp := rd_rep R h q
      cases hk : S[k]? with
      | none => simp [rd, hk] at q
      | some o =>
        cases o with
        | lst xs =>
          have q : some (PV.lst xs) = some p := by simpa [rd, hk] using q
          cases q
          obtain ⟨a, vs, rfl, _⟩ := hp; rfl
        | dict ks vs =>
          have q : some (PV.dict ks vs) = some p := by simpa [rd, hk] using q
          cases q
          obtain ⟨a, vs, rfl, _⟩ := hp; rfl
        | dicT _ _ => simp [rd, hk] at q
        | ins _ _ => simp [rd, hk] at q
        | dead => simp [rd, hk] at q
  | dT _ _ => cases e
  | ht _ => cases e
  | ls xs =>
    unfold RepL at h
    obtain ⟨a, vs, rfl, _⟩ := h
    cases e; rfl
theorem op_cmp {op : CmpOp} {o : Cop} (hK : X.K = G.K) (hu : X.A.units + 200 < cLine) (h : cmpOf op o = true) : OpR X (compareOp op) (rCL G o) := by
  intro pins s σ H u v uu vv Q I ru rv q
  obtain ⟨mu, bn, S, x, y, c, R, rx, ry, e, q⟩ := q
  have gen : ∀ {op : CmpOp} {o : Cop}, OpR X (compareOp op) (rC G o) → cmpL o x y S = rdB x S (fun x => rdB y S fun y => blR (cmpop o x y) S) → cmpL o x y S = .ok (.pv (.bl c)) S → wpAny (model X.prog X.w) X.A (compareOp op uu vv) (EP X pins σ Q) X.xe s := fun {op o} ho e0 e => by
    rw [e0] at e
    obtain ⟨p, e1, e⟩ := rdB_ok e
    obtain ⟨r, e2, e⟩ := rdB_ok e
    exact ho pins s σ H u v uu vv Q I ru rv ⟨bn, p, r, c, rd_rep R rx e1, rd_rep R ry e2, blR_ok e, q⟩
  cases op <;> cases o <;> (try cases h; done)
  · exact gen (op_cEq hK hu) rfl e
  · exact gen (op_cNe hK hu) rfl e
  · exact gen op_cLt rfl e
  · exact gen op_cLe rfl e
  · exact gen op_cGt rfl e
  · exact gen op_cGe rfl e
  · -- is None
    unfold cmpL at e
    cases y with
    | pv p =>
      cases p with
      | non =>
        have ey := rep_non ry.toP.v
        refine op_isN pins s σ H u v uu vv Q I ru rv ⟨ey, ?_⟩
        rw [non_iff R rx (blR_ok e)]; exact q
      | _ => cases e
    | _ => cases e
  · exact gen op_cIsT rfl e
  · unfold cmpL at e
    cases y with
    | pv p =>
      cases p with
      | non =>
        have ey := rep_non ry.toP.v
        refine op_notN pins s σ H u v uu vv Q I ru rv ⟨ey, ?_⟩
        have e := blR_ok e
        cases hn : isNoneL x S with
        | none => rw [hn] at e; cases e
        | some b =>
          rw [hn] at e
          have e : (!b) = c := by simpa using e
          rw [non_iff R rx hn, e]; exact q
      | _ => cases e
    | _ => cases e
  · exact gen op_cIsF rfl e
  · exact gen (op_cIn hK hu) rfl e
  · exact gen (op_cNotIn hK hu) rfl e
def noSet : Expr → Bool
  | .Set _ _ _ => false
  | _ => true
theorem noSet_eq {op : CmpOp} {b : Expr} (h : noSet b = true) : behindInMarks op b = false := by
  cases b with
  | Set _ _ _ => cases h
  | _ => rfl
theorem cmp_shape {o : Cop} {x y : LV} {S : Store} : (∃ c, cmpL o x y S = .ok (.pv (.bl c)) S) ∨ cmpL o x y S = .bad := by
  have bl : ∀ q : Option Bool, (∃ c, blR q S = .ok (.pv (.bl c)) S) ∨ blR q S = .bad := fun q => by
    cases q with
    | none => exact .inr rfl
    | some c => exact .inl ⟨c, rfl⟩
  have gen : (∃ c, rdB x S (fun x => rdB y S fun y => blR (cmpop o x y) S) = .ok (.pv (.bl c)) S) ∨ rdB x S (fun x => rdB y S fun y => blR (cmpop o x y) S) = .bad := by
    unfold rdB
    cases rd S x with
    | none => exact .inr rfl
    | some p =>
      cases rd S y with
      | none => exact .inr rfl
      | some q => exact bl _
  unfold cmpL
  split
  · split
    · exact bl _
    · exact .inr rfl
  · split
    · exact bl _
    · exact .inr rfl
  · exact gen
theorem s_cmp {op : CmpOp} {o : Cop} (hK : X.K = G.K) (hu : X.A.units + 200 < cLine) (h : cmpOf op o = true) (hb' : noSet b = true) (ha : PE X a (tev G W fa)) (hb : PE X b (tev G W fb)) :
    PB G W X (.Compare a [op] [b] pos) (fun _ ρ S => (fa ρ S).bind fun x S => (fb ρ S).bind fun y S => cmpL o x y S) where
  v := PE.mono (pe_cmpR (op_cmp hK hu h) ha hb (noSet_eq hb')) (red_two fun mu bn H S σ x y u v Q R rx ry h => by
    rcases cmp_shape (o := o) (x := x) (y := y) (S := S) with ⟨c, e⟩ | e
    · refine ⟨mu, bn, S, x, y, c, R, rx, ry, e, ?_⟩
      rw [e] at h; exact h.ret R (.pv repP_bl)
    · rw [e] at h; exact h.elim)
  t := PT.mono (pt_cmpR (op_cmp hK hu h) ha hb (noSet_eq hb')) fun σ H Q h => by
    obtain ⟨mu, bn, ρ, S, A, h⟩ := h.out
    have h : To G W rlB σ mu bn H Q ((fa ρ S).bind fun x S => (fb ρ S).bind fun y S => isT (cmpL o x y S)) := by
      generalize fa ρ S = r at h
      cases r with
      | ok x S1 =>
        show To G W rlB σ mu bn H Q ((fb ρ S1).bind fun y S => isT (cmpL o x y S))
        have h : To G W rlB σ mu bn H Q (isT ((fb ρ S1).bind fun y S => cmpL o x y S)) := h
        generalize fb ρ S1 = r at h ⊢
        cases r with
        | ok y S2 => exact h
        | exc e S => exact h
        | bad => exact h
      | exc e S => exact h
      | bad => exact h
    refine A.step h fun mu1 bn1 H1 S1 x u A1 t1 rx h1 => ?_
    refine (A1.hold rx).step h1 fun mu2 bn2 H2 S2 y v A2 t2 ry h2 => ?_
    rcases cmp_shape (o := o) (x := x) (y := y) (S := S2) with ⟨c, e⟩ | e
    · refine ⟨mu2, bn2, S2, x, y, c, A2.R, A2.hd.1, ry, e, c, rfl, ?_⟩
      rw [e] at h2
      exact (show To G W rlB σ mu2 bn2 H2 Q (.ok c S2) from h2).ret A2.R rfl
    · rw [e] at h2; exact h2.elim
end
end Gp

namespace Gp
open PySem PySem.Spec PyProof.Rows L2

/-! ### argument lists -/
def notStar : Expr → Bool
  | .Starred _ _ => false
  | _ => true
theorem star_cons {e : Expr} (h : notStar e = true) (es : List Expr) (env : PySem.Env) : starEach (e :: es) env = (false, eval e env) :: starEach es env := by
  cases e with
  | Starred _ _ => cases h
  | _ => rfl
theorem star_plain : ∀ {es : List Expr}, es.all notStar = true → ∀ (pos : Pos) (env : PySem.Env), (backTo pos (starEach es env)).any (·.1) = false
  | [], _, _, _ => rfl
  | e :: es, h, pos, env => by
    rw [List.all_cons, Bool.and_eq_true] at h; rw [star_cons h.1]
    show (false || (backTo pos (starEach es env)).any (·.1)) = false
    rw [star_plain h.2]; rfl
theorem star_few : ∀ {es : List Expr}, es.all notStar = true → ∀ (pos : Pos) (env : PySem.Env), (backTo pos (starEach es env)).all (fun x => !x.1) = true
  | [], _, _, _ => rfl
  | e :: es, h, pos, env => by
    rw [List.all_cons, Bool.and_eq_true] at h; rw [star_cons h.1]
    show (true && (backTo pos (starEach es env)).all (fun x => !x.1)) = true
    rw [star_few h.2]; rfl
section
variable {G : Wd} {W : WX} {X : Cx} {a b d e : Expr} {es : List Expr} {fa fb fd : Env → Store → Res LV} {fs : Env → Store → Res (List LV)} {pos : Pos}
theorem s_anil : PA X [] (tas G W fun _ S => .ok [] S) := PA.mono pa_nil fun σ H Q h => by
  obtain ⟨mu, bn, ρ, S, A, h⟩ := h.out
  exact h.ret A.R repLs_nil
theorem s_acons (hs : notStar e = true) (ha : PE X e (tev G W fa)) (hr : PA X es (tas G W fs)) : PA X (e :: es) (tas G W fun ρ S => (fa ρ S).bind fun x S => (fs ρ S).bind fun xs S => .ok (x :: xs) S) :=
  PA.mono (pa_cons ha hr (star_cons hs es X.env)) fun σ H Q h => by
    obtain ⟨mu, bn, ρ, S, A, h⟩ := h.out
    refine A.step h fun mu1 bn1 H1 S1 x u A1 t1 rx h1 => ?_
    refine (A1.hold rx).step h1 fun mu2 bn2 H2 S2 y v A2 t2 ry h2 => ?_
    exact h2.ret A2.R (repLs_cons A2.hd.1 ry)
/-- from arguments on -/
theorem red_args {r : List V → Hp → VK → Prop} {g : List LV → Store → Res LV}
    (hr : ∀ mu bn H S σ xs us (Q : VK), RepS G.K mu bn H S → RepLs G.K mu bn H xs us → To G W (rlE G) σ mu bn H Q (g xs S) → r us H Q) (σ : Sg) (H : Hp) (Q : VK)
    (h : tev G W (fun ρ S => (fs ρ S).bind fun ls S => g ls S) σ H Q) : tCB r (tas G W fs) σ H Q := by
  obtain ⟨mu, bn, ρ, S, A, h⟩ := h.out
  exact A.step h fun mu1 bn1 H1 S1 x u A1 t1 rx h1 => hr mu1 bn1 H1 S1 σ x u Q A1.R rx h1
theorem pvs_to {mu : Mu} {bn : List Addr} {H : Hp} {S : Store} {σ : Sg} {Q : VK} {ls : List LV} {f : List PV → PV} (h : To G W (rlE G) σ mu bn H Q (match pvs ls with | some ps => .ok (.pv (f ps)) S | none => .bad)) : ∃ ps, pvs ls = some ps ∧ Wn G mu bn H S Q (f ps) := by
  cases e : pvs ls with
  | none => rw [e] at h; exact h.elim
  | some ps => rw [e] at h; exact ⟨ps, rfl, h⟩
theorem pvs_len : ∀ {ls : List LV} {ps : List PV}, pvs ls = some ps → ps.length = ls.length
  | [], ps, e => by have : ps = [] := by simpa [pvs] using e.symm
                    subst this; rfl
  | .pv p :: ls, ps, e => by
    unfold pvs at e
    cases q : pvs ls with
    | none => rw [q] at e; cases e
    | some qs =>
      rw [q] at e
      have e' : p :: qs = ps := by simpa using e
      subst e'
      rw [List.length_cons, List.length_cons, pvs_len q]
  | .ref _ :: ls, ps, e => by unfold pvs at e; cases e
  | .ls _ :: ls, ps, e => by unfold pvs at e; cases e
  | .dT _ _ :: ls, ps, e => by unfold pvs at e; cases e
  | .ht p :: ls, ps, e => by
    unfold pvs at e
    cases q : pvs ls with
    | none => rw [q] at e; cases e
    | some qs =>
      rw [q] at e
      have e' : .tup p :: qs = ps := by simpa using e
      subst e'
      rw [List.length_cons, List.length_cons, pvs_len q]
theorem s_tup {k n : Nat} (hn : n ≤ 1000) (hl : ∀ ρ S ls S', fs ρ S = .ok ls S' → ls.length = n) (ha : PA X es (tas G W fs)) : PE X (.Tuple es k pos) (tev G W fun ρ S => (fs ρ S).bind fun ls S => match pvs ls with | some ps => .ok (.pv (.tup ps)) S | none => .bad) :=
  PE.mono (pe_tup ha) fun σ H Q h => by
    obtain ⟨mu, bn, ρ, S, A, h⟩ := h.out
    refine A.stepE h fun mu1 bn1 H1 S1 x u e1 A1 t1 rx h1 => ?_
    obtain ⟨ps, e2, w⟩ := pvs_to (f := .tup) h1
    refine ⟨?_, fun p hp => w.tup A1.R hp (pvs_rep e2 rx)⟩
    rw [← rx.length, hl ρ S x S1 e1]
    exact Nat.le_trans hn (by rw [sizeLine_eq]; decide)
theorem mkL_new {mu : Mu} {bn : List Addr} {H : Hp} {S : Store} {σ : Sg} {Q : VK} {al : Bool} {ls : List LV} {vs : List V} {p : Addr} (h : To G W (rlE G) σ mu bn H Q (mkL al ls S)) (R : RepS G.K mu bn H S) (hp : H p = none) (r : RepLs G.K mu bn H ls vs) : Q (.ref p) (upd H p (.lst vs)) := by
  unfold mkL at h
  cases e : pvs ls with
  | some ps =>
    rw [e] at h
    have rp := pvs_rep e r
    cases al with
    | false => exact mk_new (al := false) h R hp rp
    | true => exact mk_new (al := true) h R hp rp
  | none =>
    rw [e] at h
    have h : OkG G (rlE G) mu bn H Q (.ls ls) S := h
    have t := Tr.laid (mu := mu) (bn := bn) (o := .lst vs) hp
    refine h _ _ _ _ t (R.laid hp) ?_
    unfold rlE RepL
    exact ⟨p, vs, rfl, ⟨upd_same, fun hb => R.tk p hb hp⟩, r.mono t (t.kp R)⟩
theorem s_lst {n : Nat} {al : Bool} (hn : n ≤ 1000) (hl : ∀ ρ S ls S', fs ρ S = .ok ls S' → ls.length = n) (ha : PA X es (tas G W fs)) : PE X (.List es pos) (tev G W fun ρ S => (fs ρ S).bind fun ls S => mkL al ls S) :=
  PE.mono (pe_lst ha) fun σ H Q h => by
    obtain ⟨mu, bn, ρ, S, A, h⟩ := h.out
    refine A.stepE h fun mu1 bn1 H1 S1 x u e1 A1 t1 rx h1 => ?_
    refine ⟨?_, fun p hp => mkL_new h1 A1.R hp rx⟩
    rw [← rx.length, hl ρ S x S1 e1]
    exact Nat.le_trans hn (by rw [sizeLine_eq]; decide)
theorem s_neg (ha : PE X a (tev G W fa)) : PE X (.UnaryOp .USub a pos) (tev G W fun ρ S => (fa ρ S).bind fun x S => match x with | .pv (.int i) => .ok (.pv (.int (-i))) S | _ => .bad) :=
  PE.mono (pe_un un_neg ha) fun σ H Q h => by
    obtain ⟨mu, bn, ρ, S, A, h⟩ := h.out
    refine A.step h fun mu1 bn1 H1 S1 x u A1 t1 rx h1 => ?_
    match x, rx, h1 with
    | .pv (.int i), rx, h1 => exact ⟨i, rep_int rx.toP.v, h1.ret A1.R (.pv repP_int)⟩
    | .pv .non, _, h1 => exact h1.elim
    | .pv (.bl _), _, h1 => exact h1.elim
    | .pv (.str _), _, h1 => exact h1.elim
    | .pv (.tup _), _, h1 => exact h1.elim
    | .pv (.lst _), _, h1 => exact h1.elim
    | .pv (.dict _ _), _, h1 => exact h1.elim
    | .pv (.scr _), _, h1 => exact h1.elim
    | .ref _, _, h1 => exact h1.elim
    | .ls _, _, h1 => exact h1.elim
    | .dT _ _, _, h1 => exact h1.elim
    | .ht _, _, h1 => exact h1.elim
/-! ### constants and names -/
theorem s_con {p : PV} {v : V} {e : Expr} (he : PE X e (tC v)) (hv : ∀ bn H, RepP G.K bn H p v) : PE X e (tev G W fun _ S => .ok (.pv p) S) :=
  PE.mono he fun σ H Q h => by
    obtain ⟨mu, bn, ρ, S, A, h⟩ := h.out
    exact h.ret A.R (.pv (hv bn H))
theorem s_var {i : Nat} {e : Expr} (he : PE X e (tVar i)) : PE X e (tev G W fun ρ S => getV ρ i S) :=
  PE.mono he fun σ H Q h => by
    obtain ⟨mu, bn, ρ, S, A, h⟩ := h.out
    have h : To G W (rlE G) σ mu bn H Q (getV ρ i S) := h
    unfold getV at h
    cases e : ρ[i]? with
    | none => rw [e] at h; exact h.elim
    | some o =>
      cases o with
      | none => rw [e] at h; exact h.elim
      | some l =>
        rw [e] at h
        obtain ⟨v, e1, r⟩ := A.E.get i l e
        exact ⟨v, e1, h.ret A.R r⟩
/-! ### subscripts -/
def plainIx : Expr → Bool
  | .Slice _ _ _ _ => false
  | _ => true
theorem plainIx_eq {b : Expr} (h : plainIx b = true) : PlainIx b := by
  cases b with
  | Slice _ _ _ _ => cases h
  | _ => exact fun _ _ => rfl
def rXL (G : Wd) : R2 := fun u v H Q => ∃ (W : WX) (σ : Sg) (mu : Mu) (bn : List Addr) (S : Store) (x y : LV), RepS G.K mu bn H S ∧ RepL G.K mu bn H x u ∧ RepL G.K mu bn H y v ∧ To G W (rlE G) σ mu bn H Q (idxL x y S)
theorem ix_all (hK : X.K = G.K) (hu : X.A.units + 200 < cLine) : IxR X (rXL G) := by
  intro value slice pins s σ H u v uu vv Q I ru rv h hs
  obtain ⟨W, σ', mu, bn, S, x, y, R, rx, ry, h⟩ := h
  have gen : To G W (rlE G) σ' mu bn H Q (rdB x S fun p => rdB y S fun q => opt (index p q) S) → wpAny (model X.prog X.w) X.A (subscriptTail value slice uu vv) (EP X pins σ Q) X.xe s := fun h => by
    obtain ⟨p, e1, h⟩ := h.rdB
    obtain ⟨q, e2, h⟩ := h.rdB
    obtain ⟨r, e3, h⟩ := h.opt
    exact ix_pure hK hu value slice pins s σ H u v uu vv Q I ru rv ⟨bn, p, q, r, rd_rep R rx e1, rd_rep R ry e2, e3, fun w rw' => h.ret R (.pv rw')⟩ hs
  cases x with
  | pv p => exact gen h
  | ref k => exact gen h
  | dT _ _ => exact gen h
  | ht _ => exact gen h
  | ls xs =>
    match y, ry, h with
    | .pv (.int i), ry, h =>
      have ev := rep_int ry.toP.v
      subst ev
      unfold RepL at rx
      obtain ⟨a, vs, rfl, ha, ra⟩ := rx
      have h : To G W (rlE G) σ' mu bn H Q (lift ((at_ xs.length i).bind fun k => xs[k]?) S) := h
      cases k : at_ xs.length i with
      | none => rw [k] at h; exact h.elim
      | some j =>
        rw [k] at h
        obtain ⟨h1, h2⟩ := at_ix k
        cases c : xs[j]? with
        | none =>
          have e' : lift ((some j).bind fun k => xs[k]?) S = (.bad : Res LV) := by simp [c, lift]
          rw [e'] at h; exact h.elim
        | some l =>
          have e' : lift ((some j).bind fun k => xs[k]?) S = .ok l S := by simp [c, lift]
          rw [e'] at h
          obtain ⟨v', g, rr⟩ := ra.get c
          refine ix_seq value slice pins s σ H _ _ uu vv Q I ru rv (.inl ⟨a, vs, i, v', rfl, rfl, SqL.of ha.1, ?_, h.ret R rr⟩) hs
          unfold atI; rw [← ra.length, h1]; exact g
    | .pv .non, _, h => exact h.elim
    | .pv (.bl _), _, h => exact h.elim
    | .pv (.str _), _, h => exact h.elim
    | .pv (.tup _), _, h => exact h.elim
    | .pv (.lst _), _, h => exact h.elim
    | .pv (.dict _ _), _, h => exact h.elim
    | .pv (.scr _), _, h => exact h.elim
    | .ref _, _, h => exact h.elim
    | .ls _, _, h => exact h.elim
    | .dT _ _, _, h => exact h.elim
    | .ht _, _, h => exact h.elim
theorem s_idx (hK : X.K = G.K) (hu : X.A.units + 200 < cLine) (hp : plainIx b = true) (ha : PE X a (tev G W fa)) (hb : PE X b (tev G W fb)) : PE X (.Subscript a b pos) (tev G W fun ρ S => (fa ρ S).bind fun x S => (fb ρ S).bind fun y S => idxL x y S) :=
  PE.mono (pe_ix (ix_all hK hu) ha hb (plainIx_eq hp)) (red_two fun mu bn H S σ x y u v Q R rx ry h => ⟨W, σ, mu, bn, S, x, y, R, rx, ry, h⟩)
/-- a bound of a slice: left out, or an int -/
theorem RepPs.cut {K : PySem.W.Frag} {bn : List Addr} {H : Hp} {xs : List PV} {vs : List V} (h : RepPs K bn H xs vs) (a n : Nat) : RepPs K bn H ((xs.drop a).take n) ((vs.drop a).take n) := by
  rw [repPs_iff] at h ⊢
  obtain ⟨hl, h⟩ := h
  refine ⟨by rw [List.length_take, List.length_take, List.length_drop, List.length_drop, hl], fun i x v e1 e2 => ?_⟩
  rw [List.getElem?_take] at e1 e2
  split at e1
  · rename_i hi
    rw [if_pos hi] at e2
    rw [List.getElem?_drop] at e1 e2
    exact h _ x v e1 e2
  · cases e1
theorem cut_eq {α : Type} (xs : List α) (lo hi : Option Int) : cut xs lo hi = (xs.drop (HT.sIx xs.length 0 lo)).take (HT.sIx xs.length xs.length hi - HT.sIx xs.length 0 lo) := by
  unfold cut
  cases lo <;> cases hi <;> rfl
theorem RepPs.cutV {K : PySem.W.Frag} {bn : List Addr} {H : Hp} {xs : List PV} {vs : List V} (h : RepPs K bn H xs vs) (lo hi : Option Int) : RepPs K bn H (Gp.cut xs lo hi) (L2.cutV vs lo hi) := by
  rw [cut_eq]; unfold L2.cutV; rw [← h.length]; exact h.cut _ _
def rSl (G : Wd) : V → Option Int → Option Int → Hp → VK → Prop := fun u lo hi H Q => ∃ mu bn S p r, RepS G.K mu bn H S ∧ RepR G.K bn H p u ∧ slice p lo hi = some r ∧ Wn G mu bn H S Q r
theorem sl_all (hK : X.K = G.K) : SlR X (rSl G) := by
  intro pins s σ H x v vl vu lo hi sl Q I rx hs pl pu h; obtain ⟨mu, bn, S, p, r, R, ⟨hp, ht⟩, e, w⟩ := h
  rw [← hK] at hp ht
  cases p <;> simp only [slice] at e <;> (try cases e; done)
  case str z =>
    cases e
    have hl := rep_strL hp
    have ev := rep_str hp
    subst ev
    refine sl_str pins s σ H _ v vl vu lo hi sl Q I rx hs pl pu ⟨_, rfl, Nat.le_trans (by simpa [Str.length] using hl) big_line, ?_⟩
    have e1 : (cutS ⟨z.toArray⟩ lo hi : Str) = ⟨(Gp.cut z lo hi).toArray⟩ := by
      unfold cutS; rw [cut_eq]; simp [Str.length]
    rw [e1]
    refine w.scal R (repP_str (Nat.le_trans ?_ hl))
    rw [cut_eq, List.length_take, List.length_drop]; omega
  case tup xs =>
    cases e
    have hp' := ht _ rfl
    obtain ⟨a, vs, rfl, ha, ra⟩ := hp
    refine sl_tupA pins s σ H _ v vl vu lo hi sl Q I rx hs pl pu ⟨a, vs, rfl, ha, fun z => ?_, fun z p hp => w.tup R hp (hK ▸ ra.cutV lo hi)⟩
    have e1 : Gp.cut xs lo hi = xs := by
      rw [cut_eq, ra.length, z.1, z.2, ← ra.length]; simp
    rw [e1] at w
    exact w.scal R (hK ▸ hp')
  case lst xs =>
    cases e
    obtain ⟨a, vs, rfl, ha, ra⟩ := hp
    exact sl_list pins s σ H _ v vl vu lo hi sl Q I rx hs pl pu ⟨a, vs, rfl, SqL.of ha, fun p hp => w.lst R hp (hK ▸ ra.cutV lo hi)⟩
/-- a bound: what stands there, how it is run -/
structure PBd (G : Wd) (W : WX) (X : Cx) (o : Option Expr) (f : Env → Store → Res (Option Int)) (t : TO) : Prop where
  po : PO X o t
  red : ∀ {γ δ : Type} {Rel2 : Rl γ δ} {mu : Mu} {bn : List Addr} {H : Hp} {ρ : Env} {σ : Sg} {S : Store} {ls : List LV} {vs : List V} {g : Option Int → Store → Res γ} {Q : δ → Hp → Prop} (x : At G mu bn H ρ σ S ls vs)
    (h : To G W Rel2 σ mu bn H Q ((f ρ S).bind g)) {Q1 : Option Int → Hp → Prop}
    (hq : ∀ mu1 bn1 H1 S1 a, At G mu1 bn1 H1 ρ σ S1 ls vs → Tr mu bn H mu1 bn1 H1 → To G W Rel2 σ mu1 bn1 H1 Q (g a S1) → Q1 a H1), t σ H Q1
theorem bd_none : PBd G W X none (fun ρ S => bndO true .bad S) tNoPart := ⟨po_none, fun x h _ hq => hq _ _ _ _ none x (Tr.refl _ _ _) h⟩
theorem bd_some (ha : PE X a (tev G W fa)) : PBd G W X (some a) (fun ρ S => bndO false (fa ρ S) S) (tPart (tev G W fa)) where
  po := po_some ha
  red := by
    intro γ δ Rel2 mu bn H ρ σ S ls vs g Q x h Q1 hq
    have h : To G W Rel2 σ mu bn H Q ((fa ρ S).bind fun l S => (match l with | .pv (.int i) => Res.ok (some i) S | _ => .bad).bind g) := by
      have h : To G W Rel2 σ mu bn H Q (((fa ρ S).bind fun l S => match l with | .pv (.int i) => .ok (some i) S | _ => .bad).bind g) := h
      generalize fa ρ S = r at h ⊢
      cases r <;> exact h
    refine x.step h fun mu1 bn1 H1 S1 l u A1 t1 rx h1 => ?_
    match l, rx, h1 with
    | .pv (.int i), rx, h1 => exact ⟨i, rep_int rx.toP.v, hq _ _ _ _ (some i) A1 t1 h1⟩
    | .pv .non, _, h1 => exact h1.elim
    | .pv (.bl _), _, h1 => exact h1.elim
    | .pv (.str _), _, h1 => exact h1.elim
    | .pv (.tup _), _, h1 => exact h1.elim
    | .pv (.lst _), _, h1 => exact h1.elim
    | .pv (.dict _ _), _, h1 => exact h1.elim
    | .pv (.scr _), _, h1 => exact h1.elim
    | .ref _, _, h1 => exact h1.elim
    | .ls _, _, h1 => exact h1.elim
    | .dT _ _, _, h1 => exact h1.elim
    | .ht _, _, h1 => exact h1.elim
theorem s_slc (hK : X.K = G.K) {lo hi : Option Expr} {f1 f2 : Env → Store → Res (Option Int)} {t1 t2 : TO} {p2 : Pos} (ha : PE X a (tev G W fa)) (h1 : PBd G W X lo f1 t1) (h2 : PBd G W X hi f2 t2) :
    PE X (.Subscript a (.Slice lo hi none p2) pos) (tev G W fun ρ S => (fa ρ S).bind fun x S => (f1 ρ S).bind fun i S => (f2 ρ S).bind fun j S => rdB x S fun p => opt (slice p i j) S) :=
  PE.mono (pe_slice (sl_all hK) ha h1.po h2.po) fun σ H Q h => by
    obtain ⟨mu, bn, ρ, S, A, h⟩ := h.out
    refine A.step h fun mu1 bn1 H1 S1 x u A1 t1 rx h3 => ?_
    refine h1.red (A1.hold rx) h3 fun mu2 bn2 H2 S2 i A2 t2 h4 => ?_
    refine h2.red A2 h4 fun mu3 bn3 H3 S3 j A3 t3 h5 => ?_
    obtain ⟨p, e1, h5⟩ := h5.rdB
    obtain ⟨r, e2, h5⟩ := h5.opt
    exact ⟨mu3, bn3, S3, p, r, A3.R, ⟨rd_rep A3.R A3.hd.1 e1, rd_tup A3.R A3.hd.1 e1⟩, e2, h5⟩

/-! ### calls of built-ins -/
theorem s_bltF {f : Bid} {id : String} {x : Str} {al : Bool} {p : Pos} (hc : CallR X (.builtin id) (rBl G f)) (hg : Gl X x) (hm : X.mg x = none) (hv : bootBuiltins x = some (.builtin id)) (hn : x ≠ "__name__") (hdb : (x == ("__debug__" : Str)) = false)
    (hs : (e :: es).all notStar = true) (ha : PA X (e :: es) (tas G W fs)) : PE X (.Call (.Name x p) (e :: es) [] pos) (tev G W fun ρ S => (fs ρ S).bind fun ls S => match rds S ls with | some ps => mkV al (builtin f ps) S | none => .bad) := by
  rw [List.all_cons, Bool.and_eq_true] at hs
  exact PE.mono (pe_callB hc hg hm hv ha hn hdb (star_cons hs.1 es X.env) (star_plain hs.2 pos X.env)) (red_args fun mu bn H S σ xs us Q R rx h => by
    cases e : rds S xs with
    | none => rw [e] at h; exact h.elim
    | some ps => rw [e] at h; exact ⟨W, σ, mu, bn, S, ps, al, R, rds_rep R rx e, h⟩)
theorem s_bltT {f : Bid} {T : String} {x : Str} {al : Bool} {p : Pos} (hc : CallR X (.type T) (rBl G f)) (hg : Gl X x) (hm : X.mg x = none) (hv : bootBuiltins x = some (.type T)) (hn : x ≠ "__name__") (hdb : (x == ("__debug__" : Str)) = false)
    (hs : (e :: es).all notStar = true) (ha : PA X (e :: es) (tas G W fs)) : PE X (.Call (.Name x p) (e :: es) [] pos) (tev G W fun ρ S => (fs ρ S).bind fun ls S => match rds S ls with | some ps => mkV al (builtin f ps) S | none => .bad) := by
  rw [List.all_cons, Bool.and_eq_true] at hs
  exact PE.mono (pe_callTy hc hg hm hv ha hn hdb (star_cons hs.1 es X.env) (star_plain hs.2 pos X.env)) (red_args fun mu bn H S σ xs us Q R rx h => by
    cases e : rds S xs with
    | none => rw [e] at h; exact h.elim
    | some ps => rw [e] at h; exact ⟨W, σ, mu, bn, S, ps, al, R, rds_rep R rx e, h⟩)
end
end Gp

namespace Gp
open PySem PySem.Spec PyProof.Rows L2

/-! ### targets -/
def tgR (K : PySem.W.Frag) : Tg → TG
  | .nm i => gName i
  | .t2 a b => gTup K 2 (gCons (tgR K a) (gCons (tgR K b) gNil))
  | .t3 a b c => gTup K 3 (gCons (tgR K a) (gCons (tgR K b) (gCons (tgR K c) gNil)))
  | .t4 a b c d => gTup K 4 (gCons (tgR K a) (gCons (tgR K b) (gCons (tgR K c) (gCons (tgR K d) gNil))))
  | .t5 a b c d e => gTup K 5 (gCons (tgR K a) (gCons (tgR K b) (gCons (tgR K c) (gCons (tgR K d) (gCons (tgR K e) gNil)))))
def tgIn (ws : List Nat) : Tg → Bool
  | .nm i => ws.contains i
  | .t2 a b => tgIn ws a && tgIn ws b
  | .t3 a b c => tgIn ws a && tgIn ws b && tgIn ws c
  | .t4 a b c d => tgIn ws a && tgIn ws b && tgIn ws c && tgIn ws d
  | .t5 a b c d e => tgIn ws a && tgIn ws b && tgIn ws c && tgIn ws d && tgIn ws e
def locB (sc : Scope) (fns : Option Scope) (x : Str) : Bool :=
  match sc.names.lookup x with
  | some .local => true
  | some .cell => match fns with
    | none => true
    | some s => s.names.lookup x == some .cell
  | _ => false
def ckT (N : List Str) (sc : Scope) (fns : Option Scope) : Tg → Expr → Bool
  | .nm i, .Name x _ => decide (N[i]? = some x) && locB sc fns x
  | .t2 a b, .Tuple [x, y] _ _ => ckT N sc fns a x && ckT N sc fns b y
  | .t3 a b c, .Tuple [x, y, z] _ _ => ckT N sc fns a x && ckT N sc fns b y && ckT N sc fns c z
  | .t4 a b c d, .Tuple [x, y, z, u] _ _ => ckT N sc fns a x && ckT N sc fns b y && ckT N sc fns c z && ckT N sc fns d u
  | .t5 a b c d e, .Tuple [x, y, z, u, v] _ _ => ckT N sc fns a x && ckT N sc fns b y && ckT N sc fns c z && ckT N sc fns d u && ckT N sc fns e v
  | _, _ => false
theorem ckT_star {N : List Str} {sc : Scope} {fns : Option Scope} {t : Tg} {e : Expr} (h : ckT N sc fns t e = true) : notStar e = true := by
  cases e with
  | Starred _ _ => cases t <;> cases h
  | _ => rfl
theorem assign_cons {e : Expr} (h : notStar e = true) (es : List Expr) (env : PySem.Env) : assignEach (e :: es) env = (false, assign e env) :: assignEach es env := by
  cases e with
  | Starred _ _ => cases h
  | _ => rfl
theorem assign_plain : ∀ {es : List Expr}, es.all notStar = true → ∀ env : PySem.Env, (assignEach es env).length = es.length ∧ (assignEach es env).findIdx? (·.1) = none
  | [], _, _ => ⟨rfl, rfl⟩
  | e :: es, h, env => by
    rw [List.all_cons, Bool.and_eq_true] at h; obtain ⟨h1, h2⟩ := assign_plain h.2 env
    rw [assign_cons h.1]
    refine ⟨by rw [List.length_cons, List.length_cons, h1], ?_⟩
    rw [List.findIdx?_cons, h2]; rfl
/-- what a context must have for names and targets -/
structure Nms (X : Cx) (N : List Str) (sc : Scope) (fns : Option Scope) : Prop where
  nm : X.N = N
  nd : List.Nodup N
  sc : X.env.scope = sc
  fn : ∀ x, (match fns with | none => True | some s => s.names.lookup x = some .cell) → X.fn x = true
theorem loc_ok {X : Cx} {N : List Str} {sc : Scope} {fns : Option Scope} (M : Nms X N sc fns) {x : Str} (h : locB sc fns x = true) : L2.Loc X.env.scope x ∧ (X.fn x = true ∨ X.env.scope.names.lookup x = some .local) := by
  unfold locB at h
  unfold L2.Loc
  rw [M.sc]
  cases e : sc.names.lookup x with
  | none => rw [e] at h; cases h
  | some k =>
    rw [e] at h
    cases k with
    | «local» => exact ⟨.inl rfl, .inr rfl⟩
    | cell =>
      refine ⟨.inr rfl, .inl (M.fn x ?_)⟩
      cases fns with
      | none => trivial
      | some s => exact beq_iff_eq.mp h
    | _ => cases h
theorem pg_star {X : Cx} {e : Expr} {es : List Expr} {t : TG} {u : TGs} (hs : notStar e = true) (h1 : PG X e t) (h2 : PGs X es u) : PGs X (e :: es) (gCons t u) := pgs_cons h1 h2 (by rw [assign_cons hs]; rfl)
theorem pg_ok {X : Cx} {N : List Str} {sc : Scope} {fns : Option Scope} (M : Nms X N sc fns) (hc : X.calm = true) : ∀ {t : Tg} {e : Expr}, ckT N sc fns t e = true → PG X e (tgR X.K t)
  | .nm i, e, h => by
    cases e <;> first | (cases h; done) | skip
    rename_i x pos
    simp only [ckT, Bool.and_eq_true, decide_eq_true_eq] at h
    obtain ⟨l1, l2⟩ := loc_ok M h.2
    exact pg_name (by rw [M.nm]; exact M.nd) (by rw [M.nm]; exact h.1) l1 l2
  | .t2 a b, e, h => by
    cases e <;> first | (cases h; done) | skip
    rename_i es k pos
    match es, h with
    | [x, y], h =>
      simp only [ckT, Bool.and_eq_true] at h
      have st : [x, y].all notStar = true := by simp [ckT_star h.1, ckT_star h.2]
      obtain ⟨n1, n2⟩ := assign_plain st X.env
      exact pg_tup hc (pg_star (ckT_star h.1) (pg_ok M hc h.1) (pg_star (ckT_star h.2) (pg_ok M hc h.2) pgs_nil)) n1 n2
  | .t3 a b c, e, h => by
    cases e <;> first | (cases h; done) | skip
    rename_i es k pos
    match es, h with
    | [x, y, z], h =>
      simp only [ckT, Bool.and_eq_true] at h
      obtain ⟨⟨h1, h2⟩, h3⟩ := h
      have st : [x, y, z].all notStar = true := by simp [ckT_star h1, ckT_star h2, ckT_star h3]
      obtain ⟨n1, n2⟩ := assign_plain st X.env
      exact pg_tup hc (pg_star (ckT_star h1) (pg_ok M hc h1) (pg_star (ckT_star h2) (pg_ok M hc h2) (pg_star (ckT_star h3) (pg_ok M hc h3) pgs_nil))) n1 n2
  | .t4 a b c d, e, h => by
    cases e <;> first | (cases h; done) | skip
    rename_i es k pos
    match es, h with
    | [x, y, z, u], h =>
      simp only [ckT, Bool.and_eq_true] at h
      obtain ⟨⟨⟨h1, h2⟩, h3⟩, h4⟩ := h; have st : [x, y, z, u].all notStar = true := by simp [ckT_star h1, ckT_star h2, ckT_star h3, ckT_star h4]
      obtain ⟨n1, n2⟩ := assign_plain st X.env
      exact pg_tup hc (pg_star (ckT_star h1) (pg_ok M hc h1) (pg_star (ckT_star h2) (pg_ok M hc h2) (pg_star (ckT_star h3) (pg_ok M hc h3) (pg_star (ckT_star h4) (pg_ok M hc h4) pgs_nil)))) n1 n2
  | .t5 a b c d f, e, h => by
    cases e <;> first | (cases h; done) | skip
    rename_i es k pos
    match es, h with
    | [x, y, z, u, v], h =>
      simp only [ckT, Bool.and_eq_true] at h
      obtain ⟨⟨⟨⟨h1, h2⟩, h3⟩, h4⟩, h5⟩ := h
      have st : [x, y, z, u, v].all notStar = true := by simp [ckT_star h1, ckT_star h2, ckT_star h3, ckT_star h4, ckT_star h5]
      obtain ⟨n1, n2⟩ := assign_plain st X.env
      exact pg_tup hc (pg_star (ckT_star h1) (pg_ok M hc h1) (pg_star (ckT_star h2) (pg_ok M hc h2) (pg_star (ckT_star h3) (pg_ok M hc h3) (pg_star (ckT_star h4) (pg_ok M hc h4) (pg_star (ckT_star h5) (pg_ok M hc h5) pgs_nil))))) n1 n2
section
variable {G : Wd} {W : WX} {mu mu' : Mu} {bn bn' : List Addr} {H H' : Hp} {S S' : Store} {ρ ρ' : Env} {σ : Sg}
theorem RepE.set {i : Nat} {l : LV} {v : V} (E : RepE G.K mu bn H ρ σ) (r : RepL G.K mu bn H l v) : RepE G.K mu bn H (ρ.set i (some l)) (σ.set i (some v)) := by
  refine ⟨by rw [List.length_set, List.length_set]; exact E.len, fun j m e => ?_⟩
  by_cases hj : i = j
  · subst hj
    by_cases hi : i < ρ.length
    · rw [List.getElem?_set_self hi] at e
      cases e
      exact ⟨v, by rw [List.getElem?_set_self (by rw [← E.len]; exact hi)], r⟩
    · rw [List.getElem?_eq_none (by rw [List.length_set]; omega)] at e; cases e
  · rw [List.getElem?_set_ne hj] at e
    obtain ⟨u, e1, q⟩ := E.get j m e
    exact ⟨u, by rw [List.getElem?_set_ne hj]; exact e1, q⟩
theorem RepE.none {i : Nat} (E : RepE G.K mu bn H ρ σ) : RepE G.K mu bn H (ρ.set i none) (σ.set i none) := by
  refine ⟨by rw [List.length_set, List.length_set]; exact E.len, fun j m e => ?_⟩
  by_cases hj : i = j
  · subst hj
    by_cases hi : i < ρ.length
    · rw [List.getElem?_set_self hi] at e; cases e
    · rw [List.getElem?_eq_none (by rw [List.length_set]; omega)] at e; cases e
  · rw [List.getElem?_set_ne hj] at e
    obtain ⟨u, e1, q⟩ := E.get j m e
    exact ⟨u, by rw [List.getElem?_set_ne hj]; exact e1, q⟩
theorem RepE.wipe (E : RepE G.K mu bn H ρ σ) : ∀ ws : List Nat, RepE G.K mu bn H (Gp.wipe ρ ws) (L2.wipe σ ws)
  | [] => E
  | w :: ws => (E.wipe ws).none
theorem wipe_set {x : Option V} {i : Nat} : ∀ {ws : List Nat} {σ : Sg}, i ∈ ws → L2.wipe (σ.set i x) ws = L2.wipe σ ws
  | [], _, h => by cases h
  | w :: ws, σ, h => by
    unfold L2.wipe
    by_cases hi : i ∈ ws
    · rw [wipe_set hi]
    · have e : i = w := by
        rcases List.mem_cons.mp h with e | e
        · exact e
        · exact absurd e hi
      subst e
      have key : ∀ (ws : List Nat) (σ : Sg), i ∉ ws → L2.wipe (σ.set i x) ws = (L2.wipe σ ws).set i x := fun ws => by
        induction ws with
        | nil => intro σ _; rfl
        | cons w ws ih =>
          intro σ hn
          unfold L2.wipe
          rw [ih σ (fun z => hn (List.mem_cons_of_mem _ z)), List.set_comm _ _ (fun z => hn (by rw [z]; exact List.mem_cons_self))]
      rw [key ws σ hi, List.set_set]
/-- the target's slots alone have changed -/
def Only (t : Tg) (σ σ' : Sg) : Prop := ∀ ws, tgIn ws t = true → L2.wipe σ' ws = L2.wipe σ ws
theorem tup_vals {K : PySem.W.Frag} {xs : List PV} {v : V} (h : RepL K mu bn H (.pv (.tup xs)) v) : ∃ a vs, v = .ref a ∧ SqT K H a vs ∧ RepPs K bn H xs vs ∧ vs.length = xs.length := by
  have h := h.toP
  unfold RepP at h
  obtain ⟨a, vs, e, t, r⟩ := h
  exact ⟨a, vs, e, t.sq, r, r.length.symm⟩
/-- one after another -/
inductive Bd (G : Wd) : List Tg → List PV → Env → Env → Prop
  | nil (ρ : Env) : Bd G [] [] ρ ρ
  | cons {t : Tg} {ts : List Tg} {x : PV} {xs : List PV} {ρ ρ1 ρ' : Env} : bindT t (.pv x) ρ = some ρ1 → Bd G ts xs ρ1 ρ' → Bd G (t :: ts) (x :: xs) ρ ρ'
def gSeq (K : PySem.W.Frag) : List Tg → TGs
  | [] => gNil
  | t :: ts => gCons (tgR K t) (gSeq K ts)
def TgOk (G : Wd) (mu : Mu) (bn : List Addr) (H : Hp) (t : Tg) : Prop := ∀ (l : LV) (v : V) (ρ ρ' : Env) (σ : Sg) (Q : Sg → Hp → Prop), RepE G.K mu bn H ρ σ → RepL G.K mu bn H l v → bindT t l ρ = some ρ' →
    (∀ σ', RepE G.K mu bn H ρ' σ' → Only t σ σ' → Q σ' H) → tgR G.K t v σ H Q
theorem seq_red : ∀ {ts : List Tg} {xs : List PV} {vs : List V} {ρ ρ' : Env} {σ : Sg} {Q : Sg → Hp → Prop}, (∀ t ∈ ts, TgOk G mu bn H t) → RepE G.K mu bn H ρ σ → RepPs G.K bn H xs vs → Bd G ts xs ρ ρ' →
    (∀ σ', RepE G.K mu bn H ρ' σ' → (∀ ws, (ts.all (tgIn ws)) = true → L2.wipe σ' ws = L2.wipe σ ws) → Q σ' H) → gSeq G.K ts vs σ H Q
  | [], _, vs, ρ, ρ', σ, Q, _, E, r, b, q => by
    cases b
    unfold RepPs at r
    exact ⟨r, q σ E fun _ _ => rfl⟩
  | t :: ts, _, vs, ρ, ρ', σ, Q, ok, E, r, b, q => by
    cases b with
    | cons b1 b2 =>
      unfold RepPs at r
      obtain ⟨v, vr, e, p1, r⟩ := r
      refine ⟨v, vr, e, ok t List.mem_cons_self _ v ρ _ σ _ E (.pv p1) b1 fun σ1 E1 o1 => ?_⟩
      refine seq_red (fun u hu => ok u (List.mem_cons_of_mem _ hu)) E1 r b2 fun σ2 E2 o2 => q σ2 E2 fun ws h => ?_
      rw [List.all_cons, Bool.and_eq_true] at h; rw [o2 ws h.2, o1 ws h.1]
theorem tup_red {ts : List Tg} {n : Nat} (hn : ts.length = n) {l : LV} {v : V} {ρ ρ' : Env} {σ : Sg} {Q : Sg → Hp → Prop} (ok : ∀ t ∈ ts, TgOk G mu bn H t) (E : RepE G.K mu bn H ρ σ) (r : RepL G.K mu bn H l v)
    (b : ∃ xs, l = .pv (.tup xs) ∧ Bd G ts xs ρ ρ') (q : ∀ σ', RepE G.K mu bn H ρ' σ' → (∀ ws, (ts.all (tgIn ws)) = true → L2.wipe σ' ws = L2.wipe σ ws) → Q σ' H) : gTup G.K n (gSeq G.K ts) v σ H Q := by
  obtain ⟨xs, rfl, b⟩ := b
  obtain ⟨ad, vs, rfl, sq, rp, hl⟩ := tup_vals r
  refine ⟨ad, vs, rfl, sq, ?_, seq_red ok E rp b q⟩
  rw [hl, ← hn]
  have : ∀ {ts : List Tg} {xs : List PV} {ρ ρ' : Env}, Bd G ts xs ρ ρ' → xs.length = ts.length := by
    intro ts xs ρ ρ' b
    induction b with
    | nil => rfl
    | cons _ _ ih => rw [List.length_cons, List.length_cons, ih]
  exact this b
theorem bind2 {a b : Tg} {l : LV} {ρ ρ' : Env} (h : bindT (.t2 a b) l ρ = some ρ') : ∃ xs, l = .pv (.tup xs) ∧ Bd G [a, b] xs ρ ρ' := by
  unfold bindT at h
  split at h <;> (try cases h; done)
  all_goals (rename_i heq; try (cases heq))
  obtain ⟨r1, e0, e1⟩ := Option.bind_eq_some_iff.mp h
  exact ⟨_, rfl, .cons e0 (.cons e1 (.nil _))⟩
theorem bind3 {a b c : Tg} {l : LV} {ρ ρ' : Env} (h : bindT (.t3 a b c) l ρ = some ρ') : ∃ xs, l = .pv (.tup xs) ∧ Bd G [a, b, c] xs ρ ρ' := by
  unfold bindT at h
  split at h <;> (try cases h; done)
  all_goals (rename_i heq; try (cases heq))
  obtain ⟨r2, h, e2⟩ := Option.bind_eq_some_iff.mp h
  obtain ⟨r1, e0, e1⟩ := Option.bind_eq_some_iff.mp h
  exact ⟨_, rfl, .cons e0 (.cons e1 (.cons e2 (.nil _)))⟩
theorem bind4 {a b c d : Tg} {l : LV} {ρ ρ' : Env} (h : bindT (.t4 a b c d) l ρ = some ρ') : ∃ xs, l = .pv (.tup xs) ∧ Bd G [a, b, c, d] xs ρ ρ' := by
  unfold bindT at h
  split at h <;> (try cases h; done)
  all_goals (rename_i heq; try (cases heq))
  obtain ⟨r3, h, e3⟩ := Option.bind_eq_some_iff.mp h
  obtain ⟨r2, h, e2⟩ := Option.bind_eq_some_iff.mp h
  obtain ⟨r1, e0, e1⟩ := Option.bind_eq_some_iff.mp h
  exact ⟨_, rfl, .cons e0 (.cons e1 (.cons e2 (.cons e3 (.nil _))))⟩
theorem bind5 {a b c d f : Tg} {l : LV} {ρ ρ' : Env} (h : bindT (.t5 a b c d f) l ρ = some ρ') : ∃ xs, l = .pv (.tup xs) ∧ Bd G [a, b, c, d, f] xs ρ ρ' := by
  unfold bindT at h
  split at h <;> (try cases h; done)
  all_goals (rename_i heq; try (cases heq))
  obtain ⟨r4, h, e4⟩ := Option.bind_eq_some_iff.mp h
  obtain ⟨r3, h, e3⟩ := Option.bind_eq_some_iff.mp h
  obtain ⟨r2, h, e2⟩ := Option.bind_eq_some_iff.mp h
  obtain ⟨r1, e0, e1⟩ := Option.bind_eq_some_iff.mp h
  exact ⟨_, rfl, .cons e0 (.cons e1 (.cons e2 (.cons e3 (.cons e4 (.nil _)))))⟩
theorem tg_ok (t : Tg) : TgOk G mu bn H t := by
  induction t with
  | nm i =>
    intro l v ρ ρ' σ Q E r e q
    have e : ρ.set i (some l) = ρ' := Option.some.inj e
    subst e
    exact q _ (E.set r) fun ws h => wipe_set (by simpa [tgIn] using h)
  | t2 a b ha hb =>
    intro l v ρ ρ' σ Q E r e q
    exact tup_red (ts := [a, b]) rfl (by simp [ha, hb]) E r (bind2 e) fun σ' E' o => q σ' E' fun ws h => o ws (by simpa [tgIn] using h)
  | t3 a b c ha hb hc =>
    intro l v ρ ρ' σ Q E r e q
    exact tup_red (ts := [a, b, c]) rfl (by simp [ha, hb, hc]) E r (bind3 e) fun σ' E' o => q σ' E' fun ws h => o ws (by simpa [tgIn, and_assoc] using h)
  | t4 a b c d ha hb hc hd =>
    intro l v ρ ρ' σ Q E r e q
    exact tup_red (ts := [a, b, c, d]) rfl (by simp [ha, hb, hc, hd]) E r (bind4 e) fun σ' E' o => q σ' E' fun ws h => o ws (by simpa [tgIn, and_assoc] using h)
  | t5 a b c d f ha hb hc hd hf =>
    intro l v ρ ρ' σ Q E r e q
    exact tup_red (ts := [a, b, c, d, f]) rfl (by simp [ha, hb, hc, hd, hf]) E r (bind5 e) fun σ' E' o => q σ' E' fun ws h => o ws (by simpa [tgIn, and_assoc] using h)

/-! ### iterators -/
def ItOk (G : Wd) (mu : Mu) (bn : List Addr) (H : Hp) (ls : List LV) (J : L2.It) : Prop :=
  ∀ mu1 bn1 H1 S1, Lw mu mu1 → Kp bn H bn1 H1 → RepS G.K mu1 bn1 H1 S1 → ∀ i : Nat,
    (∀ l, ls[i]? = some l → J.go i H1 ∧ ∀ x H2, J.yld i H1 x H2 → Tr mu1 bn1 H1 mu1 bn1 H2 ∧ RepS G.K mu1 bn1 H2 S1 ∧ RepL G.K mu1 bn1 H2 l x) ∧ (ls.length = i → J.stop i H1)
abbrev rlI (G : Wd) : Rl (List LV) L2.It := ItOk G
theorem itok_list {xs : List LV} {a : Addr} {vs : List V} (ha : LstA bn H a vs) (r : RepLs G.K mu bn H xs vs) : ItOk G mu bn H xs (Itl G.K a) := by
  intro mu1 bn1 H1 S1 t k R i
  have ha1 := ha.mono k
  have r1 := r.kp t k
  refine ⟨fun l e => ?_, fun hi => ⟨vs, SqL.of ha1.1, by rw [← r1.length]; exact Nat.le_of_eq hi⟩⟩
  obtain ⟨v, e1, rv⟩ := r1.get e
  refine ⟨⟨vs, v, SqL.of ha1.1, e1⟩, fun x H2 y => ?_⟩
  obtain ⟨rfl, y⟩ := y
  have e2 := y vs (SqL.of ha1.1)
  rw [e1] at e2; cases e2
  exact ⟨Tr.refl _ _ _, R, rv⟩
theorem itok_tup {xs : List PV} {a : Addr} {vs : List V} (ha : TupA G.K bn H a vs) (r : RepPs G.K bn H xs vs) : ItOk G mu bn H (xs.map .pv) (Itt G.K a) := by
  intro mu1 bn1 H1 S1 t k R i
  have ha1 := (ha.mono k).sq
  have r1 : RepLs G.K mu1 bn1 H1 (xs.map .pv) vs := repLs_pv (r.mono k)
  refine ⟨fun l e => ?_, fun hi => ⟨vs, ha1, by rw [← r1.length]; exact Nat.le_of_eq hi⟩⟩
  obtain ⟨v, e1, rv⟩ := r1.get e
  refine ⟨⟨vs, v, ha1, e1⟩, fun x H2 y => ?_⟩
  obtain ⟨rfl, y⟩ := y
  have e2 := y vs ha1
  rw [e1] at e2; cases e2
  exact ⟨Tr.refl _ _ _, R, rv⟩
theorem itok_str {x : List Nat} : ItOk G mu bn H (x.map fun c => .pv (.str [c])) (Its ⟨x.toArray⟩) := by
  intro mu1 bn1 H1 S1 t k R i
  refine ⟨fun l e => ?_, fun hi => by simpa [Its] using Nat.le_of_eq hi⟩
  rw [List.getElem?_map] at e
  cases c : x[i]? with
  | none => rw [c] at e; cases e
  | some ch =>
    rw [c] at e
    have e : LV.pv (.str [ch]) = l := Option.some.inj e
    subst e
    refine ⟨by show i < x.toArray.size; simpa using (List.getElem?_eq_some_iff.mp c).1, fun v H2 y => ?_⟩
    obtain ⟨rfl, c2, e2, rfl⟩ := y
    have e2 : x[i]? = some c2 := by simpa using e2
    rw [c] at e2; cases e2
    exact ⟨Tr.refl _ _ _, R, .pv (repP_str (by show 1 ≤ big; decide))⟩
theorem itok_range {lo : Int} {n : Nat} : ItOk G mu bn H ((List.range n).map fun k => .pv (.int (lo + (k : Nat)))) (Itr lo n) := by
  intro mu1 bn1 H1 S1 t k R i
  refine ⟨fun l e => ?_, fun hi => by simpa [Itr] using Nat.le_of_eq hi⟩
  rw [List.getElem?_map] at e
  by_cases hi : i < n
  · rw [List.getElem?_range hi] at e
    have e : LV.pv (.int (lo + (i : Nat))) = l := Option.some.inj e
    subst e
    refine ⟨hi, fun v H2 y => ?_⟩
    obtain ⟨rfl, rfl⟩ := y
    exact ⟨Tr.refl _ _ _, R, .pv repP_int⟩
  · rw [List.getElem?_eq_none (by simpa using hi)] at e; cases e
end
section
variable {G : Wd} {W : WX} {X : Cx} {a b d e tg : Expr} {fa fb fd : Env → Store → Res LV} {pos : Pos}
theorem run_list {pins : List (Addr × Obj)} {s : Shared} {σ : Sg} {H : Hp} {R : L2.It → Hp → Prop} {a : Addr} {xs : List V} (I : Inv X pins σ H s) (hq : SqL X.K H a xs) (q : R (Itl X.K a) H) :
    wpAny (model X.prog X.w) X.A (pyIter (.ref a)) (PIE X pins σ tg R) X.xe s := by
  obtain ⟨us, _, pl, _⟩ := I.list hq
  refine wpAny_pyIter_list pl.isList ?_
  refine ⟨s.heap.objs.size, [s.heap.objs.size], _, _, H, rfl, I.kept (t' := s.toks) fun b o e => Heap.get?_push_of_some _ e, turn_list a _, ⟨_, Heap.get?_push_size _ rfl, rfl, rfl⟩, fun b hb => ?_, q⟩
  obtain rfl : b = s.heap.objs.size := by simpa using hb
  exact I.fpOk Nat.le.refl (I.hok.fresh Nat.le.refl)
theorem run_tup {pins : List (Addr × Obj)} {s : Shared} {σ : Sg} {H : Hp} {R : L2.It → Hp → Prop} {a : Addr} {xs : List V} (I : Inv X pins σ H s) (hq : SqT X.K H a xs) (q : R (Itt X.K a) H) :
    wpAny (model X.prog X.w) X.A (pyIter (.ref a)) (PIE X pins σ tg R) X.xe s := by
  obtain ⟨us, _, pl, _⟩ := I.tuple hq
  refine wpAny_pyIter_tuple (show s.heap.IsTuple a us.toArray from pl) ?_
  refine ⟨s.heap.objs.size, [s.heap.objs.size], _, _, H, rfl, I.kept (t' := s.toks) fun b o e => Heap.get?_push_of_some _ e, turn_tuple a _, ⟨_, Heap.get?_push_size _ rfl, rfl, rfl⟩, fun b hb => ?_, q⟩
  obtain rfl : b = s.heap.objs.size := by simpa using hb
  exact I.fpOk Nat.le.refl (I.hok.fresh Nat.le.refl)
theorem run_str {pins : List (Addr × Obj)} {s : Shared} {σ : Sg} {H : Hp} {R : L2.It → Hp → Prop} {x : Str} {t : Tok} (I : Inv X pins σ H s) (q : R (Its x) H) :
    wpAny (model X.prog X.w) X.A (pyIter (.str x t)) (PIE X pins σ tg R) X.xe s := by
  cases ha : x.cps.all (· < 128)
  · exact wpAny_pyIter_wide ha (pi_one (tk := s.toks) I _ (turn_str _ x t "str_iterator" (.inr rfl)) ⟨_, Heap.get?_push_size _ rfl, rfl, rfl⟩ q)
  · exact wpAny_pyIter_ascii ha (pi_one (tk := s.toks) I _ (turn_str _ x t "str_ascii_iterator" (.inl rfl)) ⟨_, Heap.get?_push_size _ rfl, rfl, rfl⟩ q)
abbrev tiv (G : Wd) (W : WX) (f : Env → Store → Res (List LV)) : TI := fun σ H R => gev G W (rlI G) f σ H R
theorem i_ex (hK : X.K = G.K) (ha : PE X a (tev G W fa)) : PI X tg a (tiv G W fun ρ S => (fa ρ S).bind fun l S => lift (itemsOf l S) S) := by
  refine ⟨fun pins s σ H R I h => ?_⟩; obtain ⟨mu, bn, ρ, S, A, h⟩ := h.out
  have key := A.step (Rel := rlE G) (f := fa) h (Q1 := fun v H1 => ∃ mu1 bn1 S1 l, RepS G.K mu1 bn1 H1 S1 ∧ RepL G.K mu1 bn1 H1 l v ∧ To G W (rlI G) σ mu1 bn1 H1 R (lift (itemsOf l S1) S1))
    fun mu1 bn1 H1 S1 x u A1 t1 rx h1 => ⟨mu1, bn1, S1, x, A1.R, rx, h1⟩
  refine thn (ha.run pins s σ H _ I key) fun v s1 ⟨x, H1, I1, r1, mu1, bn1, S1, l, R1, rl, h1⟩ => ?_
  have fin : ∀ (l : LV) (ls : List LV) (J : L2.It), To G W (rlI G) σ mu1 bn1 H1 R (lift (itemsOf l S1) S1) → itemsOf l S1 = some ls → ItOk G mu1 bn1 H1 ls J → R J H1 := fun l ls J h1 e ok => by
    rw [e] at h1
    exact (show To G W (rlI G) σ mu1 bn1 H1 R (.ok ls S1) from h1).ret R1 ok
  match l, rl, h1 with
  | .pv (.tup xs), rl, h1 =>
    have rl := rl.toP
    unfold RepP at rl
    obtain ⟨ad, vs, rfl, ha', ra⟩ := rl
    cases r1
    have q : R (Itt X.K ad) H1 := by rw [hK]; exact fin _ _ _ h1 rfl (itok_tup ha' ra)
    exact run_tup I1 (by rw [hK]; exact ha'.sq) q
  | .pv (.lst xs), rl, h1 =>
    have rl := rl.toP
    unfold RepP at rl
    obtain ⟨ad, vs, rfl, ha', ra⟩ := rl
    cases r1
    have q : R (Itl X.K ad) H1 := by rw [hK]; exact fin _ _ _ h1 rfl (itok_list ha' (repLs_pv ra))
    exact run_list I1 (SqL.of ha'.1) q
  | .pv (.str z), rl, h1 =>
    have ev := rep_str rl.toP.v
    subst ev
    obtain ⟨t, rfl⟩ := r1
    exact run_str I1 (fin _ _ _ h1 rfl itok_str)
  | .ls xs, rl, h1 =>
    unfold RepL at rl
    obtain ⟨ad, vs, rfl, ha', ra⟩ := rl
    cases r1
    have q : R (Itl X.K ad) H1 := by rw [hK]; exact fin _ _ _ h1 rfl (itok_list ha' ra)
    exact run_list I1 (SqL.of ha'.1) q
  | .pv (.dict _ _), _, h1 => exact h1.elim
  | .pv .non, _, h1 => exact h1.elim
  | .pv (.bl _), _, h1 => exact h1.elim
  | .pv (.int _), _, h1 => exact h1.elim
  | .pv (.scr _), _, h1 => exact h1.elim
  | .ref _, _, h1 => exact h1.elim
  | .dT _ _, _, h1 => exact h1.elim
  | .ht _, _, h1 => exact h1.elim
theorem rangeOk_iff {a b : Int} (h : rangeOk a b = true) : -1000000 ≤ a ∧ a ≤ 1000000 ∧ -1000000 ≤ b ∧ b ≤ 1000000 ∧ b - a ≤ 1000000 := by
  unfold rangeOk bigI at h
  simp only [Bool.and_eq_true, decide_eq_true_eq] at h
  omega
theorem at_int {α β : Type} {Rel : Rl α β} {l : LV} {f : Int → Res α} {σ : Sg} {mu : Mu} {bn : List Addr} {H : Hp} {Q : β → Hp → Prop} (h : To G W Rel σ mu bn H Q (match l with | .pv (.int j) => f j | _ => .bad)) :
    ∃ j, l = .pv (.int j) ∧ To G W Rel σ mu bn H Q (f j) := by
  match l, h with
  | .pv (.int j), h => exact ⟨j, rfl, h⟩
  | .pv .non, h => exact h.elim
  | .pv (.bl _), h => exact h.elim
  | .pv (.str _), h => exact h.elim
  | .pv (.tup _), h => exact h.elim
  | .pv (.lst _), h => exact h.elim
  | .pv (.dict _ _), h => exact h.elim
  | .pv (.scr _), h => exact h.elim
  | .ref _, h => exact h.elim
  | .ls _, h => exact h.elim
  | .dT _ _, h => exact h.elim
  | .ht _, h => exact h.elim
theorem rangeI_map (a b : Int) : (rangeI a b).map LV.pv = (List.range (b - a).toNat).map fun k => .pv (.int (a + (k : Nat))) := by
  unfold rangeI; rw [List.map_map]; rfl
theorem i_r1 {p : Pos} (hg : Gl X "range") (hm : X.mg "range" = none) (hs : notStar a = true) (ha : PE X a (tev G W fa)) :
    PI X tg (.Call (.Name "range" p) [a] [] pos) (tiv G W fun ρ S => (fa ρ S).bind fun l S => match l with | .pv (.int j) => if rangeOk 0 j then .ok ((rangeI 0 j).map .pv) S else .bad | _ => .bad) := by
  have base := pi_range1 (tg := tg) (pos := pos) (p := p) hg hm (pa_cons ha pa_nil (star_cons hs [] X.env)) (star_cons hs [] X.env)
  refine ⟨fun pins s σ H R I h => base.run pins s σ H R I ?_⟩
  obtain ⟨mu, bn, ρ, S, A, h⟩ := h.out
  refine A.step h fun mu1 bn1 H1 S1 x u A1 t1 rx h1 => ?_
  obtain ⟨j, ej, h5⟩ := at_int (f := fun j => if rangeOk 0 j then Res.ok ((rangeI 0 j).map LV.pv) S1 else Res.bad) h1
  subst ej
  clear h1
  have h1 := h5
  by_cases g : rangeOk 0 j = true
  · rw [if_pos g] at h1
    have := rangeOk_iff g
    refine ⟨j, ?_, by omega, by omega, ?_⟩
    · rw [rep_int rx.toP.v]
    · rw [rangeI_map] at h1
      have e : (j - 0).toNat = j.toNat := by rw [Int.sub_zero]
      rw [e] at h1
      exact h1.ret A1.R itok_range
  · rw [if_neg g] at h1; exact h1.elim
theorem i_r2 {p : Pos} (hg : Gl X "range") (hm : X.mg "range" = none) (hs : notStar a = true) (hs2 : notStar b = true) (ha : PE X a (tev G W fa)) (hb : PE X b (tev G W fb)) :
    PI X tg (.Call (.Name "range" p) [a, b] [] pos) (tiv G W fun ρ S => (fa ρ S).bind fun l S => (fb ρ S).bind fun m S => match l, m with | .pv (.int i), .pv (.int j) => if rangeOk i j then .ok ((rangeI i j).map .pv) S else .bad | _, _ => .bad) := by
  have base := pi_range2 (tg := tg) (pos := pos) (p := p) hg hm (pa_cons ha (pa_cons hb pa_nil (star_cons hs2 [] X.env)) (star_cons hs [b] X.env)) (by rw [star_cons hs, star_cons hs2]; rfl) (star_cons hs2 [] X.env)
  refine ⟨fun pins s σ H R I h => base.run pins s σ H R I ?_⟩
  obtain ⟨mu, bn, ρ, S, A, h⟩ := h.out
  refine A.step h fun mu1 bn1 H1 S1 x u A1 t1 rx h1 => ?_
  refine (A1.hold rx).step h1 fun mu2 bn2 H2 S2 y v A2 t2 ry h2 => ?_
  have key : ∃ i j, x = .pv (.int i) ∧ y = .pv (.int j) ∧ To G W (rlI G) σ mu2 bn2 H2 R (if rangeOk i j then .ok ((rangeI i j).map .pv) S2 else .bad) := by
    revert h2
    split
    · exact fun h2 => ⟨_, _, rfl, rfl, h2⟩
    · exact fun h2 => h2.elim
  obtain ⟨i, j, e1, e2, h5⟩ := key
  subst e1 e2
  clear h2
  have h2 := h5
  by_cases g : rangeOk i j = true
  · rw [if_pos g] at h2
    have := rangeOk_iff g
    refine ⟨i, j, ?_, by omega, ?_⟩
    · rw [rep_int A2.hd.1.toP.v, rep_int ry.toP.v]
    · rw [rangeI_map] at h2
      exact h2.ret A2.R itok_range
  · rw [if_neg g] at h2; exact h2.elim
end
end Gp

namespace Gp
open PySem PySem.Spec PyProof.Rows L2
theorem zipP_get : ∀ (xs ys : List PV) (i : Nat), (zipP xs ys)[i]? = match xs[i]?, ys[i]? with | some x, some y => some (.tup [x, y]) | _, _ => none
  | [], ys, i => by simp [zipP]
  | x :: xs, [], i => by simp only [zipP, List.getElem?_nil]; cases (x :: xs)[i]? <;> rfl
  | x :: xs, y :: ys, 0 => rfl
  | x :: xs, y :: ys, i + 1 => by
    show (zipP xs ys)[i]? = _
    rw [zipP_get xs ys i]; simp
theorem zipP_len : ∀ (xs ys : List PV), (zipP xs ys).length = min xs.length ys.length
  | [], ys => by simp [zipP]
  | x :: xs, [] => by simp [zipP]
  | x :: xs, y :: ys => by
    show (zipP xs ys).length + 1 = _
    rw [zipP_len xs ys, List.length_cons, List.length_cons]; omega
theorem enumP_get : ∀ (xs : List PV) (n i : Nat), (enumP n xs)[i]? = (xs[i]?).map fun x => .tup [.int ((n + i : Nat) : Int), x]
  | [], n, i => by simp [enumP]
  | x :: xs, n, 0 => rfl
  | x :: xs, n, i + 1 => by
    show (enumP (n + 1) xs)[i]? = _
    rw [enumP_get xs (n + 1) i]
    simp only [List.getElem?_cons_succ]; have : n + 1 + i = n + (i + 1) := by omega
    rw [this]
theorem enumP_len : ∀ (xs : List PV) (n : Nat), (enumP n xs).length = xs.length
  | [], n => rfl
  | x :: xs, n => by
    show (enumP (n + 1) xs).length + 1 = _
    rw [enumP_len xs (n + 1)]; rfl
section
variable {G : Wd} {W : WX} {X : Cx} {mu : Mu} {bn : List Addr} {H : Hp} {a b tg : Expr} {fa fb : Env → Store → Res LV} {pos : Pos}
theorem pair_new {mu1 : Mu} {bn1 : List Addr} {H1 H2 : Hp} {S1 : Store} {x y : PV} {u v : V} {T : Addr} (R : RepS G.K mu1 bn1 H1 S1) (ru : RepP G.K bn1 H1 x u) (rv : RepP G.K bn1 H1 y v) (hT : H1 T = none) :
    Tr mu1 bn1 H1 mu1 bn1 (upd H1 T (.tup [u, v])) ∧ RepS G.K mu1 bn1 (upd H1 T (.tup [u, v])) S1 ∧ RepL G.K mu1 bn1 (upd H1 T (.tup [u, v])) (.pv (.tup [x, y])) (.ref T) := by
  have t := Tr.laid (mu := mu1) (bn := bn1) (o := .tup [u, v]) hT
  exact ⟨t, R.laid hT, .pv (repP_tup upd_same (fun hb => R.tk T hb hT) (repPs_cons (ru.mono (t.kp R)) (repPs_cons (rv.mono (t.kp R)) repPs_nil)))⟩
theorem seqL_rep {K : PySem.W.Frag} {l : LV} {xs : List PV} {v : V} (e : seqL l = some xs) (r : RepL K mu bn H l v) :
    ∃ k a us, v = .ref a ∧ (∀ bn1 H1, Kp bn H bn1 H1 → Sq k K H1 a us) ∧ RepPs K bn H xs us := by
  cases l with
  | ref _ => cases e
  | ls _ => cases e
  | dT _ _ => cases e
  | ht _ => cases e
  | pv p =>
    have r := r.toP
    cases p with
    | tup ys =>
      cases e
      unfold RepP at r
      obtain ⟨a, us, rfl, hp, ru⟩ := r
      exact ⟨false, a, us, rfl, fun bn1 H1 k => (hp.mono k).sq, ru⟩
    | lst ys =>
      cases e
      unfold RepP at r
      obtain ⟨a, us, rfl, hp, ru⟩ := r
      exact ⟨true, a, us, rfl, fun bn1 H1 k => SqL.of (hp.mono k).1, ru⟩
    | non => cases e
    | bl _ => cases e
    | int _ => cases e
    | str _ => cases e
    | dict _ _ => cases e
    | scr _ => cases e
theorem itok_zip {xs ys : List PV} {k1 k2 : Bool} {p q : Addr} {us vs : List V}
    (hp : ∀ bn1 H1, Kp bn H bn1 H1 → Sq k1 G.K H1 p us) (hq : ∀ bn1 H1, Kp bn H bn1 H1 → Sq k2 G.K H1 q vs)
    (ru : RepPs G.K bn H xs us) (rv : RepPs G.K bn H ys vs) : ItOk G mu bn H ((zipP xs ys).map .pv) (ItzX G.K k1 k2 p q) := by
  intro mu1 bn1 H1 S1 t k R i
  have hp1 := hp bn1 H1 k
  have hq1 := hq bn1 H1 k
  have ru1 := ru.mono k
  have rv1 := rv.mono k
  refine ⟨fun l e => ?_, fun hi => ⟨us, vs, hp1, hq1, ?_⟩⟩
  · rw [List.getElem?_map, zipP_get] at e
    cases e1 : xs[i]? with
    | none => rw [e1] at e; cases e
    | some x =>
      cases e2 : ys[i]? with
      | none => rw [e1, e2] at e; cases e
      | some z =>
        rw [e1, e2] at e
        have e : LV.pv (.tup [x, z]) = l := Option.some.inj e
        subst e
        obtain ⟨u, g1, r1⟩ := ru1.get e1
        obtain ⟨v, g2, r2⟩ := rv1.get e2
        refine ⟨⟨us, vs, u, v, hp1, hq1, g1, g2⟩, fun w H2 yy => ?_⟩
        obtain ⟨T, u', v', rfl, hT, rfl, q1, q2⟩ := yy
        have q1 := q1 us hp1
        have q2 := q2 vs hq1
        rw [g1] at q1; rw [g2] at q2
        cases q1; cases q2
        exact pair_new (H2 := H1) R r1 r2 hT
  · rw [List.length_map, zipP_len] at hi
    rw [← ru.length, ← rv.length]; omega
theorem itok_enum {xs : List PV} {k : Bool} {p : Addr} {us : List V} (hp : ∀ bn1 H1, Kp bn H bn1 H1 → Sq k G.K H1 p us)
    (ru : RepPs G.K bn H xs us) : ItOk G mu bn H ((enumP 0 xs).map .pv) (IteX G.K k p) := by
  intro mu1 bn1 H1 S1 t kk R i
  have hp1 := hp bn1 H1 kk
  have ru1 := ru.mono kk
  refine ⟨fun l e => ?_, fun hi => ⟨us, hp1, by rw [List.length_map, enumP_len] at hi; rw [← ru.length]; exact hi⟩⟩
  rw [List.getElem?_map, enumP_get] at e
  cases e1 : xs[i]? with
  | none => rw [e1] at e; cases e
  | some x =>
    rw [e1] at e
    have e : LV.pv (.tup [.int ((0 + i : Nat) : Int), x]) = l := Option.some.inj e
    subst e
    obtain ⟨u, g1, r1⟩ := ru1.get e1
    refine ⟨⟨us, u, hp1, g1⟩, fun w H2 yy => ?_⟩
    obtain ⟨T, u', rfl, hT, rfl, q⟩ := yy
    have q := q us hp1
    rw [g1] at q; cases q
    rw [Nat.zero_add]
    exact pair_new (H2 := H1) R repP_int r1 hT
theorem i_enum (hK : X.K = G.K) {p tpos : Pos} {elts : List Expr} {kk : Nat} (hg : Gl X "enumerate") (hm : X.mg "enumerate" = none) (hs : notStar a = true) (ha : PE X a (tev G W fa)) :
    PI X (.Tuple elts kk tpos) (.Call (.Name "enumerate" p) [a] [] pos) (tiv G W fun ρ S => (fa ρ S).bind fun l S => enumL l S) := by
  have base := pi_enumX (tpos := tpos) (elts := elts) (kk := kk) (pos := pos) (p := p) hg hm (pa_cons ha pa_nil (star_cons hs [] X.env)) (star_cons hs [] X.env)
  refine ⟨fun pins s σ H R I h => base.run pins s σ H R I ?_⟩
  obtain ⟨mu, bn, ρ, S, A, h⟩ := h.out
  refine A.step h fun mu1 bn1 H1 S1 x u A1 t1 rx h1 => ?_
  unfold enumL at h1
  cases e : seqL x with
  | none => rw [e] at h1; exact h1.elim
  | some xs =>
    rw [e] at h1
    obtain ⟨k, ad, us, rfl, hp, ru⟩ := seqL_rep e rx
    exact ⟨k, ad, us, rfl, by rw [hK]; exact hp _ _ ⟨fun _ _ e _ => e, fun _ h => .inl h⟩, by rw [hK]; exact To.ret h1 A1.R (itok_enum hp ru)⟩
theorem i_zip (hK : X.K = G.K) {p tpos : Pos} {elts : List Expr} {kk : Nat} (hg : Gl X "zip") (hm : X.mg "zip" = none) (hs : notStar a = true) (hs2 : notStar b = true) (ha : PE X a (tev G W fa)) (hb : PE X b (tev G W fb)) :
    PI X (.Tuple elts kk tpos) (.Call (.Name "zip" p) [a, b] [] pos) (tiv G W fun ρ S => (fa ρ S).bind fun l S => (fb ρ S).bind fun m S => zipL l m S) := by
  have base := pi_zipX (tpos := tpos) (elts := elts) (kk := kk) (pos := pos) (p := p) hg hm (pa_cons ha (pa_cons hb pa_nil (star_cons hs2 [] X.env)) (star_cons hs [b] X.env)) (star_cons hs [b] X.env) (by rw [star_cons hs2]; rfl)
  refine ⟨fun pins s σ H R I h => base.run pins s σ H R I ?_⟩
  obtain ⟨mu, bn, ρ, S, A, h⟩ := h.out
  refine A.step h fun mu1 bn1 H1 S1 x u A1 t1 rx h1 => ?_
  refine (A1.hold rx).step h1 fun mu2 bn2 H2 S2 y v A2 t2 ry h2 => ?_
  have rx := A2.hd.1
  unfold zipL at h2
  cases e : seqL x with
  | none => rw [e] at h2; exact h2.elim
  | some xs =>
    cases e2 : seqL y with
    | none => rw [e, e2] at h2; exact h2.elim
    | some ys =>
      rw [e, e2] at h2
      obtain ⟨k1, pa, us, rfl, hp, ru⟩ := seqL_rep e rx
      obtain ⟨k2, pb, vs, rfl, hq, rv⟩ := seqL_rep e2 ry
      exact ⟨k1, k2, pa, pb, us, vs, rfl, by rw [hK]; exact hp _ _ ⟨fun _ _ e _ => e, fun _ h => .inl h⟩, by rw [hK]; exact hq _ _ ⟨fun _ _ e _ => e, fun _ h => .inl h⟩, by rw [hK]; exact To.ret h2 A2.R (itok_zip hp hq ru rv)⟩
end
end Gp

namespace Gp
open PySem PySem.Spec PyProof.Rows L2

abbrev W0 : WX := fun _ _ _ _ => False
theorem wipe_wipe (σ : Sg) (ws : List Nat) : L2.wipe (L2.wipe σ ws) ws = L2.wipe σ ws := by
  apply List.ext_getElem?
  intro i
  by_cases hi : i ∈ ws
  · have : ∀ τ : Sg, (L2.wipe τ ws)[i]? = if i < τ.length then some none else none := by
      intro τ
      revert hi
      induction ws generalizing τ with
      | nil => intro h; cases h
      | cons w ws ih =>
        intro hi
        show ((L2.wipe τ ws).set w none)[i]? = _
        by_cases hw : w = i
        · subst hw
          by_cases hl : w < τ.length
          · rw [List.getElem?_set_self (by rw [wipe_length]; exact hl), if_pos hl]
          · rw [List.getElem?_eq_none (by rw [List.length_set, wipe_length]; omega), if_neg hl]
        · rw [List.getElem?_set_ne hw]
          rcases List.mem_cons.mp hi with e | e
          · exact absurd e.symm hw
          · exact ih τ e
    rw [this, this, wipe_length]
  · rw [wipe_out hi]
section
variable {G : Wd} {W : WX} {mu mu' : Mu} {bn bn' : List Addr} {H H' : Hp} {S S' : Store} {ρ ρ' : Env} {σ : Sg}
theorem Tr.poke {H1 : Hp} {D : Addr} {o : HO} (t : Tr mu bn H1 mu' bn' H') (h : H1 D = none) : Tr mu bn H1 mu' bn' (upd H' D o) where
  le := t.le
  sub := t.sub
  fresh := t.fresh
  keep := fun b u e k => by rw [upd_ne (ne_of_none e h)]; exact t.keep b u e k
  there := fun b z => by
    by_cases hb : b = D
    · subst hb; rw [upd_same] at z; cases z
    · rw [upd_ne hb] at z; exact t.there b z
  news := t.news
  hold := t.hold
theorem RepS.poke {D : Addr} {o : HO} (R : RepS G.K mu bn H S) (hD : D ∈ bn) (hn : ∀ k : Nat, mu[k]? ≠ some (some D)) : Kp bn H bn (upd H D o) ∧ RepS G.K mu bn (upd H D o) S := by
  have k : Kp bn H bn (upd H D o) := ⟨fun b u e h => by rw [upd_ne (fun z => h (by rw [z]; exact hD))]; exact e, fun _ h => .inl h⟩
  refine ⟨k, R.len, R.sub, R.inj, fun b hb z => ?_, fun j so e => ?_⟩
  · by_cases q : b = D
    · subst q; rw [upd_same] at z; cases z
    · rw [upd_ne q] at z; exact R.tk b hb z
  · rcases R.obj j so e with ⟨a, e1, h⟩ | h
    · exact .inl ⟨a, e1, h.mono k (by rw [upd_ne (fun z => hn j (by rw [← z]; exact e1))])⟩
    · exact .inr h
/-- an object is no longer watched -/
theorem RepS.drop {D : Addr} (R : RepS G.K mu bn H S) (hn : ∀ k : Nat, mu[k]? ≠ some (some D)) : Kp bn H (bn.filter (· != D)) H ∧ RepS G.K mu (bn.filter (· != D)) H S := by
  have k : Kp bn H (bn.filter (· != D)) H := ⟨fun b u e _ => e, fun b h => .inl (List.mem_filter.mp h).1⟩
  refine ⟨k, R.len, fun j a e => ?_, R.inj, fun b hb => R.tk b (List.mem_filter.mp hb).1, fun j so e => ?_⟩
  · exact List.mem_filter.mpr ⟨R.sub j a e, by simpa using fun z => hn j (by rw [← z]; exact e)⟩
  · rcases R.obj j so e with ⟨a, e1, h⟩ | h
    · exact .inl ⟨a, e1, h.mono k rfl⟩
    · exact .inr h
theorem Tr.drop {H1 : Hp} {D : Addr} (t : Tr mu bn H1 mu' bn' H') (h : H1 D = none) : Tr mu bn H1 mu' (bn'.filter (· != D)) H' where
  le := t.le
  sub := t.sub
  fresh := t.fresh
  keep := t.keep
  there := t.there
  news := fun b hb => t.news b (List.mem_filter.mp hb).1
  hold := fun b hb h0 hn => List.mem_filter.mpr ⟨t.hold b hb h0 hn, by simpa using fun z => h0 (by rw [z]; exact h)⟩
theorem Tr.adopt {H1 : Hp} {D : Addr} (t : Tr mu bn H1 mu' bn' H') (h : H1 D = none) : Tr mu bn H1 (mu' ++ [some D]) bn' H' where
  le := by rw [List.length_append]; have := t.le; omega
  sub := fun k a hk e => t.sub k a hk (by rw [List.getElem?_append_left (Nat.lt_of_lt_of_le hk t.le)] at e; exact e)
  fresh := fun k a hk e => by
    by_cases q : k < mu'.length
    · rw [List.getElem?_append_left q] at e; exact t.fresh k a hk e
    · rw [List.getElem?_append_right (by omega)] at e
      cases z : k - mu'.length with
      | zero => rw [z] at e; simp at e; rw [← e]; exact h
      | succ n => rw [z] at e; simp at e
  keep := t.keep
  there := t.there
  news := t.news
  hold := t.hold
theorem RepS.adopt {D : Addr} {ps : List PV} {vs : List V} (R : RepS G.K mu bn H S) (hD : D ∈ bn) (hn : ∀ k : Nat, mu[k]? ≠ some (some D)) (e : H D = some (.lst vs)) (r : RepPs G.K bn H ps vs) : RepS G.K (mu ++ [some D]) bn H (S ++ [.lst ps]) := by
  have key : ∀ (i : Nat) (a : Addr), (mu ++ [some D])[i]? = some (some a) → (i < mu.length ∧ mu[i]? = some (some a)) ∨ (i = mu.length ∧ a = D) := fun i a e => by
    by_cases hi : i < mu.length
    · rw [List.getElem?_append_left hi] at e; exact .inl ⟨hi, e⟩
    · rw [List.getElem?_append_right (by omega)] at e
      cases q : i - mu.length with
      | zero => rw [q] at e; simp at e; exact .inr ⟨by omega, e.symm⟩
      | succ n => rw [q] at e; simp at e
  refine ⟨by rw [List.length_append, List.length_append, R.len]; rfl, fun k a e => ?_, fun j k a e1 e2 => ?_, R.tk, fun k x e => ?_⟩
  · rcases key k a e with ⟨_, q⟩ | ⟨_, q⟩
    · exact R.sub k a q
    · rw [q]; exact hD
  · rcases key j a e1 with ⟨h1, g1⟩ | ⟨h1, g1⟩
    · rcases key k a e2 with ⟨h2, g2⟩ | ⟨h2, g2⟩
      · exact R.inj j k a g1 g2
      · subst g2; exact absurd g1 (hn j)
    · rcases key k a e2 with ⟨h2, g2⟩ | ⟨h2, g2⟩
      · subst g1; exact absurd g2 (hn k)
      · omega
  · by_cases hk : k < S.length
    · rw [List.getElem?_append_left hk] at e
      have hl := R.len
      rcases R.obj k x e with ⟨a, e1, h⟩ | ⟨h, e1⟩
      · exact .inl ⟨a, by rw [List.getElem?_append_left (by omega)]; exact e1, h⟩
      · exact .inr ⟨h, by rw [List.getElem?_append_left (by omega)]; exact e1⟩
    · rw [List.getElem?_append_right (by omega)] at e
      cases q : k - S.length with
      | succ n => rw [q] at e; simp at e
      | zero =>
        rw [q] at e; simp at e; subst e
        have hl := R.len
        refine .inl ⟨D, ?_, vs, ‹H D = _›, r⟩
        rw [List.getElem?_append_right (by omega), show k - mu.length = 0 by omega]; rfl
/-- the list at D is the result -/
theorem lst_fin {mu1 : Mu} {bn1 : List Addr} {H1 : Hp} {Q : VK} {al : Bool} {ys : List LV} {vs : List V} {D : Addr} (h : To G W (rlE G) σ mu1 bn1 H1 Q (mkC al ys S)) (t : Tr mu1 bn1 H1 mu bn H) (h1 : H1 D = none) (R : RepS G.K mu bn H S) (hD : D ∈ bn)
    (hn : ∀ k : Nat, mu[k]? ≠ some (some D)) (e : H D = some (.lst vs)) (r : RepLs G.K mu bn H ys vs) : Q (.ref D) H := by
  unfold mkC at h
  by_cases hl : ys.length ≤ big
  rotate_left 1
  · rw [if_neg (by simpa using hl)] at h; exact h.elim
  rw [if_pos (by simpa using hl)] at h
  unfold mkL at h
  obtain ⟨kd, Rd⟩ := R.drop hn
  have td := t.drop (D := D) h1
  have nin : D ∉ bn.filter (· != D) := fun z => by simpa using (List.mem_filter.mp z).2
  have tl : Tr mu bn H mu (bn.filter (· != D)) H → True := fun _ => trivial
  cases c : pvs ys with
  | some ps =>
    rw [c] at h
    have rp := pvs_rep c r
    cases al with
    | false => exact (show OkG G (rlE G) mu1 bn1 H1 Q (.pv (.lst ps)) S from h) _ _ _ _ td Rd (.pv (repP_lst e nin (rp.mono kd)))
    | true =>
      have h : OkG G (rlE G) mu1 bn1 H1 Q (.ref S.length) (S ++ [.lst ps]) := h
      refine h _ _ _ _ (t.adopt h1) (R.adopt hD hn e rp) ?_
      unfold rlE RepL
      rw [← R.len]
      refine ⟨by rw [List.length_append]; exact Nat.lt_succ_self _, fun a q => ?_⟩
      rw [List.getElem?_append_right (Nat.le_refl _), Nat.sub_self] at q
      simp at q; rw [q]
  | none =>
    rw [c] at h
    have h : OkG G (rlE G) mu1 bn1 H1 Q (.ls ys) S := h
    refine h _ _ _ _ td Rd ?_
    unfold rlE RepL
    refine ⟨D, vs, rfl, ⟨e, nin⟩, ?_⟩
    exact r.kp ⟨Nat.le_refl _, fun _ _ _ e => e⟩ kd
/-- the state of a comprehension: the new list is at D, watched -/
structure Wt (G : Wd) (mu1 : Mu) (bn1 : List Addr) (H1 : Hp) (D : Addr) (mu : Mu) (bn : List Addr) (H : Hp) (S : Store) (acc : List LV) (av : List V) : Prop where
  t : Tr mu1 bn1 H1 mu bn H
  R : RepS G.K mu bn H S
  hD : D ∈ bn
  hn : ∀ k : Nat, mu[k]? ≠ some (some D)
  e : H D = some (.lst av)
  r : RepLs G.K mu bn H acc av
theorem Wt.step {mu1 mu2 : Mu} {bn1 bn2 : List Addr} {H1 H2 : Hp} {D : Addr} {acc : List LV} {av : List V} (w : Wt G mu1 bn1 H1 D mu bn H S acc av) (t : Tr mu bn H mu2 bn2 H2) (R : RepS G.K mu2 bn2 H2 S') : Wt G mu1 bn1 H1 D mu2 bn2 H2 S' acc av where
  t := w.t.trans t
  R := R
  hD := t.hold D w.hD (by rw [w.e]; simp) w.hn
  hn := fun k e => by
    by_cases hk : k < mu.length
    · exact w.hn k (t.sub k D hk e)
    · have := t.fresh k D (by omega) e
      rw [w.e] at this; cases this
  e := t.keep D _ w.e w.hn
  r := w.r.mono t (t.kp w.R)
theorem Wt.put {mu1 : Mu} {bn1 : List Addr} {H1 : Hp} {D : Addr} {acc : List LV} {av : List V} {l : LV} {y : V} (w : Wt G mu1 bn1 H1 D mu bn H S acc av) (h1 : H1 D = none) (r : RepL G.K mu bn H l y) : Wt G mu1 bn1 H1 D mu bn (upd H D (.lst (av ++ [y]))) S (acc ++ [l]) (av ++ [y]) where
  t := w.t.poke h1
  R := (w.R.poke w.hD w.hn).2
  hD := w.hD
  hn := w.hn
  e := upd_same
  r := (w.r.append (repLs_cons r repLs_nil)).kp ⟨Nat.le_refl _, fun _ _ _ e => e⟩ (w.R.poke w.hD w.hn).1
theorem Wt.start {D : Addr} (R : RepS G.K mu bn H S) (h : H D = none) : Wt G mu bn H D mu (D :: bn) (upd H D (.lst [])) S [] [] where
  t := {
    le := Nat.le_refl _
    sub := fun _ _ _ e => e
    fresh := fun k a h e => (no_past h e).elim
    keep := fun b u e _ => by rw [upd_ne (ne_of_none e h)]; exact e
    there := (Tr.laid (mu := mu) (bn := bn) h).there
    news := fun b hb => (List.mem_cons.mp hb).elim (fun e => .inr (by rw [e]; exact h)) .inl
    hold := fun b hb _ _ => List.mem_cons_of_mem _ hb }
  R := by
    have k : Kp bn H (D :: bn) (upd H D (.lst [])) := ⟨fun b u e _ => by rw [upd_ne (ne_of_none e h)]; exact e, fun b hb => (List.mem_cons.mp hb).elim (fun e => .inr (by rw [e]; exact h)) .inl⟩
    refine ⟨R.len, fun k a e => List.mem_cons_of_mem _ (R.sub k a e), R.inj, fun b hb z => ?_, fun j so e => ?_⟩
    · rcases List.mem_cons.mp hb with q | q
      · rw [q, upd_same] at z; cases z
      · exact R.tk b q ((Tr.laid (mu := mu) (bn := bn) h).there b z)
    · rcases R.obj j so e with ⟨a, e1, q⟩ | q
      · exact .inl ⟨a, e1, q.mono k (by rw [upd_ne (fun z => R.tk a (R.sub j a e1) (by rw [z]; exact h))])⟩
      · exact .inr q
  hD := List.mem_cons_self
  hn := fun k e => R.tk D (R.sub k D e) h
  e := upd_same
  r := repLs_nil
theorem gev.known {α β : Type} {Rel : Rl α β} {f : Env → Store → Res α} {Q : β → Hp → Prop} {a : α} (E : RepE G.K mu bn H ρ σ) (R : RepS G.K mu bn H S) (e : f ρ S = .ok a S') (h : ∀ mu' bn' H' b, Tr mu bn H mu' bn' H' → RepS G.K mu' bn' H' S' → Rel mu' bn' H' a b → Q b H') : gev G W Rel f σ H Q :=
  ⟨mu, bn, ρ, S, E, R, by rw [e]; exact h⟩
theorem bind_ok {α β : Type} {r : Res α} {f : α → Store → Res β} {b : β} (h : r.bind f = .ok b S) : ∃ a S1, r = .ok a S1 ∧ f a S1 = .ok b S := by
  cases r with
  | ok a S1 => exact ⟨a, S1, rfl, h⟩
  | exc e S1 => cases h
  | bad => cases h
theorem noX_to {α γ δ : Type} {Rel2 : Rl γ δ} {Q : δ → Hp → Prop} {r : Res α} {g : α → Store → Res γ} (h : To G W Rel2 σ mu bn H Q ((noX r).bind g)) : ∃ a S1, r = .ok a S1 ∧ To G W Rel2 σ mu bn H Q (g a S1) := by
  cases r with
  | ok a S1 => exact ⟨a, S1, rfl, h⟩
  | exc e S1 => exact h.elim
  | bad => exact h.elim
abbrev turnF (ws : List Nat) (t : Tg) (ft : Env → Store → Res Bool) (fe : Env → Store → Res LV) (ρ : Env) : LV → Store → Res (Option LV) := fun l S =>
  turn (bindT t l (Gp.wipe ρ ws)) fun ρ => iteR (ft ρ S) (fun S => (fe ρ S).bind fun v S => .ok (some v) S) (fun S => .ok none S)
/-- one turn of a block -/
theorem turn_red {mu1 : Mu} {bn1 : List Addr} {H1 : Hp} {D : Addr} {acc : List LV} {av : List V} {ws : List Nat} {t : Tg} {ft : Env → Store → Res Bool} {fe : Env → Store → Res LV} {l : LV} {x : V} {o : Option LV} {Nx : Hp → Prop}
    (hw : tgIn ws t = true) (w : Wt G mu1 bn1 H1 D mu bn H S acc av) (h1 : H1 D = none) (E : RepE G.K mu bn H ρ σ) (rl : RepL G.K mu bn H l x) (hF : turnF ws t ft fe ρ l S = .ok o S') (room : o ≠ none → acc.length < big)
    (nx : ∀ mu' bn' H' av', Wt G mu1 bn1 H1 D mu' bn' H' S' (acc ++ o.toList) av' → Lw mu mu' → Kp bn H bn' H' → Nx H') :
    tgR G.K t x (L2.wipe σ ws) H fun σ2 H2 => L2.wipe σ2 ws = L2.wipe σ ws ∧ tet G W0 ft σ2 H2 fun b H3 => if b = true then tev G W0 fe σ2 H3 fun y H4 => ∃ acc, H4 D = some (.lst acc) ∧ acc.length < sizeLine ∧ Nx (upd H4 D (.lst (acc ++ [y]))) else Nx H3 := by
  unfold turnF turn at hF
  cases eb : bindT t l (Gp.wipe ρ ws) with
  | none => rw [eb] at hF; cases hF
  | some ρ' =>
    rw [eb] at hF
    have hF : iteR (ft ρ' S) (fun S => (fe ρ' S).bind fun v S => .ok (some v) S) (fun S => .ok none S) = .ok o S' := hF
    refine tg_ok t l x _ ρ' _ _ (E.wipe ws) rl eb fun σ2 E2 o2 => ⟨by rw [o2 ws hw, wipe_wipe], ?_⟩
    obtain ⟨b, S2, eb, hF⟩ := bind_ok hF
    refine gev.known E2 w.R eb fun mu2 bn2 H2 b' t2 R2 rb => ?_
    have rb : b = b' := rb
    subst rb
    have w2 := w.step t2 R2
    have E3 := E2.mono t2 (t2.kp w.R)
    cases b with
    | false =>
      have hF : Res.ok none S2 = Res.ok o S' := hF
      cases hF
      rw [if_neg (by simp)]
      exact nx _ _ _ _ (by simpa using w2) t2.lw (t2.kp w.R)
    | true =>
      have hF : ((fe ρ' S2).bind fun v S => Res.ok (some v) S) = .ok o S' := hF
      obtain ⟨v, S3, ev, hF⟩ := bind_ok hF
      have hF : Res.ok (some v) S3 = Res.ok o S' := hF
      cases hF
      rw [if_pos rfl]
      refine gev.known E3 R2 ev fun mu3 bn3 H3 y t3 R3 ry => ?_
      have w3 := w2.step t3 R3
      refine ⟨av, w3.e, ?_, nx _ _ _ _ (w3.put h1 ry) (t2.lw.trans t3.lw) (((t2.kp w.R).trans (t3.kp w2.R)).trans (w3.R.poke w3.hD w3.hn).1)⟩
      rw [← w.r.length]
      exact Nat.lt_of_lt_of_le (room (by simp)) big_line
variable {ws : List Nat} {t : Tg} {ft : Env → Store → Res Bool} {fe : Env → Store → Res LV} {fi : Env → Store → Res (List LV)} {al : Bool}
theorem mkC_len {Q : VK} {ys : List LV} (h : To G W (rlE G) σ mu bn H Q (mkC al ys S)) : ys.length ≤ big := by
  unfold mkC at h
  by_cases hl : ys.length ≤ big
  · exact hl
  · rw [if_neg (by simpa using hl)] at h; exact h.elim
theorem drop_get {α : Type} {xs : List α} {i : Nat} {x : α} (h : xs[i]? = some x) : xs.drop i = x :: xs.drop (i + 1) := by
  obtain ⟨hi, rfl⟩ := List.getElem?_eq_some_iff.mp h
  exact List.drop_eq_getElem_cons hi
theorem red_lc {H : Hp} {Q : VK} (hw : tgIn ws t = true) (h : tev G W (fun ρ S => (fi ρ S).bind fun ls S => (noX (compL (turnF ws t ft fe ρ) ls S)).bind fun ys S => mkC al ys S) σ H Q) :
    tLc (tiv G W fi) (tgR G.K t) (tet G W0 ft) (tev G W0 fe) ws σ H Q := by
  obtain ⟨mu, bn, ρ, S, A, h⟩ := h.out
  refine A.step h fun mu1 bn1 H1 S1 ls J A1 t1 rJ h1 => ?_
  intro D hD
  obtain ⟨ys, S3, ec, hq⟩ := noX_to h1
  have hlen := mkC_len hq
  refine ⟨fun i m H => m = ls.length - i ∧ i ≤ ls.length ∧ ∃ mu bn S acc av zs, Wt G mu1 bn1 H1 D mu bn H S acc av ∧ compL (turnF ws t ft fe ρ) (ls.drop i) S = .ok zs S3 ∧ acc ++ zs = ys,
    ⟨ls.length, rfl, Nat.zero_le _, mu1, D :: bn1, S1, [], [], ys, Wt.start A1.R hD, by simpa using ec, rfl⟩, ?_⟩
  rintro i m H2 ⟨rfl, hi, mu2, bn2, S2, acc, av, zs, w, ez, ey⟩
  have J2 := rJ mu2 bn2 H2 S2 w.t.lw (w.t.kp A1.R) w.R i
  by_cases hlt : i < ls.length
  rotate_left 1
  · refine .inl ⟨J2.2 (by omega), ?_⟩
    rw [List.drop_eq_nil_of_le (by omega)] at ez
    cases ez
    rw [List.append_nil] at ey
    subst ey
    exact lst_fin hq w.t hD w.R w.hD w.hn w.e w.r
  obtain ⟨l, el⟩ : ∃ l, ls[i]? = some l := ⟨ls[i], by simp [hlt]⟩
  obtain ⟨go, yl⟩ := J2.1 l el
  rw [drop_get el] at ez
  obtain ⟨o, S4, e4, ez⟩ := bind_ok (show ((turnF ws t ft fe ρ l S2).bind fun o S => (compL (turnF ws t ft fe ρ) (ls.drop (i + 1)) S).bind fun ys S => match o with | some y => Res.ok (y :: ys) S | none => .ok ys S) = .ok zs S3 from ez)
  obtain ⟨zs', S5, e5, ez⟩ := bind_ok ez
  have ezs : zs = o.toList ++ zs' ∧ S5 = S3 := by cases o <;> (cases ez; exact ⟨rfl, rfl⟩)
  obtain ⟨rfl, rfl⟩ := ezs
  refine .inr ⟨go, fun H' => ∃ mu bn av, Wt G mu1 bn1 H1 D mu bn H' S4 (acc ++ o.toList) av, fun H' ⟨mu', bn', av', w'⟩ => ?_, fun x H' yy => ?_⟩
  · exact ⟨ls.length - (i + 1), by omega, rfl, hlt, mu', bn', S4, _, av', zs', w', e5, by rw [List.append_assoc]; exact ey⟩
  · obtain ⟨ty, Ry, rl⟩ := yl x H' yy
    have w' := w.step ty Ry
    refine turn_red hw w' hD (A1.E.mono w'.t (w'.t.kp A1.R)) rl e4 (fun ho => ?_) fun mu' bn' H' av' w' _ _ => ⟨mu', bn', av', w'⟩
    cases o with
    | none => exact absurd rfl ho
    | some y =>
      have := congrArg List.length ey
      simp at this
      omega
variable {ws2 : List Nat} {t2 : Tg} {ft2 : Env → Store → Res Bool} {fi2 : Env → Store → Res (List LV)}
theorem RepE.kp (t : Lw mu mu') (k : Kp bn H bn' H') (h : RepE G.K mu bn H ρ σ) : RepE G.K mu' bn' H' ρ σ := ⟨h.len, fun i l e => let ⟨v, e1, r⟩ := h.get i l e; ⟨v, e1, r.kp t k⟩⟩
abbrev turn2F (ws ws2 : List Nat) (t t2 : Tg) (ft ft2 : Env → Store → Res Bool) (fi2 : Env → Store → Res (List LV)) (fe : Env → Store → Res LV) (ρ : Env) : LV → Store → Res (List LV) := fun l S =>
  match bindT t l (Gp.wipe ρ ws) with
  | some ρ => iteR (ft ρ S) (fun S => (fi2 ρ S).bind fun ls S => compL (turnF ws2 t2 ft2 fe ρ) ls S) (fun S => .ok [] S)
  | none => .bad
theorem red_lc2 {H : Hp} {Q : VK} (hw : tgIn ws t = true) (hw2 : tgIn ws2 t2 = true) (h : tev G W (fun ρ S => (fi ρ S).bind fun ls S => (noX (compLL (turn2F ws ws2 t t2 ft ft2 fi2 fe ρ) ls S)).bind fun ys S => mkC al ys S) σ H Q) :
    tLc2 (tiv G W fi) (tgR G.K t) (tet G W0 ft) (tiv G W0 fi2) (tgR G.K t2) (tet G W0 ft2) (tev G W0 fe) ws ws2 σ H Q := by
  obtain ⟨mu, bn, ρ, S, A, h⟩ := h.out
  refine A.step h fun mu1 bn1 H1 S1 ls J A1 t1 rJ h1 => ?_
  intro D hD
  obtain ⟨ys, S3, ec, hq⟩ := noX_to h1
  have hlen := mkC_len hq
  refine ⟨fun i m H => m = ls.length - i ∧ i ≤ ls.length ∧ ∃ mu bn S acc av zs, Wt G mu1 bn1 H1 D mu bn H S acc av ∧ compLL (turn2F ws ws2 t t2 ft ft2 fi2 fe ρ) (ls.drop i) S = .ok zs S3 ∧ acc ++ zs = ys,
    ⟨ls.length, rfl, Nat.zero_le _, mu1, D :: bn1, S1, [], [], ys, Wt.start A1.R hD, by simpa using ec, rfl⟩, ?_⟩
  rintro i m H2 ⟨rfl, hi, mu2, bn2, S2, acc, av, zs, w, ez, ey⟩
  have J2 := rJ mu2 bn2 H2 S2 w.t.lw (w.t.kp A1.R) w.R i
  by_cases hlt : i < ls.length
  rotate_left 1
  · refine .inl ⟨J2.2 (by omega), ?_⟩
    rw [List.drop_eq_nil_of_le (by omega)] at ez
    cases ez
    rw [List.append_nil] at ey
    subst ey
    exact lst_fin hq w.t hD w.R w.hD w.hn w.e w.r
  obtain ⟨l, el⟩ : ∃ l, ls[i]? = some l := ⟨ls[i], by simp [hlt]⟩
  obtain ⟨go, yl⟩ := J2.1 l el
  rw [drop_get el] at ez
  obtain ⟨o, S4, e4, ez⟩ := bind_ok (show ((turn2F ws ws2 t t2 ft ft2 fi2 fe ρ l S2).bind fun o S => (compLL (turn2F ws ws2 t t2 ft ft2 fi2 fe ρ) (ls.drop (i + 1)) S).bind fun ys S => .ok (o ++ ys) S) = .ok zs S3 from ez)
  obtain ⟨zs', S5, e5, ez⟩ := bind_ok ez
  have ez : Res.ok (o ++ zs') S5 = .ok zs S3 := ez
  cases ez
  refine .inr ⟨go, fun H' => ∃ mu bn av, Wt G mu1 bn1 H1 D mu bn H' S4 (acc ++ o) av, fun H' ⟨mu', bn', av', w'⟩ => ?_, fun x H' yy => ?_⟩
  · exact ⟨ls.length - (i + 1), by omega, rfl, hlt, mu', bn', S4, _, av', zs', w', e5, by rw [List.append_assoc]; exact ey⟩
  obtain ⟨ty, Ry, rl⟩ := yl x H' yy
  have w' := w.step ty Ry
  have E' := A1.E.mono w'.t (w'.t.kp A1.R)
  unfold turn2F at e4
  cases eb : bindT t l (Gp.wipe ρ ws) with
  | none => rw [eb] at e4; cases e4
  | some ρ' =>
    rw [eb] at e4
    have e4 : iteR (ft ρ' S2) (fun S => (fi2 ρ' S).bind fun ls S => compL (turnF ws2 t2 ft2 fe ρ') ls S) (fun S => .ok [] S) = .ok o S4 := e4
    refine tg_ok t l x _ ρ' _ _ (E'.wipe ws) rl eb fun σ2 E2 o2 => ⟨by rw [o2 ws hw, wipe_wipe], ?_⟩
    obtain ⟨b, S5, eb, e4⟩ := bind_ok e4
    refine gev.known E2 w'.R eb fun mu3 bn3 H3 b' t3 R3 rb => ?_
    have rb : b = b' := rb
    subst rb
    have w3 := w'.step t3 R3
    have E3 := E2.mono t3 (t3.kp w'.R)
    cases b with
    | false =>
      have e4 : Res.ok [] S5 = Res.ok o S4 := e4
      cases e4
      rw [if_neg (by simp)]
      exact ⟨_, _, _, by simpa using w3⟩
    | true =>
      obtain ⟨ls2, S6, ei, e4⟩ := bind_ok (show ((fi2 ρ' S5).bind fun ls S => compL (turnF ws2 t2 ft2 fe ρ') ls S) = .ok o S4 from e4)
      rw [if_pos rfl]
      refine gev.known E3 R3 ei fun mu4 bn4 H4 J1 t4 R4 rJ1 => ?_
      have w4 := w3.step t4 R4
      have E4 := E3.mono t4 (t4.kp w3.R)
      refine ⟨fun j k H => k = ls2.length - j ∧ j ≤ ls2.length ∧ ∃ mu bn S acc1 av zs, Wt G mu1 bn1 H1 D mu bn H S acc1 av ∧ Lw mu4 mu ∧ Kp bn4 H4 bn H ∧ compL (turnF ws2 t2 ft2 fe ρ') (ls2.drop j) S = .ok zs S4 ∧ acc1 ++ zs = acc ++ o,
        ⟨ls2.length, rfl, Nat.zero_le _, mu4, bn4, S6, acc, av, o, w4, ⟨Nat.le_refl _, fun _ _ _ e => e⟩, ⟨fun _ _ e _ => e, fun _ h => .inl h⟩, by simpa using e4, rfl⟩, ?_⟩
      rintro j k H5 ⟨rfl, hj, mu5, bn5, S7, acc1, av1, zs1, w5, l5, k5, ez1, ey1⟩
      have J3 := rJ1 mu5 bn5 H5 S7 l5 k5 w5.R j
      by_cases hlt1 : j < ls2.length
      rotate_left 1
      · refine .inl ⟨J3.2 (by omega), ?_⟩
        rw [List.drop_eq_nil_of_le (by omega)] at ez1
        cases ez1
        rw [List.append_nil] at ey1
        subst ey1
        exact ⟨_, _, _, w5⟩
      obtain ⟨l2, el2⟩ : ∃ l, ls2[j]? = some l := ⟨ls2[j], by simp [hlt1]⟩
      obtain ⟨go1, yl1⟩ := J3.1 l2 el2
      rw [drop_get el2] at ez1
      obtain ⟨q, S8, e8, ez1⟩ := bind_ok (show ((turnF ws2 t2 ft2 fe ρ' l2 S7).bind fun o S => (compL (turnF ws2 t2 ft2 fe ρ') (ls2.drop (j + 1)) S).bind fun ys S => match o with | some y => Res.ok (y :: ys) S | none => .ok ys S) = .ok zs1 S4 from ez1)
      obtain ⟨zs2, S9, e9, ez1⟩ := bind_ok ez1
      have ezs : zs1 = q.toList ++ zs2 ∧ S9 = S4 := by cases q <;> (cases ez1; exact ⟨rfl, rfl⟩)
      obtain ⟨rfl, rfl⟩ := ezs
      refine .inr ⟨go1, fun H' => ∃ mu bn av, Wt G mu1 bn1 H1 D mu bn H' S8 (acc1 ++ q.toList) av ∧ Lw mu4 mu ∧ Kp bn4 H4 bn H', fun H' ⟨mu', bn', av', w', l', k'⟩ => ?_, fun x H' yy => ?_⟩
      · exact ⟨ls2.length - (j + 1), by omega, rfl, hlt1, mu', bn', S8, _, av', zs2, w', l', k', e9, by rw [List.append_assoc]; exact ey1⟩
      · obtain ⟨ty, Ry, rl⟩ := yl1 x H' yy
        have w6 := w5.step ty Ry
        have l6 := l5.trans ty.lw
        have k6 := k5.trans (ty.kp w5.R)
        refine turn_red hw2 w6 hD (E4.kp l6 k6) rl e8 (fun ho => ?_) fun mu' bn' H' av' w' l' k' => ⟨mu', bn', av', w', l6.trans l', k6.trans k'⟩
        cases q with
        | none => exact absurd rfl ho
        | some y =>
          have h1 := congrArg List.length ey
          have h2 := congrArg List.length ey1
          simp at h1 h2
          omega
end
end Gp

namespace Gp
open PySem PySem.Spec PyProof.Rows L2
section
variable {G : Wd} {W : WX} {mu mu' : Mu} {bn bn' : List Addr} {H H' : Hp} {S S' : Store} {ρ ρ' : Env} {σ : Sg}
theorem RepS.adoptO {D : Addr} {so : SO} (R : RepS G.K mu bn H S) (hD : D ∈ bn) (hn : ∀ k : Nat, mu[k]? ≠ some (some D)) (r : RepO G.K bn H D so) : RepS G.K (mu ++ [some D]) bn H (S ++ [so]) := by
  have key : ∀ (i : Nat) (a : Addr), (mu ++ [some D])[i]? = some (some a) → (i < mu.length ∧ mu[i]? = some (some a)) ∨ (i = mu.length ∧ a = D) := fun i a e => by
    by_cases hi : i < mu.length
    · rw [List.getElem?_append_left hi] at e; exact .inl ⟨hi, e⟩
    · rw [List.getElem?_append_right (by omega)] at e
      cases q : i - mu.length with
      | zero => rw [q] at e; simp at e; exact .inr ⟨by omega, e.symm⟩
      | succ n => rw [q] at e; simp at e
  refine ⟨by rw [List.length_append, List.length_append, R.len]; rfl, fun k a e => ?_, fun j k a e1 e2 => ?_, R.tk, fun k x e => ?_⟩
  · rcases key k a e with ⟨_, q⟩ | ⟨_, q⟩
    · exact R.sub k a q
    · rw [q]; exact hD
  · rcases key j a e1 with ⟨h1, g1⟩ | ⟨h1, g1⟩
    · rcases key k a e2 with ⟨h2, g2⟩ | ⟨h2, g2⟩
      · exact R.inj j k a g1 g2
      · subst g2; exact absurd g1 (hn j)
    · rcases key k a e2 with ⟨h2, g2⟩ | ⟨h2, g2⟩
      · subst g1; exact absurd g2 (hn k)
      · omega
  · by_cases hk : k < S.length
    · rw [List.getElem?_append_left hk] at e
      have hl := R.len
      rcases R.obj k x e with ⟨a, e1, h⟩ | ⟨h, e1⟩
      · exact .inl ⟨a, by rw [List.getElem?_append_left (by omega)]; exact e1, h⟩
      · exact .inr ⟨h, by rw [List.getElem?_append_left (by omega)]; exact e1⟩
    · rw [List.getElem?_append_right (by omega)] at e
      cases q : k - S.length with
      | succ n => rw [q] at e; simp at e
      | zero =>
        rw [q] at e; simp at e; subst e
        have hl := R.len
        refine .inl ⟨D, ?_, r⟩
        rw [List.getElem?_append_right (by omega), show k - mu.length = 0 by omega]; rfl
/-- the state of a dict comprehension: the new dict is at D, watched -/
structure WtD (G : Wd) (mu1 : Mu) (bn1 : List Addr) (H1 : Hp) (D : Addr) (mu : Mu) (bn : List Addr) (H : Hp) (S : Store) (ks ws : List PV) (kvs : List (Key × V)) : Prop where
  t : Tr mu1 bn1 H1 mu bn H
  R : RepS G.K mu bn H S
  hD : D ∈ bn
  hn : ∀ k : Nat, mu[k]? ≠ some (some D)
  e : H D = some (.dK kvs)
  k : KeysR ks kvs
  r : RepPs G.K bn H ws (kvs.map (·.2))
variable {mu1 mu2 : Mu} {bn1 bn2 : List Addr} {H1 H2 : Hp} {D : Addr} {ks ws : List PV} {kvs : List (Key × V)}
theorem WtD.step (w : WtD G mu1 bn1 H1 D mu bn H S ks ws kvs) (t : Tr mu bn H mu2 bn2 H2) (R : RepS G.K mu2 bn2 H2 S') : WtD G mu1 bn1 H1 D mu2 bn2 H2 S' ks ws kvs where
  t := w.t.trans t
  R := R
  hD := t.hold D w.hD (by rw [w.e]; simp) w.hn
  hn := fun k e => by
    by_cases hk : k < mu.length
    · exact w.hn k (t.sub k D hk e)
    · have := t.fresh k D (by omega) e
      rw [w.e] at this; cases this
  e := t.keep D _ w.e w.hn
  k := w.k
  r := w.r.mono (t.kp w.R)
theorem WtD.put {k y : PV} {key : Key} {v : V} (w : WtD G mu1 bn1 H1 D mu bn H S ks ws kvs) (h1 : H1 D = none) (hk : toKey k = some key) (r : RepP G.K bn H y v) : WtD G mu1 bn1 H1 D mu bn (upd H D (.dK (putK kvs key v))) S (Gp.put ks ws k y).1 (Gp.put ks ws k y).2 (putK kvs key v) where
  t := w.t.poke h1
  R := (w.R.poke w.hD w.hn).2
  hD := w.hD
  hn := w.hn
  e := upd_same
  k := (put_rel (H := H) (bn := bn) (K := G.K) hk r w.k w.r).1
  r := (put_rel hk r w.k w.r).2.mono (w.R.poke w.hD w.hn).1
theorem WtD.start (R : RepS G.K mu bn H S) (h : H D = none) : WtD G mu bn H D mu (D :: bn) (upd H D (.dK [])) S [] [] [] where
  t := {
    le := Nat.le_refl _
    sub := fun _ _ _ e => e
    fresh := fun k a h e => (no_past h e).elim
    keep := fun b u e _ => by rw [upd_ne (ne_of_none e h)]; exact e
    there := (Tr.laid (mu := mu) (bn := bn) h).there
    news := fun b hb => (List.mem_cons.mp hb).elim (fun e => .inr (by rw [e]; exact h)) .inl
    hold := fun b hb _ _ => List.mem_cons_of_mem _ hb }
  R := by
    have k : Kp bn H (D :: bn) (upd H D (.dK [])) := ⟨fun b u e _ => by rw [upd_ne (ne_of_none e h)]; exact e, fun b hb => (List.mem_cons.mp hb).elim (fun e => .inr (by rw [e]; exact h)) .inl⟩
    refine ⟨R.len, fun k a e => List.mem_cons_of_mem _ (R.sub k a e), R.inj, fun b hb z => ?_, fun j so e => ?_⟩
    · rcases List.mem_cons.mp hb with q | q
      · rw [q, upd_same] at z; cases z
      · exact R.tk b q ((Tr.laid (mu := mu) (bn := bn) h).there b z)
    · rcases R.obj j so e with ⟨a, e1, q⟩ | q
      · exact .inl ⟨a, e1, q.mono k (by rw [upd_ne (fun z => R.tk a (R.sub j a e1) (by rw [z]; exact h))])⟩
      · exact .inr q
  hD := List.mem_cons_self
  hn := fun k e => R.tk D (R.sub k D e) h
  e := upd_same
  k := KeysR.nil
  r := repPs_nil
theorem dct_fin {Q : VK} {al : Bool} (h : To G W (rlE G) σ mu1 bn1 H1 Q (mkV al (some (.dict ks ws)) S)) (h1 : H1 D = none) (w : WtD G mu1 bn1 H1 D mu bn H S ks ws kvs) : Q (.ref D) H := by
  obtain ⟨kd, Rd⟩ := w.R.drop w.hn
  have td := w.t.drop (D := D) h1
  have nin : D ∉ bn.filter (· != D) := fun z => by simpa using (List.mem_filter.mp z).2
  cases al with
  | false =>
    refine (show OkG G (rlE G) mu1 bn1 H1 Q (.pv (.dict ks ws)) S from h) _ _ _ _ td Rd (.pv ?_)
    unfold RepP
    exact ⟨D, kvs, rfl, w.e, nin, w.k, w.r.mono kd⟩
  | true =>
    have h : OkG G (rlE G) mu1 bn1 H1 Q (.ref S.length) (S ++ [.dict ks ws]) := h
    refine h _ _ _ _ (w.t.adopt h1) (w.R.adoptO w.hD w.hn ⟨kvs, w.e, w.k, w.r⟩) ?_
    unfold rlE RepL
    rw [← w.R.len]
    refine ⟨by rw [List.length_append]; exact Nat.lt_succ_self _, fun a q => ?_⟩
    rw [List.getElem?_append_right (Nat.le_refl _), Nat.sub_self] at q
    simp at q; rw [q]
variable {vs : List Nat} {t : Tg} {ft : Env → Store → Res Bool} {fk fv : Env → Store → Res LV} {fi : Env → Store → Res (List LV)} {al : Bool}
abbrev turnD (vs : List Nat) (t : Tg) (ft : Env → Store → Res Bool) (fk fv : Env → Store → Res LV) (ρ : Env) : LV → Store → Res (Option LV) := fun l S =>
  turn (bindT t l (Gp.wipe ρ vs)) fun ρ => iteR (ft ρ S) (fun S => (fk ρ S).bind fun k S => (fv ρ S).bind fun v S => match k, v with
        | .pv k, .pv v => .ok (some (.pv (.tup [k, v]))) S
        | _, _ => .bad) (fun S => .ok none S)
theorem putAll_cons {ks ws : List PV} {k v : PV} {r : List PV} {z : List PV × List PV} (h : putAll ks ws (.tup [k, v] :: r) = some z) : PV.keyOk k = true ∧ putAll (Gp.put ks ws k v).1 (Gp.put ks ws k v).2 r = some z := by
  unfold putAll at h
  split at h
  · exact ⟨by assumption, h⟩
  · cases h
theorem red_dc {H : Hp} {Q : VK} (hw : tgIn vs t = true) (h : tev G W (fun ρ S => (fi ρ S).bind fun ls S => (noX (compL (turnD vs t ft fk fv ρ) ls S)).bind fun ys S => match (if decide (ys.length ≤ big) then pvs ys else none) with
      | some ps => mkV al ((putAll [] [] ps).map fun (ks, vs) => .dict ks vs) S
      | none => .bad) σ H Q) :
    tDc (tiv G W fi) (tgR G.K t) (tet G W0 ft) (tev G W0 fk) (tev G W0 fv) vs σ H Q := by
  obtain ⟨mu, bn, ρ, S, A, h⟩ := h.out
  refine A.step h fun mu1 bn1 H1 S1 ls J A1 t1 rJ h1 => ?_
  intro D hD
  obtain ⟨ys, S3, ec, hq⟩ := noX_to h1
  by_cases hlen : ys.length ≤ big
  rotate_left 1
  · rw [if_neg (by simpa using hlen)] at hq; exact hq.elim
  rw [if_pos (by simpa using hlen)] at hq
  cases ep : pvs ys with
  | none => rw [ep] at hq; exact hq.elim
  | some ps =>
    rw [ep] at hq
    cases ea : putAll [] [] ps with
    | none => simp only [ea] at hq; cases al <;> exact hq.elim
    | some kw =>
      obtain ⟨kF, wF⟩ := kw
      simp only [ea] at hq
      have hq : To G W (rlE G) σ mu1 bn1 H1 Q (mkV al (some (.dict kF wF)) S3) := hq
      refine ⟨fun i m H => m = ls.length - i ∧ i ≤ ls.length ∧ ∃ mu bn S ks ws kvs zs qs, WtD G mu1 bn1 H1 D mu bn H S ks ws kvs ∧ compL (turnD vs t ft fk fv ρ) (ls.drop i) S = .ok zs S3 ∧ pvs zs = some qs ∧ putAll ks ws qs = some (kF, wF) ∧ kvs.length + zs.length ≤ big,
        ⟨ls.length, rfl, Nat.zero_le _, mu1, D :: bn1, S1, [], [], [], ys, ps, WtD.start A1.R hD, by simpa using ec, ep, ea, by simpa using hlen⟩, ?_⟩
      rintro i m H2 ⟨rfl, hi, mu2, bn2, S2, ks, ws, kvs, zs, qs, w, ez, eq, ek, el⟩
      have J2 := rJ mu2 bn2 H2 S2 w.t.lw (w.t.kp A1.R) w.R i
      by_cases hlt : i < ls.length
      rotate_left 1
      · refine .inl ⟨J2.2 (by omega), ?_⟩
        rw [List.drop_eq_nil_of_le (by omega)] at ez
        cases ez
        have eq : some [] = some qs := eq
        cases eq
        have ek : some (ks, ws) = some (kF, wF) := ek
        cases ek
        exact dct_fin hq hD w
      obtain ⟨l, el'⟩ : ∃ l, ls[i]? = some l := ⟨ls[i], by simp [hlt]⟩
      obtain ⟨go, yl⟩ := J2.1 l el'
      rw [drop_get el'] at ez
      obtain ⟨o, S4, e4, ez⟩ := bind_ok (show ((turnD vs t ft fk fv ρ l S2).bind fun o S => (compL (turnD vs t ft fk fv ρ) (ls.drop (i + 1)) S).bind fun ys S => match o with | some y => Res.ok (y :: ys) S | none => .ok ys S) = .ok zs S3 from ez)
      obtain ⟨zs', S5, e5, ez2⟩ := bind_ok ez
      clear ez
      refine .inr ⟨go, fun H' => ∃ mu bn ks ws kvs qs, WtD G mu1 bn1 H1 D mu bn H' S4 ks ws kvs ∧ pvs zs' = some qs ∧ putAll ks ws qs = some (kF, wF) ∧ kvs.length + zs'.length ≤ big, fun H' ⟨mu', bn', ks', ws', kvs', qs', w', e1, e2, e3⟩ => ?_, fun x H' yy => ?_⟩
      · have e6 : S5 = S3 := by cases o <;> (cases ez2; rfl)
        subst e6
        exact ⟨ls.length - (i + 1), by omega, rfl, hlt, mu', bn', S4, ks', ws', kvs', zs', qs', w', e5, e1, e2, e3⟩
      · obtain ⟨ty, Ry, rl⟩ := yl x H' yy
        have w' := w.step ty Ry
        have E' := A1.E.mono w'.t (w'.t.kp A1.R)
        unfold turnD turn at e4
        cases eb : bindT t l (Gp.wipe ρ vs) with
        | none => rw [eb] at e4; cases e4
        | some ρ' =>
          rw [eb] at e4
          refine tg_ok t l x _ ρ' _ _ (E'.wipe vs) rl eb fun σ2 E2 o2 => ⟨by rw [o2 vs hw, wipe_wipe], ?_⟩
          have e4 : iteR (ft ρ' S2) (fun S => (fk ρ' S).bind fun k S => (fv ρ' S).bind fun v S => match k, v with
              | .pv k, .pv v => Res.ok (some (LV.pv (.tup [k, v]))) S
              | _, _ => .bad) (fun S => .ok none S) = .ok o S4 := e4
          unfold iteR at e4
          obtain ⟨b, S6, eb, e4⟩ := bind_ok e4
          refine gev.known E2 w'.R eb fun mu3 bn3 H3 b' t3 R3 rb => ?_
          have rb : b = b' := rb
          subst rb
          have w3 := w'.step t3 R3
          have E3 := E2.mono t3 (t3.kp w'.R)
          cases b with
          | false =>
            have e4 : Res.ok none S6 = Res.ok o S4 := e4
            cases e4
            have ez : Res.ok zs' S5 = Res.ok zs S3 := ez2
            cases ez
            rw [if_neg (by simp)]
            exact ⟨_, _, _, _, _, _, w3, eq, ek, el⟩
          | true =>
            rw [if_pos rfl]
            obtain ⟨kl, S7, e7, e4⟩ := bind_ok (show ((fk ρ' S6).bind fun k S => (fv ρ' S).bind fun v S => (match k, v with
              | .pv k, .pv v => Res.ok (some (LV.pv (.tup [k, v]))) S
              | _, _ => .bad)) = .ok o S4 from e4)
            obtain ⟨vl, S8, e8, e4⟩ := bind_ok e4
            have key : ∃ k v, kl = .pv k ∧ vl = .pv v ∧ o = some (.pv (.tup [k, v])) ∧ S8 = S4 := by
              revert e4
              split
              · intro e4; cases e4; exact ⟨_, _, rfl, rfl, rfl, rfl⟩
              · intro e4; cases e4
            obtain ⟨k, v, rfl, rfl, rfl, rfl⟩ := key
            have ez : Res.ok (.pv (.tup [k, v]) :: zs') S5 = Res.ok zs S3 := ez2
            cases ez
            obtain ⟨qs', eq', rfl⟩ : ∃ qs', pvs zs' = some qs' ∧ qs = .tup [k, v] :: qs' := by
              unfold pvs at eq
              cases z : pvs zs' with
              | none => rw [z] at eq; cases eq
              | some q => rw [z] at eq; have eq : some (PV.tup [k, v] :: q) = some qs := eq; cases eq; exact ⟨q, rfl, rfl⟩
            obtain ⟨hkk, ek⟩ := putAll_cons ek
            refine gev.known E3 R3 e7 fun mu4 bn4 H4 yv t4 R4 ry => ?_
            have w4 := w3.step t4 R4
            have E4 := E3.mono t4 (t4.kp R3)
            refine gev.known E4 R4 e8 fun mu5 bn5 H5 zv t5 R5 rz => ?_
            have w5 := w4.step t5 R5
            obtain ⟨key, hkey⟩ := key_ok hkk
            have ev := key_v (RepP.v ry.toP) hkey
            have w6 := w5.put hD hkey rz.toP
            have hl := length_putK kvs key zv
            rw [List.length_cons] at el
            exact ⟨kvs, key, ev, w5.e, Nat.lt_of_lt_of_le (by omega) big_line, _, _, _, _, _, _, w6, eq', ek, by omega⟩
end
end Gp

namespace Gp
open PySem PySem.Spec PyProof.Rows L2

structure FnI where
  x : Str
  fa : Addr
  fd : FuncData
  ps : List Str
structure Gm where
  G : Wd
  c : Ctx
  k : Nat
  mg : Str → Option Value
  fns : List FnI
  cons : List (Str × PV)
abbrev WofE (E : XK) : WX := fun cls d _ H => E cls d H
/-- what a def of ours promises -/
def spF (G : Wd) (c : Ctx) (f n : Nat) : Sp := fun vs H Q E => ∃ mu bn S ls, RepS G.K mu bn H S ∧ RepLs G.K mu bn H ls vs ∧ ls.length = n ∧ To G (WofE E) (rlE G) [] mu bn H Q (c.call f ls S)
def bnames : List Str := ["range", "len", "sum", "all", "any", "sorted", "min", "max", "int", "str", "abs", "tuple", "list", "dict", "isinstance", "zip", "enumerate", "bool", "set", "reversed"]
structure Good (M : Gm) (W : WX) (N : List Str) (sc : Scope) (fns : Option Scope) (X : Cx) : Prop where
  K : X.K = M.G.K
  nms : Nms X N sc fns
  calm : X.calm = true
  tk : Takes X W
  po : PassesOwn (model X.prog X.w) X.A X.env X.xe
  mg : X.mg = M.mg
  bl : ∀ x ∈ bnames, M.mg x = none
  fn : ∀ f i, M.fns[f]? = some i → M.mg i.x = some (.ref i.fa) ∧ PySem.W.keepIn X.K (.ref i.fa) = true ∧ Binds X.K i.fd i.ps [] ∧ FnOk X.prog X.w X.K X.mg X.base (L2.CX X.prog X.w) M.k i.fa i.fd i.ps (spF M.G M.c f i.ps.length)
  con : ∀ x p, (x, p) ∈ M.cons → ∃ v u, M.mg x = some u ∧ RelV v u ∧ ∀ bn H, RepP M.G.K bn H p v
  room : Room M.k X.A
  wi : ∀ cls d σ σ' H, W cls d σ H → W cls d σ' H
def relScope (scope sc : Scope) : Scope :=
  { scope with names := scope.names.map fun (n, k) => if (k == NameKind.free && sc.kind == .function && sc.names.lookup n == some .cell) then (n, NameKind.cell) else (n, k) }
section
variable {M : Gm} {W : WX} {N : List Str} {sc : Scope} {fns : Option Scope} {X : Cx}
theorem Good.hu (g : Good M W N sc fns X) : X.A.units + 200 < cLine := by have := g.room.un; omega
theorem Good.blk (g : Good M W N sc fns X) (s : Shared) (H : Hp) (scope : Scope) (C : Addr) (cl : List (Str × Addr)) (fp : List Addr) :
    Good M W0 N (relScope scope sc) (some scope) (X.blk s H scope (compEnvC scope cl C X.env) fp) where
  K := g.K
  nms := {
    nm := g.nms.nm
    nd := g.nms.nd
    sc := by rw [← g.nms.sc]; rfl
    fn := fun x h => by
      have h : scope.names.lookup x = some .cell := h
      show (scope.names.lookup x == some .cell) = true
      rw [h]; rfl }
  calm := g.calm
  tk := fun u s' ⟨_, _, _, _, _, _, _, _, _, _, _, _, _, _, _, _, w⟩ => w.elim
  po := PassesOwn.never
  mg := g.mg
  bl := g.bl
  fn := g.fn
  con := g.con
  room := g.room
  wi := fun _ _ _ _ _ h => h
variable {G : Wd} {a b d e elt tg iter : Expr} {es : List Expr} {fa fb fd fe : Env → Store → Res LV} {fs : Env → Store → Res (List LV)} {pos : Pos}
def glB (sc : Scope) (x : Str) : Bool := sc.names.lookup x == some .globalImplicit
theorem Good.gl (g : Good M W N sc fns X) {x : Str} (h : glB sc x = true) : Gl X x := by
  unfold Gl
  show X.env.scope.names.lookup x = _
  rw [g.nms.sc]; exact beq_iff_eq.mp h
def visB (sc : Scope) (x : Str) : Bool :=
  match sc.names.lookup x with
  | some .local => true
  | some .cell => true
  | some .free => true
  | _ => false
theorem Good.vis (g : Good M W N sc fns X) {x : Str} (h : visB sc x = true) : Vis X.env.scope x := by
  unfold visB at h
  unfold Vis
  rw [g.nms.sc]
  cases e : sc.names.lookup x with
  | none => rw [e] at h; cases h
  | some k => rw [e] at h; cases k <;> first | exact .inl rfl | exact .inr (.inl rfl) | exact .inr (.inr rfl) | cases h
theorem To.binda {α β γ δ : Type} {Rel : Rl γ δ} {mu : Mu} {bn : List Addr} {H : Hp} {σ : Sg} {Q : δ → Hp → Prop} {r : Res α} {f : α → Store → Res β} {g : β → Store → Res γ} (h : To G W Rel σ mu bn H Q ((r.bind f).bind g)) : To G W Rel σ mu bn H Q (r.bind fun a S => (f a S).bind g) := by
  cases r <;> exact h
abbrev one (fa : Env → Store → Res LV) : Env → Store → Res (List LV) := fun ρ S => (fa ρ S).bind fun x S => (Res.ok [] S).bind fun xs S => .ok (x :: xs) S
abbrev two (fa fb : Env → Store → Res LV) : Env → Store → Res (List LV) := fun ρ S => (fa ρ S).bind fun x S => (one fb ρ S).bind fun xs S => .ok (x :: xs) S
abbrev bltF (f : Bid) (al : Bool) (fs : Env → Store → Res (List LV)) : Env → Store → Res LV := fun ρ S => (fs ρ S).bind fun ls S => match rds S ls with
  | some ps => mkV al (builtin f ps) S
  | none => .bad
theorem rds_one {S : Store} {x : LV} {α : Type} {f : List PV → α} {z : α} : (match rds S [x] with | some ps => f ps | none => z) = match rd S x with | some p => f [p] | none => z := by
  cases e : rd S x with
  | none => simp [rds, e]
  | some p => simp [rds, e]
theorem rgV_eq {K : PySem.W.Frag} {bn : List Addr} {H : Hp} (a b : Int) : RepPs K bn H (rangeI a b) (rgV a b) := by
  rw [repPs_iff]
  unfold rangeI rgV
  refine ⟨by simp, fun i x v e1 e2 => ?_⟩
  rw [List.getElem?_map] at e1 e2
  cases q : (List.range (b - a).toNat)[i]? with
  | none => rw [q] at e1; cases e1
  | some n => rw [q] at e1 e2; cases e1; cases e2; exact repP_int
theorem rgOk_of {a b : Int} (h : rangeOk a b = true) : RgOk a b := by
  have := rangeOk_iff h
  exact ⟨by omega, by omega, by omega, by omega, by omega⟩
theorem rd_int {mu : Mu} {bn : List Addr} {H : Hp} {S : Store} {σ : Sg} {Q : VK} {x : LV} {f : PV → Option PV} {al : Bool} (hf : ∀ p, (∀ i, p ≠ .int i) → f p = none) (h : To G W (rlE G) σ mu bn H Q (match rd S x with | some p => mkV al (f p) S | none => .bad)) :
    ∃ i, rd S x = some (.int i) ∧ To G W (rlE G) σ mu bn H Q (mkV al (f (.int i)) S) := by
  cases e : rd S x with
  | none => rw [e] at h; exact h.elim
  | some p =>
    rw [e] at h
    by_cases hp : ∃ i, p = .int i
    · obtain ⟨i, rfl⟩ := hp; exact ⟨i, rfl, h⟩
    · have h : To G W (rlE G) σ mu bn H Q (mkV al (f p) S) := h
      rw [hf p (fun i e => hp ⟨i, e⟩)] at h
      cases al <;> exact h.elim
theorem s_tupR1 (g : Good M W N sc fns X) {al : Bool} {p p2 pos2 : Pos} (h1 : glB sc "tuple" = true) (h2 : glB sc "range" = true) (hs : notStar a = true) (ha : PE X a (tev M.G W fa)) :
    PE X (.Call (.Name "tuple" p) [.Call (.Name "range" p2) [a] [] pos2] [] pos) (tev M.G W (bltF .tupR1 al (one fa))) :=
  PE.mono (pe_tupRg g.calm (g.gl h1) (g.mg ▸ g.bl _ (by decide)) (prg_1 (g.gl h2) (g.mg ▸ g.bl _ (by decide)) ha (star_cons hs [] X.env)) rfl) fun σ H Q h => by
    obtain ⟨mu, bn, ρ, S, A, h⟩ := h.out
    have h := h.binda
    refine A.step h fun mu1 bn1 H1 S1 x u A1 t1 rx h1 => ?_
    have h1 : To M.G W (rlE M.G) σ mu1 bn1 H1 Q (match rds S1 [x] with | some ps => mkV al (builtin .tupR1 ps) S1 | none => .bad) := h1
    rw [rds_one] at h1
    obtain ⟨i, e1, h1⟩ := rd_int (f := fun p => builtin .tupR1 [p]) (fun p hp => by cases p <;> first | rfl | exact absurd rfl (hp _)) h1
    refine ⟨i, rep_int (rd_rep A1.R rx e1), ?_⟩
    simp only [builtin] at h1
    by_cases r : rangeOk 0 i = true
    · rw [if_pos r] at h1
      refine ⟨rgOk_of r, fun q hq => ?_⟩
      exact (mk_sc h1 (by intro _ e; cases e) (by intro _ _ e; cases e)).tup A1.R hq (rgV_eq _ _)
    · rw [if_neg r] at h1; cases al <;> exact h1.elim
theorem s_lstR1 (g : Good M W N sc fns X) {al : Bool} {p p2 pos2 : Pos} (h1 : glB sc "list" = true) (h2 : glB sc "range" = true) (hs : notStar a = true) (ha : PE X a (tev M.G W fa)) :
    PE X (.Call (.Name "list" p) [.Call (.Name "range" p2) [a] [] pos2] [] pos) (tev M.G W (bltF .lstR1 al (one fa))) :=
  PE.mono (pe_listRg g.calm (g.gl h1) (g.mg ▸ g.bl _ (by decide)) (prg_1 (g.gl h2) (g.mg ▸ g.bl _ (by decide)) ha (star_cons hs [] X.env)) rfl) fun σ H Q h => by
    obtain ⟨mu, bn, ρ, S, A, h⟩ := h.out
    have h := h.binda
    refine A.step h fun mu1 bn1 H1 S1 x u A1 t1 rx h1 => ?_
    have h1 : To M.G W (rlE M.G) σ mu1 bn1 H1 Q (match rds S1 [x] with | some ps => mkV al (builtin .lstR1 ps) S1 | none => .bad) := h1
    rw [rds_one] at h1
    obtain ⟨i, e1, h1⟩ := rd_int (f := fun p => builtin .lstR1 [p]) (fun p hp => by cases p <;> first | rfl | exact absurd rfl (hp _)) h1
    refine ⟨i, rep_int (rd_rep A1.R rx e1), ?_⟩
    simp only [builtin] at h1
    by_cases r : rangeOk 0 i = true
    · rw [if_pos r] at h1
      exact ⟨rgOk_of r, fun q hq => mk_new h1 A1.R hq (rgV_eq _ _)⟩
    · rw [if_neg r] at h1; cases al <;> exact h1.elim
theorem two_ok {f : Int → Int → Option PV} {mu : Mu} {bn : List Addr} {H : Hp} {S : Store} {σ : Sg} {Q : VK} {x y : LV} {al : Bool} {B : List PV → Option PV} (hB : ∀ i j, B [.int i, .int j] = f i j) (hN : ∀ p q, (∀ i j, ¬ (p = .int i ∧ q = .int j)) → B [p, q] = none)
    (h : To G W (rlE G) σ mu bn H Q (match rds S [x, y] with | some ps => mkV al (B ps) S | none => .bad)) : ∃ i j, rd S x = some (.int i) ∧ rd S y = some (.int j) ∧ To G W (rlE G) σ mu bn H Q (mkV al (f i j) S) := by
  cases e1 : rd S x with
  | none => simp only [rds, e1] at h; exact h.elim
  | some p =>
    cases e2 : rd S y with
    | none => simp only [rds, e1, e2] at h; exact h.elim
    | some q =>
      simp only [rds, e1, e2] at h
      by_cases hp : ∃ i j, p = .int i ∧ q = .int j
      · obtain ⟨i, j, rfl, rfl⟩ := hp
        rw [hB] at h
        exact ⟨i, j, rfl, rfl, h⟩
      · rw [hN p q (fun i j e => hp ⟨i, j, e⟩)] at h
        cases al <;> exact h.elim
theorem s_tupR2 (g : Good M W N sc fns X) {al : Bool} {p p2 pos2 : Pos} (h1 : glB sc "tuple" = true) (h2 : glB sc "range" = true) (hs : notStar a = true) (hs2 : notStar b = true) (ha : PE X a (tev M.G W fa)) (hb : PE X b (tev M.G W fb)) :
    PE X (.Call (.Name "tuple" p) [.Call (.Name "range" p2) [a, b] [] pos2] [] pos) (tev M.G W (bltF .tupR2 al (two fa fb))) :=
  PE.mono (pe_tupRg g.calm (g.gl h1) (g.mg ▸ g.bl _ (by decide)) (prg_2 (g.gl h2) (g.mg ▸ g.bl _ (by decide)) ha hb (star_cons hs [b] X.env) (star_cons hs2 [] X.env) (by rw [star_cons hs2]; rfl)) rfl) fun σ H Q h => by
    obtain ⟨mu, bn, ρ, S, A, h⟩ := h.out
    have h := h.binda
    refine A.step h fun mu1 bn1 H1 S1 x u A1 t1 rx h1 => ?_
    have h1 := (h1.binda).binda
    refine (A1.hold rx).step h1 fun mu2 bn2 H2 S2 y v A2 t2 ry h2 => ?_
    obtain ⟨i, j, e1, e2, h2⟩ := two_ok (f := fun i j => if rangeOk i j then some (.tup (rangeI i j)) else none) (B := builtin .tupR2) (fun _ _ => rfl) (fun p q hp => by cases p <;> first | rfl | (cases q <;> first | rfl | exact absurd ⟨rfl, rfl⟩ (hp _ _))) h2
    refine ⟨i, j, rep_int (rd_rep A2.R A2.hd.1 e1), rep_int (rd_rep A2.R ry e2), ?_⟩
    by_cases r : rangeOk i j = true
    · rw [if_pos r] at h2
      refine ⟨rgOk_of r, fun q hq => ?_⟩
      exact (mk_sc h2 (by intro _ e; cases e) (by intro _ _ e; cases e)).tup A2.R hq (rgV_eq _ _)
    · rw [if_neg r] at h2; cases al <;> exact h2.elim
theorem s_lstR2 (g : Good M W N sc fns X) {al : Bool} {p p2 pos2 : Pos} (h1 : glB sc "list" = true) (h2 : glB sc "range" = true) (hs : notStar a = true) (hs2 : notStar b = true) (ha : PE X a (tev M.G W fa)) (hb : PE X b (tev M.G W fb)) :
    PE X (.Call (.Name "list" p) [.Call (.Name "range" p2) [a, b] [] pos2] [] pos) (tev M.G W (bltF .lstR2 al (two fa fb))) :=
  PE.mono (pe_listRg g.calm (g.gl h1) (g.mg ▸ g.bl _ (by decide)) (prg_2 (g.gl h2) (g.mg ▸ g.bl _ (by decide)) ha hb (star_cons hs [b] X.env) (star_cons hs2 [] X.env) (by rw [star_cons hs2]; rfl)) rfl) fun σ H Q h => by
    obtain ⟨mu, bn, ρ, S, A, h⟩ := h.out
    have h := h.binda
    refine A.step h fun mu1 bn1 H1 S1 x u A1 t1 rx h1 => ?_
    have h1 := (h1.binda).binda
    refine (A1.hold rx).step h1 fun mu2 bn2 H2 S2 y v A2 t2 ry h2 => ?_
    obtain ⟨i, j, e1, e2, h2⟩ := two_ok (f := fun i j => if rangeOk i j then some (.lst (rangeI i j)) else none) (B := builtin .lstR2) (fun _ _ => rfl) (fun p q hp => by cases p <;> first | rfl | (cases q <;> first | rfl | exact absurd ⟨rfl, rfl⟩ (hp _ _))) h2
    refine ⟨i, j, rep_int (rd_rep A2.R A2.hd.1 e1), rep_int (rd_rep A2.R ry e2), ?_⟩
    by_cases r : rangeOk i j = true
    · rw [if_pos r] at h2
      exact ⟨rgOk_of r, fun q hq => mk_new h2 A2.R hq (rgV_eq _ _)⟩
    · rw [if_neg r] at h2; cases al <;> exact h2.elim
/-! ### isinstance -/
abbrev isiF (fa : Env → Store → Res LV) (ts : List Ty) : Env → Store → Res LV := fun ρ S => (fa ρ S).bind fun x S => rdB x S fun p => .ok (.pv (.bl (ts.any (isTy p)))) S
theorem boot_ty (t : Ty) : bootBuiltins (Str.ofString (nmTy t)) = some (.type (nmTy t)) := by cases t <;> decide +kernel
theorem pe_ty (g : Good M W N sc fns X) (t : Ty) {p : Pos} (h : glB sc (Str.ofString (nmTy t)) = true) : PE X (.Name (Str.ofString (nmTy t)) p) (tC (.ty (nmTy t))) :=
  pe_bltn (g.gl h) (g.mg ▸ g.bl _ (by cases t <;> decide)) (boot_ty t) (show RelV (.ty (nmTy t)) (.type (nmTy t)) from rfl) (by cases t <;> decide) (by cases t <;> decide)
theorem s_isi1 (g : Good M W N sc fns X) {t : Ty} {p p2 : Pos} (h1 : glB sc "isinstance" = true) (h2 : glB sc (Str.ofString (nmTy t)) = true) (hs : notStar a = true) (ha : PE X a (tev M.G W fa)) :
    PE X (.Call (.Name "isinstance" p) [a, .Name (Str.ofString (nmTy t)) p2] [] pos) (tev M.G W (isiF fa [t])) := by
  have hb := pe_ty g t (p := p2) h2
  refine PE.mono (pe_callB call_isi (g.gl h1) (g.mg ▸ g.bl _ (by decide)) PyProof.Rows.boot_isinstance (pa_cons ha (pa_cons hb pa_nil rfl) (star_cons hs _ X.env)) (by decide) (by decide) (star_cons hs _ X.env) rfl) fun σ H Q h => ?_
  obtain ⟨mu, bn, ρ, S, A, h⟩ := h.out
  refine A.step h fun mu1 bn1 H1 S1 x u A1 t1 rx h1 => ?_
  obtain ⟨q, e1, h1⟩ := h1.rdB
  have ty := tyx_of (rd_rep A1.R rx e1)
  rw [← g.K] at ty
  refine ⟨_, _, _, _, isTy q t, rfl, .ty (nmTy t), ty, kit_ty (kit_is q t), h1.ret A1.R (.pv ?_)⟩
  rw [List.any_cons, List.any_nil, Bool.or_false]
  exact repP_bl
theorem s_isi2 (g : Good M W N sc fns X) {t t' : Ty} {k : Nat} {p p2 p3 pos2 : Pos} (h1 : glB sc "isinstance" = true) (h2 : glB sc (Str.ofString (nmTy t)) = true) (h3 : glB sc (Str.ofString (nmTy t')) = true) (hs : notStar a = true) (ha : PE X a (tev M.G W fa)) :
    PE X (.Call (.Name "isinstance" p) [a, .Tuple [.Name (Str.ofString (nmTy t)) p2, .Name (Str.ofString (nmTy t')) p3] k pos2] [] pos) (tev M.G W (isiF fa [t, t'])) := by
  have hb := pe_ty g t (p := p2) h2
  have hb' := pe_ty g t' (p := p3) h3
  refine PE.mono (pe_callB call_isiT (g.gl h1) (g.mg ▸ g.bl _ (by decide)) PyProof.Rows.boot_isinstance (pa_cons ha (pa_cons (pe_tup (pa_cons hb (pa_cons hb' pa_nil rfl) rfl)) pa_nil rfl) (star_cons hs _ X.env)) (by decide) (by decide) (star_cons hs _ X.env) rfl) fun σ H Q h => ?_
  obtain ⟨mu, bn, ρ, S, A, h⟩ := h.out
  refine A.step h fun mu1 bn1 H1 S1 x u A1 t1 rx h1 => ?_
  obtain ⟨q, e1, h1⟩ := h1.rdB
  refine ⟨by rw [sizeLine_eq]; show 2 ≤ _; decide, fun T hT => ?_⟩
  have tl := Tr.laid (mu := mu1) (bn := bn1) (o := .tup [V.ty (nmTy t), V.ty (nmTy t')]) hT
  have R2 := A1.R.laid (o := .tup [V.ty (nmTy t), V.ty (nmTy t')]) hT
  have ty := tyx_of (rd_rep R2 (rx.mono tl (tl.kp A1.R)) e1)
  rw [← g.K] at ty
  refine ⟨u, T, _, .type (tyN q), [Value.type (nmTy t), Value.type (nmTy t')], [t, t'].any (isTy q), rfl, upd_same, .cons (.ty _) (.cons (.ty _) .nil), ty, kit_any _ q [t, t'], ?_⟩
  exact (h1.mono tl).ret R2 (.pv repP_bl)
end
end Gp

namespace Gp
open PySem PySem.Spec PyProof.Rows L2
section
variable {M : Gm} {W : WX} {N : List Str} {sc : Scope} {fns : Option Scope} {X : Cx} {a b d e o elt tg iter tg1 iter1 : Expr} {es : List Expr} {fa fb fd fe fo : Env → Store → Res LV} {fs : Env → Store → Res (List LV)} {pos : Pos}
/-! ### own defs -/
theorem s_call (g : Good M W N sc fns X) {f : Nat} {i : FnI} {p : Pos} (hi : M.fns[f]? = some i) (hg : glB sc i.x = true) (hdb : (i.x == ("__debug__" : Str)) = false) (hl : ∀ ρ S ls S', fs ρ S = .ok ls S' → ls.length = i.ps.length)
    (hs : (e :: es).all notStar = true) (ha : PA X (e :: es) (tas M.G W fs)) : PE X (.Call (.Name i.x p) (e :: es) [] pos) (tev M.G W fun ρ S => (fs ρ S).bind fun ls S => M.c.call f ls S) := by
  rw [List.all_cons, Bool.and_eq_true] at hs
  obtain ⟨h1, h2, h3, h4⟩ := g.fn f i hi
  refine PE.mono (pe_callS (E := WE W) h4 g.room (g.gl hg) (by rw [g.mg]; exact h1) h2 h3 (passAt g.tk) ha hdb (star_cons hs.1 es X.env) (star_plain hs.2 pos X.env)) fun σ H Q h => ?_
  obtain ⟨mu, bn, ρ, S, A, h⟩ := h.out
  refine A.stepE h fun mu1 bn1 H1 S1 ls vs e1 A1 t1 rx h1 => ?_
  refine ⟨mu1, bn1, S1, ls, A1.R, rx, hl ρ S ls S1 e1, ?_⟩
  exact Res.to_mono h1 (fun _ _ q => q) fun x S' q mu' bn' H' cls dd t R r => q mu' bn' H' cls dd t R r
/-! ### global constants -/
theorem s_gcon (g : Good M W N sc fns X) {x : Str} {p : PV} (hc : (x, p) ∈ M.cons) (hg : glB sc x = true) (hdb : (x == ("__debug__" : Str)) = false) : PE X (.Name x pos) (tev M.G W fun _ S => .ok (.pv p) S) := by
  obtain ⟨v, u, h1, h2, h3⟩ := g.con x p hc
  exact s_con (pe_glob (g.gl hg) (by rw [g.mg]; exact h1) h2 hdb) h3
/-! ### comprehensions -/
def notSet : Expr → Bool
  | .Set _ _ _ => false
  | _ => true
theorem fold_plain {e : Expr} (h : notSet e = true) (env : PySem.Env) (x : Value) : foldedSetIterable e env x = pure x := by
  cases e with
  | Set _ _ _ => cases h
  | _ => rfl
variable {scope : Scope} {own : List (Str × Nat)} {t t1 : Tg} {ft ft1 : Env → Store → Res Bool} {fi fi1 : Env → Store → Res (List LV)} {al : Bool} {ifs ifs1 : List Expr} {ws1 : List Nat}
abbrev InB (M : Gm) (N : List Str) (sc scope : Scope) (P : Cx → Prop) : Prop := ∀ X', Good M W0 N (relScope scope sc) (some scope) X' → P X'
abbrev lcF (ws : List Nat) (t : Tg) (fi : Env → Store → Res (List LV)) (ft : Env → Store → Res Bool) (fe : Env → Store → Res LV) (al : Bool) : Env → Store → Res LV := fun ρ S =>
  (fi ρ S).bind fun ls S => (noX (compL (turnF ws t ft fe ρ) ls S)).bind fun ys S => mkC al ys S
theorem pg_blk {M' : Gm} {W' : WX} {X' : Cx} {sc' : Scope} {fns' : Option Scope} (g : Good M' W' N sc' fns' X') {t : Tg} {e : Expr} (h : ckT N sc' fns' t e = true) : PG X' e (tgR M'.G.K t) := by
  rw [← g.K]; exact pg_ok g.nms g.calm h
theorem blk_ok (g : Good M W N sc fns X) (hb : blkC N sc scope own = true) : BlkOk X.N X.env.scope scope own := by
  rw [g.nms.nm, g.nms.sc]; exact blkOk_by hb
theorem s_lc (g : Good M W N sc fns X) (hi : PI X tg iter (tiv M.G W fi)) (hb : blkC N sc scope own = true) (hw : tgIn (own.map (·.2)) t = true) (ht : ckT N (relScope scope sc) (some scope) t tg = true)
    (hf : InB M N sc scope fun X' => PTs X' ifs (tet M.G W0 ft)) (he : InB M N sc scope fun X' => PE X' elt (tev M.G W0 fe)) (hs : notSet iter = true) :
    PE X (.ListComp elt [⟨tg, iter, ifs, 0⟩] scope pos) (tev M.G W (lcF (own.map (·.2)) t fi ft fe al)) :=
  PE.mono (pe_lc g.calm (by rw [g.nms.nm]; exact g.nms.nd) hi (blk_ok g hb) (fun s H C cl fp => pg_blk (g.blk s H scope C cl fp) ht) (fun s H C cl fp => hf _ (g.blk s H scope C cl fp)) (fun s H C cl fp => he _ (g.blk s H scope C cl fp)) (fold_plain hs X.env))
    fun σ H Q h => red_lc hw h
abbrev lc2F (ws ws1 : List Nat) (t t1 : Tg) (fi : Env → Store → Res (List LV)) (ft : Env → Store → Res Bool) (fi1 : Env → Store → Res (List LV)) (ft1 : Env → Store → Res Bool) (fe : Env → Store → Res LV) (al : Bool) : Env → Store → Res LV := fun ρ S =>
  (fi ρ S).bind fun ls S => (noX (compLL (turn2F ws ws1 t t1 ft ft1 fi1 fe ρ) ls S)).bind fun ys S => mkC al ys S
theorem s_lc2 (g : Good M W N sc fns X) (hi : PI X tg iter (tiv M.G W fi)) (hb : blkC N sc scope own = true) (hv : ∀ i ∈ ws1, i ∈ own.map (·.2)) (hw : tgIn (own.map (·.2)) t = true) (hw1 : tgIn ws1 t1 = true) (ht : ckT N (relScope scope sc) (some scope) t tg = true) (ht1 : ckT N (relScope scope sc) (some scope) t1 tg1 = true)
    (hf : InB M N sc scope fun X' => PTs X' ifs (tet M.G W0 ft)) (hi1 : InB M N sc scope fun X' => PI X' tg1 iter1 (tiv M.G W0 fi1)) (hf1 : InB M N sc scope fun X' => PTs X' ifs1 (tet M.G W0 ft1)) (he : InB M N sc scope fun X' => PE X' elt (tev M.G W0 fe)) (hs : notSet iter = true) (hs1 : notSet iter1 = true) :
    PE X (.ListComp elt [⟨tg, iter, ifs, 0⟩, ⟨tg1, iter1, ifs1, 0⟩] scope pos) (tev M.G W (lc2F (own.map (·.2)) ws1 t t1 fi ft fi1 ft1 fe al)) :=
  PE.mono (pe_lc2 g.calm (by rw [g.nms.nm]; exact g.nms.nd) hi (blk_ok g hb) hv (fun s H C cl fp => pg_blk (g.blk s H scope C cl fp) ht) (fun s H C cl fp => hf _ (g.blk s H scope C cl fp)) (fun s H C cl fp => hi1 _ (g.blk s H scope C cl fp))
    (fun s H C cl fp => pg_blk (g.blk s H scope C cl fp) ht1) (fun s H C cl fp => hf1 _ (g.blk s H scope C cl fp)) (fun s H C cl fp => he _ (g.blk s H scope C cl fp)) (fold_plain hs X.env) (fun env => fold_plain hs1 env))
    fun σ H Q h => red_lc2 hw hw1 h
abbrev dcF (ws : List Nat) (t : Tg) (fi : Env → Store → Res (List LV)) (ft : Env → Store → Res Bool) (fk fv : Env → Store → Res LV) (al : Bool) : Env → Store → Res LV := fun ρ S =>
  (fi ρ S).bind fun ls S => (noX (compL (turnD ws t ft fk fv ρ) ls S)).bind fun ys S => match (if decide (ys.length ≤ big) then pvs ys else none) with
      | some ps => mkV al ((putAll [] [] ps).map fun (ks, vs) => .dict ks vs) S
      | none => .bad
theorem s_dc (g : Good M W N sc fns X) (hi : PI X tg iter (tiv M.G W fi)) (hb : blkC N sc scope own = true) (hw : tgIn (own.map (·.2)) t = true) (ht : ckT N (relScope scope sc) (some scope) t tg = true)
    (hf : InB M N sc scope fun X' => PTs X' ifs (tet M.G W0 ft)) (hk : InB M N sc scope fun X' => PE X' a (tev M.G W0 fa)) (he : InB M N sc scope fun X' => PE X' b (tev M.G W0 fb)) (hs : notSet iter = true) :
    PE X (.DictComp a b [⟨tg, iter, ifs, 0⟩] scope pos) (tev M.G W (dcF (own.map (·.2)) t fi ft fa fb al)) :=
  PE.mono (pe_dc g.calm (by rw [g.nms.nm]; exact g.nms.nd) hi (blk_ok g hb) (fun s H C cl fp => pg_blk (g.blk s H scope C cl fp) ht) (fun s H C cl fp => hf _ (g.blk s H scope C cl fp)) (fun s H C cl fp => hk _ (g.blk s H scope C cl fp)) (fun s H C cl fp => he _ (g.blk s H scope C cl fp)) (fold_plain hs X.env))
    fun σ H Q h => red_dc hw h
theorem PTs.mono {X : Cx} {e : List Expr} {t t' : TT} (h : PTs X e t) (hi : ∀ σ H Q, t' σ H Q → t σ H Q) : PTs X e t' := ⟨fun pins s σ H Q I q => h.run pins s σ H Q I (hi σ H Q q)⟩
theorem s_ifs0 {G : Wd} : PTs X [] (tet G W fun _ S => .ok true S) := PTs.mono pts_nil fun σ H Q h => by
  obtain ⟨mu, bn, ρ, S, A, h⟩ := h.out
  exact h.ret A.R rfl
/-! ### methods of lists -/
def notSup : Expr → Bool
  | .Call (.Name _ _) [] [] _ => false
  | _ => true
theorem base_plain {e : Expr} (h : notSup e = true) (m : Str) (env : PySem.Env) (w : Sem Value) : attributeBase e m env w = w := by
  unfold attributeBase
  cases e with
  | Call f as ks p =>
    cases f with
    | Name x q =>
      cases as with
      | nil =>
        cases ks with
        | nil => cases h
        | cons _ _ => rfl
      | cons _ _ => rfl
    | _ => rfl
  | _ => rfl
abbrev mthF (m : Mid) (fo : Env → Store → Res LV) (fs : Env → Store → Res (List LV)) : Env → Store → Res LV := fun ρ S => (fo ρ S).bind fun x S => if mtyOk m x S then (fs ρ S).bind fun ls S => methL m x ls S else .bad
/-- a list's object of the store -/
theorem ref_lst {G : Wd} {mu : Mu} {bn : List Addr} {H : Hp} {S : Store} {k : Nat} {u : V} {l : List PV} (R : RepS G.K mu bn H S) (r : RepL G.K mu bn H (.ref k) u) (e : S[k]? = some (.lst l)) : ∃ a vs, u = .ref a ∧ mu[k]? = some (some a) ∧ H a = some (.lst vs) ∧ RepPs G.K bn H l vs := by
  obtain ⟨a, e1, vs, q, rp⟩ := repS_get R e (by simp)
  exact ⟨a, vs, r.toRef.2 a e1, e1, q, rp⟩
theorem lst_ty {mu : Mu} {bn : List Addr} {H : Hp} {S : Store} {x : LV} {u : V} {m : Mid} (hm : m = .append ∨ m = .pop0 ∨ m = .pop1 ∨ m = .extend) (R : RepS M.G.K mu bn H S) (r : RepL M.G.K mu bn H x u) (h : mtyOk m x S = true) : tyV M.G.K "list" u H := by
  unfold mtyOk at h
  cases e : rd S x with
  | none => rw [e] at h; cases h
  | some p =>
    rw [e] at h
    have rp := rd_rep R r e
    cases p with
    | lst xs => obtain ⟨a, vs, rfl, ha, _⟩ := rp; exact .inl ⟨rfl, vs, SqL.of ha⟩
    | _ => rcases hm with rfl | rfl | rfl | rfl <;> cases h
def mnm : Mid → Option (Str × String)
  | .append => some ("append", "list.append")
  | .pop0 => some ("pop", "list.pop")
  | .pop1 => some ("pop", "list.pop")
  | .extend => some ("extend", "list.extend")
  | _ => none
theorem red_bm {m : Mid} {r : V → List V → Hp → VK → Prop} (g : Good M W N sc fns X) (hm : m = .append ∨ m = .pop0 ∨ m = .pop1 ∨ m = .extend)
    (hr : ∀ mu bn H S σ x u ls vs (Q : VK), RepS M.G.K mu bn H S → RepL M.G.K mu bn H x u → RepLs M.G.K mu bn H ls vs → To M.G W (rlE M.G) σ mu bn H Q (methL m x ls S) → r u vs H Q) (σ : Sg) (H : Hp) (Q : VK)
    (h : tev M.G W (mthF m fo fs) σ H Q) : tBM X.K "list" r (tev M.G W fo) (tas M.G W fs) σ H Q := by
  obtain ⟨mu, bn, ρ, S, A, h⟩ := h.out
  refine A.step h fun mu1 bn1 H1 S1 x u A1 t1 rx h1 => ?_
  by_cases ok : mtyOk m x S1 = true
  · rw [if_pos ok] at h1
    refine ⟨g.K ▸ lst_ty hm A1.R rx ok, ?_⟩
    refine (A1.hold rx).step h1 fun mu2 bn2 H2 S2 ls vs A2 t2 ry h2 => ?_
    exact hr mu2 bn2 H2 S2 σ x u ls vs Q A2.R A2.hd.1 ry h2
  · rw [if_neg ok] at h1; exact h1.elim
variable {apos : Pos}
theorem few_ok {e : Expr} {es : List Expr} (hs : (e :: es).all notStar = true) (hn : (e :: es).length < 20) (cpos : Pos) (env : PySem.Env) : ((backTo cpos (starEach (e :: es) env)).all (fun x => !x.1) && (backToKw cpos (keywordEach [] env)).all (fun x => x.1.isSome)
      && decide ((e :: es).length + ([] : List Keyword).length + (if ([] : List Keyword).isEmpty then 0 else 1) < 30)) = true := by
  rw [star_few hs]
  simp only [Bool.true_and, Bool.and_eq_true, decide_eq_true_eq]
  refine ⟨rfl, ?_⟩
  show (e :: es).length + 0 + 0 < 30
  omega
theorem appL_to {mu : Mu} {bn : List Addr} {H : Hp} {S : Store} {σ : Sg} {Q : VK} {x : LV} {ls : List LV} (h : To M.G W (rlE M.G) σ mu bn H Q (appL x ls S)) :
    ∃ k p l, x = .ref k ∧ ls = [.pv p] ∧ S[k]? = some (.lst l) ∧ l.length < big ∧ To M.G W (rlE M.G) σ mu bn H Q (.ok (.pv .non) (S.set k (.lst (l ++ [p])))) := by
  unfold appL at h
  split at h
  · split at h
    · rename_i e
      by_cases hl : ‹List PV›.length < big
      · rw [if_pos hl] at h; exact ⟨_, _, _, rfl, rfl, e, hl, h⟩
      · rw [if_neg hl] at h; exact h.elim
    · exact h.elim
  · exact h.elim
theorem s_append (g : Good M W N sc fns X) (ho : PE X o (tev M.G W fo)) (ha : PE X a (tev M.G W fa)) (hs : notStar a = true) (hb : notSup o = true) (hline : (apos.endLine == pos.line) = true) :
    PE X (.Call (.Attribute o "append" apos) [a] [] pos) (tev M.G W (mthF .append fo (one fa))) :=
  PE.mono (pe_bm PySem.F.plainAttrs_list PySem.F.slot_list_append PySem.F.type_list_append mt_append ho (s_acons hs ha s_anil) (base_plain hb _ _ _) (few_ok (by simp [hs]) (by simp) _ _) hline (star_cons hs [] X.env) rfl)
    (red_bm g (.inl rfl) fun mu bn H S σ x u ls vs Q R rx rl h => by
      obtain ⟨k, p, l, rfl, rfl, e, hl, h⟩ := appL_to h
      obtain ⟨y, r, rfl, ry, rr⟩ := rl.uncons
      rw [rr.unnil]
      obtain ⟨ad, zs, rfl, hm, hq, hz⟩ := ref_lst R rx e
      refine ⟨ad, zs, y, rfl, rfl, hq, Nat.lt_of_lt_of_le (by rw [← hz.length]; exact hl) big_line, ?_⟩
      have w := R.write hm e (hz.append (repPs_cons ry.toP repPs_nil))
      exact (show OkG M.G (rlE M.G) mu bn H Q (.pv .non) _ from h) _ _ _ _ w.1 w.2 (.pv repP_non))
theorem pop0L_to {mu : Mu} {bn : List Addr} {H : Hp} {S : Store} {σ : Sg} {Q : VK} {x : LV} {ls : List LV} (h : To M.G W (rlE M.G) σ mu bn H Q (pop0L x ls S)) :
    ∃ k p l, x = .ref k ∧ ls = [] ∧ S[k]? = some (.lst l) ∧ l.getLast? = some p ∧ To M.G W (rlE M.G) σ mu bn H Q (.ok (.pv p) (S.set k (.lst l.dropLast))) := by
  unfold pop0L at h
  split at h
  · split at h
    · rename_i e
      split at h
      · rename_i e2; exact ⟨_, _, _, rfl, rfl, e, e2, h⟩
      · exact h.elim
    · exact h.elim
  · exact h.elim
theorem dropLast_rep {K : PySem.W.Frag} {bn : List Addr} {H : Hp} {xs : List PV} {vs : List V} (h : RepPs K bn H xs vs) : RepPs K bn H xs.dropLast vs.dropLast := by
  have q := h.cut 0 (xs.length - 1)
  rw [List.drop_zero, List.drop_zero, ← List.dropLast_eq_take] at q
  rw [h.length, ← List.dropLast_eq_take] at q
  exact q
theorem s_pop0 (g : Good M W N sc fns X) (ho : PE X o (tev M.G W fo)) (hb : notSup o = true) (hline : (apos.endLine == pos.line) = true) :
    PE X (.Call (.Attribute o "pop" apos) [] [] pos) (tev M.G W (mthF .pop0 fo (fun _ S => .ok [] S))) :=
  PE.mono (pe_bm0 PySem.F.plainAttrs_list PySem.F.slot_list_pop PySem.F.type_list_pop mt_pop ho (base_plain hb _ _ _) hline) fun σ H Q h => by
    obtain ⟨mu, bn, ρ, S, A, h⟩ := h.out
    refine A.step h fun mu1 bn1 H1 S1 x u A1 t1 rx h1 => ?_
    by_cases ok : mtyOk .pop0 x S1 = true
    · rw [if_pos ok] at h1
      refine ⟨g.K ▸ lst_ty (.inr (.inl rfl)) A1.R rx ok, ?_⟩
      obtain ⟨k, p, l, rfl, _, e, hl, h⟩ := pop0L_to (show To M.G W (rlE M.G) σ mu1 bn1 H1 Q (pop0L x [] S1) from h1)
      obtain ⟨ad, zs, rfl, hm, hq, hz⟩ := ref_lst A1.R rx e
      rw [List.getLast?_eq_getElem?] at hl
      obtain ⟨y, e2, ry⟩ := hz.get hl
      rw [hz.length] at e2
      refine ⟨ad, zs, y, rfl, rfl, hq, e2, ?_⟩
      have w := A1.R.write hm e (dropLast_rep hz)
      exact (show OkG M.G (rlE M.G) mu1 bn1 H1 Q (.pv p) _ from h) _ _ _ _ w.1 w.2 (.pv (ry.mono (w.1.kp A1.R)))
    · rw [if_neg ok] at h1; exact h1.elim
theorem extL_to {mu : Mu} {bn : List Addr} {H : Hp} {S : Store} {σ : Sg} {Q : VK} {x : LV} {ls : List LV} (h : To M.G W (rlE M.G) σ mu bn H Q (extL x ls S)) :
    ∃ k y l z, x = .ref k ∧ ls = [y] ∧ S[k]? = some (.lst l) ∧ rd S y = some (.lst z) ∧ l.length + z.length ≤ big ∧ To M.G W (rlE M.G) σ mu bn H Q (.ok (.pv .non) (S.set k (.lst (l ++ z)))) := by
  unfold extL at h
  split at h
  · split at h
    · rename_i k y _ l e
      obtain ⟨p, e1, h⟩ := h.rdB
      cases p with
      | lst z =>
        by_cases hl : l.length + z.length ≤ big
        · exact ⟨_, _, _, _, rfl, rfl, e, e1, hl, by simpa [hl] using h⟩
        · have h : To M.G W (rlE M.G) σ mu bn H Q (if l.length + z.length ≤ big then _ else .bad) := h
          rw [if_neg hl] at h; exact h.elim
      | _ => exact h.elim
    · exact h.elim
  · exact h.elim
theorem s_extend (g : Good M W N sc fns X) (ho : PE X o (tev M.G W fo)) (ha : PE X a (tev M.G W fa)) (hs : notStar a = true) (hb : notSup o = true) (hline : (apos.endLine == pos.line) = true) :
    PE X (.Call (.Attribute o "extend" apos) [a] [] pos) (tev M.G W (mthF .extend fo (one fa))) :=
  PE.mono (pe_bm PySem.F.plainAttrs_list PySem.F.slot_list_extend PySem.F.type_list_extend mt_extend ho (s_acons hs ha s_anil) (base_plain hb _ _ _) (few_ok (by simp [hs]) (by simp) _ _) hline (star_cons hs [] X.env) rfl)
    (red_bm g (.inr (.inr (.inr rfl))) fun mu bn H S σ x u ls vs Q R rx rl h => by
      obtain ⟨k, y, l, z, rfl, rfl, e, e1, hl, h⟩ := extL_to h
      obtain ⟨yv, r, rfl, ry, rr⟩ := rl.uncons
      rw [rr.unnil]
      obtain ⟨ad, zs, rfl, hm, hq, hz⟩ := ref_lst R rx e
      obtain ⟨ad2, ys, rfl, hq2, hy⟩ := rd_rep R ry e1
      refine ⟨ad, ad2, zs, ys, rfl, rfl, hq, hq2, Nat.le_trans (by rw [← hz.length, ← hy.length]; exact hl) big_line, ?_⟩
      have w := R.write hm e (hz.append hy)
      exact (show OkG M.G (rlE M.G) mu bn H Q (.pv .non) _ from h) _ _ _ _ w.1 w.2 (.pv repP_non))
theorem pop1L_to {mu : Mu} {bn : List Addr} {H : Hp} {S : Store} {σ : Sg} {Q : VK} {x : LV} {ls : List LV} (h : To M.G W (rlE M.G) σ mu bn H Q (pop1L x ls S)) :
    ∃ k i l p, x = .ref k ∧ ls = [.pv (.int i)] ∧ S[k]? = some (.lst l) ∧ (0 ≤ i ∧ i < l.length ∧ i < 1000000) ∧ l[i.toNat]? = some p ∧ To M.G W (rlE M.G) σ mu bn H Q (.ok (.pv p) (S.set k (.lst (l.eraseIdx i.toNat)))) := by
  unfold pop1L at h
  split at h
  · split at h
    · rename_i k i _ l e
      by_cases hl : 0 ≤ i ∧ i < l.length ∧ i < 1000000
      · rw [if_pos hl] at h
        split at h
        · exact ⟨_, _, _, _, rfl, rfl, e, hl, by assumption, h⟩
        · exact h.elim
      · rw [if_neg hl] at h; exact h.elim
    · exact h.elim
  · exact h.elim
theorem erase_rep {K : PySem.W.Frag} {bn : List Addr} {H : Hp} : ∀ {xs : List PV} {vs : List V} (n : Nat), RepPs K bn H xs vs → RepPs K bn H (xs.eraseIdx n) (vs.eraseIdx n)
  | [], vs, n, h => by unfold RepPs at h; subst h; simp; exact repPs_nil
  | x :: xs, vs, 0, h => by
    unfold RepPs at h
    obtain ⟨v, r, rfl, _, h2⟩ := h
    exact h2
  | x :: xs, vs, n + 1, h => by
    unfold RepPs at h
    obtain ⟨v, r, rfl, h1, h2⟩ := h
    exact repPs_cons h1 (erase_rep n h2)
theorem s_pop1 (g : Good M W N sc fns X) (ho : PE X o (tev M.G W fo)) (ha : PE X a (tev M.G W fa)) (hs : notStar a = true) (hb : notSup o = true) (hline : (apos.endLine == pos.line) = true) :
    PE X (.Call (.Attribute o "pop" apos) [a] [] pos) (tev M.G W (mthF .pop1 fo (one fa))) :=
  PE.mono (pe_bm PySem.F.plainAttrs_list PySem.F.slot_list_pop PySem.F.type_list_pop mt_popAt ho (s_acons hs ha s_anil) (base_plain hb _ _ _) (few_ok (by simp [hs]) (by simp) _ _) hline (star_cons hs [] X.env) rfl)
    (red_bm g (.inr (.inr (.inl rfl))) fun mu bn H S σ x u ls vs Q R rx rl h => by
      obtain ⟨k, i, l, p, rfl, rfl, e, hi, hp, h⟩ := pop1L_to h
      obtain ⟨yv, r, rfl, ry, rr⟩ := rl.uncons
      rw [rr.unnil, rep_int ry.toP.v]
      obtain ⟨ad, zs, rfl, hm, hq, hz⟩ := ref_lst R rx e
      obtain ⟨v, e2, rv⟩ := hz.get hp
      refine ⟨ad, zs, i, i.toNat, v, rfl, rfl, hq, by omega, by omega, ?_, e2, ?_⟩
      · unfold seqIndex?
        have := hz.length
        have h0 : ¬ i < 0 := by omega
        have h1 : 0 ≤ i := by omega
        have h2 : i < (zs.length : Int) := by omega
        simp [h0, h1, h2]
      have w := R.write hm e (erase_rep i.toNat hz)
      exact (show OkG M.G (rlE M.G) mu bn H Q (.pv p) _ from h) _ _ _ _ w.1 w.2 (.pv (rv.mono (w.1.kp R))))
end
end Gp

/-! list(zip(x, y)) -/
namespace L2
open PySem PySem.Spec PyProof.Rows
open PySem.W
section
variable {prog : Program} {w : World} {A : Around} {E : Value → Shared → Prop} {s : Shared} {z TI TO T i1 i2 l1 l2 : Addr} {k1 k2 : Bool} {f : Bool} {oT : Obj} {i : Nat} {xs ys : Array Value}
theorem SOf.at {k : Bool} {h h' : Heap} {l : Addr} {xs : Array Value} (x : SOf k h l xs)
    (e : ∀ o, h.get? l = some o → h'.get? l = some o) : SOf k h' l xs := by
  cases k <;> (obtain ⟨o, ho, r⟩ := x; exact ⟨o, e o ho, r⟩)
theorem zipX_held {x y : Value} {Q : Value → Shared → Prop} (hh : A.handled = none) (S : ZipSep2 z TI TO i1 i2 [i1, l1] [i2, l2])
    (hz : IsZipHeld s.heap z TI TO T f) (hT : s.heap.get? T = some oT) (hTI : IsTupOf2 s.heap TI (.ref i1) (.ref i2))
    (h1 : SIt k1 s.heap i1 l1 i) (h2 : SIt k2 s.heap i2 l2 i) (o1 : SOf k1 s.heap l1 xs) (o2 : SOf k2 s.heap l2 ys)
    (hx : xs[i]? = some x) (hy : ys[i]? = some y)
    (hQ : ∀ h' tk, IsZipHeld h' z TI TO T true → SIt k1 h' i1 l1 (i + 1) → SIt k2 h' i2 l2 (i + 1) →
      IsTupOf2 h' s.heap.objs.size x y → h'.objs.size = s.heap.objs.size + 1 →
      (∀ c o, c ≠ z → c ≠ i1 → c ≠ i2 → s.heap.get? c = some o → h'.get? c = some o) → Q (.ref s.heap.objs.size) { s with heap := h', toks := tk }) : wpAny (model prog w) A (Builtin.«zip.__next__» ⟨[.ref z], []⟩) (fun fin s' => ∃ v, fin = .done (.ret v) ∧ Q v s') E s := by
  obtain ⟨hp, g, d, tk0, os⟩ := s; show wpAny _ _ (field (.ref z) 2 >>= _) _ _ _
  refine wpAny_bind (wpAny_field hz rfl (x := .bool false) rfl ?_); show wpAny _ _ (field (.ref z) 3 >>= _) _ _ _
  refine wpAny_bind (wpAny_field hz rfl (x := .ref TI) rfl ?_); refine wpAny_bind (wpAny_seqItems hTI rfl ?_)
  show wpAny _ _ (Builtin.SmallTypes.ownedTupleIsFree (.ref z) >>= _) _ _ _; refine wpAny_bind (wpAny_tupleHeld_zip hz hT fun g1 hz1 hs1 => ?_)
  replace hs1 : Heap.SameBut z hp g1 := hs1
  simp only [Bool.false_eq_true, if_false]; refine wpAny_bind ?_
  rw [← Array.forIn_toList]
  simp only [List.forIn_cons, List.forIn_nil]; have li : i < xs.size := (Array.getElem?_eq_some_iff.mp hx).1
  have li2 : i < ys.size := (Array.getElem?_eq_some_iff.mp hy).1
  have D1 := draws_sq (prog := prog) (w := w) hh k1 i1 l1 (h1.ne o1) xs
  have D2 := draws_sq (prog := prog) (w := w) hh k2 i2 l2 (h2.ne o2) ys
  refine wpAny_bind (wpAny_bind (wpAny_holding ?_)); show wpAny _ _ (Builtin.SmallTypes.nextOf (.ref i1) >>= _) _ _ ⟨g1, g, d, tk0, os⟩
  refine wpAny_bind (D1.item i _ _ _ li (D1.over (i := i) ⟨h1, o1⟩ hs1 S.zf1) fun x1 p1 tk1 hx1 sn1 hp1 => wpAny_pure ?_)
  replace hp1 : Heap.SameBut i1 g1 p1 := hp1
  refine wpAny_pure ?_
  refine wpAny_bind (wpAny_bind (wpAny_holding ?_)); show wpAny _ _ (Builtin.SmallTypes.nextOf (.ref i2) >>= _) _ _ ⟨p1, g, d, tk1, os⟩
  refine wpAny_bind (D2.item i _ _ _ li2 (D2.over (D2.over (i := i) ⟨h2, o2⟩ hs1 S.zf2) hp1 S.sep1_2) fun x2 p2 tk2 hx2 sn2 hp2 => wpAny_pure ?_)
  replace hp2 : Heap.SameBut i2 p1 p2 := hp2
  refine wpAny_pure (wpAny_pure ?_); have ex1 : x1 = x := Option.some.inj (Eq.trans (Eq.symm hx1) hx)
  have ex2 : x2 = y := Option.some.inj (Eq.trans (Eq.symm hx2) hy)
  subst ex1 ex2
  show wpAny _ _ (newTuple [x1, x2] >>= _) _ _ _
  refine wpAny_bind (wpAny_newTuple ?_); have hsz : p2.objs.size = hp.objs.size := by rw [hp2.1, hp1.1, hs1.1]
  have hz3 : IsZipHeld p2 z TI TO T true := hp2.extBut _ _ S.zi2 (hp1.extBut _ _ S.zi1 hz1)
  have hk : ∀ c o, c ≠ z → c ≠ i1 → c ≠ i2 → hp.get? c = some o → p2.get? c = some o := fun c o c1 c2 c3 e =>
    hp2.extBut _ _ c3 (hp1.extBut _ _ c2 (hs1.extBut _ _ c1 e))
  have j1 := (D1.over (i := i + 1) sn1 hp2 S.sep2_1).1
  refine wpAny_pure ⟨_, rfl, ?_⟩; show Q (.ref p2.objs.size) _
  have hpr : IsTupOf2 (p2.push { cls := .type "tuple", data := .seq #[x1, x2] }) p2.objs.size x1 x2 := Heap.get?_push_size _ rfl
  have hz4 : (p2.push { cls := .type "tuple", data := .seq #[x1, x2] }).objs.size = p2.objs.size + 1 := Heap.size_push ..
  rw [hsz] at hpr hz4 ⊢
  exact hQ _ tk2 (Heap.get?_push_of_some _ hz3) (j1.at fun o e => Heap.get?_push_of_some _ e) (sn2.1.at fun o e => Heap.get?_push_of_some _ e)
    hpr hz4 fun c o c1 c2 c3 e => Heap.get?_push_of_some _ (hk c o c1 c2 c3 e)
theorem zipX_held_end {Q : Fin → Shared → Prop} (hh : A.handled = none) (S : ZipSep2 z TI TO i1 i2 [i1, l1] [i2, l2])
    (hz : IsZipHeld s.heap z TI TO T f) (hT : s.heap.get? T = some oT) (hTI : IsTupOf2 s.heap TI (.ref i1) (.ref i2))
    (h1 : SIt k1 s.heap i1 l1 i) (h2 : SIt k2 s.heap i2 l2 i) (o1 : SOf k1 s.heap l1 xs) (o2 : SOf k2 s.heap l2 ys)
    (he1 : i ≤ xs.size) (he2 : i ≤ ys.size) (hend : i = xs.size ∨ i = ys.size)
    (hE : ∀ h' tk e, (∀ c o, c ≠ z → c ≠ i1 → c ≠ i2 → s.heap.get? c = some o → h'.get? c = some o) →
      (∃ o, h'.get? e = some o ∧ o.cls = .type "StopIteration") → E (.ref e) { s with heap := h', toks := tk }) : wpAny (model prog w) A (Builtin.«zip.__next__» ⟨[.ref z], []⟩) Q E s := by
  obtain ⟨hp, g, d, tk0, os⟩ := s; show wpAny _ _ (field (.ref z) 2 >>= _) _ _ _
  refine wpAny_bind (wpAny_field hz rfl (x := .bool false) rfl ?_); show wpAny _ _ (field (.ref z) 3 >>= _) _ _ _
  refine wpAny_bind (wpAny_field hz rfl (x := .ref TI) rfl ?_); refine wpAny_bind (wpAny_seqItems hTI rfl ?_)
  show wpAny _ _ (Builtin.SmallTypes.ownedTupleIsFree (.ref z) >>= _) _ _ _; refine wpAny_bind (wpAny_tupleHeld_zip hz hT fun g1 hz1 hs1 => ?_)
  replace hs1 : Heap.SameBut z hp g1 := hs1
  simp only [Bool.false_eq_true, if_false]; refine wpAny_bind ?_
  rw [← Array.forIn_toList]
  simp only [List.forIn_cons, List.forIn_nil]; have D1 := draws_sq (prog := prog) (w := w) hh k1 i1 l1 (h1.ne o1) xs
  have D2 := draws_sq (prog := prog) (w := w) hh k2 i2 l2 (h2.ne o2) ys
  refine wpAny_bind (wpAny_bind (wpAny_holding ?_)); show wpAny _ _ (Builtin.SmallTypes.nextOf (.ref i1) >>= _) _ _ ⟨g1, g, d, tk0, os⟩
  have s1 := D1.over (i := i) ⟨h1, o1⟩ hs1 S.zf1
  by_cases c1 : i = xs.size
  · subst c1
    refine wpAny_bind (D1.done _ _ _ s1 fun q e hq he => ?_)
    exact hE q tk0 e (fun c o cz c1 _ x => hq _ _ c1 (hs1.extBut _ _ cz x)) he
  · have c2 : i = ys.size := by omega
    have li : i < xs.size := by omega
    refine wpAny_bind (D1.item i _ _ _ li s1 fun x1 p1 tk1 hx1 sn1 hp1 => wpAny_pure ?_)
    replace hp1 : Heap.SameBut i1 g1 p1 := hp1
    refine wpAny_pure ?_
    refine wpAny_bind (wpAny_bind (wpAny_holding ?_)); show wpAny _ _ (Builtin.SmallTypes.nextOf (.ref i2) >>= _) _ _ ⟨p1, g, d, tk1, os⟩
    have s2 := D2.over (D2.over (i := i) ⟨h2, o2⟩ hs1 S.zf2) hp1 S.sep1_2
    subst c2
    refine wpAny_bind (D2.done _ _ _ s2 fun q e hq he => ?_)
    exact hE q tk1 e (fun c o cz c1 c3 x => hq _ _ c3 (hp1.extBut _ _ c1 (hs1.extBut _ _ cz x))) he
/-- where a zip over two sequences stands before its turn i, while the list S is filled -/
def ZSt (k1 k2 : Bool) (h : Heap) (z TI TO i1 i2 a b S : Addr) (i : Nat) : Prop :=
  IsTupOf2 h TI (.ref i1) (.ref i2) ∧ SIt k1 h i1 a i ∧ SIt k2 h i2 b i ∧
    ((IsZip h z TI TO .none ∧ ∃ x y, IsTupOf2 h TO x y) ∨
      ∃ T f oT, IsZipHeld h z TI TO T f ∧ h.get? T = some oT ∧ T ≠ z ∧ T ≠ i1 ∧ T ≠ i2 ∧ T ≠ S)
theorem ZSt.upd {h h' : Heap} {S : Addr} (st : ZSt k1 k2 h z TI TO i1 i2 l1 l2 S i) (n : S ∉ [z, TI, TO, i1, i2])
    (e : ∀ c o, c ≠ S → h.get? c = some o → h'.get? c = some o) : ZSt k1 k2 h' z TI TO i1 i2 l1 l2 S i := by
  obtain ⟨hTI, h1, h2, hz⟩ := st
  simp only [List.mem_cons, List.not_mem_nil, or_false, not_or] at n
  obtain ⟨n1, n2, n3, n4, n5⟩ := n
  refine ⟨e _ _ (Ne.symm n2) hTI, h1.at fun o q => e _ o (Ne.symm n4) q, h2.at fun o q => e _ o (Ne.symm n5) q, ?_⟩
  rcases hz with ⟨hz, x, y, hTO⟩ | ⟨T, f, oT, hz, hT, r1, r2, r3, r4⟩
  · exact .inl ⟨e _ _ (Ne.symm n1) hz, x, y, e _ _ (Ne.symm n3) hTO⟩
  · exact .inr ⟨T, f, oT, e _ _ (Ne.symm n1) hz, e _ _ r4 hT, r1, r2, r3, r4⟩
theorem zst_next {x y : Value} {SL : Addr} {Q : Option Value → Shared → Prop} (hh : A.handled = none) (S : ZipSep2 z TI TO i1 i2 [i1, l1] [i2, l2])
    (st : ZSt k1 k2 s.heap z TI TO i1 i2 l1 l2 SL i) (o1 : SOf k1 s.heap l1 xs) (o2 : SOf k2 s.heap l2 ys)
    (hx : xs[i]? = some x) (hy : ys[i]? = some y) (hS : SL < s.heap.objs.size)
    (hQ : ∀ h' tk, ZSt k1 k2 h' z TI TO i1 i2 l1 l2 SL (i + 1) → IsTupOf2 h' s.heap.objs.size x y →
      (∀ c o, c ∉ [z, TI, TO, i1, i2] → s.heap.get? c = some o → h'.get? c = some o) →
      Q (some (.ref s.heap.objs.size)) { s with heap := h', toks := tk }) : wpAny (model prog w) A (pyNext (.ref z)) Q E s := by
  obtain ⟨hTI, h1, h2, hz⟩ := st
  have li : i < xs.size := (Array.getElem?_eq_some_iff.mp hx).1
  have li2 : i < ys.size := (Array.getElem?_eq_some_iff.mp hy).1
  have d1 := draws_sq (prog := prog) (w := w) (A := A.in1) hh k1 i1 l1 (h1.ne o1) xs
  have d2 := draws_sq (prog := prog) (w := w) (A := A.in1) hh k2 i2 l2 (h2.ne o2) ys
  obtain ⟨q1, g1, _⟩ := h1.obj
  obtain ⟨q2, g2, _⟩ := h2.obj
  have n1 := Nat.ne_of_gt (Heap.lt_size g1)
  have n2 := Nat.ne_of_gt (Heap.lt_size g2)
  have n3 : s.heap.objs.size ≠ SL := Nat.ne_of_gt hS
  rcases hz with ⟨hz, a, d, hTO⟩ | ⟨T, f, oT, hz, hT, r1, r2, r3, r4⟩
  · refine wpAny_pyNext_zipD2_item S d1 d2 hz hTI hTO ⟨h1, o1⟩ ⟨h2, o2⟩ li li2 fun v1 v2 h' tk e1 e2 z' TO' st1 st2 hT hsz hk => ?_
    have ev1 : v1 = x := Option.some.inj (Eq.trans (Eq.symm e1) hx)
    have ev2 : v2 = y := Option.some.inj (Eq.trans (Eq.symm e2) hy)
    subst ev1 ev2
    refine hQ h' tk ⟨hk _ _ S.TIz S.TITO S.TIi1 S.TIi2 hTI, st1.1, st2.1, .inr ⟨_, false, _, z', hT, Nat.ne_of_gt (Heap.lt_size hz), n1, n2, n3⟩⟩ hT fun c o hc e => ?_
    simp only [List.mem_cons, List.not_mem_nil, or_false, not_or] at hc
    exact hk c o hc.1 hc.2.2.1 hc.2.2.2.1 hc.2.2.2.2 e
  · have hTy : s.TypeIs (.ref z) "zip" := ⟨_, hz, rfl⟩
    unfold pyNext
    refine wpAny_bind (wpAny_attempt (wpAny_callSpecial?_slot (name := Str.ofString "__next__") hTy F.slot_zip_next (wpAny_call_entry F.slot_zip_next hTy F.entry_zip_next (zipX_held (A := A.in1) hh S hz hT hTI h1 h2 o1 o2 hx hy
        fun h' tk a1 a2 a3 a4 a5 a6 => wpAny_pure ?_) (F.args_zip_next_1 _))))
    refine hQ h' tk ⟨a6 _ _ S.TIz S.TIi1 S.TIi2 hTI, a2, a3, .inr ⟨T, true, oT, a1, a6 _ _ r1 r2 r3 hT, r1, r2, r3, r4⟩⟩ a4 fun c o hc e => ?_
    simp only [List.mem_cons, List.not_mem_nil, or_false, not_or] at hc
    exact a6 c o hc.1 hc.2.2.2.1 hc.2.2.2.2 e
theorem zst_done {SL : Addr} {Q : Option Value → Shared → Prop} (hh : A.handled = none) (S : ZipSep2 z TI TO i1 i2 [i1, l1] [i2, l2])
    (st : ZSt k1 k2 s.heap z TI TO i1 i2 l1 l2 SL i) (o1 : SOf k1 s.heap l1 xs) (o2 : SOf k2 s.heap l2 ys)
    (he1 : i ≤ xs.size) (he2 : i ≤ ys.size) (hend : i = xs.size ∨ i = ys.size)
    (hQ : ∀ h' tk, (∀ c o, c ∉ [z, TI, TO, i1, i2] → s.heap.get? c = some o → h'.get? c = some o) →
      Q none { s with heap := h', toks := tk }) : wpAny (model prog w) A (pyNext (.ref z)) Q E s := by
  obtain ⟨hTI, h1, h2, hz⟩ := st
  have d1 := draws_sq (prog := prog) (w := w) (A := A.in1) hh k1 i1 l1 (h1.ne o1) xs
  have d2 := draws_sq (prog := prog) (w := w) (A := A.in1) hh k2 i2 l2 (h2.ne o2) ys
  rcases hz with ⟨hz, a, d, hTO⟩ | ⟨T, f, oT, hz, hT, r1, r2, r3, r4⟩
  · refine wpAny_pyNext_zipD2_end S d1 d2 hz hTI hTO ⟨h1, o1⟩ ⟨h2, o2⟩ he1 he2 hend fun h' tk hk => hQ h' tk fun c o hc e => ?_
    simp only [List.mem_cons, List.not_mem_nil, or_false, not_or] at hc
    exact hk c o hc.1 hc.2.2.1 hc.2.2.2.1 hc.2.2.2.2 e
  · have hTy : s.TypeIs (.ref z) "zip" := ⟨_, hz, rfl⟩
    unfold pyNext
    refine wpAny_bind (wpAny_attempt (wpAny_callSpecial?_slot (name := Str.ofString "__next__") hTy F.slot_zip_next (wpAny_call_entry F.slot_zip_next hTy F.entry_zip_next (zipX_held_end (A := A.in1) hh S hz hT hTI h1 h2 o1 o2 he1 he2 hend
        fun h' tk e hk he => ?_) (F.args_zip_next_1 _))))
    obtain ⟨o, ho, hc⟩ := he
    refine wpAny_bind (wpAny_isInstance (T := "StopIteration") (b := true) ⟨o, ho, hc⟩ isSubtype_stop ?_); refine wpAny_pure (hQ h' tk fun c o hc e => ?_)
    simp only [List.mem_cons, List.not_mem_nil, or_false, not_or] at hc
    exact hk c o hc.1 hc.2.2.2.1 hc.2.2.2.2 e
end
end L2

namespace L2
open PySem PySem.Spec PyProof.Rows
open PySem.W
theorem Sq.ext {K : PySem.W.Frag} {k : Bool} {H H' : Hp} {a : Addr} {xs : List V} (h : Sq k K H a xs)
    (e : ∀ c o, H c = some o → H' c = some o) : Sq k K H' a xs := by
  cases k
  · rcases h with (h | ⟨o, h⟩) | h
    · exact .inl (.inl (e _ _ h))
    · exact Or.inl (.inr ⟨o, e _ _ h⟩)
    · exact .inr h
  · rcases h with (h | ⟨o, h⟩) | h
    · exact .inl (.inl (e _ _ h))
    · exact Or.inl (.inr ⟨o, e _ _ h⟩)
    · exact .inr h
/-- new pairs, in their places -/
def PairsAt (H1 H' : Hp) (us ws acc : List V) : Prop :=
  ∀ (j : Nat) v, acc[j]? = some v → ∃ T x y, v = .ref T ∧ H1 T = none ∧ H' T = some (.tup [x, y]) ∧ us[j]? = some x ∧ ws[j]? = some y
theorem PairsAt.ext {H1 H H' : Hp} {us ws acc : List V} (p : PairsAt H1 H us ws acc)
    (e : ∀ c x, H c = some (.tup x) → H' c = some (.tup x)) : PairsAt H1 H' us ws acc := fun j v q => by
  obtain ⟨T, x, y, e1, e2, e3, e4⟩ := p j v q
  exact ⟨T, x, y, e1, e2, e _ _ e3, e4⟩
section
variable {X : Cx} {pins : List (Addr × Obj)} {σ : L2.St} {H1 : Hp} {z TI TO i1 i2 a b SL : Addr} {k1 k2 : Bool} {us ws : List V}
theorem zl_loop {A : Around} (hh : A.in1.handled = none) (Sp : ZipSep2 z TI TO i1 i2 [i1, a] [i2, b]) (nS : SL ∉ [z, TI, TO, i1, i2]) (res : Value)
    (hS1 : H1 SL = none) (hq1 : Sq k1 X.K H1 a us) (hq2 : Sq k2 X.K H1 b ws) {B : Nat} {R : Result → Shared → Prop} (hus : us.length ≤ 1000000)
    (hR : ∀ s' H' acc, Inv X pins σ H' s' → (∀ c o, H1 c = some o → H' c = some o) → H' SL = some (.lst acc) →
      PairsAt H1 H' us ws acc → acc.length = min us.length ws.length → R (.ok (.ret res)) s') :
    ∀ (n i : Nat) (s : Shared) (Hi : Hp) (acc : List V), min us.length ws.length - i = n → i ≤ min us.length ws.length →
      Inv X pins σ Hi s → (∀ c o, H1 c = some o → Hi c = some o) → Hi SL = some (.lst acc) → acc.length = i →
      ZSt k1 k2 s.heap z TI TO i1 i2 a b SL i → (∀ c ∈ [z, TI, TO, i1, i2], FpOk X pins Hi c ∧ c < B) → B ≤ s.heap.objs.size → PairsAt H1 Hi us ws acc →
      codeAny (model X.prog X.w) A (.builtin "list.extend.loop" ⟨[.ref SL, .ref z, res], []⟩) R s := by
  intro n
  induction n with
  | zero =>
    intro i s Hi acc hn hi I ext hS hl st hf hB hp
    obtain ⟨its, rv, p⟩ := I.sq (hq1.ext ext)
    obtain ⟨its2, rv2, p2⟩ := I.sq (hq2.ext ext)
    have l1 : its.toArray.size = us.length := by rw [List.size_toArray, rv.length]
    have l2 : its2.toArray.size = ws.length := by rw [List.size_toArray, rv2.length]
    refine codeAny_builtin F.entry_extend_loop ?_; rw [Around.under_plainId F.plain_extend_loop _]
    show wpAny _ A.in1 (pyNext (.ref z) >>= _) _ _ s
    refine wpAny_bind (zst_done (A := A.in1) hh Sp st p p2 (by omega) (by omega) (by omega) fun h' tk hk => ?_)
    have I1 : Inv X pins σ Hi { s with heap := h', toks := tk } := I.turnedL (t' := tk) hk fun c hc => (hf c hc).1
    exact wpAny_pure (hR _ _ acc I1 ext hS hp (by omega))
  | succ n ih =>
    intro i s Hi acc hn hi I ext hS hl st hf hB hp
    obtain ⟨its, rv, p⟩ := I.sq (hq1.ext ext)
    obtain ⟨its2, rv2, p2⟩ := I.sq (hq2.ext ext)
    have li : i < us.length := by omega
    have li2 : i < ws.length := by omega
    obtain ⟨u, hu, ru⟩ := rv.get (List.getElem?_eq_getElem li)
    obtain ⟨v, hv, rv'⟩ := rv2.get (List.getElem?_eq_getElem li2)
    obtain ⟨zl, itS, nS', vS, lS, oS⟩ := I.lstM hS
    have sS : SL < s.heap.objs.size := Heap.lt_size oS
    refine codeAny_builtin F.entry_extend_loop ?_; rw [Around.under_plainId F.plain_extend_loop _]
    show wpAny _ A.in1 (pyNext (.ref z) >>= _) _ _ s
    refine wpAny_bind (zst_next (A := A.in1) hh Sp st p p2 (x := u) (y := v) (by simpa using hu) (by simpa using hv) sS fun h' tk st' hT hk => ?_)
    have nT : Hi s.heap.objs.size = none := I.hok.fresh (Nat.le_refl _)
    have new : ObjOk X.prog X.w (upd Hi s.heap.objs.size (.tup [us[i], ws[i]])) h' s.heap.objs.size (.tup [us[i], ws[i]]) :=
      ⟨by show 2 ≤ sizeLine; decide, [u, v], .cons ru (.cons rv' .nil), ⟨_, hT, rfl, _, rfl⟩⟩
    have I1 : Inv X pins σ (upd Hi s.heap.objs.size (.tup [us[i], ws[i]])) { s with heap := h', toks := tk } :=
      I.turnedNew (t' := tk) (ch := [z, TI, TO, i1, i2]) hk (fun c hc => (hf c hc).1) (Nat.le_refl _) new
    have nST : SL ≠ s.heap.objs.size := Nat.ne_of_lt sS
    have hS' : upd Hi s.heap.objs.size (.tup [us[i], ws[i]]) SL = some (.lst acc) := by rw [upd_ne nST]; exact hS
    obtain ⟨zl', itS', c', vS', lS', oS'⟩ := I1.lstM hS'
    have oS' : h'.get? SL = some { cls := .type "list", data := .seq itS'.toArray c' } := oS'
    have big' : (1000000 : Nat) < sizeLine := by rw [sizeLine_eq]; decide
    have I2 := I1.lset (f := (·.push (Value.ref s.heap.objs.size))) (its' := itS' ++ [Value.ref s.heap.objs.size]) (ys := acc ++ [V.ref s.heap.objs.size]) (t' := tk) hS' oS'
      (by simp) (vS'.append (.cons rfl .nil)) (by rw [List.length_append, hl]; show i + 1 ≤ sizeLine; omega)
    show wpAny _ A.in1 (updateSeq SL (·.push (Value.ref s.heap.objs.size)) >>= _) _ _ _
    refine wpAny_bind ?_
    have e1 : ∀ c o, H1 c = some o → upd (upd Hi s.heap.objs.size (.tup [us[i], ws[i]])) SL (.lst (acc ++ [V.ref s.heap.objs.size])) c = some o := fun c o e => by
      rw [upd_ne (ne_of_none e hS1), upd_ne (ne_of_none (ext c o e) nT)]
      exact ext c o e
    refine wpAny_updateSeq oS' rfl (wpAny_pure ⟨plainId_quiet F.plain_extend_loop _, ih (i + 1) _ _ _ (by omega) (by omega) I2 e1 upd_same (by rw [List.length_append, hl]; rfl) ?_ ?_ ?_ ?_⟩) ?_ ?_
    · exact st'.upd nS fun c o hc e => (Heap.get?_update_other _ _ (Ne.symm hc)).trans e
    · intro c hc
      refine ⟨?_, (hf c hc).2⟩
      have n1 : c ≠ s.heap.objs.size := Nat.ne_of_lt (Nat.lt_of_lt_of_le (hf c hc).2 hB)
      have n2 : c ≠ SL := fun e => nS (e ▸ hc)
      obtain ⟨q1, q2⟩ := (hf c hc).1
      exact ⟨by rw [upd_ne n2, upd_ne n1]; exact q1, q2⟩
    · have g : (h'.update SL (Obj.mapSeq (·.push (Value.ref s.heap.objs.size)))).get? s.heap.objs.size = _ :=
        (Heap.get?_update_other _ _ nST).trans hT
      exact Nat.le_of_lt (Nat.lt_of_le_of_lt hB (Heap.lt_size g))
    · intro j w hj
      by_cases hlt : j < acc.length
      · rw [List.getElem?_append_left hlt] at hj
        obtain ⟨T, x, y, e, e2, e3, e4⟩ := hp j w hj
        have nTS : T ≠ SL := fun z => by rw [z, hS] at e3; cases e3
        exact ⟨T, x, y, e, e2, by rw [upd_ne nTS, upd_ne (ne_of_none e3 nT)]; exact e3, e4⟩
      · have hj1 : j = i := by
          rcases Nat.lt_or_ge j (acc.length + 1) with q | q
          · omega
          · rw [List.getElem?_eq_none (by rw [List.length_append]; exact q)] at hj; cases hj
        subst hj1
        rw [List.getElem?_append_right (by omega), hl, Nat.sub_self] at hj
        cases hj
        refine ⟨_, us[j], ws[j], rfl, ?_, by rw [upd_ne (Ne.symm nST), upd_same], List.getElem?_eq_getElem li, List.getElem?_eq_getElem li2⟩
        cases hh1 : H1 s.heap.objs.size with
        | none => rfl
        | some o => rw [ext _ o hh1] at nT; cases nT
    · rw [List.size_toArray, ← lS', hl]; omega
    · show (itS'.toArray.push _).size ≤ sizeLine + 1
      rw [Array.size_push, List.size_toArray, ← lS', hl]; omega
end
end L2

namespace L2
open PySem PySem.Spec PyProof.Rows
open PySem.W
theorem nolen_zip : typeLookup (.type "zip") "__len__" = pure none := by
  rw [typeLookup_type, builtinLookup_eq_fast]; kernel_rfl
theorem nohint_zip : typeLookup (.type "zip") "__length_hint__" = pure none := by
  rw [typeLookup_type, builtinLookup_eq_fast]; kernel_rfl
section
variable {X : Cx} {pins : List (Addr × Obj)} {σ : L2.St} {H1 : Hp} {s : Shared} {z TI TO i1 i2 a b : Addr} {k1 k2 : Bool} {us ws : List V}
/-- list(z), z a zip that is at its beginning -/
theorem zl_call {Q : Value → Shared → Prop} (hd0 : X.A.handled = none) (I : Inv X pins σ H1 s) (Sp : ZipSep2 z TI TO i1 i2 [i1, a] [i2, b])
    (hz : IsZip s.heap z TI TO .none ∧ IsTupOf2 s.heap TI (.ref i1) (.ref i2) ∧ ∃ x y, IsTupOf2 s.heap TO x y)
    (h1 : SIt k1 s.heap i1 a 0) (h2 : SIt k2 s.heap i2 b 0) (hf : ∀ c ∈ [z, TI, TO, i1, i2], FpOk X pins H1 c ∧ c < s.heap.objs.size)
    (hq1 : Sq k1 X.K H1 a us) (hq2 : Sq k2 X.K H1 b ws) (hus : us.length ≤ 1000000)
    (hQ : ∀ s' S H' acc, Inv X pins σ H' s' → H1 S = none → (∀ c o, H1 c = some o → H' c = some o) → H' S = some (.lst acc) →
      PairsAt H1 H' us ws acc → acc.length = min us.length ws.length → Q (.ref S) s') :
    wpAny (model X.prog X.w) X.A (call (.type "list") [.ref z]) Q X.xe s := by
  obtain ⟨hz, hTI, x0, y0, hTO⟩ := hz
  refine callType_codes (Q₁ := fun obj s₁ => obj = .ref s.heap.objs.size ∧ s₁ = { s with heap := s.heap.push { cls := .type "list", data := .seq #[] } })
    F.called_list (F.typeCall_list_1 _) F.entry_list_init (code_list_new _ ⟨rfl, rfl⟩) fun obj s₁ h₁ => ?_
  obtain ⟨rfl, rfl⟩ := h₁
  have up : ∀ c o, s.heap.get? c = some o → (s.heap.push { cls := .type "list", data := .seq #[] }).get? c = some o := fun c o e => Heap.get?_push_of_some _ e
  have hS : (s.heap.push { cls := .type "list", data := .seq #[] }).get? s.heap.objs.size = some { cls := .type "list", data := .seq #[] } := Heap.get?_push_size _ rfl; have nS1 : H1 s.heap.objs.size = none := I.hok.fresh (Nat.le_refl _)
  have I1 : Inv X pins σ (upd H1 s.heap.objs.size (.lst [])) { s with heap := s.heap.push { cls := .type "list", data := .seq #[] }, toks := s.toks } :=
    I.lnew (its := []) (t' := s.toks) .nil (Nat.zero_le _)
  have nS : s.heap.objs.size ∉ [z, TI, TO, i1, i2] := fun hm => Nat.lt_irrefl _ (hf _ hm).2
  refine ⟨⟨_, hS, rfl⟩, F.args_list_init_2 _ _, ?_⟩; show wpAny _ _ (do let old ← Builtin.List.listItems (.ref s.heap.objs.size); Builtin.List.listUpdate (.ref s.heap.objs.size) (fun _ => #[]); letGo old.toList.reverse; Builtin.List.listExtendWith (.ref s.heap.objs.size) (.ref z) .none) _ _ _
  refine wpAny_bind ?_
  unfold Builtin.List.listItems
  refine wpAny_bind (wpAny_seqItems hS rfl (wpAny_pure ?_)); show wpAny _ _ (updateSeq s.heap.objs.size (fun _ => #[]) >>= fun _ => letGo (#[] : Array Value).toList.reverse >>= fun _ => Builtin.List.listExtendWith (.ref s.heap.objs.size) (.ref z) .none) _ _ _
  refine wpAny_bind (wpAny_updateSeq hS rfl ?_); have I2 := I1.lset (f := fun _ => (#[] : Array Value)) (its := []) (its' := []) (ys := []) (t' := s.toks) upd_same hS rfl .nil (Nat.zero_le _)
  have hS2 := Heap.get?_update_self (Obj.mapSeq (fun _ => (#[] : Array Value))) hS rfl; have oth : ∀ c o, c ≠ s.heap.objs.size → s.heap.get? c = some o → ((s.heap.push { cls := .type "list", data := .seq #[] }).update s.heap.objs.size (Obj.mapSeq (fun _ => (#[] : Array Value)))).get? c = some o :=
    fun c o hc e => (Heap.get?_update_other _ _ (Ne.symm hc)).trans (up c o e)
  have lt : ∀ {c o}, s.heap.get? c = some o → c ≠ s.heap.objs.size := fun e => Nat.ne_of_lt (Heap.lt_size e)
  refine wpAny_bind (wpAny_letGo ?_); unfold Builtin.List.listExtendWith
  have hz2 := oth _ _ (lt hz) hz
  have hT : ∀ s' : Shared, s'.heap.get? z = some { cls := .type "zip", dict := none, data := .fields #[.none, .bool false, .bool false, .ref TI, .ref TO], slots := #[] } → s'.TypeIs (.ref z) "zip" := fun s' e => ⟨_, e, rfl⟩
  refine wpAny_bind (wpAny_typeOf (hT _ hz2) ?_)
  have c1 : Builtin.List.listSameRef (.ref s.heap.objs.size) (.ref z) = false := by
    simp only [Builtin.List.listSameRef, beq_eq_false_iff_ne]
    exact fun e => lt hz e.symm
  have c2 : (Value.type "zip" == Value.type "list") = false := by decide
  have c3 : (Value.type "zip" == Value.type "tuple") = false := by decide
  simp only [c1, c2, c3, Bool.or_false, Bool.false_eq_true, if_false]
  refine wpAny_bind (wpAny_pyIter_zip hz2 ?_)
  refine wpAny_bind (wpAny_holding ?_); unfold Builtin.List.listLengthHint
  refine wpAny_bind (wpAny_specialOf (hT _ hz2) nolen_zip ?_)
  show wpAny _ _ (specialOf (Value.ref z) (Str.ofString "__length_hint__") >>= _) _ _ _
  refine wpAny_bind (wpAny_specialOf (hT _ hz2) nohint_zip ?_)
  refine wpAny_pure ?_
  show wpAny _ _ (rule "list.extend.makes-room" >>= fun _ => Builtin.List.listTouch (.ref s.heap.objs.size) >>= fun _ =>
    again (.builtin "list.extend.loop" ⟨[.ref s.heap.objs.size, .ref z, .none], []⟩)) _ _ _
  refine wpAny_bind (wpAny_rule ?_); refine wpAny_bind ?_
  show wpAny _ _ (updateSeq s.heap.objs.size (·.push .none) >>= fun _ => updateSeq s.heap.objs.size (·.pop)) _ _ _
  refine wpAny_bind (wpAny_updateSeq hS2 rfl ?_); have I3 := I2.lset (f := (·.push Value.none)) (its := []) (its' := [.none]) (ys := [V.non]) (t' := s.toks) upd_same hS2 rfl (.cons rfl .nil) (by show 1 ≤ sizeLine; decide)
  have hS3 := Heap.get?_update_self (Obj.mapSeq (·.push Value.none)) hS2 rfl; refine wpAny_updateSeq hS3 rfl ?_
  have I4 := I3.lset (f := (·.pop)) (its := [.none]) (its' := []) (ys := []) (t' := s.toks) upd_same hS3 rfl .nil (Nat.zero_le _)
  have hf4 : ∀ c o, c ≠ s.heap.objs.size → s.heap.get? c = some o → ((((s.heap.push { cls := .type "list", data := .seq #[] }).update s.heap.objs.size (Obj.mapSeq (fun _ => (#[] : Array Value)))).update s.heap.objs.size (Obj.mapSeq (·.push Value.none))).update s.heap.objs.size (Obj.mapSeq (·.pop))).get? c = some o :=
    fun c o hc e => (Heap.get?_update_other _ _ (Ne.symm hc)).trans ((Heap.get?_update_other _ _ (Ne.symm hc)).trans (oth c o hc e))
  have e4 : upd (upd (upd (upd H1 s.heap.objs.size (.lst [])) s.heap.objs.size (.lst [])) s.heap.objs.size (.lst [V.non])) s.heap.objs.size (.lst []) = upd H1 s.heap.objs.size (.lst []) := by
    funext c
    by_cases hc : c = s.heap.objs.size
    · subst hc; rw [upd_same, upd_same]
    · simp only [upd_ne hc]
  rw [e4] at I4
  have ext : ∀ c o, H1 c = some o → upd H1 s.heap.objs.size (.lst []) c = some o := fun c o e => by rw [upd_ne (ne_of_none e nS1)]; exact e
  obtain ⟨q1, g1, _⟩ := h1.obj
  obtain ⟨q2, g2, _⟩ := h2.obj
  refine wpAny_pure ⟨plainId_quiet F.plain_extend_loop _, ?_⟩; refine zl_loop (A := X.A.in1) (hh := hd0) Sp nS .none nS1 hq1 hq2 (B := s.heap.objs.size) hus (fun s' H' acc I' ex hS' hp hl => ⟨rfl, hQ s' _ H' acc I' nS1 ex hS' hp hl⟩) (min us.length ws.length - 0) 0 _ _ [] rfl (Nat.zero_le _) I4 ext upd_same rfl
    ⟨hf4 _ _ (lt hTI) hTI, h1.at fun o e => hf4 _ o (lt g1) e, h2.at fun o e => hf4 _ o (lt g2) e, .inl ⟨hf4 _ _ (lt hz) hz, x0, y0, hf4 _ _ (lt hTO) hTO⟩⟩ (fun c hc => ?_) ?_ (fun j v e => by simp at e)
  · obtain ⟨⟨f1, f2⟩, f3⟩ := hf c hc
    exact ⟨⟨by rw [upd_ne (Nat.ne_of_lt f3)]; exact f1, f2⟩, f3⟩
  · exact Nat.le_of_lt (Heap.lt_size (Heap.get?_update_self (Obj.mapSeq (·.pop)) hS3 rfl))
end
def tLz (K : PySem.W.Frag) (ta : TA) : TE := fun σ H Q => ta σ H fun vs H1 => ∃ k1 k2 a b us ws,
  vs = [.ref a, .ref b] ∧ Sq k1 K H1 a us ∧ Sq k2 K H1 b ws ∧ us.length ≤ 1000000 ∧
    ∀ S H' acc, H1 S = none → (∀ c o, H1 c = some o → H' c = some o) → H' S = some (.lst acc) →
      PairsAt H1 H' us ws acc → acc.length = min us.length ws.length → Q (.ref S) H'
theorem pe_listZip {X : Cx} {e e2 : Expr} {ta : TA} {p p2 pos2 pos : Pos} (hc : X.calm = true)
    (hg : Gl X "list") (hm : X.mg "list" = none) (hg2 : Gl X "zip") (hm2 : X.mg "zip" = none) (ha : PA X [e, e2] ta)
    (hs : starEach [e, e2] X.env = (false, eval e X.env) :: starEach [e2] X.env)
    (hpl : (backTo pos2 (starEach [e2] X.env)).any (·.1) = false) :
    PE X (.Call (.Name "list" p) [.Call (.Name "zip" p2) [e, e2] [] pos2] [] pos) (tLz X.K ta) := by
  refine ⟨fun pins s σ H Q I h => ?_⟩; have inner : wpAny (model X.prog X.w) X.A (eval (.Call (.Name "zip" p2) [e, e2] [] pos2) X.env) (fun x s' => ∃ z TI TO i1 i2 a b k1 k2 us ws H1, x = .ref z ∧
      Inv X pins σ H1 s' ∧ ZipSep2 z TI TO i1 i2 [i1, a] [i2, b] ∧ (IsZip s'.heap z TI TO .none ∧ IsTupOf2 s'.heap TI (.ref i1) (.ref i2) ∧ ∃ x y, IsTupOf2 s'.heap TO x y) ∧
      SIt k1 s'.heap i1 a 0 ∧ SIt k2 s'.heap i2 b 0 ∧ (∀ c ∈ [z, TI, TO, i1, i2], FpOk X pins H1 c ∧ c < s'.heap.objs.size) ∧ Sq k1 X.K H1 a us ∧ Sq k2 X.K H1 b ws ∧ us.length ≤ 1000000 ∧
      ∀ S H' acc, H1 S = none → (∀ c o, H1 c = some o → H' c = some o) → H' S = some (.lst acc) → PairsAt H1 H' us ws acc → acc.length = min us.length ws.length → Q (.ref S) H') X.xe s := by
    refine Call_ (ld_blt I hg2 hm2 PyProof.Rows.boot_zip
      (PyProof.Rows.callWith_type1 (thn (ha.run pos2 pins s σ H _ I h) fun us s1 ⟨vs, H1, I1, r1, q1⟩ => ?_) hs hpl))
    obtain ⟨k1, k2, a, b, xs, ys, ex, hqx, hqy, hle, q⟩ := q1
    subst ex
    cases r1 with
    | cons r rr =>
      cases rr with
      | cons r' rr =>
        cases rr
        cases r
        cases r'
        obtain ⟨its, rv, p1⟩ := I1.sq hqx
        obtain ⟨its2, rv2, p2⟩ := I1.sq hqy
        have la := p1.lt
        have lb := p2.lt
        refine zip_begins2 (begins_sq k1 a its.toArray) (begins_sq k2 b its2.toArray) p1 p2 fun h' hz hTI hTO h1 h2 hsz hk => ?_
        have I2 : Inv X pins σ H1 { s1 with heap := h' } := I1.kept (t' := s1.toks) hk; refine ⟨_, _, _, _, _, a, b, k1, k2, xs, ys, H1, rfl, I2, zip_sep2 (fp1 := [a]) (fp2 := [b]) (fun c hb => by rw [List.mem_singleton.mp hb]; exact la) (fun c hb => by rw [List.mem_singleton.mp hb]; exact lb),
          ⟨hz, hTI, _, _, hTO⟩, itObj_it h1, itObj_it h2, fun c hcm => ?_, hqx, hqy, hle, q⟩
        have ec : c = s1.heap.objs.size + 4 ∨ c = s1.heap.objs.size + 2 ∨ c = s1.heap.objs.size + 3 ∨ c = s1.heap.objs.size ∨ c = s1.heap.objs.size + 1 := by simpa using hcm
        have hle : s1.heap.objs.size ≤ c ∧ c < s1.heap.objs.size + 5 := by
          rcases ec with z | z | z | z | z <;> rw [z] <;> constructor <;> first | exact Nat.le_add_right _ _ | exact Nat.le_refl _ | exact Nat.lt_add_of_pos_right (by decide) | exact Nat.add_lt_add_left (by decide) _
        exact ⟨I1.fpOk hle.1 (I1.hok.fresh hle.1), by show c < h'.objs.size; rw [hsz]; exact hle.2⟩
  have na : starEach [.Call (.Name "zip" p2) [e, e2] [] pos2] X.env = (false, eval (.Call (.Name "zip" p2) [e, e2] [] pos2) X.env) :: starEach [] X.env := rfl
  refine Call_ (ld_blt I hg hm boot_list (PyProof.Rows.callWith_type1 (args_cons (thn inner fun x s1 hx => args_nil ?_) na) na))
  obtain ⟨z, TI, TO, i1, i2, a, b, k1, k2, us, ws, H1, rfl, I1, Sp, hz, h1, h2, hf, hq1, hq2, hle, q⟩ := hx
  exact zl_call (I1.ok.hd hc) I1 Sp hz h1 h2 hf hq1 hq2 hle fun s' S H' acc I' nS ext hS hp hl => ⟨.ref S, H', I', rfl, q S H' acc nS ext hS hp hl⟩
end L2

namespace Gp
open PySem PySem.Spec PyProof.Rows L2
section
variable {M : Gm} {W : WX} {N : List Str} {sc : Scope} {fns : Option Scope} {X : Cx} {a b o : Expr} {fa fb fo : Env → Store → Res LV} {pos apos : Pos} {mu : Mu} {bn : List Addr} {H H' : Hp} {S : Store} {G : Wd}
/-! ### list(zip(a, b)) -/
theorem Tr.more (e : ∀ c u, H c = some u → H' c = some u) : Tr mu bn H mu bn H' where
  le := Nat.le_refl _
  sub := fun _ _ _ e => e
  fresh := fun k a h e => (no_past h e).elim
  keep := fun c u q _ => e c u q
  there := fun c h => by
    cases q : H c with
    | none => rfl
    | some u => rw [e c u q] at h; cases h
  news := fun _ h => .inl h
  hold := fun _ h _ _ => h
theorem RepS.more {K : PySem.W.Frag} (R : RepS K mu bn H S) (e : ∀ c u, H c = some u → H' c = some u) : RepS K mu bn H' S := by
  have t := Tr.more (mu := mu) (bn := bn) e
  refine ⟨R.len, R.sub, R.inj, fun c hb z => R.tk c hb (t.there c z), fun k so q => ?_⟩
  rcases R.obj k so q with ⟨c, e1, h⟩ | h
  · refine .inl ⟨c, e1, ?_⟩
    cases so with
    | dead => trivial
    | lst xs => obtain ⟨vs, q, _⟩ := id h; exact h.mono (t.kp R) (by rw [e _ _ q, q])
    | dict _ _ => obtain ⟨vs, q, _⟩ := id h; exact h.mono (t.kp R) (by rw [e _ _ q, q])
    | dicT _ _ => obtain ⟨vs, q, _⟩ := id h; exact h.mono (t.kp R) (by rw [e _ _ q, q])
    | ins _ _ => exact h.elim
  · exact .inr h
theorem zip_rep {K : PySem.W.Frag} {H1 H2 : Hp} (nb : ∀ T, H1 T = none → T ∉ bn) (kp : Kp bn H1 bn H2) : ∀ {xs ys : List PV} {us ws acc : List V}, RepPs K bn H1 xs us → RepPs K bn H1 ys ws → acc.length = min us.length ws.length →
    PairsAt H1 H2 us ws acc → RepPs K bn H2 (zipP xs ys) acc
  | [], ys, us, ws, acc, h1, h2, hl, hp => by
    have e := h1.length
    have : acc = [] := List.eq_nil_of_length_eq_zero (by rw [hl, ← e]; simp)
    subst this; simp only [zipP]; exact repPs_nil
  | x :: xs, [], us, ws, acc, h1, h2, hl, hp => by
    have e := h2.length
    have : acc = [] := List.eq_nil_of_length_eq_zero (by rw [hl, ← e]; simp)
    subst this; simp only [zipP]; exact repPs_nil
  | x :: xs, y :: ys, us, ws, acc, h1, h2, hl, hp => by
    unfold RepPs at h1 h2
    obtain ⟨u, us', rfl, r1, h1⟩ := h1
    obtain ⟨v, ws', rfl, r2, h2⟩ := h2
    cases acc with
    | nil => simp at hl
    | cons t acc =>
      obtain ⟨T, p, q, rfl, nT, hT, e1, e2⟩ := hp 0 t rfl
      simp at e1 e2
      subst e1 e2
      unfold zipP
      refine repPs_cons (repP_tup hT (nb T nT) (repPs_cons (r1.mono kp) (repPs_cons (r2.mono kp) repPs_nil))) (zip_rep nb kp h1 h2 (by simp at hl; omega) fun j w e => ?_)
      obtain ⟨T', p', q', e1, e2, e3, e4, e5⟩ := hp (j + 1) w (by simpa using e)
      exact ⟨T', p', q', e1, e2, e3, by simpa using e4, by simpa using e5⟩
theorem seqOf_len {K : PySem.W.Frag} {p : PV} {xs : List PV} (h : seqOf p = some xs) : p = .tup xs ∨ p = .lst xs := by
  cases p <;> first | (cases h; done) | skip
  · cases h; exact .inl rfl
  · cases h; exact .inr rfl
theorem seq_rep {K : PySem.W.Frag} {p : PV} {xs : List PV} {v : V} (e : seqOf p = some xs) (r : RepV K bn H p v) : ∃ k c us, v = .ref c ∧ Sq k K H c us ∧ RepPs K bn H xs us := by
  rcases seqOf_len (K := K) e with rfl | rfl
  · obtain ⟨c, us, rfl, h, r⟩ := r
    exact ⟨false, c, us, rfl, h, r⟩
  · obtain ⟨c, us, rfl, h, r⟩ := r
    exact ⟨true, c, us, rfl, SqL.of h, r⟩
theorem two_bind {α : Type} {fa fb : Env → Store → Res LV} {ρ : Env} {S : Store} (f : List LV → Store → Res α) :
    (two fa fb ρ S).bind f = (fa ρ S).bind fun x S => (fb ρ S).bind fun y S => f [x, y] S := by
  show ((fa ρ S).bind fun x S => ((fb ρ S).bind fun y S => _).bind _).bind f = _
  cases fa ρ S with
  | ok x S1 =>
    show (((fb ρ S1).bind fun y S => _).bind _).bind f = (fb ρ S1).bind fun y S => f [x, y] S
    cases fb ρ S1 <;> rfl
  | exc e S1 => rfl
  | bad => rfl
theorem s_lstZip (g : Good M W N sc fns X) {al : Bool} {p p2 pos2 : Pos} (h1 : glB sc "list" = true) (h2 : glB sc "zip" = true) (hs : notStar a = true) (hs2 : notStar b = true) (ha : PE X a (tev M.G W fa)) (hb : PE X b (tev M.G W fb)) :
    PE X (.Call (.Name "list" p) [.Call (.Name "zip" p2) [a, b] [] pos2] [] pos) (tev M.G W (bltF .lstZip al (two fa fb))) :=
  PE.mono (pe_listZip g.calm (g.gl h1) (g.mg ▸ g.bl _ (by decide)) (g.gl h2) (g.mg ▸ g.bl _ (by decide)) (pa_cons ha (pa_cons hb pa_nil (star_cons hs2 [] X.env)) (star_cons hs [b] X.env)) (star_cons hs [b] X.env) (by rw [star_cons hs2]; rfl)) fun σ H Q h => by
    obtain ⟨mu, bn, ρ, S, A, h⟩ := h.out
    have h : To M.G W (rlE M.G) σ mu bn H Q ((two fa fb ρ S).bind fun ls S => match rds S ls with | some ps => mkV al (builtin .lstZip ps) S | none => .bad) := h
    rw [two_bind] at h
    refine A.step h fun mu1 bn1 H1 S1 x u A1 t1 rx h1 => ?_
    refine (A1.hold rx).step h1 fun mu2 bn2 H2 S2 y v A2 t2 ry h2 => ?_
    have rx := A2.hd.1
    unfold rds rds rds at h2
    cases e1 : rd S2 x with
    | none => simp only [e1] at h2; exact h2.elim
    | some px =>
      cases e2 : rd S2 y with
      | none => simp only [e1, e2] at h2; exact h2.elim
      | some py =>
        simp only [e1, e2] at h2
        have h2 : To M.G W (rlE M.G) σ mu2 bn2 H2 Q (mkV al (builtin .lstZip [px, py]) S2) := h2
        simp only [builtin] at h2
        cases s1 : seqOf px with
        | none => rw [s1] at h2; exact (mk_none h2).elim
        | some xs =>
          cases s2 : seqOf py with
          | none => rw [s1, s2] at h2; exact (mk_none h2).elim
          | some ys =>
            rw [s1, s2] at h2
            have h2 : To M.G W (rlE M.G) σ mu2 bn2 H2 Q (mkV al (if xs.length ≤ big then some (.lst (zipP xs ys)) else none) S2) := h2
            by_cases hle : xs.length ≤ big
            · rw [if_pos hle] at h2
              obtain ⟨k1, ca, us, rfl, q1, r1⟩ := seq_rep s1 (rd_rep A2.R rx e1)
              obtain ⟨k2, cb, ws, rfl, q2, r2⟩ := seq_rep s2 (rd_rep A2.R ry e2)
              refine ⟨k1, k2, ca, cb, us, ws, rfl, by rw [g.K]; exact q1, by rw [g.K]; exact q2, by rw [← r1.length]; exact hle, fun SL H' acc nS ext hS hp hl => ?_⟩
              have e3 : H' = upd (fun c => if c = SL then none else H' c) SL (.lst acc) := by
                funext c
                by_cases hc : c = SL
                · subst hc; rw [upd_same]; exact hS
                · rw [upd_ne hc, if_neg hc]
              have ext' : ∀ c u, H2 c = some u → (fun c => if c = SL then none else H' c) c = some u := fun c u e => by
                have hc : c ≠ SL := fun z => by rw [z, nS] at e; cases e
                show (if c = SL then none else H' c) = some u
                rw [if_neg hc]; exact ext c u e
              rw [e3]
              have t := Tr.more (mu := mu2) (bn := bn2) ext'
              refine mk_new (To.mono t h2) (A2.R.more ext') (by show (if SL = SL then none else H' SL) = none; rw [if_pos rfl]) ?_
              refine zip_rep (H1 := H2) (fun T nT hb => A2.R.tk T hb nT) (t.kp A2.R) r1 r2 hl fun j w e => ?_
              obtain ⟨T, p, q, e1, e2, e4, e5⟩ := hp j w e
              have hc : T ≠ SL := fun z => by rw [z, hS] at e4; cases e4
              exact ⟨T, p, q, e1, e2, by show (if T = SL then none else H' T) = _; rw [if_neg hc]; exact e4, e5⟩
            · rw [if_neg hle] at h2; exact (mk_none h2).elim
/-! ### [a, *b] -/
theorem s_lstar (g : Good M W N sc fns X) {q : Pos} (hs : notStar a = true) (ha : PE X a (tev M.G W fa)) (hb : PE X b (tev M.G W fb)) :
    PE X (.List [a, .Starred b q] pos) (tev M.G W fun ρ S => (fa ρ S).bind fun x S => (fb ρ S).bind fun y S => match x with
      | .pv x => rdB y S fun y => match seqOf y with
        | some l => if l.length < big then .ok (.pv (.lst (x :: l))) S else .bad
        | none => .bad
      | _ => .bad) :=
  PE.mono (pe_lst (pa_cons ha (StX.pa_star hb pa_nil) (star_cons hs _ X.env))) fun σ H Q h => by
    obtain ⟨mu, bn, ρ, S, A, h⟩ := h.out
    refine A.step h fun mu1 bn1 H1 S1 x u A1 t1 rx h1 => ?_
    refine (A1.hold rx).step h1 fun mu2 bn2 H2 S2 y v A2 t2 ry h2 => ?_
    have rx := A2.hd.1
    cases x with
    | ref _ => exact h2.elim
    | ls _ => exact h2.elim
    | dT _ _ => exact h2.elim
    | ht _ => exact h2.elim
    | pv x =>
      have h2 : To M.G W (rlE M.G) σ mu2 bn2 H2 Q (rdB y S2 fun y => match seqOf y with
        | some l => if l.length < big then Res.ok (LV.pv (.lst (x :: l))) S2 else .bad
        | none => .bad) := h2
      obtain ⟨py, e2, h2⟩ := h2.rdB
      cases s2 : seqOf py with
      | none => rw [s2] at h2; exact h2.elim
      | some l =>
        rw [s2] at h2
        have h2 : To M.G W (rlE M.G) σ mu2 bn2 H2 Q (if l.length < big then .ok (.pv (.lst (x :: l))) S2 else .bad) := h2
        by_cases hl : l.length < big
        · rw [if_pos hl] at h2
          obtain ⟨k, c, us, rfl, q, r⟩ := seq_rep s2 (rd_rep A2.R ry e2)
          have hsz : (u :: (us ++ [])).length ≤ sizeLine := by
            rw [List.append_nil, List.length_cons, ← r.length]
            exact Nat.le_trans hl big_line
          refine ⟨c, us, rfl, ?_, ?_, fun p hp => ?_⟩
          · cases k
            · exact .inl (by rw [g.K]; exact q)
            · exact .inr (by rw [g.K]; exact q)
          · exact hsz
          · rw [List.append_nil]
            exact Wn.lst h2 A2.R hp (repPs_cons rx.toP r)
        · rw [if_neg hl] at h2; exact h2.elim
/-! ### s.join(x) -/
theorem strs_rep {K : PySem.W.Frag} : ∀ {xs : List PV} {l : List (List Nat)} {vs : List V}, strsOf xs = some l → RepPs K bn H xs vs → vs = (l.map fun x => (⟨x.toArray⟩ : Str)).map V.str
  | [], l, vs, e, r => by
    unfold RepPs at r
    cases e
    exact r
  | x :: xs, l, vs, e, r => by
    unfold RepPs at r
    obtain ⟨v, vs', rfl, r1, r2⟩ := r
    cases x with
    | str z =>
      have e : (strsOf xs).map (z :: ·) = some l := e
      cases e1 : strsOf xs with
      | none => rw [e1] at e; cases e
      | some l' =>
        rw [e1] at e
        cases e
        rw [strs_rep e1 r2, rep_str r1.v]
        rfl
    | _ => cases e
theorem mkApp (a b : List Nat) : ((⟨a.toArray⟩ : Str) ++ (⟨b.toArray⟩ : Str)) = ⟨(a ++ b).toArray⟩ := by
  show Str.mk (a.toArray ++ b.toArray) = _
  simp
theorem join_rel (s : List Nat) : ∀ l : List (List Nat), Str.join (⟨s.toArray⟩ : Str) (l.map fun x => (⟨x.toArray⟩ : Str)) = ⟨(joinS s l).toArray⟩
  | [] => rfl
  | [x] => rfl
  | x :: y :: r => by
    show (⟨x.toArray⟩ : Str) ++ ⟨s.toArray⟩ ++ Str.join ⟨s.toArray⟩ ((y :: r).map fun x => (⟨x.toArray⟩ : Str)) = _
    rw [join_rel s (y :: r), mkApp, mkApp]
    rfl
theorem join_len (s : List Nat) : ∀ l : List (List Nat), ((l.map fun x => (⟨x.toArray⟩ : Str)).map (·.length)).sum + (l.map fun x => (⟨x.toArray⟩ : Str)).length * s.length ≤ (joinS s l).length + s.length
  | [] => by simp [joinS]
  | [x] => by simp [joinS, Str.length]
  | x :: y :: r => by
    have ih := join_len s (y :: r)
    simp only [List.map_cons, List.sum_cons, List.length_cons, joinS, List.length_append] at ih ⊢
    have e : (⟨x.toArray⟩ : Str).length = x.length := by simp [Str.length]
    rw [e, Nat.add_mul, Nat.one_mul]
    omega
theorem s_join (g : Good M W N sc fns X) (ho : PE X o (tev M.G W fo)) (ha : PE X a (tev M.G W fa)) (hs : notStar a = true) (hb : notSup o = true) (hline : (apos.endLine == pos.line) = true) :
    PE X (.Call (.Attribute o "join" apos) [a] [] pos) (tev M.G W (mthF .join fo (one fa))) :=
  PE.mono (pe_join ho ha (star_cons hs [] X.env) (base_plain hb _ _ _) hline) fun σ H Q h => by
    obtain ⟨mu, bn, ρ, S, A, h⟩ := h.out
    refine A.step h fun mu1 bn1 H1 S1 x u A1 t1 rx h1 => ?_
    by_cases ok : mtyOk .join x S1 = true
    · rw [if_pos ok] at h1
      unfold mtyOk at ok
      cases e : rd S1 x with
      | none => rw [e] at ok; cases ok
      | some p =>
        rw [e] at ok
        cases p with
        | str z =>
          have ru := rd_rep A1.R rx e
          have eu := rep_str ru
          subst eu
          refine ⟨⟨_, rfl⟩, ?_⟩
          have h1 := h1.binda
          refine (A1.hold rx).step h1 fun mu2 bn2 H2 S2 y v A2 t2 ry h2 => ?_
          have rx2 := A2.hd.1
          have h2 : To M.G W (rlE M.G) σ mu2 bn2 H2 Q (methL .join x [y] S2) := h2
          obtain ⟨p, e1, h2⟩ := To.rdB (f := fun p => match rds S2 [y] with | some ps => opt (method .join p ps) S2 | none => .bad) h2
          have e2 : p = .str z := by
            cases x with
            | pv q => rw [← Option.some.inj e1, Option.some.inj e]
            | ref k =>
              exfalso
              simp only [rd] at e
              cases q : S1[k]? with
              | none => simp [q] at e
              | some o => cases o <;> simp [q] at e
            | ls _ => cases e
            | dT _ _ => cases e
            | ht _ => cases e
          subst e2
          cases e3 : rd S2 y with
          | none => unfold rds rds at h2; simp only [e3] at h2; exact h2.elim
          | some py =>
            unfold rds rds at h2
            simp only [e3] at h2
            have h2 : To M.G W (rlE M.G) σ mu2 bn2 H2 Q (opt (method .join (.str z) [py]) S2) := h2
            obtain ⟨r, e4, h2⟩ := h2.opt
            simp only [method] at e4
            cases s2 : seqOf py with
            | none => rw [s2] at e4; cases e4
            | some l =>
              rw [s2] at e4
              cases s3 : strsOf l with
              | none => simp [s3] at e4
              | some ss =>
                simp only [s3, Option.bind_some] at e4
                by_cases hl : (joinS z ss).length ≤ big
                · rw [if_pos (by simpa using hl)] at e4
                  cases e4
                  obtain ⟨k, c, us, rfl, q, rr⟩ := seq_rep s2 (rd_rep A2.R ry e3)
                  have eus := strs_rep s3 rr
                  subst eus
                  refine ⟨_, c, ss.map fun x => (⟨x.toArray⟩ : Str), rfl, rfl, ?_, ?_, ?_⟩
                  · cases k
                    · exact .inr (by rw [g.K]; exact q)
                    · exact .inl (by rw [g.K]; exact q)
                  · have := join_len z ss
                    have zl := rep_strL ru
                    have e5 : (⟨z.toArray⟩ : Str).length = z.length := by simp [Str.length]
                    rw [e5]
                    unfold big at hl zl
                    omega
                  · rw [TL.join_eq, join_rel]
                    exact Wn.scal h2 A2.R (repP_str hl)
                · rw [if_neg (by simpa using hl)] at e4; cases e4
        | _ => cases ok
    · rw [if_neg ok] at h1; exact h1.elim
/-! ### dict(pairs) -/
theorem pairs_of {K : PySem.W.Frag} : ∀ {x : List PV} {us : List V} {ks ws : List PV} {zz : List PV × List PV}, RepPs K bn H x us → putAll ks ws x = some zz →
    ∃ (ps : List Addr) (kv : List (Key × V)), us = ps.map V.ref ∧ Paired (fun p kv => SqT K H p [kV kv.1, kv.2]) ps kv ∧ Paired (fun e (kv : Key × V) => ∃ k y, e = .tup [k, y] ∧ toKey k = some kv.1 ∧ RepP K bn H y kv.2) x kv
  | [], us, ks, ws, zz, r, h => by
    unfold RepPs at r
    subst r
    exact ⟨[], [], rfl, .nil, .nil⟩
  | e :: x, us, ks, ws, zz, r, h => by
    unfold RepPs at r
    obtain ⟨u, us', rfl, r1, r2⟩ := r
    match e, r1, h with
    | .tup [k, y], r1, h =>
      obtain ⟨hk, h⟩ := putAll_cons h
      obtain ⟨key, ek⟩ := key_ok hk
      obtain ⟨ps, kv, rfl, p1, p2⟩ := pairs_of r2 h
      unfold RepP at r1
      obtain ⟨a, vs, rfl, ta, rv⟩ := r1
      unfold RepPs RepPs RepPs at rv
      obtain ⟨v1, l1, rfl, q1, v2, l2, rfl, q2, rfl⟩ := rv
      have ev := key_v q1.v ek
      subst ev
      exact ⟨a :: ps, (key, v2) :: kv, rfl, .cons ta.sq p1, .cons ⟨k, y, rfl, ek, q2⟩ p2⟩
    | .non, _, h => unfold putAll at h; cases h
    | .bl _, _, h => unfold putAll at h; cases h
    | .int _, _, h => unfold putAll at h; cases h
    | .str _, _, h => unfold putAll at h; cases h
    | .lst _, _, h => unfold putAll at h; cases h
    | .dict _ _, _, h => unfold putAll at h; cases h
    | .scr _, _, h => unfold putAll at h; cases h
    | .tup [], _, h => unfold putAll at h; cases h
    | .tup [_], _, h => unfold putAll at h; cases h
    | .tup (_ :: _ :: _ :: _), _, h => unfold putAll at h; cases h
theorem upd_same_id {D : Addr} {o : HO} (h : H D = some o) : upd H D o = H := by
  funext c
  by_cases hc : c = D
  · subst hc; rw [upd_same, h]
  · rw [upd_ne hc]
theorem upd_twice {D : Addr} {o o' : HO} : upd (upd H D o) D o' = upd H D o' := by
  funext c
  by_cases hc : c = D
  · subst hc; rw [upd_same, upd_same]
  · rw [upd_ne hc, upd_ne hc, upd_ne hc]
theorem dict_fill {mu1 : Mu} {bn1 : List Addr} {H1 : Hp} {S1 : Store} {D : Addr} (R1 : RepS G.K mu1 bn1 H1 S1) (h1 : H1 D = none) : ∀ {x : List PV} {kv : List (Key × V)} {ks ws : List PV} {kvs : List (Key × V)} {H : Hp} {zz : List PV × List PV},
    WtD G mu1 bn1 H1 D mu bn H S ks ws kvs → Paired (fun e (kv : Key × V) => ∃ k y, e = .tup [k, y] ∧ toKey k = some kv.1 ∧ RepP G.K bn1 H1 y kv.2) x kv → putAll ks ws x = some zz →
    WtD G mu1 bn1 H1 D mu bn (upd H D (.dK (mergeK kvs kv))) S zz.1 zz.2 (mergeK kvs kv)
  | [], kv, ks, ws, kvs, H, zz, w, p, h => by
    cases p
    unfold putAll at h
    cases h
    show WtD G mu1 bn1 H1 D mu bn (upd H D (.dK kvs)) S ks ws kvs
    rw [upd_same_id w.e]
    exact w
  | e :: x, kv, ks, ws, kvs, H, zz, w, p, h => by
    cases p with
    | cons a p =>
      obtain ⟨k, y, rfl, ek, ry⟩ := a
      obtain ⟨_, h⟩ := putAll_cons h
      have w2 := w.put h1 ek (ry.mono (w.t.kp R1))
      have w3 := dict_fill R1 h1 w2 p h
      rw [upd_twice] at w3
      exact w3
theorem cb_dictOf (hK : X.K = G.K) (hc : X.calm = true) : CallR X (.type "dict") (rBl G .dictOf) := by
  intro pins s σ H vs us Q I r h; obtain ⟨W, σ', mu, bn, S, ps, al, R, rp, h⟩ := h
  rw [← hK] at rp
  match ps, rp, h with
  | [], _, h => exact (mk_none h).elim
  | a :: _ :: _, _, h => cases a <;> exact (mk_none h).elim
  | [p], rp, h =>
    obtain ⟨v, rfl, rv, rt⟩ := rp.one
    cases p with
    | lst xs =>
      obtain ⟨a, ws, rfl, ha, ra⟩ := rv
      have h : To G W (rlE G) σ' mu bn H Q (mkV al ((putAll [] [] xs).map fun (ks, vs) => .dict ks vs) S) := h
      cases e : putAll [] [] xs with
      | none => rw [e] at h; exact (mk_none h).elim
      | some zz =>
        rw [e] at h
        obtain ⟨qs, kv, rfl, p1, p2⟩ := pairs_of ra e
        refine call_dictP hc pins s σ H _ _ Q I r ⟨a, qs, kv, rfl, SqL.of ha, p1, fun p hp => ?_⟩
        have w := WtD.start (D := p) R hp
        rw [hK] at p2
        have w2 := dict_fill R hp w p2 e
        rw [upd_twice] at w2
        exact dct_fin h hp w2
    | _ => exact (mk_none h).elim
end
end Gp

/-! ## on the machine's side: tuples backwards, the values of a dict as a list -/
namespace L2
open PySem PySem.Spec PyProof.Rows
section
variable {prog : Program} {w : World} {A : Around} {E : Value → Shared → Prop} {s : Shared}
theorem backPlaces (n : Nat) : Builtin.Slice.slicePlaces ((n : Int) - 1) (-1) (-1) = n := by
  unfold Builtin.Slice.slicePlaces; have h1 : ¬ ((-1 : Int) > 0) := by omega
  have e : -(-1 : Int) = 1 := rfl
  simp only [h1, if_false, e, Int.ediv_one]
  split <;> omega
theorem back_applied {sl : Addr} {vs : Value} {n : Nat} {Q : Int × Int × Nat → Shared → Prop} (hs : s.heap.IsSliceOf sl .none .none vs) (ps : IsPart vs (some (-1)))
    (h : Q ((n : Int) - 1, -1, n) s) : wpAny (model prog w) A (Builtin.Slice.sliceApplied (.ref sl) (pure (n : Int))) Q E s := by
  obtain ⟨os, hos, hcs, hds⟩ := id hs; unfold Builtin.Slice.sliceApplied Builtin.Slice.sliceFields
  refine wpAny_bind (wpAny_bind (wpAny_field hos hds (x := .none) rfl (wpAny_bind (wpAny_field hos hds (x := .none) rfl (wpAny_bind (wpAny_field hos hds (x := vs) rfl (wpAny_pure ?_)))))))
  refine wpAny_bind (HT.slicePart_ ps ?_)
  show wpAny _ _ (if ((-1 : Int) == 0) = true then _ else _) _ _ s
  rw [if_neg (by decide)]
  refine wpAny_bind (HT.slicePart_ .none (wpAny_bind (HT.slicePart_ .none (wpAny_bind (wpAny_pure ?_)))))
  show wpAny _ _ (pure ((n : Int) - 1, (-1 : Int), Builtin.Slice.slicePlaces ((n : Int) - 1) (-1) (-1))) _ _ s
  rw [backPlaces]
  exact wpAny_pure h
theorem back_pick (xs : Array Value) : ((List.range xs.size).filterMap fun (m : Nat) => xs[(((xs.size : Int) - 1) + (m : Int) * (-1)).toNat]?).toArray = xs.toList.reverse.toArray := by
  rw [← PySem.W.krv_pick]
  unfold slicePick
  rw [PySem.W.krv_bounds]
  congr 1
  show _ = ((sliceRange ((xs.size : Int) - 1) (-1) (-1)).filterMap (xs[·]?))
  rw [PySem.W.krv_sliceRange, List.filterMap_map]
  have e : (fun (m : Nat) => xs[(((xs.size : Int) - 1) + (m : Int) * (-1)).toNat]?) = ((xs[·]?) ∘ fun m => xs.size - 1 - m) := by
    funext m
    show xs[(((xs.size : Int) - 1) + (m : Int) * (-1)).toNat]? = xs[xs.size - 1 - m]?
    congr 1
    omega
  rw [e]
theorem getItem_tuple_back {t sl : Addr} {items : Array Value} {vs : Value} {Q : Value → Shared → Prop} (ht : IsTup s.heap t items) (hs : s.heap.IsSliceOf sl .none .none vs) (ps : IsPart vs (some (-1)))
    (h : Q (.ref s.heap.objs.size) { s with heap := s.heap.push { cls := .type "tuple", data := .seq items.toList.reverse.toArray } })
    (hz : items.size ≤ sizeLine) :
    wpAny (model prog w) A (getItem (.ref t) (.ref sl)) Q E s := by
  have hok : sizeOk (.seq items.toList.reverse.toArray) := by
    show items.toList.reverse.toArray.size ≤ sizeLine
    rw [List.size_toArray, List.length_reverse, Array.length_toList]
    omega
  obtain ⟨os, hos, hcs, hds⟩ := id hs; have hTs : s.TypeIs (.ref sl) "slice" := ⟨os, hos, hcs⟩
  unfold getItem
  (try with_reducible refine wpAny_holding ?_); (first | refine wpAny_bind (wpAny_pure ?_) | skip)
  refine wpAny_bind (wpAny_sequenceKey ht.typeIs (by decide) ?_); refine wpAny_bind (wpAny_callSpecial?_slot (name := Str.ofString "__getitem__") ht.typeIs PyProof.Rows.slot_tuple_getitem (wpAny_call_entry PyProof.Rows.slot_tuple_getitem ht.typeIs entry_tuple_getitem ?_ (args_tuple_getitem _ _)))
  show wpAny _ _ (Builtin.Tuple.tupleItemsOf (.ref t) >>= _) _ _ s; refine wpAny_bind (tupleItemsOf_ ht ?_)
  refine wpAny_bind (wpAny_typeOf hTs ?_); rw [if_pos (by decide)]
  refine wpAny_bind (back_applied (n := items.size) hs ps ?_)
  have hno : ¬ ((((items.size : Int) - 1) == 0 && (-1 : Int) == 1 && items.size == items.size) = true) := by
    have : ((-1 : Int) == 1) = false := rfl
    rw [this]; simp
  show wpAny _ _ (if (((items.size : Int) - 1) == 0 && (-1 : Int) == 1 && items.size == items.size) = true then _ else _) _ _ s
  rw [if_neg hno, back_pick]
  first
    | exact wpAny_bind (m := Builtin.Tuple.tupleExact _) (wpAny_newObj_type (wpAny_pure ⟨_, rfl, wpAny_pure h⟩) hok)
    | exact wpAny_bind (m := Builtin.Tuple.tupleExact _) (wpAny_newObj_type (wpAny_bind (wpAny_pure (wpAny_pure ⟨_, rfl, wpAny_pure h⟩))) hok)
    | exact wpAny_bind (wpAny_bind (m := Builtin.Tuple.tupleExact _) (wpAny_newObj_type (wpAny_pure (wpAny_pure ⟨_, rfl, wpAny_pure h⟩)) hok))
    | exact wpAny_bind (wpAny_bind (m := Builtin.Tuple.tupleExact _) (wpAny_newObj_type (wpAny_pure ⟨_, rfl, wpAny_pure h⟩) hok))
end
def tBackT (K : PySem.W.Frag) (te : TE) : TE := fun σ H Q => te σ H fun x H1 => ∃ a xs, x = .ref a ∧ SqT K H1 a xs ∧ ∀ p, H1 p = none → Q (.ref p) (upd H1 p (.tup xs.reverse))
theorem pe_backT {X : Cx} {e : Expr} {te : TE} {k : Nat} {p1 p2 p3 pos : Pos} (he : PE X e te) : PE X (.Subscript e (.Slice none none (some (.UnaryOp .USub (.Constant (.int 1) k p1) p2)) p3) pos) (tBackT X.K te) := by
  refine ⟨fun pins s σ H Q I h => ?_⟩; refine Subscript_ (thn (he.run pins s σ H _ I h) fun v s1 ⟨x, H1, I1, r1, q1⟩ => ?_)
  obtain ⟨a, xs, ex, hx, q⟩ := q1; subst ex
  cases r1
  have hst : PO X (some (.UnaryOp .USub (.Constant (.int 1) k p1) p2)) (tPart (tUn (rU fun i => .int (-i)) (tC (.int 1)))) := po_some (pe_un un_neg pe_int); refine wpAny_Slice ?_
  rw [evalPart_none]
  refine wpAny_pure ?_
  refine wpAny_pure ?_
  refine thn (hst.run pins s1 σ H1 (fun o H4 => o = some (-1) ∧ H4 = H1) I1 ⟨1, rfl, -1, rfl, rfl, rfl⟩) fun vs s4 ⟨o, H4, I4, ps, eo, e4⟩ => ?_
  subst eo e4
  have I5 : Inv X pins σ H4 { s4 with heap := s4.heap.push { cls := .type "slice", data := .fields #[.none, .none, vs] } } := I4.kept (t' := s4.toks) fun b ob q => Heap.get?_push_of_some _ q
  obtain ⟨its, r, ht, hz⟩ := I5.tuple hx
  have hlen := r.length
  show wpAny (model X.prog X.w) X.A (subscriptTail e (.Slice none none (some (.UnaryOp .USub (.Constant (.int 1) k p1) p2)) p3) (.ref a) (.ref s4.heap.objs.size)) (EP X pins σ Q) X.xe { s4 with heap := s4.heap.push { cls := .type "slice", data := .fields #[.none, .none, vs] } }
  refine tail_any (ops := [.ref a, .ref s4.heap.objs.size]) ht.typeIs (PyProof.Rows.slot_tuple_getitem.lookup) ?_ (by with_unfolding_all rfl)
  refine getItem_tuple_back ht (Heap.IsSliceOf.new _ .none .none vs) ps ?_ (by rw [List.size_toArray]; omega)
  refine ⟨.ref _, _, I5.laid (t' := s4.toks) (o := .tup xs.reverse) (fun b ob q => Heap.get?_push_of_some _ q) (Nat.le_refl _) ?_, rfl, q _ (I5.hok.fresh (Nat.le_refl _))⟩
  exact ⟨by rw [List.length_reverse]; exact hz, _, r.reverse, IsTup.new _ _⟩
end L2

namespace Gp
open PySem PySem.Spec PyProof.Rows L2
section
variable {M : Gm} {N : List Str} {sc : Scope} {fns : Option Scope} {W : WX} {X : Cx} {G : Wd} {mu : Mu} {bn : List Addr} {H : Hp} {S : Store}
variable {fo fi fa fb fd : Env → Store → Res LV} {fs : Env → Store → Res (List LV)} {e o i a b d : Expr} {es : List Expr} {pos apos : Pos}
/-! ### x[::-1] -/
theorem repPs_rev {K : PySem.W.Frag} : ∀ {xs : List PV} {vs : List V}, RepPs K bn H xs vs → RepPs K bn H xs.reverse vs.reverse
  | [], vs, h => by unfold RepPs at h; subst h; exact repPs_nil
  | x :: xs, vs, h => by
    unfold RepPs at h
    obtain ⟨v, r, rfl, h1, h2⟩ := h
    rw [List.reverse_cons, List.reverse_cons]; exact (repPs_rev h2).append (repPs_cons h1 repPs_nil)
/-- of a tuple -/
theorem s_rev {k : Nat} {p1 p2 p3 : Pos} (hK : X.K = G.K) (ha : PE X a (tev G W fa)) : PE X (.Subscript a (.Slice none none (some (.UnaryOp .USub (.Constant (.int 1) k p1) p2)) p3) pos)
    (tev G W fun ρ S => (fa ρ S).bind fun x S => rdB x S fun p => opt (revv p) S) :=
  PE.mono (pe_backT ha) fun σ H Q h => by
    obtain ⟨mu, bn, ρ, S, A, h⟩ := h.out
    refine A.step h fun mu1 bn1 H1 S1 x u A1 t1 rx h1 => ?_
    obtain ⟨p, e1, h1⟩ := h1.rdB
    obtain ⟨r, e2, h1⟩ := h1.opt
    have rp := rd_rep A1.R rx e1
    cases p <;> first | (cases e2; done) | skip
    case tup xs =>
      cases e2
      obtain ⟨c, vs, rfl, q, r⟩ := rp
      exact ⟨c, vs, rfl, hK ▸ q, fun p hp => Wn.tup h1 A1.R hp (repPs_rev r)⟩
/-! ### dicts with keys that are tuples -/
theorem ref_new {K : PySem.W.Frag} {p : Addr} (R : RepS K mu bn H S) : RepL K (mu ++ [some p]) (p :: bn) H (.ref S.length) (.ref p) := by
  unfold RepL
  refine ⟨by rw [List.length_append, R.len]; simp, fun a e => ?_⟩
  rw [List.getElem?_append_right (by rw [R.len]; exact Nat.le_refl _), R.len, Nat.sub_self] at e
  simp at e
  rw [e]
theorem ref_new' {K : PySem.W.Frag} {p : Addr} {H' : Hp} (R : RepS K mu bn H S) : RepL K (mu ++ [some p]) (p :: bn) H' (.ref S.length) (.ref p) := by
  unfold RepL
  refine ⟨by rw [List.length_append, R.len]; simp, fun a e => ?_⟩
  rw [List.getElem?_append_right (by rw [R.len]; exact Nat.le_refl _), R.len, Nat.sub_self] at e
  simp at e
  rw [e]
theorem s_dctT : PE X (.Dict [] [] pos) (tev G W fun _ S => .ok (.ref S.length) (S ++ [.dicT [] []])) :=
  PE.mono pe_dnewT fun σ H Q h => by
    obtain ⟨mu, bn, ρ, S, A, h⟩ := h.out
    intro p hp
    have h : OkG G (rlE G) mu bn H Q (.ref S.length) (S ++ [.dicT [] []]) := h
    exact h _ _ _ _ (Tr.store hp) (A.R.store hp ⟨[], upd_same, rfl, repPs_nil⟩) (ref_new' A.R)
theorem dT_is {K : PySem.W.Frag} {l : LV} {v : V} {ks vs : List PV} (R : RepS K mu bn H S) (e : dTof l S = some (ks, vs)) (r : RepL K mu bn H l v) : ∃ a kvs, v = .ref a ∧ H a = some (.dT kvs) ∧ KeysG toKeyT ks kvs ∧ RepPs K bn H vs (kvs.map (·.2)) := by
  cases l with
  | dT k' w' =>
    unfold dTof at e
    cases e
    unfold RepL at r
    obtain ⟨a, kvs, e, ha, hb, hk, hu⟩ := r
    exact ⟨a, kvs, e, ha, hk, hu⟩
  | ref j =>
    unfold dTof at e
    cases q : S[j]? with
    | none => simp [q] at e
    | some so =>
      cases so with
      | dicT k' w' =>
        simp only [q, Option.some.injEq, Prod.mk.injEq] at e
        obtain ⟨rfl, rfl⟩ := e
        obtain ⟨a, e1, kvs, q, hk', rp⟩ := repS_get R q (by simp)
        exact ⟨a, kvs, r.toRef.2 a e1, q, hk', rp⟩
      | _ => simp [q] at e
  | _ => cases e
theorem m2_ok (hs : notStar e = true) (hs2 : notStar d = true) (hb : notSup o = true) (hline : (apos.endLine == pos.line) = true) (m : Str) : M2 X o m apos e d pos where
  base := base_plain hb _ _ _
  few := few_ok (by simp [hs, hs2]) (by simp) _ _
  line := hline
  trees := by rw [star_cons hs, star_cons hs2]; rfl
theorem s_getT (hu : X.A.units + 200 < cLine) (ho : PE X o (tev G W fo)) (ha : PE X e (tev G W fa)) (hd : PE X d (tev G W fd)) (hs : notStar e = true) (hs2 : notStar d = true) (hb : notSup o = true) (hline : (apos.endLine == pos.line) = true) :
    PE X (.Call (.Attribute o "get" apos) [e, d] [] pos) (tev G W fun ρ S => (fo ρ S).bind fun x S => if (dTof x S).isSome then (fa ρ S).bind fun y S => (fd ρ S).bind fun z S => getTL x y z S else .bad) :=
  PE.mono (pe_dget2 (by omega) ho ha hd (m2_ok hs hs2 hb hline _)) fun σ H Q h => by
    obtain ⟨mu, bn, ρ, S, A, h⟩ := h.out
    refine A.step h fun mu1 bn1 H1 S1 x u A1 t1 rx h1 => ?_
    cases ed : dTof x S1 with
    | none => simp only [ed, Option.isSome_none] at h1; exact h1.elim
    | some kv =>
      simp only [ed, Option.isSome_some, if_true] at h1
      obtain ⟨ks, vs⟩ := kv
      obtain ⟨c, kvs, rfl, hc, _, _⟩ := dT_is A1.R ed rx
      refine ⟨c, rfl, .inr ⟨kvs, .inl hc⟩, ?_⟩
      refine (A1.hold rx).step h1 fun mu2 bn2 H2 S2 y v A2 t2 ry h2 => ?_
      refine (A2.hold ry).step h2 fun mu3 bn3 H3 S3 z w A3 t3 rz h3 => ?_
      obtain ⟨ry3, A4⟩ := A3.hd
      obtain ⟨rx3, A5⟩ := A4.hd
      unfold getTL at h3
      split at h3
      · rename_i ks3 vs3 k d' e3
        obtain ⟨c', kvs3, ec, hc3, hks, rp⟩ := dT_is A5.R e3 rx3
        cases ec
        unfold RepL at ry3
        obtain ⟨b, key, rfl, hb', hbn, hkey, ru⟩ := ry3
        refine ⟨_, DGet.t hc3 hb', ?_⟩
        obtain ⟨f1, f2⟩ := find_relG toKeyT_eq (k := .tup k) hkey hks rp
        refine To.ret h3 A5.R (.pv ?_)
        cases ef : find ks3 vs3 (.tup k) with
        | none => rw [f2 ef]; exact rz.toP
        | some r =>
          obtain ⟨v', e4, r4⟩ := f1 r ef
          rw [e4]; exact r4
      · exact h3.elim
end
end Gp
namespace L2
open PySem PySem.Spec PyProof.Rows
/-- list(d.values()), keys tuples -/
def tValsT (td : TE) : TE := fun σ H Q => td σ H fun x H1 => ∃ a kvs, x = .ref a ∧ H1 a = some (.dT kvs) ∧ ∀ q, H1 q = none → Q (.ref q) (upd H1 q (.lst (kvs.map (·.2))))
theorem pe_valsT {X : Cx} {o : Expr} {td : TE} {p p2 apos pos : Pos} (hc : X.calm = true) (hg : Gl X "list") (hm : X.mg "list" = none) (ho : PE X o td) (hbase : attributeBase o "values" X.env (eval o X.env) = eval o X.env) (hline : (apos.endLine == p2.line) = true) :
    PE X (.Call (.Name "list" p) [.Call (.Attribute o "values" apos) [] [] p2] [] pos) (tValsT td) := by
  refine ⟨fun pins s σ H Q I h => ?_⟩; refine Call_ (ld_blt I hg hm boot_list (PyProof.Rows.callWith_type1 (args_cons (wpAny_Call_method (T := "dict") (id := "dict.values") hbase rfl hline F.plainAttrs_dict F.slot_dict_values F.type_dict_values
    (thn (ho.run pins s σ H _ I h) fun u s1 ⟨x, H1, I1, rx, d, kvs, ex, hd, q⟩ => ?_)) rfl) rfl))
  subst ex
  obtain rfl : u = Value.ref d := rx; obtain ⟨z, lo, xs, rk, dd⟩ := dt_of I1.hok hd
  obtain ⟨o, es, ep, h1, h2, h3, h4, h5, h6⟩ := dd
  have hraw : s1.heap.DictRaw d es ep := ⟨o, h1, h2, h3⟩
  refine ⟨hraw.typeIs, fun b e => by cases e; exact ⟨o, h1, h2.2.1⟩, ?_⟩
  have I2 : Inv X pins σ H1 { s1 with heap := s1.heap.push { cls := .type "dict_values", data := .fields #[.ref d] } } := I1.kept (t' := s1.toks) fun b ob q => Heap.get?_push_of_some _ q; show wpAny _ _ (callWith p2 (.builtin "dict.values") [.ref d] [] []) _ X.xe s1
  refine method_meetsIn F.slot_dict_values F.entry_dict_values rfl (PySem.evalArgs_none ⟨rfl, hraw.typeIs, F.args_dict_values_1 _, _, meets_dict_values_raw d lo, ⟨es, ep, hraw⟩, args_nil ?_⟩)
  have hes : es.size = kvs.length := by
    rw [Paired.length rk, ← Array.length_toList, h4, List.length_map]
  refine PySem.W.kdl_call (KdlSrc.rawValues (r := s1.heap.objs.size) (d := d) (es := es) (ep := ep)) (I1.ok.hd hc) ⟨⟨_, Heap.get?_push_size _ rfl, rfl, rfl⟩, hraw.push _⟩ (by rw [hes]; exact z) fun h' tk acc' c' hkeep hS hacc => ?_
  refine ⟨.ref _, upd H1 _ (.lst (kvs.map (·.2))), I2.laid (t' := tk) hkeep (Nat.le_refl _) (show ObjOk X.prog X.w _ _ _ (.lst (kvs.map (·.2))) from ⟨?_, acc'.toList, c', ?_, ?_⟩), rfl, q _ (I2.hok.fresh (Nat.le_refl _))⟩
  · (rw [List.length_map]); exact z
  · have el : acc'.toList.length = acc'.size := (by simp)
    refine vals_of_at (by rw [List.length_map, el, hacc.1, hes]) fun j x w g1 g2 => ?_
    obtain ⟨hi, rfl⟩ := hacc.2 j w (by rw [← Array.getElem?_toList]; exact g2)
    have e1 : es.toList[j]? = some es[j] := by rw [Array.getElem?_toList]; exact Array.getElem?_eq_getElem hi
    rw [h4, List.getElem?_map] at e1
    cases e2 : xs[j]? with
    | none => rw [e2] at e1; cases e1
    | some y =>
      rw [e2] at e1
      have e1 := Option.some.inj e1
      rw [List.getElem?_map] at g1
      cases e3 : kvs[j]? with
      | none => rw [e3] at g1; cases g1
      | some kv =>
        rw [e3] at g1
        have g1 := Option.some.inj g1
        have key : ∀ {l : List (List Key × V)} {m : List (List Key × Addr × Value)} {j : Nat} {a b}, KT H1 l m → l[j]? = some a → m[j]? = some b → RelV a.2 b.2.2 := by
          intro l m j a b r
          induction r generalizing j with
          | nil => intro g _; simp at g
          | @cons p q ps qs h t ih =>
            intro g g'
            cases j with
            | zero => simp at g g'; subst g g'; exact h.2.2
            | succ j => exact ih (j := j) (by simpa using g) (by simpa using g')
        have := key rk e3 e2
        rw [← g1, ← e1]
        exact this
  · (rw [Array.toArray_toList]); exact hS
end L2
namespace Gp
open PySem PySem.Spec PyProof.Rows L2
section
variable {M : Gm} {N : List Str} {sc : Scope} {fns : Option Scope} {W : WX} {X : Cx} {G : Wd} {mu : Mu} {bn : List Addr} {H : Hp} {S : Store}
variable {fo fi fa fb fd : Env → Store → Res LV} {fs : Env → Store → Res (List LV)} {e o i a b d : Expr} {es : List Expr} {pos apos : Pos}
theorem s_valsT {p p2 : Pos} (g : Good M W N sc fns X) (h1 : glB sc "list" = true) (ho : PE X o (tev M.G W fo)) (hb : notSup o = true) (hline : (apos.endLine == p2.line) = true) :
    PE X (.Call (.Name "list" p) [.Call (.Attribute o "values" apos) [] [] p2] [] pos) (tev M.G W fun ρ S => (fo ρ S).bind fun x S => valsTL x S) :=
  PE.mono (pe_valsT g.calm (g.gl h1) (g.mg ▸ g.bl _ (by decide)) ho (base_plain hb _ _ _) hline) fun σ H Q h => by
    obtain ⟨mu, bn, ρ, S, A, h⟩ := h.out
    refine A.step h fun mu1 bn1 H1 S1 x u A1 t1 rx h1 => ?_
    unfold valsTL at h1
    split at h1
    · rename_i ks vs e
      obtain ⟨c, kvs, rfl, hc, _, r⟩ := dT_is A1.R e rx
      exact ⟨c, kvs, rfl, hc, fun q hq => Wn.lst h1 A1.R hq r⟩
    · exact h1.elim
theorem dK_is {K : PySem.W.Frag} {l : LV} {v : V} {ks vs : List PV} (R : RepS K mu bn H S) (e : dKof l S = some (ks, vs)) (r : RepL K mu bn H l v) : ∃ a kvs, v = .ref a ∧ H a = some (.dK kvs) ∧ KeysR ks kvs ∧ RepPs K bn H vs (kvs.map (·.2)) := by
  unfold dKof at e
  cases e1 : rd S l with
  | none => rw [e1] at e; cases e
  | some p =>
    rw [e1] at e
    cases p <;> first | (cases e; done) | skip
    cases e
    exact rd_rep R r e1
theorem s_getK (hu : X.A.units + 200 < cLine) (ho : PE X o (tev G W fo)) (ha : PE X e (tev G W fa)) (hd : PE X d (tev G W fd)) (hs : notStar e = true) (hs2 : notStar d = true) (hb : notSup o = true) (hline : (apos.endLine == pos.line) = true) :
    PE X (.Call (.Attribute o "get" apos) [e, d] [] pos) (tev G W fun ρ S => (fo ρ S).bind fun x S => if (dKof x S).isSome then (fa ρ S).bind fun y S => (fd ρ S).bind fun z S => getKL x y z S else .bad) :=
  PE.mono (pe_dget2 (by omega) ho ha hd (m2_ok hs hs2 hb hline _)) fun σ H Q h => by
    obtain ⟨mu, bn, ρ, S, A, h⟩ := h.out
    refine A.step h fun mu1 bn1 H1 S1 x u A1 t1 rx h1 => ?_
    cases ed : dKof x S1 with
    | none => simp only [ed, Option.isSome_none] at h1; exact h1.elim
    | some kv =>
      simp only [ed, Option.isSome_some, if_true] at h1
      obtain ⟨ks, vs⟩ := kv
      obtain ⟨c, kvs, rfl, hc, _, _⟩ := dK_is A1.R ed rx
      refine ⟨c, rfl, .inl ⟨kvs, .inl hc⟩, ?_⟩
      refine (A1.hold rx).step h1 fun mu2 bn2 H2 S2 y v A2 t2 ry h2 => ?_
      refine (A2.hold ry).step h2 fun mu3 bn3 H3 S3 z w A3 t3 rz h3 => ?_
      obtain ⟨ry3, A4⟩ := A3.hd
      obtain ⟨rx3, A5⟩ := A4.hd
      unfold getKL at h3
      split at h3
      · rename_i ks3 vs3 k d' e3
        obtain ⟨c', kvs3, ec, hc3, hks, rp⟩ := dK_is A5.R e3 rx3
        cases ec
        cases hk : PV.keyOk k with
        | false => simp only [hk] at h3; exact h3.elim
        | true =>
          simp only [hk, if_true] at h3
          obtain ⟨key, hkey⟩ := key_ok hk
          have ev := key_v ry3.toP.v hkey
          subst ev
          refine ⟨_, DGet.k hc3, ?_⟩
          obtain ⟨f1, f2⟩ := find_rel hkey hks rp
          refine To.ret h3 A5.R (.pv ?_)
          cases ef : find ks3 vs3 k with
          | none => rw [f2 ef]; exact rz.toP
          | some r =>
            obtain ⟨v', e4, r4⟩ := f1 r ef
            rw [e4]; exact r4
      · exact h3.elim
theorem s_dsp2 {j k : List Nat} {i1 i2 : Nat} {p1 p2 : Pos} (ha : PE X a (tev G W fa)) (hb : PE X b (tev G W fb)) :
    PE X (.Dict [some (.Constant (.str ⟨j.toArray⟩) i1 p1), some (.Constant (.str ⟨k.toArray⟩) i2 p2)] [a, b] pos)
      (tev G W fun ρ S => (fa ρ (S ++ [.dict [] []])).bind fun x S' => (fb ρ S').bind fun y S' => dspL S.length j k x y S') :=
  PE.mono (pe_disp (pps_cons pe_str ha (pps_cons pe_str hb pps_nil)) rfl rfl (by simp) (by simp)) fun σ H Q h => by
    obtain ⟨mu, bn, ρ, S, A, h⟩ := h.out
    intro p hp
    have t := Tr.store (mu := mu) (bn := bn) (o := .dK []) hp
    have R' := A.R.store (so := .dict [] []) hp ⟨[], upd_same, rfl, repPs_nil⟩
    have A' : At G (mu ++ [some p]) (p :: bn) (upd H p (.dK [])) ρ σ (S ++ [.dict [] []]) [.ref S.length] [.ref p] := ⟨A.E.mono t (t.kp A.R), R', repLs_cons (ref_new' A.R) repLs_nil⟩
    have h := To.mono t (r := (fa ρ (S ++ [.dict [] []])).bind fun x S' => (fb ρ S').bind fun y S' => dspL S.length j k x y S') h
    refine A'.step h fun mu1 bn1 H1 S1 x u A1 t1 rx h1 => ?_
    refine (A1.hold rx).step h1 fun mu2 bn2 H2 S2 y v A2 t2 ry h2 => ?_
    obtain ⟨rx2, A3⟩ := A2.hd
    obtain ⟨rr, A4⟩ := A3.hd
    unfold dspL at h2
    split at h2
    · rename_i x y e
      cases hjk : (j != k) with
      | false => simp only [hjk] at h2; exact h2.elim
      | true =>
        simp only [hjk, if_true] at h2
        have hne : j ≠ k := by simpa using hjk
        obtain ⟨c, hm, kvs, hz, hks, rz⟩ := repS_get A2.R e (by simp)
        have ec : p = c := by have := rr.toRef.2 c hm; cases this; rfl
        subst ec
        have e0 : kvs = [] := by
          have := hks.length
          cases kvs with
          | nil => rfl
          | cons _ _ => simp at this
        subst e0
        refine ⟨hz, [(.inr ⟨j.toArray⟩, u), (.inr ⟨k.toArray⟩, v)], rfl, by simp, ?_⟩
        have em : mergeK [] [((.inr ⟨j.toArray⟩ : Key), u), (.inr ⟨k.toArray⟩, v)] = [(.inr ⟨j.toArray⟩, u), (.inr ⟨k.toArray⟩, v)] := by
          have hn : ¬ ((.inr ⟨j.toArray⟩ : Key) = .inr ⟨k.toArray⟩) := fun q => hne (by
            have q := Sum.inr.inj q
            have q := (Str.mk.injEq _ _).mp q
            simpa using q)
          simp [mergeK, putK, hn]
        rw [em]
        have w := A2.R.writeO hm e (by rw [hz]; simp) (so' := .dict [.str j, .str k] [x, y]) (o := .dK [(.inr ⟨j.toArray⟩, u), (.inr ⟨k.toArray⟩, v)]) fun kp => ⟨_, upd_same, rfl, repPs_cons (rx2.toP.mono kp) (repPs_cons (ry.toP.mono kp) repPs_nil)⟩
        have h2 : OkG G (rlE G) mu2 bn2 H2 Q (.ref S.length) (S2.set S.length (.dict [.str j, .str k] [x, y])) := h2
        exact h2 _ _ _ _ w.1 w.2 (rr.mono w.1 (w.1.kp A2.R))
    · exact h2.elim
/-! ### tuples that may be keys -/
theorem keys_v {K : PySem.W.Frag} : ∀ {xs : List PV} {vs : List V}, xs.all PV.keyOk = true → RepPs K bn H xs vs → ∃ key, toKeys xs = some key ∧ vs = key.map kV
  | [], vs, _, h => by unfold RepPs at h; subst h; exact ⟨[], rfl, rfl⟩
  | x :: xs, vs, e, h => by
    unfold RepPs at h
    obtain ⟨v, r, rfl, h1, h2⟩ := h
    rw [List.all_cons, Bool.and_eq_true] at e
    obtain ⟨k, hk⟩ := key_ok e.1
    obtain ⟨ks, hks, rfl⟩ := keys_v e.2 h2
    refine ⟨k :: ks, by unfold toKeys; rw [hk, hks], ?_⟩
    rw [key_v h1.v hk]; rfl
theorem mkH_to {mu : Mu} {bn : List Addr} {H : Hp} {S : Store} {σ : Sg} {Q : VK} {o : Option (List PV)} (h : To G W (rlE G) σ mu bn H Q (mkH o S)) : ∃ xs, o = some xs ∧ xs.all PV.keyOk = true ∧ OkG G (rlE G) mu bn H Q (.ht xs) S := by
  unfold mkH at h
  cases o with
  | none => exact h.elim
  | some xs =>
    refine ⟨xs, rfl, ?_⟩
    cases e : xs.all PV.keyOk with
    | false => simp only [e] at h; exact h.elim
    | true => simp only [e, if_true] at h; exact ⟨rfl, h⟩
theorem ht_fin {Q : VK} {xs : List PV} {vs : List V} {p : Addr} (R : RepS G.K mu bn H S) (h : OkG G (rlE G) mu bn H Q (.ht xs) S) (hk : xs.all PV.keyOk = true) (r : RepPs G.K bn H xs vs) (hp : H p = none) : Q (.ref p) (upd H p (.tup vs)) := by
  have t := Tr.laid (mu := mu) (bn := bn) (o := .tup vs) hp
  refine h _ _ _ _ t (R.laid hp) ?_
  have r' := r.mono (t.kp R)
  obtain ⟨key, e1, e2⟩ := keys_v hk r'
  unfold rlE RepL
  exact ⟨p, key, rfl, e2 ▸ upd_same, fun hb => R.tk p hb hp, e1, e2 ▸ r'⟩
theorem s_tkB {p : Pos} (g : Good M W N sc fns X) (h1 : glB sc "tuple" = true) (hs : notStar a = true) (ha : PE X a (tev M.G W fa)) :
    PE X (.Call (.Name "tuple" p) [a] [] pos) (tev M.G W fun ρ S => (fa ρ S).bind fun x S => mkH (lstOf (rd S x)) S) :=
  PE.mono (pe_tupleOf (g.gl h1) (g.mg ▸ g.bl _ (by decide)) ha (star_cons hs [] X.env)) fun σ H Q h => by
    obtain ⟨mu, bn, ρ, S, A, h⟩ := h.out
    refine A.step h fun mu1 bn1 H1 S1 x u A1 t1 rx h1 => ?_
    obtain ⟨xs, e1, hk, h1⟩ := mkH_to h1
    cases e2 : rd S1 x with
    | none => rw [e2] at e1; cases e1
    | some q =>
      rw [e2] at e1
      cases q <;> first | (cases e1; done) | skip
      cases e1
      obtain ⟨c, vs, rfl, hc, r⟩ := rd_rep A1.R rx e2
      exact .inl ⟨c, vs, rfl, SqL.of hc, fun q hq => ht_fin A1.R h1 hk r hq⟩
theorem s_tkD {k n : Nat} (hn : n ≤ 1000) (hl : ∀ ρ S ls S', fs ρ S = .ok ls S' → ls.length = n) (ha : PA X es (tas G W fs)) : PE X (.Tuple es k pos) (tev G W fun ρ S => (fs ρ S).bind fun ls S => mkH (pvs ls) S) :=
  PE.mono (pe_tup ha) fun σ H Q h => by
    obtain ⟨mu, bn, ρ, S, A, h⟩ := h.out
    refine A.stepE h fun mu1 bn1 H1 S1 x u e1 A1 t1 rx h1 => ?_
    obtain ⟨ps, e2, hk, h1⟩ := mkH_to h1
    refine ⟨?_, fun p hp => ht_fin A1.R h1 hk (pvs_rep e2 rx) hp⟩
    rw [← rx.length, hl ρ S x S1 e1]
    exact Nat.le_trans hn (by rw [sizeLine_eq]; decide)
end
end Gp
namespace Gp
open PySem PySem.Spec PyProof.Rows L2
section
variable {M : Gm} {N : List Str} {sc : Scope} {fns : Option Scope} {W : WX} {X : Cx} {G : Wd} {mu : Mu} {bn : List Addr} {H : Hp} {S : Store}
variable {fo fi fa fb fd : Env → Store → Res LV} {e o i a b d : Expr} {es : List Expr} {pos apos : Pos}
/-! ### l.index(x) -/
theorem get_eqBy {pins : List (Addr × Obj)} {σ : Sg} {s : Shared} {x : PV} (I : Inv X pins σ H s) (hx : PV.eqOk x = true) : ∀ {ps : List PV} {vs : List V} {us : List Value}, RepPs X.K bn H ps vs → Vals vs us → PV.eqOks ps = true →
    ∀ (m : Nat) (p : PV) (u : Value), ps[m]? = some p → us[m]? = some u → eqBy s.heap x u = PV.eqb p x
  | [], vs, us, h, r, _, m, p, u, e1, _ => by simp at e1
  | p :: ps, vs, us, h, r, e, m, p', u, e1, e2 => by
    unfold RepPs at h; unfold PV.eqOks at e
    obtain ⟨v, q, rfl, h1, h2⟩ := h
    rw [Bool.and_eq_true] at e
    cases r with
    | cons r1 r2 =>
      cases m with
      | zero =>
        simp at e1 e2
        subst e1 e2
        obtain ⟨as, rr⟩ := Dp.reads I _ v _ (dp_of h1 e.1) r1
        exact eqBy_eq hx e.1 rr
      | succ m => exact get_eqBy I hx h2 r2 e.2 m p' u (by simpa using e1) (by simpa using e2)
def rIxL (G : Wd) : V → List V → Hp → VK → Prop := fun x ys H Q => ∃ (bn : List Addr) (q : List PV) (p : PV) (a : Addr) (vs : List V) (y : V) (j : Nat), x = .ref a ∧ ys = [y] ∧ H a = some (.lst vs) ∧ RepPs G.K bn H q vs ∧ RepV G.K bn H p y ∧
  inG p q = true ∧ (q.findIdx? fun z => PV.eqb z p) = some j ∧ Q (.int (j : Nat)) H
theorem mt_ixL (hK : X.K = G.K) (hu : X.A.units + 200 < cLine) : MtR X "list.index" (rIxL G) := by
  intro pins s σ H x xs v us Q I rx rxs h; obtain ⟨bn, q, p, a, vs, y, j, rfl, rfl, ha, rq, rp, g, hj, w⟩ := h
  rw [← hK] at rq rp
  unfold inG at g
  simp only [Bool.and_eq_true, decide_eq_true_eq] at g
  cases rx
  cases rxs with
  | cons ry rt =>
    rename_i uy ut
    cases rt
    obtain ⟨its, rv, ⟨⟨cls, dd, data, sl⟩, n, ho, hc, hdn, hd⟩, hlen⟩ := I.list (SqL.of ha)
    simp only at hc hd
    subst hc hd
    obtain ⟨h1, h2, h3⟩ := List.findIdx?_eq_some_iff_getElem.mp hj
    have hl1 := rq.length
    have hl2 := rv.length
    have hsl := sizeLine_eq
    have hjl : j < its.length := by omega
    have hj' : j < its.toArray.size := by simpa using hjl
    have at_ : ∀ (m : Nat) (hm : m < its.toArray.size) (hq : m < q.length), eqBy s.heap p its.toArray[m] = PV.eqb q[m] p := fun m hm hq => by
      have hml : m < its.length := by simpa using hm
      have := get_eqBy I g.1.1 rq rv g.1.2 m q[m] its[m] (List.getElem?_eq_getElem hq) (List.getElem?_eq_getElem hml)
      simpa using this
    refine call_meets PySem.F.slot_list_index ⟨_, ho, rfl⟩ PySem.F.entry_list_index (PySem.F.args_list_index_2 _ _)
      (SeqAt.list_indexAt a its.toArray n dd sl uy (eqBy s.heap p) j hj' (by omega) ?_ ?_) ⟨ho, fun u' hu' => at_eqBy I hu g.1.1 g.2 rp ry rq rv g.1.2 u' (by simpa using hu'), ?_⟩
    · rw [at_ j hj' h1]; exact h2
    · intro m hm hmj
      have hq : m < q.length := by omega
      rw [at_ m hm hq]
      have := h3 m hmj
      simpa using this
    · exact ⟨.int (j : Nat), H, I.tok _, ⟨_, rfl⟩, w⟩
theorem s_index (g : Good M W N sc fns X) (ho : PE X o (tev M.G W fo)) (ha : PE X a (tev M.G W fa)) (hs : notStar a = true) (hb : notSup o = true) (hline : (apos.endLine == pos.line) = true) :
    PE X (.Call (.Attribute o "index" apos) [a] [] pos) (tev M.G W (mthF .index fo (one fa))) :=
  PE.mono (pe_bm PySem.F.plainAttrs_list PySem.F.slot_list_index PySem.F.type_list_index (mt_ixL g.K g.hu) ho (s_acons hs ha s_anil) (base_plain hb _ _ _) (few_ok (by simp [hs]) (by simp) _ _) hline (star_cons hs [] X.env) rfl) fun σ H Q h => by
    obtain ⟨mu, bn, ρ, S, A, h⟩ := h.out
    refine A.step h fun mu1 bn1 H1 S1 x u A1 t1 rx h1 => ?_
    by_cases ok : mtyOk .index x S1 = true
    · rw [if_pos ok] at h1
      unfold mtyOk at ok
      cases e : rd S1 x with
      | none => rw [e] at ok; cases ok
      | some p =>
        rw [e] at ok
        cases p <;> first | (cases ok; done) | skip
        case lst xs =>
          obtain ⟨a0, vs0, rfl, ha0, _⟩ := rd_rep A1.R rx e
          refine ⟨.inl ⟨rfl, vs0, SqL.of ha0⟩, ?_⟩
          refine (A1.hold rx).step h1 fun mu2 bn2 H2 S2 ls v A2 t2 ry h2 => ?_
          have rx2 := A2.hd.1
          obtain ⟨p, e1, h2⟩ := To.rdB (f := fun p => match rds S2 ls with | some ps => opt (method .index p ps) S2 | none => .bad) h2
          cases e3 : rds S2 ls with
          | none => simp only [e3] at h2; exact h2.elim
          | some ps =>
            simp only [e3] at h2
            obtain ⟨r, e4, h2⟩ := h2.opt
            have rp := rd_rep A2.R rx2 e1
            obtain ⟨py, rfl⟩ : ∃ py, ps = [py] := by
              match ps, e4 with
              | [py], _ => exact ⟨py, rfl⟩
              | [], e4 => cases p <;> cases e4
              | _ :: _ :: _, e4 => cases p <;> cases e4
            obtain ⟨w, rfl, rw1, _⟩ := RepRs.one (rds_rep A2.R ry e3)
            have hseq : ∃ l, p = .lst l := by
              cases x with
              | pv q => cases Option.some.inj e; exact ⟨xs, (Option.some.inj e1).symm⟩
              | ref k =>
                obtain ⟨b, e5, o5⟩ : ∃ b, p = b ∧ True := ⟨p, rfl, trivial⟩
                cases q5 : S2[k]? with
                | none => simp [rd, q5] at e1
                | some so =>
                  cases so with
                  | lst l => exact ⟨l, by simp [rd, q5] at e1; exact e1.symm⟩
                  | dict k1 w1 =>
                    simp [rd, q5] at e1
                    subst e1
                    cases e4
                  | _ => simp [rd, q5] at e1
              | _ => cases e
            obtain ⟨l, rfl⟩ := hseq
            simp only [method, seqOf, Option.bind_some] at e4
            split at e4
            · rename_i g1
              cases e5 : (l.findIdx? fun y => PV.eqb y py) with
              | none => rw [e5] at e4; cases e4
              | some j =>
                rw [e5] at e4
                have e6 : PV.int j = r := Option.some.inj e4
                subst e6
                obtain ⟨a1, vs1, ea, ha1, ra1⟩ := rp
                cases ea
                exact ⟨bn2, l, py, _, vs1, w, j, rfl, rfl, ha1, ra1, rw1, g1, e5, Wn.scal h2 A2.R repP_int⟩
            · cases e4
    · rw [if_neg ok] at h1; exact h1.elim
end
end Gp

namespace Gp
open PySem PySem.Spec PyProof.Rows L2

/-- what an end of a statement wants -/
def OkF (G : Wd) (D : Ends) (mu : Mu) (bn : List Addr) (H : Hp) (fl : Flow) (S' : Store) : Prop :=
  match fl with
  | .nx ρ => ∀ mu' bn' H' σ', Tr mu bn H mu' bn' H' → RepS G.K mu' bn' H' S' → RepE G.K mu' bn' H' ρ σ' → D.nx σ' H'
  | .rt l => ∀ mu' bn' H' v, Tr mu bn H mu' bn' H' → RepS G.K mu' bn' H' S' → RepL G.K mu' bn' H' l v → D.rt v H'
  | .bk ρ => ∀ mu' bn' H' σ', Tr mu bn H mu' bn' H' → RepS G.K mu' bn' H' S' → RepE G.K mu' bn' H' ρ σ' → D.bk σ' H'
  | .ct ρ => ∀ mu' bn' H' σ', Tr mu bn H mu' bn' H' → RepS G.K mu' bn' H' S' → RepE G.K mu' bn' H' ρ σ' → D.ct σ' H'
def ExF (G : Wd) (W : WX) (mu : Mu) (bn : List Addr) (H : Hp) (e : PX) (S' : Store) : Prop := ∀ σ, ExG G W σ mu bn H e S'
def ToS (G : Wd) (W : WX) (D : Ends) (mu : Mu) (bn : List Addr) (H : Hp) (r : Res Flow) : Prop := r.to (OkF G D mu bn H) (ExF G W mu bn H)
abbrev tes (G : Wd) (W : WX) (f : Env → Store → Res Flow) : TS := fun D σ H => ∃ mu bn ρ S, RepE G.K mu bn H ρ σ ∧ RepS G.K mu bn H S ∧ ToS G W D mu bn H (f ρ S)
section
variable {G : Wd} {W : WX} {X : Cx} {mu mu' : Mu} {bn bn' : List Addr} {H H' : Hp} {S S' : Store} {ρ : Env} {σ : Sg} {D : Ends}
theorem OkF.mono (t : Tr mu bn H mu' bn' H') {fl : Flow} (h : OkF G D mu bn H fl S') : OkF G D mu' bn' H' fl S' := by
  cases fl <;> exact fun m b h' x t' R r => h m b h' x (t.trans t') R r
theorem ExF.mono (t : Tr mu bn H mu' bn' H') {e : PX} (h : ExF G W mu bn H e S') : ExF G W mu' bn' H' e S' := fun σ => (h σ).mono t
theorem ToS.mono (t : Tr mu bn H mu' bn' H') {r : Res Flow} (h : ToS G W D mu bn H r) : ToS G W D mu' bn' H' r := Res.to_mono h (fun _ _ q => q.mono t) fun _ _ q => q.mono t
theorem tes.out {f : Env → Store → Res Flow} (h : tes G W f D σ H) : ∃ mu bn ρ S, At G mu bn H ρ σ S [] [] ∧ ToS G W D mu bn H (f ρ S) := by
  obtain ⟨mu, bn, ρ, S, E, R, h⟩ := h
  exact ⟨mu, bn, ρ, S, at_nil E R, h⟩
theorem At.tes {ls : List LV} {vs : List V} {f : Env → Store → Res Flow} (A : At G mu bn H ρ σ S ls vs) (h : ToS G W D mu bn H (f ρ S)) : tes G W f D σ H := ⟨mu, bn, ρ, S, A.E, A.R, h⟩
/-- the step of a statement: an expression's value, then the rest -/
theorem At.stepS {α β : Type} {Rel : Rl α β} {ls : List LV} {vs : List V} {f : Env → Store → Res α} {g : α → Store → Res Flow} (A : At G mu bn H ρ σ S ls vs) (h : ToS G W D mu bn H ((f ρ S).bind g)) {Q1 : β → Hp → Prop}
    (hq : ∀ mu1 bn1 H1 S1 a b, At G mu1 bn1 H1 ρ σ S1 ls vs → Tr mu bn H mu1 bn1 H1 → Rel mu1 bn1 H1 a b → ToS G W D mu1 bn1 H1 (g a S1) → Q1 b H1) : gev G W Rel f σ H Q1 := by
  refine ⟨mu, bn, ρ, S, A.E, A.R, ?_⟩
  cases e : f ρ S with
  | ok a S1 =>
    rw [e] at h
    exact fun mu' bn' H' b t R r => hq _ _ _ _ a b (A.mono t R) t r (ToS.mono t h)
  | exc z S1 => rw [e] at h; exact h σ
  | bad => rw [e] at h; exact h
theorem ToS.nx (h : ToS G W D mu bn H (.ok (.nx ρ) S)) (R : RepS G.K mu bn H S) (E : RepE G.K mu bn H ρ σ) : D.nx σ H := h mu bn H σ (Tr.refl _ _ _) R E
theorem ToS.lift {α : Type} {o : Option α} {g : α → Flow} (h : ToS G W D mu bn H (lift (o.map g) S)) : ∃ a, o = some a ∧ ToS G W D mu bn H (.ok (g a) S) := by
  cases o with
  | none => exact h.elim
  | some a => exact ⟨a, rfl, h⟩
variable {st : Stmt} {rest sa sb : List Stmt} {f f1 f2 : Env → Store → Res Flow} {fe fo fi : Env → Store → Res LV} {ft : Env → Store → Res Bool} {fs : Env → Store → Res (List LV)} {e c o i : Expr} {pos : Pos}
theorem s_nil : PSs X [] (tes G W fun ρ S => .ok (.nx ρ) S) := PSs.mono pss_nil fun D σ H h => by
  obtain ⟨mu, bn, ρ, S, A, h⟩ := h.out
  exact h.nx A.R A.E
theorem s_cons (h1 : PS X st (tes G W f1)) (h2 : PSs X rest (tes G W f2)) : PSs X (st :: rest) (tes G W fun ρ S => (f1 ρ S).bind fun f S => match f with | .nx ρ => f2 ρ S | f => .ok f S) := PSs.mono (pss_cons h1 h2) fun D σ H h => by
  obtain ⟨mu, bn, ρ, S, A, h⟩ := h.out
  refine A.tes ?_
  cases e : f1 ρ S with
  | exc z S1 => rw [e] at h; exact h
  | bad => rw [e] at h; exact h
  | ok fl S1 =>
    rw [e] at h
    cases fl with
    | nx ρ1 =>
      have h : ToS G W D mu bn H (f2 ρ1 S1) := h
      exact fun mu' bn' H' σ' t R E => ⟨mu', bn', ρ1, S1, E, R, h.mono t⟩
    | rt l => exact h
    | bk ρ => exact h
    | ct ρ => exact h
theorem s_pass : PS X (.Pass pos) (tes G W fun ρ S => .ok (.nx ρ) S) := PS.mono ps_pass fun D σ H h => by
  obtain ⟨mu, bn, ρ, S, A, h⟩ := h.out
  exact h.nx A.R A.E
theorem s_brk : PS X (.Break pos) (tes G W fun ρ S => .ok (.bk ρ) S) := PS.mono ps_break fun D σ H h => by
  obtain ⟨mu, bn, ρ, S, A, h⟩ := h.out
  exact h mu bn H σ (Tr.refl _ _ _) A.R A.E
theorem s_cnt : PS X (.Continue pos) (tes G W fun ρ S => .ok (.ct ρ) S) := PS.mono ps_continue fun D σ H h => by
  obtain ⟨mu, bn, ρ, S, A, h⟩ := h.out
  exact h mu bn H σ (Tr.refl _ _ _) A.R A.E
theorem s_retn : PS X (.Return none pos) (tes G W fun _ S => .ok (.rt (.pv .non)) S) := PS.mono ps_retN fun D σ H h => by
  obtain ⟨mu, bn, ρ, S, A, h⟩ := h.out
  exact h mu bn H .non (Tr.refl _ _ _) A.R (.pv repP_non)
theorem s_never : PS X st (tes G W fun _ _ => .bad) := PS.mono ps_never fun D σ H h => by
  obtain ⟨mu, bn, ρ, S, A, h⟩ := h.out
  exact h
theorem s_ret (he : PE X e (tev G W fe)) : PS X (.Return (some e) pos) (tes G W fun ρ S => (fe ρ S).bind fun l S => .ok (.rt l) S) := PS.mono (ps_ret he) fun D σ H h => by
  obtain ⟨mu, bn, ρ, S, A, h⟩ := h.out
  exact A.stepS h fun mu1 bn1 H1 S1 x u A1 t1 rx h1 => h1 mu1 bn1 H1 u (Tr.refl _ _ _) A1.R rx
theorem s_exp (he : PE X e (tev G W fe)) (hs : swapsWith e none pos.line X.env = pure false) : PS X (.Expr e pos) (tes G W fun ρ S => (fe ρ S).bind fun _ S => .ok (.nx ρ) S) := PS.mono (ps_expr he hs) fun D σ H h => by
  obtain ⟨mu, bn, ρ, S, A, h⟩ := h.out
  exact A.stepS h fun mu1 bn1 H1 S1 x u A1 t1 rx h1 => h1.nx A1.R A1.E
theorem s_if (hc : PT X c (tet G W ft)) (ha : PSs X sa (tes G W f1)) (hb : PSs X sb (tes G W f2)) : PS X (.If c sa sb pos) (tes G W fun ρ S => iteR (ft ρ S) (fun S => f1 ρ S) (fun S => f2 ρ S)) := PS.mono (ps_if hc ha hb) fun D σ H h => by
  obtain ⟨mu, bn, ρ, S, A, h⟩ := h.out
  refine A.stepS (f := ft) h fun mu1 bn1 H1 S1 x u A1 t1 rx h1 => ?_
  have rx : x = u := rx
  subst rx
  cases x with
  | true => exact A1.tes h1
  | false => exact A1.tes h1
/-! ### assignments -/
def notComp : Expr → Bool
  | .ListComp _ _ _ _ => false
  | .SetComp _ _ _ _ => false
  | .DictComp _ _ _ _ _ => false
  | _ => true
theorem sw_plain {e : Expr} (h : notComp e = true) (t : Option Expr) (l : Nat) (env : PySem.Env) : swapsWith e t l env = pure false := by
  cases e <;> first | rfl | cases h
def notName : Expr → Bool
  | .Name _ _ => false
  | _ => true
theorem sw_other {t : Expr} (h : notName t = true) (e : Expr) (l : Nat) (env : PySem.Env) : swapsWith e (some t) l env = pure false := by
  cases e <;> first | rfl | (cases t <;> first | rfl | cases h)
/-- does the value's block keep the name's store within it -/
def swB (sc : Scope) (x : Str) (px : Pos) (e : Expr) : Bool :=
  match e with
  | .ListComp _ _ s p => sc.names.lookup x == some .local && px.line == p.line && !(s.names.any fun (n, k) => n == x && (k == .local || k == .cell))
  | .SetComp _ _ s p => sc.names.lookup x == some .local && px.line == p.line && !(s.names.any fun (n, k) => n == x && (k == .local || k == .cell))
  | .DictComp _ _ _ s p => sc.names.lookup x == some .local && px.line == p.line && !(s.names.any fun (n, k) => n == x && (k == .local || k == .cell))
  | _ => false
theorem bk_fun {env : PySem.Env} (hk : env.scope.kind = .function) : env.blockKind = .function := by unfold Env.blockKind; rw [hk]; rfl
theorem sw_name (e : Expr) (x : Str) (px : Pos) (l : Nat) (env : PySem.Env) (hk : env.scope.kind = .function) : swapsWith e (some (.Name x px)) l env = pure (swB env.scope x px e) := by
  have hb := bk_fun hk
  cases e <;> first | rfl | (unfold swapsWith swB; simp only [hb]; rfl)
theorem s_set {M : Gm} {N : List Str} {sc : Scope} {fns : Option Scope} (g : Good M W N sc fns X) (hk : sc.kind = .function) {i : Nat} {x : Str} {px : Pos} (hi : N[i]? = some x) (hl : locB sc fns x = true) (he : PE X e (tev M.G W fe)) (hs : swB sc x px e = false) :
    PS X (.Assign [.Name x px] e pos) (tes M.G W fun ρ S => (fe ρ S).bind fun l S => lift ((bindT (.nm i) l ρ).map .nx) S) := by
  obtain ⟨l1, l2⟩ := loc_ok g.nms hl
  refine PS.mono (ps_set (i := i) (by rw [g.nms.nm]; exact g.nms.nd) (by rw [g.nms.nm]; exact hi) l1 he (by rw [sw_name _ _ _ _ _ (by rw [g.nms.sc]; exact hk), g.nms.sc, hs]) l2) fun D σ H h => ?_
  obtain ⟨mu, bn, ρ, S, A, h⟩ := h.out
  exact A.stepS h fun mu1 bn1 H1 S1 x u A1 t1 rx h1 => h1.nx A1.R (A1.E.set rx)
/-- value to a name, the value's reading given -/
theorem red_set {T : TE} {i : Nat} (hT : ∀ σ H Q, tev G W fe σ H Q → T σ H Q) (h : tes G W (fun ρ S => (fe ρ S).bind fun l S => lift ((bindT (.nm i) l ρ).map .nx) S) D σ H) : tAsg T (gName i) D σ H := by
  obtain ⟨mu, bn, ρ, S, A, h⟩ := h.out
  refine hT _ _ _ (A.stepS h fun mu1 bn1 H1 S1 x u A1 t1 rx h1 => h1.nx A1.R (A1.E.set rx))
theorem s_tgt {M : Gm} {N : List Str} {sc : Scope} {fns : Option Scope} (g : Good M W N sc fns X) {t : Tg} {tg : Expr} (ht : ckT N sc fns t tg = true) (he : PE X e (tev M.G W fe)) (hn : notName tg = true) (hw : swappedStores [tg] e X.env = pure none) :
    PS X (.Assign [tg] e pos) (tes M.G W fun ρ S => (fe ρ S).bind fun l S => lift ((bindT t l ρ).map .nx) S) := by
  refine PS.mono (ps_asg he (pg_blk g ht) (sw_other hn e _ _) hw (by rw [assign_cons (ckT_star ht)]; rfl)) fun D σ H h => ?_
  obtain ⟨mu, bn, ρ, S, A, h⟩ := h.out
  refine A.stepS h fun mu1 bn1 H1 S1 x u A1 t1 rx h1 => ?_
  obtain ⟨ρ', e1, h1⟩ := h1.lift
  exact tg_ok t x u ρ ρ' σ _ A1.E rx e1 fun σ' E' _ => h1.nx A1.R E'
/-! ### name, name = value, value, by way of a tuple -/
theorem s_parC {M : Gm} {N : List Str} {sc : Scope} {fns : Option Scope} (g : Good M W N sc fns X) {t : Tg} {ts es : List Expr} {k k2 : Nat} {p2 p3 : Pos} {fs : Env → Store → Res (List LV)} (ht : ckT N sc fns t (.Tuple ts k p2) = true) (ha : PA X es (tas M.G W fs)) (hw : swappedStores [.Tuple ts k p2] (.Tuple es k2 p3) X.env = pure none) :
    PS X (.Assign [.Tuple ts k p2] (.Tuple es k2 p3) pos) (tes M.G W fun ρ S => (fs ρ S).bind fun ls S => lift ((bindTs t ls ρ).map .nx) S) := by
  have hn : swapsWithSole [.Tuple ts k p2] (.Tuple es k2 p3) pos.line X.env = pure false := rfl
  refine PS.mono (ps_asg (pe_tup ha) (pg_blk g ht) hn hw (by rw [assign_cons (ckT_star ht)]; rfl)) fun D σ H h => ?_
  obtain ⟨mu, bn, ρ, S, A, h⟩ := h.out
  refine A.stepS h fun mu1 bn1 H1 S1 ls vs A1 t1 rx h1 => ?_
  obtain ⟨ρ', e1, h1⟩ := h1.lift
  have fin : ∀ (p : Addr), H1 p = none → ∀ σ', RepE M.G.K mu1 bn1 (upd H1 p (.tup vs)) ρ' σ' → D.nx σ' (upd H1 p (.tup vs)) := fun p hp σ' E' => by
    have t := Tr.laid (mu := mu1) (bn := bn1) (o := .tup vs) hp
    exact (h1.mono t).nx (A1.R.laid hp) E'
  have ex : ∀ (p : Addr), H1 p = none → Tr mu1 bn1 H1 mu1 bn1 (upd H1 p (.tup vs)) := fun p hp => Tr.laid hp
  unfold bindTs at e1
  split at e1
  · rename_i i j a b
    obtain ⟨va, r, rfl, ra, rx⟩ := rx.uncons
    obtain ⟨vb, r, rfl, rb, rx⟩ := rx.uncons
    cases rx.unnil
    cases e1
    refine ⟨by show 2 ≤ sizeLine; decide, fun p hp => ⟨p, _, rfl, .inl (.inl upd_same), rfl, va, [vb], rfl, vb, [], rfl, rfl, ?_⟩⟩
    have k := (ex p hp).kp A1.R
    exact fin p hp _ (((A1.E.mono (ex p hp) k).set (ra.mono (ex p hp) k)).set (rb.mono (ex p hp) k))
  · rename_i i j l a b d
    obtain ⟨va, r, rfl, ra, rx⟩ := rx.uncons
    obtain ⟨vb, r, rfl, rb, rx⟩ := rx.uncons
    obtain ⟨vd, r, rfl, rd', rx⟩ := rx.uncons
    cases rx.unnil
    cases e1
    refine ⟨by show 3 ≤ sizeLine; decide, fun p hp => ⟨p, _, rfl, .inl (.inl upd_same), rfl, va, [vb, vd], rfl, vb, [vd], rfl, vd, [], rfl, rfl, ?_⟩⟩
    have k := (ex p hp).kp A1.R
    exact fin p hp _ ((((A1.E.mono (ex p hp) k).set (ra.mono (ex p hp) k)).set (rb.mono (ex p hp) k)).set (rd'.mono (ex p hp) k))
  · cases e1
/-! ### name, name = value, value -/
def stN (sc : Scope) (ts vs : List Expr) : Option (Option (List Str)) :=
  if !(ts.length == 2 || ts.length == 3) || vs.length != ts.length then some none
  else if vs.any fun | .Starred .. => true | _ => false then some none
  else
    let ln0 := (ts.head?.map fun z => z.pos.line).getD 0
    let names := ts.filterMap fun
      | .Name id pos => if sc.names.lookup id == some .local && pos.line == ln0 then some id else none
      | _ => none
    if names.length != ts.length || names.eraseDups.length != names.length then some none
    else if vs.all (foldedForSure 8) then some none
    else if vs.all (constantsAlone 8) then none
    else some (some names)
theorem stN_ok {sc : Scope} {ts vs : List Expr} {r : Option (List Str)} {env : PySem.Env} {k k2 : Nat} {p p2 : Pos} (he : env.scope = sc) (hk : sc.kind = .function) (h : stN sc ts vs = some r) : swappedStores [.Tuple ts k p] (.Tuple vs k2 p2) env = pure r := by
  subst he
  unfold stN at h
  unfold swappedStores
  simp only
  have hk' : ∀ id, env.kindOf id = env.scope.names.lookup id := fun _ => rfl
  have hb : (env.blockKind != .function) = false := by rw [bk_fun hk]; rfl
  simp only [hk', hb, Bool.or_false]
  split at h
  · rename_i c; cases h; exact if_pos c
  · rename_i c
    refine (if_neg c).trans ?_
    split at h
    · rename_i c2; cases h; exact if_pos c2
    · rename_i c2
      refine (if_neg c2).trans ?_
      simp only at h
      split at h
      · rename_i c3; cases h; exact if_pos c3
      · rename_i c3
        refine (if_neg c3).trans ?_
        split at h
        · rename_i c4; cases h; exact if_pos c4
        · rename_i c4
          refine (if_neg c4).trans ?_
          split at h
          · cases h
          · rename_i c5; cases h; exact if_neg c5
end
end Gp

namespace Gp
open PySem PySem.Spec PyProof.Rows L2
section
variable {M : Gm} {N : List Str} {sc : Scope} {fns : Option Scope} {W : WX} {X : Cx} {mu mu' : Mu} {bn bn' : List Addr} {H H' : Hp} {S S' : Store} {ρ : Env} {σ : Sg} {D : Ends}
variable {st : Stmt} {rest body sa sb : List Stmt} {f f1 f2 : Env → Store → Res Flow} {fe fo fi fa fb fc : Env → Store → Res LV} {ft : Env → Store → Res Bool} {fs : Env → Store → Res (List LV)} {e c o i a b tg iter : Expr} {pos : Pos}
theorem locL {x : Str} (g : Good M W N sc fns X) (h : sc.names.lookup x = some .local) : X.env.scope.names.lookup x = some .local := by rw [g.nms.sc]; exact h
/-! ### pairs and threes -/
theorem s_par2 (g : Good M W N sc fns X) (hk : sc.kind = .function) {j l : Nat} {x y : Str} {px py pt : Pos} {kt k2 : Nat} {pt2 : Pos} (hj : N[j]? = some x) (hl : N[l]? = some y) (hjl : j ≠ l) (hx : sc.names.lookup x = some .local) (hy : sc.names.lookup y = some .local)
    (hs : stN sc [.Name x px, .Name y py] [a, b] = some (some [x, y])) (ha : PA X [a, b] (tas M.G W fs)) :
    PS X (.Assign [.Tuple [.Name x px, .Name y py] kt pt] (.Tuple [a, b] k2 pt2) pos) (tes M.G W fun ρ S => (fs ρ S).bind fun ls S => lift ((parT [j, l] ls ρ).map .nx) S) := by
  refine PS.mono (ps_par g.calm (by rw [g.nms.nm]; exact g.nms.nd) (by rw [g.nms.nm]; exact hj) (by rw [g.nms.nm]; exact hl) hjl (locL g hx) (locL g hy) ha (stN_ok g.nms.sc hk hs) rfl) fun D σ H h => ?_
  obtain ⟨mu, bn, ρ, S, A, h⟩ := h.out
  refine A.stepS h fun mu1 bn1 H1 S1 ls vs A1 t1 rx h1 => ?_
  obtain ⟨ρ', e1, h1⟩ := h1.lift
  match ls, rx, e1 with
  | [u, v], rx, e1 =>
    obtain ⟨uv, r, rfl, ru, rx⟩ := rx.uncons
    obtain ⟨vv, r, rfl, rv, rx⟩ := rx.uncons
    rw [rx.unnil]
    have e1 : (ρ.set j (some u)).set l (some v) = ρ' := Option.some.inj e1
    subst e1
    exact ⟨uv, vv, rfl, h1.nx A1.R ((A1.E.set ru).set rv)⟩
  | [], rx, e1 => cases e1
  | [_], rx, e1 => cases e1
  | _ :: _ :: _ :: _, rx, e1 => cases e1
theorem s_par3 (g : Good M W N sc fns X) (hk : sc.kind = .function) {j l m : Nat} {x y z : Str} {px py pz pt : Pos} {kt k2 : Nat} {pt2 : Pos} (hj : N[j]? = some x) (hl : N[l]? = some y) (hm : N[m]? = some z) (hjl : j ≠ l) (hjm : j ≠ m) (hlm : l ≠ m)
    (hx : sc.names.lookup x = some .local) (hy : sc.names.lookup y = some .local) (hz : sc.names.lookup z = some .local)
    (hs : stN sc [.Name x px, .Name y py, .Name z pz] [a, b, c] = some (some [x, y, z])) (ha : PA X [a, b, c] (tas M.G W fs)) :
    PS X (.Assign [.Tuple [.Name x px, .Name y py, .Name z pz] kt pt] (.Tuple [a, b, c] k2 pt2) pos) (tes M.G W fun ρ S => (fs ρ S).bind fun ls S => lift ((parT [j, l, m] ls ρ).map .nx) S) := by
  refine PS.mono (ps_par3 g.calm (by rw [g.nms.nm]; exact g.nms.nd) (by rw [g.nms.nm]; exact hj) (by rw [g.nms.nm]; exact hl) (by rw [g.nms.nm]; exact hm) hjl hjm hlm (locL g hx) (locL g hy) (locL g hz) ha (stN_ok g.nms.sc hk hs) rfl) fun D σ H h => ?_
  obtain ⟨mu, bn, ρ, S, A, h⟩ := h.out
  refine A.stepS h fun mu1 bn1 H1 S1 ls vs A1 t1 rx h1 => ?_
  obtain ⟨ρ', e1, h1⟩ := h1.lift
  match ls, rx, e1 with
  | [u, v, w], rx, e1 =>
    obtain ⟨uv, r, rfl, ru, rx⟩ := rx.uncons
    obtain ⟨vv, r, rfl, rv, rx⟩ := rx.uncons
    obtain ⟨wv, r, rfl, rw', rx⟩ := rx.uncons
    rw [rx.unnil]
    have e1 : ((ρ.set j (some u)).set l (some v)).set m (some w) = ρ' := Option.some.inj e1
    subst e1
    exact ⟨uv, vv, wv, rfl, h1.nx A1.R (((A1.E.set ru).set rv).set rw')⟩
  | [], rx, e1 => cases e1
  | [_], rx, e1 => cases e1
  | [_, _], rx, e1 => cases e1
  | _ :: _ :: _ :: _ :: _, rx, e1 => cases e1
/-! ### o[i] = v -/
theorem pset_all (hu : X.A.units + 200 < cLine) : PSet X (fun o i v H Q => rSetL o i v H Q ∨ ∃ a H', o = .ref a ∧ DPut H a i v H' ∧ Q H') := by
  intro pins s σ H o i v ov iv u Q I ro ri rv h; rcases h with h | ⟨a, H', rfl, d, q⟩
  · exact set_list pins s σ H o i v ov iv u Q I ro ri rv h
  · obtain rfl : ov = Value.ref a := ro
    exact d_setItem (by omega) I d ri rv fun s' I' => ⟨H', I', q⟩
theorem setL_to {x y v : LV} {k : Unit → Store → Res Flow} {W : WX} (h : ToS M.G W D mu bn H ((setL x y v S).bind k)) : ∃ j p, x = .ref j ∧ v = .pv p ∧
    ((∃ l n q, S[j]? = some (.lst l) ∧ y = .pv (.int q) ∧ at_ l.length q = some n ∧ ToS M.G W D mu bn H (k () (S.set j (.lst (l.set n p))))) ∨
     (∃ ks vs q, S[j]? = some (.dict ks vs) ∧ y = .pv q ∧ PV.keyOk q = true ∧ ks.length < big ∧ ToS M.G W D mu bn H (k () (S.set j (.dict (put ks vs q p).1 (put ks vs q p).2)))) ∨
     (∃ ks vs q, S[j]? = some (.dicT ks vs) ∧ y = .ht q ∧ ks.length < big ∧ ToS M.G W D mu bn H (k () (S.set j (.dicT (put ks vs (.tup q) p).1 (put ks vs (.tup q) p).2))))) := by
  unfold setL at h
  split at h
  · rename_i j p
    refine ⟨j, p, rfl, rfl, ?_⟩
    split at h
    · rename_i l e
      split at h
      · rename_i q
        split at h
        · rename_i n e2; exact .inl ⟨l, n, q, e, rfl, e2, h⟩
        · exact h.elim
      · exact h.elim
    · rename_i ks vs e
      split at h
      · rename_i q
        by_cases hc : (PV.keyOk q && decide (ks.length < big)) = true
        · rw [if_pos hc] at h
          rw [Bool.and_eq_true, decide_eq_true_eq] at hc; exact .inr (.inl ⟨ks, vs, q, e, rfl, hc.1, hc.2, h⟩)
        · rw [if_neg hc] at h; exact h.elim
      · exact h.elim
    · rename_i ks vs e
      split at h
      · rename_i q
        by_cases hc : decide (ks.length < big) = true
        · rw [if_pos hc] at h
          rw [decide_eq_true_eq] at hc
          exact .inr (.inr ⟨ks, vs, q, e, rfl, hc, h⟩)
        · rw [if_neg hc] at h; exact h.elim
      · exact h.elim
    · exact h.elim
  · exact h.elim
theorem set_rep {K : PySem.W.Frag} {bn : List Addr} {H : Hp} {p : PV} {v : V} (rp : RepP K bn H p v) : ∀ {xs : List PV} {vs : List V} (n : Nat), RepPs K bn H xs vs → RepPs K bn H (xs.set n p) (vs.set n v)
  | [], vs, n, h => by unfold RepPs at h; subst h; simp; exact repPs_nil
  | x :: xs, vs, 0, h => by
    unfold RepPs at h
    obtain ⟨w, r, rfl, _, h2⟩ := h
    exact repPs_cons rp h2
  | x :: xs, vs, n + 1, h => by
    unfold RepPs at h
    obtain ⟨w, r, rfl, h1, h2⟩ := h
    exact repPs_cons h1 (set_rep rp n h2)
theorem s_sub (g : Good M W N sc fns X) {tpos : Pos} (hp : plainIx i = true) (ho : PE X o (tev M.G W fo)) (hi : PE X i (tev M.G W fi)) (he : PE X e (tev M.G W fe)) :
    PS X (.Assign [.Subscript o i tpos] e pos) (tes M.G W fun ρ S => (fe ρ S).bind fun v S => (fo ρ S).bind fun o S => (fi ρ S).bind fun i S => (setL o i v S).bind fun _ S => .ok (.nx ρ) S) := by
  refine PS.mono (ps_asg he (pg_sub ho hi (pset_all g.hu) (fun v => by cases i <;> first | rfl | cases hp)) (sw_other (t := .Subscript o i tpos) rfl e pos.line X.env) rfl rfl) fun D σ H h => ?_
  obtain ⟨mu, bn, ρ, S, A, h⟩ := h.out
  refine A.stepS h fun mu1 bn1 H1 S1 v u A1 t1 rv h1 => ?_
  refine (A1.hold rv).stepS h1 fun mu2 bn2 H2 S2 x xu A2 t2 rx h2 => ?_
  refine (A2.hold rx).stepS h2 fun mu3 bn3 H3 S3 y yu A3 t3 ry h3 => ?_
  obtain ⟨rx, A4⟩ := A3.hd
  obtain ⟨rv, A5⟩ := A4.hd
  obtain ⟨j, p, ex, ev, h5⟩ := setL_to h3
  subst ex ev
  clear h3
  rcases h5 with ⟨l, n, q, e1, rfl, e2, h3⟩ | ⟨ks, vs, q, e1, rfl, hq, hl, h3⟩ | ⟨ks, vs, q, e1, rfl, hl, h3⟩
  · obtain ⟨ad, zs, rfl, hm, hz, rz⟩ := ref_lst A5.R rx e1
    refine .inl ⟨ad, zs, q, n, rfl, rep_int ry.toP.v, hz, by rw [← rz.length]; exact (at_ix e2).1, ?_⟩
    have w := A5.R.write hm e1 (set_rep rv.toP n rz)
    exact (h3.mono w.1).nx w.2 (A5.E.mono w.1 (w.1.kp A5.R))
  · obtain ⟨ad, hm, kvs, hz, hks, rz⟩ := repS_get A5.R e1 (by simp)
    have ex := rx.toRef.2 ad hm
    obtain ⟨key, hkey⟩ := key_ok hq
    have ey := key_v ry.toP.v hkey
    refine .inr ⟨ad, _, ex, ey ▸ DPut.k hz (Nat.lt_of_lt_of_le (by rw [← hks.length]; exact hl) big_line), ?_⟩
    have pr := put_rel hkey rv.toP hks rz
    have w := A5.R.writeO hm e1 (by rw [hz]; simp) (so' := .dict (put ks vs q p).1 (put ks vs q p).2) (o := .dK (putK kvs key u)) fun kp => ⟨_, upd_same, pr.1, pr.2.mono kp⟩
    exact (h3.mono w.1).nx w.2 (A5.E.mono w.1 (w.1.kp A5.R))
  · obtain ⟨ad, hm, kvs, hz, hks, rz⟩ := repS_get A5.R e1 (by simp)
    have ex := rx.toRef.2 ad hm
    unfold RepL at ry
    obtain ⟨b, key, ey, hb, hbn, hkey, ru⟩ := ry
    refine .inr ⟨ad, _, ex, ey ▸ DPut.t hz hb (Nat.lt_of_lt_of_le (by rw [← hks.length]; exact hl) big_line), ?_⟩
    have pr := put_relG toKeyT_eq (k := .tup q) hkey rv.toP hks rz
    have w := A5.R.writeO hm e1 (by rw [hz]; simp) (so' := .dicT (put ks vs (.tup q) p).1 (put ks vs (.tup q) p).2) (o := .dT (putK kvs key u)) fun kp => ⟨_, upd_same, pr.1, pr.2.mono kp⟩
    exact (h3.mono w.1).nx w.2 (A5.E.mono w.1 (w.1.kp A5.R))
/-! ### name op= e, ints -/
end
end Gp
namespace L2
open PySem PySem.Spec PyProof.Rows
theorem ip_mulC {X : Cx} : PIp X .Mult (fun x y H Q => ∃ i j, x = .int i ∧ y = .int j ∧ CMul i j ∧ Q (.int (i * j)) H) := by
  intro pins s σ H x y v u Q I r1 r2 h; obtain ⟨i, j, e1, e2, c, q⟩ := h
  subst e1 e2
  obtain ⟨t, rfl⟩ := r1
  obtain ⟨t', rfl⟩ := r2
  exact imul_int ⟨.int _, H, I.tok _, ⟨_, rfl⟩, q⟩ c.ok
end L2
namespace Gp
open PySem PySem.Spec PyProof.Rows L2
section
variable {M : Gm} {N : List Str} {sc : Scope} {fns : Option Scope} {W : WX} {X : Cx} {mu mu' : Mu} {bn bn' : List Addr} {H H' : Hp} {S S' : Store} {ρ : Env} {σ : Sg} {D : Ends}
def augOp : Operator → Bop → Bool
  | .Add, .add => true
  | .Sub, .sub => true
  | .Mult, .mul => true
  | _, _ => false
theorem getV_to {α : Type} {W : WX} {j : Nat} {k : LV → Store → Res Flow} (h : ToS M.G W D mu bn H ((getV ρ j S).bind k)) : ∃ l, ρ[j]? = some (some l) ∧ ToS M.G W D mu bn H (k l S) := by
  unfold getV at h
  split at h
  · exact ⟨_, by assumption, h⟩
  · exact h.elim
theorem ToS.rdB {W : WX} {l : LV} {k : PV → Res Flow} (h : ToS M.G W D mu bn H (Gp.rdB l S k)) : ∃ p, rd S l = some p ∧ ToS M.G W D mu bn H (k p) := by
  unfold Gp.rdB at h
  cases e : rd S l with
  | some p => rw [e] at h; exact ⟨p, rfl, h⟩
  | none => rw [e] at h; exact h.elim
theorem s_aug (g : Good M W N sc fns X) {j : Nat} {x : Str} {px : Pos} {op : Operator} {bo : Bop} (hop : augOp op bo = true) (hj : N[j]? = some x) (hl : locB sc fns x = true) (he : PE X e (tev M.G W fe)) :
    PS X (.AugAssign (.Name x px) op e pos) (tes M.G W fun ρ S => (getV ρ j S).bind fun x S => (fe ρ S).bind fun y S => rdB x S fun x => rdB y S fun y => match binop bo x y, x with
    | some r, .int _ => .ok (.nx (ρ.set j (some (.pv r)))) S
    | _, _ => .bad) := by
  obtain ⟨l1, l2⟩ := loc_ok g.nms hl
  have key : ∀ {D : Ends} {mu : Mu} {bn : List Addr} {H : Hp} {S : Store} {ρ : Env} {x y : LV} {u v : V} {σ : Sg} (A : At M.G mu bn H ρ σ S [x] [u]) (ry : RepL M.G.K mu bn H y v) (h : ToS M.G W D mu bn H (rdB x S fun x => rdB y S fun y => match binop bo x y, x with
    | some r, .int _ => .ok (.nx (ρ.set j (some (.pv r)))) S
    | _, _ => .bad)), ∃ i k, u = .int i ∧ v = .int k ∧ ∀ z, binop bo (.int i) (.int k) = some (.int z) → D.nx (σ.set j (some (.int z))) H := by
    intro D mu bn H S ρ x y u v σ A ry h
    obtain ⟨p, e1, h⟩ := h.rdB
    obtain ⟨q, e2, h⟩ := h.rdB
    obtain ⟨rx, A'⟩ := A.hd
    have fin : ∀ i k, p = .int i → q = .int k → ∃ i k, u = .int i ∧ v = .int k ∧ ∀ z, binop bo (.int i) (.int k) = some (.int z) → D.nx (σ.set j (some (.int z))) H := by
      intro i k ep eq
      subst ep eq
      refine ⟨i, k, rep_int (rd_rep A'.R rx e1), rep_int (rd_rep A'.R ry e2), fun z hz => ?_⟩
      rw [hz] at h
      exact ToS.nx h A'.R (A'.E.set (.pv repP_int))
    cases hz : binop bo p q with
    | none => rw [hz] at h; exact h.elim
    | some r =>
      cases p with
      | int i =>
        cases q with
        | int k => exact fin i k rfl rfl
        | _ => cases op <;> cases bo <;> first | exact absurd hop (by decide) | cases hz
      | _ => rw [hz] at h; exact h.elim
  cases op <;> cases bo <;> first | (exfalso; exact absurd hop (by decide)) | skip
  · refine PS.mono (ps_aug (by rw [g.nms.nm]; exact g.nms.nd) (by rw [g.nms.nm]; exact hj) l1 he ip_add l2) fun D σ H h => ?_
    obtain ⟨mu, bn, ρ, S, A, h⟩ := h.out
    obtain ⟨l, el, h⟩ := getV_to (α := Unit) h
    obtain ⟨u, eu, ru⟩ := A.E.get j l el
    refine ⟨u, eu, (A.hold ru).stepS h fun mu1 bn1 H1 S1 y v A1 t1 ry h1 => ?_⟩
    obtain ⟨i, k, rfl, rfl, q⟩ := key A1 ry h1
    exact ⟨i, k, rfl, rfl, q _ rfl⟩
  · refine PS.mono (ps_aug (by rw [g.nms.nm]; exact g.nms.nd) (by rw [g.nms.nm]; exact hj) l1 he ip_sub l2) fun D σ H h => ?_
    obtain ⟨mu, bn, ρ, S, A, h⟩ := h.out
    obtain ⟨l, el, h⟩ := getV_to (α := Unit) h
    obtain ⟨u, eu, ru⟩ := A.E.get j l el
    refine ⟨u, eu, (A.hold ru).stepS h fun mu1 bn1 H1 S1 y v A1 t1 ry h1 => ?_⟩
    obtain ⟨i, k, rfl, rfl, q⟩ := key A1 ry h1
    exact ⟨i, k, rfl, rfl, q _ rfl⟩
  · refine PS.mono (ps_aug (by rw [g.nms.nm]; exact g.nms.nd) (by rw [g.nms.nm]; exact hj) l1 he ip_mulC l2) fun D σ H h => ?_
    obtain ⟨mu, bn, ρ, S, A, h⟩ := h.out
    obtain ⟨l, el, h⟩ := getV_to (α := Unit) h
    obtain ⟨u, eu, ru⟩ := A.E.get j l el
    refine ⟨u, eu, (A.hold ru).stepS h fun mu1 bn1 H1 S1 y v A1 t1 ry h1 => ?_⟩
    have hb : ∃ i k, u = .int i ∧ v = .int k ∧ mulOk i k = true := by
      obtain ⟨p, e1, h⟩ := h1.rdB
      obtain ⟨q, e2, h⟩ := h.rdB
      obtain ⟨rx, A'⟩ := A1.hd
      cases p with
      | int i =>
        cases q with
        | int k =>
          refine ⟨i, k, rep_int (rd_rep A'.R rx e1), rep_int (rd_rep A'.R ry e2), ?_⟩
          cases hm : mulOk i k with
          | true => rfl
          | false => simp only [binop, hm] at h; exact h.elim
        | _ => exact h.elim
      | tup xs => cases hz : binop .mul (.tup xs) q with
        | none => rw [hz] at h; exact h.elim
        | some r => rw [hz] at h; exact h.elim
      | lst xs => cases hz : binop .mul (.lst xs) q with
        | none => rw [hz] at h; exact h.elim
        | some r => rw [hz] at h; exact h.elim
      | _ => exact h.elim
    obtain ⟨i, k, q⟩ := key A1 ry h1
    obtain ⟨i', k', rfl, rfl, hm⟩ := hb
    obtain ⟨e1, e2, q⟩ := q
    cases e1; cases e2
    refine ⟨i, k, rfl, rfl, ?_, q _ (by simp only [binop, hm, if_true])⟩
    unfold mulOk at hm
    simp only [Bool.or_eq_true, Bool.and_eq_true, decide_eq_true_eq] at hm
    exact hm
end
end Gp

namespace Gp
open PySem PySem.Spec PyProof.Rows L2
section
variable {M : Gm} {N : List Str} {sc : Scope} {fns : Option Scope} {W : WX} {X : Cx} {mu mu' : Mu} {bn bn' : List Addr} {H H' : Hp} {S S' : Store} {ρ : Env} {σ : Sg} {D : Ends}
variable {st : Stmt} {rest body sts : List Stmt} {f fb : Env → Store → Res Flow} {ft : Env → Store → Res Bool} {fi : Env → Store → Res (List LV)} {c tg iter : Expr} {pos : Pos}
theorem Kp.refl : Kp bn H bn H := ⟨fun _ _ e _ => e, fun _ h => .inl h⟩
theorem Lw.refl : Lw mu mu := ⟨Nat.le_refl _, fun _ _ _ e => e⟩
abbrev bodyF (t : Tg) (fb : Env → Store → Res Flow) : LV → Env → Store → Res Flow := fun l ρ S => match bindT t l ρ with
  | some ρ => fb ρ S
  | none => .bad
/-- what the end of a loop's turn asks -/
theorem turn_end {W : WX} {r : Res Flow} {k : Env → Store → Res Flow} {Nx : Sg → Hp → Prop} (R : RepS M.G.K mu bn H S) (h : ToS M.G W D mu bn H (r.bind fun fl S => match fl with
    | .nx ρ => k ρ S
    | .ct ρ => k ρ S
    | .bk ρ => .ok (.nx ρ) S
    | .rt l => .ok (.rt l) S)) (hN : ∀ mu' bn' H' ρ' σ' S', Tr mu bn H mu' bn' H' → RepS M.G.K mu' bn' H' S' → RepE M.G.K mu' bn' H' ρ' σ' → ToS M.G W D mu' bn' H' (k ρ' S') → Nx σ' H') :
    ToS M.G W { D with nx := Nx, ct := Nx, bk := D.nx } mu bn H r := by
  cases r with
  | bad => exact h
  | exc e S1 => exact h
  | ok fl S1 =>
    cases fl with
    | nx ρ1 =>
      have h : ToS M.G W D mu bn H (k ρ1 S1) := h
      exact fun mu' bn' H' σ' t R' E' => hN mu' bn' H' ρ1 σ' S1 t R' E' (h.mono t)
    | ct ρ1 =>
      have h : ToS M.G W D mu bn H (k ρ1 S1) := h
      exact fun mu' bn' H' σ' t R' E' => hN mu' bn' H' ρ1 σ' S1 t R' E' (h.mono t)
    | bk ρ1 => exact h
    | rt l => exact h
theorem s_for (g : Good M W N sc fns X) {t : Tg} (hi : PI X tg iter (tiv M.G W fi)) (ht : ckT N sc fns t tg = true) (hb : PSs X body (tes M.G W fb)) (hs : notSet iter = true) :
    PS X (.For tg iter body [] pos) (tes M.G W fun ρ S => (fi ρ S).bind fun ls S => forL (bodyF t fb) ls ρ S) := by
  refine PS.mono (ps_for g.po g.calm hi (pg_blk g ht) hb (fold_plain hs X.env)) fun D σ H h => ?_
  obtain ⟨mu, bn, ρ, S, A, h⟩ := h.out
  refine A.stepS h fun mu1 bn1 H1 S1 ls J A1 t1 rJ h1 => ?_
  refine ⟨fun i m σ H => m = ls.length - i ∧ i ≤ ls.length ∧ ∃ mu bn ρ S, RepE M.G.K mu bn H ρ σ ∧ RepS M.G.K mu bn H S ∧ Lw mu1 mu ∧ Kp bn1 H1 bn H ∧ ToS M.G W D mu bn H (forL (bodyF t fb) (ls.drop i) ρ S),
    ⟨ls.length, rfl, Nat.zero_le _, mu1, bn1, ρ, S1, A1.E, A1.R, Lw.refl, Kp.refl, h1⟩, ?_⟩
  rintro i m σ2 H2 ⟨rfl, hi', mu2, bn2, ρ2, S2, E2, R2, l2, k2, h2⟩
  have J2 := rJ mu2 bn2 H2 S2 l2 k2 R2 i
  by_cases hlt : i < ls.length
  rotate_left 1
  · refine .inl ⟨J2.2 (by omega), ?_⟩
    rw [List.drop_eq_nil_of_le (by omega)] at h2
    exact ToS.nx h2 R2 E2
  obtain ⟨l, el⟩ : ∃ l, ls[i]? = some l := ⟨ls[i], by simp [hlt]⟩
  obtain ⟨go, yl⟩ := J2.1 l el
  rw [drop_get el] at h2
  have h2 : ToS M.G W D mu2 bn2 H2 ((bodyF t fb l ρ2 S2).bind fun fl S => match fl with
    | .nx ρ => forL (bodyF t fb) (ls.drop (i + 1)) ρ S
    | .ct ρ => forL (bodyF t fb) (ls.drop (i + 1)) ρ S
    | .bk ρ => .ok (.nx ρ) S
    | .rt l => .ok (.rt l) S) := h2
  refine .inr ⟨go, fun σ' H' => ∃ mu bn ρ S, RepE M.G.K mu bn H' ρ σ' ∧ RepS M.G.K mu bn H' S ∧ Lw mu1 mu ∧ Kp bn1 H1 bn H' ∧ ToS M.G W D mu bn H' (forL (bodyF t fb) (ls.drop (i + 1)) ρ S), fun σ' H' ⟨mu', bn', ρ', S', E', R', l', k', h'⟩ => ?_, fun x H' yy => ?_⟩
  · exact ⟨ls.length - (i + 1), by omega, rfl, hlt, mu', bn', ρ', S', E', R', l', k', h'⟩
  · obtain ⟨ty, Ry, rl⟩ := yl x H' yy
    have h3 := h2.mono ty
    have ky := ty.kp R2
    have E3 := E2.mono ty ky
    unfold bodyF at h3
    cases eb : bindT t l ρ2 with
    | none => rw [eb] at h3; exact h3.elim
    | some ρ3 =>
      rw [eb] at h3
      refine tg_ok t l x ρ2 ρ3 σ2 _ E3 rl eb fun σ3 E4 _ => ?_
      refine ⟨mu2, bn2, ρ3, S2, E4, Ry, turn_end Ry h3 fun mu' bn' H' ρ' σ' S' t R' E' h' => ?_⟩
      exact ⟨mu', bn', ρ', S', E', R', l2.trans t.lw, (k2.trans ky).trans (t.kp Ry), h'⟩
theorem s_whl (g : Good M W N sc fns X) {wf : Nat} (hc : PT X c (tet M.G W ft)) (hb : PSs X body (tes M.G W fb)) :
    PS X (.While c body [] pos) (tes M.G W fun ρ S => whileL ft fb wf ρ S) := by
  refine PS.mono (ps_while g.po hc hb) fun D σ H h => ?_
  obtain ⟨mu, bn, ρ, S, A, h⟩ := h.out
  refine ⟨fun m σ H => ∃ mu bn ρ S, RepE M.G.K mu bn H ρ σ ∧ RepS M.G.K mu bn H S ∧ ToS M.G W D mu bn H (whileL ft fb m ρ S), ⟨wf, mu, bn, ρ, S, A.E, A.R, h⟩, ?_⟩
  rintro m σ2 H2 ⟨mu2, bn2, ρ2, S2, E2, R2, h2⟩
  cases m with
  | zero => exact h2.elim
  | succ n =>
    have A2 : At M.G mu2 bn2 H2 ρ2 σ2 S2 [] [] := at_nil E2 R2
    have h2 : ToS M.G W D mu2 bn2 H2 ((ft ρ2 S2).bind fun t S => match t with
      | false => .ok (.nx ρ2) S
      | true => (fb ρ2 S).bind fun fl S => match fl with
        | .nx ρ => whileL ft fb n ρ S
        | .ct ρ => whileL ft fb n ρ S
        | .bk ρ => .ok (.nx ρ) S
        | .rt l => .ok (.rt l) S) := h2
    refine A2.stepS (f := ft) h2 fun mu3 bn3 H3 S3 b b' A3 t3 rb h3 => ?_
    have rb : b = b' := rb
    subst rb
    cases b with
    | false => exact ToS.nx h3 A3.R A3.E
    | true =>
      refine ⟨fun σ' H' => ∃ mu bn ρ S, RepE M.G.K mu bn H' ρ σ' ∧ RepS M.G.K mu bn H' S ∧ ToS M.G W D mu bn H' (whileL ft fb n ρ S), fun σ' H' ⟨mu', bn', ρ', S', E', R', h'⟩ => ⟨n, Nat.lt_succ_self _, mu', bn', ρ', S', E', R', h'⟩, ?_⟩
      refine ⟨mu3, bn3, ρ2, S3, A3.E, A3.R, turn_end A3.R h3 fun mu' bn' H' ρ' σ' S' t R' E' h' => ⟨mu', bn', ρ', S', E', R', h'⟩⟩
/-! ### a list of the store is inline from now on -/
theorem RepS.freeze {k : Nat} {a : Addr} {so : SO} (R : RepS M.G.K mu bn H S) (hm : mu[k]? = some (some a)) (hk : S[k]? = some so) :
    Tr mu bn H (mu.set k none) (bn.filter (· != a)) H ∧ Kp bn H (bn.filter (· != a)) H ∧ RepS M.G.K (mu.set k none) (bn.filter (· != a)) H (S.set k .dead) := by
  have sub : ∀ (j : Nat) (b : Addr), (mu.set k none)[j]? = some (some b) → j ≠ k ∧ mu[j]? = some (some b) := fun j b e => by
    by_cases hj : k = j
    · subst hj
      rw [List.getElem?_set_self (by exact (List.getElem?_eq_some_iff.mp hm).1)] at e
      cases e
    · rw [List.getElem?_set_ne hj] at e
      exact ⟨Ne.symm hj, e⟩
  have kp : Kp bn H (bn.filter (· != a)) H := ⟨fun b u e _ => e, fun b h => .inl (List.mem_filter.mp h).1⟩
  refine ⟨⟨by rw [List.length_set]; exact Nat.le_refl _, fun j b _ e => (sub j b e).2, fun j b h e => (no_past h (sub j b e).2).elim, fun _ _ e _ => e, fun _ h => h, kp.news, fun b hb _ hn => List.mem_filter.mpr ⟨hb, by simpa using fun z => hn k (by rw [z]; exact hm)⟩⟩, kp, ?_⟩
  refine ⟨by rw [List.length_set, List.length_set]; exact R.len, fun j b e => ?_, fun i j b e1 e2 => R.inj i j b (sub i b e1).2 (sub j b e2).2, fun b hb => R.tk b (List.mem_filter.mp hb).1, fun j o e => ?_⟩
  · obtain ⟨hj, e1⟩ := sub j b e
    refine List.mem_filter.mpr ⟨R.sub j b e1, ?_⟩
    simpa using fun z => hj (R.inj j k a (by rw [← z]; exact e1) hm)
  · by_cases hj : k = j
    · subst hj
      rw [List.getElem?_set_self (List.getElem?_eq_some_iff.mp hk).1] at e
      cases e
      exact .inr ⟨rfl, by rw [List.getElem?_set_self (List.getElem?_eq_some_iff.mp hm).1]⟩
    · rw [List.getElem?_set_ne hj] at e
      rcases R.obj j o e with ⟨b, e1, h⟩ | ⟨h, e1⟩
      · exact .inl ⟨b, by rw [List.getElem?_set_ne hj]; exact e1, h.mono kp rfl⟩
      · exact .inr ⟨h, by rw [List.getElem?_set_ne hj]; exact e1⟩
abbrev frzF (i : Nat) : Env → Store → Res Flow := fun ρ S => match ρ[i]? with
    | some (some (.ref k)) => match S[k]? with
      | some (.lst xs) => .ok (.nx (ρ.set i (some (.pv (.lst xs))))) (S.set k .dead)
      | some (.dict ks vs) => .ok (.nx (ρ.set i (some (.pv (.dict ks vs))))) (S.set k .dead)
      | _ => .bad
    | _ => .bad
theorem set_self {α : Type} {xs : List α} {i : Nat} {x : α} (h : xs[i]? = some x) : xs.set i x = xs := by
  apply List.ext_getElem?
  intro j
  by_cases hj : i = j
  · subst hj; rw [List.getElem?_set_self (List.getElem?_eq_some_iff.mp h).1]; exact h.symm
  · rw [List.getElem?_set_ne hj]
theorem s_frz {i : Nat} (hb : PSs X sts (tes M.G W fb)) : PSs X sts (tes M.G W fun ρ S => (frzF i ρ S).bind fun f S => match f with | .nx ρ => fb ρ S | f => .ok f S) := PSs.mono hb fun D σ H h => by
  obtain ⟨mu, bn, ρ, S, A, h⟩ := h.out
  unfold frzF at h
  cases e : ρ[i]? with
  | none => rw [e] at h; exact h.elim
  | some o =>
    cases o with
    | none => rw [e] at h; exact h.elim
    | some l =>
      obtain ⟨v, ev, rv⟩ := A.E.get i l e
      cases l with
      | pv p => rw [e] at h; exact h.elim
      | ls xs => rw [e] at h; exact h.elim
      | dT _ _ => rw [e] at h; exact h.elim
      | ht _ => rw [e] at h; exact h.elim
      | ref k =>
        cases ek : S[k]? with
        | none => simp only [e, ek] at h; exact h.elim
        | some so =>
          have fin : ∀ p, so ≠ .dead → ToS M.G W D mu bn H (fb (ρ.set i (some (.pv p))) (S.set k .dead)) → (∀ a bn', H a ≠ none → a ∉ bn' → Kp bn H bn' H → RepO M.G.K bn H a so → RepP M.G.K bn' H p (.ref a)) → tes M.G W fb D σ H := by
            intro p nd h hp
            obtain ⟨a, hm, ro⟩ := repS_get A.R ek nd
            obtain ⟨t, kp, R'⟩ := A.R.freeze hm ek
            have ex := rv.toRef.2 a hm
            subst ex
            have nin : a ∉ bn.filter (· != a) := fun z => by simpa using (List.mem_filter.mp z).2
            have E' := A.E.mono t kp
            have E2 := E'.set (i := i) (.pv (hp a _ (A.R.tk a (A.R.sub k a hm)) nin kp ro))
            rw [set_self ev] at E2
            exact ⟨_, _, _, _, E2, R', h.mono t⟩
          cases so with
          | lst xs =>
            simp only [e, ek] at h
            refine fin (.lst xs) (by simp) h fun a bn' _ hn kp ⟨vs, e1, r1⟩ => repP_lst e1 hn (r1.mono kp)
          | dict ks vs =>
            simp only [e, ek] at h
            refine fin (.dict ks vs) (by simp) h fun a bn' _ hn kp ⟨kvs, e1, hk, r1⟩ => ?_
            unfold RepP
            exact ⟨a, kvs, rfl, e1, hn, hk, r1.mono kp⟩
          | dicT _ _ => simp only [e, ek] at h; exact h.elim
          | ins _ _ => simp only [e, ek] at h; exact h.elim
          | dead => simp only [e, ek] at h; exact h.elim
end
end Gp

namespace Gp
open PySem PySem.Spec PyProof.Rows L2
section
variable {G : Wd} {W : WX} {mu mu' : Mu} {bn bn' : List Addr} {H H' : Hp} {S S' : Store} {ρ : Env} {σ : Sg} {D : Ends}
theorem trunc {n0 : Nat} (t : Tr mu bn H mu' bn' H') (R : RepS G.K mu' bn' H' S') (hl : mu.length = n0) :
    ∃ b2, Tr mu bn H (mu'.take n0) b2 H' ∧ RepS G.K (mu'.take n0) b2 H' (S'.take n0) ∧ Kp bn' H' b2 H' ∧ Lw (mu'.take n0) (mu'.take n0) ∧ ∀ (k : Nat) (a : Addr), n0 ≤ k → mu'[k]? = some (some a) → a ∉ b2 := by
  subst hl
  have hle := t.le
  have mem : ∀ b, b ∈ (mu'.drop mu.length).filterMap id ↔ ∃ k : Nat, mu.length ≤ k ∧ mu'[k]? = some (some b) := fun b => by
    rw [List.mem_filterMap]
    constructor
    · rintro ⟨o, ho, e⟩
      have e : o = some b := e
      subst e
      obtain ⟨i, hi⟩ := List.mem_iff_getElem?.mp ho
      rw [List.getElem?_drop] at hi
      exact ⟨_, Nat.le_add_right _ _, hi⟩
    · rintro ⟨k, hk, e⟩
      refine ⟨some b, List.mem_iff_getElem?.mpr ⟨k - mu.length, ?_⟩, rfl⟩
      rw [List.getElem?_drop, Nat.add_sub_cancel' hk]; exact e
  have tk : ∀ (k : Nat) (o : Option Addr), (mu'.take mu.length)[k]? = some o → k < mu.length ∧ mu'[k]? = some o := fun k o e => by
    rw [List.getElem?_take] at e
    split at e
    · exact ⟨by assumption, e⟩
    · cases e
  have kp : Kp bn' H' (bn'.filter fun b => !((mu'.drop mu.length).filterMap id).contains b) H' := ⟨fun b u e _ => e, fun b h => .inl (List.mem_filter.mp h).1⟩
  refine ⟨bn'.filter fun b => !((mu'.drop mu.length).filterMap id).contains b, ⟨?_, fun k a hk e => t.sub k a hk (tk k _ e).2, fun k a hk e => ?_, t.keep, t.there, fun b hb => t.news b (List.mem_filter.mp hb).1, fun b hb h0 hn => ?_⟩, ⟨?_, fun k a e => ?_, fun j k a e1 e2 => R.inj j k a (tk j _ e1).2 (tk k _ e2).2, fun b hb => R.tk b (List.mem_filter.mp hb).1, fun k o e => ?_⟩, kp, Lw.refl, fun k a hk e hb => ?_⟩
  · rw [List.length_take]; omega
  · have := (tk k _ e).1; omega
  · refine List.mem_filter.mpr ⟨t.hold b hb h0 hn, ?_⟩
    have : b ∉ (mu'.drop mu.length).filterMap id := fun z => by
      obtain ⟨k, hk, e⟩ := (mem b).mp z
      exact h0 (t.fresh k b hk e)
    simpa using this
  · rw [List.length_take, List.length_take, R.len]
  · obtain ⟨h1, h2⟩ := tk k _ e
    refine List.mem_filter.mpr ⟨R.sub k a h2, ?_⟩
    have : a ∉ (mu'.drop mu.length).filterMap id := fun z => by
      obtain ⟨j, hj, e'⟩ := (mem a).mp z
      have := R.inj k j a h2 e'
      omega
    simpa using this
  · rw [List.getElem?_take] at e
    split at e
    · rename_i hk
      rcases R.obj k o e with ⟨a, e1, h⟩ | ⟨h, e1⟩
      · exact .inl ⟨a, by rw [List.getElem?_take, if_pos hk]; exact e1, h.mono kp rfl⟩
      · exact .inr ⟨h, by rw [List.getElem?_take, if_pos hk]; exact e1⟩
    · cases e
  · have : a ∈ (mu'.drop mu.length).filterMap id := (mem a).mpr ⟨k, hk, e⟩
    have q := (List.mem_filter.mp hb).2
    simp only [Bool.not_eq_true', List.contains_eq_mem, decide_eq_false_iff_not] at q
    exact q this
mutual
theorem frz_rep {n0 : Nat} {b2 : List Addr} (R : RepS G.K mu' bn' H' S') (kp : Kp bn' H' b2 H') (hle : n0 ≤ mu'.length) (nin : ∀ (k : Nat) (a : Addr), n0 ≤ k → mu'[k]? = some (some a) → a ∉ b2) : ∀ (l l2 : LV) (v : V), frzV n0 S' l = some l2 → RepL G.K mu' bn' H' l v → RepL G.K (mu'.take n0) b2 H' l2 v
  | .pv p, l2, v, e, r => by
    unfold frzV at e
    have e : LV.pv p = l2 := Option.some.inj e
    subst e
    exact .pv (r.toP.mono kp)
  | .ref k, l2, v, e, r => by
    unfold frzV at e
    by_cases hk : k < n0
    · rw [if_pos hk] at e
      have e : LV.ref k = l2 := Option.some.inj e
      subst e
      unfold RepL
      refine ⟨by rw [List.length_take]; omega, fun a q => ?_⟩
      rw [List.getElem?_take, if_pos hk] at q
      exact r.toRef.2 a q
    · rw [if_neg hk] at e
      cases ek : S'[k]? with
      | none => rw [ek] at e; cases e
      | some so =>
        cases so with
        | lst xs =>
          rw [ek] at e
          have e : LV.pv (.lst xs) = l2 := Option.some.inj e
          subst e
          obtain ⟨a, e1, vs, q, rp⟩ := repS_get R ek (by simp)
          have ev := r.toRef.2 a e1
          subst ev
          exact .pv (repP_lst q (nin k a (by omega) e1) (rp.mono kp))
        | dict ks ws =>
          rw [ek] at e
          have e : LV.pv (.dict ks ws) = l2 := Option.some.inj e
          subst e
          obtain ⟨a, e1, kvs, q, hk', rp⟩ := repS_get R ek (by simp)
          have ev := r.toRef.2 a e1
          subst ev
          refine .pv ?_
          unfold RepP
          exact ⟨a, kvs, rfl, q, nin k a (by omega) e1, hk', rp.mono kp⟩
        | dicT ks ws =>
          rw [ek] at e
          have e : LV.dT ks ws = l2 := Option.some.inj e
          subst e
          obtain ⟨a, e1, kvs, q, hk', rp⟩ := repS_get R ek (by simp)
          have ev := r.toRef.2 a e1
          subst ev
          unfold RepL
          exact ⟨a, kvs, rfl, q, nin k a (by omega) e1, hk', rp.mono kp⟩
        | ins _ _ => rw [ek] at e; cases e
        | dead => rw [ek] at e; cases e
  | .dT ks ws, l2, v, e, r => by
    unfold frzV at e
    cases e
    unfold RepL at r ⊢
    obtain ⟨a, kvs, e, ha, hb, hk, hu⟩ := r
    exact ⟨a, kvs, e, ha, kp.out ha hb, hk, hu.mono kp⟩
  | .ht ys, l2, v, e, r => by
    unfold frzV at e
    cases e
    unfold RepL at r ⊢
    obtain ⟨a, kvs, e, ha, hb, hk, hu⟩ := r
    exact ⟨a, kvs, e, ha, kp.out ha hb, hk, hu.mono kp⟩
  | .ls xs, l2, v, e, r => by
    unfold frzV at e
    cases ez : frzVs n0 S' xs with
    | none => rw [ez] at e; cases e
    | some ys =>
      rw [ez] at e
      unfold RepL at r
      obtain ⟨a, vs, rfl, ha, rp⟩ := r
      have rq := frz_reps R kp hle nin xs ys vs ez rp
      have e : (match pvs ys with | some ps => LV.pv (.lst ps) | none => .ls ys) = l2 := Option.some.inj e
      cases ep : pvs ys with
      | none =>
        rw [ep] at e
        subst e
        unfold RepL
        exact ⟨a, vs, rfl, ⟨ha.1, kp.out ha.1 ha.2⟩, rq⟩
      | some ps =>
        rw [ep] at e
        subst e
        exact .pv (repP_lst ha.1 (kp.out ha.1 ha.2) (pvs_rep ep rq))
theorem frz_reps {n0 : Nat} {b2 : List Addr} (R : RepS G.K mu' bn' H' S') (kp : Kp bn' H' b2 H') (hle : n0 ≤ mu'.length) (nin : ∀ (k : Nat) (a : Addr), n0 ≤ k → mu'[k]? = some (some a) → a ∉ b2) : ∀ (ls l2 : List LV) (vs : List V), frzVs n0 S' ls = some l2 → RepLs G.K mu' bn' H' ls vs → RepLs G.K (mu'.take n0) b2 H' l2 vs
  | [], l2, vs, e, r => by
    unfold frzVs at e
    cases e
    rw [r.unnil]; exact repLs_nil
  | x :: xs, l2, vs, e, r => by
    unfold frzVs at e
    obtain ⟨v, w, rfl, r1, r2⟩ := r.uncons
    cases e1 : frzV n0 S' x with
    | none => rw [e1] at e; cases e
    | some y =>
      cases e2 : frzVs n0 S' xs with
      | none => rw [e1, e2] at e; cases e
      | some ys =>
        rw [e1, e2] at e
        have e : y :: ys = l2 := Option.some.inj e
        subst e
        exact repLs_cons (frz_rep R kp hle nin x y v e1 r1) (frz_reps R kp hle nin xs ys w e2 r2)
end
/-- the way out of a def -/
theorem leave_red {Q : VK} {E : XK} {n0 : Nat} {r : Res Flow} (hl : mu.length = n0) (h : To G (WofE E) (rlE G) [] mu bn H Q (leave n0 r)) : ToS G (WofE E) { nx := fun _ H' => Q .non H', rt := Q } mu bn H r := by
  cases r with
  | bad => exact h
  | exc e S1 =>
    intro σ mu' bn' H' cls d t R rx
    obtain ⟨b2, t2, R2, kp, _, nin⟩ := trunc t R hl
    exact (show ExG G (WofE E) [] mu bn H e (S1.take n0) from h) _ _ _ _ _ t2 R2 (G.mono _ _ _ _ _ _ _ kp rx)
  | ok fl S1 =>
    cases fl with
    | bk _ => exact h.elim
    | ct _ => exact h.elim
    | nx ρ =>
      intro mu' bn' H' σ' t R _
      obtain ⟨b2, t2, R2, kp, _, nin⟩ := trunc t R hl
      exact (show OkG G (rlE G) mu bn H Q (.pv .non) (S1.take n0) from h) _ _ _ _ t2 R2 (.pv repP_non)
    | rt l =>
      intro mu' bn' H' v t R rl
      obtain ⟨b2, t2, R2, kp, _, nin⟩ := trunc t R hl
      have h : To G (WofE E) (rlE G) [] mu bn H Q (match frzV n0 S1 l with | some l => .ok l (S1.take n0) | none => .bad) := h
      cases ef : frzV n0 S1 l with
      | none => rw [ef] at h; exact h.elim
      | some l2 =>
        rw [ef] at h
        exact (show OkG G (rlE G) mu bn H Q l2 (S1.take n0) from h) _ _ _ _ t2 R2 (frz_rep R kp (by have := t.le; omega) nin l l2 v ef rl)
end
end Gp

namespace Gp
open PySem PySem.Spec PyProof.Rows L2
section
variable {G : Wd} {W : WX} {X : Cx} {a b d : Expr} {fa fb fd : Env → Store → Res LV} {pos : Pos}
theorem isT_bindE {α : Type} (r : Res α) (f : α → Store → Res LV) : isT (r.bind f) = r.bind fun a S => isT (f a S) := by cases r <;> rfl
theorem isT_iteE (r : Res Bool) (f g : Store → Res LV) : isT (iteR r f g) = iteR r (fun S => isT (f S)) (fun S => isT (g S)) := by
  cases r with
  | ok a S => cases a <;> rfl
  | exc e S => rfl
  | bad => rfl
theorem red_chain {β : Type} {α : Type} {Rel : Rl α β} {o1 o2 : Cop} {g : Res LV → Res α} {Qf : β → Hp → Prop} {Q : VK} {σ : Sg} {H : Hp} (gb : g .bad = .bad)
    (hg : ∀ mu bn H S c, RepS G.K mu bn H S → To G W Rel σ mu bn H Qf (g (.ok (.pv (.bl c)) S)) → Q (.bl c) H)
    (h : gev G W Rel (fun ρ S => (fa ρ S).bind fun x S => (fb ρ S).bind fun y S => iteR (isT (cmpL o1 x y S)) (fun S => (fd ρ S).bind fun z S => g (cmpL o2 y z S)) (fun S => g (.ok (.pv (.bl false)) S))) σ H Qf) :
    tChain (rCL G o1) (rCL G o2) (tev G W fa) (tev G W fb) (tev G W fd) σ H Q := by
  obtain ⟨mu, bn, ρ, S, A, h⟩ := h.out
  refine A.step h fun mu1 bn1 H1 S1 x u A1 t1 rx h1 => ?_
  refine (A1.hold rx).step h1 fun mu2 bn2 H2 S2 y v A2 t2 ry h2 => ?_
  rcases cmp_shape (o := o1) (x := x) (y := y) (S := S2) with ⟨c, e⟩ | e
  rotate_left 1
  · rw [e] at h2; exact h2.elim
  refine ⟨mu2, bn2, S2, x, y, c, A2.R, A2.hd.1, ry, e, c, rfl, ?_⟩
  rw [e] at h2
  cases c with
  | false =>
    rw [if_neg (by simp)]
    exact hg _ _ _ _ _ A2.R h2
  | true =>
    rw [if_pos rfl]
    have h2 : To G W Rel σ mu2 bn2 H2 Qf ((fd ρ S2).bind fun z S => g (cmpL o2 y z S)) := h2
    refine ((A2.hd.2).hold ry).step h2 fun mu3 bn3 H3 S3 z w A3 t3 rz h3 => ?_
    rcases cmp_shape (o := o2) (x := y) (y := z) (S := S3) with ⟨c, e⟩ | e
    · refine ⟨mu3, bn3, S3, y, z, c, A3.R, A3.hd.1, rz, e, ?_⟩
      rw [e] at h3
      exact hg _ _ _ _ _ A3.R h3
    · rw [e, gb] at h3; exact h3.elim
theorem s_chain {op op' : CmpOp} {o1 o2 : Cop} (hK : X.K = G.K) (hu : X.A.units + 200 < cLine) (h1 : cmpOf op o1 = true) (h2 : cmpOf op' o2 = true) (hd : noSet d = true) (ha : PE X a (tev G W fa)) (hb : PE X b (tev G W fb)) (hc : PE X d (tev G W fd)) :
    PB G W X (.Compare a [op, op'] [b, d] pos) (fun _ ρ S => (fa ρ S).bind fun x S => (fb ρ S).bind fun y S => iteR (isT (cmpL o1 x y S)) (fun S => (fd ρ S).bind fun z S => cmpL o2 y z S) (fun S => .ok (.pv (.bl false)) S)) where
  v := PE.mono (pe_chain (op_cmp hK hu h1) (op_cmp hK hu h2) ha hb hc (noSet_eq hd)) fun σ H Q h => red_chain (g := id) rfl (fun mu bn H S c R h => h.ret R (.pv repP_bl)) h
  t := PT.mono (pt_chain (op_cmp hK hu h1) (op_cmp hK hu h2) ha hb hc (noSet_eq hd)) fun σ H Q h => by
    simp only [isT_bindE, isT_iteE] at h
    exact red_chain (g := isT) (Rel := rlB) (Qf := Q) rfl (fun mu bn H S c R h => ⟨c, rfl, h.ret R rfl⟩) h
end
end Gp

namespace Gp
open PySem PySem.Spec PyProof.Rows L2

structure Tb where
  fns : List (Str × Nat)
  cons : List (Str × PV)
mutual
def PV.same : PV → PV → Bool
  | .non, .non => true
  | .bl a, .bl b => a == b
  | .int a, .int b => decide (a = b)
  | .str a, .str b => decide (a = b)
  | .tup a, .tup b => PV.sames a b
  | .lst a, .lst b => PV.sames a b
  | .dict a c, .dict b d => PV.sames a b && PV.sames c d
  | .scr a, .scr b => decide (a = b)
  | _, _ => false
def PV.sames : List PV → List PV → Bool
  | [], [] => true
  | x :: xs, y :: ys => PV.same x y && PV.sames xs ys
  | _, _ => false
end
mutual
theorem PV.same_eq : ∀ (a b : PV), PV.same a b = true → a = b
  | .non, b, h => by cases b <;> first | rfl | (unfold PV.same at h; cases h)
  | .bl x, b, h => by cases b <;> first | (unfold PV.same at h; rw [beq_iff_eq.mp h]) | (unfold PV.same at h; cases h)
  | .int x, b, h => by cases b <;> first | (unfold PV.same at h; rw [of_decide_eq_true h]) | (unfold PV.same at h; cases h)
  | .str x, b, h => by cases b <;> first | (unfold PV.same at h; rw [of_decide_eq_true h]) | (unfold PV.same at h; cases h)
  | .tup x, b, h => by cases b <;> first | (unfold PV.same at h; rw [PV.sames_eq _ _ h]) | (unfold PV.same at h; cases h)
  | .lst x, b, h => by cases b <;> first | (unfold PV.same at h; rw [PV.sames_eq _ _ h]) | (unfold PV.same at h; cases h)
  | .dict x y, b, h => by cases b <;> first | (unfold PV.same at h; rw [Bool.and_eq_true] at h; rw [PV.sames_eq _ _ h.1, PV.sames_eq _ _ h.2]) | (unfold PV.same at h; cases h)
  | .scr x, b, h => by cases b <;> first | (unfold PV.same at h; rw [of_decide_eq_true h]) | (unfold PV.same at h; cases h)
theorem PV.sames_eq : ∀ (a b : List PV), PV.sames a b = true → a = b
  | [], b, h => by cases b <;> first | rfl | (unfold PV.sames at h; cases h)
  | x :: xs, b, h => by
    cases b with
    | nil => unfold PV.sames at h; cases h
    | cons y ys =>
      unfold PV.sames at h
      rw [Bool.and_eq_true] at h
      rw [PV.same_eq _ _ h.1, PV.sames_eq _ _ h.2]
end
def lenEs : Es → Nat
  | .nil => 0
  | .cons _ r => lenEs r + 1
/-- a constant: in its place, or a global name -/
def ckCon (T : Tb) (p : PV) (sc : Scope) (x : Expr) : Bool :=
  match x with
  | .Constant c _ _ => match c, p with
    | .none, .non => true
    | .bool b, .bl q => b == q
    | .int i, .int j => decide (i = j)
    | .str s, .str q => decide (s = ⟨q.toArray⟩) && decide (q.length ≤ big)
    | _, _ => false
  | .Name y _ => glB sc y && !(y == ("__debug__" : Str)) && T.cons.any fun (z, q) => z == y && PV.same q p
  | _ => false
def bopOf : Operator → Bop → Bool
  | .Add, .add => true
  | .Sub, .sub => true
  | .Mult, .mul => true
  | .FloorDiv, .fdiv => true
  | .Mod, .mod => true
  | .Pow, .pow => true
  | _, _ => false
/-- a built-in of one form: its name, how many arguments -/
def bidOf : Bid → Option (Str × Nat)
  | .len => some ("len", 1)
  | .sum => some ("sum", 1)
  | .all => some ("all", 1)
  | .any => some ("any", 1)
  | .sorted => some ("sorted", 1)
  | .min1 => some ("min", 1)
  | .max1 => some ("max", 1)
  | .min2 => some ("min", 2)
  | .max2 => some ("max", 2)
  | .int => some ("int", 1)
  | .str => some ("str", 1)
  | .abs => some ("abs", 1)
  | .tuple => some ("tuple", 1)
  | .list => some ("list", 1)
  | .dictOf => some ("dict", 1)
  | _ => none
def ownOf (N : List Str) (ws : List Nat) : List (Str × Nat) := ws.filterMap fun i => (N[i]?).map fun x => (x, i)
def isiB (sc : Scope) (t : Ty) (x : Expr) : Bool :=
  match x with
  | .Name y _ => y == Str.ofString (nmTy t) && glB sc y
  | _ => false
def isiBs (sc : Scope) (ts : List Ty) (x : Expr) : Bool :=
  match ts with
  | [t] => isiB sc t x
  | [t, u] => match x with
    | .Tuple [a, b] _ _ => isiB sc t a && isiB sc u b
    | _ => false
  | _ => false
def gNm (sc : Scope) (s : Str) (x : Expr) : Bool :=
  match x with
  | .Name y _ => y == s && glB sc y
  | _ => false
def wName (x : Expr) (f : Str → Bool) : Bool :=
  match x with
  | .Name y p => f y
  | _ => false
theorem wName_to {x : Expr} {f : Str → Bool} (h : wName x f = true) : ∃ y p, x = .Name y p ∧ f y = true := by
  unfold wName at h
  split at h
  · exact ⟨_, _, rfl, h⟩
  · cases h
def wTup (x : Expr) (f : List Expr → Bool) : Bool :=
  match x with
  | .Tuple xs k p => f xs
  | _ => false
theorem wTup_to {x : Expr} {f : List Expr → Bool} (h : wTup x f = true) : ∃ xs k p, x = .Tuple xs k p ∧ f xs = true := by
  unfold wTup at h
  split at h
  · exact ⟨_, _, _, rfl, h⟩
  · cases h
def wLstar (x : Expr) (f : Expr → Expr → Bool) : Bool :=
  match x with
  | .List [y, .Starred z q] p => f y z
  | _ => false
theorem wLstar_to {x : Expr} {f : Expr → Expr → Bool} (h : wLstar x f = true) : ∃ y z q p, x = .List [y, .Starred z q] p ∧ f y z = true := by
  unfold wLstar at h
  split at h
  · exact ⟨_, _, _, _, rfl, h⟩
  · cases h
def wRev (x : Expr) (f : Expr → Bool) : Bool :=
  match x with
  | .Subscript y (.Slice none none (some (.UnaryOp .USub (.Constant (.int i) _ _) _)) _) _ => decide (i = 1) && f y
  | _ => false
theorem wRev_to {x : Expr} {f : Expr → Bool} (h : wRev x f = true) : ∃ y k p1 p2 p3 p, x = .Subscript y (.Slice none none (some (.UnaryOp .USub (.Constant (.int 1) k p1) p2)) p3) p ∧ f y = true := by
  unfold wRev at h
  split at h
  · rw [Bool.and_eq_true, decide_eq_true_eq] at h
    obtain ⟨rfl, h⟩ := h
    exact ⟨_, _, _, _, _, _, rfl, h⟩
  · cases h
def wDsp (j k : List Nat) (x : Expr) (f : Expr → Expr → Bool) : Bool :=
  match x with
  | .Dict [some (.Constant (.str u) _ _), some (.Constant (.str v) _ _)] [a, b] _ => decide (u = ⟨j.toArray⟩) && decide (v = ⟨k.toArray⟩) && f a b
  | _ => false
theorem wDsp_to {j k : List Nat} {x : Expr} {f : Expr → Expr → Bool} (h : wDsp j k x f = true) : ∃ i1 p1 i2 p2 a b p, x = .Dict [some (.Constant (.str ⟨j.toArray⟩) i1 p1), some (.Constant (.str ⟨k.toArray⟩) i2 p2)] [a, b] p ∧ f a b = true := by
  unfold wDsp at h
  split at h
  · simp only [Bool.and_eq_true, decide_eq_true_eq] at h
    obtain ⟨⟨rfl, rfl⟩, h⟩ := h
    exact ⟨_, _, _, _, _, _, _, rfl, h⟩
  · cases h
def isTupE (x : Expr) : Bool :=
  match x with
  | .Tuple _ _ _ => true
  | _ => false
theorem isTupE_to {x : Expr} (h : isTupE x = true) : ∃ es k p, x = .Tuple es k p := by
  unfold isTupE at h
  split at h
  · exact ⟨_, _, _, rfl⟩
  · cases h
def wLst (x : Expr) (f : List Expr → Bool) : Bool :=
  match x with
  | .List xs p => f xs
  | _ => false
theorem wLst_to {x : Expr} {f : List Expr → Bool} (h : wLst x f = true) : ∃ xs p, x = .List xs p ∧ f xs = true := by
  unfold wLst at h
  split at h
  · exact ⟨_, _, rfl, h⟩
  · cases h
def wBin (x : Expr) (f : Expr → Operator → Expr → Bool) : Bool :=
  match x with
  | .BinOp y op z p => f y op z
  | _ => false
theorem wBin_to {x : Expr} {f : Expr → Operator → Expr → Bool} (h : wBin x f = true) : ∃ y op z p, x = .BinOp y op z p ∧ f y op z = true := by
  unfold wBin at h
  split at h
  · exact ⟨_, _, _, _, rfl, h⟩
  · cases h
def wNeg (x : Expr) (f : Expr → Bool) : Bool :=
  match x with
  | .UnaryOp .USub y p => f y
  | _ => false
theorem wNeg_to {x : Expr} {f : Expr → Bool} (h : wNeg x f = true) : ∃ y p, x = .UnaryOp .USub y p ∧ f y = true := by
  unfold wNeg at h
  split at h
  · exact ⟨_, _, rfl, h⟩
  · cases h
def wNot (x : Expr) (f : Expr → Bool) : Bool :=
  match x with
  | .UnaryOp .Not y p => f y
  | _ => false
theorem wNot_to {x : Expr} {f : Expr → Bool} (h : wNot x f = true) : ∃ y p, x = .UnaryOp .Not y p ∧ f y = true := by
  unfold wNot at h
  split at h
  · exact ⟨_, _, rfl, h⟩
  · cases h
def wAnd (x : Expr) (f : List Expr → Bool) : Bool :=
  match x with
  | .BoolOp .And xs p => f xs
  | _ => false
theorem wAnd_to {x : Expr} {f : List Expr → Bool} (h : wAnd x f = true) : ∃ xs p, x = .BoolOp .And xs p ∧ f xs = true := by
  unfold wAnd at h
  split at h
  · exact ⟨_, _, rfl, h⟩
  · cases h
def wOr (x : Expr) (f : List Expr → Bool) : Bool :=
  match x with
  | .BoolOp .Or xs p => f xs
  | _ => false
theorem wOr_to {x : Expr} {f : List Expr → Bool} (h : wOr x f = true) : ∃ xs p, x = .BoolOp .Or xs p ∧ f xs = true := by
  unfold wOr at h
  split at h
  · exact ⟨_, _, rfl, h⟩
  · cases h
def wIf (x : Expr) (f : Expr → Expr → Expr → Bool) : Bool :=
  match x with
  | .IfExp t y z p => f t y z
  | _ => false
theorem wIf_to {x : Expr} {f : Expr → Expr → Expr → Bool} (h : wIf x f = true) : ∃ t y z p, x = .IfExp t y z p ∧ f t y z = true := by
  unfold wIf at h
  split at h
  · exact ⟨_, _, _, _, rfl, h⟩
  · cases h
def wCmp (x : Expr) (f : Expr → CmpOp → Expr → Bool) : Bool :=
  match x with
  | .Compare y [op] [z] p => f y op z
  | _ => false
theorem wCmp_to {x : Expr} {f : Expr → CmpOp → Expr → Bool} (h : wCmp x f = true) : ∃ y op z p, x = .Compare y [op] [z] p ∧ f y op z = true := by
  unfold wCmp at h
  split at h
  · exact ⟨_, _, _, _, rfl, h⟩
  · cases h
def wCmp2 (x : Expr) (f : Expr → CmpOp → CmpOp → Expr → Expr → Bool) : Bool :=
  match x with
  | .Compare y [op, op'] [z, w] p => f y op op' z w
  | _ => false
theorem wCmp2_to {x : Expr} {f : Expr → CmpOp → CmpOp → Expr → Expr → Bool} (h : wCmp2 x f = true) : ∃ y op op' z w p, x = .Compare y [op, op'] [z, w] p ∧ f y op op' z w = true := by
  unfold wCmp2 at h
  split at h
  · exact ⟨_, _, _, _, _, _, rfl, h⟩
  · cases h
def wCallN (x : Expr) (f : Str → List Expr → Bool) : Bool :=
  match x with
  | .Call (.Name y q) xs [] p => f y xs
  | _ => false
theorem wCallN_to {x : Expr} {f : Str → List Expr → Bool} (h : wCallN x f = true) : ∃ y xs q p, x = .Call (.Name y q) xs [] p ∧ f y xs = true := by
  unfold wCallN at h
  split at h
  · exact ⟨_, _, _, _, rfl, h⟩
  · cases h
def wCall1 (x : Expr) (f : Expr → Expr → Bool) : Bool :=
  match x with
  | .Call g [y] [] p => f g y
  | _ => false
theorem wCall1_to {x : Expr} {f : Expr → Expr → Bool} (h : wCall1 x f = true) : ∃ g y p, x = .Call g [y] [] p ∧ f g y = true := by
  unfold wCall1 at h
  split at h
  · exact ⟨_, _, _, rfl, h⟩
  · cases h
def wCall2 (x : Expr) (f : Expr → Expr → Expr → Bool) : Bool :=
  match x with
  | .Call g [y, z] [] p => f g y z
  | _ => false
theorem wCall2_to {x : Expr} {f : Expr → Expr → Expr → Bool} (h : wCall2 x f = true) : ∃ g y z p, x = .Call g [y, z] [] p ∧ f g y z = true := by
  unfold wCall2 at h
  split at h
  · exact ⟨_, _, _, _, rfl, h⟩
  · cases h
def wMth (x : Expr) (f : Expr → Str → Pos → List Expr → Pos → Bool) : Bool :=
  match x with
  | .Call (.Attribute y nm q) xs [] p => f y nm q xs p
  | _ => false
theorem wMth_to {x : Expr} {f : Expr → Str → Pos → List Expr → Pos → Bool} (h : wMth x f = true) : ∃ y nm q xs p , x = .Call (.Attribute y nm q) xs [] p ∧ f y nm q xs p = true := by
  unfold wMth at h
  split at h
  · exact ⟨_, _, _, _, _, rfl, h⟩
  · cases h
def wSub (x : Expr) (f : Expr → Expr → Bool) : Bool :=
  match x with
  | .Subscript y z p => f y z
  | _ => false
theorem wSub_to {x : Expr} {f : Expr → Expr → Bool} (h : wSub x f = true) : ∃ y z p, x = .Subscript y z p ∧ f y z = true := by
  unfold wSub at h
  split at h
  · exact ⟨_, _, _, rfl, h⟩
  · cases h
def wSl (x : Expr) (f : Expr → Option Expr → Option Expr → Bool) : Bool :=
  match x with
  | .Subscript y (.Slice l h none q) p => f y l h
  | _ => false
theorem wSl_to {x : Expr} {f : Expr → Option Expr → Option Expr → Bool} (h : wSl x f = true) : ∃ y l h q p, x = .Subscript y (.Slice l h none q) p ∧ f y l h = true := by
  unfold wSl at h
  split at h
  · exact ⟨_, _, _, _, _, rfl, h⟩
  · cases h
def wLc (x : Expr) (f : Expr → Comprehension → Scope → Bool) : Bool :=
  match x with
  | .ListComp elt [g] scope p => f elt g scope
  | _ => false
theorem wLc_to {x : Expr} {f : Expr → Comprehension → Scope → Bool} (h : wLc x f = true) : ∃ elt g scope p, x = .ListComp elt [g] scope p ∧ f elt g scope = true := by
  unfold wLc at h
  split at h
  · exact ⟨_, _, _, _, rfl, h⟩
  · cases h
def wLc2 (x : Expr) (f : Expr → Comprehension → Comprehension → Scope → Bool) : Bool :=
  match x with
  | .ListComp elt [g, h] scope p => f elt g h scope
  | _ => false
theorem wLc2_to {x : Expr} {f : Expr → Comprehension → Comprehension → Scope → Bool} (h : wLc2 x f = true) : ∃ elt g h scope p, x = .ListComp elt [g, h] scope p ∧ f elt g h scope = true := by
  unfold wLc2 at h
  split at h
  · exact ⟨_, _, _, _, _, rfl, h⟩
  · cases h
def wDc (x : Expr) (f : Expr → Expr → Comprehension → Scope → Bool) : Bool :=
  match x with
  | .DictComp kx vx [g] scope p => f kx vx g scope
  | _ => false
theorem wDc_to {x : Expr} {f : Expr → Expr → Comprehension → Scope → Bool} (h : wDc x f = true) : ∃ kx vx g scope p, x = .DictComp kx vx [g] scope p ∧ f kx vx g scope = true := by
  unfold wDc at h
  split at h
  · exact ⟨_, _, _, _, _, rfl, h⟩
  · cases h
def wDct0 (x : Expr) : Bool :=
  match x with
  | .Dict [] [] _ => true
  | _ => false
theorem wDct0_to {x : Expr} (h : wDct0 x = true) : ∃ p, x = .Dict [] [] p := by
  unfold wDct0 at h
  split at h
  · exact ⟨_, rfl⟩
  · cases h
def isNil : Es → Bool
  | .nil => true
  | _ => false
def wCons (xs : List Expr) (f : Expr → List Expr → Bool) : Bool :=
  match xs with
  | y :: ys => f y ys
  | [] => false
theorem wCons_to {xs : List Expr} {f : Expr → List Expr → Bool} (h : wCons xs f = true) : ∃ y ys, xs = y :: ys ∧ f y ys = true := by
  cases xs with
  | nil => cases h
  | cons y ys => exact ⟨y, ys, rfl, h⟩
def wIfs (xs : List Expr) (n : Bool) (f : Expr → Bool) : Bool :=
  match xs with
  | [] => n
  | [y] => !n && f y
  | _ => false
theorem wIfs_to {xs : List Expr} {n : Bool} {f : Expr → Bool} (h : wIfs xs n f = true) : (xs = [] ∧ n = true) ∨ ∃ y, xs = [y] ∧ n = false ∧ f y = true := by
  unfold wIfs at h
  split at h
  · exact .inl ⟨rfl, h⟩
  · rw [Bool.and_eq_true, Bool.not_eq_true'] at h
    exact .inr ⟨_, rfl, h.1, h.2⟩
  · cases h
def wOpt (x : Option Expr) (n : Bool) (f : Expr → Bool) : Bool :=
  match x with
  | none => n
  | some y => !n && f y
theorem wOpt_to {x : Option Expr} {n : Bool} {f : Expr → Bool} (h : wOpt x n f = true) : (x = none ∧ n = true) ∨ ∃ y, x = some y ∧ n = false ∧ f y = true := by
  unfold wOpt at h
  split at h
  · exact .inl ⟨rfl, h⟩
  · rw [Bool.and_eq_true, Bool.not_eq_true'] at h
    exact .inr ⟨_, rfl, h.1, h.2⟩
def mthB (m : Mid) (nm : Str) (n : Nat) : Bool :=
  match m with
  | .append => nm == ("append" : Str) && n == 1
  | .extend => nm == ("extend" : Str) && n == 1
  | .pop1 => nm == ("pop" : Str) && n == 1
  | .pop0 => nm == ("pop" : Str) && n == 0
  | .index => nm == ("index" : Str) && n == 1
  | .join => nm == ("join" : Str) && n == 1
  | _ => false
def bltB (f : Bid) (sc : Scope) (x : Expr) (k : List Expr → Bool) : Bool :=
  match f with
  | .tupR1 => wCall1 x fun g r => gNm sc "tuple" g && wCall1 r fun h y => gNm sc "range" h && k [y]
  | .lstR1 => wCall1 x fun g r => gNm sc "list" g && wCall1 r fun h y => gNm sc "range" h && k [y]
  | .tupR2 => wCall1 x fun g r => gNm sc "tuple" g && wCall2 r fun h y z => gNm sc "range" h && k [y, z]
  | .lstR2 => wCall1 x fun g r => gNm sc "list" g && wCall2 r fun h y z => gNm sc "range" h && k [y, z]
  | .lstZip => wCall1 x fun g r => gNm sc "list" g && wCall2 r fun h y z => gNm sc "zip" h && k [y, z]
  | f => wCallN x fun y xs => decide (bidOf f = some (y, xs.length)) && glB sc y && !xs.isEmpty && k xs
variable (T : Tb) (N : List Str)
def blkB (ws : List Nat) (t : Tg) (sc scope : Scope) (g : Comprehension) : Bool :=
  decide (g.is_async = 0) && blkC N sc scope (ownOf N ws) && decide ((ownOf N ws).map (·.2) = ws) && tgIn ws t && ckT N (relScope scope sc) (some scope) t g.target && notSet g.iter
mutual
def ckE : E → Scope → Option Scope → Expr → Bool
  | .no, _, _, _ => true
  | .var i, sc, _, x => wName x fun y => decide (N[i]? = some y) && visB sc y && !(y == ("__debug__" : Str)) && !(y == ("__classdict__" : Str))
  | .con p, sc, _, x => ckCon T p sc x
  | .tup es, sc, fns, x => wTup x fun xs => decide (xs.length ≤ 1000) && ckEs es sc fns xs
  | .lst _ es, sc, fns, x => wLst x fun xs => decide (xs.length ≤ 1000) && ckEs es sc fns xs
  | .dct _ ks vs, _, _, x => isNil ks && isNil vs && wDct0 x
  | .dctT, _, _, x => wDct0 x
  | .getT o k d, sc, fns, x => wMth x fun y nm q xs p => notSup y && (q.endLine == p.line) && nm == ("get" : Str) && ckE o sc fns y && wCons xs fun z zs => notStar z && ckE k sc fns z && wCons zs fun w ws => notStar w && ckE d sc fns w && ws.isEmpty
  | .getK o k d, sc, fns, x => wMth x fun y nm q xs p => notSup y && (q.endLine == p.line) && nm == ("get" : Str) && ckE o sc fns y && wCons xs fun z zs => notStar z && ckE k sc fns z && wCons zs fun w ws => notStar w && ckE d sc fns w && ws.isEmpty
  | .dsp2 j k a b, sc, fns, x => wDsp j k x fun y z => ckE a sc fns y && ckE b sc fns z
  | .valsT o, sc, fns, x => wCall1 x fun g r => gNm sc "list" g && wMth r fun y nm q xs p => notSup y && (q.endLine == p.line) && nm == ("values" : Str) && xs.isEmpty && ckE o sc fns y
  | .tkB a, sc, fns, x => wCall1 x fun g y => gNm sc "tuple" g && notStar y && ckE a sc fns y
  | .tkD es, sc, fns, x => wTup x fun xs => decide (xs.length ≤ 1000) && ckEs es sc fns xs
  | .bin o a b, sc, fns, x => wBin x fun y op z => bopOf op o && ckE a sc fns y && ckE b sc fns z
  | .neg a, sc, fns, x => wNeg x fun y => ckE a sc fns y
  | .not a, sc, fns, x => wNot x fun y => ckE a sc fns y
  | .and es, sc, fns, x => wAnd x fun xs => !xs.isEmpty && ckEs es sc fns xs
  | .or es, sc, fns, x => wOr x fun xs => !xs.isEmpty && ckEs es sc fns xs
  | .ite c a b, sc, fns, x => wIf x fun t y z => ckE c sc fns t && ckE a sc fns y && ckE b sc fns z
  | .cmp o a b, sc, fns, x => wCmp x fun y op z => cmpOf op o && noSet z && ckE a sc fns y && ckE b sc fns z
  | .chain o1 o2 a b d, sc, fns, x => wCmp2 x fun y op op' z w => cmpOf op o1 && cmpOf op' o2 && noSet w && ckE a sc fns y && ckE b sc fns z && ckE d sc fns w
  | .call f es, sc, fns, x => wCallN x fun y xs => decide (T.fns[f]? = some (y, lenEs es)) && glB sc y && !(y == ("__debug__" : Str)) && !xs.isEmpty && ckEs es sc fns xs
  | .blt f _ es, sc, fns, x => bltB f sc x fun xs => ckEs es sc fns xs
  | .isi a ts, sc, fns, x => wCall2 x fun g y z => gNm sc "isinstance" g && isiBs sc ts z && notStar y && ckE a sc fns y
  | .mth m o es, sc, fns, x => wMth x fun y nm q xs p => notSup y && (q.endLine == p.line) && mthB m nm xs.length && ckE o sc fns y && ckEs es sc fns xs
  | .attr _ _, _, _, _ => false
  | .omth _ _ _, _, _, _ => false
  | .new _ _, _, _, _ => false
  | .idx a b, sc, fns, x => wSub x fun y z => plainIx z && ckE a sc fns y && ckE b sc fns z
  | .slc a lo hi, sc, fns, x => wSl x fun y l h => ckE a sc fns y && wOpt l (isNo lo) (fun z => ckE lo sc fns z) && wOpt h (isNo hi) (fun z => ckE hi sc fns z)
  | .rev a, sc, fns, x => wRev x fun y => ckE a sc fns y
  | .lstar a b, sc, fns, x => wLstar x fun y z => notStar y && ckE a sc fns y && ckE b sc fns z
  | .lc _ ws e t it c, sc, fns, x => wLc x fun elt g scope => blkB N ws t sc scope g && ckI it sc fns g.target g.iter && wIfs g.ifs (isNo c) (fun y => ckE c (relScope scope sc) (some scope) y) && ckE e (relScope scope sc) (some scope) elt
  | .lc2 _ ws ws2 e t it c t2 it2 c2, sc, fns, x => wLc2 x fun elt g h scope => blkB N ws t sc scope g && decide (h.is_async = 0) && (ws2.all fun i => ws.contains i) && tgIn ws2 t2 && ckT N (relScope scope sc) (some scope) t2 h.target && notSet h.iter &&
        ckI it sc fns g.target g.iter && ckI it2 (relScope scope sc) (some scope) h.target h.iter && wIfs g.ifs (isNo c) (fun y => ckE c (relScope scope sc) (some scope) y) && wIfs h.ifs (isNo c2) (fun y => ckE c2 (relScope scope sc) (some scope) y) && ckE e (relScope scope sc) (some scope) elt
  | .dc _ ws k v t it c, sc, fns, x => wDc x fun kx vx g scope => blkB N ws t sc scope g && ckI it sc fns g.target g.iter && wIfs g.ifs (isNo c) (fun y => ckE c (relScope scope sc) (some scope) y) && ckE k (relScope scope sc) (some scope) kx && ckE v (relScope scope sc) (some scope) vx
def ckEs : Es → Scope → Option Scope → List Expr → Bool
  | .nil, _, _, xs => xs.isEmpty
  | .cons a r, sc, fns, xs => wCons xs fun y ys => notStar y && ckE a sc fns y && ckEs r sc fns ys
def ckI : It → Scope → Option Scope → Expr → Expr → Bool
  | .ex e, sc, fns, _, x => ckE e sc fns x
  | .r1 a, sc, fns, _, x => wCall1 x fun g y => gNm sc "range" g && notStar y && ckE a sc fns y
  | .r2 a b, sc, fns, _, x => wCall2 x fun g y z => gNm sc "range" g && notStar y && notStar z && ckE a sc fns y && ckE b sc fns z
  | .enum a, sc, fns, tg, x => isTupE tg && wCall1 x fun g y => gNm sc "enumerate" g && notStar y && ckE a sc fns y
  | .zip a b, sc, fns, tg, x => isTupE tg && wCall2 x fun g y z => gNm sc "zip" g && notStar y && notStar z && ckE a sc fns y && ckE b sc fns z
  | .items _, _, _, _, _ => false
end
end Gp

namespace Gp
open PySem PySem.Spec PyProof.Rows L2

structure TbOk (T : Tb) (M : Gm) : Prop where
  fns : ∀ (f : Nat) (y : Str) (n : Nat), T.fns[f]? = some (y, n) → ∃ i : FnI, M.fns[f]? = some i ∧ i.x = y ∧ i.ps.length = n
  cons : T.cons = M.cons
section
variable (T : Tb) (N : List Str) (M : Gm)
def mE (e : E) : Prop := ∀ sc fns x, ckE T N e sc fns x = true → ∀ W X, Good M W N sc fns X → PB M.G W X x (fun m ρ S => ev M.c e m ρ S)
structure mEsP (es : Es) (xs : List Expr) (W : WX) (X : Cx) : Prop where
  pa : PA X xs (tas M.G W fun ρ S => evEs M.c es ρ S)
  star : xs.all notStar = true
  len : xs.length = lenEs es
  an : ∀ pos, xs ≠ [] → PL M.G W X (.BoolOp .And xs pos) (fun m ρ S => evAnd M.c es m ρ S)
  or : ∀ pos, xs ≠ [] → PL M.G W X (.BoolOp .Or xs pos) (fun m ρ S => evOr M.c es m ρ S)
  uno : ∀ y, xs = [y] → ∃ a, es = .cons a .nil ∧ PE X y (tev M.G W fun ρ S => ev M.c a false ρ S)
  duo : ∀ y z, xs = [y, z] → ∃ a b, es = .cons a (.cons b .nil) ∧ PE X y (tev M.G W fun ρ S => ev M.c a false ρ S) ∧ PE X z (tev M.G W fun ρ S => ev M.c b false ρ S)
def mEs (es : Es) : Prop := ∀ sc fns xs, ckEs T N es sc fns xs = true → ∀ W X, Good M W N sc fns X → mEsP M es xs W X
def mI (it : It) : Prop := ∀ sc fns tg x, ckI T N it sc fns tg x = true → ∀ W X, Good M W N sc fns X → PI X tg x (tiv M.G W fun ρ S => evI M.c it ρ S)
theorem evEs_len : ∀ (es : Es) (ρ : Env) (S : Store) (ls : List LV) (S' : Store), evEs M.c es ρ S = .ok ls S' → ls.length = lenEs es
  | .nil, ρ, S, ls, S', h => by
    have h : Res.ok [] S = Res.ok ls S' := h
    cases h; rfl
  | .cons a r, ρ, S, ls, S', h => by
    have h : ((ev M.c a false ρ S).bind fun x S => (evEs M.c r ρ S).bind fun xs S => .ok (x :: xs) S) = .ok ls S' := h
    obtain ⟨x, S1, _, h⟩ := bind_ok h
    obtain ⟨xs, S2, e2, h⟩ := bind_ok h
    cases h
    rw [List.length_cons, evEs_len r ρ S1 xs _ e2]; rfl
end
section
variable {T : Tb} {N : List Str} {M : Gm} {W : WX} {sc : Scope} {fns : Option Scope} {X : Cx}
theorem plain1 {x : Expr} {e : E} {f : Env → Store → Res LV} (hK : X.K = M.G.K) (hp : plainT x = true) (he : ∀ m ρ S, ev M.c e m ρ S = tst m (f ρ S)) (h : PE X x (tev M.G W f)) : PB M.G W X x (fun m ρ S => ev M.c e m ρ S) := by
  have q := PB.plain (G := M.G) (W := W) hK hp h
  have : (fun m ρ S => ev M.c e m ρ S) = fun m ρ S => tst m (f ρ S) := by funext m ρ S; exact he m ρ S
  rw [this]; exact q
theorem PB.of {x : Expr} {e : E} {f : Bool → Env → Store → Res LV} (q : PB M.G W X x f) (he : ∀ m ρ S, ev M.c e m ρ S = f m ρ S) : PB M.G W X x (fun m ρ S => ev M.c e m ρ S) := by
  have : (fun m ρ S => ev M.c e m ρ S) = f := by funext m ρ S; exact he m ρ S
  rw [this]; exact q
theorem q_no : mE T N M .no := fun sc fns x _ W X g => by
  refine ⟨⟨fun pins s σ H Q I h => ?_⟩, ⟨fun pins s σ H Q I h => ?_⟩⟩
  · obtain ⟨mu, bn, ρ, S, A, h⟩ := h.out; exact h.elim
  · obtain ⟨mu, bn, ρ, S, A, h⟩ := h.out; exact h.elim
theorem q_var (i : Nat) : mE T N M (.var i) := fun sc fns x h W X g => by
  obtain ⟨y, p, rfl, h0⟩ := wName_to h
  clear h; have h := h0; clear h0
  simp only [Bool.and_eq_true, decide_eq_true_eq, Bool.not_eq_true'] at h
  exact plain1 g.K rfl (fun m ρ S => rfl) (s_var (pe_var (by rw [g.nms.nm]; exact h.1.1.1) (g.vis h.1.1.2) h.1.2 h.2))
theorem con_ok {p : PV} {x : Expr} (tb : TbOk T M) (h : ckCon T p sc x = true) (g : Good M W N sc fns X) : plainT x = true ∧ PE X x (tev M.G W fun _ S => .ok (.pv p) S) := by
  unfold ckCon at h
  split at h
  · refine ⟨rfl, ?_⟩
    split at h
    · exact s_con pe_non fun _ _ => repP_non
    · rw [beq_iff_eq] at h; subst h; exact s_con pe_bl fun _ _ => repP_bl
    · have h := of_decide_eq_true h; subst h; exact s_con pe_int fun _ _ => repP_int
    · rw [Bool.and_eq_true, decide_eq_true_eq, decide_eq_true_eq] at h
      obtain ⟨rfl, hl⟩ := h
      exact s_con pe_str fun _ _ => repP_str hl
    · cases h
  · refine ⟨rfl, ?_⟩
    simp only [Bool.and_eq_true, Bool.not_eq_true', List.any_eq_true] at h
    obtain ⟨⟨h1, h2⟩, ⟨z, q⟩, hm, h3⟩ := h
    simp only [beq_iff_eq] at h3
    obtain ⟨rfl, h4⟩ := h3
    have := PV.same_eq _ _ h4
    subst this
    exact s_gcon g (by rw [← tb.cons]; exact hm) h1 h2
  · cases h
theorem q_con (p : PV) (tb : TbOk T M) : mE T N M (.con p) := fun sc fns x h W X g => by
  obtain ⟨h1, h2⟩ := con_ok tb (show ckCon T p sc x = true from h) g
  exact plain1 g.K h1 (fun m ρ S => rfl) h2
theorem q_tup (es : Es) (ih : mEs T N M es) : mE T N M (.tup es) := fun sc fns x h W X g => by
  obtain ⟨xs, k, p, rfl, h0⟩ := wTup_to h
  clear h; have h := h0; clear h0
  rw [Bool.and_eq_true, decide_eq_true_eq] at h; have q := ih sc fns xs h.2 W X g
  exact plain1 g.K rfl (fun m ρ S => rfl) (s_tup (n := lenEs es) (by rw [← q.len]; exact h.1) (fun ρ S ls S' e => evEs_len M es ρ S ls S' e) q.pa)
theorem q_lst (al : Bool) (es : Es) (ih : mEs T N M es) : mE T N M (.lst al es) := fun sc fns x h W X g => by
  obtain ⟨xs, p, rfl, h0⟩ := wLst_to h
  clear h; have h := h0; clear h0
  rw [Bool.and_eq_true, decide_eq_true_eq] at h; have q := ih sc fns xs h.2 W X g
  exact plain1 g.K rfl (fun m ρ S => rfl) (s_lst (n := lenEs es) (by rw [← q.len]; exact h.1) (fun ρ S ls S' e => evEs_len M es ρ S ls S' e) q.pa)
theorem q_bin (o : Bop) (a b : E) (ia : mE T N M a) (ib : mE T N M b) : mE T N M (.bin o a b) := fun sc fns x h W X g => by
  obtain ⟨y, op, z, p, rfl, h0⟩ := wBin_to h
  clear h; have h := h0; clear h0
  simp only [Bool.and_eq_true] at h; have ho : OpR X (binaryOp op) (rB M.G (binop o)) := by
    have h1 := h.1.1
    cases op <;> cases o <;> first | (cases h1; done) | skip
    case Add.add => exact op_binA g.K
    case Sub.sub => exact op_binS g.K
    case Mult.mul => exact op_binX g.K
    case FloorDiv.fdiv => exact op_binF g.K
    case Mod.mod => exact op_binM g.K
    case Pow.pow => exact op_binP g.K
  exact plain1 g.K rfl (fun m ρ S => rfl) (s_bin ho (ia sc fns y h.1.2 W X g).v (ib sc fns z h.2 W X g).v)
theorem q_neg (a : E) (ia : mE T N M a) : mE T N M (.neg a) := fun sc fns x h W X g => by
  obtain ⟨y, p, rfl, h0⟩ := wNeg_to h
  clear h; have h := h0; clear h0
  exact plain1 g.K rfl (fun m ρ S => rfl) (s_neg (ia sc fns y h W X g).v)
theorem q_not (a : E) (ia : mE T N M a) : mE T N M (.not a) := fun sc fns x h W X g => by
  obtain ⟨y, p, rfl, h0⟩ := wNot_to h
  clear h; have h := h0; clear h0
  exact PB.of (s_not (pos := p) g.K (ia sc fns y h W X g)) fun m ρ S => by cases m <;> rfl
theorem q_and (es : Es) (ih : mEs T N M es) : mE T N M (.and es) := fun sc fns x h W X g => by
  obtain ⟨xs, p, rfl, h0⟩ := wAnd_to h
  clear h; have h := h0; clear h0
  rw [Bool.and_eq_true, Bool.not_eq_true'] at h
  exact PB.of ((ih sc fns xs h.2 W X g).an p (fun z => by rw [z] at h; cases h.1)).pb fun m ρ S => rfl
theorem q_or (es : Es) (ih : mEs T N M es) : mE T N M (.or es) := fun sc fns x h W X g => by
  obtain ⟨xs, p, rfl, h0⟩ := wOr_to h
  clear h; have h := h0; clear h0
  rw [Bool.and_eq_true, Bool.not_eq_true'] at h
  exact PB.of ((ih sc fns xs h.2 W X g).or p (fun z => by rw [z] at h; cases h.1)).pb fun m ρ S => rfl
theorem q_ite (c a b : E) (ic : mE T N M c) (ia : mE T N M a) (ib : mE T N M b) : mE T N M (.ite c a b) := fun sc fns x h W X g => by
  obtain ⟨t, y, z, p, rfl, h0⟩ := wIf_to h
  clear h; have h := h0; clear h0
  simp only [Bool.and_eq_true] at h; exact PB.of (s_ite (pos := p) (ic sc fns t h.1.1 W X g) (ia sc fns y h.1.2 W X g) (ib sc fns z h.2 W X g)) fun m ρ S => rfl
theorem q_cmp (o : Cop) (a b : E) (ia : mE T N M a) (ib : mE T N M b) : mE T N M (.cmp o a b) := fun sc fns x h W X g => by
  obtain ⟨y, op, z, p, rfl, h0⟩ := wCmp_to h
  clear h; have h := h0; clear h0
  simp only [Bool.and_eq_true] at h; exact PB.of (s_cmp (pos := p) g.K g.hu h.1.1.1 h.1.1.2 (ia sc fns y h.1.2 W X g).v (ib sc fns z h.2 W X g).v) fun m ρ S => rfl
theorem q_chain (o1 o2 : Cop) (a b d : E) (ia : mE T N M a) (ib : mE T N M b) (id' : mE T N M d) : mE T N M (.chain o1 o2 a b d) := fun sc fns x h W X g => by
  obtain ⟨y, op, op', z, w, p, rfl, h0⟩ := wCmp2_to h
  clear h; have h := h0; clear h0
  simp only [Bool.and_eq_true] at h; obtain ⟨⟨⟨⟨⟨h1, h2⟩, h3⟩, h4⟩, h5⟩, h6⟩ := h
  exact PB.of (s_chain (pos := p) g.K g.hu h1 h2 h3 (ia sc fns y h4 W X g).v (ib sc fns z h5 W X g).v (id' sc fns w h6 W X g).v) fun m ρ S => rfl
theorem q_call (f : Nat) (es : Es) (tb : TbOk T M) (ih : mEs T N M es) : mE T N M (.call f es) := fun sc fns x h W X g => by
  obtain ⟨y, xs, q, p, rfl, h0⟩ := wCallN_to h
  clear h; have h := h0; clear h0
  simp only [Bool.and_eq_true, decide_eq_true_eq, Bool.not_eq_true'] at h
  obtain ⟨⟨⟨⟨h1, h2⟩, h3⟩, h4⟩, h5⟩ := h
  obtain ⟨i, hi, rfl, hn⟩ := tb.fns f y _ h1
  have q := ih sc fns xs h5 W X g
  cases xs with
  | nil => cases h4
  | cons z zs => exact plain1 g.K rfl (fun m ρ S => rfl) (s_call g hi h2 h3 (fun ρ S ls S' e => by rw [evEs_len M es ρ S ls S' e, hn]) q.star q.pa)
theorem gNm_to {s : Str} {x : Expr} (h : gNm sc s x = true) : ∃ p, x = .Name s p ∧ glB sc s = true := by
  unfold gNm at h
  split at h
  · rw [Bool.and_eq_true, beq_iff_eq] at h
    obtain ⟨rfl, h⟩ := h
    exact ⟨_, rfl, h⟩
  · cases h
theorem blt_gen {f : Bid} {al : Bool} {y : Str} {e : Expr} {es : List Expr} {fs : Env → Store → Res (List LV)} {p pos : Pos} (g : Good M W N sc fns X) (hb : bidOf f = some (y, (e :: es).length)) (hg : glB sc y = true) (hs : (e :: es).all notStar = true) (ha : PA X (e :: es) (tas M.G W fs)) :
    PE X (.Call (.Name y p) (e :: es) [] pos) (tev M.G W (bltF f al fs)) := by
  have hl : y = (match bidOf f with | some z => z.1 | none => y) := by rw [hb]
  have hm : ∀ z ∈ bnames, X.mg z = none := fun z hz => by rw [g.mg]; exact g.bl z hz
  cases f <;> first | (cases hb; done) | skip
  all_goals (simp only [bidOf] at hl; subst hl)
  · exact s_bltF (cb_len g.K) (g.gl hg) (hm _ (by decide)) PySem.boot_len (by decide) (by decide) hs ha
  · exact s_bltF (cb_sum g.K g.calm) (g.gl hg) (hm _ (by decide)) PyProof.Rows.boot_sum (by decide) (by decide) hs ha
  · exact s_bltF (cb_all g.K g.calm) (g.gl hg) (hm _ (by decide)) PyProof.Rows.boot_all (by decide) (by decide) hs ha
  · exact s_bltF (cb_any g.K g.calm) (g.gl hg) (hm _ (by decide)) PyProof.Rows.boot_any (by decide) (by decide) hs ha
  · exact s_bltF (cb_sorted g.K) (g.gl hg) (hm _ (by decide)) PyProof.Rows.boot_sorted (by decide) (by decide) hs ha
  · exact s_bltF (cb_min1 g.K g.calm) (g.gl hg) (hm _ (by decide)) PyProof.Rows.boot_min (by decide) (by decide) hs ha
  · exact s_bltF (cb_max1 g.K g.calm) (g.gl hg) (hm _ (by decide)) PyProof.Rows.boot_max (by decide) (by decide) hs ha
  · exact s_bltF (cb_min2 g.K g.calm) (g.gl hg) (hm _ (by decide)) PyProof.Rows.boot_min (by decide) (by decide) hs ha
  · exact s_bltF (cb_max2 g.K g.calm) (g.gl hg) (hm _ (by decide)) PyProof.Rows.boot_max (by decide) (by decide) hs ha
  · exact s_bltT (cb_int g.K) (g.gl hg) (hm _ (by decide)) PyProof.Rows.boot_int (by decide) (by decide) hs ha
  · exact s_bltT (cb_str g.K) (g.gl hg) (hm _ (by decide)) PyProof.Rows.boot_str (by decide) (by decide) hs ha
  · exact s_bltF (cb_abs g.K) (g.gl hg) (hm _ (by decide)) PyProof.Rows.boot_abs (by decide) (by decide) hs ha
  · exact s_bltT (cb_tuple g.K) (g.gl hg) (hm _ (by decide)) PyProof.Rows.boot_tuple (by decide) (by decide) hs ha
  · exact s_bltT (cb_list g.K) (g.gl hg) (hm _ (by decide)) PyProof.Rows.boot_list (by decide) (by decide) hs ha
  · exact s_bltT (cb_dictOf g.K g.calm) (g.gl hg) (hm _ (by decide)) PyProof.Rows.boot_dict (by decide) (by decide) hs ha
theorem q_blt (f : Bid) (al : Bool) (es : Es) (ih : mEs T N M es) : mE T N M (.blt f al es) := fun sc fns x h W X g => by
  have h : bltB f sc x (fun xs => ckEs T N es sc fns xs) = true := h
  have gen : wCallN x (fun y xs => decide (bidOf f = some (y, xs.length)) && glB sc y && !xs.isEmpty && ckEs T N es sc fns xs) = true → PB M.G W X x (fun m ρ S => ev M.c (.blt f al es) m ρ S) := fun h => by
    obtain ⟨y, xs, q, p, rfl, h0⟩ := wCallN_to h
    clear h; have h := h0; clear h0
    simp only [Bool.and_eq_true, decide_eq_true_eq, Bool.not_eq_true'] at h
    obtain ⟨⟨⟨h1, h2⟩, h3⟩, h4⟩ := h; have q := ih sc fns xs h4 W X g
    cases xs with
    | nil => cases h3
    | cons z zs => exact plain1 g.K rfl (fun m ρ S => rfl) (blt_gen g h1 h2 q.star q.pa)
  have r1 : ∀ s : Str, wCall1 x (fun g r => gNm sc s g && wCall1 r fun h y => gNm sc "range" h && ckEs T N es sc fns [y]) = true → ∃ p1 p2 p3 p4 y a, x = .Call (.Name s p1) [.Call (.Name "range" p2) [y] [] p3] [] p4 ∧ glB sc s = true ∧ glB sc "range" = true ∧ es = .cons a .nil ∧ notStar y = true ∧ PE X y (tev M.G W fun ρ S => ev M.c a false ρ S) := fun s h => by
    obtain ⟨gg, r, p, rfl, h0⟩ := wCall1_to h
    clear h; have h := h0; clear h0
    rw [Bool.and_eq_true] at h
    obtain ⟨p1, rfl, h1⟩ := gNm_to h.1
    obtain ⟨hh, y, p2, rfl, h2⟩ := wCall1_to h.2
    rw [Bool.and_eq_true] at h2
    obtain ⟨p3, rfl, h3⟩ := gNm_to h2.1
    have q := ih sc fns [y] h2.2 W X g
    obtain ⟨a, e1, e2⟩ := q.uno y rfl
    exact ⟨_, _, _, _, y, a, rfl, h1, h3, e1, by simpa using q.star, e2⟩
  have r2 : ∀ s : Str, wCall1 x (fun g r => gNm sc s g && wCall2 r fun h y z => gNm sc "range" h && ckEs T N es sc fns [y, z]) = true → ∃ p1 p2 p3 p4 y z a b, x = .Call (.Name s p1) [.Call (.Name "range" p2) [y, z] [] p3] [] p4 ∧ glB sc s = true ∧ glB sc "range" = true ∧ es = .cons a (.cons b .nil) ∧ notStar y = true ∧ notStar z = true ∧ PE X y (tev M.G W fun ρ S => ev M.c a false ρ S) ∧ PE X z (tev M.G W fun ρ S => ev M.c b false ρ S) := fun s h => by
    obtain ⟨gg, r, p, rfl, h0⟩ := wCall1_to h
    clear h; have h := h0; clear h0
    rw [Bool.and_eq_true] at h
    obtain ⟨p1, rfl, h1⟩ := gNm_to h.1
    obtain ⟨hh, y, z, p2, rfl, h2⟩ := wCall2_to h.2
    rw [Bool.and_eq_true] at h2
    obtain ⟨p3, rfl, h3⟩ := gNm_to h2.1
    have q := ih sc fns [y, z] h2.2 W X g
    obtain ⟨a, b, e1, e2, e3⟩ := q.duo y z rfl
    have st := q.star
    simp at st
    exact ⟨_, _, _, _, y, z, a, b, rfl, h1, h3, e1, st.1, st.2, e2, e3⟩
  by_cases c1 : f = .tupR1
  · subst c1
    obtain ⟨p1, p2, p3, p4, y, a, rfl, h1, h2, rfl, h3, h4⟩ := r1 "tuple" h
    exact plain1 g.K rfl (fun m ρ S => rfl) (s_tupR1 g h1 h2 h3 h4)
  by_cases c2 : f = .lstR1
  · subst c2
    obtain ⟨p1, p2, p3, p4, y, a, rfl, h1, h2, rfl, h3, h4⟩ := r1 "list" h
    exact plain1 g.K rfl (fun m ρ S => rfl) (s_lstR1 g h1 h2 h3 h4)
  by_cases c3 : f = .tupR2
  · subst c3
    obtain ⟨p1, p2, p3, p4, y, z, a, b, rfl, h1, h2, rfl, h3, h4, h5, h6⟩ := r2 "tuple" h
    exact plain1 g.K rfl (fun m ρ S => rfl) (s_tupR2 g h1 h2 h3 h4 h5 h6)
  by_cases c4 : f = .lstR2
  · subst c4
    obtain ⟨p1, p2, p3, p4, y, z, a, b, rfl, h1, h2, rfl, h3, h4, h5, h6⟩ := r2 "list" h
    exact plain1 g.K rfl (fun m ρ S => rfl) (s_lstR2 g h1 h2 h3 h4 h5 h6)
  by_cases c5 : f = .lstZip
  · subst c5
    obtain ⟨gg, r, p, rfl, h0⟩ := wCall1_to (show wCall1 x (fun g r => gNm sc "list" g && wCall2 r fun h y z => gNm sc "zip" h && ckEs T N es sc fns [y, z]) = true from h)
    rw [Bool.and_eq_true] at h0
    obtain ⟨p1, rfl, h1⟩ := gNm_to h0.1
    obtain ⟨hh, y, z, p2, rfl, h2⟩ := wCall2_to h0.2
    rw [Bool.and_eq_true] at h2
    obtain ⟨p3, rfl, h3⟩ := gNm_to h2.1
    have q := ih sc fns [y, z] h2.2 W X g
    obtain ⟨a, b, rfl, e2, e3⟩ := q.duo y z rfl
    have st := q.star
    simp at st
    exact plain1 g.K rfl (fun m ρ S => rfl) (s_lstZip g h1 h3 st.1 st.2 e2 e3)
  refine gen ?_
  unfold bltB at h
  split at h <;> first | exact absurd rfl c1 | exact absurd rfl c2 | exact absurd rfl c3 | exact absurd rfl c4 | exact absurd rfl c5 | exact h
end
end Gp

namespace Gp
open PySem PySem.Spec PyProof.Rows L2
section
variable {T : Tb} {N : List Str} {M : Gm} {W : WX} {sc : Scope} {fns : Option Scope} {X : Cx}
theorem isiB_to {t : Ty} {x : Expr} (h : isiB sc t x = true) : ∃ p, x = .Name (Str.ofString (nmTy t)) p ∧ glB sc (Str.ofString (nmTy t)) = true := by
  unfold isiB at h
  split at h
  · rw [Bool.and_eq_true, beq_iff_eq] at h
    obtain ⟨rfl, h⟩ := h
    exact ⟨_, rfl, h⟩
  · cases h
theorem q_isi (a : E) (ts : List Ty) (ia : mE T N M a) : mE T N M (.isi a ts) := fun sc fns x h W X g => by
  obtain ⟨gg, y, z, p, rfl, h0⟩ := wCall2_to h
  clear h
  simp only [Bool.and_eq_true] at h0; obtain ⟨⟨⟨h1, h2⟩, h3⟩, h4⟩ := h0
  obtain ⟨p1, rfl, h5⟩ := gNm_to h1
  have ha := (ia sc fns y h4 W X g).v
  unfold isiBs at h2
  split at h2
  · rename_i t
    obtain ⟨p2, rfl, h6⟩ := isiB_to h2
    exact plain1 g.K rfl (fun m ρ S => rfl) (s_isi1 g h5 h6 h3 ha)
  · rename_i t u
    split at h2
    · rename_i b c k p2
      rw [Bool.and_eq_true] at h2
      obtain ⟨p3, rfl, h6⟩ := isiB_to h2.1
      obtain ⟨p4, rfl, h7⟩ := isiB_to h2.2
      exact plain1 g.K rfl (fun m ρ S => rfl) (s_isi2 g h5 h6 h7 h3 ha)
    · cases h2
  · cases h2
theorem q_mth (k : Mid) (o : E) (es : Es) (io : mE T N M o) (ih : mEs T N M es) : mE T N M (.mth k o es) := fun sc fns x h W X g => by
  obtain ⟨y, nm, q, xs, p, rfl, h0⟩ := wMth_to h
  clear h
  simp only [Bool.and_eq_true] at h0; obtain ⟨⟨⟨⟨h1, h2⟩, h3⟩, h4⟩, h5⟩ := h0
  have ho := (io sc fns y h4 W X g).v
  have qs := ih sc fns xs h5 W X g
  have len1 : ∀ n, (xs.length == n) = true → xs.length = n := fun n e => beq_iff_eq.mp e
  cases k <;> first | (cases h3; done) | skip
  · simp only [mthB, Bool.and_eq_true, beq_iff_eq] at h3
    obtain ⟨rfl, hl⟩ := h3
    match xs, hl, qs with
    | [z], _, qs =>
      obtain ⟨a, rfl, pz⟩ := qs.uno z rfl
      exact plain1 g.K rfl (fun m ρ S => rfl) (s_append g ho pz (by simpa using qs.star) h1 h2)
  · simp only [mthB, Bool.and_eq_true, beq_iff_eq] at h3
    obtain ⟨rfl, hl⟩ := h3
    match xs, hl, qs with
    | [], _, qs =>
      have : es = .nil := by
        cases es with
        | nil => rfl
        | cons a r => have := qs.len; simp [lenEs] at this
      subst this
      exact plain1 g.K rfl (fun m ρ S => rfl) (s_pop0 g ho h1 h2)
  · simp only [mthB, Bool.and_eq_true, beq_iff_eq] at h3
    obtain ⟨rfl, hl⟩ := h3
    match xs, hl, qs with
    | [z], _, qs =>
      obtain ⟨a, rfl, pz⟩ := qs.uno z rfl
      exact plain1 g.K rfl (fun m ρ S => rfl) (s_pop1 g ho pz (by simpa using qs.star) h1 h2)
  · simp only [mthB, Bool.and_eq_true, beq_iff_eq] at h3
    obtain ⟨rfl, hl⟩ := h3
    match xs, hl, qs with
    | [z], _, qs =>
      obtain ⟨a, rfl, pz⟩ := qs.uno z rfl
      exact plain1 g.K rfl (fun m ρ S => rfl) (s_extend g ho pz (by simpa using qs.star) h1 h2)
  · simp only [mthB, Bool.and_eq_true, beq_iff_eq] at h3
    obtain ⟨rfl, hl⟩ := h3
    match xs, hl, qs with
    | [z], _, qs =>
      obtain ⟨a, rfl, pz⟩ := qs.uno z rfl
      exact plain1 g.K rfl (fun m ρ S => rfl) (s_index g ho pz (by simpa using qs.star) h1 h2)
  · simp only [mthB, Bool.and_eq_true, beq_iff_eq] at h3
    obtain ⟨rfl, hl⟩ := h3
    match xs, hl, qs with
    | [z], _, qs =>
      obtain ⟨a, rfl, pz⟩ := qs.uno z rfl
      exact plain1 g.K rfl (fun m ρ S => rfl) (s_join g ho pz (by simpa using qs.star) h1 h2)
theorem q_idx (a b : E) (ia : mE T N M a) (ib : mE T N M b) : mE T N M (.idx a b) := fun sc fns x h W X g => by
  obtain ⟨y, z, p, rfl, h0⟩ := wSub_to h
  clear h
  simp only [Bool.and_eq_true] at h0; exact plain1 g.K rfl (fun m ρ S => rfl) (s_idx g.K g.hu h0.1.1 (ia sc fns y h0.1.2 W X g).v (ib sc fns z h0.2 W X g).v)
theorem bd_of {e : E} {l : Option Expr} (h : wOpt l (isNo e) (fun z => ckE T N e sc fns z) = true) (ie : mE T N M e) (g : Good M W N sc fns X) : ∃ t, PBd M.G W X l (fun ρ S => bndO (isNo e) (ev M.c e false ρ S) S) t := by
  rcases wOpt_to h with ⟨rfl, h1⟩ | ⟨y, rfl, h1, h2⟩
  · rw [h1]; exact ⟨_, bd_none⟩
  · rw [h1]; exact ⟨_, bd_some (ie sc fns y h2 W X g).v⟩
theorem q_slc (a lo hi : E) (ia : mE T N M a) (il : mE T N M lo) (ih : mE T N M hi) : mE T N M (.slc a lo hi) := fun sc fns x h W X g => by
  obtain ⟨y, l, u, q, p, rfl, h0⟩ := wSl_to h
  clear h
  simp only [Bool.and_eq_true] at h0; obtain ⟨t1, b1⟩ := bd_of h0.1.2 il g
  obtain ⟨t2, b2⟩ := bd_of h0.2 ih g
  exact plain1 g.K rfl (fun m ρ S => rfl) (s_slc g.K (ia sc fns y h0.1.1 W X g).v b1 b2)
theorem ifs_of {c : E} {xs : List Expr} {G : Wd} (h : wIfs xs (isNo c) (fun y => ckE T N c sc fns y) = true) (ic : mE T N M c) (g : Good M W N sc fns X) : PTs X xs (tet M.G W fun ρ S => tstO (isNo c) (ev M.c c true ρ S) S) := by
  rcases wIfs_to h with ⟨rfl, h1⟩ | ⟨y, rfl, h1, h2⟩
  · rw [h1]; exact s_ifs0
  · rw [h1]; exact pts_one (ic sc fns y h2 W X g).t
theorem blkB_to {ws : List Nat} {t : Tg} {scope : Scope} {g : Comprehension} (h : blkB N ws t sc scope g = true) : (∃ tg iter ifs, g = ⟨tg, iter, ifs, 0⟩) ∧ blkC N sc scope (ownOf N ws) = true ∧ (ownOf N ws).map (·.2) = ws ∧ tgIn ws t = true ∧ ckT N (relScope scope sc) (some scope) t g.target = true ∧ notSet g.iter = true := by
  unfold blkB at h
  simp only [Bool.and_eq_true, decide_eq_true_eq] at h; obtain ⟨⟨⟨⟨⟨h1, h2⟩, h3⟩, h4⟩, h5⟩, h6⟩ := h
  obtain ⟨tg, iter, ifs, a⟩ := g
  simp only at h1
  subst h1
  exact ⟨⟨_, _, _, rfl⟩, h2, h3, h4, h5, h6⟩
theorem q_lc (al : Bool) (ws : List Nat) (e : E) (t : Tg) (it : It) (c : E) (ie : mE T N M e) (ii : mI T N M it) (ic : mE T N M c) : mE T N M (.lc al ws e t it c) := fun sc fns x h W X g => by
  obtain ⟨elt, gg, scope, p, rfl, h0⟩ := wLc_to h
  clear h
  simp only [Bool.and_eq_true] at h0; obtain ⟨⟨⟨h1, h2⟩, h3⟩, h4⟩ := h0
  obtain ⟨⟨tg, iter, ifs, rfl⟩, b1, b2, b3, b4, b5⟩ := blkB_to h1
  have q := s_lc (own := ownOf N ws) (al := al) (pos := p) g (ii sc fns tg iter h2 W X g) b1 (by rw [b2]; exact b3) b4 (fun X' g' => ifs_of (G := M.G) h3 ic g') (fun X' g' => (ie _ _ elt h4 W0 X' g').v) b5
  rw [b2] at q
  exact plain1 g.K rfl (fun m ρ S => rfl) q
theorem q_lc2 (al : Bool) (ws ws2 : List Nat) (e : E) (t : Tg) (it : It) (c : E) (t2 : Tg) (it2 : It) (c2 : E) (ie : mE T N M e) (ii : mI T N M it) (ic : mE T N M c) (ii2 : mI T N M it2) (ic2 : mE T N M c2) : mE T N M (.lc2 al ws ws2 e t it c t2 it2 c2) := fun sc fns x h W X g => by
  obtain ⟨elt, gg, hh, scope, p, rfl, h0⟩ := wLc2_to h
  clear h
  simp only [Bool.and_eq_true] at h0; obtain ⟨⟨⟨⟨⟨⟨⟨⟨⟨⟨h1, a1⟩, a2⟩, a3⟩, a4⟩, a5⟩, h2⟩, h3⟩, h4⟩, h5⟩, h6⟩ := h0
  obtain ⟨⟨tg, iter, ifs, rfl⟩, b1, b2, b3, b4, b5⟩ := blkB_to h1
  obtain ⟨tg1, iter1, ifs1, z⟩ := hh
  have z0 : z = 0 := of_decide_eq_true a1
  subst z0
  have q := s_lc2 (own := ownOf N ws) (al := al) (pos := p) (ws1 := ws2) g (ii sc fns tg iter h2 W X g) b1 (fun i hi => by rw [b2]; simpa using List.all_eq_true.mp a2 i hi) (by rw [b2]; exact b3) a3 b4 a4 (fun X' g' => ifs_of (G := M.G) h4 ic g') (fun X' g' => ii2 _ _ tg1 iter1 h3 W0 X' g') (fun X' g' => ifs_of (G := M.G) h5 ic2 g') (fun X' g' => (ie _ _ elt h6 W0 X' g').v) b5 a5
  rw [b2] at q
  exact plain1 g.K rfl (fun m ρ S => rfl) q
theorem q_dc (al : Bool) (ws : List Nat) (k v : E) (t : Tg) (it : It) (c : E) (ik : mE T N M k) (iv : mE T N M v) (ii : mI T N M it) (ic : mE T N M c) : mE T N M (.dc al ws k v t it c) := fun sc fns x h W X g => by
  obtain ⟨kx, vx, gg, scope, p, rfl, h0⟩ := wDc_to h
  clear h
  simp only [Bool.and_eq_true] at h0; obtain ⟨⟨⟨⟨h1, h2⟩, h3⟩, h4⟩, h5⟩ := h0
  obtain ⟨⟨tg, iter, ifs, rfl⟩, b1, b2, b3, b4, b5⟩ := blkB_to h1
  have q := s_dc (own := ownOf N ws) (al := al) (pos := p) g (ii sc fns tg iter h2 W X g) b1 (by rw [b2]; exact b3) b4 (fun X' g' => ifs_of (G := M.G) h3 ic g') (fun X' g' => (ik _ _ kx h4 W0 X' g').v) (fun X' g' => (iv _ _ vx h5 W0 X' g').v) b5
  rw [b2] at q
  exact plain1 g.K rfl (fun m ρ S => rfl) q
theorem qs_nil : mEs T N M .nil := fun sc fns xs h W X g => by
  have h : xs.isEmpty = true := h
  cases xs with
  | cons _ _ => cases h
  | nil => exact ⟨s_anil, rfl, rfl, fun _ h => absurd rfl h, fun _ h => absurd rfl h, fun _ e => (nomatch e), fun _ _ e => (nomatch e)⟩
theorem qs_cons (a : E) (r : Es) (ia : mE T N M a) (ir : mEs T N M r) : mEs T N M (.cons a r) := fun sc fns xs h W X g => by
  obtain ⟨y, ys, rfl, h0⟩ := wCons_to h
  clear h
  simp only [Bool.and_eq_true] at h0; obtain ⟨⟨h1, h2⟩, h3⟩ := h0
  have qa := ia sc fns y h2 W X g
  have qr := ir sc fns ys h3 W X g
  have nil : ys = [] → r = .nil := fun e => by
    subst e
    cases r with
    | nil => rfl
    | cons b s => have := qr.len; simp [lenEs] at this
  refine ⟨s_acons h1 qa.v qr.pa, by simp [h1, qr.star], by rw [List.length_cons, qr.len]; rfl, fun pos _ => ?_, fun pos _ => ?_, fun z e => ?_, fun z w e => ?_⟩
  · cases ys with
    | nil => cases nil rfl; exact s_and1 qa
    | cons z zs =>
      cases r with
      | nil => have := qr.len; simp [lenEs] at this
      | cons b s => exact s_and g.K qa (qr.an pos (by simp))
  · cases ys with
    | nil => cases nil rfl; exact s_or1 qa
    | cons z zs =>
      cases r with
      | nil => have := qr.len; simp [lenEs] at this
      | cons b s => exact s_or g.K qa (qr.or pos (by simp))
  · injection e with e1 e2
    subst e1
    rw [nil e2]
    exact ⟨a, rfl, qa.v⟩
  · injection e with e1 e2
    subst e1
    obtain ⟨b, rfl, hb⟩ := qr.uno w e2
    exact ⟨a, b, rfl, qa.v, hb⟩
theorem qi_ex (e : E) (ie : mE T N M e) : mI T N M (.ex e) := fun sc fns tg x h W X g => i_ex g.K (ie sc fns x h W X g).v
theorem qi_r1 (a : E) (ia : mE T N M a) : mI T N M (.r1 a) := fun sc fns tg x h W X g => by
  obtain ⟨gg, y, p, rfl, h0⟩ := wCall1_to h
  clear h
  simp only [Bool.and_eq_true] at h0; obtain ⟨p1, rfl, h1⟩ := gNm_to h0.1.1
  exact i_r1 (g.gl h1) (g.mg ▸ g.bl _ (by decide)) h0.1.2 (ia sc fns y h0.2 W X g).v
theorem qi_r2 (a b : E) (ia : mE T N M a) (ib : mE T N M b) : mI T N M (.r2 a b) := fun sc fns tg x h W X g => by
  obtain ⟨gg, y, z, p, rfl, h0⟩ := wCall2_to h
  clear h
  simp only [Bool.and_eq_true] at h0; obtain ⟨p1, rfl, h1⟩ := gNm_to h0.1.1.1.1
  exact i_r2 (g.gl h1) (g.mg ▸ g.bl _ (by decide)) h0.1.1.1.2 h0.1.1.2 (ia sc fns y h0.1.2 W X g).v (ib sc fns z h0.2 W X g).v
theorem q_dct (al : Bool) (ks vs : Es) : mE T N M (.dct al ks vs) := fun sc fns x h W X g => by
  have h : (isNil ks && isNil vs && wDct0 x) = true := h
  simp only [Bool.and_eq_true] at h; obtain ⟨⟨h1, h2⟩, h3⟩ := h
  cases ks with
  | cons _ _ => cases h1
  | nil =>
    cases vs with
    | cons _ _ => cases h2
    | nil =>
      obtain ⟨p, rfl⟩ := wDct0_to h3
      refine plain1 (f := fun ρ S => mkV al (some (.dict [] [])) S) g.K rfl (fun m ρ S => rfl) (PE.mono pe_dnewK fun σ H Q h => ?_)
      obtain ⟨mu, bn, ρ, S, A, h⟩ := h.out
      intro q hq
      have w := WtD.start A.R hq
      exact dct_fin h hq w
theorem q_dctT : mE T N M .dctT := fun sc fns x h W X g => by
  obtain ⟨p, rfl⟩ := wDct0_to h
  exact plain1 (f := fun ρ S => .ok (.ref S.length) (S ++ [.dicT [] []])) g.K rfl (fun m ρ S => rfl) s_dctT
theorem get_of {o k d : E} {xs : List Expr} (h : wCons xs (fun z zs => notStar z && ckE T N k sc fns z && wCons zs fun w ws => notStar w && ckE T N d sc fns w && ws.isEmpty) = true) :
    ∃ z w, xs = [z, w] ∧ notStar z = true ∧ notStar w = true ∧ ckE T N k sc fns z = true ∧ ckE T N d sc fns w = true := by
  obtain ⟨z, zs, rfl, h0⟩ := wCons_to h
  clear h
  simp only [Bool.and_eq_true] at h0; obtain ⟨w, ws, rfl, h2⟩ := wCons_to h0.2
  simp only [Bool.and_eq_true, List.isEmpty_iff] at h2
  obtain ⟨⟨h3, h4⟩, rfl⟩ := h2
  exact ⟨z, w, rfl, h0.1.1, h3, h0.1.2, h4⟩
theorem q_getT (o k d : E) (io : mE T N M o) (ik : mE T N M k) (id : mE T N M d) : mE T N M (.getT o k d) := fun sc fns x h W X g => by
  obtain ⟨y, nm, q, xs, p, rfl, h0⟩ := wMth_to h
  clear h
  simp only [Bool.and_eq_true, beq_iff_eq] at h0; obtain ⟨⟨⟨⟨h1, h2⟩, rfl⟩, h4⟩, h5⟩ := h0
  obtain ⟨z, w, rfl, e1, e2, e3, e4⟩ := get_of (o := o) h5
  exact plain1 g.K rfl (fun m ρ S => rfl) (s_getT g.hu (io sc fns y h4 W X g).v (ik sc fns z e3 W X g).v (id sc fns w e4 W X g).v e1 e2 h1 (beq_iff_eq.mpr h2))
theorem q_getK (o k d : E) (io : mE T N M o) (ik : mE T N M k) (id : mE T N M d) : mE T N M (.getK o k d) := fun sc fns x h W X g => by
  obtain ⟨y, nm, q, xs, p, rfl, h0⟩ := wMth_to h
  clear h
  simp only [Bool.and_eq_true, beq_iff_eq] at h0; obtain ⟨⟨⟨⟨h1, h2⟩, rfl⟩, h4⟩, h5⟩ := h0
  obtain ⟨z, w, rfl, e1, e2, e3, e4⟩ := get_of (o := o) h5
  exact plain1 g.K rfl (fun m ρ S => rfl) (s_getK g.hu (io sc fns y h4 W X g).v (ik sc fns z e3 W X g).v (id sc fns w e4 W X g).v e1 e2 h1 (beq_iff_eq.mpr h2))
theorem q_dsp2 (j k : List Nat) (a b : E) (ia : mE T N M a) (ib : mE T N M b) : mE T N M (.dsp2 j k a b) := fun sc fns x h W X g => by
  obtain ⟨i1, p1, i2, p2, y, z, p, rfl, h0⟩ := wDsp_to h
  clear h
  simp only [Bool.and_eq_true] at h0; exact plain1 g.K rfl (fun m ρ S => rfl) (s_dsp2 (ia sc fns y h0.1 W X g).v (ib sc fns z h0.2 W X g).v)
theorem q_valsT (o : E) (io : mE T N M o) : mE T N M (.valsT o) := fun sc fns x h W X g => by
  obtain ⟨gg, r, p, rfl, h0⟩ := wCall1_to h
  clear h
  rw [Bool.and_eq_true] at h0
  obtain ⟨p1, rfl, h1⟩ := gNm_to h0.1
  obtain ⟨y, nm, q, xs, p, rfl, h2⟩ := wMth_to h0.2
  simp only [Bool.and_eq_true, beq_iff_eq, List.isEmpty_iff] at h2
  obtain ⟨⟨⟨⟨h3, h4⟩, rfl⟩, rfl⟩, h5⟩ := h2
  exact plain1 g.K rfl (fun m ρ S => rfl) (s_valsT g h1 (io sc fns y h5 W X g).v h3 (beq_iff_eq.mpr h4))
theorem q_tkB (a : E) (ia : mE T N M a) : mE T N M (.tkB a) := fun sc fns x h W X g => by
  obtain ⟨gg, y, p, rfl, h0⟩ := wCall1_to h
  clear h
  simp only [Bool.and_eq_true] at h0; obtain ⟨p1, rfl, h1⟩ := gNm_to h0.1.1
  exact plain1 g.K rfl (fun m ρ S => rfl) (s_tkB g h1 h0.1.2 (ia sc fns y h0.2 W X g).v)
theorem q_tkD (es : Es) (ih : mEs T N M es) : mE T N M (.tkD es) := fun sc fns x h W X g => by
  obtain ⟨xs, k, p, rfl, h0⟩ := wTup_to h
  clear h; have h := h0; clear h0
  rw [Bool.and_eq_true, decide_eq_true_eq] at h; have q := ih sc fns xs h.2 W X g
  exact plain1 g.K rfl (fun m ρ S => rfl) (s_tkD (n := lenEs es) (by rw [← q.len]; exact h.1) (fun ρ S ls S' e => evEs_len M es ρ S ls S' e) q.pa)
theorem q_rev (a : E) (ia : mE T N M a) : mE T N M (.rev a) := fun sc fns x h W X g => by
  obtain ⟨y, k, p1, p2, p3, p, rfl, h0⟩ := wRev_to h
  exact plain1 g.K rfl (fun m ρ S => rfl) (s_rev g.K (ia sc fns y h0 W X g).v)
theorem q_lstar (a b : E) (ia : mE T N M a) (ib : mE T N M b) : mE T N M (.lstar a b) := fun sc fns x h W X g => by
  obtain ⟨y, z, q, p, rfl, h0⟩ := wLstar_to h
  clear h
  simp only [Bool.and_eq_true] at h0; exact plain1 g.K rfl (fun m ρ S => rfl) (s_lstar g h0.1.1 (ia sc fns y h0.1.2 W X g).v (ib sc fns z h0.2 W X g).v)
theorem qi_enum (a : E) (ia : mE T N M a) : mI T N M (.enum a) := fun sc fns tg x h W X g => by
  have h : (isTupE tg && wCall1 x fun g y => gNm sc "enumerate" g && notStar y && ckE T N a sc fns y) = true := h
  rw [Bool.and_eq_true] at h
  obtain ⟨es, k, p0, rfl⟩ := isTupE_to h.1
  obtain ⟨gg, y, p, rfl, h0⟩ := wCall1_to h.2
  simp only [Bool.and_eq_true] at h0; obtain ⟨p1, rfl, h1⟩ := gNm_to h0.1.1
  exact i_enum g.K (g.gl h1) (g.mg ▸ g.bl _ (by decide)) h0.1.2 (ia sc fns y h0.2 W X g).v
theorem qi_zip (a b : E) (ia : mE T N M a) (ib : mE T N M b) : mI T N M (.zip a b) := fun sc fns tg x h W X g => by
  have h : (isTupE tg && wCall2 x fun g y z => gNm sc "zip" g && notStar y && notStar z && ckE T N a sc fns y && ckE T N b sc fns z) = true := h
  rw [Bool.and_eq_true] at h
  obtain ⟨es, k, p0, rfl⟩ := isTupE_to h.1
  obtain ⟨gg, y, z, p, rfl, h0⟩ := wCall2_to h.2
  simp only [Bool.and_eq_true] at h0; obtain ⟨p1, rfl, h1⟩ := gNm_to h0.1.1.1.1
  exact i_zip g.K (g.gl h1) (g.mg ▸ g.bl _ (by decide)) h0.1.1.1.2 h0.1.1.2 (ia sc fns y h0.1.2 W X g).v (ib sc fns z h0.2 W X g).v
theorem q_bad {e : E} (h : ∀ sc fns x, ckE T N e sc fns x = false) : mE T N M e := fun sc fns x h' W X g => by rw [h] at h'; cases h'
theorem qi_bad {e : It} (h : ∀ sc fns t x, ckI T N e sc fns t x = false) : mI T N M e := fun sc fns t x h' W X g => by rw [h] at h'; cases h'
theorem sndE (tb : TbOk T M) (e : E) : mE T N M e :=
  E.rec (motive_1 := mE T N M) (motive_2 := mEs T N M) (motive_3 := mI T N M)
    q_no q_var (fun p => q_con p tb) q_tup q_lst (fun al ks vs _ _ => q_dct al ks vs) q_dctT q_getT q_getK q_dsp2 q_valsT q_tkB q_tkD q_bin q_neg q_not q_and q_or q_ite q_cmp q_chain
    (fun f es ih => q_call f es tb ih) q_blt q_isi q_mth (fun _ _ _ => q_bad fun _ _ _ => rfl) (fun _ _ _ _ _ => q_bad fun _ _ _ => rfl) (fun _ _ _ => q_bad fun _ _ _ => rfl)
    q_idx q_slc q_rev q_lstar q_lc q_lc2 q_dc qs_nil qs_cons qi_ex qi_r1 qi_r2 qi_enum qi_zip (fun _ _ => qi_bad fun _ _ _ _ => rfl) e
theorem sndEs (tb : TbOk T M) (es : Es) : mEs T N M es := Es.rec (motive_1 := mE T N M) (motive_2 := mEs T N M) (motive_3 := mI T N M)
    q_no q_var (fun p => q_con p tb) q_tup q_lst (fun al ks vs _ _ => q_dct al ks vs) q_dctT q_getT q_getK q_dsp2 q_valsT q_tkB q_tkD q_bin q_neg q_not q_and q_or q_ite q_cmp q_chain
    (fun f es ih => q_call f es tb ih) q_blt q_isi q_mth (fun _ _ _ => q_bad fun _ _ _ => rfl) (fun _ _ _ _ _ => q_bad fun _ _ _ => rfl) (fun _ _ _ => q_bad fun _ _ _ => rfl)
    q_idx q_slc q_rev q_lstar q_lc q_lc2 q_dc qs_nil qs_cons qi_ex qi_r1 qi_r2 qi_enum qi_zip (fun _ _ => qi_bad fun _ _ _ _ => rfl) es
theorem sndI (tb : TbOk T M) (it : It) : mI T N M it := It.rec (motive_1 := mE T N M) (motive_2 := mEs T N M) (motive_3 := mI T N M)
    q_no q_var (fun p => q_con p tb) q_tup q_lst (fun al ks vs _ _ => q_dct al ks vs) q_dctT q_getT q_getK q_dsp2 q_valsT q_tkB q_tkD q_bin q_neg q_not q_and q_or q_ite q_cmp q_chain
    (fun f es ih => q_call f es tb ih) q_blt q_isi q_mth (fun _ _ _ => q_bad fun _ _ _ => rfl) (fun _ _ _ _ _ => q_bad fun _ _ _ => rfl) (fun _ _ _ => q_bad fun _ _ _ => rfl)
    q_idx q_slc q_rev q_lstar q_lc q_lc2 q_dc qs_nil qs_cons qi_ex qi_r1 qi_r2 qi_enum qi_zip (fun _ _ => qi_bad fun _ _ _ _ => rfl) it
end
end Gp

namespace L2
open PySem PySem.Spec PyProof.Rows
/-- in every context of the block -/
abbrev InBlk (X : Cx) (scope : Scope) (J : Cx → Prop) : Prop := ∀ s H C cl fp, J (X.blk s H scope (compEnvC scope cl C X.env) fp)
theorem ps_setDcG {X : Cx} {i : Nat} {y : Str} {py : Pos} {kx vx tg it : Expr} {cs : List Expr} {scope : Scope} {ow : List (Str × Nat)} {pos sp : Pos} {wi : TI} {g : TG} {tt : TT} {tk tv : TE} (hc : X.calm = true) (hN : X.N.Nodup) (hy : X.N[i]? = some y) (hyl : X.env.scope.names.lookup y = some .local)
    (hsw : swapsWith (.DictComp kx vx [⟨tg, it, cs, 0⟩] scope pos) (some (.Name y py)) sp.line X.env = pure true) (hi : PI X tg it wi) (ok : BlkOk X.N X.env.scope scope ow)
    (hg : InBlk X scope fun Y => PG Y tg g) (ht : InBlk X scope fun Y => PTs Y cs tt) (hk : InBlk X scope fun Y => PE Y kx tk) (he : InBlk X scope fun Y => PE Y vx tv) (hs : ∀ x, foldedSetIterable it X.env x = pure x) :
    PS X (.Assign [.Name y py] (.DictComp kx vx [⟨tg, it, cs, 0⟩] scope pos) sp) (tAsg (tDc wi g tt tk tv (ow.map (·.2))) (gName i)) := by
  constructor
  intro pins s0 σ0 H0 D0 I0 hw
  rw [exec_Assign_Name_used y py _ _ hsw]
  apply wpAny_bind; apply wpAny_standAt; apply wpAny_bind
  show wpAny _ X.A (do let _ ← comprehension (.DictComp kx vx [⟨tg, it, cs, 0⟩] scope pos) scope X.env (firstIterPos [⟨tg, it, cs, 0⟩] pos) newDict false (eval it X.env) (some (assign (.Name y py) X.env))) _ _ s0
  have hw' : tDc wi g tt tk tv (ow.map (·.2)) σ0 H0 (fun x H1 => gName i x σ0 H1 D0.nx) := hw
  apply wpAny_bind
  refine thn (dc_core (Qf := fun _ s1 => SP X pins D0 .next s1) hc hN I0 hi ok hg ht hk he hs hw' fun dct blk s1 nm H1 I1 qd hns fo => ?_) fun _ _ hq => wpAny_pure (wpAny_pure hq)
  show wpAny _ _ (assign (.Name y py) X.env (.ref dct)) _ _ _
  refine wpAny_assign_Name (store_ok2 (v := V.ref dct) I1 hN hy (.inl hyl) rfl (fun s2 I2 ⟨ad, same, had⟩ => ?_) (.inr hyl))
  obtain ⟨z0, z1, z2, z3, z4, z5⟩ := fo
  have apart : blk ≠ ad := by
    rcases had with w | w
    · rw [w]; exact z1
    · exact fun e => z4 y ad w e.symm
  refine ⟨nm, hns.sameBut same apart, fun h3 same3 => ⟨_, H1, ?_, qd⟩⟩
  exact I2.turned (t' := s2.toks) (fun b o hb e => (same3.2 b hb).trans e) z0 z1 z3 z4 z5
end L2
namespace Gp
open PySem PySem.Spec PyProof.Rows L2
section
variable {T : Tb} {N : List Str} {M : Gm} {W : WX} {sc : Scope} {fns : Option Scope} {X : Cx}
def isLcB : E → Expr → Bool
  | .lc _ _ _ _ _ _, .ListComp _ _ _ _ => true
  | .lc2 _ _ _ _ _ _ _ _ _ _, .ListComp _ _ _ _ => true
  | .dc _ _ _ _ _ _ _, .DictComp _ _ _ _ _ => true
  | _, _ => false
/-- name = a block, on the name's line -/
theorem s_setC (tb : TbOk T M) (g : Good M W N sc fns X) (hk : sc.kind = .function) {i : Nat} {y : Str} {py pos : Pos} {e : E} {v : Expr} (hi : N[i]? = some y) (hl : sc.names.lookup y = some .local) (hs : swB sc y py v = true) (hc : isLcB e v = true) (h : ckE T N e sc fns v = true) :
    PS X (.Assign [.Name y py] v pos) (tes M.G W fun ρ S => (ev M.c e false ρ S).bind fun l S => lift ((bindT (.nm i) l ρ).map .nx) S) := by
  have hN : X.N.Nodup := by rw [g.nms.nm]; exact g.nms.nd
  have hy : X.N[i]? = some y := by rw [g.nms.nm]; exact hi
  have hyl : X.env.scope.names.lookup y = some .local := by rw [g.nms.sc]; exact hl
  have hsw : ∀ l, swapsWith v (some (.Name y py)) l X.env = pure true := fun l => by rw [sw_name _ _ _ _ _ (by rw [g.nms.sc]; exact hk), g.nms.sc, hs]
  cases e <;> first | (cases v <;> (cases hc; done)) | skip
  · rename_i al ws e t it c
    obtain ⟨elt, gg, scope, p, rfl, h0⟩ := wLc_to h
    clear h
    simp only [Bool.and_eq_true] at h0; obtain ⟨⟨⟨h1, h2⟩, h3⟩, h4⟩ := h0
    obtain ⟨⟨tg, iter, ifs, rfl⟩, b1, b2, b3, b4, b5⟩ := blkB_to h1
    have he : InB M N sc scope fun X' => PE X' elt (tev M.G W0 fun ρ S => ev M.c e false ρ S) := fun X' g' => (sndE tb e _ _ elt h4 W0 X' g').v
    have hf : InB M N sc scope fun X' => PTs X' ifs (tet M.G W0 fun ρ S => tstO (isNo c) (ev M.c c true ρ S) S) := fun X' g' => ifs_of (G := M.G) h3 (sndE tb c) g'
    have q := ps_setLc (i := i) (py := py) (spos := pos) g.calm hN hy hyl (hsw _) (sndI tb it sc fns tg iter h2 W X g) (blk_ok g b1) (fun s H C cl fp => pg_blk (g.blk s H scope C cl fp) b4) (fun s H C cl fp => hf _ (g.blk s H scope C cl fp)) (fun s H C cl fp => he _ (g.blk s H scope C cl fp)) (fold_plain b5 X.env)
    exact PS.mono q fun D σ H h => red_set (fe := fun ρ S => ev M.c (.lc al ws e t it c) false ρ S) (fun σ H Q h => by rw [b2]; exact red_lc b3 h) h
  · rename_i al ws ws2 e t it c t2 it2 c2
    obtain ⟨elt, gg, hh, scope, p, rfl, h0⟩ := wLc2_to h
    clear h
    simp only [Bool.and_eq_true] at h0; obtain ⟨⟨⟨⟨⟨⟨⟨⟨⟨⟨h1, a1⟩, a2⟩, a3⟩, a4⟩, a5⟩, h2⟩, h3⟩, h4⟩, h5⟩, h6⟩ := h0
    obtain ⟨⟨tg, iter, ifs, rfl⟩, b1, b2, b3, b4, b5⟩ := blkB_to h1
    obtain ⟨tg1, iter1, ifs1, z⟩ := hh
    have z0 : z = 0 := of_decide_eq_true a1
    subst z0
    have he : InB M N sc scope fun X' => PE X' elt (tev M.G W0 fun ρ S => ev M.c e false ρ S) := fun X' g' => (sndE tb e _ _ elt h6 W0 X' g').v
    have hf : InB M N sc scope fun X' => PTs X' ifs (tet M.G W0 fun ρ S => tstO (isNo c) (ev M.c c true ρ S) S) := fun X' g' => ifs_of (G := M.G) h4 (sndE tb c) g'
    have hf1 : InB M N sc scope fun X' => PTs X' ifs1 (tet M.G W0 fun ρ S => tstO (isNo c2) (ev M.c c2 true ρ S) S) := fun X' g' => ifs_of (G := M.G) h5 (sndE tb c2) g'
    have hi1 : InB M N sc scope fun X' => PI X' tg1 iter1 (tiv M.G W0 fun ρ S => evI M.c it2 ρ S) := fun X' g' => sndI tb it2 _ _ tg1 iter1 h3 W0 X' g'
    have q := ps_setLc2 (i := i) (py := py) (spos := pos) (vs1 := ws2) g.calm hN hy hyl (hsw _) (sndI tb it sc fns tg iter h2 W X g) (blk_ok g b1) (fun i hi => by rw [b2]; simpa using List.all_eq_true.mp a2 i hi) (fun s H C cl fp => pg_blk (g.blk s H scope C cl fp) b4) (fun s H C cl fp => hf _ (g.blk s H scope C cl fp))
      (fun s H C cl fp => hi1 _ (g.blk s H scope C cl fp)) (fun s H C cl fp => pg_blk (g.blk s H scope C cl fp) a4) (fun s H C cl fp => hf1 _ (g.blk s H scope C cl fp)) (fun s H C cl fp => he _ (g.blk s H scope C cl fp)) (fold_plain b5 X.env) (fun env => fold_plain a5 env)
    exact PS.mono q fun D σ H h => red_set (fe := fun ρ S => ev M.c (.lc2 al ws ws2 e t it c t2 it2 c2) false ρ S) (fun σ H Q h => by rw [b2]; exact red_lc2 b3 a3 h) h
  · rename_i al ws k w t it c
    obtain ⟨kx, vx, gg, scope, p, rfl, h0⟩ := wDc_to h
    clear h
    simp only [Bool.and_eq_true] at h0; obtain ⟨⟨⟨⟨h1, h2⟩, h3⟩, h4⟩, h5⟩ := h0
    obtain ⟨⟨tg, iter, ifs, rfl⟩, b1, b2, b3, b4, b5⟩ := blkB_to h1
    have hf : InB M N sc scope fun X' => PTs X' ifs (tet M.G W0 fun ρ S => tstO (isNo c) (ev M.c c true ρ S) S) := fun X' g' => ifs_of (G := M.G) h3 (sndE tb c) g'
    have hk' : InB M N sc scope fun X' => PE X' kx (tev M.G W0 fun ρ S => ev M.c k false ρ S) := fun X' g' => (sndE tb k _ _ kx h4 W0 X' g').v
    have he : InB M N sc scope fun X' => PE X' vx (tev M.G W0 fun ρ S => ev M.c w false ρ S) := fun X' g' => (sndE tb w _ _ vx h5 W0 X' g').v
    have q := ps_setDcG (i := i) (py := py) (sp := pos) g.calm hN hy hyl (hsw _) (sndI tb it sc fns tg iter h2 W X g) (blk_ok g b1) (fun s H C cl fp => pg_blk (g.blk s H scope C cl fp) b4) (fun s H C cl fp => hf _ (g.blk s H scope C cl fp)) (fun s H C cl fp => hk' _ (g.blk s H scope C cl fp)) (fun s H C cl fp => he _ (g.blk s H scope C cl fp)) (fold_plain b5 X.env)
    exact PS.mono q fun D σ H h => red_set (fe := fun ρ S => ev M.c (.dc al ws k w t it c) false ρ S) (fun σ H Q h => by rw [b2]; exact red_dc b3 h) h
end
end Gp

namespace Gp
open PySem PySem.Spec PyProof.Rows L2
def isFrz : S → Bool
  | .frz _ => true
  | _ => false
def wAug (x : Stmt) (f : Str → Operator → Expr → Bool) : Bool :=
  match x with
  | .AugAssign (.Name y q) op v p => f y op v
  | _ => false
theorem wAug_to {x : Stmt} {f : Str → Operator → Expr → Bool} (h : wAug x f = true) : ∃ y op v q p, x = .AugAssign (.Name y q) op v p ∧ f y op v = true := by
  unfold wAug at h
  split at h
  · exact ⟨_, _, _, _, _, rfl, h⟩
  · cases h
def wExp (x : Stmt) (f : Expr → Bool) : Bool :=
  match x with
  | .Expr v p => f v
  | _ => false
theorem wExp_to {x : Stmt} {f : Expr → Bool} (h : wExp x f = true) : ∃ v p, x = .Expr v p ∧ f v = true := by
  unfold wExp at h
  split at h
  · exact ⟨_, _, rfl, h⟩
  · cases h
def wFor (x : Stmt) (f : Expr → Expr → List Stmt → Bool) : Bool :=
  match x with
  | .For tg iter body [] p => f tg iter body
  | _ => false
theorem wFor_to {x : Stmt} {f : Expr → Expr → List Stmt → Bool} (h : wFor x f = true) : ∃ tg iter body p, x = .For tg iter body [] p ∧ f tg iter body = true := by
  unfold wFor at h
  split at h
  · exact ⟨_, _, _, _, rfl, h⟩
  · cases h
def wWhl (x : Stmt) (f : Expr → List Stmt → Bool) : Bool :=
  match x with
  | .While c body [] p => f c body
  | _ => false
theorem wWhl_to {x : Stmt} {f : Expr → List Stmt → Bool} (h : wWhl x f = true) : ∃ c body p, x = .While c body [] p ∧ f c body = true := by
  unfold wWhl at h
  split at h
  · exact ⟨_, _, _, rfl, h⟩
  · cases h
def wIfS (x : Stmt) (f : Expr → List Stmt → List Stmt → Bool) : Bool :=
  match x with
  | .If c a b p => f c a b
  | _ => false
theorem wIfS_to {x : Stmt} {f : Expr → List Stmt → List Stmt → Bool} (h : wIfS x f = true) : ∃ c a b p, x = .If c a b p ∧ f c a b = true := by
  unfold wIfS at h
  split at h
  · exact ⟨_, _, _, _, rfl, h⟩
  · cases h
def wRet (x : Stmt) (f : Expr → Bool) : Bool :=
  match x with
  | .Return (some v) p => f v
  | _ => false
theorem wRet_to {x : Stmt} {f : Expr → Bool} (h : wRet x f = true) : ∃ v p, x = .Return (some v) p ∧ f v = true := by
  unfold wRet at h
  split at h
  · exact ⟨_, _, rfl, h⟩
  · cases h
def isRetN : Stmt → Bool
  | .Return none _ => true
  | _ => false
def isPass : Stmt → Bool
  | .Pass _ => true
  | _ => false
def isBrk : Stmt → Bool
  | .Break _ => true
  | _ => false
def isCnt : Stmt → Bool
  | .Continue _ => true
  | _ => false
def wConsS (xs : List Stmt) (f : Stmt → List Stmt → Bool) : Bool :=
  match xs with
  | y :: ys => f y ys
  | [] => false
theorem wConsS_to {xs : List Stmt} {f : Stmt → List Stmt → Bool} (h : wConsS xs f = true) : ∃ y ys, xs = y :: ys ∧ f y ys = true := by
  cases xs with
  | nil => cases h
  | cons y ys => exact ⟨y, ys, rfl, h⟩
def noneB (sc : Scope) (tg v : Expr) : Bool :=
  match v with
  | .Tuple vs _ _ => match tg with
    | .Tuple ts _ _ => decide (stN sc ts vs = some none)
    | _ => false
  | _ => true
variable (T : Tb) (N : List Str)
def asgB (t : Tgt) (e : E) (sc : Scope) (fns : Option Scope) (x : Stmt) : Bool :=
  match x with
  | .Assign [.Name y py] v _ => match t with
    | .g (.nm i) => decide (N[i]? = some y) && (match swB sc y py v with
      | true => decide (sc.names.lookup y = some .local) && isLcB e v && ckE T N e sc fns v
      | false => locB sc fns y && ckE T N e sc fns v)
    | _ => false
  | .Assign [.Subscript o i p] v _ => match t with
    | .sub eo ei => plainIx i && ckE T N eo sc fns o && ckE T N ei sc fns i && ckE T N e sc fns v
    | _ => false
  | .Assign [.Tuple ts k p] v _ => match t with
    | .g tg => ckT N sc fns tg (.Tuple ts k p) && noneB sc (.Tuple ts k p) v && ckE T N e sc fns v
    | _ => false
  | _ => false
def locN (sc : Scope) (i : Nat) (x : Str) : Bool := decide (N[i]? = some x) && decide (sc.names.lookup x = some .local)
def parB (is : List Nat) (es : Es) (sc : Scope) (fns : Option Scope) (x : Stmt) : Bool :=
  match x with
  | .Assign [.Tuple [.Name y py, .Name z pz] kt pt] (.Tuple [a, b] k2 pt2) _ => match is with
    | [i, j] => decide (i ≠ j) && locN N sc i y && locN N sc j z && decide (stN sc [.Name y py, .Name z pz] [a, b] = some (some [y, z])) && ckEs T N es sc fns [a, b]
    | _ => false
  | .Assign [.Tuple [.Name y py, .Name z pz, .Name u pu] kt pt] (.Tuple [a, b, c] k2 pt2) _ => match is with
    | [i, j, l] => decide (i ≠ j) && decide (i ≠ l) && decide (j ≠ l) && locN N sc i y && locN N sc j z && locN N sc l u && decide (stN sc [.Name y py, .Name z pz, .Name u pu] [a, b, c] = some (some [y, z, u])) && ckEs T N es sc fns [a, b, c]
    | _ => false
  | _ => false
def parCB (t : Tg) (es : Es) (sc : Scope) (fns : Option Scope) (x : Stmt) : Bool :=
  match x with
  | .Assign [.Tuple ts k p] (.Tuple vs k2 p2) _ => ckT N sc fns t (.Tuple ts k p) && decide (stN sc ts vs = some none) && ckEs T N es sc fns vs
  | _ => false
mutual
def ckS : S → Scope → Option Scope → Stmt → Bool
  | .asg t e, sc, fns, x => asgB T N t e sc fns x
  | .par is es, sc, fns, x => parB T N is es sc fns x
  | .parC t es, sc, fns, x => parCB T N t es sc fns x
  | .aug i o e, sc, fns, x => wAug x fun y op v => augOp op o && decide (N[i]? = some y) && locB sc fns y && ckE T N e sc fns v
  | .augF _ _ _ _, _, _, _ => false
  | .exp e, sc, fns, x => isNo e || wExp x fun v => notComp v && ckE T N e sc fns v
  | .forr t it b, sc, fns, x => wFor x fun tg iter body => ckT N sc fns t tg && notSet iter && ckI T N it sc fns tg iter && ckSs b sc fns body
  | .whl c b, sc, fns, x => wWhl x fun y body => ckE T N c sc fns y && ckSs b sc fns body
  | .iff c a b, sc, fns, x => wIfS x fun y p q => ckE T N c sc fns y && ckSs a sc fns p && ckSs b sc fns q
  | .ret e, sc, fns, x => wRet x fun v => ckE T N e sc fns v
  | .retn, _, _, x => isRetN x
  | .rais _ _, _, _, _ => false
  | .pass, _, _, x => isPass x
  | .brk, _, _, x => isBrk x
  | .cnt, _, _, x => isCnt x
  | .frz _, _, _, _ => false
def ckSs : Ss → Scope → Option Scope → List Stmt → Bool
  | .nil, _, _, xs => xs.isEmpty
  | .cons s r, sc, fns, xs => (isFrz s && ckSs r sc fns xs) || wConsS xs fun y ys => ckS s sc fns y && ckSs r sc fns ys
end
section
variable (M : Gm)
def mS (s : S) : Prop := ∀ sc fns x, sc.kind = .function → ckS T N s sc fns x = true → ∀ W X, Good M W N sc fns X → PS X x (tes M.G W fun ρ S => evS M.c s ρ S)
def mSs (ss : Ss) : Prop := ∀ sc fns xs, sc.kind = .function → ckSs T N ss sc fns xs = true → ∀ W X, Good M W N sc fns X → PSs X xs (tes M.G W fun ρ S => evSs M.c ss ρ S)
end
section
variable {T : Tb} {N : List Str} {M : Gm} {W : WX} {sc : Scope} {fns : Option Scope} {X : Cx}
theorem tes_of {x : Stmt} {f g : Env → Store → Res Flow} {G : Wd} (h : PS X x (tes G W f)) (e : ∀ ρ S, g ρ S = f ρ S) : PS X x (tes G W g) := by
  have : g = f := by funext ρ S; exact e ρ S
  rw [this]; exact h
theorem t_asg (t : Tgt) (e : E) (tb : TbOk T M) : mS T N M (.asg t e) := fun sc fns x hk h W X g => by
  have h : asgB T N t e sc fns x = true := h
  unfold asgB at h
  split at h
  · rename_i y py v pos _
    split at h
    · rename_i i
      rw [Bool.and_eq_true, decide_eq_true_eq] at h; obtain ⟨h1, h2⟩ := h
      cases hs : swB sc y py v with
      | true =>
        rw [hs] at h2
        simp only [Bool.and_eq_true, decide_eq_true_eq] at h2; exact tes_of (s_setC tb g hk h1 h2.1.1 hs h2.1.2 h2.2) fun ρ S => rfl
      | false =>
        rw [hs] at h2
        simp only [Bool.and_eq_true] at h2
        exact tes_of (s_set g hk h1 h2.1 (sndE tb e sc fns v h2.2 W X g).v hs) fun ρ S => rfl
    · cases h
  · rename_i o i p v pos _
    split at h
    · rename_i eo ei _
      simp only [Bool.and_eq_true] at h; exact tes_of (s_sub g h.1.1.1 (sndE tb eo sc fns o h.1.1.2 W X g).v (sndE tb ei sc fns i h.1.2 W X g).v (sndE tb e sc fns v h.2 W X g).v) fun ρ S => rfl
    · cases h
  · rename_i ts k p v pos _
    split at h
    · rename_i tg
      simp only [Bool.and_eq_true] at h; refine tes_of (s_tgt g h.1.1 (sndE tb e sc fns v h.2 W X g).v rfl ?_) fun ρ S => rfl
      have h2 := h.1.2
      unfold noneB at h2
      split at h2
      · exact stN_ok g.nms.sc hk (of_decide_eq_true h2)
      · rename_i hn
        cases v <;> first | rfl | exact absurd rfl (hn _ _ _)
    · cases h
  · cases h
theorem t_par (is : List Nat) (es : Es) (tb : TbOk T M) : mS T N M (.par is es) := fun sc fns x hk h W X g => by
  have h : parB T N is es sc fns x = true := h
  unfold parB locN at h
  split at h
  · split at h
    · simp only [Bool.and_eq_true, decide_eq_true_eq] at h
      obtain ⟨⟨⟨⟨h1, h2⟩, h3⟩, h4⟩, h5⟩ := h
      exact tes_of (s_par2 g hk h2.1 h3.1 h1 h2.2 h3.2 h4 (sndEs tb es sc fns _ h5 W X g).pa) fun ρ S => rfl
    · cases h
  · split at h
    · simp only [Bool.and_eq_true, decide_eq_true_eq] at h
      obtain ⟨⟨⟨⟨⟨⟨⟨h1, h2⟩, h3⟩, h4⟩, h5⟩, h6⟩, h7⟩, h8⟩ := h; exact tes_of (s_par3 g hk h4.1 h5.1 h6.1 h1 h2 h3 h4.2 h5.2 h6.2 h7 (sndEs tb es sc fns _ h8 W X g).pa) fun ρ S => rfl
    · cases h
  · cases h
theorem t_parC (t : Tg) (es : Es) (tb : TbOk T M) : mS T N M (.parC t es) := fun sc fns x hk h W X g => by
  have h : parCB T N t es sc fns x = true := h
  unfold parCB at h
  split at h
  · simp only [Bool.and_eq_true, decide_eq_true_eq] at h
    exact tes_of (s_parC g h.1.1 (sndEs tb es sc fns _ h.2 W X g).pa (stN_ok g.nms.sc hk h.1.2)) fun ρ S => rfl
  · cases h
theorem t_aug (i : Nat) (o : Bop) (e : E) (tb : TbOk T M) : mS T N M (.aug i o e) := fun sc fns x hk h W X g => by
  obtain ⟨y, op, v, q, p, rfl, h0⟩ := wAug_to h
  clear h
  simp only [Bool.and_eq_true, decide_eq_true_eq] at h0
  exact tes_of (s_aug g h0.1.1.1 h0.1.1.2 h0.1.2 (sndE tb e sc fns v h0.2 W X g).v) fun ρ S => rfl
theorem t_exp (e : E) (tb : TbOk T M) : mS T N M (.exp e) := fun sc fns x hk h W X g => by
  have h : (isNo e || wExp x fun v => notComp v && ckE T N e sc fns v) = true := h
  rw [Bool.or_eq_true] at h
  rcases h with h | h
  · cases e <;> first | (cases h; done) | skip
    exact tes_of s_never fun ρ S => rfl
  · obtain ⟨v, p, rfl, h0⟩ := wExp_to h
    clear h
    rw [Bool.and_eq_true] at h0
    exact tes_of (s_exp (sndE tb e sc fns v h0.2 W X g).v (sw_plain h0.1 _ _ _)) fun ρ S => rfl
theorem t_for (t : Tg) (it : It) (b : Ss) (tb : TbOk T M) (ib : mSs T N M b) : mS T N M (.forr t it b) := fun sc fns x hk h W X g => by
  obtain ⟨tg, iter, body, p, rfl, h0⟩ := wFor_to h
  clear h
  simp only [Bool.and_eq_true] at h0; exact tes_of (s_for g (sndI tb it sc fns tg iter h0.1.2 W X g) h0.1.1.1 (ib sc fns body hk h0.2 W X g) h0.1.1.2) fun ρ S => rfl
theorem t_whl (c : E) (b : Ss) (tb : TbOk T M) (ib : mSs T N M b) : mS T N M (.whl c b) := fun sc fns x hk h W X g => by
  obtain ⟨y, body, p, rfl, h0⟩ := wWhl_to h
  clear h
  rw [Bool.and_eq_true] at h0
  exact tes_of (s_whl g (sndE tb c sc fns y h0.1 W X g).t (ib sc fns body hk h0.2 W X g)) fun ρ S => rfl
theorem t_iff (c : E) (a b : Ss) (tb : TbOk T M) (ia : mSs T N M a) (ib : mSs T N M b) : mS T N M (.iff c a b) := fun sc fns x hk h W X g => by
  obtain ⟨y, pa, pb, p, rfl, h0⟩ := wIfS_to h
  clear h
  simp only [Bool.and_eq_true] at h0; exact tes_of (s_if (sndE tb c sc fns y h0.1.1 W X g).t (ia sc fns pa hk h0.1.2 W X g) (ib sc fns pb hk h0.2 W X g)) fun ρ S => rfl
theorem t_ret (e : E) (tb : TbOk T M) : mS T N M (.ret e) := fun sc fns x hk h W X g => by
  obtain ⟨v, p, rfl, h0⟩ := wRet_to h
  exact tes_of (s_ret (sndE tb e sc fns v h0 W X g).v) fun ρ S => rfl
theorem t_retn : mS T N M .retn := fun sc fns x hk h W X g => by
  have h : isRetN x = true := h
  unfold isRetN at h
  split at h
  · exact tes_of s_retn fun ρ S => rfl
  · cases h
theorem t_pass : mS T N M .pass := fun sc fns x hk h W X g => by
  have h : isPass x = true := h
  unfold isPass at h
  split at h
  · exact tes_of s_pass fun ρ S => rfl
  · cases h
theorem t_brk : mS T N M .brk := fun sc fns x hk h W X g => by
  have h : isBrk x = true := h
  unfold isBrk at h
  split at h
  · exact tes_of s_brk fun ρ S => rfl
  · cases h
theorem t_cnt : mS T N M .cnt := fun sc fns x hk h W X g => by
  have h : isCnt x = true := h
  unfold isCnt at h
  split at h
  · exact tes_of s_cnt fun ρ S => rfl
  · cases h
theorem t_bad {s : S} (h : ∀ sc fns x, ckS T N s sc fns x = false) : mS T N M s := fun sc fns x _ h' W X g => by rw [h] at h'; cases h'
theorem ts_nil : mSs T N M .nil := fun sc fns xs hk h W X g => by
  have h : xs.isEmpty = true := h
  cases xs with
  | cons _ _ => cases h
  | nil => exact s_nil
theorem ts_cons (s : S) (r : Ss) (is : mS T N M s) (ir : mSs T N M r) : mSs T N M (.cons s r) := fun sc fns xs hk h W X g => by
  have h : ((isFrz s && ckSs T N r sc fns xs) || wConsS xs fun y ys => ckS T N s sc fns y && ckSs T N r sc fns ys) = true := h
  rw [Bool.or_eq_true] at h
  have e0 : (fun ρ S => evSs M.c (.cons s r) ρ S) = fun ρ S => (evS M.c s ρ S).bind fun f S => match f with | .nx ρ => evSs M.c r ρ S | f => .ok f S := by funext ρ S; rfl
  rw [e0]
  rcases h with h | h
  · rw [Bool.and_eq_true] at h
    obtain ⟨h1, h2⟩ := h
    cases s with
    | frz i => exact s_frz (i := i) (ir sc fns xs hk h2 W X g)
    | _ => cases h1
  · obtain ⟨y, ys, rfl, h0⟩ := wConsS_to h
    clear h
    rw [Bool.and_eq_true] at h0
    exact s_cons (is sc fns y hk h0.1 W X g) (ir sc fns ys hk h0.2 W X g)
theorem sndSs (tb : TbOk T M) (ss : Ss) : mSs T N M ss := Ss.rec (motive_1 := mS T N M) (motive_2 := mSs T N M)
  (fun t e => t_asg t e tb) (fun is es => t_par is es tb) (fun t es => t_parC t es tb) (fun i o e => t_aug i o e tb) (fun _ _ _ _ => t_bad fun _ _ _ => rfl) (fun e => t_exp e tb) (fun t it b ib => t_for t it b tb ib) (fun c b ib => t_whl c b tb ib) (fun c a b ia ib => t_iff c a b tb ia ib)
  (fun e => t_ret e tb) t_retn (fun _ _ => t_bad fun _ _ _ => rfl) t_pass t_brk t_cnt (fun _ => t_bad fun _ _ _ => rfl) ts_nil ts_cons ss
end
end Gp

namespace Gp
open PySem PySem.Spec PyProof.Rows L2

structure DefI where
  x : Str
  st : Stmt
  N : List Str
  d : Def
abbrev DefI.ps (D : DefI) : List Str := D.N.take D.d.ar
/-- the def's text is our text -/
def ckDef (T : Tb) (D : DefI) : Bool :=
  decide ((defScope D.st).kind = .function) && decide ((defScope D.st).isCoroutine = false) && decide ((defScope D.st).isGenerator = false) && decide D.N.Nodup && decide (D.d.ar ≤ D.N.length) && decide (D.d.sl = D.N.length) &&
    ((D.ps.all fun x => decide ((defScope D.st).names.lookup x = some .local) || decide ((defScope D.st).names.lookup x = some .cell)) && ((defScope D.st).names.all fun y => decide (y.2 ≠ .free))) &&
    ckSs T D.N D.d.body (defScope D.st) none (defBody D.st)
structure DefAt (K : PySem.W.Frag) (x : Str) (st : Stmt) (ps : List Str) : Prop where
  ex : ∃ (f : Addr) (oc : Value) (od : Option Addr) (kV doc pm : Value) (an : Option Addr) (cdv ct : Value) (osl : Array (Option Value)),
    PySem.W.nsIn K mainGlobals x = some (some (.ref f)) ∧ K.lookup f = some ⟨oc, od, .func (PySem.W.fnOf x x (defArgs st) (defBody st) (defScope st) .none kV doc pm an cdv ct), osl⟩ ∧ PySem.W.codeIn K cdv x = true ∧ PySem.W.keepIn K (.ref f) = true
  bd : ∀ (kV doc pm : Value) (an : Option Addr) (cdv ct : Value) (us : List Value), us.length = ps.length → bindArgs (PySem.W.fnOf x x (defArgs st) (defBody st) (defScope st) .none kV doc pm an cdv ct) ⟨us, []⟩ = pure (ps.zip us)
theorem defAt_mk {K : PySem.W.Frag} {x : Str} {st : Stmt} {ps : List Str} {f : Addr} {oc : Value} {od : Option Addr} {kV doc pm : Value} {an : Option Addr} {cdv ct : Value} {osl : Array (Option Value)}
    (a : PySem.W.nsIn K mainGlobals x = some (some (.ref f))) (l : K.lookup f = some ⟨oc, od, .func (PySem.W.fnOf x x (defArgs st) (defBody st) (defScope st) .none kV doc pm an cdv ct), osl⟩) (c : PySem.W.codeIn K cdv x = true) (k : PySem.W.keepIn K (.ref f) = true)
    (bd : ∀ (kV doc pm : Value) (an : Option Addr) (cdv ct : Value) (us : List Value), us.length = ps.length → bindArgs (PySem.W.fnOf x x (defArgs st) (defBody st) (defScope st) .none kV doc pm an cdv ct) ⟨us, []⟩ = pure (ps.zip us)) : DefAt K x st ps :=
  ⟨⟨f, oc, od, kV, doc, pm, an, cdv, ct, osl, a, l, c, k⟩, bd⟩
/-- a global constant's value -/
def ConAt (K : PySem.W.Frag) (x : Str) (p : PV) : Prop := ∃ v u, PySem.W.nsIn K mainGlobals x = some (some u) ∧ RelV v u ∧ ∀ bn H, RepP K bn H p v
theorem con_int {K : PySem.W.Frag} {x : Str} {i : Int} {t : Tok} (a : PySem.W.nsIn K mainGlobals x = some (some (.int i t))) : ConAt K x (.int i) := ⟨.int i, _, a, ⟨t, rfl⟩, fun _ _ => repP_int⟩
theorem con_ints {K : PySem.W.Frag} {x : Str} (is : List Int) {a : Addr} {od : Option Addr} {its : Array Value} {n : Nat} {osl : Array (Option Value)} (h : PySem.W.nsIn K mainGlobals x = some (some (.ref a)))
    (l : K.lookup a = some ⟨.type "tuple", od, .seq its n, osl⟩) (z : its.size ≤ sizeLine) (v : Vals (is.map V.int) its.toList) : ConAt K x (.tup (is.map .int)) := by
  refine ⟨.ref a, _, h, rfl, fun bn H => ?_⟩
  have r : ∀ is : List Int, RepPs K bn H (is.map .int) (is.map V.int) := fun is => by
    induction is with
    | nil => exact repPs_nil
    | cons i is ih => exact repPs_cons repP_int ih
  unfold RepP
  exact ⟨a, _, rfl, .inr ⟨_, its, n, l, rfl, rfl, z, v⟩, r is⟩
abbrev wd0 (K : PySem.W.Frag) : Wd := ⟨K, fun _ _ _ _ _ => False, fun _ _ _ _ _ _ _ _ h => h⟩
section
variable {K : PySem.W.Frag} {mg : Str → Option Value}
/-- what we know of the def at a place -/
structure FnAt (K : PySem.W.Frag) (mg : Str → Option Value) (D : DefI) (i : FnI) : Prop where
  x : i.x = D.x
  ps : i.ps = D.ps
  fn : Fun K D.x D.x D.st i.fa i.fd
  mg : mg D.x = some (.ref i.fa)
  kp : PySem.W.keepIn K (.ref i.fa) = true
  bd : Binds K i.fd D.ps []
theorem fnAt_of {base : Heap} {D : DefI} (h : DefAt K D.x D.st D.ps) (KX : K.In base) (G : base.Ns mainGlobals mg) : ∃ i, FnAt K mg D i := by
  obtain ⟨f, oc, od, kV, doc, pm, an, cdv, ct, osl, a, l, c, k⟩ := h.ex
  have F := fun_mk (st := D.st) l c k
  exact ⟨⟨D.x, f, _, D.ps⟩, rfl, rfl, F, PySem.W.mg_of KX G a, k, F.binds h.bd⟩
theorem fns_of {base : Heap} (KX : K.In base) (G : base.Ns mainGlobals mg) : ∀ {defs : List DefI}, (∀ D ∈ defs, DefAt K D.x D.st D.ps) → ∃ fns : List FnI, fns.length = defs.length ∧ ∀ (f : Nat) (D : DefI) (i : FnI), defs[f]? = some D → fns[f]? = some i → FnAt K mg D i
  | [], _ => ⟨[], rfl, fun f D i h _ => by simp at h⟩
  | D :: ds, h => by
    obtain ⟨i, hi⟩ := fnAt_of (h D List.mem_cons_self) KX G
    obtain ⟨is, hl, his⟩ := fns_of KX G (fun E hE => h E (List.mem_cons_of_mem _ hE))
    refine ⟨i :: is, by rw [List.length_cons, List.length_cons, hl], fun f E j e1 e2 => ?_⟩
    cases f with
    | zero => simp at e1 e2; subst e1 e2; exact hi
    | succ f => exact his f E j (by simpa using e1) (by simpa using e2)
theorem enter_rep {G : Wd} {mu : Mu} {bn : List Addr} {H : Hp} {N : List Str} {d : Def} {ls : List LV} {vs : List V} (h : RepLs G.K mu bn H ls vs) (ha : ls.length = d.ar) (hn : d.ar ≤ N.length) (hs : d.sl = N.length) : RepE G.K mu bn H (enter d ls) (L2.start N vs) := by
  have hl := h.length
  unfold enter L2.start
  refine ⟨by simp; omega, fun i l e => ?_⟩
  by_cases hi : i < ls.length
  · rw [List.getElem?_append_left (by simpa using hi), List.getElem?_map] at e
    cases q : ls[i]? with
    | none => rw [q] at e; cases e
    | some l' =>
      rw [q] at e
      have e : some l' = some l := Option.some.inj e
      cases e
      obtain ⟨v, e1, r⟩ := h.get q
      refine ⟨v, ?_, r⟩
      rw [List.getElem?_append_left (by simp; omega), List.getElem?_map, e1]; rfl
  · rw [List.getElem?_append_right (by simpa using hi)] at e
    rw [List.getElem?_replicate] at e
    split at e <;> cases e
theorem law_fns {prog : Program} {w : World} {base : Heap} {defs : List DefI} {fns : List FnI} {T : Tb} {wf : Nat} (hl : fns.length = defs.length) (hF : ∀ (f : Nat) (D : DefI) (i : FnI), defs[f]? = some D → fns[f]? = some i → FnAt K mg D i)
    (hT : T.fns = defs.map fun D => (D.x, D.d.ar)) (hck : ∀ D ∈ defs, ckDef T D = true) (hbl : ∀ x ∈ bnames, mg x = none) (hcon : ∀ x p, (x, p) ∈ T.cons → ∃ v u, mg x = some u ∧ RelV v u ∧ ∀ bn H, RepP K bn H p v) :
    ∀ (n : Nat) (f : Nat) (D : DefI) (i : FnI), defs[f]? = some D → fns[f]? = some i → FnOk prog w K mg base (L2.CX prog w) n i.fa i.fd D.ps (spF (wd0 K) ⟨run (defs.map DefI.d) wf n, wf⟩ f D.ps.length) := by
  intro n
  induction n with
  | zero =>
    intro f D i hD hi
    refine ⟨fun vs H Q E ⟨mu, bn, S, ls, _, r, e, _⟩ => by rw [← r.length, e], fun A outer s H args us vs Q E _ _ _ _ ⟨mu, bn, S, ls, _, _, _, h⟩ => ?_⟩
    exact False.elim h
  | succ n ih =>
    intro f D i hD hi
    have FA := hF f D i hD hi
    have ck := hck D (List.mem_of_getElem? hD)
    unfold ckDef at ck
    simp only [Bool.and_eq_true, decide_eq_true_eq] at ck
    obtain ⟨⟨⟨⟨⟨⟨⟨c1, c2⟩, c3⟩, c4⟩, c5⟩, c6⟩, c7, c8⟩, c9⟩ := ck
    have hps : D.ps.length = D.d.ar := by rw [List.length_take]; omega
    have SC : FnScope D.N D.ps (defScope D.st) := ⟨c1, c2, c3, c4, by rw [hps], fun x hx => by
      have := List.all_eq_true.mp c7 x hx
      rw [Bool.or_eq_true, decide_eq_true_eq, decide_eq_true_eq] at this
      exact this, fun y hy => by simpa using List.all_eq_true.mp c8 y hy⟩
    refine FA.fn.okX SC (fun vs H Q E ⟨mu, bn, S, ls, _, r, e, _⟩ => by rw [← r.length, e]) fun cdv A outer s H vs Q E hr hsp => ?_
    obtain ⟨mu, bn, S, ls, R, r, e, h⟩ := hsp
    let M : Gm := ⟨wd0 K, ⟨run (defs.map DefI.d) wf n, wf⟩, n, mg, fns, T.cons⟩
    have tb : TbOk T M := ⟨fun f y m hf => by
      rw [hT, List.getElem?_map] at hf
      cases q : defs[f]? with
      | none => rw [q] at hf; cases hf
      | some D' =>
        rw [q] at hf
        cases hf
        have hlt : f < fns.length := by rw [hl]; exact (List.getElem?_eq_some_iff.mp q).1
        have FA' := hF f D' fns[f] q (List.getElem?_eq_getElem hlt)
        refine ⟨fns[f], List.getElem?_eq_getElem hlt, FA'.x, ?_⟩
        have ck' := hck D' (List.mem_of_getElem? q)
        unfold ckDef at ck'
        simp only [Bool.and_eq_true, decide_eq_true_eq] at ck'
        rw [FA'.ps, List.length_take]
        have := ck'.1.1.1.2
        omega, rfl⟩
    have g : Good M (WofE E) D.N (defScope D.st) none (cxOf (L2.CX prog w) prog w K mg base D.N D.x (defScope D.st) i.fa cdv A outer s H E) := {
      K := rfl
      nms := ⟨rfl, c4, rfl, fun _ _ => rfl⟩
      calm := rfl
      tk := takes_of rfl rfl rfl rfl
      po := passes_of rfl
      mg := rfl
      bl := hbl
      fn := fun f j hj => by
        have hlt : f < defs.length := by rw [← hl]; exact (List.getElem?_eq_some_iff.mp hj).1
        have FA' := hF f defs[f] j (List.getElem?_eq_getElem hlt) hj
        have := ih f defs[f] j (List.getElem?_eq_getElem hlt) hj
        rw [← FA'.ps] at this
        exact ⟨by rw [FA'.x]; exact FA'.mg, FA'.kp, by rw [FA'.ps]; exact FA'.bd, this⟩
      con := hcon
      room := hr
      wi := fun _ _ _ _ _ h => h }
    refine ⟨_, sndSs tb D.d.body (defScope D.st) none (defBody D.st) c1 c9 (WofE E) _ g, ?_⟩
    have hrun : run (defs.map DefI.d) wf (n + 1) f ls S = leave S.length (evSs ⟨run (defs.map DefI.d) wf n, wf⟩ D.d.body (enter D.d ls) S) := by
      show (match (defs.map DefI.d)[f]? with
        | some d => if ls.length = d.ar then leave S.length (evSs ⟨run (defs.map DefI.d) wf n, wf⟩ d.body (enter d ls) S) else .bad
        | none => .bad) = _
      rw [List.getElem?_map, hD]
      show (if ls.length = D.d.ar then _ else _) = _
      rw [if_pos (by rw [e, hps])]
    have h : To (wd0 K) (WofE E) (rlE (wd0 K)) [] mu bn H Q (run (defs.map DefI.d) wf (n + 1) f ls S) := h
    rw [hrun] at h
    exact ⟨mu, bn, enter D.d ls, S, enter_rep r (by rw [e, hps]) c5 c6, R, leave_red R.len h⟩
theorem law_sp {prog : Program} {w : World} {P : List Def} {wf n f : Nat} {H : Hp} {a : Addr} {ns : List Int} {S : Store} (hS : SqL K H a (ns.map V.int)) (h : run P wf n f [.pv (.scr ns)] [] = .ok (.pv (.bl true)) S) :
    spF (wd0 K) ⟨run P wf n, wf⟩ f 1 [.ref a] H (fun v _ => v = .bl true) fun _ _ _ => False := by
  refine ⟨[], [], [], [.pv (.scr ns)], ⟨rfl, fun k a e => by simp at e, fun _ _ _ e => by simp at e, fun _ h => by simp at h, fun _ _ e => by simp at e⟩, repLs_cons (.pv ?_) repLs_nil, rfl, ?_⟩
  · unfold RepP
    refine ⟨a, rfl, ?_⟩
    rcases hS with h | h
    · exact .inl ⟨h, by simp⟩
    · exact .inr h
  · show To _ _ _ _ _ _ _ _ (run P wf n f [.pv (.scr ns)] [])
    rw [h]
    intro mu' bn' H' v _ _ r
    exact rep_bl r.toP.v
end
end Gp

namespace Gp
/-! the draw from the script: alike in every law -/
def dTaken : Def := ⟨2, 4, (.cons (.iff (.cmp .gt (.idx (.var 0) (.con (.int 3))) (.con (.int 0))) (.cons (.asg (.g (.nm 3)) (.bin .mod (.blt .int false (.cons (.idx (.var 0) (.con (.int 3))) .nil)) (.var 1))) (.cons (.asg (.sub (.var 0) (.con (.int 3))) (.bin .fdiv (.idx (.var 0) (.con (.int 3))) (.var 1))) (.cons (.ret (.var 3)) .nil))) .nil) (.cons (.asg (.sub (.var 0) (.con (.int 1))) (.bin .add (.idx (.var 0) (.con (.int 1))) (.con (.int 1)))) (.cons (.iff (.cmp .gt (.idx (.var 0) (.con (.int 1))) (.blt .len false (.cons (.idx (.var 0) (.con (.int 0))) .nil))) (.cons (.asg (.sub (.var 0) (.con (.int 2))) (.bin .mod (.blt .int false (.cons (.bin .add (.bin .mul (.idx (.var 0) (.con (.int 2))) (.con (.int 48271))) (.con (.int 11))) .nil)) (.con (.int 2147483647)))) (.cons (.ret (.bin .mod (.blt .int false (.cons (.bin .fdiv (.idx (.var 0) (.con (.int 2))) (.con (.int 7))) .nil)) (.var 1))) .nil)) .nil) (.cons (.asg (.g (.nm 2)) (.idx (.idx (.var 0) (.con (.int 0))) (.bin .sub (.idx (.var 0) (.con (.int 1))) (.con (.int 1))))) (.cons (.asg (.sub (.var 0) (.con (.int 2))) (.bin .mod (.blt .int false (.cons (.bin .add (.bin .add (.bin .mul (.idx (.var 0) (.con (.int 2))) (.con (.int 48271))) (.var 2)) (.con (.int 11))) .nil)) (.con (.int 2147483647)))) (.cons (.iff (.cmp .ge (.var 2) (.bin .pow (.con (.int 10)) (.con (.int 18)))) (.cons (.asg (.sub (.var 0) (.con (.int 3))) (.bin .fdiv (.var 2) (.var 1))) .nil) .nil) (.cons (.ret (.bin .mod (.blt .int false (.cons (.var 2) .nil)) (.var 1))) .nil)))))))⟩
def rowS (ns : List Int) (i s r : Int) : Store := [.lst [.scr ns, .int i, .int s, .int r]]
def rowT (ns : List Int) (i s r : Int) (T : Store) : Store := .lst [.scr ns, .int i, .int s, .int r] :: T
theorem lvT {ns : List Int} {i s r v : Int} {T : Store} : leave (T.length + 1) (.ok (.rt (.pv (.int v))) (rowT ns i s r T)) = .ok (.pv (.int v)) (rowT ns i s r T) := by
  show Res.ok (LV.pv (.int v)) ((SO.lst [.scr ns, .int i, .int s, .int r] :: T).take (T.length + 1)) = _
  rw [List.take_succ_cons, List.take_length]; rfl
theorem ss_cons {c : Ctx} {s : S} {r : Ss} {ρ ρ' : Env} {S S' : Store} (h : evS c s ρ S = .ok (.nx ρ') S') : evSs c (.cons s r) ρ S = evSs c r ρ' S' := by
  show (evS c s ρ S).bind _ = _
  rw [h]; rfl
theorem ss_ret {c : Ctx} {e : E} {r : Ss} {ρ : Env} {S S' : Store} {l : LV} (h : ev c e false ρ S = .ok l S') : evSs c (.cons (.ret e) r) ρ S = .ok (.rt l) S' := by
  show ((ev c e false ρ S).bind _).bind _ = _
  rw [h]; rfl
theorem ss_iff {c : Ctx} {e : E} {a b r : Ss} {ρ : Env} {S : Store} {t : Bool} (h : ev c e true ρ S = .ok (.pv (.bl t)) S) : evSs c (.cons (.iff e a b) r) ρ S = (match t with | true => evSs c a ρ S | false => evSs c b ρ S).bind fun f S => match f with | .nx ρ => evSs c r ρ S | f => .ok f S := by
  show (iteR (isT (ev c e true ρ S)) _ _).bind _ = _
  rw [h]
  cases t <;> rfl
theorem taken_okT {P : List Def} {wf k f : Nat} (hP : P[f]? = some dTaken) (T : Store) (ns : List Int) (i s r m : Int) (hm : 0 < m) (hm2 : m < 1073741824) (hi : 0 ≤ i) :
    ∃ v i' s' r', Gp.run P wf (k + 1) f [.ref 0, .pv (.int m)] (rowT ns i s r T) = .ok (.pv (.int v)) (rowT ns i' s' r' T) ∧ 0 ≤ v ∧ v < m ∧ 0 ≤ i' := by
  have hmod : ∀ x : Int, binop .mod (.int x) (.int m) = some (.int (x % m)) := fun x => by show (if decide (0 < m) = true then _ else _) = _; rw [if_pos (by simpa using hm)]
  have hdiv : ∀ x : Int, binop .fdiv (.int x) (.int m) = some (.int (x / m)) := fun x => by show (if (decide (0 < m) && decide (m < 1073741824)) = true then _ else _) = _; rw [if_pos (by simp [hm, hm2])]
  have hrange : ∀ x : Int, 0 ≤ x % m ∧ x % m < m := fun x => ⟨Int.emod_nonneg _ (by omega), Int.emod_lt_of_pos _ hm⟩
  have hmul : ∀ x : Int, binop .mul (.int x) (.int 48271) = some (.int (x * 48271)) := fun x => by
    show (if mulOk x 48271 = true then _ else _) = _
    rw [if_pos (by unfold mulOk; simp)]
  generalize hc : (⟨Gp.run P wf k, wf⟩ : Ctx) = c
  have hrun : ∀ S, Gp.run P wf (k + 1) f [.ref 0, .pv (.int m)] S = leave S.length (evSs c dTaken.body [some (.ref 0), some (.pv (.int m)), none, none] S) := fun S => by
    show (match P[f]? with
      | some d => if [LV.ref 0, .pv (.int m)].length = d.ar then leave S.length (evSs ⟨Gp.run P wf k, wf⟩ d.body (enter d [.ref 0, .pv (.int m)]) S) else .bad
      | none => .bad) = _
    rw [hP, hc]; rfl
  rw [hrun]
  unfold dTaken
  have hb : ∀ (o : Bop) (a b : E) (ρ : Env) (S : Store) (x y : LV) (p q z : PV), ev c a false ρ S = .ok x S → ev c b false ρ S = .ok y S → rd S x = some p → rd S y = some q → binop o p q = some z → ev c (.bin o a b) false ρ S = .ok (.pv z) S := by
    intro o a b ρ S x y p q z h1 h2 h3 h4 h5
    show ((ev c a false ρ S).bind fun x S => (ev c b false ρ S).bind fun y S => rdB x S fun x => rdB y S fun y => opt (binop o x y) S) = _
    rw [h1]
    show ((ev c b false ρ S).bind fun y S => rdB x S fun x => rdB y S fun y => opt (binop o x y) S) = _
    rw [h2]
    show (rdB x S fun x => rdB y S fun y => opt (binop o x y) S) = _
    unfold rdB
    rw [h3]
    show (match rd S y with | some q => opt (binop o p q) S | none => .bad) = _
    rw [h4]
    show opt (binop o p q) S = _
    rw [h5]; rfl
  have hint : ∀ (a : E) (ρ : Env) (S : Store) (x : Int), ev c a false ρ S = .ok (.pv (.int x)) S → ev c (.blt .int false (.cons a .nil)) false ρ S = .ok (.pv (.int x)) S := by
    intro a ρ S x h
    show (((ev c a false ρ S).bind fun x S => (Res.ok [] S).bind fun xs S => .ok (x :: xs) S).bind fun ls S => match rds S ls with | some ps => mkV false (builtin .int ps) S | none => .bad) = _
    rw [h]; rfl
  have hst : ∀ (e : E) (ρ : Env) (S : Store) (l : LV) (j : Nat), ev c e false ρ S = .ok l S → evS c (.asg (.g (.nm j)) e) ρ S = .ok (.nx (ρ.set j (some l))) S := by
    intro e ρ S l j h
    show ((ev c e false ρ S).bind fun l S => lift ((bindT (.nm j) l ρ).map Flow.nx) S) = _
    rw [h]; rfl
  have hsub : ∀ (e : E) (ρ : Env) (ns : List Int) (i s r z : Int) (j : Int) (S' : Store), ρ[0]? = some (some (.ref 0)) → ev c e false ρ (rowT ns i s r T) = .ok (.pv (.int z)) (rowT ns i s r T) → setL (.ref 0) (.pv (.int j)) (.pv (.int z)) (rowT ns i s r T) = .ok () S' → evS c (.asg (.sub (.var 0) (.con (.int j))) e) ρ (rowT ns i s r T) = .ok (.nx ρ) S' := by
    intro e ρ ns i s r z j S' h0 h h2
    show ((ev c e false ρ (rowT ns i s r T)).bind fun v S => (getV ρ 0 S).bind fun o S => (Res.ok (.pv (.int j)) S).bind fun i S => (setL o i v S).bind fun _ S => .ok (Flow.nx ρ) S) = _
    rw [h]
    show ((getV ρ 0 (rowT ns i s r T)).bind fun o S => (Res.ok (.pv (.int j)) S).bind fun i S => (setL o i (.pv (.int z)) S).bind fun _ S => .ok (Flow.nx ρ) S) = _
    unfold getV
    rw [h0]
    show ((setL (.ref 0) (.pv (.int j)) (.pv (.int z)) (rowT ns i s r T)).bind fun _ S => .ok (Flow.nx ρ) S) = _
    rw [h2]; rfl
  have hix : ∀ (ρ : Env) (ns : List Int) (i s r : Int) (j : Int) (p : PV), ρ[0]? = some (some (.ref 0)) → index (.lst [.scr ns, .int i, .int s, .int r]) (.int j) = some p → ev c (.idx (.var 0) (.con (.int j))) false ρ (rowT ns i s r T) = .ok (.pv p) (rowT ns i s r T) := by
    intro ρ ns i s r j p h0 h
    show ((getV ρ 0 (rowT ns i s r T)).bind fun x S => (Res.ok (.pv (.int j)) S).bind fun y S => idxL x y S) = _
    unfold getV
    rw [h0]
    show opt (index (.lst [.scr ns, .int i, .int s, .int r]) (.int j)) (rowT ns i s r T) = _
    rw [h]; rfl
  have hvar : ∀ (ρ : Env) (S : Store) (j : Nat) (l : LV), ρ[j]? = some (some l) → ev c (.var j) false ρ S = .ok l S := by
    intro ρ S j l h
    show getV ρ j S = _
    unfold getV; rw [h]
  by_cases h3 : 0 < r
  · rw [ss_iff (t := true) (by show Res.ok (LV.pv (.bl (decide (0 < r)))) _ = _; rw [decide_eq_true h3])]
    refine ⟨r % m, i, s, r / m, ?_, (hrange r).1, (hrange r).2, hi⟩
    show leave (T.length + 1) ((evSs c _ _ (rowT ns i s r T)).bind _) = _
    rw [ss_cons (hst _ _ _ _ 3 (hb .mod _ _ _ _ _ _ _ _ _ (hint _ _ _ r (hix _ ns i s r 3 _ rfl rfl)) (hvar _ _ 1 _ rfl) rfl rfl (hmod r)))]
    rw [ss_cons (hsub _ _ ns i s r (r / m) 3 (rowT ns i s (r / m) T) rfl (hb .fdiv _ _ _ _ _ _ _ _ _ (hix _ ns i s r 3 _ rfl rfl) (hvar _ _ 1 _ rfl) rfl rfl (hdiv r)) rfl)]
    exact lvT
  · rw [ss_iff (t := false) (by show Res.ok (LV.pv (.bl (decide (0 < r)))) _ = _; rw [decide_eq_false h3])]
    show ∃ v i' s' r', leave (T.length + 1) (evSs c _ _ (rowT ns i s r T)) = _ ∧ _
    rw [ss_cons (hsub _ _ ns i s r (i + 1) 1 (rowT ns (i + 1) s r T) rfl rfl rfl)]
    by_cases h4 : (ns.length : Int) < i + 1
    · rw [ss_iff (t := true) (by show Res.ok (LV.pv (.bl (decide ((ns.length : Int) < i + 1)))) _ = _; rw [decide_eq_true h4])]
      refine ⟨(((s * 48271 + 11) % 2147483647) / 7) % m, i + 1, (s * 48271 + 11) % 2147483647, r, ?_, (hrange _).1, (hrange _).2, by omega⟩
      show leave (T.length + 1) ((evSs c _ _ (rowT ns (i + 1) s r T)).bind _) = _
      rw [ss_cons (hsub _ _ ns (i + 1) s r ((s * 48271 + 11) % 2147483647) 2 (rowT ns (i + 1) ((s * 48271 + 11) % 2147483647) r T) rfl (hb .mod _ _ _ _ _ _ _ _ _ (hint _ _ _ (s * 48271 + 11) (hb .add _ _ _ _ _ _ _ _ _ (hb .mul _ _ _ _ _ _ _ _ _ (hix _ ns (i + 1) s r 2 _ rfl rfl) rfl rfl rfl (hmul s)) rfl rfl rfl rfl)) rfl rfl rfl rfl) rfl)]
      rw [ss_ret (hb .mod _ _ _ _ _ _ _ _ _ (hint _ _ _ (((s * 48271 + 11) % 2147483647) / 7) (hb .fdiv _ _ _ _ _ _ _ _ _ (hix _ ns (i + 1) _ r 2 _ rfl rfl) rfl rfl rfl rfl)) (hvar _ _ 1 _ rfl) rfl rfl (hmod _))]
      exact lvT
    · rw [ss_iff (t := false) (by show Res.ok (LV.pv (.bl (decide ((ns.length : Int) < i + 1)))) _ = _; rw [decide_eq_false h4])]
      show ∃ v i' s' r', leave (T.length + 1) (evSs c _ _ (rowT ns (i + 1) s r T)) = _ ∧ _
      have hlt : i.toNat < ns.length := by omega
      obtain ⟨x, hx⟩ : ∃ x, ns[i.toNat]? = some x := ⟨ns[i.toNat], by simp [hlt]⟩
      have hat : at_ ns.length (i + 1 - 1) = some i.toNat := by
        unfold at_
        rw [if_pos (by omega), if_pos (by omega)]
        congr 1; omega
      have hcell : ∀ ρ : Env, ρ[0]? = some (some (.ref 0)) → ev c (.idx (.idx (.var 0) (.con (.int 0))) (.bin .sub (.idx (.var 0) (.con (.int 1))) (.con (.int 1)))) false ρ (rowT ns (i + 1) s r T) = .ok (.pv (.int x)) (rowT ns (i + 1) s r T) := fun ρ h0 => by
        show ((ev c (.idx (.var 0) (.con (.int 0))) false ρ (rowT ns (i + 1) s r T)).bind fun x S => (ev c (.bin .sub (.idx (.var 0) (.con (.int 1))) (.con (.int 1))) false ρ S).bind fun y S => idxL x y S) = _
        rw [hix ρ ns (i + 1) s r 0 _ h0 rfl]
        show ((ev c (.bin .sub (.idx (.var 0) (.con (.int 1))) (.con (.int 1))) false ρ (rowT ns (i + 1) s r T)).bind fun y S => idxL (.pv (.scr ns)) y S) = _
        rw [hb .sub _ _ _ _ _ _ _ _ _ (hix ρ ns (i + 1) s r 1 _ h0 rfl) rfl rfl rfl rfl]
        show opt ((at_ ns.length (i + 1 - 1)).bind fun k => (ns[k]?).map .int) (rowT ns (i + 1) s r T) = _
        rw [hat]
        show opt ((ns[i.toNat]?).map .int) _ = _
        rw [hx]; rfl
      rw [ss_cons (hst _ _ _ _ 2 (hcell _ rfl))]
      rw [ss_cons (hsub _ _ ns (i + 1) s r ((s * 48271 + x + 11) % 2147483647) 2 (rowT ns (i + 1) ((s * 48271 + x + 11) % 2147483647) r T) rfl (hb .mod _ _ _ _ _ _ _ _ _ (hint _ _ _ (s * 48271 + x + 11) (hb .add _ _ _ _ _ _ _ _ _ (hb .add _ _ _ _ _ _ _ _ _ (hb .mul _ _ _ _ _ _ _ _ _ (hix _ ns (i + 1) s r 2 _ rfl rfl) rfl rfl rfl (hmul s)) (hvar _ _ 2 _ rfl) rfl rfl rfl) rfl rfl rfl rfl)) rfl rfl rfl rfl) rfl)]
      by_cases h5 : 1000000000000000000 ≤ x
      · rw [ss_iff (t := true) (by show Res.ok (LV.pv (.bl (decide (1000000000000000000 ≤ x)))) _ = _; rw [decide_eq_true h5])]
        refine ⟨x % m, i + 1, (s * 48271 + x + 11) % 2147483647, x / m, ?_, (hrange _).1, (hrange _).2, by omega⟩
        show leave (T.length + 1) ((evSs c _ _ (rowT ns (i + 1) _ r T)).bind _) = _
        rw [ss_cons (hsub _ _ ns (i + 1) _ r (x / m) 3 (rowT ns (i + 1) ((s * 48271 + x + 11) % 2147483647) (x / m) T) rfl (hb .fdiv _ _ _ _ _ _ _ _ _ (hvar _ _ 2 _ rfl) (hvar _ _ 1 _ rfl) rfl rfl (hdiv x)) rfl)]
        show leave (T.length + 1) (evSs c _ _ (rowT ns (i + 1) _ (x / m) T)) = _
        rw [ss_ret (hb .mod _ _ _ _ _ _ _ _ _ (hint _ _ _ x (hvar _ _ 2 _ rfl)) (hvar _ _ 1 _ rfl) rfl rfl (hmod _))]
        exact lvT
      · rw [ss_iff (t := false) (by show Res.ok (LV.pv (.bl (decide (1000000000000000000 ≤ x)))) _ = _; rw [decide_eq_false h5])]
        refine ⟨x % m, i + 1, (s * 48271 + x + 11) % 2147483647, r, ?_, (hrange _).1, (hrange _).2, by omega⟩
        show leave (T.length + 1) (evSs c _ _ (rowT ns (i + 1) _ r T)) = _
        rw [ss_ret (hb .mod _ _ _ _ _ _ _ _ _ (hint _ _ _ x (hvar _ _ 2 _ rfl)) (hvar _ _ 1 _ rfl) rfl rfl (hmod _))]
        exact lvT
theorem taken_ok {P : List Def} {wf k f : Nat} (hP : P[f]? = some dTaken) (ns : List Int) (i s r m : Int) (hm : 0 < m) (hm2 : m < 1073741824) (hi : 0 ≤ i) :
    ∃ v i' s' r', Gp.run P wf (k + 1) f [.ref 0, .pv (.int m)] (rowS ns i s r) = .ok (.pv (.int v)) (rowS ns i' s' r') ∧ 0 ≤ v ∧ v < m ∧ 0 ≤ i' :=
  taken_okT hP [] ns i s r m hm hm2 hi
end Gp

namespace Gp
def dPick (g : Nat) : Def := ⟨2, 2, (.cons (.ret (.idx (.var 1) (.call g (.cons (.var 0) (.cons (.blt .len false (.cons (.var 1) .nil)) .nil))))) .nil)⟩
theorem at_of {n : Nat} {v : Int} (h0 : 0 ≤ v) (h1 : v < n) : at_ n v = some v.toNat := by
  unfold at_
  rw [if_pos h0, if_pos h1]
theorem pick_ok {P : List Def} {wf k f g : Nat} (hP : P[f]? = some (dPick g)) (hg : P[g]? = some dTaken) (ns : List Int) (i s r : Int) (q : PV) (xs : List PV) (hq : q = .lst xs ∨ q = .tup xs) (h0 : xs ≠ []) (h1 : xs.length < 1073741824) (hi : 0 ≤ i) :
    ∃ x i' s' r', Gp.run P wf (k + 2) f [.ref 0, .pv q] (rowS ns i s r) = .ok (.pv x) (rowS ns i' s' r') ∧ x ∈ xs ∧ 0 ≤ i' := by
  have hl : 0 < xs.length := List.length_pos_iff.mpr h0
  obtain ⟨v, i', s', r', e, hv0, hv1, hi'⟩ := taken_ok (wf := wf) (k := k) hg ns i s r (xs.length : Int) (by omega) (by omega) hi
  have hv : v.toNat < xs.length := by omega
  refine ⟨xs[v.toNat], i', s', r', ?_, List.getElem_mem hv, hi'⟩
  have hrun : ∀ S, Gp.run P wf (k + 2) f [.ref 0, .pv q] S = leave S.length (evSs ⟨Gp.run P wf (k + 1), wf⟩ (dPick g).body [some (.ref 0), some (.pv q)] S) := fun S => by
    show (match P[f]? with
      | some d => if [LV.ref 0, .pv q].length = d.ar then leave S.length (evSs ⟨Gp.run P wf (k + 1), wf⟩ d.body (enter d [.ref 0, .pv q]) S) else .bad
      | none => .bad) = _
    rw [hP]; rfl
  rw [hrun]
  have hat : at_ xs.length v = some v.toNat := at_of hv0 hv1
  have hget : xs[v.toNat]? = some xs[v.toNat] := List.getElem?_eq_getElem hv
  rcases hq with rfl | rfl
  · show leave 1 (((((Gp.run P wf (k + 1) g [.ref 0, .pv (.int (xs.length : Int))] (rowS ns i s r))).bind fun y S => idxL (.pv (.lst xs)) y S).bind fun l S => .ok (Flow.rt l) S).bind _) = _
    rw [e]
    show leave 1 (((opt ((at_ xs.length v).bind fun k => xs[k]?) (rowS ns i' s' r')).bind fun l S => .ok (Flow.rt l) S).bind _) = _
    rw [hat]
    show leave 1 (((opt (xs[v.toNat]?) (rowS ns i' s' r')).bind fun l S => .ok (Flow.rt l) S).bind _) = _
    rw [hget]; rfl
  · show leave 1 (((((Gp.run P wf (k + 1) g [.ref 0, .pv (.int (xs.length : Int))] (rowS ns i s r))).bind fun y S => idxL (.pv (.tup xs)) y S).bind fun l S => .ok (Flow.rt l) S).bind _) = _
    rw [e]
    show leave 1 (((opt ((at_ xs.length v).bind fun k => xs[k]?) (rowS ns i' s' r')).bind fun l S => .ok (Flow.rt l) S).bind _) = _
    rw [hat]
    show leave 1 (((opt (xs[v.toNat]?) (rowS ns i' s' r')).bind fun l S => .ok (Flow.rt l) S).bind _) = _
    rw [hget]; rfl
end Gp

namespace Gp
/-! the evaluator as plain functions: what the kernel runs -/
abbrev Ev := Bool → Env → Store → Res LV
abbrev EvL := Env → Store → Res (List LV)
abbrev Sv := Env → Store → Res Flow
def kno : Ev := fun _ _ _ => .bad
def kvar (i : Nat) : Ev := fun m ρ S => tst m (getV ρ i S)
def kcon (p : PV) : Ev := fun m ρ S => tst m (.ok (.pv p) S)
def knil : EvL := fun _ S => .ok [] S
def kcons (a : Ev) (r : EvL) : EvL := fun ρ S => (a false ρ S).bind fun x S => (r ρ S).bind fun xs S => .ok (x :: xs) S
def ktup (es : EvL) : Ev := fun m ρ S => tst m ((es ρ S).bind fun ls S => match pvs ls with
    | some ps => .ok (.pv (.tup ps)) S
    | none => .bad)
def klst (al : Bool) (es : EvL) : Ev := fun m ρ S => tst m ((es ρ S).bind fun ls S => mkL al ls S)
def kdct (al : Bool) (ks vs : EvL) : Ev := fun m ρ S => tst m ((ks ρ S).bind fun ks S => (vs ρ S).bind fun vs S => match pvs ks, pvs vs with
    | some ks, some vs => mkV al ((putAll [] [] (zipP ks vs)).map fun (ks, vs) => .dict ks vs) S
    | _, _ => .bad)
def kbin (o : Bop) (a b : Ev) : Ev := fun m ρ S => tst m ((a false ρ S).bind fun x S => (b false ρ S).bind fun y S => rdB x S fun x => rdB y S fun y => opt (binop o x y) S)
def kneg (a : Ev) : Ev := fun m ρ S => tst m ((a false ρ S).bind fun x S => match x with
    | .pv (.int i) => .ok (.pv (.int (-i))) S
    | _ => .bad)
def knot (a : Ev) : Ev := fun m ρ S => (isT (match m with | true => a true ρ S | false => tst true (a false ρ S))).bind fun t S => .ok (.pv (.bl (!t))) S
def kand (a r : Ev) : Ev := fun m ρ S => andR m (a m ρ S) (fun S => r m ρ S)
def kor (a r : Ev) : Ev := fun m ρ S => orR m (a m ρ S) (fun S => r m ρ S)
def kite (t a b : Ev) : Ev := fun m ρ S => iteR (isT (t true ρ S)) (fun S => a m ρ S) (fun S => b m ρ S)
def kcmp (o : Cop) (a b : Ev) : Ev := fun _ ρ S => (a false ρ S).bind fun x S => (b false ρ S).bind fun y S => cmpL o x y S
def kchain (o1 o2 : Cop) (a b d : Ev) : Ev := fun _ ρ S => (a false ρ S).bind fun x S => (b false ρ S).bind fun y S => iteR (isT (cmpL o1 x y S)) (fun S => (d false ρ S).bind fun z S => cmpL o2 y z S) (fun S => .ok (.pv (.bl false)) S)
def kcall (c : Ctx) (f : Nat) (es : EvL) : Ev := fun m ρ S => tst m ((es ρ S).bind fun ls S => c.call f ls S)
def kblt (f : Bid) (al : Bool) (es : EvL) : Ev := fun m ρ S => tst m ((es ρ S).bind fun ls S => match rds S ls with
    | some ps => mkV al (builtin f ps) S
    | none => .bad)
def kisi (a : Ev) (ts : List Ty) : Ev := fun m ρ S => tst m ((a false ρ S).bind fun x S => rdB x S fun p => .ok (.pv (.bl (ts.any (isTy p)))) S)
def kmth (k : Mid) (o : Ev) (es : EvL) : Ev := fun m ρ S => tst m ((o false ρ S).bind fun x S => if mtyOk k x S then (es ρ S).bind fun ls S => methL k x ls S else .bad)
def kidx (a b : Ev) : Ev := fun m ρ S => tst m ((a false ρ S).bind fun x S => (b false ρ S).bind fun y S => idxL x y S)
def kslc (nl nh : Bool) (a lo hi : Ev) : Ev := fun m ρ S => tst m ((a false ρ S).bind fun x S => (bndO nl (lo false ρ S) S).bind fun i S => (bndO nh (hi false ρ S) S).bind fun j S => rdB x S fun p => opt (slice p i j) S)
def krev (a : Ev) : Ev := fun m ρ S => tst m ((a false ρ S).bind fun x S => rdB x S fun p => opt (revv p) S)
def kdctT : Ev := fun m _ S => tst m (.ok (.ref S.length) (S ++ [.dicT [] []]))
def kgetT (o k d : Ev) : Ev := fun m ρ S => tst m ((o false ρ S).bind fun x S => if (dTof x S).isSome then (k false ρ S).bind fun y S => (d false ρ S).bind fun z S => getTL x y z S else .bad)
def kgetK (o k d : Ev) : Ev := fun m ρ S => tst m ((o false ρ S).bind fun x S => if (dKof x S).isSome then (k false ρ S).bind fun y S => (d false ρ S).bind fun z S => getKL x y z S else .bad)
def kdsp2 (j k : List Nat) (a b : Ev) : Ev := fun m ρ S => tst m ((a false ρ (S ++ [.dict [] []])).bind fun x S' => (b false ρ S').bind fun y S' => dspL S.length j k x y S')
def kvalsT (o : Ev) : Ev := fun m ρ S => tst m ((o false ρ S).bind fun x S => valsTL x S)
def ktkB (a : Ev) : Ev := fun m ρ S => tst m ((a false ρ S).bind fun x S => mkH (lstOf (rd S x)) S)
def ktkD (es : EvL) : Ev := fun m ρ S => tst m ((es ρ S).bind fun ls S => mkH (pvs ls) S)
def klstar (a b : Ev) : Ev := fun m ρ S => tst m ((a false ρ S).bind fun x S => (b false ρ S).bind fun y S => match x with
    | .pv x => rdB y S fun y => match seqOf y with
      | some l => if l.length < big then .ok (.pv (.lst (x :: l))) S else .bad
      | none => .bad
    | _ => .bad)
def klc (al : Bool) (ws : List Nat) (e : Ev) (t : Tg) (it : EvL) (n : Bool) (cd : Ev) : Ev := fun m ρ S => tst m ((it ρ S).bind fun ls S => (noX (compL (fun l S => turn (bindT t l (wipe ρ ws)) fun ρ =>
      iteR (tstO n (cd true ρ S) S) (fun S => (e false ρ S).bind fun v S => .ok (some v) S) (fun S => .ok none S)) ls S)).bind fun ys S => mkC al ys S)
def klc2 (al : Bool) (ws ws2 : List Nat) (e : Ev) (t : Tg) (it : EvL) (n : Bool) (cd : Ev) (t2 : Tg) (it2 : EvL) (n2 : Bool) (cd2 : Ev) : Ev := fun m ρ S => tst m ((it ρ S).bind fun ls S => (noX (compLL (fun l S => match bindT t l (wipe ρ ws) with
    | some ρ => iteR (tstO n (cd true ρ S) S) (fun S => (it2 ρ S).bind fun ls S => compL (fun l S => turn (bindT t2 l (wipe ρ ws2)) fun ρ =>
        iteR (tstO n2 (cd2 true ρ S) S) (fun S => (e false ρ S).bind fun v S => .ok (some v) S) (fun S => .ok none S)) ls S) (fun S => .ok [] S)
    | none => .bad) ls S)).bind fun ys S => mkC al ys S)
def kdc (al : Bool) (ws : List Nat) (k v : Ev) (t : Tg) (it : EvL) (n : Bool) (cd : Ev) : Ev := fun m ρ S => tst m ((it ρ S).bind fun ls S => (noX (compL (fun l S => turn (bindT t l (wipe ρ ws)) fun ρ =>
      iteR (tstO n (cd true ρ S) S) (fun S => (k false ρ S).bind fun k S => (v false ρ S).bind fun v S => match k, v with
        | .pv k, .pv v => .ok (some (.pv (.tup [k, v]))) S
        | _, _ => .bad) (fun S => .ok none S)) ls S)).bind fun ys S => match (if decide (ys.length ≤ big) then pvs ys else none) with
      | some ps => mkV al ((putAll [] [] ps).map fun (ks, vs) => .dict ks vs) S
      | none => .bad)
def kex (e : Ev) : EvL := fun ρ S => (e false ρ S).bind fun l S => lift (itemsOf l S) S
def kr1 (a : Ev) : EvL := fun ρ S => (a false ρ S).bind fun l S => match l with
    | .pv (.int j) => if rangeOk 0 j then .ok ((rangeI 0 j).map .pv) S else .bad
    | _ => .bad
def kr2 (a b : Ev) : EvL := fun ρ S => (a false ρ S).bind fun l S => (b false ρ S).bind fun m S => match l, m with
    | .pv (.int i), .pv (.int j) => if rangeOk i j then .ok ((rangeI i j).map .pv) S else .bad
    | _, _ => .bad
def kenum (a : Ev) : EvL := fun ρ S => (a false ρ S).bind fun l S => enumL l S
def kzip (a b : Ev) : EvL := fun ρ S => (a false ρ S).bind fun l S => (b false ρ S).bind fun m S => zipL l m S
def kasg (t : Tg) (e : Ev) : Sv := fun ρ S => (e false ρ S).bind fun l S => lift ((bindT t l ρ).map .nx) S
def ksub (o i e : Ev) : Sv := fun ρ S => (e false ρ S).bind fun v S => (o false ρ S).bind fun o S => (i false ρ S).bind fun i S => (setL o i v S).bind fun _ S => .ok (.nx ρ) S
def kpar (is : List Nat) (es : EvL) : Sv := fun ρ S => (es ρ S).bind fun ls S => lift ((parT is ls ρ).map .nx) S
def kparC (t : Tg) (es : EvL) : Sv := fun ρ S => (es ρ S).bind fun ls S => lift ((bindTs t ls ρ).map .nx) S
def kaug (i : Nat) (o : Bop) (e : Ev) : Sv := fun ρ S => (getV ρ i S).bind fun x S => (e false ρ S).bind fun y S => rdB x S fun x => rdB y S fun y => match binop o x y, x with
    | some r, .int _ => .ok (.nx (ρ.set i (some (.pv r)))) S
    | _, _ => .bad
def kexp (e : Ev) : Sv := fun ρ S => (e false ρ S).bind fun _ S => .ok (.nx ρ) S
def kfor (t : Tg) (it : EvL) (b : Sv) : Sv := fun ρ S => (it ρ S).bind fun ls S => forL (fun l ρ S => match bindT t l ρ with
    | some ρ => b ρ S
    | none => .bad) ls ρ S
def kwhl (c : Ctx) (t : Ev) (b : Sv) : Sv := fun ρ S => whileL (fun ρ S => isT (t true ρ S)) b c.wf ρ S
def kif (t : Ev) (a b : Sv) : Sv := fun ρ S => iteR (isT (t true ρ S)) (fun S => a ρ S) (fun S => b ρ S)
def kret (e : Ev) : Sv := fun ρ S => (e false ρ S).bind fun l S => .ok (.rt l) S
def kretn : Sv := fun _ S => .ok (.rt (.pv .non)) S
def kpass : Sv := fun ρ S => .ok (.nx ρ) S
def kbrk : Sv := fun ρ S => .ok (.bk ρ) S
def kcnt : Sv := fun ρ S => .ok (.ct ρ) S
def kfrz (i : Nat) : Sv := fun ρ S => match ρ[i]? with
    | some (some (.ref k)) => match S[k]? with
      | some (.lst xs) => .ok (.nx (ρ.set i (some (.pv (.lst xs))))) (S.set k .dead)
      | some (.dict ks vs) => .ok (.nx (ρ.set i (some (.pv (.dict ks vs))))) (S.set k .dead)
      | _ => .bad
    | _ => .bad
def kseq (s r : Sv) : Sv := fun ρ S => (s ρ S).bind fun f S => match f with
    | .nx ρ => r ρ S
    | f => .ok f S
def kend : Sv := fun ρ S => .ok (.nx ρ) S
structure KD where
  ar : Nat
  sl : Nat
  body : Ctx → Sv
def enterK (ar sl : Nat) (ls : List LV) : Env := ls.map some ++ List.replicate (sl - ar) none
def runK (P : List KD) (wf : Nat) : Nat → Nat → List LV → Store → Res LV
  | 0, _, _, _ => .bad
  | n + 1, f, ls, S => match P[f]? with
    | some d => if ls.length = d.ar then leave S.length (d.body ⟨runK P wf n, wf⟩ (enterK d.ar d.sl ls) S) else .bad
    | none => .bad
def kOf (d : Def) : KD := ⟨d.ar, d.sl, fun c => evSs c d.body⟩
theorem runK_eq {P : List Def} {KP : List KD} (h : KP = P.map kOf) (wf : Nat) : ∀ n, Gp.run P wf n = runK KP wf n
  | 0 => by funext f ls S; rfl
  | n + 1 => by
    funext f ls S
    show (match P[f]? with
      | some d => if ls.length = d.ar then leave S.length (evSs ⟨Gp.run P wf n, wf⟩ d.body (enter d ls) S) else .bad
      | none => .bad) = (match KP[f]? with
      | some d => if ls.length = d.ar then leave S.length (d.body ⟨runK KP wf n, wf⟩ (enterK d.ar d.sl ls) S) else .bad
      | none => .bad)
    rw [runK_eq h wf n, h, List.getElem?_map]
    cases P[f]? <;> rfl
end Gp

/-! our text of the law k30_whole_sheets, printed by gen.py -/
namespace Ck30
open PySem PySem.Spec PyProof.Rows L2 Gp
abbrev prog : Program := PySem.Challenge.pw_nomoretold_k30_whole_sheets
def topS (i : Nat) : Stmt := PySem.Challenge.pw_nomoretold_k30_whole_sheets.main.body.getD i (.Pass ⟨0, 0, 0, 0⟩)
/-- is_from -/
def d0 : DefI := ⟨"is_from", topS 9, ["value", "least", "most"], ⟨3, 3, (.cons (.ret (.and (.cons (.isi (.var 0) [.int]) (.cons (.not (.isi (.var 0) [.bool])) (.cons (.chain .le .le (.var 1) (.var 0) (.var 2)) .nil))))) .nil)⟩⟩
/-- need_number -/
def d1 : DefI := ⟨"need_number", topS 11, ["value", "least", "most"], ⟨3, 3, (.cons (.iff (.not (.call 0 (.cons (.var 0) (.cons (.var 1) (.cons (.var 2) .nil))))) (.cons (.exp .no) .nil) .nil) .nil)⟩⟩
/-- need_prime -/
def d2 : DefI := ⟨"need_prime", topS 16, ["value"], ⟨1, 1, (.cons (.iff (.or (.cons (.not (.call 0 (.cons (.var 0) (.cons (.con (.int 5)) (.cons (.con (.int 13)) .nil))))) (.cons (.cmp .notin (.var 0) (.con (.tup [(.int 5), (.int 7), (.int 11), (.int 13)]))) .nil))) (.cons (.exp .no) .nil) .nil) .nil)⟩⟩
/-- are_numbers -/
def d3 : DefI := ⟨"are_numbers", topS 17, ["p", "value", "one"], ⟨2, 3, (.cons (.ret (.and (.cons (.isi (.var 1) [.tuple]) (.cons (.blt .all false (.cons (.lc false [2] (.call 0 (.cons (.var 2) (.cons (.con (.int 0)) (.cons (.bin .sub (.var 0) (.con (.int 1))) .nil)))) (.nm 2) (.ex (.var 1)) .no) .nil)) .nil)))) .nil)⟩⟩
/-- value_at -/
def d4 : DefI := ⟨"value_at", topS 18, ["p", "secret", "coins", "place", "found", "coin"], ⟨4, 6, (.cons (.asg (.g (.nm 4)) (.con (.int 0))) (.cons (.forr (.nm 5) (.ex (.rev (.var 2))) (.cons (.asg (.g (.nm 4)) (.bin .mod (.bin .mul (.bin .add (.var 4) (.var 5)) (.var 3)) (.var 0))) .nil)) (.cons (.ret (.bin .mod (.bin .add (.var 4) (.var 1)) (.var 0))) .nil)))⟩⟩
/-- deal -/
def d5 : DefI := ⟨"deal", topS 19, ["p", "many", "secret", "coins", "person"], ⟨4, 5, (.cons (.ret (.blt .tuple false (.cons (.lc false [4] (.call 4 (.cons (.var 0) (.cons (.var 2) (.cons (.var 3) (.cons (.bin .add (.var 4) (.con (.int 1))) .nil))))) (.nm 4) (.r1 (.var 1)) .no) .nil))) .nil)⟩⟩
/-- weights_for -/
def d6 : DefI := ⟨"weights_for", topS 20, ["p", "places", "found", "place", "other", "top", "low"], ⟨2, 7, (.cons (.asg (.g (.nm 2)) (.lst true .nil)) (.cons (.forr (.nm 3) (.ex (.var 1)) (.cons (.asg (.g (.t2 (.nm 5) (.nm 6))) (.tup (.cons (.con (.int 1)) (.cons (.con (.int 1)) .nil)))) (.cons (.forr (.nm 4) (.ex (.var 1)) (.cons (.iff (.cmp .ne (.var 4) (.var 3)) (.cons (.par [5, 6] (.cons (.bin .mod (.bin .mul (.var 5) (.var 4)) (.var 0)) (.cons (.bin .mod (.bin .mul (.var 6) (.bin .sub (.var 4) (.var 3))) (.var 0)) .nil))) .nil) .nil) .nil)) (.cons (.exp (.mth .append (.var 2) (.cons (.bin .mod (.bin .mul (.var 5) (.call 7 (.cons (.var 0) (.cons (.var 6) .nil)))) (.var 0)) .nil))) .nil)))) (.cons (.frz 2) (.cons (.ret (.blt .tuple false (.cons (.var 2) .nil))) .nil))))⟩⟩
/-- inverse -/
def d7 : DefI := ⟨"inverse", topS 21, ["p", "number", "found", "turn"], ⟨2, 4, (.cons (.asg (.g (.nm 2)) (.con (.int 1))) (.cons (.forr (.nm 3) (.r1 (.bin .sub (.var 0) (.con (.int 2)))) (.cons (.asg (.g (.nm 2)) (.bin .mod (.bin .mul (.var 2) (.var 1)) (.var 0))) .nil)) (.cons (.ret (.var 2)) .nil)))⟩⟩
/-- is_row -/
def d8 : DefI := ⟨"is_row", topS 26, ["value", "many", "ahead", "most"], ⟨3, 4, (.cons (.iff (.or (.cons (.not (.isi (.var 0) [.tuple])) (.cons (.not (.chain .le .le (.con (.int 2)) (.blt .len false (.cons (.var 0) .nil)) (.con (.int 3)))) (.cons (.not (.isi (.idx (.var 0) (.con (.int 0))) [.str])) .nil)))) (.cons (.ret (.con (.bl false))) .nil) .nil) (.cons (.iff (.cmp .eq (.blt .len false (.cons (.var 0) .nil)) (.con (.int 2))) (.cons (.asg (.g (.nm 3)) (.getK (.dsp2 [111, 119, 110] [110, 117, 109, 98, 101, 114] (.bin .sub (.var 1) (.con (.int 1))) (.con (.int 12))) (.idx (.var 0) (.con (.int 0))) (.neg (.con (.int 1))))) (.cons (.ret (.call 0 (.cons (.idx (.var 0) (.con (.int 1))) (.cons (.con (.int 0)) (.cons (.var 3) .nil))))) .nil)) .nil) (.cons (.iff (.cmp .notin (.idx (.var 0) (.con (.int 0))) (.tup (.cons (.con (.str [115, 117, 109])) (.cons (.con (.str [116, 105, 109, 101, 115])) .nil)))) (.cons (.ret (.con (.bl false))) .nil) .nil) (.cons (.ret (.and (.cons (.call 0 (.cons (.idx (.var 0) (.con (.int 1))) (.cons (.con (.int 0)) (.cons (.bin .sub (.var 2) (.con (.int 1))) .nil)))) (.cons (.call 0 (.cons (.idx (.var 0) (.con (.int 2))) (.cons (.con (.int 0)) (.cons (.bin .sub (.var 2) (.con (.int 1))) .nil)))) .nil)))) .nil))))⟩⟩
/-- need_sheet -/
def d9 : DefI := ⟨"need_sheet", topS 27, ["many", "value", "index", "row"], ⟨2, 4, (.cons (.iff (.or (.cons (.not (.isi (.var 1) [.tuple])) (.cons (.not (.chain .le .le (.con (.int 1)) (.blt .len false (.cons (.var 1) .nil)) (.con (.int 8)))) .nil))) (.cons (.exp .no) .nil) .nil) (.cons (.forr (.t2 (.nm 2) (.nm 3)) (.enum (.var 1)) (.cons (.iff (.not (.call 8 (.cons (.var 3) (.cons (.var 0) (.cons (.var 2) .nil))))) (.cons (.exp .no) .nil) .nil) .nil)) .nil))⟩⟩
/-- need_things -/
def d10 : DefI := ⟨"need_things", topS 28, ["p", "many", "value"], ⟨3, 3, (.cons (.iff (.or (.cons (.not (.call 3 (.cons (.var 0) (.cons (.var 2) .nil)))) (.cons (.cmp .ne (.blt .len false (.cons (.var 2) .nil)) (.var 1)) .nil))) (.cons (.exp .no) .nil) .nil) .nil)⟩⟩
/-- sheet_value -/
def d11 : DefI := ⟨"sheet_value", topS 29, ["p", "many", "sheet", "things", "found", "row"], ⟨4, 6, (.cons (.exp (.call 2 (.cons (.var 0) .nil))) (.cons (.exp (.call 1 (.cons (.var 1) (.cons (.con (.int 2)) (.cons (.con (.int 4)) .nil))))) (.cons (.exp (.call 9 (.cons (.var 1) (.cons (.var 2) .nil)))) (.cons (.exp (.call 10 (.cons (.var 0) (.cons (.var 1) (.cons (.var 3) .nil))))) (.cons (.asg (.g (.nm 4)) (.lst true .nil)) (.cons (.forr (.nm 5) (.ex (.var 2)) (.cons (.iff (.cmp .eq (.idx (.var 5) (.con (.int 0))) (.con (.str [111, 119, 110]))) (.cons (.exp (.mth .append (.var 4) (.cons (.idx (.var 3) (.idx (.var 5) (.con (.int 1)))) .nil))) .nil) (.cons (.iff (.cmp .eq (.idx (.var 5) (.con (.int 0))) (.con (.str [110, 117, 109, 98, 101, 114]))) (.cons (.exp (.mth .append (.var 4) (.cons (.bin .mod (.idx (.var 5) (.con (.int 1))) (.var 0)) .nil))) .nil) (.cons (.iff (.cmp .eq (.idx (.var 5) (.con (.int 0))) (.con (.str [115, 117, 109]))) (.cons (.exp (.mth .append (.var 4) (.cons (.bin .mod (.bin .add (.idx (.var 4) (.idx (.var 5) (.con (.int 1)))) (.idx (.var 4) (.idx (.var 5) (.con (.int 2))))) (.var 0)) .nil))) .nil) (.cons (.exp (.mth .append (.var 4) (.cons (.bin .mod (.bin .mul (.idx (.var 4) (.idx (.var 5) (.con (.int 1)))) (.idx (.var 4) (.idx (.var 5) (.con (.int 2))))) (.var 0)) .nil))) .nil)) .nil)) .nil)) .nil)) (.cons (.frz 4) (.cons (.ret (.idx (.var 4) (.neg (.con (.int 1))))) .nil))))))))⟩⟩
/-- need_enough -/
def d12 : DefI := ⟨"need_enough", topS 30, ["many", "size", "sheet", "has_times", "row"], ⟨3, 5, (.cons (.asg (.g (.nm 3)) (.blt .any false (.cons (.lc false [4] (.cmp .eq (.idx (.var 4) (.con (.int 0))) (.con (.str [116, 105, 109, 101, 115]))) (.nm 4) (.ex (.var 2)) .no) .nil))) (.cons (.iff (.cmp .ge (.ite (.var 3) (.bin .mul (.con (.int 2)) (.var 1)) (.var 1)) (.var 0)) (.cons (.exp .no) .nil) .nil) .nil))⟩⟩
/-- coins_for -/
def d13 : DefI := ⟨"coins_for", topS 31, ["many", "size", "sheet", "row"], ⟨3, 4, (.cons (.ret (.blt .sum false (.cons (.lc false [3] (.getK (.dsp2 [111, 119, 110] [116, 105, 109, 101, 115] (.var 1) (.bin .mul (.var 0) (.var 1))) (.idx (.var 3) (.con (.int 0))) (.con (.int 0))) (.nm 3) (.ex (.var 2)) .no) .nil))) .nil)⟩⟩
/-- count_coins -/
def d14 : DefI := ⟨"count_coins", topS 32, ["many", "size", "sheet"], ⟨3, 3, (.cons (.exp (.call 1 (.cons (.var 0) (.cons (.con (.int 2)) (.cons (.con (.int 4)) .nil))))) (.cons (.exp (.call 1 (.cons (.var 1) (.cons (.con (.int 1)) (.cons (.con (.int 2)) .nil))))) (.cons (.exp (.call 9 (.cons (.var 0) (.cons (.var 2) .nil)))) (.cons (.exp (.call 12 (.cons (.var 0) (.cons (.var 1) (.cons (.var 2) .nil))))) (.cons (.ret (.call 13 (.cons (.var 0) (.cons (.var 1) (.cons (.var 2) .nil))))) .nil)))))⟩⟩
/-- run_shared -/
def d15 : DefI := ⟨"run_shared", topS 33, ["p", "many", "size", "sheet", "things", "coins", "weights", "row", "found", "dealt", "at", "shares", "some", "person", "own", "one", "other", "weight"], ⟨6, 18, (.cons (.par [8, 9, 10] (.cons (.lst true .nil) (.cons (.lst true .nil) (.cons (.con (.int 0)) .nil)))) (.cons (.asg (.g (.nm 6)) (.call 6 (.cons (.var 0) (.cons (.blt .lstR2 false (.cons (.con (.int 1)) (.cons (.bin .add (.var 1) (.con (.int 1))) .nil))) .nil)))) (.cons (.forr (.nm 7) (.ex (.var 3)) (.cons (.iff (.cmp .eq (.idx (.var 7) (.con (.int 0))) (.con (.str [111, 119, 110]))) (.cons (.asg (.g (.nm 11)) (.call 5 (.cons (.var 0) (.cons (.var 1) (.cons (.idx (.var 4) (.idx (.var 7) (.con (.int 1)))) (.cons (.slc (.var 5) (.var 10) (.bin .add (.var 10) (.var 2))) .nil)))))) (.cons (.aug 10 .add (.var 2)) (.cons (.exp (.mth .append (.var 9) (.cons (.tup (.cons (.var 11) .nil)) .nil))) .nil))) (.cons (.iff (.cmp .eq (.idx (.var 7) (.con (.int 0))) (.con (.str [110, 117, 109, 98, 101, 114]))) (.cons (.asg (.g (.nm 11)) (.bin .mul (.tup (.cons (.bin .mod (.idx (.var 7) (.con (.int 1))) (.var 0)) .nil)) (.var 1))) .nil) (.cons (.iff (.cmp .eq (.idx (.var 7) (.con (.int 0))) (.con (.str [115, 117, 109]))) (.cons (.asg (.g (.nm 11)) (.blt .tuple false (.cons (.lc false [15, 16] (.bin .mod (.bin .add (.var 15) (.var 16)) (.var 0)) (.t2 (.nm 15) (.nm 16)) (.zip (.idx (.var 8) (.idx (.var 7) (.con (.int 1)))) (.idx (.var 8) (.idx (.var 7) (.con (.int 2))))) .no) .nil))) .nil) (.cons (.asg (.g (.nm 12)) (.lst true .nil)) (.cons (.forr (.nm 13) (.r1 (.var 1)) (.cons (.asg (.g (.nm 14)) (.bin .mod (.bin .mul (.idx (.idx (.var 8) (.idx (.var 7) (.con (.int 1)))) (.var 13)) (.idx (.idx (.var 8) (.idx (.var 7) (.con (.int 2)))) (.var 13))) (.var 0))) (.cons (.exp (.mth .append (.var 12) (.cons (.call 5 (.cons (.var 0) (.cons (.var 1) (.cons (.var 14) (.cons (.slc (.var 5) (.var 10) (.bin .add (.var 10) (.var 2))) .nil))))) .nil))) (.cons (.aug 10 .add (.var 2)) .nil)))) (.cons (.frz 12) (.cons (.exp (.mth .append (.var 9) (.cons (.blt .tuple false (.cons (.var 12) .nil)) .nil))) (.cons (.asg (.g (.nm 11)) (.blt .tuple false (.cons (.lc false [13] (.bin .mod (.blt .sum false (.cons (.lc false [17, 15] (.bin .mul (.var 17) (.idx (.var 15) (.var 13))) (.t2 (.nm 17) (.nm 15)) (.zip (.var 6) (.var 12)) .no) .nil)) (.var 0)) (.nm 13) (.r1 (.var 1)) .no) .nil))) .nil)))))) .nil)) .nil)) (.cons (.exp (.mth .append (.var 8) (.cons (.var 11) .nil))) .nil))) (.cons (.frz 8) (.cons (.frz 9) (.cons (.ret (.tup (.cons (.idx (.var 8) (.neg (.con (.int 1)))) (.cons (.blt .tuple false (.cons (.var 9) .nil)) .nil)))) .nil))))))⟩⟩
/-- need_run -/
def d16 : DefI := ⟨"need_run", topS 34, ["p", "many", "size", "sheet", "things"], ⟨5, 5, (.cons (.exp (.call 2 (.cons (.var 0) .nil))) (.cons (.exp (.call 1 (.cons (.var 1) (.cons (.con (.int 2)) (.cons (.con (.int 4)) .nil))))) (.cons (.exp (.call 1 (.cons (.var 2) (.cons (.con (.int 1)) (.cons (.con (.int 2)) .nil))))) (.cons (.exp (.call 9 (.cons (.var 1) (.cons (.var 3) .nil)))) (.cons (.exp (.call 10 (.cons (.var 0) (.cons (.var 1) (.cons (.var 4) .nil))))) .nil)))))⟩⟩
/-- by_shares -/
def d17 : DefI := ⟨"by_shares", topS 35, ["p", "many", "size", "sheet", "things", "coins", "weights", "shares", "dealt", "weight", "one"], ⟨6, 11, (.cons (.exp (.call 16 (.cons (.var 0) (.cons (.var 1) (.cons (.var 2) (.cons (.var 3) (.cons (.var 4) .nil))))))) (.cons (.iff (.or (.cons (.not (.call 3 (.cons (.var 0) (.cons (.var 5) .nil)))) (.cons (.cmp .ne (.blt .len false (.cons (.var 5) .nil)) (.call 13 (.cons (.var 1) (.cons (.var 2) (.cons (.var 3) .nil))))) .nil))) (.cons (.exp .no) .nil) .nil) (.cons (.exp (.call 12 (.cons (.var 1) (.cons (.var 2) (.cons (.var 3) .nil))))) (.cons (.asg (.g (.t2 (.nm 7) (.nm 8))) (.call 15 (.cons (.var 0) (.cons (.var 1) (.cons (.var 2) (.cons (.var 3) (.cons (.var 4) (.cons (.var 5) .nil)))))))) (.cons (.asg (.g (.nm 6)) (.call 6 (.cons (.var 0) (.cons (.blt .lstR2 false (.cons (.con (.int 1)) (.cons (.bin .add (.var 1) (.con (.int 1))) .nil))) .nil)))) (.cons (.ret (.tup (.cons (.bin .mod (.blt .sum false (.cons (.lc false [9, 10] (.bin .mul (.var 9) (.var 10)) (.t2 (.nm 9) (.nm 10)) (.zip (.var 6) (.var 7)) .no) .nil)) (.var 0)) (.cons (.var 8) .nil)))) .nil))))))⟩⟩
/-- _law_taken -/
def d18 : DefI := ⟨"_law_taken", topS 37, ["_law_row", "_law_many", "_law_cell", "_law_found"], ⟨2, 4, (.cons (.iff (.cmp .gt (.idx (.var 0) (.con (.int 3))) (.con (.int 0))) (.cons (.asg (.g (.nm 3)) (.bin .mod (.blt .int false (.cons (.idx (.var 0) (.con (.int 3))) .nil)) (.var 1))) (.cons (.asg (.sub (.var 0) (.con (.int 3))) (.bin .fdiv (.idx (.var 0) (.con (.int 3))) (.var 1))) (.cons (.ret (.var 3)) .nil))) .nil) (.cons (.asg (.sub (.var 0) (.con (.int 1))) (.bin .add (.idx (.var 0) (.con (.int 1))) (.con (.int 1)))) (.cons (.iff (.cmp .gt (.idx (.var 0) (.con (.int 1))) (.blt .len false (.cons (.idx (.var 0) (.con (.int 0))) .nil))) (.cons (.asg (.sub (.var 0) (.con (.int 2))) (.bin .mod (.blt .int false (.cons (.bin .add (.bin .mul (.idx (.var 0) (.con (.int 2))) (.con (.int 48271))) (.con (.int 11))) .nil)) (.con (.int 2147483647)))) (.cons (.ret (.bin .mod (.blt .int false (.cons (.bin .fdiv (.idx (.var 0) (.con (.int 2))) (.con (.int 7))) .nil)) (.var 1))) .nil)) .nil) (.cons (.asg (.g (.nm 2)) (.idx (.idx (.var 0) (.con (.int 0))) (.bin .sub (.idx (.var 0) (.con (.int 1))) (.con (.int 1))))) (.cons (.asg (.sub (.var 0) (.con (.int 2))) (.bin .mod (.blt .int false (.cons (.bin .add (.bin .add (.bin .mul (.idx (.var 0) (.con (.int 2))) (.con (.int 48271))) (.var 2)) (.con (.int 11))) .nil)) (.con (.int 2147483647)))) (.cons (.iff (.cmp .ge (.var 2) (.bin .pow (.con (.int 10)) (.con (.int 18)))) (.cons (.asg (.sub (.var 0) (.con (.int 3))) (.bin .fdiv (.var 2) (.var 1))) .nil) .nil) (.cons (.ret (.bin .mod (.blt .int false (.cons (.var 2) .nil)) (.var 1))) .nil)))))))⟩⟩
/-- _law_pick -/
def d19 : DefI := ⟨"_law_pick", topS 38, ["_law_row", "_law_things"], ⟨2, 2, (.cons (.ret (.idx (.var 1) (.call 18 (.cons (.var 0) (.cons (.blt .len false (.cons (.var 1) .nil)) .nil))))) .nil)⟩⟩
/-- _law_alike -/
def d20 : DefI := ⟨"_law_alike", topS 39, ["_law_found", "_law_due", "_law_k", "_law_key"], ⟨2, 4, (.cons (.iff (.isi (.var 1) [.tuple, .list]) (.cons (.iff (.or (.cons (.not (.isi (.var 0) [.tuple, .list])) (.cons (.cmp .ne (.isi (.var 0) [.list]) (.isi (.var 1) [.list])) .nil))) (.cons (.ret (.con (.bl false))) .nil) .nil) (.cons (.iff (.cmp .ne (.blt .len false (.cons (.var 0) .nil)) (.blt .len false (.cons (.var 1) .nil))) (.cons (.ret (.con (.bl false))) .nil) .nil) (.cons (.ret (.cmp .eq (.lc false [2] (.var 2) (.nm 2) (.r1 (.blt .len false (.cons (.var 1) .nil))) (.not (.call 20 (.cons (.idx (.var 0) (.var 2)) (.cons (.idx (.var 1) (.var 2)) .nil))))) (.lst false .nil))) .nil))) .nil) (.cons (.iff (.isi (.var 1) [.dict]) (.cons (.iff (.or (.cons (.not (.isi (.var 0) [.dict])) (.cons (.cmp .ne (.blt .sorted false (.cons (.var 0) .nil)) (.blt .sorted false (.cons (.var 1) .nil))) .nil))) (.cons (.ret (.con (.bl false))) .nil) .nil) (.cons (.ret (.cmp .eq (.lc false [3] (.var 3) (.nm 3) (.ex (.var 1)) (.not (.call 20 (.cons (.idx (.var 0) (.var 3)) (.cons (.idx (.var 1) (.var 3)) .nil))))) (.lst false .nil))) .nil)) .nil) (.cons (.iff (.or (.cons (.cmp .isN (.var 1) (.con .non)) (.cons (.isi (.var 1) [.str]) .nil))) (.cons (.ret (.and (.cons (.cmp .eq (.var 0) (.var 1)) (.cons (.cmp .eq (.isi (.var 0) [.str]) (.isi (.var 1) [.str])) .nil)))) .nil) .nil) (.cons (.ret (.and (.cons (.isi (.var 0) [.int]) (.cons (.cmp .eq (.isi (.var 0) [.bool]) (.isi (.var 1) [.bool])) (.cons (.cmp .eq (.var 0) (.var 1)) .nil))))) .nil))))⟩⟩
/-- _law_sheet -/
def d21 : DefI := ⟨"_law_sheet", topS 40, ["_law_row", "_law_many", "_law_most", "_law_times", "_law_found", "_law_turn", "_law_way", "_law_one", "_law_other"], ⟨4, 9, (.cons (.asg (.g (.nm 4)) (.lst true (.cons (.tup (.cons (.con (.str [111, 119, 110])) (.cons (.call 18 (.cons (.var 0) (.cons (.var 1) .nil))) .nil))) .nil))) (.cons (.forr (.nm 5) (.r1 (.call 18 (.cons (.var 0) (.cons (.var 2) .nil)))) (.cons (.asg (.g (.nm 6)) (.call 18 (.cons (.var 0) (.cons (.ite (.var 3) (.con (.int 4)) (.con (.int 3))) .nil)))) (.cons (.par [7, 8] (.cons (.call 18 (.cons (.var 0) (.cons (.blt .len false (.cons (.var 4) .nil)) .nil))) (.cons (.call 18 (.cons (.var 0) (.cons (.blt .len false (.cons (.var 4) .nil)) .nil))) .nil))) (.cons (.exp (.mth .append (.var 4) (.cons (.ite (.cmp .eq (.var 6) (.con (.int 0))) (.call 19 (.cons (.var 0) (.cons (.lst false (.cons (.tup (.cons (.con (.str [111, 119, 110])) (.cons (.call 18 (.cons (.var 0) (.cons (.var 1) .nil))) .nil))) (.cons (.tup (.cons (.con (.str [110, 117, 109, 98, 101, 114])) (.cons (.call 18 (.cons (.var 0) (.cons (.con (.int 13)) .nil))) .nil))) .nil))) .nil))) (.tup (.cons (.ite (.cmp .eq (.var 6) (.con (.int 3))) (.con (.str [116, 105, 109, 101, 115])) (.con (.str [115, 117, 109]))) (.cons (.var 7) (.cons (.var 8) .nil))))) .nil))) .nil)))) (.cons (.frz 4) (.cons (.ret (.blt .tuple false (.cons (.var 4) .nil))) .nil))))⟩⟩
/-- _law_sheet_value -/
def d22 : DefI := ⟨"_law_sheet_value", topS 41, ["_law_p", "_law_sheet_here", "_law_things", "_law_found", "_law_line", "_law_one", "_law_other"], ⟨3, 7, (.cons (.asg (.g (.nm 3)) (.lst true .nil)) (.cons (.forr (.nm 4) (.ex (.var 1)) (.cons (.iff (.cmp .eq (.blt .len false (.cons (.var 4) .nil)) (.con (.int 2))) (.cons (.exp (.mth .append (.var 3) (.cons (.ite (.cmp .eq (.idx (.var 4) (.con (.int 0))) (.con (.str [111, 119, 110]))) (.idx (.var 2) (.idx (.var 4) (.con (.int 1)))) (.bin .mod (.idx (.var 4) (.con (.int 1))) (.var 0))) .nil))) .nil) (.cons (.par [5, 6] (.cons (.idx (.var 3) (.idx (.var 4) (.con (.int 1)))) (.cons (.idx (.var 3) (.idx (.var 4) (.con (.int 2)))) .nil))) (.cons (.exp (.mth .append (.var 3) (.cons (.bin .mod (.ite (.cmp .eq (.idx (.var 4) (.con (.int 0))) (.con (.str [115, 117, 109]))) (.bin .add (.var 5) (.var 6)) (.bin .mul (.var 5) (.var 6))) (.var 0)) .nil))) .nil))) .nil)) (.cons (.frz 3) (.cons (.ret (.idx (.var 3) (.neg (.con (.int 1))))) .nil))))⟩⟩
/-- _law_at -/
def d23 : DefI := ⟨"_law_at", topS 42, ["_law_p", "_law_coins", "_law_place", "_law_coin", "_law_found", "_law_power"], ⟨3, 6, (.cons (.asg (.g (.t2 (.nm 4) (.nm 5))) (.tup (.cons (.con (.int 0)) (.cons (.con (.int 1)) .nil)))) (.cons (.forr (.nm 3) (.ex (.var 1)) (.cons (.par [4, 5] (.cons (.bin .mod (.bin .add (.var 4) (.bin .mul (.var 3) (.var 5))) (.var 0)) (.cons (.bin .mod (.bin .mul (.var 5) (.var 2)) (.var 0)) .nil))) .nil)) (.cons (.ret (.var 4)) .nil)))⟩⟩
/-- _law_dealt -/
def d24 : DefI := ⟨"_law_dealt", topS 43, ["_law_p", "_law_many", "_law_secret", "_law_coins", "_law_person"], ⟨4, 5, (.cons (.ret (.blt .tuple false (.cons (.lc false [4] (.call 23 (.cons (.var 0) (.cons (.bin .add (.tup (.cons (.var 2) .nil)) (.blt .tuple false (.cons (.var 3) .nil))) (.cons (.bin .add (.var 4) (.con (.int 1))) .nil)))) (.nm 4) (.r1 (.var 1)) .no) .nil))) .nil)⟩⟩
/-- _law_gauge -/
def d25 : DefI := ⟨"_law_gauge", topS 44, ["_law_p", "_law_many", "_law_found", "_law_place", "_law_other", "_law_top", "_law_low", "_law_number"], ⟨2, 8, (.cons (.asg (.g (.nm 2)) (.lst true .nil)) (.cons (.forr (.nm 3) (.r2 (.con (.int 1)) (.bin .add (.var 1) (.con (.int 1)))) (.cons (.asg (.g (.t2 (.nm 5) (.nm 6))) (.tup (.cons (.con (.int 1)) (.cons (.con (.int 1)) .nil)))) (.cons (.forr (.nm 4) (.r2 (.con (.int 1)) (.bin .add (.var 1) (.con (.int 1)))) (.cons (.iff (.cmp .ne (.var 4) (.var 3)) (.cons (.asg (.g (.t2 (.nm 5) (.nm 6))) (.tup (.cons (.bin .mod (.bin .mul (.var 5) (.var 4)) (.var 0)) (.cons (.bin .mod (.bin .mul (.var 6) (.bin .sub (.var 4) (.var 3))) (.var 0)) .nil)))) .nil) .nil) .nil)) (.cons (.exp (.mth .append (.var 2) (.cons (.idx (.lc false [7] (.var 7) (.nm 7) (.r1 (.var 0)) (.cmp .eq (.bin .mod (.bin .mul (.var 7) (.var 6)) (.var 0)) (.var 5))) (.con (.int 0))) .nil))) .nil)))) (.cons (.frz 2) (.cons (.ret (.var 2)) .nil))))⟩⟩
/-- _law_shared -/
def d26 : DefI := ⟨"_law_shared", topS 45, ["_law_p", "_law_many", "_law_size", "_law_sheet_here", "_law_things", "_law_coins", "_law_gauge_here", "_law_line", "_law_found", "_law_told", "_law_left", "_law_given", "_law_person", "_law_one", "_law_other", "_law_giver"], ⟨6, 16, (.cons (.par [8, 9, 10] (.cons (.lst true .nil) (.cons (.lst true .nil) (.cons (.blt .list false (.cons (.var 5) .nil)) .nil)))) (.cons (.asg (.g (.nm 6)) (.call 25 (.cons (.var 0) (.cons (.var 1) .nil)))) (.cons (.forr (.nm 7) (.ex (.var 3)) (.cons (.iff (.cmp .eq (.idx (.var 7) (.con (.int 0))) (.con (.str [111, 119, 110]))) (.cons (.exp (.mth .append (.var 8) (.cons (.call 24 (.cons (.var 0) (.cons (.var 1) (.cons (.idx (.var 4) (.idx (.var 7) (.con (.int 1)))) (.cons (.slc (.var 10) .no (.var 2)) .nil))))) .nil))) (.cons (.exp (.mth .append (.var 9) (.cons (.tup (.cons (.tup (.cons (.idx (.var 7) (.con (.int 1))) .nil)) (.cons (.tup (.cons (.idx (.var 8) (.neg (.con (.int 1)))) .nil)) .nil))) .nil))) (.cons (.asg (.g (.nm 10)) (.slc (.var 10) (.var 2) .no)) .nil))) (.cons (.iff (.cmp .eq (.idx (.var 7) (.con (.int 0))) (.con (.str [110, 117, 109, 98, 101, 114]))) (.cons (.exp (.mth .append (.var 8) (.cons (.bin .mul (.tup (.cons (.bin .mod (.idx (.var 7) (.con (.int 1))) (.var 0)) .nil)) (.var 1)) .nil))) .nil) (.cons (.iff (.cmp .eq (.idx (.var 7) (.con (.int 0))) (.con (.str [115, 117, 109]))) (.cons (.exp (.mth .append (.var 8) (.cons (.blt .tuple false (.cons (.lc false [13, 14] (.bin .mod (.bin .add (.var 13) (.var 14)) (.var 0)) (.t2 (.nm 13) (.nm 14)) (.zip (.idx (.var 8) (.idx (.var 7) (.con (.int 1)))) (.idx (.var 8) (.idx (.var 7) (.con (.int 2))))) .no) .nil)) .nil))) .nil) (.cons (.asg (.g (.nm 11)) (.lst true .nil)) (.cons (.forr (.nm 12) (.r1 (.var 1)) (.cons (.exp (.mth .append (.var 11) (.cons (.call 24 (.cons (.var 0) (.cons (.var 1) (.cons (.bin .mod (.bin .mul (.idx (.idx (.var 8) (.idx (.var 7) (.con (.int 1)))) (.var 12)) (.idx (.idx (.var 8) (.idx (.var 7) (.con (.int 2)))) (.var 12))) (.var 0)) (.cons (.slc (.var 10) .no (.var 2)) .nil))))) .nil))) (.cons (.asg (.g (.nm 10)) (.slc (.var 10) (.var 2) .no)) .nil))) (.cons (.frz 11) (.cons (.exp (.mth .append (.var 9) (.cons (.tup (.cons (.blt .tupR1 false (.cons (.var 1) .nil)) (.cons (.blt .tuple false (.cons (.var 11) .nil)) .nil))) .nil))) (.cons (.exp (.mth .append (.var 8) (.cons (.blt .tuple false (.cons (.lc false [12] (.bin .mod (.blt .sum false (.cons (.lc false [15] (.bin .mul (.idx (.var 6) (.var 15)) (.idx (.idx (.var 11) (.var 15)) (.var 12))) (.nm 15) (.r1 (.var 1)) .no) .nil)) (.var 0)) (.nm 12) (.r1 (.var 1)) .no) .nil)) .nil))) .nil)))))) .nil)) .nil)) .nil)) (.cons (.frz 9) (.cons (.frz 8) (.cons (.ret (.tup (.cons (.idx (.var 8) (.neg (.con (.int 1)))) (.cons (.var 9) .nil)))) .nil))))))⟩⟩
/-- _law_coin_count -/
def d27 : DefI := ⟨"_law_coin_count", topS 46, ["_law_many", "_law_size", "_law_sheet_here", "_law_line"], ⟨3, 4, (.cons (.ret (.blt .sum false (.cons (.lc false [3] (.ite (.cmp .eq (.idx (.var 3) (.con (.int 0))) (.con (.str [111, 119, 110]))) (.var 1) (.ite (.cmp .eq (.idx (.var 3) (.con (.int 0))) (.con (.str [116, 105, 109, 101, 115]))) (.bin .mul (.var 0) (.var 1)) (.con (.int 0)))) (.nm 3) (.ex (.var 2)) .no) .nil))) .nil)⟩⟩
/-- law -/
def d28 : DefI := ⟨"law", topS 47, ["_law_script", "_law_row", "_law_times", "_law_sheet_here", "_law_things", "_law_due", "_law_size", "_law_many_coins", "_law_turn", "_law_p", "_law_many", "_law_coins", "_law_shares", "_law_told", "_law_person", "_law_coin", "_law_line", "_law_weight", "_law_share", "_law_givers", "_law_given"], ⟨1, 21, (.cons (.asg (.g (.nm 1)) (.lst true (.cons (.var 0) (.cons (.con (.int 0)) (.cons (.con (.int 7730)) (.cons (.con (.int 0)) .nil)))))) (.cons (.asg (.g (.t2 (.nm 9) (.nm 10))) (.tup (.cons (.call 19 (.cons (.var 1) (.cons (.lst false (.cons (.con (.int 5)) (.cons (.con (.int 7)) (.cons (.con (.int 11)) (.cons (.con (.int 13)) .nil))))) .nil))) (.cons (.bin .add (.con (.int 2)) (.call 18 (.cons (.var 1) (.cons (.con (.int 3)) .nil)))) .nil)))) (.cons (.asg (.g (.nm 2)) (.cmp .gt (.var 10) (.con (.int 2)))) (.cons (.asg (.g (.nm 3)) (.call 21 (.cons (.var 1) (.cons (.var 10) (.cons (.con (.int 8)) (.cons (.var 2) .nil)))))) (.cons (.asg (.g (.nm 4)) (.blt .tuple false (.cons (.lc false [14] (.call 18 (.cons (.var 1) (.cons (.var 9) .nil))) (.nm 14) (.r1 (.var 10)) .no) .nil))) (.cons (.asg (.g (.nm 5)) (.call 22 (.cons (.var 9) (.cons (.var 3) (.cons (.var 4) .nil))))) (.cons (.iff (.not (.call 20 (.cons (.call 11 (.cons (.var 9) (.cons (.var 10) (.cons (.var 3) (.cons (.var 4) .nil))))) (.cons (.var 5) .nil)))) (.cons (.ret (.con (.bl false))) .nil) .nil) (.cons (.asg (.g (.nm 6)) (.ite (.or (.cons (.cmp .lt (.var 10) (.con (.int 4))) (.cons (.cmp .ne (.lc false [16] (.var 16) (.nm 16) (.ex (.var 3)) (.cmp .eq (.idx (.var 16) (.con (.int 0))) (.con (.str [116, 105, 109, 101, 115])))) (.lst false .nil)) .nil))) (.con (.int 1)) (.con (.int 2)))) (.cons (.asg (.g (.nm 7)) (.call 27 (.cons (.var 10) (.cons (.var 6) (.cons (.var 3) .nil))))) (.cons (.iff (.not (.call 20 (.cons (.call 14 (.cons (.var 10) (.cons (.var 6) (.cons (.var 3) .nil)))) (.cons (.var 7) .nil)))) (.cons (.ret (.con (.bl false))) .nil) .nil) (.cons (.forr (.nm 8) (.r1 (.con (.int 3))) (.cons (.asg (.g (.nm 11)) (.blt .tuple false (.cons (.lc false [15] (.call 18 (.cons (.var 1) (.cons (.var 9) .nil))) (.nm 15) (.r1 (.var 7)) .no) .nil))) (.cons (.asg (.g (.t2 (.nm 12) (.nm 13))) (.call 26 (.cons (.var 9) (.cons (.var 10) (.cons (.var 6) (.cons (.var 3) (.cons (.var 4) (.cons (.var 11) .nil)))))))) (.cons (.iff (.not (.call 20 (.cons (.call 17 (.cons (.var 9) (.cons (.var 10) (.cons (.var 6) (.cons (.var 3) (.cons (.var 4) (.cons (.var 11) .nil))))))) (.cons (.tup (.cons (.var 5) (.cons (.blt .tuple false (.cons (.lc false [19, 20] (.var 20) (.t2 (.nm 19) (.nm 20)) (.ex (.var 13)) .no) .nil)) .nil))) .nil)))) (.cons (.ret (.con (.bl false))) .nil) .nil) (.cons (.iff (.cmp .ne (.bin .mod (.blt .sum false (.cons (.lc false [17, 18] (.bin .mul (.var 17) (.var 18)) (.t2 (.nm 17) (.nm 18)) (.zip (.call 25 (.cons (.var 9) (.cons (.var 10) .nil))) (.var 12)) .no) .nil)) (.var 9)) (.var 5)) (.cons (.ret (.con (.bl false))) .nil) .nil) .nil))))) (.cons (.ret (.con (.bl true))) .nil))))))))))))⟩⟩
def defs : List DefI := [d0, d1, d2, d3, d4, d5, d6, d7, d8, d9, d10, d11, d12, d13, d14, d15, d16, d17, d18, d19, d20, d21, d22, d23, d24, d25, d26, d27, d28]
def tb : Tb := ⟨defs.map fun D => (D.x, D.d.ar), [("FEWEST", (.int 2)), ("MOST_NUMBER", (.int 12)), ("MOST_ROWS", (.int 8)), ("MOST_SHARED", (.int 4)), ("MOST_SIZE", (.int 2)), ("PRIMES", (.tup [(.int 5), (.int 7), (.int 11), (.int 13)]))]⟩
end Ck30
namespace Ck30
open Gp
/-! is_from -/
def k0s0 (c : Gp.Ctx) : Sv := (kret (kand (kisi (kvar 0) [.int]) (kand (knot (kisi (kvar 0) [.bool])) (kchain .le .le (kvar 1) (kvar 0) (kvar 2)))))
def k0t1 (c : Gp.Ctx) : Sv := kend
def k0t0 (c : Gp.Ctx) : Sv := kseq (k0s0 c) (k0t1 c)
def k0 (c : Gp.Ctx) : Sv := k0t0 c
theorem k0_eq (c : Gp.Ctx) : evSs c d0.d.body = k0 c := by kernel_rfl
/-! need_number -/
def k1s0 (c : Gp.Ctx) : Sv := (kif (knot (kcall c 0 (kcons (kvar 0) (kcons (kvar 1) (kcons (kvar 2) knil))))) (kseq (kexp kno) kend) kend)
def k1t1 (c : Gp.Ctx) : Sv := kend
def k1t0 (c : Gp.Ctx) : Sv := kseq (k1s0 c) (k1t1 c)
def k1 (c : Gp.Ctx) : Sv := k1t0 c
theorem k1_eq (c : Gp.Ctx) : evSs c d1.d.body = k1 c := by kernel_rfl
/-! need_prime -/
def k2s0 (c : Gp.Ctx) : Sv := (kif (kor (knot (kcall c 0 (kcons (kvar 0) (kcons (kcon (.int 5)) (kcons (kcon (.int 13)) knil))))) (kcmp .notin (kvar 0) (kcon (.tup [(.int 5), (.int 7), (.int 11), (.int 13)])))) (kseq (kexp kno) kend) kend)
def k2t1 (c : Gp.Ctx) : Sv := kend
def k2t0 (c : Gp.Ctx) : Sv := kseq (k2s0 c) (k2t1 c)
def k2 (c : Gp.Ctx) : Sv := k2t0 c
theorem k2_eq (c : Gp.Ctx) : evSs c d2.d.body = k2 c := by kernel_rfl
/-! are_numbers -/
def k3s0 (c : Gp.Ctx) : Sv := (kret (kand (kisi (kvar 1) [.tuple]) (kblt .all false (kcons (klc false [2] (kcall c 0 (kcons (kvar 2) (kcons (kcon (.int 0)) (kcons (kbin .sub (kvar 0) (kcon (.int 1))) knil)))) (.nm 2) (kex (kvar 1)) true kno) knil))))
def k3t1 (c : Gp.Ctx) : Sv := kend
def k3t0 (c : Gp.Ctx) : Sv := kseq (k3s0 c) (k3t1 c)
def k3 (c : Gp.Ctx) : Sv := k3t0 c
theorem k3_eq (c : Gp.Ctx) : evSs c d3.d.body = k3 c := by kernel_rfl
/-! value_at -/
def k4s0 (c : Gp.Ctx) : Sv := (kasg (.nm 4) (kcon (.int 0)))
def k4s1 (c : Gp.Ctx) : Sv := (kfor (.nm 5) (kex (krev (kvar 2))) (kseq (kasg (.nm 4) (kbin .mod (kbin .mul (kbin .add (kvar 4) (kvar 5)) (kvar 3)) (kvar 0))) kend))
def k4s2 (c : Gp.Ctx) : Sv := (kret (kbin .mod (kbin .add (kvar 4) (kvar 1)) (kvar 0)))
def k4t3 (c : Gp.Ctx) : Sv := kend
def k4t2 (c : Gp.Ctx) : Sv := kseq (k4s2 c) (k4t3 c)
def k4t1 (c : Gp.Ctx) : Sv := kseq (k4s1 c) (k4t2 c)
def k4t0 (c : Gp.Ctx) : Sv := kseq (k4s0 c) (k4t1 c)
def k4 (c : Gp.Ctx) : Sv := k4t0 c
theorem k4_eq (c : Gp.Ctx) : evSs c d4.d.body = k4 c := by kernel_rfl
/-! deal -/
def k5s0 (c : Gp.Ctx) : Sv := (kret (kblt .tuple false (kcons (klc false [4] (kcall c 4 (kcons (kvar 0) (kcons (kvar 2) (kcons (kvar 3) (kcons (kbin .add (kvar 4) (kcon (.int 1))) knil))))) (.nm 4) (kr1 (kvar 1)) true kno) knil)))
def k5t1 (c : Gp.Ctx) : Sv := kend
def k5t0 (c : Gp.Ctx) : Sv := kseq (k5s0 c) (k5t1 c)
def k5 (c : Gp.Ctx) : Sv := k5t0 c
theorem k5_eq (c : Gp.Ctx) : evSs c d5.d.body = k5 c := by kernel_rfl
/-! weights_for -/
def k6s0 (c : Gp.Ctx) : Sv := (kasg (.nm 2) (klst true knil))
def k6s1 (c : Gp.Ctx) : Sv := (kfor (.nm 3) (kex (kvar 1)) (kseq (kasg (.t2 (.nm 5) (.nm 6)) (ktup (kcons (kcon (.int 1)) (kcons (kcon (.int 1)) knil)))) (kseq (kfor (.nm 4) (kex (kvar 1)) (kseq (kif (kcmp .ne (kvar 4) (kvar 3)) (kseq (kpar [5, 6] (kcons (kbin .mod (kbin .mul (kvar 5) (kvar 4)) (kvar 0)) (kcons (kbin .mod (kbin .mul (kvar 6) (kbin .sub (kvar 4) (kvar 3))) (kvar 0)) knil))) kend) kend) kend)) (kseq (kexp (kmth .append (kvar 2) (kcons (kbin .mod (kbin .mul (kvar 5) (kcall c 7 (kcons (kvar 0) (kcons (kvar 6) knil)))) (kvar 0)) knil))) kend))))
def k6s2 (c : Gp.Ctx) : Sv := (kfrz 2)
def k6s3 (c : Gp.Ctx) : Sv := (kret (kblt .tuple false (kcons (kvar 2) knil)))
def k6t4 (c : Gp.Ctx) : Sv := kend
def k6t3 (c : Gp.Ctx) : Sv := kseq (k6s3 c) (k6t4 c)
def k6t2 (c : Gp.Ctx) : Sv := kseq (k6s2 c) (k6t3 c)
def k6t1 (c : Gp.Ctx) : Sv := kseq (k6s1 c) (k6t2 c)
def k6t0 (c : Gp.Ctx) : Sv := kseq (k6s0 c) (k6t1 c)
def k6 (c : Gp.Ctx) : Sv := k6t0 c
theorem k6_eq (c : Gp.Ctx) : evSs c d6.d.body = k6 c := by kernel_rfl
/-! inverse -/
def k7s0 (c : Gp.Ctx) : Sv := (kasg (.nm 2) (kcon (.int 1)))
def k7s1 (c : Gp.Ctx) : Sv := (kfor (.nm 3) (kr1 (kbin .sub (kvar 0) (kcon (.int 2)))) (kseq (kasg (.nm 2) (kbin .mod (kbin .mul (kvar 2) (kvar 1)) (kvar 0))) kend))
def k7s2 (c : Gp.Ctx) : Sv := (kret (kvar 2))
def k7t3 (c : Gp.Ctx) : Sv := kend
def k7t2 (c : Gp.Ctx) : Sv := kseq (k7s2 c) (k7t3 c)
def k7t1 (c : Gp.Ctx) : Sv := kseq (k7s1 c) (k7t2 c)
def k7t0 (c : Gp.Ctx) : Sv := kseq (k7s0 c) (k7t1 c)
def k7 (c : Gp.Ctx) : Sv := k7t0 c
theorem k7_eq (c : Gp.Ctx) : evSs c d7.d.body = k7 c := by kernel_rfl
/-! is_row -/
def k8s0 (c : Gp.Ctx) : Sv := (kif (kor (knot (kisi (kvar 0) [.tuple])) (kor (knot (kchain .le .le (kcon (.int 2)) (kblt .len false (kcons (kvar 0) knil)) (kcon (.int 3)))) (knot (kisi (kidx (kvar 0) (kcon (.int 0))) [.str])))) (kseq (kret (kcon (.bl false))) kend) kend)
def k8s1 (c : Gp.Ctx) : Sv := (kif (kcmp .eq (kblt .len false (kcons (kvar 0) knil)) (kcon (.int 2))) (kseq (kasg (.nm 3) (kgetK (kdsp2 [111, 119, 110] [110, 117, 109, 98, 101, 114] (kbin .sub (kvar 1) (kcon (.int 1))) (kcon (.int 12))) (kidx (kvar 0) (kcon (.int 0))) (kneg (kcon (.int 1))))) (kseq (kret (kcall c 0 (kcons (kidx (kvar 0) (kcon (.int 1))) (kcons (kcon (.int 0)) (kcons (kvar 3) knil))))) kend)) kend)
def k8s2 (c : Gp.Ctx) : Sv := (kif (kcmp .notin (kidx (kvar 0) (kcon (.int 0))) (ktup (kcons (kcon (.str [115, 117, 109])) (kcons (kcon (.str [116, 105, 109, 101, 115])) knil)))) (kseq (kret (kcon (.bl false))) kend) kend)
def k8s3 (c : Gp.Ctx) : Sv := (kret (kand (kcall c 0 (kcons (kidx (kvar 0) (kcon (.int 1))) (kcons (kcon (.int 0)) (kcons (kbin .sub (kvar 2) (kcon (.int 1))) knil)))) (kcall c 0 (kcons (kidx (kvar 0) (kcon (.int 2))) (kcons (kcon (.int 0)) (kcons (kbin .sub (kvar 2) (kcon (.int 1))) knil))))))
def k8t4 (c : Gp.Ctx) : Sv := kend
def k8t3 (c : Gp.Ctx) : Sv := kseq (k8s3 c) (k8t4 c)
def k8t2 (c : Gp.Ctx) : Sv := kseq (k8s2 c) (k8t3 c)
def k8t1 (c : Gp.Ctx) : Sv := kseq (k8s1 c) (k8t2 c)
def k8t0 (c : Gp.Ctx) : Sv := kseq (k8s0 c) (k8t1 c)
def k8 (c : Gp.Ctx) : Sv := k8t0 c
theorem k8_eq (c : Gp.Ctx) : evSs c d8.d.body = k8 c := by kernel_rfl
/-! need_sheet -/
def k9s0 (c : Gp.Ctx) : Sv := (kif (kor (knot (kisi (kvar 1) [.tuple])) (knot (kchain .le .le (kcon (.int 1)) (kblt .len false (kcons (kvar 1) knil)) (kcon (.int 8))))) (kseq (kexp kno) kend) kend)
def k9s1 (c : Gp.Ctx) : Sv := (kfor (.t2 (.nm 2) (.nm 3)) (kenum (kvar 1)) (kseq (kif (knot (kcall c 8 (kcons (kvar 3) (kcons (kvar 0) (kcons (kvar 2) knil))))) (kseq (kexp kno) kend) kend) kend))
def k9t2 (c : Gp.Ctx) : Sv := kend
def k9t1 (c : Gp.Ctx) : Sv := kseq (k9s1 c) (k9t2 c)
def k9t0 (c : Gp.Ctx) : Sv := kseq (k9s0 c) (k9t1 c)
def k9 (c : Gp.Ctx) : Sv := k9t0 c
theorem k9_eq (c : Gp.Ctx) : evSs c d9.d.body = k9 c := by kernel_rfl
/-! need_things -/
def k10s0 (c : Gp.Ctx) : Sv := (kif (kor (knot (kcall c 3 (kcons (kvar 0) (kcons (kvar 2) knil)))) (kcmp .ne (kblt .len false (kcons (kvar 2) knil)) (kvar 1))) (kseq (kexp kno) kend) kend)
def k10t1 (c : Gp.Ctx) : Sv := kend
def k10t0 (c : Gp.Ctx) : Sv := kseq (k10s0 c) (k10t1 c)
def k10 (c : Gp.Ctx) : Sv := k10t0 c
theorem k10_eq (c : Gp.Ctx) : evSs c d10.d.body = k10 c := by kernel_rfl
/-! sheet_value -/
def k11s0 (c : Gp.Ctx) : Sv := (kexp (kcall c 2 (kcons (kvar 0) knil)))
def k11s1 (c : Gp.Ctx) : Sv := (kexp (kcall c 1 (kcons (kvar 1) (kcons (kcon (.int 2)) (kcons (kcon (.int 4)) knil)))))
def k11s2 (c : Gp.Ctx) : Sv := (kexp (kcall c 9 (kcons (kvar 1) (kcons (kvar 2) knil))))
def k11s3 (c : Gp.Ctx) : Sv := (kexp (kcall c 10 (kcons (kvar 0) (kcons (kvar 1) (kcons (kvar 3) knil)))))
def k11s4 (c : Gp.Ctx) : Sv := (kasg (.nm 4) (klst true knil))
def k11s5 (c : Gp.Ctx) : Sv := (kfor (.nm 5) (kex (kvar 2)) (kseq (kif (kcmp .eq (kidx (kvar 5) (kcon (.int 0))) (kcon (.str [111, 119, 110]))) (kseq (kexp (kmth .append (kvar 4) (kcons (kidx (kvar 3) (kidx (kvar 5) (kcon (.int 1)))) knil))) kend) (kseq (kif (kcmp .eq (kidx (kvar 5) (kcon (.int 0))) (kcon (.str [110, 117, 109, 98, 101, 114]))) (kseq (kexp (kmth .append (kvar 4) (kcons (kbin .mod (kidx (kvar 5) (kcon (.int 1))) (kvar 0)) knil))) kend) (kseq (kif (kcmp .eq (kidx (kvar 5) (kcon (.int 0))) (kcon (.str [115, 117, 109]))) (kseq (kexp (kmth .append (kvar 4) (kcons (kbin .mod (kbin .add (kidx (kvar 4) (kidx (kvar 5) (kcon (.int 1)))) (kidx (kvar 4) (kidx (kvar 5) (kcon (.int 2))))) (kvar 0)) knil))) kend) (kseq (kexp (kmth .append (kvar 4) (kcons (kbin .mod (kbin .mul (kidx (kvar 4) (kidx (kvar 5) (kcon (.int 1)))) (kidx (kvar 4) (kidx (kvar 5) (kcon (.int 2))))) (kvar 0)) knil))) kend)) kend)) kend)) kend))
def k11s6 (c : Gp.Ctx) : Sv := (kfrz 4)
def k11s7 (c : Gp.Ctx) : Sv := (kret (kidx (kvar 4) (kneg (kcon (.int 1)))))
def k11t8 (c : Gp.Ctx) : Sv := kend
def k11t7 (c : Gp.Ctx) : Sv := kseq (k11s7 c) (k11t8 c)
def k11t6 (c : Gp.Ctx) : Sv := kseq (k11s6 c) (k11t7 c)
def k11t5 (c : Gp.Ctx) : Sv := kseq (k11s5 c) (k11t6 c)
def k11t4 (c : Gp.Ctx) : Sv := kseq (k11s4 c) (k11t5 c)
def k11t3 (c : Gp.Ctx) : Sv := kseq (k11s3 c) (k11t4 c)
def k11t2 (c : Gp.Ctx) : Sv := kseq (k11s2 c) (k11t3 c)
def k11t1 (c : Gp.Ctx) : Sv := kseq (k11s1 c) (k11t2 c)
def k11t0 (c : Gp.Ctx) : Sv := kseq (k11s0 c) (k11t1 c)
def k11 (c : Gp.Ctx) : Sv := k11t0 c
theorem k11_eq (c : Gp.Ctx) : evSs c d11.d.body = k11 c := by kernel_rfl
/-! need_enough -/
def k12s0 (c : Gp.Ctx) : Sv := (kasg (.nm 3) (kblt .any false (kcons (klc false [4] (kcmp .eq (kidx (kvar 4) (kcon (.int 0))) (kcon (.str [116, 105, 109, 101, 115]))) (.nm 4) (kex (kvar 2)) true kno) knil)))
def k12s1 (c : Gp.Ctx) : Sv := (kif (kcmp .ge (kite (kvar 3) (kbin .mul (kcon (.int 2)) (kvar 1)) (kvar 1)) (kvar 0)) (kseq (kexp kno) kend) kend)
def k12t2 (c : Gp.Ctx) : Sv := kend
def k12t1 (c : Gp.Ctx) : Sv := kseq (k12s1 c) (k12t2 c)
def k12t0 (c : Gp.Ctx) : Sv := kseq (k12s0 c) (k12t1 c)
def k12 (c : Gp.Ctx) : Sv := k12t0 c
theorem k12_eq (c : Gp.Ctx) : evSs c d12.d.body = k12 c := by kernel_rfl
/-! coins_for -/
def k13s0 (c : Gp.Ctx) : Sv := (kret (kblt .sum false (kcons (klc false [3] (kgetK (kdsp2 [111, 119, 110] [116, 105, 109, 101, 115] (kvar 1) (kbin .mul (kvar 0) (kvar 1))) (kidx (kvar 3) (kcon (.int 0))) (kcon (.int 0))) (.nm 3) (kex (kvar 2)) true kno) knil)))
def k13t1 (c : Gp.Ctx) : Sv := kend
def k13t0 (c : Gp.Ctx) : Sv := kseq (k13s0 c) (k13t1 c)
def k13 (c : Gp.Ctx) : Sv := k13t0 c
theorem k13_eq (c : Gp.Ctx) : evSs c d13.d.body = k13 c := by kernel_rfl
/-! count_coins -/
def k14s0 (c : Gp.Ctx) : Sv := (kexp (kcall c 1 (kcons (kvar 0) (kcons (kcon (.int 2)) (kcons (kcon (.int 4)) knil)))))
def k14s1 (c : Gp.Ctx) : Sv := (kexp (kcall c 1 (kcons (kvar 1) (kcons (kcon (.int 1)) (kcons (kcon (.int 2)) knil)))))
def k14s2 (c : Gp.Ctx) : Sv := (kexp (kcall c 9 (kcons (kvar 0) (kcons (kvar 2) knil))))
def k14s3 (c : Gp.Ctx) : Sv := (kexp (kcall c 12 (kcons (kvar 0) (kcons (kvar 1) (kcons (kvar 2) knil)))))
def k14s4 (c : Gp.Ctx) : Sv := (kret (kcall c 13 (kcons (kvar 0) (kcons (kvar 1) (kcons (kvar 2) knil)))))
def k14t5 (c : Gp.Ctx) : Sv := kend
def k14t4 (c : Gp.Ctx) : Sv := kseq (k14s4 c) (k14t5 c)
def k14t3 (c : Gp.Ctx) : Sv := kseq (k14s3 c) (k14t4 c)
def k14t2 (c : Gp.Ctx) : Sv := kseq (k14s2 c) (k14t3 c)
def k14t1 (c : Gp.Ctx) : Sv := kseq (k14s1 c) (k14t2 c)
def k14t0 (c : Gp.Ctx) : Sv := kseq (k14s0 c) (k14t1 c)
def k14 (c : Gp.Ctx) : Sv := k14t0 c
theorem k14_eq (c : Gp.Ctx) : evSs c d14.d.body = k14 c := by kernel_rfl
/-! run_shared -/
def k15s0 (c : Gp.Ctx) : Sv := (kpar [8, 9, 10] (kcons (klst true knil) (kcons (klst true knil) (kcons (kcon (.int 0)) knil))))
def k15s1 (c : Gp.Ctx) : Sv := (kasg (.nm 6) (kcall c 6 (kcons (kvar 0) (kcons (kblt .lstR2 false (kcons (kcon (.int 1)) (kcons (kbin .add (kvar 1) (kcon (.int 1))) knil))) knil))))
def k15s2 (c : Gp.Ctx) : Sv := (kfor (.nm 7) (kex (kvar 3)) (kseq (kif (kcmp .eq (kidx (kvar 7) (kcon (.int 0))) (kcon (.str [111, 119, 110]))) (kseq (kasg (.nm 11) (kcall c 5 (kcons (kvar 0) (kcons (kvar 1) (kcons (kidx (kvar 4) (kidx (kvar 7) (kcon (.int 1)))) (kcons (kslc false false (kvar 5) (kvar 10) (kbin .add (kvar 10) (kvar 2))) knil)))))) (kseq (kaug 10 .add (kvar 2)) (kseq (kexp (kmth .append (kvar 9) (kcons (ktup (kcons (kvar 11) knil)) knil))) kend))) (kseq (kif (kcmp .eq (kidx (kvar 7) (kcon (.int 0))) (kcon (.str [110, 117, 109, 98, 101, 114]))) (kseq (kasg (.nm 11) (kbin .mul (ktup (kcons (kbin .mod (kidx (kvar 7) (kcon (.int 1))) (kvar 0)) knil)) (kvar 1))) kend) (kseq (kif (kcmp .eq (kidx (kvar 7) (kcon (.int 0))) (kcon (.str [115, 117, 109]))) (kseq (kasg (.nm 11) (kblt .tuple false (kcons (klc false [15, 16] (kbin .mod (kbin .add (kvar 15) (kvar 16)) (kvar 0)) (.t2 (.nm 15) (.nm 16)) (kzip (kidx (kvar 8) (kidx (kvar 7) (kcon (.int 1)))) (kidx (kvar 8) (kidx (kvar 7) (kcon (.int 2))))) true kno) knil))) kend) (kseq (kasg (.nm 12) (klst true knil)) (kseq (kfor (.nm 13) (kr1 (kvar 1)) (kseq (kasg (.nm 14) (kbin .mod (kbin .mul (kidx (kidx (kvar 8) (kidx (kvar 7) (kcon (.int 1)))) (kvar 13)) (kidx (kidx (kvar 8) (kidx (kvar 7) (kcon (.int 2)))) (kvar 13))) (kvar 0))) (kseq (kexp (kmth .append (kvar 12) (kcons (kcall c 5 (kcons (kvar 0) (kcons (kvar 1) (kcons (kvar 14) (kcons (kslc false false (kvar 5) (kvar 10) (kbin .add (kvar 10) (kvar 2))) knil))))) knil))) (kseq (kaug 10 .add (kvar 2)) kend)))) (kseq (kfrz 12) (kseq (kexp (kmth .append (kvar 9) (kcons (kblt .tuple false (kcons (kvar 12) knil)) knil))) (kseq (kasg (.nm 11) (kblt .tuple false (kcons (klc false [13] (kbin .mod (kblt .sum false (kcons (klc false [17, 15] (kbin .mul (kvar 17) (kidx (kvar 15) (kvar 13))) (.t2 (.nm 17) (.nm 15)) (kzip (kvar 6) (kvar 12)) true kno) knil)) (kvar 0)) (.nm 13) (kr1 (kvar 1)) true kno) knil))) kend)))))) kend)) kend)) (kseq (kexp (kmth .append (kvar 8) (kcons (kvar 11) knil))) kend)))
def k15s3 (c : Gp.Ctx) : Sv := (kfrz 8)
def k15s4 (c : Gp.Ctx) : Sv := (kfrz 9)
def k15s5 (c : Gp.Ctx) : Sv := (kret (ktup (kcons (kidx (kvar 8) (kneg (kcon (.int 1)))) (kcons (kblt .tuple false (kcons (kvar 9) knil)) knil))))
def k15t6 (c : Gp.Ctx) : Sv := kend
def k15t5 (c : Gp.Ctx) : Sv := kseq (k15s5 c) (k15t6 c)
def k15t4 (c : Gp.Ctx) : Sv := kseq (k15s4 c) (k15t5 c)
def k15t3 (c : Gp.Ctx) : Sv := kseq (k15s3 c) (k15t4 c)
def k15t2 (c : Gp.Ctx) : Sv := kseq (k15s2 c) (k15t3 c)
def k15t1 (c : Gp.Ctx) : Sv := kseq (k15s1 c) (k15t2 c)
def k15t0 (c : Gp.Ctx) : Sv := kseq (k15s0 c) (k15t1 c)
def k15 (c : Gp.Ctx) : Sv := k15t0 c
theorem k15_eq (c : Gp.Ctx) : evSs c d15.d.body = k15 c := by kernel_rfl
/-! need_run -/
def k16s0 (c : Gp.Ctx) : Sv := (kexp (kcall c 2 (kcons (kvar 0) knil)))
def k16s1 (c : Gp.Ctx) : Sv := (kexp (kcall c 1 (kcons (kvar 1) (kcons (kcon (.int 2)) (kcons (kcon (.int 4)) knil)))))
def k16s2 (c : Gp.Ctx) : Sv := (kexp (kcall c 1 (kcons (kvar 2) (kcons (kcon (.int 1)) (kcons (kcon (.int 2)) knil)))))
def k16s3 (c : Gp.Ctx) : Sv := (kexp (kcall c 9 (kcons (kvar 1) (kcons (kvar 3) knil))))
def k16s4 (c : Gp.Ctx) : Sv := (kexp (kcall c 10 (kcons (kvar 0) (kcons (kvar 1) (kcons (kvar 4) knil)))))
def k16t5 (c : Gp.Ctx) : Sv := kend
def k16t4 (c : Gp.Ctx) : Sv := kseq (k16s4 c) (k16t5 c)
def k16t3 (c : Gp.Ctx) : Sv := kseq (k16s3 c) (k16t4 c)
def k16t2 (c : Gp.Ctx) : Sv := kseq (k16s2 c) (k16t3 c)
def k16t1 (c : Gp.Ctx) : Sv := kseq (k16s1 c) (k16t2 c)
def k16t0 (c : Gp.Ctx) : Sv := kseq (k16s0 c) (k16t1 c)
def k16 (c : Gp.Ctx) : Sv := k16t0 c
theorem k16_eq (c : Gp.Ctx) : evSs c d16.d.body = k16 c := by kernel_rfl
/-! by_shares -/
def k17s0 (c : Gp.Ctx) : Sv := (kexp (kcall c 16 (kcons (kvar 0) (kcons (kvar 1) (kcons (kvar 2) (kcons (kvar 3) (kcons (kvar 4) knil)))))))
def k17s1 (c : Gp.Ctx) : Sv := (kif (kor (knot (kcall c 3 (kcons (kvar 0) (kcons (kvar 5) knil)))) (kcmp .ne (kblt .len false (kcons (kvar 5) knil)) (kcall c 13 (kcons (kvar 1) (kcons (kvar 2) (kcons (kvar 3) knil)))))) (kseq (kexp kno) kend) kend)
def k17s2 (c : Gp.Ctx) : Sv := (kexp (kcall c 12 (kcons (kvar 1) (kcons (kvar 2) (kcons (kvar 3) knil)))))
def k17s3 (c : Gp.Ctx) : Sv := (kasg (.t2 (.nm 7) (.nm 8)) (kcall c 15 (kcons (kvar 0) (kcons (kvar 1) (kcons (kvar 2) (kcons (kvar 3) (kcons (kvar 4) (kcons (kvar 5) knil))))))))
def k17s4 (c : Gp.Ctx) : Sv := (kasg (.nm 6) (kcall c 6 (kcons (kvar 0) (kcons (kblt .lstR2 false (kcons (kcon (.int 1)) (kcons (kbin .add (kvar 1) (kcon (.int 1))) knil))) knil))))
def k17s5 (c : Gp.Ctx) : Sv := (kret (ktup (kcons (kbin .mod (kblt .sum false (kcons (klc false [9, 10] (kbin .mul (kvar 9) (kvar 10)) (.t2 (.nm 9) (.nm 10)) (kzip (kvar 6) (kvar 7)) true kno) knil)) (kvar 0)) (kcons (kvar 8) knil))))
def k17t6 (c : Gp.Ctx) : Sv := kend
def k17t5 (c : Gp.Ctx) : Sv := kseq (k17s5 c) (k17t6 c)
def k17t4 (c : Gp.Ctx) : Sv := kseq (k17s4 c) (k17t5 c)
def k17t3 (c : Gp.Ctx) : Sv := kseq (k17s3 c) (k17t4 c)
def k17t2 (c : Gp.Ctx) : Sv := kseq (k17s2 c) (k17t3 c)
def k17t1 (c : Gp.Ctx) : Sv := kseq (k17s1 c) (k17t2 c)
def k17t0 (c : Gp.Ctx) : Sv := kseq (k17s0 c) (k17t1 c)
def k17 (c : Gp.Ctx) : Sv := k17t0 c
theorem k17_eq (c : Gp.Ctx) : evSs c d17.d.body = k17 c := by kernel_rfl
/-! _law_taken -/
def k18s0 (c : Gp.Ctx) : Sv := (kif (kcmp .gt (kidx (kvar 0) (kcon (.int 3))) (kcon (.int 0))) (kseq (kasg (.nm 3) (kbin .mod (kblt .int false (kcons (kidx (kvar 0) (kcon (.int 3))) knil)) (kvar 1))) (kseq (ksub (kvar 0) (kcon (.int 3)) (kbin .fdiv (kidx (kvar 0) (kcon (.int 3))) (kvar 1))) (kseq (kret (kvar 3)) kend))) kend)
def k18s1 (c : Gp.Ctx) : Sv := (ksub (kvar 0) (kcon (.int 1)) (kbin .add (kidx (kvar 0) (kcon (.int 1))) (kcon (.int 1))))
def k18s2 (c : Gp.Ctx) : Sv := (kif (kcmp .gt (kidx (kvar 0) (kcon (.int 1))) (kblt .len false (kcons (kidx (kvar 0) (kcon (.int 0))) knil))) (kseq (ksub (kvar 0) (kcon (.int 2)) (kbin .mod (kblt .int false (kcons (kbin .add (kbin .mul (kidx (kvar 0) (kcon (.int 2))) (kcon (.int 48271))) (kcon (.int 11))) knil)) (kcon (.int 2147483647)))) (kseq (kret (kbin .mod (kblt .int false (kcons (kbin .fdiv (kidx (kvar 0) (kcon (.int 2))) (kcon (.int 7))) knil)) (kvar 1))) kend)) kend)
def k18s3 (c : Gp.Ctx) : Sv := (kasg (.nm 2) (kidx (kidx (kvar 0) (kcon (.int 0))) (kbin .sub (kidx (kvar 0) (kcon (.int 1))) (kcon (.int 1)))))
def k18s4 (c : Gp.Ctx) : Sv := (ksub (kvar 0) (kcon (.int 2)) (kbin .mod (kblt .int false (kcons (kbin .add (kbin .add (kbin .mul (kidx (kvar 0) (kcon (.int 2))) (kcon (.int 48271))) (kvar 2)) (kcon (.int 11))) knil)) (kcon (.int 2147483647))))
def k18s5 (c : Gp.Ctx) : Sv := (kif (kcmp .ge (kvar 2) (kbin .pow (kcon (.int 10)) (kcon (.int 18)))) (kseq (ksub (kvar 0) (kcon (.int 3)) (kbin .fdiv (kvar 2) (kvar 1))) kend) kend)
def k18s6 (c : Gp.Ctx) : Sv := (kret (kbin .mod (kblt .int false (kcons (kvar 2) knil)) (kvar 1)))
def k18t7 (c : Gp.Ctx) : Sv := kend
def k18t6 (c : Gp.Ctx) : Sv := kseq (k18s6 c) (k18t7 c)
def k18t5 (c : Gp.Ctx) : Sv := kseq (k18s5 c) (k18t6 c)
def k18t4 (c : Gp.Ctx) : Sv := kseq (k18s4 c) (k18t5 c)
def k18t3 (c : Gp.Ctx) : Sv := kseq (k18s3 c) (k18t4 c)
def k18t2 (c : Gp.Ctx) : Sv := kseq (k18s2 c) (k18t3 c)
def k18t1 (c : Gp.Ctx) : Sv := kseq (k18s1 c) (k18t2 c)
def k18t0 (c : Gp.Ctx) : Sv := kseq (k18s0 c) (k18t1 c)
def k18 (c : Gp.Ctx) : Sv := k18t0 c
theorem k18_eq (c : Gp.Ctx) : evSs c d18.d.body = k18 c := by kernel_rfl
/-! _law_pick -/
def k19s0 (c : Gp.Ctx) : Sv := (kret (kidx (kvar 1) (kcall c 18 (kcons (kvar 0) (kcons (kblt .len false (kcons (kvar 1) knil)) knil)))))
def k19t1 (c : Gp.Ctx) : Sv := kend
def k19t0 (c : Gp.Ctx) : Sv := kseq (k19s0 c) (k19t1 c)
def k19 (c : Gp.Ctx) : Sv := k19t0 c
theorem k19_eq (c : Gp.Ctx) : evSs c d19.d.body = k19 c := by kernel_rfl
/-! _law_alike -/
def k20s0 (c : Gp.Ctx) : Sv := (kif (kisi (kvar 1) [.tuple, .list]) (kseq (kif (kor (knot (kisi (kvar 0) [.tuple, .list])) (kcmp .ne (kisi (kvar 0) [.list]) (kisi (kvar 1) [.list]))) (kseq (kret (kcon (.bl false))) kend) kend) (kseq (kif (kcmp .ne (kblt .len false (kcons (kvar 0) knil)) (kblt .len false (kcons (kvar 1) knil))) (kseq (kret (kcon (.bl false))) kend) kend) (kseq (kret (kcmp .eq (klc false [2] (kvar 2) (.nm 2) (kr1 (kblt .len false (kcons (kvar 1) knil))) false (knot (kcall c 20 (kcons (kidx (kvar 0) (kvar 2)) (kcons (kidx (kvar 1) (kvar 2)) knil))))) (klst false knil))) kend))) kend)
def k20s1 (c : Gp.Ctx) : Sv := (kif (kisi (kvar 1) [.dict]) (kseq (kif (kor (knot (kisi (kvar 0) [.dict])) (kcmp .ne (kblt .sorted false (kcons (kvar 0) knil)) (kblt .sorted false (kcons (kvar 1) knil)))) (kseq (kret (kcon (.bl false))) kend) kend) (kseq (kret (kcmp .eq (klc false [3] (kvar 3) (.nm 3) (kex (kvar 1)) false (knot (kcall c 20 (kcons (kidx (kvar 0) (kvar 3)) (kcons (kidx (kvar 1) (kvar 3)) knil))))) (klst false knil))) kend)) kend)
def k20s2 (c : Gp.Ctx) : Sv := (kif (kor (kcmp .isN (kvar 1) (kcon .non)) (kisi (kvar 1) [.str])) (kseq (kret (kand (kcmp .eq (kvar 0) (kvar 1)) (kcmp .eq (kisi (kvar 0) [.str]) (kisi (kvar 1) [.str])))) kend) kend)
def k20s3 (c : Gp.Ctx) : Sv := (kret (kand (kisi (kvar 0) [.int]) (kand (kcmp .eq (kisi (kvar 0) [.bool]) (kisi (kvar 1) [.bool])) (kcmp .eq (kvar 0) (kvar 1)))))
def k20t4 (c : Gp.Ctx) : Sv := kend
def k20t3 (c : Gp.Ctx) : Sv := kseq (k20s3 c) (k20t4 c)
def k20t2 (c : Gp.Ctx) : Sv := kseq (k20s2 c) (k20t3 c)
def k20t1 (c : Gp.Ctx) : Sv := kseq (k20s1 c) (k20t2 c)
def k20t0 (c : Gp.Ctx) : Sv := kseq (k20s0 c) (k20t1 c)
def k20 (c : Gp.Ctx) : Sv := k20t0 c
theorem k20_eq (c : Gp.Ctx) : evSs c d20.d.body = k20 c := by kernel_rfl
/-! _law_sheet -/
def k21s0 (c : Gp.Ctx) : Sv := (kasg (.nm 4) (klst true (kcons (ktup (kcons (kcon (.str [111, 119, 110])) (kcons (kcall c 18 (kcons (kvar 0) (kcons (kvar 1) knil))) knil))) knil)))
def k21s1 (c : Gp.Ctx) : Sv := (kfor (.nm 5) (kr1 (kcall c 18 (kcons (kvar 0) (kcons (kvar 2) knil)))) (kseq (kasg (.nm 6) (kcall c 18 (kcons (kvar 0) (kcons (kite (kvar 3) (kcon (.int 4)) (kcon (.int 3))) knil)))) (kseq (kpar [7, 8] (kcons (kcall c 18 (kcons (kvar 0) (kcons (kblt .len false (kcons (kvar 4) knil)) knil))) (kcons (kcall c 18 (kcons (kvar 0) (kcons (kblt .len false (kcons (kvar 4) knil)) knil))) knil))) (kseq (kexp (kmth .append (kvar 4) (kcons (kite (kcmp .eq (kvar 6) (kcon (.int 0))) (kcall c 19 (kcons (kvar 0) (kcons (klst false (kcons (ktup (kcons (kcon (.str [111, 119, 110])) (kcons (kcall c 18 (kcons (kvar 0) (kcons (kvar 1) knil))) knil))) (kcons (ktup (kcons (kcon (.str [110, 117, 109, 98, 101, 114])) (kcons (kcall c 18 (kcons (kvar 0) (kcons (kcon (.int 13)) knil))) knil))) knil))) knil))) (ktup (kcons (kite (kcmp .eq (kvar 6) (kcon (.int 3))) (kcon (.str [116, 105, 109, 101, 115])) (kcon (.str [115, 117, 109]))) (kcons (kvar 7) (kcons (kvar 8) knil))))) knil))) kend))))
def k21s2 (c : Gp.Ctx) : Sv := (kfrz 4)
def k21s3 (c : Gp.Ctx) : Sv := (kret (kblt .tuple false (kcons (kvar 4) knil)))
def k21t4 (c : Gp.Ctx) : Sv := kend
def k21t3 (c : Gp.Ctx) : Sv := kseq (k21s3 c) (k21t4 c)
def k21t2 (c : Gp.Ctx) : Sv := kseq (k21s2 c) (k21t3 c)
def k21t1 (c : Gp.Ctx) : Sv := kseq (k21s1 c) (k21t2 c)
def k21t0 (c : Gp.Ctx) : Sv := kseq (k21s0 c) (k21t1 c)
def k21 (c : Gp.Ctx) : Sv := k21t0 c
theorem k21_eq (c : Gp.Ctx) : evSs c d21.d.body = k21 c := by kernel_rfl
/-! _law_sheet_value -/
def k22s0 (c : Gp.Ctx) : Sv := (kasg (.nm 3) (klst true knil))
def k22s1 (c : Gp.Ctx) : Sv := (kfor (.nm 4) (kex (kvar 1)) (kseq (kif (kcmp .eq (kblt .len false (kcons (kvar 4) knil)) (kcon (.int 2))) (kseq (kexp (kmth .append (kvar 3) (kcons (kite (kcmp .eq (kidx (kvar 4) (kcon (.int 0))) (kcon (.str [111, 119, 110]))) (kidx (kvar 2) (kidx (kvar 4) (kcon (.int 1)))) (kbin .mod (kidx (kvar 4) (kcon (.int 1))) (kvar 0))) knil))) kend) (kseq (kpar [5, 6] (kcons (kidx (kvar 3) (kidx (kvar 4) (kcon (.int 1)))) (kcons (kidx (kvar 3) (kidx (kvar 4) (kcon (.int 2)))) knil))) (kseq (kexp (kmth .append (kvar 3) (kcons (kbin .mod (kite (kcmp .eq (kidx (kvar 4) (kcon (.int 0))) (kcon (.str [115, 117, 109]))) (kbin .add (kvar 5) (kvar 6)) (kbin .mul (kvar 5) (kvar 6))) (kvar 0)) knil))) kend))) kend))
def k22s2 (c : Gp.Ctx) : Sv := (kfrz 3)
def k22s3 (c : Gp.Ctx) : Sv := (kret (kidx (kvar 3) (kneg (kcon (.int 1)))))
def k22t4 (c : Gp.Ctx) : Sv := kend
def k22t3 (c : Gp.Ctx) : Sv := kseq (k22s3 c) (k22t4 c)
def k22t2 (c : Gp.Ctx) : Sv := kseq (k22s2 c) (k22t3 c)
def k22t1 (c : Gp.Ctx) : Sv := kseq (k22s1 c) (k22t2 c)
def k22t0 (c : Gp.Ctx) : Sv := kseq (k22s0 c) (k22t1 c)
def k22 (c : Gp.Ctx) : Sv := k22t0 c
theorem k22_eq (c : Gp.Ctx) : evSs c d22.d.body = k22 c := by kernel_rfl
/-! _law_at -/
def k23s0 (c : Gp.Ctx) : Sv := (kasg (.t2 (.nm 4) (.nm 5)) (ktup (kcons (kcon (.int 0)) (kcons (kcon (.int 1)) knil))))
def k23s1 (c : Gp.Ctx) : Sv := (kfor (.nm 3) (kex (kvar 1)) (kseq (kpar [4, 5] (kcons (kbin .mod (kbin .add (kvar 4) (kbin .mul (kvar 3) (kvar 5))) (kvar 0)) (kcons (kbin .mod (kbin .mul (kvar 5) (kvar 2)) (kvar 0)) knil))) kend))
def k23s2 (c : Gp.Ctx) : Sv := (kret (kvar 4))
def k23t3 (c : Gp.Ctx) : Sv := kend
def k23t2 (c : Gp.Ctx) : Sv := kseq (k23s2 c) (k23t3 c)
def k23t1 (c : Gp.Ctx) : Sv := kseq (k23s1 c) (k23t2 c)
def k23t0 (c : Gp.Ctx) : Sv := kseq (k23s0 c) (k23t1 c)
def k23 (c : Gp.Ctx) : Sv := k23t0 c
theorem k23_eq (c : Gp.Ctx) : evSs c d23.d.body = k23 c := by kernel_rfl
/-! _law_dealt -/
def k24s0 (c : Gp.Ctx) : Sv := (kret (kblt .tuple false (kcons (klc false [4] (kcall c 23 (kcons (kvar 0) (kcons (kbin .add (ktup (kcons (kvar 2) knil)) (kblt .tuple false (kcons (kvar 3) knil))) (kcons (kbin .add (kvar 4) (kcon (.int 1))) knil)))) (.nm 4) (kr1 (kvar 1)) true kno) knil)))
def k24t1 (c : Gp.Ctx) : Sv := kend
def k24t0 (c : Gp.Ctx) : Sv := kseq (k24s0 c) (k24t1 c)
def k24 (c : Gp.Ctx) : Sv := k24t0 c
theorem k24_eq (c : Gp.Ctx) : evSs c d24.d.body = k24 c := by kernel_rfl
/-! _law_gauge -/
def k25s0 (c : Gp.Ctx) : Sv := (kasg (.nm 2) (klst true knil))
def k25s1 (c : Gp.Ctx) : Sv := (kfor (.nm 3) (kr2 (kcon (.int 1)) (kbin .add (kvar 1) (kcon (.int 1)))) (kseq (kasg (.t2 (.nm 5) (.nm 6)) (ktup (kcons (kcon (.int 1)) (kcons (kcon (.int 1)) knil)))) (kseq (kfor (.nm 4) (kr2 (kcon (.int 1)) (kbin .add (kvar 1) (kcon (.int 1)))) (kseq (kif (kcmp .ne (kvar 4) (kvar 3)) (kseq (kasg (.t2 (.nm 5) (.nm 6)) (ktup (kcons (kbin .mod (kbin .mul (kvar 5) (kvar 4)) (kvar 0)) (kcons (kbin .mod (kbin .mul (kvar 6) (kbin .sub (kvar 4) (kvar 3))) (kvar 0)) knil)))) kend) kend) kend)) (kseq (kexp (kmth .append (kvar 2) (kcons (kidx (klc false [7] (kvar 7) (.nm 7) (kr1 (kvar 0)) false (kcmp .eq (kbin .mod (kbin .mul (kvar 7) (kvar 6)) (kvar 0)) (kvar 5))) (kcon (.int 0))) knil))) kend))))
def k25s2 (c : Gp.Ctx) : Sv := (kfrz 2)
def k25s3 (c : Gp.Ctx) : Sv := (kret (kvar 2))
def k25t4 (c : Gp.Ctx) : Sv := kend
def k25t3 (c : Gp.Ctx) : Sv := kseq (k25s3 c) (k25t4 c)
def k25t2 (c : Gp.Ctx) : Sv := kseq (k25s2 c) (k25t3 c)
def k25t1 (c : Gp.Ctx) : Sv := kseq (k25s1 c) (k25t2 c)
def k25t0 (c : Gp.Ctx) : Sv := kseq (k25s0 c) (k25t1 c)
def k25 (c : Gp.Ctx) : Sv := k25t0 c
theorem k25_eq (c : Gp.Ctx) : evSs c d25.d.body = k25 c := by kernel_rfl
/-! _law_shared -/
def k26s0 (c : Gp.Ctx) : Sv := (kpar [8, 9, 10] (kcons (klst true knil) (kcons (klst true knil) (kcons (kblt .list false (kcons (kvar 5) knil)) knil))))
def k26s1 (c : Gp.Ctx) : Sv := (kasg (.nm 6) (kcall c 25 (kcons (kvar 0) (kcons (kvar 1) knil))))
def k26s2 (c : Gp.Ctx) : Sv := (kfor (.nm 7) (kex (kvar 3)) (kseq (kif (kcmp .eq (kidx (kvar 7) (kcon (.int 0))) (kcon (.str [111, 119, 110]))) (kseq (kexp (kmth .append (kvar 8) (kcons (kcall c 24 (kcons (kvar 0) (kcons (kvar 1) (kcons (kidx (kvar 4) (kidx (kvar 7) (kcon (.int 1)))) (kcons (kslc true false (kvar 10) kno (kvar 2)) knil))))) knil))) (kseq (kexp (kmth .append (kvar 9) (kcons (ktup (kcons (ktup (kcons (kidx (kvar 7) (kcon (.int 1))) knil)) (kcons (ktup (kcons (kidx (kvar 8) (kneg (kcon (.int 1)))) knil)) knil))) knil))) (kseq (kasg (.nm 10) (kslc false true (kvar 10) (kvar 2) kno)) kend))) (kseq (kif (kcmp .eq (kidx (kvar 7) (kcon (.int 0))) (kcon (.str [110, 117, 109, 98, 101, 114]))) (kseq (kexp (kmth .append (kvar 8) (kcons (kbin .mul (ktup (kcons (kbin .mod (kidx (kvar 7) (kcon (.int 1))) (kvar 0)) knil)) (kvar 1)) knil))) kend) (kseq (kif (kcmp .eq (kidx (kvar 7) (kcon (.int 0))) (kcon (.str [115, 117, 109]))) (kseq (kexp (kmth .append (kvar 8) (kcons (kblt .tuple false (kcons (klc false [13, 14] (kbin .mod (kbin .add (kvar 13) (kvar 14)) (kvar 0)) (.t2 (.nm 13) (.nm 14)) (kzip (kidx (kvar 8) (kidx (kvar 7) (kcon (.int 1)))) (kidx (kvar 8) (kidx (kvar 7) (kcon (.int 2))))) true kno) knil)) knil))) kend) (kseq (kasg (.nm 11) (klst true knil)) (kseq (kfor (.nm 12) (kr1 (kvar 1)) (kseq (kexp (kmth .append (kvar 11) (kcons (kcall c 24 (kcons (kvar 0) (kcons (kvar 1) (kcons (kbin .mod (kbin .mul (kidx (kidx (kvar 8) (kidx (kvar 7) (kcon (.int 1)))) (kvar 12)) (kidx (kidx (kvar 8) (kidx (kvar 7) (kcon (.int 2)))) (kvar 12))) (kvar 0)) (kcons (kslc true false (kvar 10) kno (kvar 2)) knil))))) knil))) (kseq (kasg (.nm 10) (kslc false true (kvar 10) (kvar 2) kno)) kend))) (kseq (kfrz 11) (kseq (kexp (kmth .append (kvar 9) (kcons (ktup (kcons (kblt .tupR1 false (kcons (kvar 1) knil)) (kcons (kblt .tuple false (kcons (kvar 11) knil)) knil))) knil))) (kseq (kexp (kmth .append (kvar 8) (kcons (kblt .tuple false (kcons (klc false [12] (kbin .mod (kblt .sum false (kcons (klc false [15] (kbin .mul (kidx (kvar 6) (kvar 15)) (kidx (kidx (kvar 11) (kvar 15)) (kvar 12))) (.nm 15) (kr1 (kvar 1)) true kno) knil)) (kvar 0)) (.nm 12) (kr1 (kvar 1)) true kno) knil)) knil))) kend)))))) kend)) kend)) kend))
def k26s3 (c : Gp.Ctx) : Sv := (kfrz 9)
def k26s4 (c : Gp.Ctx) : Sv := (kfrz 8)
def k26s5 (c : Gp.Ctx) : Sv := (kret (ktup (kcons (kidx (kvar 8) (kneg (kcon (.int 1)))) (kcons (kvar 9) knil))))
def k26t6 (c : Gp.Ctx) : Sv := kend
def k26t5 (c : Gp.Ctx) : Sv := kseq (k26s5 c) (k26t6 c)
def k26t4 (c : Gp.Ctx) : Sv := kseq (k26s4 c) (k26t5 c)
def k26t3 (c : Gp.Ctx) : Sv := kseq (k26s3 c) (k26t4 c)
def k26t2 (c : Gp.Ctx) : Sv := kseq (k26s2 c) (k26t3 c)
def k26t1 (c : Gp.Ctx) : Sv := kseq (k26s1 c) (k26t2 c)
def k26t0 (c : Gp.Ctx) : Sv := kseq (k26s0 c) (k26t1 c)
def k26 (c : Gp.Ctx) : Sv := k26t0 c
theorem k26_eq (c : Gp.Ctx) : evSs c d26.d.body = k26 c := by kernel_rfl
/-! _law_coin_count -/
def k27s0 (c : Gp.Ctx) : Sv := (kret (kblt .sum false (kcons (klc false [3] (kite (kcmp .eq (kidx (kvar 3) (kcon (.int 0))) (kcon (.str [111, 119, 110]))) (kvar 1) (kite (kcmp .eq (kidx (kvar 3) (kcon (.int 0))) (kcon (.str [116, 105, 109, 101, 115]))) (kbin .mul (kvar 0) (kvar 1)) (kcon (.int 0)))) (.nm 3) (kex (kvar 2)) true kno) knil)))
def k27t1 (c : Gp.Ctx) : Sv := kend
def k27t0 (c : Gp.Ctx) : Sv := kseq (k27s0 c) (k27t1 c)
def k27 (c : Gp.Ctx) : Sv := k27t0 c
theorem k27_eq (c : Gp.Ctx) : evSs c d27.d.body = k27 c := by kernel_rfl
/-! law -/
def k28s0 (c : Gp.Ctx) : Sv := (kasg (.nm 1) (klst true (kcons (kvar 0) (kcons (kcon (.int 0)) (kcons (kcon (.int 7730)) (kcons (kcon (.int 0)) knil))))))
def k28s1 (c : Gp.Ctx) : Sv := (kasg (.t2 (.nm 9) (.nm 10)) (ktup (kcons (kcall c 19 (kcons (kvar 1) (kcons (klst false (kcons (kcon (.int 5)) (kcons (kcon (.int 7)) (kcons (kcon (.int 11)) (kcons (kcon (.int 13)) knil))))) knil))) (kcons (kbin .add (kcon (.int 2)) (kcall c 18 (kcons (kvar 1) (kcons (kcon (.int 3)) knil)))) knil))))
def k28s2 (c : Gp.Ctx) : Sv := (kasg (.nm 2) (kcmp .gt (kvar 10) (kcon (.int 2))))
def k28s3 (c : Gp.Ctx) : Sv := (kasg (.nm 3) (kcall c 21 (kcons (kvar 1) (kcons (kvar 10) (kcons (kcon (.int 8)) (kcons (kvar 2) knil))))))
def k28s4 (c : Gp.Ctx) : Sv := (kasg (.nm 4) (kblt .tuple false (kcons (klc false [14] (kcall c 18 (kcons (kvar 1) (kcons (kvar 9) knil))) (.nm 14) (kr1 (kvar 10)) true kno) knil)))
def k28s5 (c : Gp.Ctx) : Sv := (kasg (.nm 5) (kcall c 22 (kcons (kvar 9) (kcons (kvar 3) (kcons (kvar 4) knil)))))
def k28s6 (c : Gp.Ctx) : Sv := (kif (knot (kcall c 20 (kcons (kcall c 11 (kcons (kvar 9) (kcons (kvar 10) (kcons (kvar 3) (kcons (kvar 4) knil))))) (kcons (kvar 5) knil)))) (kseq (kret (kcon (.bl false))) kend) kend)
def k28s7 (c : Gp.Ctx) : Sv := (kasg (.nm 6) (kite (kor (kcmp .lt (kvar 10) (kcon (.int 4))) (kcmp .ne (klc false [16] (kvar 16) (.nm 16) (kex (kvar 3)) false (kcmp .eq (kidx (kvar 16) (kcon (.int 0))) (kcon (.str [116, 105, 109, 101, 115])))) (klst false knil))) (kcon (.int 1)) (kcon (.int 2))))
def k28s8 (c : Gp.Ctx) : Sv := (kasg (.nm 7) (kcall c 27 (kcons (kvar 10) (kcons (kvar 6) (kcons (kvar 3) knil)))))
def k28s9 (c : Gp.Ctx) : Sv := (kif (knot (kcall c 20 (kcons (kcall c 14 (kcons (kvar 10) (kcons (kvar 6) (kcons (kvar 3) knil)))) (kcons (kvar 7) knil)))) (kseq (kret (kcon (.bl false))) kend) kend)
def k28s10 (c : Gp.Ctx) : Sv := (kfor (.nm 8) (kr1 (kcon (.int 3))) (kseq (kasg (.nm 11) (kblt .tuple false (kcons (klc false [15] (kcall c 18 (kcons (kvar 1) (kcons (kvar 9) knil))) (.nm 15) (kr1 (kvar 7)) true kno) knil))) (kseq (kasg (.t2 (.nm 12) (.nm 13)) (kcall c 26 (kcons (kvar 9) (kcons (kvar 10) (kcons (kvar 6) (kcons (kvar 3) (kcons (kvar 4) (kcons (kvar 11) knil)))))))) (kseq (kif (knot (kcall c 20 (kcons (kcall c 17 (kcons (kvar 9) (kcons (kvar 10) (kcons (kvar 6) (kcons (kvar 3) (kcons (kvar 4) (kcons (kvar 11) knil))))))) (kcons (ktup (kcons (kvar 5) (kcons (kblt .tuple false (kcons (klc false [19, 20] (kvar 20) (.t2 (.nm 19) (.nm 20)) (kex (kvar 13)) true kno) knil)) knil))) knil)))) (kseq (kret (kcon (.bl false))) kend) kend) (kseq (kif (kcmp .ne (kbin .mod (kblt .sum false (kcons (klc false [17, 18] (kbin .mul (kvar 17) (kvar 18)) (.t2 (.nm 17) (.nm 18)) (kzip (kcall c 25 (kcons (kvar 9) (kcons (kvar 10) knil))) (kvar 12)) true kno) knil)) (kvar 9)) (kvar 5)) (kseq (kret (kcon (.bl false))) kend) kend) kend)))))
def k28s11 (c : Gp.Ctx) : Sv := (kret (kcon (.bl true)))
def k28t12 (c : Gp.Ctx) : Sv := kend
def k28t11 (c : Gp.Ctx) : Sv := kseq (k28s11 c) (k28t12 c)
def k28t10 (c : Gp.Ctx) : Sv := kseq (k28s10 c) (k28t11 c)
def k28t9 (c : Gp.Ctx) : Sv := kseq (k28s9 c) (k28t10 c)
def k28t8 (c : Gp.Ctx) : Sv := kseq (k28s8 c) (k28t9 c)
def k28t7 (c : Gp.Ctx) : Sv := kseq (k28s7 c) (k28t8 c)
def k28t6 (c : Gp.Ctx) : Sv := kseq (k28s6 c) (k28t7 c)
def k28t5 (c : Gp.Ctx) : Sv := kseq (k28s5 c) (k28t6 c)
def k28t4 (c : Gp.Ctx) : Sv := kseq (k28s4 c) (k28t5 c)
def k28t3 (c : Gp.Ctx) : Sv := kseq (k28s3 c) (k28t4 c)
def k28t2 (c : Gp.Ctx) : Sv := kseq (k28s2 c) (k28t3 c)
def k28t1 (c : Gp.Ctx) : Sv := kseq (k28s1 c) (k28t2 c)
def k28t0 (c : Gp.Ctx) : Sv := kseq (k28s0 c) (k28t1 c)
def k28 (c : Gp.Ctx) : Sv := k28t0 c
theorem k28_eq (c : Gp.Ctx) : evSs c d28.d.body = k28 c := by kernel_rfl
def KP : List KD := [⟨3, 3, k0⟩, ⟨3, 3, k1⟩, ⟨1, 1, k2⟩, ⟨2, 3, k3⟩, ⟨4, 6, k4⟩, ⟨4, 5, k5⟩, ⟨2, 7, k6⟩, ⟨2, 4, k7⟩, ⟨3, 4, k8⟩, ⟨2, 4, k9⟩, ⟨3, 3, k10⟩, ⟨4, 6, k11⟩, ⟨3, 5, k12⟩, ⟨3, 4, k13⟩, ⟨3, 3, k14⟩, ⟨6, 18, k15⟩, ⟨5, 5, k16⟩, ⟨6, 11, k17⟩, ⟨2, 4, k18⟩, ⟨2, 2, k19⟩, ⟨2, 4, k20⟩, ⟨4, 9, k21⟩, ⟨3, 7, k22⟩, ⟨3, 6, k23⟩, ⟨4, 5, k24⟩, ⟨2, 8, k25⟩, ⟨6, 16, k26⟩, ⟨3, 4, k27⟩, ⟨1, 21, k28⟩]
theorem kp_eq : KP = (defs.map DefI.d).map kOf := by
  show [KD.mk 3 3 k0, KD.mk 3 3 k1, KD.mk 1 1 k2, KD.mk 2 3 k3, KD.mk 4 6 k4, KD.mk 4 5 k5, KD.mk 2 7 k6, KD.mk 2 4 k7, KD.mk 3 4 k8, KD.mk 2 4 k9, KD.mk 3 3 k10, KD.mk 4 6 k11, KD.mk 3 5 k12, KD.mk 3 4 k13, KD.mk 3 3 k14, KD.mk 6 18 k15, KD.mk 5 5 k16, KD.mk 6 11 k17, KD.mk 2 4 k18, KD.mk 2 2 k19, KD.mk 2 4 k20, KD.mk 4 9 k21, KD.mk 3 7 k22, KD.mk 3 6 k23, KD.mk 4 5 k24, KD.mk 2 8 k25, KD.mk 6 16 k26, KD.mk 3 4 k27, KD.mk 1 21 k28] = [KD.mk 3 3 (fun c => evSs c d0.d.body), KD.mk 3 3 (fun c => evSs c d1.d.body), KD.mk 1 1 (fun c => evSs c d2.d.body), KD.mk 2 3 (fun c => evSs c d3.d.body), KD.mk 4 6 (fun c => evSs c d4.d.body), KD.mk 4 5 (fun c => evSs c d5.d.body), KD.mk 2 7 (fun c => evSs c d6.d.body), KD.mk 2 4 (fun c => evSs c d7.d.body), KD.mk 3 4 (fun c => evSs c d8.d.body), KD.mk 2 4 (fun c => evSs c d9.d.body), KD.mk 3 3 (fun c => evSs c d10.d.body), KD.mk 4 6 (fun c => evSs c d11.d.body), KD.mk 3 5 (fun c => evSs c d12.d.body), KD.mk 3 4 (fun c => evSs c d13.d.body), KD.mk 3 3 (fun c => evSs c d14.d.body), KD.mk 6 18 (fun c => evSs c d15.d.body), KD.mk 5 5 (fun c => evSs c d16.d.body), KD.mk 6 11 (fun c => evSs c d17.d.body), KD.mk 2 4 (fun c => evSs c d18.d.body), KD.mk 2 2 (fun c => evSs c d19.d.body), KD.mk 2 4 (fun c => evSs c d20.d.body), KD.mk 4 9 (fun c => evSs c d21.d.body), KD.mk 3 7 (fun c => evSs c d22.d.body), KD.mk 3 6 (fun c => evSs c d23.d.body), KD.mk 4 5 (fun c => evSs c d24.d.body), KD.mk 2 8 (fun c => evSs c d25.d.body), KD.mk 6 16 (fun c => evSs c d26.d.body), KD.mk 3 4 (fun c => evSs c d27.d.body), KD.mk 1 21 (fun c => evSs c d28.d.body)]
  rw [show (fun c => evSs c d0.d.body) = k0 from funext k0_eq, show (fun c => evSs c d1.d.body) = k1 from funext k1_eq, show (fun c => evSs c d2.d.body) = k2 from funext k2_eq, show (fun c => evSs c d3.d.body) = k3 from funext k3_eq, show (fun c => evSs c d4.d.body) = k4 from funext k4_eq, show (fun c => evSs c d5.d.body) = k5 from funext k5_eq, show (fun c => evSs c d6.d.body) = k6 from funext k6_eq, show (fun c => evSs c d7.d.body) = k7 from funext k7_eq, show (fun c => evSs c d8.d.body) = k8 from funext k8_eq, show (fun c => evSs c d9.d.body) = k9 from funext k9_eq, show (fun c => evSs c d10.d.body) = k10 from funext k10_eq, show (fun c => evSs c d11.d.body) = k11 from funext k11_eq, show (fun c => evSs c d12.d.body) = k12 from funext k12_eq, show (fun c => evSs c d13.d.body) = k13 from funext k13_eq, show (fun c => evSs c d14.d.body) = k14 from funext k14_eq, show (fun c => evSs c d15.d.body) = k15 from funext k15_eq, show (fun c => evSs c d16.d.body) = k16 from funext k16_eq, show (fun c => evSs c d17.d.body) = k17 from funext k17_eq, show (fun c => evSs c d18.d.body) = k18 from funext k18_eq, show (fun c => evSs c d19.d.body) = k19 from funext k19_eq, show (fun c => evSs c d20.d.body) = k20 from funext k20_eq, show (fun c => evSs c d21.d.body) = k21 from funext k21_eq, show (fun c => evSs c d22.d.body) = k22 from funext k22_eq, show (fun c => evSs c d23.d.body) = k23 from funext k23_eq, show (fun c => evSs c d24.d.body) = k24 from funext k24_eq, show (fun c => evSs c d25.d.body) = k25 from funext k25_eq, show (fun c => evSs c d26.d.body) = k26 from funext k26_eq, show (fun c => evSs c d27.d.body) = k27 from funext k27_eq, show (fun c => evSs c d28.d.body) = k28 from funext k28_eq]
end Ck30
namespace Ck30
open PySem PySem.Spec PyProof.Rows L2 Gp
abbrev P : List Def := defs.map DefI.d
end Ck30

/-! loops over lists, once for all -/
namespace Gp
theorem compL_map {α : Type} {f : LV → Store → Res (Option LV)} {g : α → LV} {h : α → Option LV} {S : Store} : ∀ {xs : List α}, (∀ x ∈ xs, f (g x) S = .ok (h x) S) → compL f (xs.map g) S = .ok (xs.filterMap h) S
  | [], _ => rfl
  | x :: xs, H => by
    have e1 := H x List.mem_cons_self
    have e2 := compL_map (f := f) (S := S) fun y hy => H y (List.mem_cons_of_mem _ hy)
    show (f (g x) S).bind (fun o S => (compL f (xs.map g) S).bind fun ys S => match o with
      | some y => .ok (y :: ys) S
      | none => .ok ys S) = _
    rw [e1]
    show (compL f (xs.map g) S).bind _ = _
    rw [e2, List.filterMap_cons]
    cases h x <;> rfl
theorem compLL_map {α : Type} {f : LV → Store → Res (List LV)} {g : α → LV} {h : α → List LV} {S : Store} : ∀ {xs : List α}, (∀ x ∈ xs, f (g x) S = .ok (h x) S) → compLL f (xs.map g) S = .ok (xs.flatMap h) S
  | [], _ => rfl
  | x :: xs, H => by
    have e1 := H x List.mem_cons_self
    have e2 := compLL_map (f := f) (S := S) fun y hy => H y (List.mem_cons_of_mem _ hy)
    show (f (g x) S).bind (fun zs S => (compLL f (xs.map g) S).bind fun ys S => .ok (zs ++ ys) S) = _
    rw [e1]
    show (compLL f (xs.map g) S).bind _ = _
    rw [e2]; rfl
/-- a loop with what stays -/
theorem forL_inv {α β : Type} {f : LV → Env → Store → Res Flow} {g : α → LV} {Pr : β → Env → Prop} {T : β → Store} {step : β → α → β} : ∀ {xs : List α} {b : β} {ρ : Env}, Pr b ρ →
    (∀ x ∈ xs, ∀ b ρ, Pr b ρ → ∃ ρ', f (g x) ρ (T b) = .ok (.nx ρ') (T (step b x)) ∧ Pr (step b x) ρ') → ∃ ρ', forL f (xs.map g) ρ (T b) = .ok (.nx ρ') (T (xs.foldl step b)) ∧ Pr (xs.foldl step b) ρ'
  | [], b, ρ, h, _ => ⟨ρ, rfl, h⟩
  | x :: xs, b, ρ, h, H => by
    obtain ⟨ρ1, e1, h1⟩ := H x List.mem_cons_self b ρ h
    obtain ⟨ρ2, e2, h2⟩ := forL_inv (f := f) (g := g) (T := T) (step := step) (xs := xs) h1 fun y hy => H y (List.mem_cons_of_mem _ hy)
    refine ⟨ρ2, ?_, h2⟩
    show (f (g x) ρ (T b)).bind (fun fl S => match fl with
      | .nx ρ => forL f (xs.map g) ρ S
      | .ct ρ => forL f (xs.map g) ρ S
      | .bk ρ => .ok (.nx ρ) S
      | .rt l => .ok (.rt l) S) = _
    rw [e1]; exact e2
/-- a loop that is left at the first hit -/
theorem forL_find {α : Type} {f : LV → Env → Store → Res Flow} {g : α → LV} {Pr : Env → Prop} {S : Store} {p : α → Bool} {r : α → LV} : ∀ {xs : List α} {ρ : Env}, Pr ρ →
    (∀ x ∈ xs, ∀ ρ, Pr ρ → if p x then f (g x) ρ S = .ok (.rt (r x)) S else ∃ ρ', f (g x) ρ S = .ok (.nx ρ') S ∧ Pr ρ') →
    match xs.find? p with
    | some x => forL f (xs.map g) ρ S = .ok (.rt (r x)) S
    | none => ∃ ρ', forL f (xs.map g) ρ S = .ok (.nx ρ') S ∧ Pr ρ'
  | [], ρ, h, _ => ⟨ρ, rfl, h⟩
  | x :: xs, ρ, h, H => by
    have e1 := H x List.mem_cons_self ρ h
    have un : forL f ((x :: xs).map g) ρ S = (f (g x) ρ S).bind (fun fl S => match fl with
      | .nx ρ => forL f (xs.map g) ρ S
      | .ct ρ => forL f (xs.map g) ρ S
      | .bk ρ => .ok (.nx ρ) S
      | .rt l => .ok (.rt l) S) := rfl
    rw [un, List.find?_cons]
    cases hp : p x with
    | true =>
      rw [hp] at e1
      have e1 : f (g x) ρ S = .ok (.rt (r x)) S := e1
      simp only [e1]; rfl
    | false =>
      rw [hp] at e1
      have e1 : ∃ ρ', f (g x) ρ S = .ok (.nx ρ') S ∧ Pr ρ' := by simpa using e1
      obtain ⟨ρ1, e2, h1⟩ := e1
      have e3 := forL_find (f := f) (g := g) (S := S) (p := p) (r := r) (xs := xs) h1 fun y hy => H y (List.mem_cons_of_mem _ hy)
      simp only [e2]
      exact e3
theorem runK_s {KP : List KD} {wf n f : Nat} {d : KD} {ls : List LV} {S : Store} (h : KP[f]? = some d) (hl : ls.length = d.ar) : runK KP wf (n + 1) f ls S = leave S.length (d.body ⟨runK KP wf n, wf⟩ (enterK d.ar d.sl ls) S) := by
  show (match KP[f]? with
    | some d => if ls.length = d.ar then leave S.length (d.body ⟨runK KP wf n, wf⟩ (enterK d.ar d.sl ls) S) else .bad
    | none => .bad) = _
  rw [h]
  show (if ls.length = d.ar then _ else _) = _
  rw [if_pos hl]
theorem kseq_nx {s r : Sv} {ρ ρ' : Gp.Env} {S S' : Store} (h : s ρ S = .ok (.nx ρ') S') : kseq s r ρ S = r ρ' S' := by
  show (s ρ S).bind _ = _
  rw [h]; rfl
theorem kseq_rt {s r : Sv} {ρ : Gp.Env} {S S' : Store} {l : LV} (h : s ρ S = .ok (.rt l) S') : kseq s r ρ S = .ok (.rt l) S' := by
  show (s ρ S).bind _ = _
  rw [h]; rfl
theorem forL_step {f : LV → Env → Store → Res Flow} {x : LV} {xs : List LV} {ρ ρ1 : Env} {S S1 : Store} (h : f x ρ S = .ok (.nx ρ1) S1) : forL f (x :: xs) ρ S = forL f xs ρ1 S1 := by
  show (f x ρ S).bind (fun fl S => match fl with
      | .nx ρ => forL f xs ρ S
      | .ct ρ => forL f xs ρ S
      | .bk ρ => .ok (.nx ρ) S
      | .rt l => .ok (.rt l) S) = _
  rw [h]; rfl
theorem compL_ex {α : Type} {f : LV → Store → Res (Option LV)} {g : α → LV} {S : Store} : ∀ {xs : List α}, (∀ x ∈ xs, ∃ b : Int, f (g x) S = .ok (some (.pv (.int b))) S ∧ (b = 0 ∨ b = 1)) →
    ∃ bs : List Int, compL f (xs.map g) S = .ok ((bs.map PV.int).map .pv) S ∧ bs.length = xs.length ∧ ∀ b ∈ bs, b = 0 ∨ b = 1
  | [], _ => ⟨[], rfl, rfl, fun _ h => nomatch h⟩
  | x :: xs, H => by
    obtain ⟨b, e1, h1⟩ := H x List.mem_cons_self
    obtain ⟨bs, e2, h2, h3⟩ := compL_ex (f := f) (g := g) (S := S) (xs := xs) fun y hy => H y (List.mem_cons_of_mem _ hy)
    refine ⟨b :: bs, ?_, by simp [h2], ?_⟩
    · show (f (g x) S).bind (fun o S => (compL f (xs.map g) S).bind fun ys S => match o with
      | some y => .ok (y :: ys) S
      | none => .ok ys S) = _
      rw [e1]
      show (compL f (xs.map g) S).bind _ = _
      rw [e2]; rfl
    · intro y hy
      rcases List.mem_cons.mp hy with rfl | hy
      · exact h1
      · exact h3 y hy
theorem fmap_some {α β : Type} (f : α → β) (xs : List α) : xs.filterMap (fun x => some (f x)) = xs.map f := by
  show xs.filterMap (some ∘ f) = _
  rw [List.filterMap_eq_map]
theorem pvs_map (xs : List PV) : pvs (xs.map LV.pv) = some xs := by
  induction xs with
  | nil => rfl
  | cons x xs ih =>
    show (pvs (xs.map LV.pv)).map (x :: ·) = _
    rw [ih]; rfl
theorem mkC_pv (xs : List PV) (S : Store) (h : xs.length ≤ 1000000) : mkC false (xs.map LV.pv) S = .ok (.pv (.lst xs)) S := by
  unfold mkC
  rw [if_pos (by simp [big]; exact h)]
  unfold mkL
  rw [pvs_map]; rfl
/-- a comprehension that leaves the store alone -/
theorem klc_map {α : Type} {ws : List Nat} {e : Ev} {t : Tg} {it : EvL} {n : Bool} {cd : Ev} {ρ : Env} {S : Store} {g : α → LV} {h : α → Option PV} {xs : List α} (hit : it ρ S = .ok (xs.map g) S)
    (hf : ∀ x ∈ xs, turn (bindT t (g x) (wipe ρ ws)) (fun ρ => iteR (tstO n (cd true ρ S) S) (fun S => (e false ρ S).bind fun v S => .ok (some v) S) (fun S => .ok none S)) = .ok ((h x).map .pv) S) (hl : xs.length ≤ 1000000) :
    klc false ws e t it n cd false ρ S = .ok (.pv (.lst (xs.filterMap h))) S := by
  have e1 := compL_map (f := fun l S => turn (bindT t l (wipe ρ ws)) fun ρ => iteR (tstO n (cd true ρ S) S) (fun S => (e false ρ S).bind fun v S => .ok (some v) S) (fun S => .ok none S)) (S := S) hf
  show ((it ρ S).bind fun ls S => (noX (compL _ ls S)).bind fun ys S => mkC false ys S) = _
  rw [hit]
  show (noX (compL _ (xs.map g) S)).bind (fun ys S => mkC false ys S) = _
  rw [e1]
  show mkC false (xs.filterMap fun x => (h x).map .pv) S = _
  have e2 : (xs.filterMap fun x => (h x).map LV.pv) = (xs.filterMap h).map .pv := by
    rw [List.map_filterMap]
  rw [e2]
  exact mkC_pv _ S (Nat.le_trans (List.length_filterMap_le _ _) hl)
theorem all_true : ∀ {xs : List PV}, (∀ x ∈ xs, x = .bl true) → builtin .all [.lst xs] = some (.bl true) := fun {xs} h => by
  have : ∀ xs : List PV, (∀ x ∈ xs, x = .bl true) → ∃ bs, blsOf xs = some bs ∧ bs.all id = true := fun xs => by
    induction xs with
    | nil => intro _; exact ⟨[], rfl, rfl⟩
    | cons x xs ih =>
      intro h
      obtain ⟨bs, e1, e2⟩ := ih fun y hy => h y (List.mem_cons_of_mem _ hy)
      have := h x List.mem_cons_self
      subst this
      refine ⟨true :: bs, ?_, by simpa using e2⟩
      show (blsOf xs).map (true :: ·) = _
      rw [e1]; rfl
  obtain ⟨bs, e1, e2⟩ := this xs h
  show (blsOf xs).map (fun l => PV.bl (l.all id)) = _
  rw [e1]
  show some (PV.bl (bs.all id)) = _
  rw [e2]
abbrev LI (x : Int) : LV := .pv (.int x)
theorem mulR {j : Int} (h0 : 0 ≤ j) (h1 : j < 1000) (i : Int) : mulOk i j = true := by
  unfold mulOk
  have a : decide (-18446744073709551616 < j) = true := decide_eq_true (by omega)
  have b : decide (j < 18446744073709551616) = true := decide_eq_true (by omega)
  rw [a, b]; simp
end Gp
namespace Ck30
open Gp
theorem u0 (c : Gp.Ctx) : k0 c = kseq (kret (kand (kisi (kvar 0) [.int]) (kand (knot (kisi (kvar 0) [.bool])) (kchain .le .le (kvar 1) (kvar 0) (kvar 2))))) kend := rfl
theorem u1 (c : Gp.Ctx) : k1 c = kseq (kif (knot (kcall c 0 (kcons (kvar 0) (kcons (kvar 1) (kcons (kvar 2) knil))))) (kseq (kexp kno) kend) kend) kend := rfl
theorem u2 (c : Gp.Ctx) : k2 c = kseq (kif (kor (knot (kcall c 0 (kcons (kvar 0) (kcons (kcon (.int 5)) (kcons (kcon (.int 13)) knil))))) (kcmp .notin (kvar 0) (kcon (.tup [(.int 5), (.int 7), (.int 11), (.int 13)])))) (kseq (kexp kno) kend) kend) kend := rfl
theorem u3 (c : Gp.Ctx) : k3 c = kseq (kret (kand (kisi (kvar 1) [.tuple]) (kblt .all false (kcons (klc false [2] (kcall c 0 (kcons (kvar 2) (kcons (kcon (.int 0)) (kcons (kbin .sub (kvar 0) (kcon (.int 1))) knil)))) (.nm 2) (kex (kvar 1)) true kno) knil)))) kend := rfl
theorem u4 (c : Gp.Ctx) : k4 c = kseq (kasg (.nm 4) (kcon (.int 0))) (kseq (kfor (.nm 5) (kex (krev (kvar 2))) (kseq (kasg (.nm 4) (kbin .mod (kbin .mul (kbin .add (kvar 4) (kvar 5)) (kvar 3)) (kvar 0))) kend)) (kseq (kret (kbin .mod (kbin .add (kvar 4) (kvar 1)) (kvar 0))) kend)) := rfl
theorem u5 (c : Gp.Ctx) : k5 c = kseq (kret (kblt .tuple false (kcons (klc false [4] (kcall c 4 (kcons (kvar 0) (kcons (kvar 2) (kcons (kvar 3) (kcons (kbin .add (kvar 4) (kcon (.int 1))) knil))))) (.nm 4) (kr1 (kvar 1)) true kno) knil))) kend := rfl
theorem u6 (c : Gp.Ctx) : k6 c = kseq (kasg (.nm 2) (klst true knil)) (kseq (kfor (.nm 3) (kex (kvar 1)) (kseq (kasg (.t2 (.nm 5) (.nm 6)) (ktup (kcons (kcon (.int 1)) (kcons (kcon (.int 1)) knil)))) (kseq (kfor (.nm 4) (kex (kvar 1)) (kseq (kif (kcmp .ne (kvar 4) (kvar 3)) (kseq (kpar [5, 6] (kcons (kbin .mod (kbin .mul (kvar 5) (kvar 4)) (kvar 0)) (kcons (kbin .mod (kbin .mul (kvar 6) (kbin .sub (kvar 4) (kvar 3))) (kvar 0)) knil))) kend) kend) kend)) (kseq (kexp (kmth .append (kvar 2) (kcons (kbin .mod (kbin .mul (kvar 5) (kcall c 7 (kcons (kvar 0) (kcons (kvar 6) knil)))) (kvar 0)) knil))) kend)))) (kseq (kfrz 2) (kseq (kret (kblt .tuple false (kcons (kvar 2) knil))) kend))) := rfl
theorem u7 (c : Gp.Ctx) : k7 c = kseq (kasg (.nm 2) (kcon (.int 1))) (kseq (kfor (.nm 3) (kr1 (kbin .sub (kvar 0) (kcon (.int 2)))) (kseq (kasg (.nm 2) (kbin .mod (kbin .mul (kvar 2) (kvar 1)) (kvar 0))) kend)) (kseq (kret (kvar 2)) kend)) := rfl
theorem u8 (c : Gp.Ctx) : k8 c = kseq (kif (kor (knot (kisi (kvar 0) [.tuple])) (kor (knot (kchain .le .le (kcon (.int 2)) (kblt .len false (kcons (kvar 0) knil)) (kcon (.int 3)))) (knot (kisi (kidx (kvar 0) (kcon (.int 0))) [.str])))) (kseq (kret (kcon (.bl false))) kend) kend) (kseq (kif (kcmp .eq (kblt .len false (kcons (kvar 0) knil)) (kcon (.int 2))) (kseq (kasg (.nm 3) (kgetK (kdsp2 [111, 119, 110] [110, 117, 109, 98, 101, 114] (kbin .sub (kvar 1) (kcon (.int 1))) (kcon (.int 12))) (kidx (kvar 0) (kcon (.int 0))) (kneg (kcon (.int 1))))) (kseq (kret (kcall c 0 (kcons (kidx (kvar 0) (kcon (.int 1))) (kcons (kcon (.int 0)) (kcons (kvar 3) knil))))) kend)) kend) (kseq (kif (kcmp .notin (kidx (kvar 0) (kcon (.int 0))) (ktup (kcons (kcon (.str [115, 117, 109])) (kcons (kcon (.str [116, 105, 109, 101, 115])) knil)))) (kseq (kret (kcon (.bl false))) kend) kend) (kseq (kret (kand (kcall c 0 (kcons (kidx (kvar 0) (kcon (.int 1))) (kcons (kcon (.int 0)) (kcons (kbin .sub (kvar 2) (kcon (.int 1))) knil)))) (kcall c 0 (kcons (kidx (kvar 0) (kcon (.int 2))) (kcons (kcon (.int 0)) (kcons (kbin .sub (kvar 2) (kcon (.int 1))) knil)))))) kend))) := rfl
theorem u9 (c : Gp.Ctx) : k9 c = kseq (kif (kor (knot (kisi (kvar 1) [.tuple])) (knot (kchain .le .le (kcon (.int 1)) (kblt .len false (kcons (kvar 1) knil)) (kcon (.int 8))))) (kseq (kexp kno) kend) kend) (kseq (kfor (.t2 (.nm 2) (.nm 3)) (kenum (kvar 1)) (kseq (kif (knot (kcall c 8 (kcons (kvar 3) (kcons (kvar 0) (kcons (kvar 2) knil))))) (kseq (kexp kno) kend) kend) kend)) kend) := rfl
theorem u10 (c : Gp.Ctx) : k10 c = kseq (kif (kor (knot (kcall c 3 (kcons (kvar 0) (kcons (kvar 2) knil)))) (kcmp .ne (kblt .len false (kcons (kvar 2) knil)) (kvar 1))) (kseq (kexp kno) kend) kend) kend := rfl
theorem u11 (c : Gp.Ctx) : k11 c = kseq (kexp (kcall c 2 (kcons (kvar 0) knil))) (kseq (kexp (kcall c 1 (kcons (kvar 1) (kcons (kcon (.int 2)) (kcons (kcon (.int 4)) knil))))) (kseq (kexp (kcall c 9 (kcons (kvar 1) (kcons (kvar 2) knil)))) (kseq (kexp (kcall c 10 (kcons (kvar 0) (kcons (kvar 1) (kcons (kvar 3) knil))))) (kseq (kasg (.nm 4) (klst true knil)) (kseq (kfor (.nm 5) (kex (kvar 2)) (kseq (kif (kcmp .eq (kidx (kvar 5) (kcon (.int 0))) (kcon (.str [111, 119, 110]))) (kseq (kexp (kmth .append (kvar 4) (kcons (kidx (kvar 3) (kidx (kvar 5) (kcon (.int 1)))) knil))) kend) (kseq (kif (kcmp .eq (kidx (kvar 5) (kcon (.int 0))) (kcon (.str [110, 117, 109, 98, 101, 114]))) (kseq (kexp (kmth .append (kvar 4) (kcons (kbin .mod (kidx (kvar 5) (kcon (.int 1))) (kvar 0)) knil))) kend) (kseq (kif (kcmp .eq (kidx (kvar 5) (kcon (.int 0))) (kcon (.str [115, 117, 109]))) (kseq (kexp (kmth .append (kvar 4) (kcons (kbin .mod (kbin .add (kidx (kvar 4) (kidx (kvar 5) (kcon (.int 1)))) (kidx (kvar 4) (kidx (kvar 5) (kcon (.int 2))))) (kvar 0)) knil))) kend) (kseq (kexp (kmth .append (kvar 4) (kcons (kbin .mod (kbin .mul (kidx (kvar 4) (kidx (kvar 5) (kcon (.int 1)))) (kidx (kvar 4) (kidx (kvar 5) (kcon (.int 2))))) (kvar 0)) knil))) kend)) kend)) kend)) kend)) (kseq (kfrz 4) (kseq (kret (kidx (kvar 4) (kneg (kcon (.int 1))))) kend))))))) := rfl
theorem u12 (c : Gp.Ctx) : k12 c = kseq (kasg (.nm 3) (kblt .any false (kcons (klc false [4] (kcmp .eq (kidx (kvar 4) (kcon (.int 0))) (kcon (.str [116, 105, 109, 101, 115]))) (.nm 4) (kex (kvar 2)) true kno) knil))) (kseq (kif (kcmp .ge (kite (kvar 3) (kbin .mul (kcon (.int 2)) (kvar 1)) (kvar 1)) (kvar 0)) (kseq (kexp kno) kend) kend) kend) := rfl
theorem u13 (c : Gp.Ctx) : k13 c = kseq (kret (kblt .sum false (kcons (klc false [3] (kgetK (kdsp2 [111, 119, 110] [116, 105, 109, 101, 115] (kvar 1) (kbin .mul (kvar 0) (kvar 1))) (kidx (kvar 3) (kcon (.int 0))) (kcon (.int 0))) (.nm 3) (kex (kvar 2)) true kno) knil))) kend := rfl
theorem u14 (c : Gp.Ctx) : k14 c = kseq (kexp (kcall c 1 (kcons (kvar 0) (kcons (kcon (.int 2)) (kcons (kcon (.int 4)) knil))))) (kseq (kexp (kcall c 1 (kcons (kvar 1) (kcons (kcon (.int 1)) (kcons (kcon (.int 2)) knil))))) (kseq (kexp (kcall c 9 (kcons (kvar 0) (kcons (kvar 2) knil)))) (kseq (kexp (kcall c 12 (kcons (kvar 0) (kcons (kvar 1) (kcons (kvar 2) knil))))) (kseq (kret (kcall c 13 (kcons (kvar 0) (kcons (kvar 1) (kcons (kvar 2) knil))))) kend)))) := rfl
theorem u15 (c : Gp.Ctx) : k15 c = kseq (kpar [8, 9, 10] (kcons (klst true knil) (kcons (klst true knil) (kcons (kcon (.int 0)) knil)))) (kseq (kasg (.nm 6) (kcall c 6 (kcons (kvar 0) (kcons (kblt .lstR2 false (kcons (kcon (.int 1)) (kcons (kbin .add (kvar 1) (kcon (.int 1))) knil))) knil)))) (kseq (kfor (.nm 7) (kex (kvar 3)) (kseq (kif (kcmp .eq (kidx (kvar 7) (kcon (.int 0))) (kcon (.str [111, 119, 110]))) (kseq (kasg (.nm 11) (kcall c 5 (kcons (kvar 0) (kcons (kvar 1) (kcons (kidx (kvar 4) (kidx (kvar 7) (kcon (.int 1)))) (kcons (kslc false false (kvar 5) (kvar 10) (kbin .add (kvar 10) (kvar 2))) knil)))))) (kseq (kaug 10 .add (kvar 2)) (kseq (kexp (kmth .append (kvar 9) (kcons (ktup (kcons (kvar 11) knil)) knil))) kend))) (kseq (kif (kcmp .eq (kidx (kvar 7) (kcon (.int 0))) (kcon (.str [110, 117, 109, 98, 101, 114]))) (kseq (kasg (.nm 11) (kbin .mul (ktup (kcons (kbin .mod (kidx (kvar 7) (kcon (.int 1))) (kvar 0)) knil)) (kvar 1))) kend) (kseq (kif (kcmp .eq (kidx (kvar 7) (kcon (.int 0))) (kcon (.str [115, 117, 109]))) (kseq (kasg (.nm 11) (kblt .tuple false (kcons (klc false [15, 16] (kbin .mod (kbin .add (kvar 15) (kvar 16)) (kvar 0)) (.t2 (.nm 15) (.nm 16)) (kzip (kidx (kvar 8) (kidx (kvar 7) (kcon (.int 1)))) (kidx (kvar 8) (kidx (kvar 7) (kcon (.int 2))))) true kno) knil))) kend) (kseq (kasg (.nm 12) (klst true knil)) (kseq (kfor (.nm 13) (kr1 (kvar 1)) (kseq (kasg (.nm 14) (kbin .mod (kbin .mul (kidx (kidx (kvar 8) (kidx (kvar 7) (kcon (.int 1)))) (kvar 13)) (kidx (kidx (kvar 8) (kidx (kvar 7) (kcon (.int 2)))) (kvar 13))) (kvar 0))) (kseq (kexp (kmth .append (kvar 12) (kcons (kcall c 5 (kcons (kvar 0) (kcons (kvar 1) (kcons (kvar 14) (kcons (kslc false false (kvar 5) (kvar 10) (kbin .add (kvar 10) (kvar 2))) knil))))) knil))) (kseq (kaug 10 .add (kvar 2)) kend)))) (kseq (kfrz 12) (kseq (kexp (kmth .append (kvar 9) (kcons (kblt .tuple false (kcons (kvar 12) knil)) knil))) (kseq (kasg (.nm 11) (kblt .tuple false (kcons (klc false [13] (kbin .mod (kblt .sum false (kcons (klc false [17, 15] (kbin .mul (kvar 17) (kidx (kvar 15) (kvar 13))) (.t2 (.nm 17) (.nm 15)) (kzip (kvar 6) (kvar 12)) true kno) knil)) (kvar 0)) (.nm 13) (kr1 (kvar 1)) true kno) knil))) kend)))))) kend)) kend)) (kseq (kexp (kmth .append (kvar 8) (kcons (kvar 11) knil))) kend))) (kseq (kfrz 8) (kseq (kfrz 9) (kseq (kret (ktup (kcons (kidx (kvar 8) (kneg (kcon (.int 1)))) (kcons (kblt .tuple false (kcons (kvar 9) knil)) knil)))) kend))))) := rfl
theorem u16 (c : Gp.Ctx) : k16 c = kseq (kexp (kcall c 2 (kcons (kvar 0) knil))) (kseq (kexp (kcall c 1 (kcons (kvar 1) (kcons (kcon (.int 2)) (kcons (kcon (.int 4)) knil))))) (kseq (kexp (kcall c 1 (kcons (kvar 2) (kcons (kcon (.int 1)) (kcons (kcon (.int 2)) knil))))) (kseq (kexp (kcall c 9 (kcons (kvar 1) (kcons (kvar 3) knil)))) (kseq (kexp (kcall c 10 (kcons (kvar 0) (kcons (kvar 1) (kcons (kvar 4) knil))))) kend)))) := rfl
theorem u17 (c : Gp.Ctx) : k17 c = kseq (kexp (kcall c 16 (kcons (kvar 0) (kcons (kvar 1) (kcons (kvar 2) (kcons (kvar 3) (kcons (kvar 4) knil))))))) (kseq (kif (kor (knot (kcall c 3 (kcons (kvar 0) (kcons (kvar 5) knil)))) (kcmp .ne (kblt .len false (kcons (kvar 5) knil)) (kcall c 13 (kcons (kvar 1) (kcons (kvar 2) (kcons (kvar 3) knil)))))) (kseq (kexp kno) kend) kend) (kseq (kexp (kcall c 12 (kcons (kvar 1) (kcons (kvar 2) (kcons (kvar 3) knil))))) (kseq (kasg (.t2 (.nm 7) (.nm 8)) (kcall c 15 (kcons (kvar 0) (kcons (kvar 1) (kcons (kvar 2) (kcons (kvar 3) (kcons (kvar 4) (kcons (kvar 5) knil)))))))) (kseq (kasg (.nm 6) (kcall c 6 (kcons (kvar 0) (kcons (kblt .lstR2 false (kcons (kcon (.int 1)) (kcons (kbin .add (kvar 1) (kcon (.int 1))) knil))) knil)))) (kseq (kret (ktup (kcons (kbin .mod (kblt .sum false (kcons (klc false [9, 10] (kbin .mul (kvar 9) (kvar 10)) (.t2 (.nm 9) (.nm 10)) (kzip (kvar 6) (kvar 7)) true kno) knil)) (kvar 0)) (kcons (kvar 8) knil)))) kend))))) := rfl
theorem u18 (c : Gp.Ctx) : k18 c = kseq (kif (kcmp .gt (kidx (kvar 0) (kcon (.int 3))) (kcon (.int 0))) (kseq (kasg (.nm 3) (kbin .mod (kblt .int false (kcons (kidx (kvar 0) (kcon (.int 3))) knil)) (kvar 1))) (kseq (ksub (kvar 0) (kcon (.int 3)) (kbin .fdiv (kidx (kvar 0) (kcon (.int 3))) (kvar 1))) (kseq (kret (kvar 3)) kend))) kend) (kseq (ksub (kvar 0) (kcon (.int 1)) (kbin .add (kidx (kvar 0) (kcon (.int 1))) (kcon (.int 1)))) (kseq (kif (kcmp .gt (kidx (kvar 0) (kcon (.int 1))) (kblt .len false (kcons (kidx (kvar 0) (kcon (.int 0))) knil))) (kseq (ksub (kvar 0) (kcon (.int 2)) (kbin .mod (kblt .int false (kcons (kbin .add (kbin .mul (kidx (kvar 0) (kcon (.int 2))) (kcon (.int 48271))) (kcon (.int 11))) knil)) (kcon (.int 2147483647)))) (kseq (kret (kbin .mod (kblt .int false (kcons (kbin .fdiv (kidx (kvar 0) (kcon (.int 2))) (kcon (.int 7))) knil)) (kvar 1))) kend)) kend) (kseq (kasg (.nm 2) (kidx (kidx (kvar 0) (kcon (.int 0))) (kbin .sub (kidx (kvar 0) (kcon (.int 1))) (kcon (.int 1))))) (kseq (ksub (kvar 0) (kcon (.int 2)) (kbin .mod (kblt .int false (kcons (kbin .add (kbin .add (kbin .mul (kidx (kvar 0) (kcon (.int 2))) (kcon (.int 48271))) (kvar 2)) (kcon (.int 11))) knil)) (kcon (.int 2147483647)))) (kseq (kif (kcmp .ge (kvar 2) (kbin .pow (kcon (.int 10)) (kcon (.int 18)))) (kseq (ksub (kvar 0) (kcon (.int 3)) (kbin .fdiv (kvar 2) (kvar 1))) kend) kend) (kseq (kret (kbin .mod (kblt .int false (kcons (kvar 2) knil)) (kvar 1))) kend)))))) := rfl
theorem u19 (c : Gp.Ctx) : k19 c = kseq (kret (kidx (kvar 1) (kcall c 18 (kcons (kvar 0) (kcons (kblt .len false (kcons (kvar 1) knil)) knil))))) kend := rfl
theorem u20 (c : Gp.Ctx) : k20 c = kseq (kif (kisi (kvar 1) [.tuple, .list]) (kseq (kif (kor (knot (kisi (kvar 0) [.tuple, .list])) (kcmp .ne (kisi (kvar 0) [.list]) (kisi (kvar 1) [.list]))) (kseq (kret (kcon (.bl false))) kend) kend) (kseq (kif (kcmp .ne (kblt .len false (kcons (kvar 0) knil)) (kblt .len false (kcons (kvar 1) knil))) (kseq (kret (kcon (.bl false))) kend) kend) (kseq (kret (kcmp .eq (klc false [2] (kvar 2) (.nm 2) (kr1 (kblt .len false (kcons (kvar 1) knil))) false (knot (kcall c 20 (kcons (kidx (kvar 0) (kvar 2)) (kcons (kidx (kvar 1) (kvar 2)) knil))))) (klst false knil))) kend))) kend) (kseq (kif (kisi (kvar 1) [.dict]) (kseq (kif (kor (knot (kisi (kvar 0) [.dict])) (kcmp .ne (kblt .sorted false (kcons (kvar 0) knil)) (kblt .sorted false (kcons (kvar 1) knil)))) (kseq (kret (kcon (.bl false))) kend) kend) (kseq (kret (kcmp .eq (klc false [3] (kvar 3) (.nm 3) (kex (kvar 1)) false (knot (kcall c 20 (kcons (kidx (kvar 0) (kvar 3)) (kcons (kidx (kvar 1) (kvar 3)) knil))))) (klst false knil))) kend)) kend) (kseq (kif (kor (kcmp .isN (kvar 1) (kcon .non)) (kisi (kvar 1) [.str])) (kseq (kret (kand (kcmp .eq (kvar 0) (kvar 1)) (kcmp .eq (kisi (kvar 0) [.str]) (kisi (kvar 1) [.str])))) kend) kend) (kseq (kret (kand (kisi (kvar 0) [.int]) (kand (kcmp .eq (kisi (kvar 0) [.bool]) (kisi (kvar 1) [.bool])) (kcmp .eq (kvar 0) (kvar 1))))) kend))) := rfl
theorem u21 (c : Gp.Ctx) : k21 c = kseq (kasg (.nm 4) (klst true (kcons (ktup (kcons (kcon (.str [111, 119, 110])) (kcons (kcall c 18 (kcons (kvar 0) (kcons (kvar 1) knil))) knil))) knil))) (kseq (kfor (.nm 5) (kr1 (kcall c 18 (kcons (kvar 0) (kcons (kvar 2) knil)))) (kseq (kasg (.nm 6) (kcall c 18 (kcons (kvar 0) (kcons (kite (kvar 3) (kcon (.int 4)) (kcon (.int 3))) knil)))) (kseq (kpar [7, 8] (kcons (kcall c 18 (kcons (kvar 0) (kcons (kblt .len false (kcons (kvar 4) knil)) knil))) (kcons (kcall c 18 (kcons (kvar 0) (kcons (kblt .len false (kcons (kvar 4) knil)) knil))) knil))) (kseq (kexp (kmth .append (kvar 4) (kcons (kite (kcmp .eq (kvar 6) (kcon (.int 0))) (kcall c 19 (kcons (kvar 0) (kcons (klst false (kcons (ktup (kcons (kcon (.str [111, 119, 110])) (kcons (kcall c 18 (kcons (kvar 0) (kcons (kvar 1) knil))) knil))) (kcons (ktup (kcons (kcon (.str [110, 117, 109, 98, 101, 114])) (kcons (kcall c 18 (kcons (kvar 0) (kcons (kcon (.int 13)) knil))) knil))) knil))) knil))) (ktup (kcons (kite (kcmp .eq (kvar 6) (kcon (.int 3))) (kcon (.str [116, 105, 109, 101, 115])) (kcon (.str [115, 117, 109]))) (kcons (kvar 7) (kcons (kvar 8) knil))))) knil))) kend)))) (kseq (kfrz 4) (kseq (kret (kblt .tuple false (kcons (kvar 4) knil))) kend))) := rfl
theorem u22 (c : Gp.Ctx) : k22 c = kseq (kasg (.nm 3) (klst true knil)) (kseq (kfor (.nm 4) (kex (kvar 1)) (kseq (kif (kcmp .eq (kblt .len false (kcons (kvar 4) knil)) (kcon (.int 2))) (kseq (kexp (kmth .append (kvar 3) (kcons (kite (kcmp .eq (kidx (kvar 4) (kcon (.int 0))) (kcon (.str [111, 119, 110]))) (kidx (kvar 2) (kidx (kvar 4) (kcon (.int 1)))) (kbin .mod (kidx (kvar 4) (kcon (.int 1))) (kvar 0))) knil))) kend) (kseq (kpar [5, 6] (kcons (kidx (kvar 3) (kidx (kvar 4) (kcon (.int 1)))) (kcons (kidx (kvar 3) (kidx (kvar 4) (kcon (.int 2)))) knil))) (kseq (kexp (kmth .append (kvar 3) (kcons (kbin .mod (kite (kcmp .eq (kidx (kvar 4) (kcon (.int 0))) (kcon (.str [115, 117, 109]))) (kbin .add (kvar 5) (kvar 6)) (kbin .mul (kvar 5) (kvar 6))) (kvar 0)) knil))) kend))) kend)) (kseq (kfrz 3) (kseq (kret (kidx (kvar 3) (kneg (kcon (.int 1))))) kend))) := rfl
theorem u23 (c : Gp.Ctx) : k23 c = kseq (kasg (.t2 (.nm 4) (.nm 5)) (ktup (kcons (kcon (.int 0)) (kcons (kcon (.int 1)) knil)))) (kseq (kfor (.nm 3) (kex (kvar 1)) (kseq (kpar [4, 5] (kcons (kbin .mod (kbin .add (kvar 4) (kbin .mul (kvar 3) (kvar 5))) (kvar 0)) (kcons (kbin .mod (kbin .mul (kvar 5) (kvar 2)) (kvar 0)) knil))) kend)) (kseq (kret (kvar 4)) kend)) := rfl
theorem u24 (c : Gp.Ctx) : k24 c = kseq (kret (kblt .tuple false (kcons (klc false [4] (kcall c 23 (kcons (kvar 0) (kcons (kbin .add (ktup (kcons (kvar 2) knil)) (kblt .tuple false (kcons (kvar 3) knil))) (kcons (kbin .add (kvar 4) (kcon (.int 1))) knil)))) (.nm 4) (kr1 (kvar 1)) true kno) knil))) kend := rfl
theorem u25 (c : Gp.Ctx) : k25 c = kseq (kasg (.nm 2) (klst true knil)) (kseq (kfor (.nm 3) (kr2 (kcon (.int 1)) (kbin .add (kvar 1) (kcon (.int 1)))) (kseq (kasg (.t2 (.nm 5) (.nm 6)) (ktup (kcons (kcon (.int 1)) (kcons (kcon (.int 1)) knil)))) (kseq (kfor (.nm 4) (kr2 (kcon (.int 1)) (kbin .add (kvar 1) (kcon (.int 1)))) (kseq (kif (kcmp .ne (kvar 4) (kvar 3)) (kseq (kasg (.t2 (.nm 5) (.nm 6)) (ktup (kcons (kbin .mod (kbin .mul (kvar 5) (kvar 4)) (kvar 0)) (kcons (kbin .mod (kbin .mul (kvar 6) (kbin .sub (kvar 4) (kvar 3))) (kvar 0)) knil)))) kend) kend) kend)) (kseq (kexp (kmth .append (kvar 2) (kcons (kidx (klc false [7] (kvar 7) (.nm 7) (kr1 (kvar 0)) false (kcmp .eq (kbin .mod (kbin .mul (kvar 7) (kvar 6)) (kvar 0)) (kvar 5))) (kcon (.int 0))) knil))) kend)))) (kseq (kfrz 2) (kseq (kret (kvar 2)) kend))) := rfl
theorem u26 (c : Gp.Ctx) : k26 c = kseq (kpar [8, 9, 10] (kcons (klst true knil) (kcons (klst true knil) (kcons (kblt .list false (kcons (kvar 5) knil)) knil)))) (kseq (kasg (.nm 6) (kcall c 25 (kcons (kvar 0) (kcons (kvar 1) knil)))) (kseq (kfor (.nm 7) (kex (kvar 3)) (kseq (kif (kcmp .eq (kidx (kvar 7) (kcon (.int 0))) (kcon (.str [111, 119, 110]))) (kseq (kexp (kmth .append (kvar 8) (kcons (kcall c 24 (kcons (kvar 0) (kcons (kvar 1) (kcons (kidx (kvar 4) (kidx (kvar 7) (kcon (.int 1)))) (kcons (kslc true false (kvar 10) kno (kvar 2)) knil))))) knil))) (kseq (kexp (kmth .append (kvar 9) (kcons (ktup (kcons (ktup (kcons (kidx (kvar 7) (kcon (.int 1))) knil)) (kcons (ktup (kcons (kidx (kvar 8) (kneg (kcon (.int 1)))) knil)) knil))) knil))) (kseq (kasg (.nm 10) (kslc false true (kvar 10) (kvar 2) kno)) kend))) (kseq (kif (kcmp .eq (kidx (kvar 7) (kcon (.int 0))) (kcon (.str [110, 117, 109, 98, 101, 114]))) (kseq (kexp (kmth .append (kvar 8) (kcons (kbin .mul (ktup (kcons (kbin .mod (kidx (kvar 7) (kcon (.int 1))) (kvar 0)) knil)) (kvar 1)) knil))) kend) (kseq (kif (kcmp .eq (kidx (kvar 7) (kcon (.int 0))) (kcon (.str [115, 117, 109]))) (kseq (kexp (kmth .append (kvar 8) (kcons (kblt .tuple false (kcons (klc false [13, 14] (kbin .mod (kbin .add (kvar 13) (kvar 14)) (kvar 0)) (.t2 (.nm 13) (.nm 14)) (kzip (kidx (kvar 8) (kidx (kvar 7) (kcon (.int 1)))) (kidx (kvar 8) (kidx (kvar 7) (kcon (.int 2))))) true kno) knil)) knil))) kend) (kseq (kasg (.nm 11) (klst true knil)) (kseq (kfor (.nm 12) (kr1 (kvar 1)) (kseq (kexp (kmth .append (kvar 11) (kcons (kcall c 24 (kcons (kvar 0) (kcons (kvar 1) (kcons (kbin .mod (kbin .mul (kidx (kidx (kvar 8) (kidx (kvar 7) (kcon (.int 1)))) (kvar 12)) (kidx (kidx (kvar 8) (kidx (kvar 7) (kcon (.int 2)))) (kvar 12))) (kvar 0)) (kcons (kslc true false (kvar 10) kno (kvar 2)) knil))))) knil))) (kseq (kasg (.nm 10) (kslc false true (kvar 10) (kvar 2) kno)) kend))) (kseq (kfrz 11) (kseq (kexp (kmth .append (kvar 9) (kcons (ktup (kcons (kblt .tupR1 false (kcons (kvar 1) knil)) (kcons (kblt .tuple false (kcons (kvar 11) knil)) knil))) knil))) (kseq (kexp (kmth .append (kvar 8) (kcons (kblt .tuple false (kcons (klc false [12] (kbin .mod (kblt .sum false (kcons (klc false [15] (kbin .mul (kidx (kvar 6) (kvar 15)) (kidx (kidx (kvar 11) (kvar 15)) (kvar 12))) (.nm 15) (kr1 (kvar 1)) true kno) knil)) (kvar 0)) (.nm 12) (kr1 (kvar 1)) true kno) knil)) knil))) kend)))))) kend)) kend)) kend)) (kseq (kfrz 9) (kseq (kfrz 8) (kseq (kret (ktup (kcons (kidx (kvar 8) (kneg (kcon (.int 1)))) (kcons (kvar 9) knil)))) kend))))) := rfl
theorem u27 (c : Gp.Ctx) : k27 c = kseq (kret (kblt .sum false (kcons (klc false [3] (kite (kcmp .eq (kidx (kvar 3) (kcon (.int 0))) (kcon (.str [111, 119, 110]))) (kvar 1) (kite (kcmp .eq (kidx (kvar 3) (kcon (.int 0))) (kcon (.str [116, 105, 109, 101, 115]))) (kbin .mul (kvar 0) (kvar 1)) (kcon (.int 0)))) (.nm 3) (kex (kvar 2)) true kno) knil))) kend := rfl
theorem u28 (c : Gp.Ctx) : k28 c = kseq (kasg (.nm 1) (klst true (kcons (kvar 0) (kcons (kcon (.int 0)) (kcons (kcon (.int 7730)) (kcons (kcon (.int 0)) knil)))))) (kseq (kasg (.t2 (.nm 9) (.nm 10)) (ktup (kcons (kcall c 19 (kcons (kvar 1) (kcons (klst false (kcons (kcon (.int 5)) (kcons (kcon (.int 7)) (kcons (kcon (.int 11)) (kcons (kcon (.int 13)) knil))))) knil))) (kcons (kbin .add (kcon (.int 2)) (kcall c 18 (kcons (kvar 1) (kcons (kcon (.int 3)) knil)))) knil)))) (kseq (kasg (.nm 2) (kcmp .gt (kvar 10) (kcon (.int 2)))) (kseq (kasg (.nm 3) (kcall c 21 (kcons (kvar 1) (kcons (kvar 10) (kcons (kcon (.int 8)) (kcons (kvar 2) knil)))))) (kseq (kasg (.nm 4) (kblt .tuple false (kcons (klc false [14] (kcall c 18 (kcons (kvar 1) (kcons (kvar 9) knil))) (.nm 14) (kr1 (kvar 10)) true kno) knil))) (kseq (kasg (.nm 5) (kcall c 22 (kcons (kvar 9) (kcons (kvar 3) (kcons (kvar 4) knil))))) (kseq (kif (knot (kcall c 20 (kcons (kcall c 11 (kcons (kvar 9) (kcons (kvar 10) (kcons (kvar 3) (kcons (kvar 4) knil))))) (kcons (kvar 5) knil)))) (kseq (kret (kcon (.bl false))) kend) kend) (kseq (kasg (.nm 6) (kite (kor (kcmp .lt (kvar 10) (kcon (.int 4))) (kcmp .ne (klc false [16] (kvar 16) (.nm 16) (kex (kvar 3)) false (kcmp .eq (kidx (kvar 16) (kcon (.int 0))) (kcon (.str [116, 105, 109, 101, 115])))) (klst false knil))) (kcon (.int 1)) (kcon (.int 2)))) (kseq (kasg (.nm 7) (kcall c 27 (kcons (kvar 10) (kcons (kvar 6) (kcons (kvar 3) knil))))) (kseq (kif (knot (kcall c 20 (kcons (kcall c 14 (kcons (kvar 10) (kcons (kvar 6) (kcons (kvar 3) knil)))) (kcons (kvar 7) knil)))) (kseq (kret (kcon (.bl false))) kend) kend) (kseq (kfor (.nm 8) (kr1 (kcon (.int 3))) (kseq (kasg (.nm 11) (kblt .tuple false (kcons (klc false [15] (kcall c 18 (kcons (kvar 1) (kcons (kvar 9) knil))) (.nm 15) (kr1 (kvar 7)) true kno) knil))) (kseq (kasg (.t2 (.nm 12) (.nm 13)) (kcall c 26 (kcons (kvar 9) (kcons (kvar 10) (kcons (kvar 6) (kcons (kvar 3) (kcons (kvar 4) (kcons (kvar 11) knil)))))))) (kseq (kif (knot (kcall c 20 (kcons (kcall c 17 (kcons (kvar 9) (kcons (kvar 10) (kcons (kvar 6) (kcons (kvar 3) (kcons (kvar 4) (kcons (kvar 11) knil))))))) (kcons (ktup (kcons (kvar 5) (kcons (kblt .tuple false (kcons (klc false [19, 20] (kvar 20) (.t2 (.nm 19) (.nm 20)) (kex (kvar 13)) true kno) knil)) knil))) knil)))) (kseq (kret (kcon (.bl false))) kend) kend) (kseq (kif (kcmp .ne (kbin .mod (kblt .sum false (kcons (klc false [17, 18] (kbin .mul (kvar 17) (kvar 18)) (.t2 (.nm 17) (.nm 18)) (kzip (kcall c 25 (kcons (kvar 9) (kcons (kvar 10) knil))) (kvar 12)) true kno) knil)) (kvar 9)) (kvar 5)) (kseq (kret (kcon (.bl false))) kend) kend) kend))))) (kseq (kret (kcon (.bl true))) kend))))))))))) := rfl
end Ck30
/-! a small logic of the evaluator: what an expression gives, what a statement does -/
namespace Gp
def Vl (e : Ev) (ρ : Env) (S : Store) (x : PV) : Prop := e false ρ S = .ok (.pv x) S
def Tt (e : Ev) (ρ : Env) (S : Store) (b : Bool) : Prop := e true ρ S = .ok (.pv (.bl b)) S
def Vs (e : EvL) (ρ : Env) (S : Store) (xs : List LV) : Prop := e ρ S = .ok xs S
def St (s : Sv) (ρ : Env) (S : Store) (ρ' : Env) (S' : Store) : Prop := s ρ S = .ok (.nx ρ') S'
def Rt (s : Sv) (ρ : Env) (S : Store) (l : LV) (S' : Store) : Prop := s ρ S = .ok (.rt l) S'
section
variable {ρ ρ' ρ'' : Env} {S S' S'' : Store} {a b d : Ev} {x y z : PV} {es : EvL} {xs : List LV} {l : List PV} {i j k : Nat} {c : Ctx}
theorem v_var (h : ρ[i]? = some (some (.pv x))) : Vl (kvar i) ρ S x := by
  show getV ρ i S = _
  unfold getV; rw [h]
theorem tt_k {t : Bool} (h : a true ρ S = .ok (.pv (.bl t)) S) : Tt a ρ S t := h
theorem v_k (h : a false ρ S = .ok (.pv x) S) : Vl a ρ S x := h
theorem v_con : Vl (kcon x) ρ S x := rfl
theorem tt_var {t : Bool} (h : ρ[i]? = some (some (.pv (.bl t)))) : Tt (kvar i) ρ S t := by
  show tst true (getV ρ i S) = _
  unfold getV; rw [h]
  cases t <;> rfl
theorem v_bin {o : Bop} (ha : Vl a ρ S x) (hb : Vl b ρ S y) (h : binop o x y = some z) : Vl (kbin o a b) ρ S z := by
  show ((a false ρ S).bind fun x S => (b false ρ S).bind fun y S => rdB x S fun x => rdB y S fun y => opt (binop o x y) S) = _
  rw [ha]
  show ((b false ρ S).bind fun y S => rdB (.pv x) S fun x => rdB y S fun y => opt (binop o x y) S) = _
  rw [hb]
  show opt (binop o x y) S = _
  rw [h]; rfl
theorem v_idx (ha : Vl a ρ S x) (hb : Vl b ρ S y) (h : index x y = some z) : Vl (kidx a b) ρ S z := by
  show ((a false ρ S).bind fun x S => (b false ρ S).bind fun y S => idxL x y S) = _
  rw [ha]
  show ((b false ρ S).bind fun y S => idxL (.pv x) y S) = _
  rw [hb]
  show opt (index x y) S = _
  rw [h]; rfl
theorem v_idxr (hr : ρ[j]? = some (some (.ref k))) (hk : S[k]? = some (.lst l)) (hb : Vl b ρ S y) (h : index (.lst l) y = some z) : Vl (kidx (kvar j) b) ρ S z := by
  show ((getV ρ j S).bind fun x S => (b false ρ S).bind fun y S => idxL x y S) = _
  have g : getV ρ j S = .ok (.ref k) S := by unfold getV; rw [hr]
  rw [g]
  show ((b false ρ S).bind fun y S => idxL (.ref k) y S) = _
  rw [hb]
  show (match rd S (.ref k) with | some p => opt (index p y) S | none => .bad) = _
  have e : rd S (.ref k) = some (.lst l) := by
    show (match S[k]? with | some (.lst xs) => some (PV.lst xs) | some (.dict ks vs) => some (.dict ks vs) | _ => none) = _
    rw [hk]
  rw [e]
  show opt (index (.lst l) y) S = _
  rw [h]; rfl
theorem vs_nil : Vs knil ρ S [] := rfl
theorem vs_cons {u : LV} (ha : a false ρ S = .ok u S) (hr : Vs es ρ S xs) : Vs (kcons a es) ρ S (u :: xs) := by
  show ((a false ρ S).bind fun x S => (es ρ S).bind fun xs S => .ok (x :: xs) S) = _
  rw [ha]
  show ((es ρ S).bind fun xs S => .ok (u :: xs) S) = _
  rw [hr]; rfl
theorem v_ref (h : ρ[i]? = some (some (.ref k))) : kvar i false ρ S = .ok (.ref k) S := by
  show getV ρ i S = _
  unfold getV; rw [h]
theorem v_call {f : Nat} {u : LV} (hs : Vs es ρ S xs) (h : c.call f xs S = .ok u S') : kcall c f es false ρ S = .ok u S' := by
  show ((es ρ S).bind fun ls S => c.call f ls S) = _
  rw [hs]; exact h
theorem tt_call {f : Nat} {t : Bool} (hs : Vs es ρ S xs) (h : c.call f xs S = .ok (.pv (.bl t)) S) : Tt (kcall c f es) ρ S t := by
  show tst true ((es ρ S).bind fun ls S => c.call f ls S) = _
  rw [hs]
  show tst true (c.call f xs S) = _
  rw [h]; cases t <;> rfl
theorem v_blt1 {f : Bid} (ha : Vl a ρ S x) (h : builtin f [x] = some z) : Vl (kblt f false (kcons a knil)) ρ S z := by
  show ((kcons a knil ρ S).bind fun ls S => match rds S ls with | some ps => mkV false (builtin f ps) S | none => .bad) = _
  rw [vs_cons ha vs_nil]
  show mkV false (builtin f [x]) S = _
  rw [h]; rfl
theorem v_blt2 {f : Bid} (ha : Vl a ρ S x) (hb : Vl b ρ S y) (h : builtin f [x, y] = some z) : Vl (kblt f false (kcons a (kcons b knil))) ρ S z := by
  show ((kcons a (kcons b knil) ρ S).bind fun ls S => match rds S ls with | some ps => mkV false (builtin f ps) S | none => .bad) = _
  rw [vs_cons ha (vs_cons hb vs_nil)]
  show mkV false (builtin f [x, y]) S = _
  rw [h]; rfl
theorem rd_ref (hk : S[k]? = some (.lst l)) : rd S (.ref k) = some (.lst l) := by
  show (match S[k]? with | some (.lst xs) => some (PV.lst xs) | some (.dict ks vs) => some (.dict ks vs) | _ => none) = _
  rw [hk]
theorem v_blr {f : Bid} (hr : ρ[j]? = some (some (.ref k))) (hk : S[k]? = some (.lst l)) (h : builtin f [.lst l] = some z) : Vl (kblt f false (kcons (kvar j) knil)) ρ S z := by
  show ((kcons (kvar j) knil ρ S).bind fun ls S => match rds S ls with | some ps => mkV false (builtin f ps) S | none => .bad) = _
  rw [vs_cons (v_ref hr) vs_nil]
  show (match (match rd S (.ref k), some ([] : List PV) with | some p, some q => some (p :: q) | _, _ => none) with | some ps => mkV false (builtin f ps) S | none => .bad) = _
  rw [rd_ref hk]
  show mkV false (builtin f [.lst l]) S = _
  rw [h]; rfl
theorem v_tup1 (ha : Vl a ρ S x) : Vl (ktup (kcons a knil)) ρ S (.tup [x]) := by
  show ((kcons a knil ρ S).bind fun ls S => match pvs ls with | some ps => Res.ok (LV.pv (.tup ps)) S | none => .bad) = _
  rw [vs_cons ha vs_nil]; rfl
theorem v_tup2 (ha : Vl a ρ S x) (hb : Vl b ρ S y) : Vl (ktup (kcons a (kcons b knil))) ρ S (.tup [x, y]) := by
  show ((kcons a (kcons b knil) ρ S).bind fun ls S => match pvs ls with | some ps => Res.ok (LV.pv (.tup ps)) S | none => .bad) = _
  rw [vs_cons ha (vs_cons hb vs_nil)]; rfl
theorem v_tup3 (ha : Vl a ρ S x) (hb : Vl b ρ S y) (hd : Vl d ρ S z) : Vl (ktup (kcons a (kcons b (kcons d knil)))) ρ S (.tup [x, y, z]) := by
  show ((kcons a (kcons b (kcons d knil)) ρ S).bind fun ls S => match pvs ls with | some ps => Res.ok (LV.pv (.tup ps)) S | none => .bad) = _
  rw [vs_cons ha (vs_cons hb (vs_cons hd vs_nil))]; rfl
theorem c_cmp {o : Cop} {m : Bool} {t : Bool} {p q : LV} (ha : a false ρ S = .ok p S) (hb : b false ρ S = .ok q S) (h : cmpL o p q S = .ok (.pv (.bl t)) S) : kcmp o a b m ρ S = .ok (.pv (.bl t)) S := by
  show ((a false ρ S).bind fun x S => (b false ρ S).bind fun y S => cmpL o x y S) = _
  rw [ha]
  show ((b false ρ S).bind fun y S => cmpL o p y S) = _
  rw [hb]; exact h
theorem tt_cmp {o : Cop} {t : Bool} (ha : Vl a ρ S x) (hb : Vl b ρ S y) (h : cmpL o (.pv x) (.pv y) S = .ok (.pv (.bl t)) S) : Tt (kcmp o a b) ρ S t := c_cmp ha hb h
theorem v_cmp {o : Cop} {t : Bool} (ha : Vl a ρ S x) (hb : Vl b ρ S y) (h : cmpL o (.pv x) (.pv y) S = .ok (.pv (.bl t)) S) : Vl (kcmp o a b) ρ S (.bl t) := c_cmp ha hb h
theorem tt_not {t : Bool} (h : Tt a ρ S t) : Tt (knot a) ρ S (!t) := by
  show ((isT (a true ρ S)).bind fun t S => Res.ok (LV.pv (.bl (!t))) S) = _
  rw [h]; rfl
theorem tt_notT (h : Tt a ρ S true) : Tt (knot a) ρ S false := tt_not h
theorem tt_notF (h : Tt a ρ S false) : Tt (knot a) ρ S true := tt_not h
theorem tt_orF (h : Tt a ρ S false) (h2 : Tt b ρ S false) : Tt (kor a b) ρ S false := by
  show orR true (a true ρ S) (fun S => b true ρ S) = _
  rw [h]; exact h2
theorem tt_or {t u : Bool} (h : Tt a ρ S t) (h2 : t = false → Tt b ρ S u) : Tt (kor a b) ρ S (t || u) := by
  show orR true (a true ρ S) (fun S => b true ρ S) = _
  rw [h]
  cases t with
  | true => rfl
  | false => exact h2 rfl
theorem tt_and {t u : Bool} (h : Tt a ρ S t) (h2 : t = true → Tt b ρ S u) : Tt (kand a b) ρ S (t && u) := by
  show andR true (a true ρ S) (fun S => b true ρ S) = _
  rw [h]
  cases t with
  | false => rfl
  | true => exact h2 rfl
theorem v_ite {t : Bool} (h : Tt d ρ S t) (h1 : t = true → Vl a ρ S x) (h2 : t = false → Vl b ρ S x) : Vl (kite d a b) ρ S x := by
  show iteR (isT (d true ρ S)) (fun S => a false ρ S) (fun S => b false ρ S) = _
  rw [h]
  cases t with
  | true => exact h1 rfl
  | false => exact h2 rfl
theorem st_asg (h : Vl a ρ S x) : St (kasg (.nm j) a) ρ S (ρ.set j (some (.pv x))) S := by
  show ((a false ρ S).bind fun l S => lift ((bindT (.nm j) l ρ).map Flow.nx) S) = _
  rw [h]; rfl
theorem st_asgL {u : LV} (h : a false ρ S = .ok u S') : St (kasg (.nm j) a) ρ S (ρ.set j (some u)) S' := by
  show ((a false ρ S).bind fun l S => lift ((bindT (.nm j) l ρ).map Flow.nx) S) = _
  rw [h]; rfl
theorem st_par {is : List Nat} (hs : Vs es ρ S xs) (h : parT is xs ρ = some ρ') : St (kpar is es) ρ S ρ' S := by
  show ((es ρ S).bind fun ls S => lift ((parT is ls ρ).map Flow.nx) S) = _
  rw [hs]
  show lift ((parT is xs ρ).map Flow.nx) S = _
  rw [h]; rfl
theorem st_parL {is : List Nat} (hs : es ρ S = .ok xs S') (h : parT is xs ρ = some ρ') : St (kpar is es) ρ S ρ' S' := by
  show ((es ρ S).bind fun ls S => lift ((parT is ls ρ).map Flow.nx) S) = _
  rw [hs]
  show lift ((parT is xs ρ).map Flow.nx) S' = _
  rw [h]; rfl
theorem bT1 {u : PV} {us : List PV} (h : us.length ≤ 999999) : binop .add (.tup [u]) (.tup us) = some (.tup (u :: us)) := by
  show (if decide ([u].length + us.length ≤ big) = true then _ else _) = _
  rw [if_pos (by simp [big]; omega)]; rfl
theorem st_asgT {t : Tg} (h : Vl a ρ S x) (hb : bindT t (.pv x) ρ = some ρ') : St (kasg t a) ρ S ρ' S := by
  show ((a false ρ S).bind fun l S => lift ((bindT t l ρ).map Flow.nx) S) = _
  rw [h]
  show lift ((bindT t (.pv x) ρ).map Flow.nx) S = _
  rw [hb]; rfl
theorem st_exp {u : LV} (h : a false ρ S = .ok u S') : St (kexp a) ρ S ρ S' := by
  show ((a false ρ S).bind fun _ S => .ok (Flow.nx ρ) S) = _
  rw [h]; rfl
theorem st_app (hr : ρ[j]? = some (some (.ref k))) (hk : S[k]? = some (.lst l)) (ha : Vl a ρ S x) (hl : l.length < 1000000) : St (kexp (kmth .append (kvar j) (kcons a knil))) ρ S ρ (S.set k (.lst (l ++ [x]))) := by
  refine st_exp (u := .pv .non) ?_
  show ((getV ρ j S).bind fun x S => if mtyOk .append x S then (kcons a knil ρ S).bind fun ls S => methL .append x ls S else .bad) = _
  have g : getV ρ j S = .ok (.ref k) S := by unfold getV; rw [hr]
  rw [g]
  show (if mtyOk .append (.ref k) S then (kcons a knil ρ S).bind fun ls S => methL .append (.ref k) ls S else .bad) = _
  have e : mtyOk .append (.ref k) S = true := by
    unfold mtyOk
    rw [rd_ref hk]
  rw [if_pos e, vs_cons ha vs_nil]
  show (match S[k]? with | some (.lst l) => if l.length < big then Res.ok (LV.pv .non) (S.set k (.lst (l ++ [x]))) else .bad | _ => .bad) = _
  rw [hk]
  show (if l.length < big then _ else _) = _
  rw [if_pos (show l.length < big from hl)]
theorem st_ifT {s t : Sv} (h : Tt a ρ S true) (hs : St s ρ S ρ' S') : St (kif a s t) ρ S ρ' S' := by
  show iteR (isT (a true ρ S)) (fun S => s ρ S) (fun S => t ρ S) = _
  rw [h]; exact hs
theorem st_ifF {s t : Sv} (h : Tt a ρ S false) (hs : St t ρ S ρ' S') : St (kif a s t) ρ S ρ' S' := by
  show iteR (isT (a true ρ S)) (fun S => s ρ S) (fun S => t ρ S) = _
  rw [h]; exact hs
theorem rt_ifT {s t : Sv} {u : LV} (h : Tt a ρ S true) (hs : Rt s ρ S u S') : Rt (kif a s t) ρ S u S' := by
  show iteR (isT (a true ρ S)) (fun S => s ρ S) (fun S => t ρ S) = _
  rw [h]; exact hs
theorem rt_ifF {s t : Sv} {u : LV} (h : Tt a ρ S false) (hs : Rt t ρ S u S') : Rt (kif a s t) ρ S u S' := by
  show iteR (isT (a true ρ S)) (fun S => s ρ S) (fun S => t ρ S) = _
  rw [h]; exact hs
theorem st_new : St (kasg (.nm j) (klst true knil)) ρ S (ρ.set j (some (.ref S.length))) (S ++ [.lst []]) := rfl
theorem st_end : St kend ρ S ρ S := rfl
theorem st_seq {s t : Sv} (h : St s ρ S ρ' S') (h2 : St t ρ' S' ρ'' S'') : St (kseq s t) ρ S ρ'' S'' := (kseq_nx h).trans h2
theorem rt_seq {s t : Sv} {u : LV} (h : St s ρ S ρ' S') (h2 : Rt t ρ' S' u S'') : Rt (kseq s t) ρ S u S'' := (kseq_nx h).trans h2
theorem rt_now {s t : Sv} {u : LV} (h : Rt s ρ S u S') : Rt (kseq s t) ρ S u S' := kseq_rt h
theorem rt_ret {u : LV} (h : a false ρ S = .ok u S') : Rt (kret a) ρ S u S' := by
  show ((a false ρ S).bind fun l S => .ok (Flow.rt l) S) = _
  rw [h]; rfl
/-- a call of ours, by its text -/
theorem run_rt {KP : List KD} {wf n f : Nat} {e : KD} {ls : List LV} {T : Store} {s : Sv} (h : KP[f]? = some e) (hl : ls.length = e.ar) (hu : e.body ⟨runK KP wf n, wf⟩ = s) (hr : Rt s (enterK e.ar e.sl ls) S (.pv x) (S ++ T)) : runK KP wf (n + 1) f ls S = .ok (.pv x) S := by
  rw [runK_s h hl, hu, hr]
  show Res.ok (LV.pv x) ((S ++ T).take S.length) = _
  rw [List.take_left]
theorem run_rt0 {KP : List KD} {wf n f : Nat} {e : KD} {ls : List LV} {s : Sv} (h : KP[f]? = some e) (hl : ls.length = e.ar) (hu : e.body ⟨runK KP wf n, wf⟩ = s) (hr : Rt s (enterK e.ar e.sl ls) S (.pv x) S) : runK KP wf (n + 1) f ls S = .ok (.pv x) S := by
  refine run_rt (T := []) h hl hu ?_
  rw [List.append_nil]; exact hr
theorem run_nx0 {KP : List KD} {wf n f : Nat} {e : KD} {ls : List LV} {s : Sv} (h : KP[f]? = some e) (hl : ls.length = e.ar) (hu : e.body ⟨runK KP wf n, wf⟩ = s) (hr : St s (enterK e.ar e.sl ls) S ρ' S) : runK KP wf (n + 1) f ls S = .ok (.pv .non) S := by
  rw [runK_s h hl, hu, hr]
  show Res.ok (LV.pv .non) (S.take S.length) = _
  rw [List.take_length]
theorem at_last {u : SO} : (S ++ [u])[S.length]? = some u := by simp
theorem set_last {u v : SO} : (S ++ [u]).set S.length v = S ++ [v] := by simp
theorem st_frz (hr : ρ[i]? = some (some (.ref k))) (hk : S[k]? = some (.lst l)) : St (kfrz i) ρ S (ρ.set i (some (.pv (.lst l)))) (S.set k .dead) := by
  show (match ρ[i]? with
    | some (some (.ref k)) => match S[k]? with
      | some (.lst xs) => Res.ok (Flow.nx (ρ.set i (some (.pv (.lst xs))))) (S.set k .dead)
      | some (.dict ks vs) => .ok (.nx (ρ.set i (some (.pv (.dict ks vs))))) (S.set k .dead)
      | _ => .bad
    | _ => .bad) = _
  rw [hr]
  show (match S[k]? with
      | some (.lst xs) => Res.ok (Flow.nx (ρ.set i (some (.pv (.lst xs))))) (S.set k .dead)
      | some (.dict ks vs) => .ok (.nx (ρ.set i (some (.pv (.dict ks vs))))) (S.set k .dead)
      | _ => .bad) = _
  rw [hk]
theorem v_and (ha : Vl a ρ S (.bl true)) (hb : Vl b ρ S x) : Vl (kand a b) ρ S x := by
  show andR false (a false ρ S) (fun S => b false ρ S) = _
  rw [ha]; exact hb
theorem c_chain {m : Bool} {u v w : Int} (ha : Vl a ρ S (.int u)) (hb : Vl b ρ S (.int v)) (hd : Vl d ρ S (.int w)) (h1 : u ≤ v) (h2 : v ≤ w) : kchain .le .le a b d m ρ S = .ok (.pv (.bl true)) S := by
  show ((a false ρ S).bind fun x S => (b false ρ S).bind fun y S => iteR (isT (cmpL .le x y S)) (fun S => (d false ρ S).bind fun z S => cmpL .le y z S) (fun S => .ok (.pv (.bl false)) S)) = _
  rw [ha]
  show ((b false ρ S).bind fun y S => iteR (isT (cmpL .le (LI u) y S)) (fun S => (d false ρ S).bind fun z S => cmpL .le y z S) (fun S => .ok (.pv (.bl false)) S)) = _
  rw [hb]
  show iteR (isT (Res.ok (LV.pv (.bl (decide (u ≤ v)))) S)) (fun S => (d false ρ S).bind fun z S => cmpL .le (LI v) z S) (fun S => .ok (.pv (.bl false)) S) = _
  rw [decide_eq_true h1]
  show ((d false ρ S).bind fun z S => cmpL .le (LI v) z S) = _
  rw [hd]
  show Res.ok (LV.pv (.bl (decide (v ≤ w)))) S = _
  rw [decide_eq_true h2]
theorem v_slc2 {u v : Int} (ha : Vl a ρ S x) (hb : Vl b ρ S (.int u)) (hd : Vl d ρ S (.int v)) (h : slice x (some u) (some v) = some z) : Vl (kslc false false a b d) ρ S z := by
  show ((a false ρ S).bind fun x S => (bndO false (b false ρ S) S).bind fun i S => (bndO false (d false ρ S) S).bind fun j S => rdB x S fun p => opt (slice p i j) S) = _
  rw [ha]
  show ((bndO false (b false ρ S) S).bind fun i S => (bndO false (d false ρ S) S).bind fun j S => rdB (.pv x) S fun p => opt (slice p i j) S) = _
  rw [hb]
  show ((bndO false (d false ρ S) S).bind fun j S => rdB (.pv x) S fun p => opt (slice p (some u) j) S) = _
  rw [hd]
  show opt (slice x (some u) (some v)) S = _
  rw [h]; rfl
theorem v_slcT {v : Int} (ha : Vl a ρ S x) (hd : Vl d ρ S (.int v)) (h : slice x none (some v) = some z) : Vl (kslc true false a b d) ρ S z := by
  show ((a false ρ S).bind fun x S => (bndO true (b false ρ S) S).bind fun i S => (bndO false (d false ρ S) S).bind fun j S => rdB x S fun p => opt (slice p i j) S) = _
  rw [ha]
  show ((bndO false (d false ρ S) S).bind fun j S => rdB (.pv x) S fun p => opt (slice p none j) S) = _
  rw [hd]
  show opt (slice x none (some v)) S = _
  rw [h]; rfl
theorem v_slcF {u : Int} (ha : Vl a ρ S x) (hb : Vl b ρ S (.int u)) (h : slice x (some u) none = some z) : Vl (kslc false true a b d) ρ S z := by
  show ((a false ρ S).bind fun x S => (bndO false (b false ρ S) S).bind fun i S => (bndO true (d false ρ S) S).bind fun j S => rdB x S fun p => opt (slice p i j) S) = _
  rw [ha]
  show ((bndO false (b false ρ S) S).bind fun i S => (bndO true (d false ρ S) S).bind fun j S => rdB (.pv x) S fun p => opt (slice p i j) S) = _
  rw [hb]
  show opt (slice x (some u) none) S = _
  rw [h]; rfl
theorem st_aug {u v : Int} (hr : ρ[i]? = some (some (LI u))) (hb : Vl b ρ S (.int v)) : St (kaug i .add b) ρ S (ρ.set i (some (LI (u + v)))) S := by
  show ((getV ρ i S).bind fun x S => (b false ρ S).bind fun y S => rdB x S fun x => rdB y S fun y => match binop .add x y, x with
    | some r, .int _ => Res.ok (Flow.nx (ρ.set i (some (.pv r)))) S
    | _, _ => .bad) = _
  have g : getV ρ i S = .ok (LI u) S := by unfold getV; rw [hr]
  rw [g]
  show ((b false ρ S).bind fun y S => rdB (LI u) S fun x => rdB y S fun y => match binop .add x y, x with
    | some r, .int _ => Res.ok (Flow.nx (ρ.set i (some (.pv r)))) S
    | _, _ => .bad) = _
  rw [hb]; rfl
theorem st_seq_assoc {s t u : Sv} (h : St (kseq s (kseq t u)) ρ S ρ' S') : St (kseq s (kseq t u)) ρ S ρ' S' := h
/-- a display of two texts, looked up at once -/
theorem v_getd {e : Ev} {tj tk tt : List Nat} {u : PV} (ne : (tj != tk) = true) (ha : Vl a ρ (S ++ [.dict [] []]) x) (hb : Vl b ρ (S ++ [.dict [] []]) y) (he : ∀ T, Vl e ρ (S ++ T) (.str tt)) (hd : ∀ T, Vl d ρ (S ++ T) z) (h : (find [.str tj, .str tk] [x, y] (.str tt)).getD z = u) :
    kgetK (kdsp2 tj tk a b) e d false ρ S = .ok (.pv u) (S ++ [.dict [.str tj, .str tk] [x, y]]) := by
  have q : kdsp2 tj tk a b false ρ S = .ok (.ref S.length) (S ++ [.dict [.str tj, .str tk] [x, y]]) := by
    show ((a false ρ (S ++ [.dict [] []])).bind fun x S' => (b false ρ S').bind fun y S' => dspL S.length tj tk x y S') = _
    rw [ha]
    show ((b false ρ (S ++ [.dict [] []])).bind fun y S' => dspL S.length tj tk (.pv x) y S') = _
    rw [hb]
    show dspL S.length tj tk (.pv x) (.pv y) (S ++ [.dict [] []]) = _
    unfold dspL
    rw [at_last]
    show (if (tj != tk) = true then Res.ok (LV.ref S.length) ((S ++ [SO.dict [] []]).set S.length (.dict [.str tj, .str tk] [x, y])) else .bad) = _
    rw [set_last]
    rw [if_pos ne]
  show ((kdsp2 tj tk a b false ρ S).bind fun x S => if (dKof x S).isSome then (e false ρ S).bind fun y S => (d false ρ S).bind fun z S => getKL x y z S else .bad) = _
  rw [q]
  have r : dKof (.ref S.length) (S ++ [.dict [.str tj, .str tk] [x, y]]) = some ([.str tj, .str tk], [x, y]) := by
    unfold dKof
    have : rd (S ++ [SO.dict [.str tj, .str tk] [x, y]]) (.ref S.length) = some (.dict [.str tj, .str tk] [x, y]) := by
      show (match (S ++ [SO.dict [.str tj, .str tk] [x, y]])[S.length]? with | some (.lst xs) => some (PV.lst xs) | some (.dict ks vs) => some (.dict ks vs) | _ => none) = _
      rw [at_last]
    rw [this]
  show (if (dKof (.ref S.length) (S ++ [.dict [.str tj, .str tk] [x, y]])).isSome then (e false ρ (S ++ [.dict [.str tj, .str tk] [x, y]])).bind fun v S' => (d false ρ S').bind fun z S' => getKL (.ref S.length) v z S' else .bad) = _
  rw [r]
  show ((e false ρ (S ++ [.dict [.str tj, .str tk] [x, y]])).bind fun v S' => (d false ρ S').bind fun z S' => getKL (.ref S.length) v z S') = _
  rw [he]
  show ((d false ρ (S ++ [.dict [.str tj, .str tk] [x, y]])).bind fun z S' => getKL (.ref S.length) (.pv (.str tt)) z S') = _
  rw [hd]
  show getKL (.ref S.length) (.pv (.str tt)) (.pv z) (S ++ [.dict [.str tj, .str tk] [x, y]]) = _
  unfold getKL
  rw [r]
  show Res.ok (LV.pv ((find [.str tj, .str tk] [x, y] (.str tt)).getD z)) _ = _
  rw [h]
/-- a comprehension whose turns leave things behind -/
theorem compL_grow {α : Type} {f : LV → Store → Res (Option LV)} {g : α → LV} {h : α → PV} {dd : α → SO} : ∀ {as : List α} {T : Store}, (∀ u ∈ as, ∀ T, f (g u) (S ++ T) = .ok (some (.pv (h u))) (S ++ T ++ [dd u])) → compL f (as.map g) (S ++ T) = .ok ((as.map h).map .pv) (S ++ T ++ as.map dd)
  | [], T, _ => by simp [compL]
  | u :: as, T, H => by
    have e1 := H u List.mem_cons_self T
    have e2 := compL_grow (f := f) (g := g) (h := h) (dd := dd) (as := as) (T := T ++ [dd u]) fun y hy => H y (List.mem_cons_of_mem _ hy)
    show (f (g u) (S ++ T)).bind (fun o S => (compL f (as.map g) S).bind fun ys S => match o with
      | some y => .ok (y :: ys) S
      | none => .ok ys S) = _
    rw [e1]
    show (compL f (as.map g) (S ++ T ++ [dd u])).bind _ = _
    rw [List.append_assoc, e2]
    show Res.ok _ _ = _
    simp
theorem v_lcG {α : Type} {ws : List Nat} {t : Tg} {it : EvL} {g : α → LV} {h : α → PV} {dd : α → SO} {as : List α} (hit : it ρ S = .ok (as.map g) S)
    (hf : ∀ u ∈ as, ∀ T, ∃ ρ1, bindT t (g u) (wipe ρ ws) = some ρ1 ∧ a false ρ1 (S ++ T) = .ok (.pv (h u)) (S ++ T ++ [dd u])) (hl : as.length ≤ 1000000) : klc false ws a t it true b false ρ S = .ok (.pv (.lst (as.map h))) (S ++ as.map dd) := by
  have e1 := compL_grow (f := fun l S => turn (bindT t l (wipe ρ ws)) fun ρ => iteR (tstO true (b true ρ S) S) (fun S => (a false ρ S).bind fun v S => .ok (some v) S) (fun S => .ok none S)) (g := g) (h := h) (dd := dd) (S := S) (as := as) (T := []) fun u hu T => by
    obtain ⟨ρ1, h1, h2⟩ := hf u hu T
    show turn (bindT t (g u) (wipe ρ ws)) _ = _
    rw [h1]
    show ((a false ρ1 (S ++ T)).bind fun v S => Res.ok (some v) S) = _
    rw [h2]; rfl
  show ((it ρ S).bind fun ls S => (noX (compL _ ls S)).bind fun ys S => mkC false ys S) = _
  rw [hit]
  show (noX (compL _ (as.map g) S)).bind (fun ys S => mkC false ys S) = _
  rw [List.append_nil] at e1
  rw [e1]
  exact mkC_pv _ _ (by rw [List.length_map]; exact hl)
theorem v_bltG {f : Bid} (ha : a false ρ S = .ok (.pv x) S') (h : builtin f [x] = some z) : kblt f false (kcons a knil) false ρ S = .ok (.pv z) S' := by
  show (((a false ρ S).bind fun x S => (knil ρ S).bind fun xs S => .ok (x :: xs) S).bind fun ls S => match rds S ls with | some ps => mkV false (builtin f ps) S | none => .bad) = _
  rw [ha]
  show mkV false (builtin f [x]) S' = _
  rw [h]; rfl
theorem ixLast {xs : List Int} (h : 0 < xs.length) : index (.lst (xs.map .int)) (.int (-1)) = some (.int (xs.getD (xs.length - 1) 0)) := by
  show ((at_ (xs.map PV.int).length (-1)).bind fun k => (xs.map PV.int)[k]?) = _
  have e : at_ (xs.map PV.int).length (-1) = some (xs.length - 1) := by
    unfold at_
    rw [List.length_map, if_neg (by omega), if_pos (by omega)]
    congr 1; omega
  rw [e]
  show (xs.map PV.int)[xs.length - 1]? = _
  have h' : xs.length - 1 < xs.length := by omega
  rw [List.getElem?_map, List.getElem?_eq_getElem h', List.getD_eq_getElem?_getD, List.getElem?_eq_getElem h']; rfl
theorem ixLastG {xs : List PV} (h : 0 < xs.length) : index (.lst xs) (.int (-1)) = some (xs.getD (xs.length - 1) .non) := by
  show ((at_ xs.length (-1)).bind fun k => xs[k]?) = _
  have e : at_ xs.length (-1) = some (xs.length - 1) := by
    unfold at_
    rw [if_neg (by omega), if_pos (by omega)]
    congr 1; omega
  rw [e]
  show xs[xs.length - 1]? = _
  have h' : xs.length - 1 < xs.length := by omega
  rw [List.getElem?_eq_getElem h', List.getD_eq_getElem?_getD, List.getElem?_eq_getElem h']; rfl
theorem intsOf_map : ∀ xs : List Int, intsOf (xs.map .int) = some xs
  | [] => rfl
  | x :: xs => by
    show (intsOf (xs.map .int)).map (x :: ·) = _
    rw [intsOf_map xs]; rfl
theorem enum_map {α : Type} (f : α → PV) : ∀ (xs : List α) (n : Nat), enumP n (xs.map f) = (xs.zipIdx n).map fun q => .tup [.int q.2, f q.1]
  | [], _ => rfl
  | x :: xs, n => by
    show PV.tup [.int n, f x] :: enumP (n + 1) (xs.map f) = _
    rw [enum_map f xs (n + 1)]; rfl
theorem bmod {p : Int} (hp : 0 < p) (i : Int) : binop .mod (.int i) (.int p) = some (.int (i % p)) := by
  show (if decide (0 < p) = true then _ else _) = _
  rw [if_pos (by simpa using hp)]
theorem bmul {i j : Int} (h0 : 0 ≤ j) (h1 : j < 1000) : binop .mul (.int i) (.int j) = some (.int (i * j)) := by
  show (if mulOk i j = true then _ else _) = _
  rw [if_pos (mulR h0 h1 i)]
theorem cmp_eqI (i j : Int) : cmpL .eq (.pv (.int i)) (.pv (.int j)) S = .ok (.pv (.bl (decide (i = j)))) S := rfl
theorem cmp_neI (i j : Int) : cmpL .ne (.pv (.int i)) (.pv (.int j)) S = .ok (.pv (.bl (!decide (i = j)))) S := rfl
theorem ixI {l : List Int} {i : Int} (h0 : 0 ≤ i) (h1 : i < l.length) : index (.lst (l.map .int)) (.int i) = some (.int (l.getD i.toNat 0)) := by
  show ((at_ (l.map PV.int).length i).bind fun k => (l.map PV.int)[k]?) = _
  rw [List.length_map, at_of h0 h1]
  show (l.map PV.int)[i.toNat]? = _
  have h : i.toNat < l.length := by omega
  rw [List.getElem?_map, List.getElem?_eq_getElem h, List.getD_eq_getElem?_getD, List.getElem?_eq_getElem h]; rfl
theorem ixIt {l : List Int} {i : Int} (h0 : 0 ≤ i) (h1 : i < l.length) : index (.tup (l.map .int)) (.int i) = some (.int (l.getD i.toNat 0)) := ixI h0 h1
theorem ixg {l : List PV} {i : Int} (h0 : 0 ≤ i) (h1 : i < l.length) : index (.lst l) (.int i) = some (l.getD i.toNat .non) := by
  show ((at_ l.length i).bind fun k => l[k]?) = _
  rw [at_of h0 h1]
  show l[i.toNat]? = _
  have h : i.toNat < l.length := by omega
  rw [List.getD_eq_getElem?_getD, List.getElem?_eq_getElem h]; rfl
/-- a loop over values with what stays -/
theorem st_for {α β : Type} {it : EvL} {t : Tg} {bd : Sv} {g : α → LV} {as : List α} {Pr : β → Env → Prop} {T : β → Store} {step : β → α → β} {q : β} (hit : it ρ S = .ok (as.map g) (T q)) (h0 : Pr q ρ)
    (hb : ∀ u ∈ as, ∀ q ρ, Pr q ρ → ∃ ρ1 ρ', bindT t (g u) ρ = some ρ1 ∧ St bd ρ1 (T q) ρ' (T (step q u)) ∧ Pr (step q u) ρ') : ∃ ρ', St (kfor t it bd) ρ S ρ' (T (as.foldl step q)) ∧ Pr (as.foldl step q) ρ' := by
  obtain ⟨ρ', e, p⟩ := forL_inv (f := fun l ρ S => match bindT t l ρ with | some ρ => bd ρ S | none => .bad) (g := g) (Pr := Pr) (T := T) (step := step) (xs := as) (b := q) (ρ := ρ) h0 fun u hu q ρ h => by
    obtain ⟨ρ1, ρ', h1, h2, h3⟩ := hb u hu q ρ h
    refine ⟨ρ', ?_, h3⟩
    show (match bindT t (g u) ρ with | some ρ => bd ρ (T q) | none => .bad) = _
    rw [h1]; exact h2
  refine ⟨ρ', ?_, p⟩
  show ((it ρ S).bind fun ls S => forL _ ls ρ S) = _
  rw [hit]; exact e
/-- the same, the step depends on how much is done -/
theorem st_forI {α β : Type} {it : EvL} {t : Tg} {bd : Sv} {g : α → LV} {as : List α} {Pr : Nat → β → Env → Prop} {T : β → Store} {step : β → α → β} {q : β} (hit : it ρ S = .ok (as.map g) (T q)) (h0 : Pr 0 q ρ)
    (hb : ∀ n u, as[n]? = some u → ∀ q ρ, Pr n q ρ → ∃ ρ1 ρ', bindT t (g u) ρ = some ρ1 ∧ St bd ρ1 (T q) ρ' (T (step q u)) ∧ Pr (n + 1) (step q u) ρ') : ∃ ρ', St (kfor t it bd) ρ S ρ' (T (as.foldl step q)) ∧ Pr as.length (as.foldl step q) ρ' := by
  have main : ∀ (bs : List α) (n : Nat) (q : β) (ρ : Env), (∀ m u, bs[m]? = some u → as[n + m]? = some u) → Pr n q ρ →
      ∃ ρ', forL (fun l ρ S => match bindT t l ρ with | some ρ => bd ρ S | none => .bad) (bs.map g) ρ (T q) = .ok (.nx ρ') (T (bs.foldl step q)) ∧ Pr (n + bs.length) (bs.foldl step q) ρ' := by
    intro bs
    induction bs with
    | nil => intro n q ρ _ h; exact ⟨ρ, rfl, h⟩
    | cons u bs ih =>
      intro n q ρ hm h
      obtain ⟨ρ1, ρ2, h1, h2, h3⟩ := hb n u (by have := hm 0 u rfl; simpa using this) q ρ h
      obtain ⟨ρ', e, p⟩ := ih (n + 1) (step q u) ρ2 (fun m v hv => by have := hm (m + 1) v (by simpa using hv); rw [← this]; congr 1; omega) h3
      refine ⟨ρ', ?_, by rw [List.length_cons]; have : n + (bs.length + 1) = n + 1 + bs.length := by omega
                         rw [this]; exact p⟩
      refine (forL_step (ρ1 := ρ2) (S1 := T (step q u)) ?_).trans e
      show (match bindT t (g u) ρ with | some ρ => bd ρ (T q) | none => .bad) = _
      rw [h1]; exact h2
  obtain ⟨ρ', e, p⟩ := main as 0 q ρ (fun m u h => by simpa using h) h0
  refine ⟨ρ', ?_, by simpa using p⟩
  show ((it ρ S).bind fun ls S => forL _ ls ρ S) = _
  rw [hit]; exact e
/-- a comprehension over values, no filter -/
theorem v_lc {α : Type} {ws : List Nat} {t : Tg} {it : EvL} {g : α → LV} {h : α → PV} {as : List α} (hit : it ρ S = .ok (as.map g) S)
    (hf : ∀ u ∈ as, ∃ ρ1, bindT t (g u) (wipe ρ ws) = some ρ1 ∧ Vl a ρ1 S (h u)) (hl : as.length ≤ 1000000) : Vl (klc false ws a t it true b) ρ S (.lst (as.map h)) := by
  have e := klc_map (ws := ws) (e := a) (t := t) (it := it) (n := true) (cd := b) (ρ := ρ) (S := S) (g := g) (h := fun u => some (h u)) (xs := as) hit (fun u hu => by
    obtain ⟨ρ1, h1, h2⟩ := hf u hu
    rw [h1]
    show ((a false ρ1 S).bind fun v S => Res.ok (some v) S) = _
    rw [h2]; rfl) hl
  rw [fmap_some] at e
  exact e
/-- a comprehension with a filter -/
theorem v_lcF {α : Type} {ws : List Nat} {t : Tg} {it : EvL} {g : α → LV} {h : α → PV} {p : α → Bool} {as : List α} (hit : it ρ S = .ok (as.map g) S)
    (hf : ∀ u ∈ as, ∃ ρ1, bindT t (g u) (wipe ρ ws) = some ρ1 ∧ Tt b ρ1 S (p u) ∧ (p u = true → Vl a ρ1 S (h u))) (hl : as.length ≤ 1000000) : Vl (klc false ws a t it false b) ρ S (.lst ((as.filter p).map h)) := by
  have e := klc_map (ws := ws) (e := a) (t := t) (it := it) (n := false) (cd := b) (ρ := ρ) (S := S) (g := g) (h := fun u => if p u then some (h u) else none) (xs := as) hit (fun u hu => by
    obtain ⟨ρ1, h1, h2, h3⟩ := hf u hu
    rw [h1]
    show iteR (isT (b true ρ1 S)) (fun S => (a false ρ1 S).bind fun v S => Res.ok (some v) S) (fun S => .ok none S) = _
    rw [h2]
    cases hp : p u with
    | true =>
      show ((a false ρ1 S).bind fun v S => Res.ok (some v) S) = _
      rw [h3 hp]; rfl
    | false => rfl) hl
  have q : as.filterMap (fun u => if p u then some (h u) else none) = (as.filter p).map h := by
    clear e hf hl hit
    induction as with
    | nil => rfl
    | cons u as ih =>
      rw [List.filterMap_cons, List.filter_cons]
      cases hp : p u with
      | true => simp [ih]
      | false => simp [ih]
  rw [q] at e
  exact e
theorem it_ex {e : Ev} {xs : List PV} (h : Vl e ρ S (.tup xs)) : kex e ρ S = .ok (xs.map .pv) S := by
  show ((e false ρ S).bind fun l S => lift (itemsOf l S) S) = _
  rw [h]; rfl
theorem it_exl {e : Ev} {xs : List PV} (h : Vl e ρ S (.lst xs)) : kex e ρ S = .ok (xs.map .pv) S := by
  show ((e false ρ S).bind fun l S => lift (itemsOf l S) S) = _
  rw [h]; rfl
theorem it_r1 {e : Ev} {n : Nat} (h : Vl e ρ S (.int n)) (hn : n ≤ 1000) : kr1 e ρ S = .ok ((List.range n).map fun k => .pv (.int (k : Nat))) S := by
  show ((e false ρ S).bind fun l S => match l with
    | .pv (.int j) => if rangeOk 0 j then Res.ok ((rangeI 0 j).map LV.pv) S else .bad
    | _ => .bad) = _
  rw [h]
  show (if rangeOk 0 (n : Int) then Res.ok ((rangeI 0 n).map LV.pv) S else .bad) = _
  have hr : rangeOk 0 (n : Int) = true := by unfold rangeOk bigI; simp; omega
  rw [if_pos hr]
  unfold rangeI
  rw [List.map_map]
  congr 1
  have : ((n : Int) - 0).toNat = n := by omega
  rw [this]
  refine List.map_congr_left fun k _ => ?_; show LV.pv (.int (0 + (k : Int))) = _
  rw [Int.zero_add]
theorem it_zip {xs ys : List PV} (h : Vl a ρ S x) (h2 : Vl b ρ S y) (hx : seqL (.pv x) = some xs) (hy : seqL (.pv y) = some ys) : kzip a b ρ S = .ok ((zipP xs ys).map .pv) S := by
  show ((a false ρ S).bind fun l S => (b false ρ S).bind fun m S => zipL l m S) = _
  rw [h]
  show ((b false ρ S).bind fun m S => zipL (.pv x) m S) = _
  rw [h2]
  show (match seqL (.pv x), seqL (.pv y) with
  | some xs, some ys => Res.ok ((zipP xs ys).map LV.pv) S
  | _, _ => .bad) = _
  rw [hx, hy]
end
end Gp

namespace Ck30
open Gp
abbrev K (n : Nat) : Nat → List LV → Store → Res LV := runK KP 100 n
def tI (r : List Int) : PV := .tup (r.map .int)
def PR (p : Int) : Prop := p = 5 ∨ p = 7 ∨ p = 11 ∨ p = 13
theorem PR.pos {p : Int} (h : PR p) : 0 < p := by rcases h with rfl | rfl | rfl | rfl <;> decide
theorem PR.lt {p : Int} (h : PR p) : p < 1000 := by rcases h with rfl | rfl | rfl | rfl <;> decide
def In (p : Int) (xs : List Int) : Prop := ∀ x ∈ xs, 0 ≤ x ∧ x < p
variable {n : Nat} {S : Store} {p m z : Int}
theorem e0 (v lo hi : Int) : K (n + 1) 0 [LI v, LI lo, LI hi] S = .ok (.pv (.bl (decide (lo ≤ v) && decide (v ≤ hi)))) S := by
  show runK KP 100 (n + 1) 0 _ S = _
  rw [runK_s (d := ⟨3, 3, k0⟩) rfl rfl]
  by_cases h : lo ≤ v
  · rw [decide_eq_true h]
    show leave S.length (k0 _ _ S) = _
    have q : k0 ⟨runK KP 100 n, 100⟩ (enterK 3 3 [LI v, LI lo, LI hi]) S = .ok (.rt (.pv (.bl (decide (v ≤ hi))))) S := by
      show (((iteR (isT (cmpL .le (LI lo) (LI v) S)) (fun S => cmpL .le (LI v) (LI hi) S) (fun S => .ok (.pv (.bl false)) S))).bind fun l S => Res.ok (Flow.rt l) S).bind _ = _
      show (((iteR (isT (Res.ok (.pv (.bl (decide (lo ≤ v)))) S)) (fun S => cmpL .le (LI v) (LI hi) S) (fun S => .ok (.pv (.bl false)) S))).bind fun l S => Res.ok (Flow.rt l) S).bind _ = _
      rw [decide_eq_true h]; rfl
    rw [q]
    show Res.ok _ (S.take S.length) = _
    rw [List.take_length]; rfl
  · rw [decide_eq_false h]
    show leave S.length (k0 _ _ S) = _
    have q : k0 ⟨runK KP 100 n, 100⟩ (enterK 3 3 [LI v, LI lo, LI hi]) S = .ok (.rt (.pv (.bl false))) S := by
      show (((iteR (isT (Res.ok (.pv (.bl (decide (lo ≤ v)))) S)) (fun S => cmpL .le (LI v) (LI hi) S) (fun S => .ok (.pv (.bl false)) S))).bind fun l S => Res.ok (Flow.rt l) S).bind _ = _
      rw [decide_eq_false h]; rfl
    rw [q]
    show Res.ok _ (S.take S.length) = _
    rw [List.take_length]; rfl
theorem e0t {v lo hi : Int} (h1 : lo ≤ v) (h2 : v ≤ hi) : K (n + 1) 0 [LI v, LI lo, LI hi] S = .ok (.pv (.bl true)) S := by
  rw [e0, decide_eq_true h1, decide_eq_true h2]; rfl
theorem e1 {v lo hi : Int} (h1 : lo ≤ v) (h2 : v ≤ hi) : K (n + 2) 1 [LI v, LI lo, LI hi] S = .ok (.pv .non) S :=
  run_nx0 (e := ⟨3, 3, k1⟩) rfl rfl (u1 _) (st_seq (st_ifF (tt_notT (tt_call (vs_cons (v_var rfl) (vs_cons (v_var rfl) (vs_cons (v_var rfl) vs_nil))) (e0t h1 h2))) st_end) st_end)
theorem e2 (hp : PR p) : K (n + 2) 2 [LI p] S = .ok (.pv .non) S := by
  refine run_nx0 (e := ⟨1, 1, k2⟩) rfl rfl (u2 _) (st_seq (st_ifF (tt_orF (tt_notT (tt_call (t := true) (vs_cons (v_var rfl) (vs_cons v_con (vs_cons v_con vs_nil))) (e0t ?_ ?_)))  (tt_cmp (v_var rfl) v_con ?_)) st_end) st_end)
  · rcases hp with rfl | rfl | rfl | rfl <;> decide
  · rcases hp with rfl | rfl | rfl | rfl <;> decide
  · rcases hp with rfl | rfl | rfl | rfl <;> rfl
theorem e3 {xs : List Int} (h : In p xs) (hl : xs.length ≤ 1000000) : K (n + 2) 3 [LI p, .pv (tI xs)] S = .ok (.pv (.bl true)) S := by
  refine run_rt0 (e := ⟨2, 3, k3⟩) rfl rfl (u3 _) (rt_now (rt_ret ?_))
  have hc := v_lc (ws := [2]) (t := .nm 2) (it := kex (kvar 1)) (g := fun x : Int => LI x) (h := fun _ => .bl true) (a := kcall ⟨runK KP 100 (n + 1), 100⟩ 0 (kcons (kvar 2) (kcons (kcon (.int 0)) (kcons (kbin .sub (kvar 0) (kcon (.int 1))) knil)))) (b := kno) (as := xs) (ρ := [some (LI p), some (.pv (tI xs)), none]) (S := S)
    (by rw [it_ex (v_var (x := .tup (xs.map .int)) rfl), List.map_map]; rfl)
    (fun x hx => ⟨_, rfl, v_call (vs_cons (v_var rfl) (vs_cons v_con (vs_cons (v_bin (v_var rfl) v_con rfl) vs_nil))) (e0t (h x hx).1 (by have := (h x hx).2; omega))⟩) hl
  have hb := v_blt1 hc (f := .all) (z := .bl true) (all_true fun x hx => by
    obtain ⟨_, _, e⟩ := List.mem_map.mp hx
    exact e.symm)
  exact hb
def hor (p s j : Int) (cs : List Int) : Int := (cs.reverse.foldl (fun f c => (f + c) * j % p) 0 + s) % p
theorem e4 {s j : Int} {cs : List Int} (hp : 0 < p) (h0 : 0 ≤ j) (h1 : j < 1000) : K (n + 1) 4 [LI p, LI s, .pv (tI cs), LI j] S = .ok (LI (hor p s j cs)) S := by
  refine run_rt0 (e := ⟨4, 6, k4⟩) rfl rfl (u4 _) ?_
  refine rt_seq (st_asg v_con) ?_
  obtain ⟨ρ', h, o, rfl⟩ := st_for (α := Int) (β := Int) (S := S) (ρ := [some (LI p), some (LI s), some (.pv (tI cs)), some (LI j), some (LI 0), none]) (t := .nm 5) (it := kex (krev (kvar 2))) (bd := kseq (kasg (.nm 4) (kbin .mod (kbin .mul (kbin .add (kvar 4) (kvar 5)) (kvar 3)) (kvar 0))) kend)
    (g := fun c => LI c) (as := cs.reverse) (Pr := fun q ρ => ∃ o, ρ = [some (LI p), some (LI s), some (.pv (tI cs)), some (LI j), some (LI q), o]) (T := fun _ => S) (step := fun f c => (f + c) * j % p) (q := 0)
    (by
      show Res.ok (((cs.map PV.int).reverse).map LV.pv) S = _
      rw [← List.map_reverse, List.map_map]; rfl) ⟨_, rfl⟩
    (fun c _ q ρ ⟨o, e⟩ => by
      subst e
      exact ⟨_, _, rfl, st_seq (st_asg (v_bin (v_bin (v_bin (v_var rfl) (v_var rfl) rfl) (v_var rfl) (bmul h0 h1)) (v_var rfl) (bmod hp _))) st_end, _, rfl⟩)
  exact rt_seq h (rt_now (rt_ret (v_bin (v_bin (v_var rfl) (v_var rfl) rfl) (v_var rfl) (bmod hp _))))
def dl (p s : Int) (m : Nat) (cs : List Int) : List Int := (List.range m).map fun (k : Nat) => hor p s ((k : Int) + 1) cs
theorem e5 {s : Int} {m : Nat} {cs : List Int} (hp : 0 < p) (hm : m ≤ 4) : K (n + 2) 5 [LI p, LI m, LI s, .pv (tI cs)] S = .ok (.pv (tI (dl p s m cs))) S := by
  refine run_rt0 (e := ⟨4, 5, k5⟩) rfl rfl (u5 _) (rt_now (rt_ret (v_blt1 (v_lc (g := fun k : Nat => LI (k : Int)) (h := fun k => .int (hor p s ((k : Int) + 1) cs)) (as := List.range m) (it_r1 (v_var rfl) (by omega)) (fun k hk => ⟨_, rfl, v_call (vs_cons (v_var rfl) (vs_cons (v_var rfl) (vs_cons (v_var rfl) (vs_cons (v_bin (v_var rfl) v_con rfl) vs_nil)))) (e4 hp (by omega) (by have := List.mem_range.mp hk; omega))⟩) (by rw [List.length_range]; omega)) ?_)))
  show some (PV.tup _) = _
  unfold tI dl
  rw [List.map_map]; rfl
theorem e10 {m : Nat} {xs : List Int} (h : In p xs) (hm : xs.length = m) (hl : m ≤ 1000) : K (n + 3) 10 [LI p, LI m, .pv (tI xs)] S = .ok (.pv .non) S := by
  refine run_nx0 (e := ⟨3, 3, k10⟩) rfl rfl (u10 _) (st_seq (st_ifF (tt_orF (tt_notT (tt_call (t := true) (vs_cons (v_var rfl) (vs_cons (v_var rfl) vs_nil)) (e3 h (by omega))))  (tt_cmp (v_blt1 (v_var rfl) (z := .int m) ?_) (v_var rfl) ?_)) st_end) st_end)
  · show some (PV.int ((xs.map PV.int).length : Nat)) = _
    rw [List.length_map, hm]
  · rw [cmp_neI]; simp
end Ck30

namespace Ck30
open Gp
abbrev R (ns : List Int) (i s r : Int) : Store := rowT ns i s r []
abbrev R2 (ns : List Int) (i s r : Int) (xs ys : List PV) : Store := rowT ns i s r [.lst xs, .lst ys]
def MM (m : Nat) : Prop := m = 2 ∨ m = 3 ∨ m = 4
/-- the weights -/
def wt (p : Int) (m : Nat) : List Int :=
  if p = 5 then (if m = 2 then [2, 4] else if m = 3 then [3, 2, 1] else [4, 4, 4, 4])
  else if p = 7 then (if m = 2 then [2, 6] else if m = 3 then [3, 4, 1] else [4, 1, 4, 6])
  else if p = 11 then (if m = 2 then [2, 10] else if m = 3 then [3, 8, 1] else [4, 5, 4, 10])
  else (if m = 2 then [2, 12] else if m = 3 then [3, 10, 1] else [4, 7, 4, 12])
theorem w6_5_2 (n : Nat) {ns : List Int} {i s r : Int} : K (n + 2) 6 [LI 5, .pv (.lst [.int 1, .int 2])] (R ns i s r) = .ok (.pv (tI (wt 5 2))) (R ns i s r) := by kernel_rfl
theorem x6_5_2 (n : Nat) {ns : List Int} {i s r : Int} (xs ys : List PV) : K (n + 2) 6 [LI 5, .pv (.lst [.int 1, .int 2])] (R2 ns i s r xs ys) = .ok (.pv (tI (wt 5 2))) (R2 ns i s r xs ys) := by kernel_rfl
theorem w25_5_2 (n : Nat) {ns : List Int} {i s r : Int} : K (n + 1) 25 [LI 5, LI 2] (R ns i s r) = .ok (.pv (.lst ((wt 5 2).map .int))) (R ns i s r) := by kernel_rfl
theorem x25_5_2 (n : Nat) {ns : List Int} {i s r : Int} (xs ys : List PV) : K (n + 1) 25 [LI 5, LI 2] (R2 ns i s r xs ys) = .ok (.pv (.lst ((wt 5 2).map .int))) (R2 ns i s r xs ys) := by kernel_rfl
theorem w6_5_3 (n : Nat) {ns : List Int} {i s r : Int} : K (n + 2) 6 [LI 5, .pv (.lst [.int 1, .int 2, .int 3])] (R ns i s r) = .ok (.pv (tI (wt 5 3))) (R ns i s r) := by kernel_rfl
theorem x6_5_3 (n : Nat) {ns : List Int} {i s r : Int} (xs ys : List PV) : K (n + 2) 6 [LI 5, .pv (.lst [.int 1, .int 2, .int 3])] (R2 ns i s r xs ys) = .ok (.pv (tI (wt 5 3))) (R2 ns i s r xs ys) := by kernel_rfl
theorem w25_5_3 (n : Nat) {ns : List Int} {i s r : Int} : K (n + 1) 25 [LI 5, LI 3] (R ns i s r) = .ok (.pv (.lst ((wt 5 3).map .int))) (R ns i s r) := by kernel_rfl
theorem x25_5_3 (n : Nat) {ns : List Int} {i s r : Int} (xs ys : List PV) : K (n + 1) 25 [LI 5, LI 3] (R2 ns i s r xs ys) = .ok (.pv (.lst ((wt 5 3).map .int))) (R2 ns i s r xs ys) := by kernel_rfl
theorem w6_5_4 (n : Nat) {ns : List Int} {i s r : Int} : K (n + 2) 6 [LI 5, .pv (.lst [.int 1, .int 2, .int 3, .int 4])] (R ns i s r) = .ok (.pv (tI (wt 5 4))) (R ns i s r) := by kernel_rfl
theorem x6_5_4 (n : Nat) {ns : List Int} {i s r : Int} (xs ys : List PV) : K (n + 2) 6 [LI 5, .pv (.lst [.int 1, .int 2, .int 3, .int 4])] (R2 ns i s r xs ys) = .ok (.pv (tI (wt 5 4))) (R2 ns i s r xs ys) := by kernel_rfl
theorem w25_5_4 (n : Nat) {ns : List Int} {i s r : Int} : K (n + 1) 25 [LI 5, LI 4] (R ns i s r) = .ok (.pv (.lst ((wt 5 4).map .int))) (R ns i s r) := by kernel_rfl
theorem x25_5_4 (n : Nat) {ns : List Int} {i s r : Int} (xs ys : List PV) : K (n + 1) 25 [LI 5, LI 4] (R2 ns i s r xs ys) = .ok (.pv (.lst ((wt 5 4).map .int))) (R2 ns i s r xs ys) := by kernel_rfl
theorem w6_7_2 (n : Nat) {ns : List Int} {i s r : Int} : K (n + 2) 6 [LI 7, .pv (.lst [.int 1, .int 2])] (R ns i s r) = .ok (.pv (tI (wt 7 2))) (R ns i s r) := by kernel_rfl
theorem x6_7_2 (n : Nat) {ns : List Int} {i s r : Int} (xs ys : List PV) : K (n + 2) 6 [LI 7, .pv (.lst [.int 1, .int 2])] (R2 ns i s r xs ys) = .ok (.pv (tI (wt 7 2))) (R2 ns i s r xs ys) := by kernel_rfl
theorem w25_7_2 (n : Nat) {ns : List Int} {i s r : Int} : K (n + 1) 25 [LI 7, LI 2] (R ns i s r) = .ok (.pv (.lst ((wt 7 2).map .int))) (R ns i s r) := by kernel_rfl
theorem x25_7_2 (n : Nat) {ns : List Int} {i s r : Int} (xs ys : List PV) : K (n + 1) 25 [LI 7, LI 2] (R2 ns i s r xs ys) = .ok (.pv (.lst ((wt 7 2).map .int))) (R2 ns i s r xs ys) := by kernel_rfl
theorem w6_7_3 (n : Nat) {ns : List Int} {i s r : Int} : K (n + 2) 6 [LI 7, .pv (.lst [.int 1, .int 2, .int 3])] (R ns i s r) = .ok (.pv (tI (wt 7 3))) (R ns i s r) := by kernel_rfl
theorem x6_7_3 (n : Nat) {ns : List Int} {i s r : Int} (xs ys : List PV) : K (n + 2) 6 [LI 7, .pv (.lst [.int 1, .int 2, .int 3])] (R2 ns i s r xs ys) = .ok (.pv (tI (wt 7 3))) (R2 ns i s r xs ys) := by kernel_rfl
theorem w25_7_3 (n : Nat) {ns : List Int} {i s r : Int} : K (n + 1) 25 [LI 7, LI 3] (R ns i s r) = .ok (.pv (.lst ((wt 7 3).map .int))) (R ns i s r) := by kernel_rfl
theorem x25_7_3 (n : Nat) {ns : List Int} {i s r : Int} (xs ys : List PV) : K (n + 1) 25 [LI 7, LI 3] (R2 ns i s r xs ys) = .ok (.pv (.lst ((wt 7 3).map .int))) (R2 ns i s r xs ys) := by kernel_rfl
theorem w6_7_4 (n : Nat) {ns : List Int} {i s r : Int} : K (n + 2) 6 [LI 7, .pv (.lst [.int 1, .int 2, .int 3, .int 4])] (R ns i s r) = .ok (.pv (tI (wt 7 4))) (R ns i s r) := by kernel_rfl
theorem x6_7_4 (n : Nat) {ns : List Int} {i s r : Int} (xs ys : List PV) : K (n + 2) 6 [LI 7, .pv (.lst [.int 1, .int 2, .int 3, .int 4])] (R2 ns i s r xs ys) = .ok (.pv (tI (wt 7 4))) (R2 ns i s r xs ys) := by kernel_rfl
theorem w25_7_4 (n : Nat) {ns : List Int} {i s r : Int} : K (n + 1) 25 [LI 7, LI 4] (R ns i s r) = .ok (.pv (.lst ((wt 7 4).map .int))) (R ns i s r) := by kernel_rfl
theorem x25_7_4 (n : Nat) {ns : List Int} {i s r : Int} (xs ys : List PV) : K (n + 1) 25 [LI 7, LI 4] (R2 ns i s r xs ys) = .ok (.pv (.lst ((wt 7 4).map .int))) (R2 ns i s r xs ys) := by kernel_rfl
theorem w6_11_2 (n : Nat) {ns : List Int} {i s r : Int} : K (n + 2) 6 [LI 11, .pv (.lst [.int 1, .int 2])] (R ns i s r) = .ok (.pv (tI (wt 11 2))) (R ns i s r) := by kernel_rfl
theorem x6_11_2 (n : Nat) {ns : List Int} {i s r : Int} (xs ys : List PV) : K (n + 2) 6 [LI 11, .pv (.lst [.int 1, .int 2])] (R2 ns i s r xs ys) = .ok (.pv (tI (wt 11 2))) (R2 ns i s r xs ys) := by kernel_rfl
theorem w25_11_2 (n : Nat) {ns : List Int} {i s r : Int} : K (n + 1) 25 [LI 11, LI 2] (R ns i s r) = .ok (.pv (.lst ((wt 11 2).map .int))) (R ns i s r) := by kernel_rfl
theorem x25_11_2 (n : Nat) {ns : List Int} {i s r : Int} (xs ys : List PV) : K (n + 1) 25 [LI 11, LI 2] (R2 ns i s r xs ys) = .ok (.pv (.lst ((wt 11 2).map .int))) (R2 ns i s r xs ys) := by kernel_rfl
theorem w6_11_3 (n : Nat) {ns : List Int} {i s r : Int} : K (n + 2) 6 [LI 11, .pv (.lst [.int 1, .int 2, .int 3])] (R ns i s r) = .ok (.pv (tI (wt 11 3))) (R ns i s r) := by kernel_rfl
theorem x6_11_3 (n : Nat) {ns : List Int} {i s r : Int} (xs ys : List PV) : K (n + 2) 6 [LI 11, .pv (.lst [.int 1, .int 2, .int 3])] (R2 ns i s r xs ys) = .ok (.pv (tI (wt 11 3))) (R2 ns i s r xs ys) := by kernel_rfl
theorem w25_11_3 (n : Nat) {ns : List Int} {i s r : Int} : K (n + 1) 25 [LI 11, LI 3] (R ns i s r) = .ok (.pv (.lst ((wt 11 3).map .int))) (R ns i s r) := by kernel_rfl
theorem x25_11_3 (n : Nat) {ns : List Int} {i s r : Int} (xs ys : List PV) : K (n + 1) 25 [LI 11, LI 3] (R2 ns i s r xs ys) = .ok (.pv (.lst ((wt 11 3).map .int))) (R2 ns i s r xs ys) := by kernel_rfl
theorem w6_11_4 (n : Nat) {ns : List Int} {i s r : Int} : K (n + 2) 6 [LI 11, .pv (.lst [.int 1, .int 2, .int 3, .int 4])] (R ns i s r) = .ok (.pv (tI (wt 11 4))) (R ns i s r) := by kernel_rfl
theorem x6_11_4 (n : Nat) {ns : List Int} {i s r : Int} (xs ys : List PV) : K (n + 2) 6 [LI 11, .pv (.lst [.int 1, .int 2, .int 3, .int 4])] (R2 ns i s r xs ys) = .ok (.pv (tI (wt 11 4))) (R2 ns i s r xs ys) := by kernel_rfl
theorem w25_11_4 (n : Nat) {ns : List Int} {i s r : Int} : K (n + 1) 25 [LI 11, LI 4] (R ns i s r) = .ok (.pv (.lst ((wt 11 4).map .int))) (R ns i s r) := by kernel_rfl
theorem x25_11_4 (n : Nat) {ns : List Int} {i s r : Int} (xs ys : List PV) : K (n + 1) 25 [LI 11, LI 4] (R2 ns i s r xs ys) = .ok (.pv (.lst ((wt 11 4).map .int))) (R2 ns i s r xs ys) := by kernel_rfl
theorem w6_13_2 (n : Nat) {ns : List Int} {i s r : Int} : K (n + 2) 6 [LI 13, .pv (.lst [.int 1, .int 2])] (R ns i s r) = .ok (.pv (tI (wt 13 2))) (R ns i s r) := by kernel_rfl
theorem x6_13_2 (n : Nat) {ns : List Int} {i s r : Int} (xs ys : List PV) : K (n + 2) 6 [LI 13, .pv (.lst [.int 1, .int 2])] (R2 ns i s r xs ys) = .ok (.pv (tI (wt 13 2))) (R2 ns i s r xs ys) := by kernel_rfl
theorem w25_13_2 (n : Nat) {ns : List Int} {i s r : Int} : K (n + 1) 25 [LI 13, LI 2] (R ns i s r) = .ok (.pv (.lst ((wt 13 2).map .int))) (R ns i s r) := by kernel_rfl
theorem x25_13_2 (n : Nat) {ns : List Int} {i s r : Int} (xs ys : List PV) : K (n + 1) 25 [LI 13, LI 2] (R2 ns i s r xs ys) = .ok (.pv (.lst ((wt 13 2).map .int))) (R2 ns i s r xs ys) := by kernel_rfl
theorem w6_13_3 (n : Nat) {ns : List Int} {i s r : Int} : K (n + 2) 6 [LI 13, .pv (.lst [.int 1, .int 2, .int 3])] (R ns i s r) = .ok (.pv (tI (wt 13 3))) (R ns i s r) := by kernel_rfl
theorem x6_13_3 (n : Nat) {ns : List Int} {i s r : Int} (xs ys : List PV) : K (n + 2) 6 [LI 13, .pv (.lst [.int 1, .int 2, .int 3])] (R2 ns i s r xs ys) = .ok (.pv (tI (wt 13 3))) (R2 ns i s r xs ys) := by kernel_rfl
theorem w25_13_3 (n : Nat) {ns : List Int} {i s r : Int} : K (n + 1) 25 [LI 13, LI 3] (R ns i s r) = .ok (.pv (.lst ((wt 13 3).map .int))) (R ns i s r) := by kernel_rfl
theorem x25_13_3 (n : Nat) {ns : List Int} {i s r : Int} (xs ys : List PV) : K (n + 1) 25 [LI 13, LI 3] (R2 ns i s r xs ys) = .ok (.pv (.lst ((wt 13 3).map .int))) (R2 ns i s r xs ys) := by kernel_rfl
theorem w6_13_4 (n : Nat) {ns : List Int} {i s r : Int} : K (n + 2) 6 [LI 13, .pv (.lst [.int 1, .int 2, .int 3, .int 4])] (R ns i s r) = .ok (.pv (tI (wt 13 4))) (R ns i s r) := by kernel_rfl
theorem x6_13_4 (n : Nat) {ns : List Int} {i s r : Int} (xs ys : List PV) : K (n + 2) 6 [LI 13, .pv (.lst [.int 1, .int 2, .int 3, .int 4])] (R2 ns i s r xs ys) = .ok (.pv (tI (wt 13 4))) (R2 ns i s r xs ys) := by kernel_rfl
theorem w25_13_4 (n : Nat) {ns : List Int} {i s r : Int} : K (n + 1) 25 [LI 13, LI 4] (R ns i s r) = .ok (.pv (.lst ((wt 13 4).map .int))) (R ns i s r) := by kernel_rfl
theorem x25_13_4 (n : Nat) {ns : List Int} {i s r : Int} (xs ys : List PV) : K (n + 1) 25 [LI 13, LI 4] (R2 ns i s r xs ys) = .ok (.pv (.lst ((wt 13 4).map .int))) (R2 ns i s r xs ys) := by kernel_rfl
def one (m : Nat) : PV := .lst ((List.range m).map fun (k : Nat) => .int ((k : Int) + 1))
theorem e6 (n : Nat) {ns : List Int} {i s r : Int}{p : Int} {m : Nat} (hp : PR p) (hm : MM m)  : K (n + 2) 6 [LI p, .pv (one m)] (R ns i s r) = .ok (.pv (tI (wt p m))) (R ns i s r) := by
  rcases hp with rfl | rfl | rfl | rfl <;> rcases hm with rfl | rfl | rfl
  · exact w6_5_2 n
  · exact w6_5_3 n
  · exact w6_5_4 n
  · exact w6_7_2 n
  · exact w6_7_3 n
  · exact w6_7_4 n
  · exact w6_11_2 n
  · exact w6_11_3 n
  · exact w6_11_4 n
  · exact w6_13_2 n
  · exact w6_13_3 n
  · exact w6_13_4 n
theorem e6b (n : Nat) {ns : List Int} {i s r : Int}{p : Int} {m : Nat} (hp : PR p) (hm : MM m) (xs ys : List PV) : K (n + 2) 6 [LI p, .pv (one m)] (R2 ns i s r xs ys) = .ok (.pv (tI (wt p m))) (R2 ns i s r xs ys) := by
  rcases hp with rfl | rfl | rfl | rfl <;> rcases hm with rfl | rfl | rfl
  · exact x6_5_2 n xs ys
  · exact x6_5_3 n xs ys
  · exact x6_5_4 n xs ys
  · exact x6_7_2 n xs ys
  · exact x6_7_3 n xs ys
  · exact x6_7_4 n xs ys
  · exact x6_11_2 n xs ys
  · exact x6_11_3 n xs ys
  · exact x6_11_4 n xs ys
  · exact x6_13_2 n xs ys
  · exact x6_13_3 n xs ys
  · exact x6_13_4 n xs ys
theorem e25 (n : Nat) {ns : List Int} {i s r : Int}{p : Int} {m : Nat} (hp : PR p) (hm : MM m)  : K (n + 1) 25 [LI p, LI m] (R ns i s r) = .ok (.pv (.lst ((wt p m).map .int))) (R ns i s r) := by
  rcases hp with rfl | rfl | rfl | rfl <;> rcases hm with rfl | rfl | rfl
  · exact w25_5_2 n
  · exact w25_5_3 n
  · exact w25_5_4 n
  · exact w25_7_2 n
  · exact w25_7_3 n
  · exact w25_7_4 n
  · exact w25_11_2 n
  · exact w25_11_3 n
  · exact w25_11_4 n
  · exact w25_13_2 n
  · exact w25_13_3 n
  · exact w25_13_4 n
theorem e25b (n : Nat) {ns : List Int} {i s r : Int}{p : Int} {m : Nat} (hp : PR p) (hm : MM m) (xs ys : List PV) : K (n + 1) 25 [LI p, LI m] (R2 ns i s r xs ys) = .ok (.pv (.lst ((wt p m).map .int))) (R2 ns i s r xs ys) := by
  rcases hp with rfl | rfl | rfl | rfl <;> rcases hm with rfl | rfl | rfl
  · exact x25_5_2 n xs ys
  · exact x25_5_3 n xs ys
  · exact x25_5_4 n xs ys
  · exact x25_7_2 n xs ys
  · exact x25_7_3 n xs ys
  · exact x25_7_4 n xs ys
  · exact x25_11_2 n xs ys
  · exact x25_11_3 n xs ys
  · exact x25_11_4 n xs ys
  · exact x25_13_2 n xs ys
  · exact x25_13_3 n xs ys
  · exact x25_13_4 n xs ys
theorem wt_len {p : Int} {m : Nat} (hp : PR p) (hm : MM m) : (wt p m).length = m := by
  rcases hp with rfl | rfl | rfl | rfl <;> rcases hm with rfl | rfl | rfl <;> rfl
theorem wt_in {p : Int} {m : Nat} (hp : PR p) (hm : MM m) : In p (wt p m) := by
  unfold In
  rcases hp with rfl | rfl | rfl | rfl <;> rcases hm with rfl | rfl | rfl <;> decide
variable {n : Nat} {S : Store} {p m z : Int}
def pwS (p j : Int) (q : Int × Int) (c : Int) : Int × Int := ((q.1 + c * q.2) % p, q.2 * j % p)
def pw (p j : Int) (xs : List Int) : Int := (xs.foldl (pwS p j) (0, 1)).1
theorem e23 {j : Int} {xs : List Int} (hp : PR p) (h0 : 0 ≤ j) (h1 : j < 1000) : K (n + 1) 23 [LI p, .pv (tI xs), LI j] S = .ok (LI (pw p j xs)) S := by
  refine run_rt0 (e := ⟨3, 6, k23⟩) rfl rfl (u23 _) ?_
  refine rt_seq (ρ' := [some (LI p), some (.pv (tI xs)), some (LI j), none, some (LI 0), some (LI 1)]) (S' := S) rfl ?_
  obtain ⟨ρ', h, o, rfl, _⟩ := st_for (α := Int) (β := Int × Int) (S := S) (ρ := [some (LI p), some (.pv (tI xs)), some (LI j), none, some (LI 0), some (LI 1)]) (t := .nm 3) (it := kex (kvar 1)) (bd := kseq (kpar [4, 5] (kcons (kbin .mod (kbin .add (kvar 4) (kbin .mul (kvar 3) (kvar 5))) (kvar 0)) (kcons (kbin .mod (kbin .mul (kvar 5) (kvar 2)) (kvar 0)) knil))) kend)
    (g := fun c => LI c) (as := xs) (Pr := fun q ρ => ∃ o, ρ = [some (LI p), some (.pv (tI xs)), some (LI j), o, some (LI q.1), some (LI q.2)] ∧ 0 ≤ q.2 ∧ q.2 < 1000) (T := fun _ => S) (step := pwS p j) (q := (0, 1))
    (by rw [it_ex (v_var (x := .tup (xs.map .int)) rfl), List.map_map]; rfl) ⟨_, rfl, by decide, by decide⟩
    (fun c _ q ρ ⟨o, e, hq0, hq1⟩ => by
      subst e
      refine ⟨_, [some (LI p), some (.pv (tI xs)), some (LI j), some (LI c), some (LI (pwS p j q c).1), some (LI (pwS p j q c).2)], rfl, st_seq ?_ st_end, ⟨_, rfl, Int.emod_nonneg _ (by have := hp.pos; omega), by have := Int.emod_lt_of_pos (q.2 * j) hp.pos; have := hp.lt; show q.2 * j % p < 1000; omega⟩⟩
      have a1 : Vl (kbin .mod (kbin .add (kvar 4) (kbin .mul (kvar 3) (kvar 5))) (kvar 0)) [some (LI p), some (.pv (tI xs)), some (LI j), some (LI c), some (LI q.1), some (LI q.2)] S (.int ((q.1 + c * q.2) % p)) := v_bin (v_bin (v_var rfl) (v_bin (v_var rfl) (v_var rfl) (bmul hq0 hq1)) rfl) (v_var rfl) (bmod hp.pos _)
      have a2 : Vl (kbin .mod (kbin .mul (kvar 5) (kvar 2)) (kvar 0)) [some (LI p), some (.pv (tI xs)), some (LI j), some (LI c), some (LI q.1), some (LI q.2)] S (.int (q.2 * j % p)) := v_bin (v_bin (v_var rfl) (v_var rfl) (bmul h0 h1)) (v_var rfl) (bmod hp.pos _)
      exact st_par (vs_cons a1 (vs_cons a2 vs_nil)) rfl)
  exact rt_seq h (rt_now (rt_ret (v_var rfl)))
/-- alike by p -/
def E (p x y : Int) : Prop := x % p = y % p
theorem E.rf {x : Int} : E p x x := rfl
theorem E.sy {x y : Int} (h : E p x y) : E p y x := Eq.symm h
theorem E.tr {x y u : Int} (h : E p x y) (g : E p y u) : E p x u := Eq.trans h g
theorem E.md {x y : Int} (h : E p x y) : E p (x % p) y := by unfold E; rw [Int.emod_emod]; exact h
theorem E.add {x y u v : Int} (h : E p x y) (g : E p u v) : E p (x + u) (y + v) := by
  unfold E at *; rw [Int.add_emod, h, g, ← Int.add_emod]
theorem E.mul {x y u v : Int} (h : E p x y) (g : E p u v) : E p (x * u) (y * v) := by
  unfold E at *; rw [Int.mul_emod, h, g, ← Int.mul_emod]
theorem E.of {x y : Int} (h : x = y) : E p x y := by rw [h]; rfl
theorem pw_hor {s j : Int} {cs : List Int} (hc : cs.length = 1 ∨ cs.length = 2) : pw p j (s :: cs) = hor p s j cs := by
  rcases hc with hc | hc
  · match cs, hc with
    | [a], _ =>
      show E p ((0 + s * 1) % p + a * (1 * j % p)) ((0 + a) * j % p + s)
      refine E.tr (y := s + a * j) (.tr (.add (.md .rf) (.mul .rf (.md .rf))) (.of ?_)) (.sy (.tr (.add (.md .rf) .rf) (.of ?_))) <;> grind
  · match cs, hc with
    | [a, b], _ =>
      show E p (((0 + s * 1) % p + a * (1 * j % p)) % p + b * (1 * j % p * j % p)) (((0 + b) * j % p + a) * j % p + s)
      refine E.tr (y := s + a * j + b * j * j) (.tr (.add (.md (.add (.md .rf) (.mul .rf (.md .rf)))) (.mul .rf (.md (.mul (.md .rf) .rf)))) (.of ?_)) (.sy (.tr (.add (.md (.mul (.add (.md .rf) .rf) .rf)) .rf) (.of ?_))) <;> grind
theorem e24 {s : Int} {m : Nat} {cs : List Int} (hp : PR p) (hm : m ≤ 4) (hc : cs.length = 1 ∨ cs.length = 2) : K (n + 2) 24 [LI p, LI m, LI s, .pv (.lst (cs.map .int))] S = .ok (.pv (tI (dl p s m cs))) S := by
  refine run_rt0 (e := ⟨4, 5, k24⟩) rfl rfl (u24 _) (rt_now (rt_ret (v_blt1 (v_lc (g := fun k : Nat => LI (k : Int)) (h := fun k => .int (hor p s ((k : Int) + 1) cs)) (as := List.range m) (it_r1 (v_var rfl) (by omega)) (fun k hk => ⟨_, rfl, ?_⟩) (by rw [List.length_range]; omega)) ?_)))
  · have hk := List.mem_range.mp hk
    have e := e23 (n := n) (S := S) (j := (k : Int) + 1) (xs := s :: cs) hp (by omega) (by omega)
    rw [pw_hor hc] at e
    exact v_call (vs_cons (v_var rfl) (vs_cons (v_bin (v_tup1 (v_var rfl)) (v_blt1 (v_var (x := .lst (cs.map .int)) rfl) rfl) (bT1 (by rw [List.length_map]; omega))) (vs_cons (v_bin (v_var rfl) v_con rfl) vs_nil))) e
  · show some (PV.tup _) = _
    unfold tI dl
    rw [List.map_map]; rfl
end Ck30

namespace Ck30
open Gp
inductive Rw where
  | own (a : Int) | num (v : Int) | sum (i j : Int) | tim (i j : Int)
def tO : List Nat := [111, 119, 110]
def tN : List Nat := [110, 117, 109, 98, 101, 114]
def tS : List Nat := [115, 117, 109]
def tM : List Nat := [116, 105, 109, 101, 115]
def Rw.pv : Rw → PV
  | .own a => .tup [.str tO, .int a]
  | .num v => .tup [.str tN, .int v]
  | .sum i j => .tup [.str tS, .int i, .int j]
  | .tim i j => .tup [.str tM, .int i, .int j]
def okR (m : Nat) (tm : Bool) (k : Nat) : Rw → Prop
  | .own a => 0 ≤ a ∧ a < m
  | .num v => 0 ≤ v ∧ v ≤ 12
  | .sum i j => (0 ≤ i ∧ i < k) ∧ 0 ≤ j ∧ j < k
  | .tim i j => tm = true ∧ (0 ≤ i ∧ i < k) ∧ 0 ≤ j ∧ j < k
def okS (m : Nat) (tm : Bool) (sh : List Rw) : Prop := ∀ k r, sh[k]? = some r → okR m tm k r
def shP (sh : List Rw) : PV := .tup (sh.map Rw.pv)
variable {n : Nat} {S : Store} {p z : Int} {m : Nat} {tm : Bool} {sh : List Rw}
theorem e8 {k : Nat} {r : Rw} (h : okR m tm k r) : K (n + 2) 8 [.pv r.pv, LI m, LI k] S = .ok (.pv (.bl true)) S := by
  cases r with
  | own a =>
    obtain ⟨h1, h2⟩ := h
    refine run_rt (T := [.dict [.str tO, .str tN] [.int ((m : Int) - 1), .int 12]]) (e := ⟨3, 4, k8⟩) rfl rfl (u8 _) ?_
    refine rt_seq (st_ifF (tt_k (by kernel_rfl)) st_end) ?_
    refine rt_now (rt_ifT (tt_k (by kernel_rfl)) ?_)
    refine rt_seq (st_asgL (v_getd (tt := tO) (u := .int ((m : Int) - 1)) rfl (v_bin (v_var rfl) v_con rfl) v_con (fun _ => v_k (by kernel_rfl)) (fun _ => rfl) (by kernel_rfl))) ?_
    exact rt_now (rt_ret (v_call (vs_cons (v_idx (x := .tup [.str tO, .int a]) (v_var rfl) v_con rfl) (vs_cons v_con (vs_cons (v_var rfl) vs_nil))) (e0t h1 (by omega))))
  | num v =>
    obtain ⟨h1, h2⟩ := h
    refine run_rt (T := [.dict [.str tO, .str tN] [.int ((m : Int) - 1), .int 12]]) (e := ⟨3, 4, k8⟩) rfl rfl (u8 _) ?_
    refine rt_seq (st_ifF (tt_k (by kernel_rfl)) st_end) ?_
    refine rt_now (rt_ifT (tt_k (by kernel_rfl)) ?_)
    refine rt_seq (st_asgL (v_getd (tt := tN) (u := .int 12) rfl (v_bin (v_var rfl) v_con rfl) v_con (fun _ => v_k (by kernel_rfl)) (fun _ => rfl) (by kernel_rfl))) ?_
    exact rt_now (rt_ret (v_call (vs_cons (v_idx (x := .tup [.str tN, .int v]) (v_var rfl) v_con rfl) (vs_cons v_con (vs_cons (v_var rfl) vs_nil))) (e0t h1 (by omega))))
  | sum i j =>
    obtain ⟨⟨h1, h2⟩, h3, h4⟩ := h
    refine run_rt0 (e := ⟨3, 4, k8⟩) rfl rfl (u8 _) ?_
    refine rt_seq (st_ifF (tt_k (by kernel_rfl)) st_end) ?_
    refine rt_seq (st_ifF (tt_k (by kernel_rfl)) st_end) ?_
    refine rt_seq (st_ifF (tt_k (by kernel_rfl)) st_end) ?_
    exact rt_now (rt_ret (v_and (v_call (vs_cons (v_idx (x := .tup [.str tS, .int i, .int j]) (v_var rfl) v_con rfl) (vs_cons v_con (vs_cons (v_bin (v_var rfl) v_con rfl) vs_nil))) (e0t h1 (by omega)))
      (v_call (vs_cons (v_idx (x := .tup [.str tS, .int i, .int j]) (v_var rfl) v_con rfl) (vs_cons v_con (vs_cons (v_bin (v_var rfl) v_con rfl) vs_nil))) (e0t h3 (by omega)))))
  | tim i j =>
    obtain ⟨_, ⟨h1, h2⟩, h3, h4⟩ := h
    refine run_rt0 (e := ⟨3, 4, k8⟩) rfl rfl (u8 _) ?_
    refine rt_seq (st_ifF (tt_k (by kernel_rfl)) st_end) ?_
    refine rt_seq (st_ifF (tt_k (by kernel_rfl)) st_end) ?_
    refine rt_seq (st_ifF (tt_k (by kernel_rfl)) st_end) ?_
    exact rt_now (rt_ret (v_and (v_call (vs_cons (v_idx (x := .tup [.str tM, .int i, .int j]) (v_var rfl) v_con rfl) (vs_cons v_con (vs_cons (v_bin (v_var rfl) v_con rfl) vs_nil))) (e0t h1 (by omega)))
      (v_call (vs_cons (v_idx (x := .tup [.str tM, .int i, .int j]) (v_var rfl) v_con rfl) (vs_cons v_con (vs_cons (v_bin (v_var rfl) v_con rfl) vs_nil))) (e0t h3 (by omega)))))
theorem e9 (h : okS m tm sh) (h1 : 1 ≤ sh.length) (h2 : sh.length ≤ 8) : K (n + 3) 9 [LI m, .pv (shP sh)] S = .ok (.pv .non) S := by
  have hl : Vl (kblt .len false (kcons (kvar 1) knil)) [some (LI m), some (.pv (shP sh)), none, none] S (.int sh.length) := v_blt1 (x := shP sh) (v_var rfl) (by
    show some (PV.int ((sh.map Rw.pv).length : Nat)) = _
    rw [List.length_map])
  obtain ⟨ρ', hf, o⟩ := st_for (α := Rw × Nat) (β := Unit) (S := S) (ρ := [some (LI m), some (.pv (shP sh)), none, none]) (t := .t2 (.nm 2) (.nm 3)) (it := kenum (kvar 1)) (bd := kseq (kif (knot (kcall ⟨runK KP 100 (n + 2), 100⟩ 8 (kcons (kvar 3) (kcons (kvar 0) (kcons (kvar 2) knil))))) (kseq (kexp kno) kend) kend) kend)
    (g := fun q => .pv (.tup [.int q.2, q.1.pv])) (as := sh.zipIdx) (Pr := fun _ ρ => ∃ o o', ρ = [some (LI m), some (.pv (shP sh)), o, o']) (T := fun _ => S) (step := fun _ _ => ()) (q := ())
    (by
      show Res.ok ((enumP 0 (sh.map Rw.pv)).map LV.pv) S = _
      rw [enum_map, List.map_map]; rfl) ⟨_, _, rfl⟩
    (fun q hq u ρ ⟨o, o', e⟩ => by
      subst e
      have hk := List.mem_zipIdx_iff_getElem?.mp hq
      exact ⟨_, _, rfl, st_seq (st_ifF (tt_notT (tt_call (vs_cons (v_var rfl) (vs_cons (v_var rfl) (vs_cons (v_var rfl) vs_nil))) (e8 (h q.2 q.1 hk)))) st_end) st_end, _, _, rfl⟩)
  exact run_nx0 (e := ⟨2, 4, k9⟩) rfl rfl (u9 _) (st_seq (st_ifF (tt_orF (tt_k (by kernel_rfl)) (tt_notT (c_chain v_con hl v_con (by omega) (by omega)))) st_end) (st_seq hf st_end))
/-! what a sheet is worth -/
def gI (l : List Int) (i : Int) : Int := l.getD i.toNat 0
def val (p : Int) (th f : List Int) : Rw → Int
  | .own a => gI th a
  | .num v => v % p
  | .sum i j => (gI f i + gI f j) % p
  | .tim i j => (gI f i * gI f j) % p
def vstep (p : Int) (th : List Int) (f : List Int) (r : Rw) : List Int := f ++ [val p th f r]
def vals (p : Int) (th : List Int) (sh : List Rw) : List Int := sh.foldl (vstep p th) []
def lst (l : List Int) : Int := l.getD (l.length - 1) 0
theorem gI_in {l : List Int} {i : Int} (h : In p l) (h0 : 0 ≤ i) (h1 : i < l.length) : 0 ≤ gI l i ∧ gI l i < p := by
  have hk : i.toNat < l.length := by omega
  unfold gI
  rw [List.getD_eq_getElem?_getD, List.getElem?_eq_getElem hk]
  exact h _ (List.getElem_mem hk)
theorem val_in {th f : List Int} {r : Rw} (hp : PR p) (ht : In p th) (hl : th.length = m) (h : okR m tm f.length r) : 0 ≤ val p th f r ∧ val p th f r < p := by
  have e : ∀ x : Int, 0 ≤ x % p ∧ x % p < p := fun x => ⟨Int.emod_nonneg _ (by have := hp.pos; omega), Int.emod_lt_of_pos _ hp.pos⟩
  cases r with
  | own a => exact gI_in ht h.1 (by have := h.2; omega)
  | num v => exact e _
  | sum i j => exact e _
  | tim i j => exact e _
theorem In_snoc {l : List Int} {x : Int} (h : In p l) (hx : 0 ≤ x ∧ x < p) : In p (l ++ [x]) := fun y hy => by
  rcases List.mem_append.mp hy with hy | hy
  · exact h y hy
  · rw [List.mem_singleton.mp hy]; exact hx
theorem vals_prop {th : List Int} (hp : PR p) (ht : In p th) (hl : th.length = m) : ∀ (sh done : List Rw) (f : List Int), okS m tm (done ++ sh) → f.length = done.length → In p f → In p (sh.foldl (vstep p th) f) ∧ (sh.foldl (vstep p th) f).length = f.length + sh.length
  | [], done, f, _, _, hi => ⟨hi, rfl⟩
  | r :: sh, done, f, ho, he, hi => by
    have hr : okR m tm f.length r := ho f.length r (by rw [he]; simp)
    obtain ⟨a, b⟩ := vals_prop hp ht hl sh (done ++ [r]) (vstep p th f r) (by rw [List.append_assoc]; exact ho) (by simp [vstep, he]) (In_snoc hi (val_in hp ht hl hr))
    refine ⟨a, ?_⟩
    show ((sh.foldl (vstep p th) (vstep p th f r))).length = _
    rw [b]; simp [vstep]; omega
theorem vals_in {th : List Int} (hp : PR p) (ht : In p th) (hl : th.length = m) (ho : okS m tm sh) : In p (vals p th sh) ∧ (vals p th sh).length = sh.length := by
  obtain ⟨a, b⟩ := vals_prop hp ht hl sh [] [] (by simpa using ho) rfl (fun _ h => nomatch h)
  exact ⟨a, by unfold vals; rw [b]; simp⟩
theorem e11 {th : List Int} (hp : PR p) (hm : MM m) (ht : In p th) (hl : th.length = m) (ho : okS m tm sh) (h1 : 1 ≤ sh.length) (h2 : sh.length ≤ 8) : K (n + 4) 11 [LI p, LI m, .pv (shP sh), .pv (tI th)] S = .ok (LI (lst (vals p th sh))) S := by
  refine run_rt (T := [.dead]) (e := ⟨4, 6, k11⟩) rfl rfl (u11 _) ?_
  have hm2 : 2 ≤ m ∧ m ≤ 4 := by rcases hm with rfl | rfl | rfl <;> omega
  refine rt_seq (st_exp (v_call (vs_cons (v_var rfl) vs_nil) (e2 hp))) ?_
  refine rt_seq (st_exp (v_call (vs_cons (v_var rfl) (vs_cons v_con (vs_cons v_con vs_nil))) (e1 (by omega) (by omega)))) ?_
  refine rt_seq (st_exp (v_call (vs_cons (v_var rfl) (vs_cons (v_var rfl) vs_nil)) (e9 ho h1 h2))) ?_
  refine rt_seq (st_exp (v_call (vs_cons (v_var rfl) (vs_cons (v_var rfl) (vs_cons (v_var rfl) vs_nil))) (e10 ht hl (by omega)))) ?_
  refine rt_seq st_new ?_
  obtain ⟨ρ', hf, hlen, hin, o, rfl⟩ := st_forI (α := Rw) (β := List Int) (S := S ++ [.lst []]) (ρ := [some (LI p), some (LI m), some (.pv (shP sh)), some (.pv (tI th)), some (.ref S.length), none]) (t := .nm 5) (it := kex (kvar 2))
    (g := fun r => .pv r.pv) (as := sh) (Pr := fun k f ρ => f.length = k ∧ In p f ∧ ∃ o, ρ = [some (LI p), some (LI m), some (.pv (shP sh)), some (.pv (tI th)), some (.ref S.length), o]) (T := fun f => S ++ [.lst (f.map .int)]) (step := vstep p th) (q := [])
    (bd := kseq (kif (kcmp .eq (kidx (kvar 5) (kcon (.int 0))) (kcon (.str [111, 119, 110]))) (kseq (kexp (kmth .append (kvar 4) (kcons (kidx (kvar 3) (kidx (kvar 5) (kcon (.int 1)))) knil))) kend) (kseq (kif (kcmp .eq (kidx (kvar 5) (kcon (.int 0))) (kcon (.str [110, 117, 109, 98, 101, 114]))) (kseq (kexp (kmth .append (kvar 4) (kcons (kbin .mod (kidx (kvar 5) (kcon (.int 1))) (kvar 0)) knil))) kend) (kseq (kif (kcmp .eq (kidx (kvar 5) (kcon (.int 0))) (kcon (.str [115, 117, 109]))) (kseq (kexp (kmth .append (kvar 4) (kcons (kbin .mod (kbin .add (kidx (kvar 4) (kidx (kvar 5) (kcon (.int 1)))) (kidx (kvar 4) (kidx (kvar 5) (kcon (.int 2))))) (kvar 0)) knil))) kend) (kseq (kexp (kmth .append (kvar 4) (kcons (kbin .mod (kbin .mul (kidx (kvar 4) (kidx (kvar 5) (kcon (.int 1)))) (kidx (kvar 4) (kidx (kvar 5) (kcon (.int 2))))) (kvar 0)) knil))) kend)) kend)) kend)) kend)
    (by rw [it_ex (xs := sh.map Rw.pv) (v_var rfl), List.map_map]; rfl) ⟨rfl, (fun _ h => nomatch h), _, rfl⟩
    (fun k r hk f ρ ⟨hlen, hin, o, e⟩ => by
      subst e
      have hr := ho k r hk
      have hkl : k < 8 := by have := (List.getElem?_eq_some_iff.mp hk).1; omega
      have hv : 0 ≤ val p th f r ∧ val p th f r < p := val_in hp ht hl (by rw [hlen]; exact hr)
      have ap : ∀ {e : Ev} {o : Option LV}, Vl e [some (LI p), some (LI m), some (.pv (shP sh)), some (.pv (tI th)), some (.ref S.length), o] (S ++ [.lst (f.map .int)]) (.int (val p th f r)) → St (kexp (kmth .append (kvar 4) (kcons e knil))) [some (LI p), some (LI m), some (.pv (shP sh)), some (.pv (tI th)), some (.ref S.length), o] (S ++ [.lst (f.map .int)]) [some (LI p), some (LI m), some (.pv (shP sh)), some (.pv (tI th)), some (.ref S.length), o] (S ++ [.lst ((vstep p th f r).map .int)]) := fun {e o} h => by
        have q := st_app (j := 4) (k := S.length) (l := f.map .int) rfl at_last h (by rw [List.length_map]; omega)
        rw [set_last] at q
        unfold vstep
        rw [List.map_append]
        exact q
      refine ⟨_, [some (LI p), some (LI m), some (.pv (shP sh)), some (.pv (tI th)), some (.ref S.length), some (.pv r.pv)], rfl, st_seq ?_ st_end, by simp [vstep, hlen], In_snoc hin hv, _, rfl⟩
      cases r with
      | own a => exact st_ifT (tt_k (by kernel_rfl)) (st_seq (ap (v_idx (v_var rfl) (v_idx (x := .tup [.str tO, .int a]) (v_var rfl) v_con rfl) (ixIt hr.1 (by have := hr.2; omega)))) st_end)
      | num v => exact st_ifF (tt_k (by kernel_rfl)) (st_seq (st_ifT (tt_k (by kernel_rfl)) (st_seq (ap (v_bin (v_idx (x := .tup [.str tN, .int v]) (v_var rfl) v_con rfl) (v_var rfl) (bmod hp.pos _))) st_end)) st_end)
      | sum i j => exact st_ifF (tt_k (by kernel_rfl)) (st_seq (st_ifF (tt_k (by kernel_rfl)) (st_seq (st_ifT (tt_k (by kernel_rfl)) (st_seq (ap (v_bin (v_bin (v_idxr rfl at_last (v_idx (x := .tup [.str tS, .int i, .int j]) (v_var rfl) v_con rfl) (ixI hr.1.1 (by have := hr.1.2; omega))) (v_idxr rfl at_last (v_idx (x := .tup [.str tS, .int i, .int j]) (v_var rfl) v_con rfl) (ixI hr.2.1 (by have := hr.2.2; omega))) rfl) (v_var rfl) (bmod hp.pos _))) st_end)) st_end)) st_end)
      | tim i j =>
        have hj := gI_in hin hr.2.2.1 (by have := hr.2.2.2; omega)
        exact st_ifF (tt_k (by kernel_rfl)) (st_seq (st_ifF (tt_k (by kernel_rfl)) (st_seq (st_ifF (tt_k (by kernel_rfl)) (st_seq (ap (v_bin (v_bin (v_idxr rfl at_last (v_idx (x := .tup [.str tM, .int i, .int j]) (v_var rfl) v_con rfl) (ixI hr.2.1.1 (by have := hr.2.1.2; omega))) (v_idxr rfl at_last (v_idx (x := .tup [.str tM, .int i, .int j]) (v_var rfl) v_con rfl) (ixI hr.2.2.1 (by have := hr.2.2.2; omega))) (bmul hj.1 (by have := hp.lt; have := hj.2; unfold gI at *; omega))) (v_var rfl) (bmod hp.pos _))) st_end)) st_end)) st_end))
  refine rt_seq hf ?_
  refine rt_seq (st_frz (k := S.length) (l := (sh.foldl (vstep p th) []).map .int) rfl at_last) ?_
  rw [set_last]
  exact rt_now (rt_ret (v_idx (v_var rfl) rfl (ixLast (by rw [hlen]; omega))))
end Ck30

namespace Ck30
open Gp
variable {n : Nat} {S : Store} {p : Int} {m z : Nat} {tm : Bool} {sh : List Rw}
theorem e22 {th : List Int} (hp : PR p) (ht : In p th) (hl : th.length = m) (ho : okS m tm sh) (h1 : 1 ≤ sh.length) (h2 : sh.length ≤ 8) : K (n + 1) 22 [LI p, .pv (shP sh), .pv (tI th)] S = .ok (LI (lst (vals p th sh))) S := by
  refine run_rt (T := [.dead]) (e := ⟨3, 7, k22⟩) rfl rfl (u22 _) ?_
  refine rt_seq st_new ?_
  obtain ⟨ρ', hf, hlen, hin, o1, o2, o3, rfl⟩ := st_forI (α := Rw) (β := List Int) (S := S ++ [.lst []]) (ρ := [some (LI p), some (.pv (shP sh)), some (.pv (tI th)), some (.ref S.length), none, none, none]) (t := .nm 4) (it := kex (kvar 1))
    (g := fun r => .pv r.pv) (as := sh) (Pr := fun k f ρ => f.length = k ∧ In p f ∧ ∃ o1 o2 o3, ρ = [some (LI p), some (.pv (shP sh)), some (.pv (tI th)), some (.ref S.length), o1, o2, o3]) (T := fun f => S ++ [.lst (f.map .int)]) (step := vstep p th) (q := [])
    (bd := kseq (kif (kcmp .eq (kblt .len false (kcons (kvar 4) knil)) (kcon (.int 2))) (kseq (kexp (kmth .append (kvar 3) (kcons (kite (kcmp .eq (kidx (kvar 4) (kcon (.int 0))) (kcon (.str [111, 119, 110]))) (kidx (kvar 2) (kidx (kvar 4) (kcon (.int 1)))) (kbin .mod (kidx (kvar 4) (kcon (.int 1))) (kvar 0))) knil))) kend) (kseq (kpar [5, 6] (kcons (kidx (kvar 3) (kidx (kvar 4) (kcon (.int 1)))) (kcons (kidx (kvar 3) (kidx (kvar 4) (kcon (.int 2)))) knil))) (kseq (kexp (kmth .append (kvar 3) (kcons (kbin .mod (kite (kcmp .eq (kidx (kvar 4) (kcon (.int 0))) (kcon (.str [115, 117, 109]))) (kbin .add (kvar 5) (kvar 6)) (kbin .mul (kvar 5) (kvar 6))) (kvar 0)) knil))) kend))) kend)
    (by rw [it_ex (xs := sh.map Rw.pv) (v_var rfl), List.map_map]; rfl) ⟨rfl, (fun _ h => nomatch h), _, _, _, rfl⟩
    (fun k r hk f ρ ⟨hlen, hin, o1, o2, o3, e⟩ => by
      subst e
      have hr := ho k r hk
      have hkl : k < 8 := by have := (List.getElem?_eq_some_iff.mp hk).1; omega
      have hv : 0 ≤ val p th f r ∧ val p th f r < p := val_in hp ht hl (by rw [hlen]; exact hr)
      have ap : ∀ {e : Ev} {o1 o2 o3 : Option LV}, Vl e [some (LI p), some (.pv (shP sh)), some (.pv (tI th)), some (.ref S.length), o1, o2, o3] (S ++ [.lst (f.map .int)]) (.int (val p th f r)) → St (kexp (kmth .append (kvar 3) (kcons e knil))) [some (LI p), some (.pv (shP sh)), some (.pv (tI th)), some (.ref S.length), o1, o2, o3] (S ++ [.lst (f.map .int)]) [some (LI p), some (.pv (shP sh)), some (.pv (tI th)), some (.ref S.length), o1, o2, o3] (S ++ [.lst ((vstep p th f r).map .int)]) := fun {e o1 o2 o3} h => by
        have q := st_app (j := 3) (k := S.length) (l := f.map .int) rfl at_last h (by rw [List.length_map]; omega)
        rw [set_last] at q
        unfold vstep
        rw [List.map_append]
        exact q
      cases r with
      | own a => exact ⟨_, _, rfl, st_seq (st_ifT (tt_k (by kernel_rfl)) (st_seq (ap (v_ite (t := true) (tt_k (by kernel_rfl)) (fun _ => v_idx (v_var rfl) (v_idx (x := .tup [.str tO, .int a]) (v_var rfl) v_con rfl) (ixIt hr.1 (by have := hr.2; omega))) (fun h => nomatch h))) st_end)) st_end, by simp [vstep, hlen], In_snoc hin hv, _, _, _, rfl⟩
      | num v => exact ⟨_, _, rfl, st_seq (st_ifT (tt_k (by kernel_rfl)) (st_seq (ap (v_ite (t := false) (tt_k (by kernel_rfl)) (fun h => nomatch h) (fun _ => v_bin (v_idx (x := .tup [.str tN, .int v]) (v_var rfl) v_con rfl) (v_var rfl) (bmod hp.pos _)))) st_end)) st_end, by simp [vstep, hlen], In_snoc hin hv, _, _, _, rfl⟩
      | sum i j => exact ⟨_, _, rfl, st_seq (st_ifF (tt_k (by kernel_rfl)) (st_seq (st_par (vs_cons (v_idxr rfl at_last (v_idx (x := .tup [.str tS, .int i, .int j]) (v_var rfl) v_con rfl) (ixI hr.1.1 (by have := hr.1.2; omega))) (vs_cons (v_idxr rfl at_last (v_idx (x := .tup [.str tS, .int i, .int j]) (v_var rfl) v_con rfl) (ixI hr.2.1 (by have := hr.2.2; omega))) vs_nil)) rfl) (st_seq (ap (v_bin (v_ite (t := true) (tt_k (by kernel_rfl)) (fun _ => v_bin (v_var rfl) (v_var rfl) rfl) (fun h => nomatch h)) (v_var rfl) (bmod hp.pos _))) st_end))) st_end, by simp [vstep, hlen], In_snoc hin hv, _, _, _, rfl⟩
      | tim i j =>
        have hj := gI_in hin hr.2.2.1 (by have := hr.2.2.2; omega)
        exact ⟨_, _, rfl, st_seq (st_ifF (tt_k (by kernel_rfl)) (st_seq (st_par (vs_cons (v_idxr rfl at_last (v_idx (x := .tup [.str tM, .int i, .int j]) (v_var rfl) v_con rfl) (ixI hr.2.1.1 (by have := hr.2.1.2; omega))) (vs_cons (v_idxr rfl at_last (v_idx (x := .tup [.str tM, .int i, .int j]) (v_var rfl) v_con rfl) (ixI hr.2.2.1 (by have := hr.2.2.2; omega))) vs_nil)) rfl) (st_seq (ap (v_bin (v_ite (t := false) (tt_k (by kernel_rfl)) (fun h => nomatch h) (fun _ => v_bin (v_var rfl) (v_var rfl) (bmul hj.1 (by have := hp.lt; have := hj.2; unfold gI at *; omega)))) (v_var rfl) (bmod hp.pos _))) st_end))) st_end, by simp [vstep, hlen], In_snoc hin hv, _, _, _, rfl⟩)
  refine rt_seq hf ?_
  refine rt_seq (st_frz (k := S.length) (l := (sh.foldl (vstep p th) []).map .int) rfl at_last) ?_
  rw [set_last]
  exact rt_now (rt_ret (v_idx (v_var rfl) rfl (ixLast (by rw [hlen]; omega))))
def isM : Rw → Bool
  | .tim _ _ => true
  | _ => false
def hasM (sh : List Rw) : Bool := sh.any isM
def cn (m z : Nat) : Rw → Int
  | .own _ => z
  | .tim _ _ => m * z
  | _ => 0
def cnt (m z : Nat) (sh : List Rw) : Int := (sh.map (cn m z)).sum
theorem blsOf_map {α : Type} (f : α → Bool) : ∀ xs : List α, blsOf (xs.map fun x => PV.bl (f x)) = some (xs.map f)
  | [] => rfl
  | x :: xs => by
    show (blsOf (xs.map fun x => PV.bl (f x))).map (f x :: ·) = _
    rw [blsOf_map f xs]; rfl
theorem e12 (h8 : sh.length ≤ 8) (hz : z < 1000) (h : (if hasM sh then 2 * z else z) < m) : K (n + 1) 12 [LI m, LI z, .pv (shP sh)] S = .ok (.pv .non) S := by
  refine run_nx0 (ρ' := [some (LI m), some (LI z), some (.pv (shP sh)), some (.pv (.bl (hasM sh))), none]) (e := ⟨3, 5, k12⟩) rfl rfl (u12 _) ?_
  have a := v_lc (ws := [4]) (a := kcmp .eq (kidx (kvar 4) (kcon (.int 0))) (kcon (.str [116, 105, 109, 101, 115]))) (b := kno) (t := .nm 4) (it := kex (kvar 2)) (g := fun r : Rw => .pv r.pv) (h := fun r => .bl (isM r)) (as := sh) (S := S) (ρ := [some (LI m), some (LI z), some (.pv (shP sh)), none, none])
    (by rw [it_ex (xs := sh.map Rw.pv) (v_var rfl), List.map_map]; rfl) (fun r _ => ⟨_, rfl, by cases r <;> exact v_k (by kernel_rfl)⟩) (by omega)
  have b := v_blt1 a (f := .any) (z := .bl (hasM sh)) (by
    show (blsOf (sh.map fun r => PV.bl (isM r))).map (fun l => PV.bl (l.any id)) = _
    rw [blsOf_map]
    show some (PV.bl ((sh.map isM).any id)) = _
    rw [List.any_map]; rfl)
  refine st_seq (st_asg b) (st_seq (st_ifF (tt_cmp (x := .int (if hasM sh then 2 * (z : Int) else z)) (v_ite (t := hasM sh) (tt_var rfl) (fun e => ?_) (fun e => ?_)) (v_var rfl) ?_) st_end) st_end)
  · rw [e]; exact v_bin v_con (v_var rfl) (bmul (by omega) (by omega))
  · rw [e]; exact v_var rfl
  · show Res.ok (LV.pv (.bl (decide ((m : Int) ≤ if hasM sh then 2 * (z : Int) else z)))) S = _
    rw [decide_eq_false]
    cases e : hasM sh with
    | true => rw [e] at h; simp at h ⊢; omega
    | false => rw [e] at h; simp at h ⊢; omega
theorem sum_map (f : Rw → Int) (xs : List Rw) : builtin .sum [.lst (xs.map fun r => .int (f r))] = some (.int ((xs.map f).sum)) := by
  show (intsOf (xs.map fun r => PV.int (f r))).map (fun l => PV.int l.sum) = _
  have e : (xs.map fun r => PV.int (f r)) = (xs.map f).map .int := by rw [List.map_map]; rfl
  rw [e, intsOf_map]; rfl
theorem e13 (h8 : sh.length ≤ 8) (hz : z < 1000) : K (n + 1) 13 [LI m, LI z, .pv (shP sh)] S = .ok (LI (cnt m z sh)) S := by
  refine run_rt (T := sh.map fun _ => .dict [.str tO, .str tM] [.int z, .int (m * z)]) (e := ⟨3, 4, k13⟩) rfl rfl (u13 _) (rt_now (rt_ret (v_bltG (v_lcG (g := fun r : Rw => .pv r.pv) (h := fun r => .int (cn m z r)) (dd := fun _ => .dict [.str tO, .str tM] [.int z, .int (m * z)]) (as := sh) ?_ ?_ (by omega)) (sum_map _ _))))
  · rw [it_ex (xs := sh.map Rw.pv) (v_var rfl), List.map_map]; rfl
  · intro r _ T
    refine ⟨_, rfl, ?_⟩
    have mz : binop .mul (.int m) (.int z) = some (.int (m * z)) := bmul (by omega) (by omega)
    cases r with
    | own a => exact v_getd (tt := tO) rfl (v_var rfl) (v_bin (v_var rfl) (v_var rfl) mz) (fun _ => v_k (by kernel_rfl)) (fun _ => rfl) (by kernel_rfl)
    | num v => exact v_getd (tt := tN) rfl (v_var rfl) (v_bin (v_var rfl) (v_var rfl) mz) (fun _ => v_k (by kernel_rfl)) (fun _ => rfl) (by kernel_rfl)
    | sum i j => exact v_getd (tt := tS) rfl (v_var rfl) (v_bin (v_var rfl) (v_var rfl) mz) (fun _ => v_k (by kernel_rfl)) (fun _ => rfl) (by kernel_rfl)
    | tim i j => exact v_getd (tt := tM) rfl (v_var rfl) (v_bin (v_var rfl) (v_var rfl) mz) (fun _ => v_k (by kernel_rfl)) (fun _ => rfl) (by kernel_rfl)
theorem e27 (h8 : sh.length ≤ 8) (hz : z < 1000) : K (n + 1) 27 [LI m, LI z, .pv (shP sh)] S = .ok (LI (cnt m z sh)) S := by
  refine run_rt0 (e := ⟨3, 4, k27⟩) rfl rfl (u27 _) (rt_now (rt_ret (v_blt1 (v_lc (g := fun r : Rw => .pv r.pv) (h := fun r => .int (cn m z r)) (as := sh) ?_ ?_ (by omega)) (sum_map _ _))))
  · rw [it_ex (xs := sh.map Rw.pv) (v_var rfl), List.map_map]; rfl
  · intro r _
    refine ⟨_, rfl, ?_⟩
    have mz : binop .mul (.int m) (.int z) = some (.int (m * z)) := bmul (by omega) (by omega)
    cases r with
    | own a => exact v_ite (t := true) (tt_k (by kernel_rfl)) (fun _ => v_var rfl) (fun h => nomatch h)
    | num v => exact v_ite (t := false) (tt_k (by kernel_rfl)) (fun h => nomatch h) (fun _ => v_ite (t := false) (tt_k (by kernel_rfl)) (fun h => nomatch h) (fun _ => v_con))
    | sum i j => exact v_ite (t := false) (tt_k (by kernel_rfl)) (fun h => nomatch h) (fun _ => v_ite (t := false) (tt_k (by kernel_rfl)) (fun h => nomatch h) (fun _ => v_con))
    | tim i j => exact v_ite (t := false) (tt_k (by kernel_rfl)) (fun h => nomatch h) (fun _ => v_ite (t := true) (tt_k (by kernel_rfl)) (fun _ => v_bin (v_var rfl) (v_var rfl) mz) (fun h => nomatch h))
theorem e14 (hm : MM m) (hz : z = 1 ∨ z = 2) (ho : okS m tm sh) (h1 : 1 ≤ sh.length) (h8 : sh.length ≤ 8) (h : (if hasM sh then 2 * z else z) < m) : K (n + 4) 14 [LI m, LI z, .pv (shP sh)] S = .ok (LI (cnt m z sh)) S := by
  have hm2 : 2 ≤ m ∧ m ≤ 4 := by rcases hm with rfl | rfl | rfl <;> omega
  refine run_rt0 (e := ⟨3, 3, k14⟩) rfl rfl (u14 _) ?_
  refine rt_seq (st_exp (v_call (vs_cons (v_var rfl) (vs_cons v_con (vs_cons v_con vs_nil))) (e1 (by omega) (by omega)))) ?_
  refine rt_seq (st_exp (v_call (vs_cons (v_var rfl) (vs_cons v_con (vs_cons v_con vs_nil))) (e1 (by omega) (by omega)))) ?_
  refine rt_seq (st_exp (v_call (vs_cons (v_var rfl) (vs_cons (v_var rfl) vs_nil)) (e9 ho h1 h8))) ?_
  refine rt_seq (st_exp (v_call (vs_cons (v_var rfl) (vs_cons (v_var rfl) (vs_cons (v_var rfl) vs_nil))) (e12 h8 (by omega) h))) ?_
  exact rt_now (rt_ret (v_call (vs_cons (v_var rfl) (vs_cons (v_var rfl) (vs_cons (v_var rfl) vs_nil))) (e13 h8 (by omega))))
theorem e16 {th : List Int} (hp : PR p) (hm : MM m) (hz : z = 1 ∨ z = 2) (ht : In p th) (hl : th.length = m) (ho : okS m tm sh) (h1 : 1 ≤ sh.length) (h8 : sh.length ≤ 8) : K (n + 4) 16 [LI p, LI m, LI z, .pv (shP sh), .pv (tI th)] S = .ok (.pv .non) S := by
  have hm2 : 2 ≤ m ∧ m ≤ 4 := by rcases hm with rfl | rfl | rfl <;> omega
  refine run_nx0 (ρ' := [some (LI p), some (LI m), some (LI z), some (.pv (shP sh)), some (.pv (tI th))]) (e := ⟨5, 5, k16⟩) rfl rfl (u16 _) ?_
  refine st_seq (st_exp (v_call (vs_cons (v_var rfl) vs_nil) (e2 hp))) ?_
  refine st_seq (st_exp (v_call (vs_cons (v_var rfl) (vs_cons v_con (vs_cons v_con vs_nil))) (e1 (by omega) (by omega)))) ?_
  refine st_seq (st_exp (v_call (vs_cons (v_var rfl) (vs_cons v_con (vs_cons v_con vs_nil))) (e1 (by omega) (by omega)))) ?_
  refine st_seq (st_exp (v_call (vs_cons (v_var rfl) (vs_cons (v_var rfl) vs_nil)) (e9 ho h1 h8))) ?_
  exact st_seq (st_exp (v_call (vs_cons (v_var rfl) (vs_cons (v_var rfl) (vs_cons (v_var rfl) vs_nil))) (e10 ht hl (by omega)))) st_end
end Ck30

namespace Ck30
open Gp
variable {n : Nat} {S : Store} {p : Int} {m z : Nat} {tm : Bool} {sh : List Rw}
def slc (cs : List Int) (i z : Nat) : List Int := (cs.drop i).take z
def gF (F : List (List Int)) (i : Int) : List Int := F.getD i.toNat []
def addL (p : Int) (xs ys : List Int) : List Int := (xs.zip ys).map fun q => (q.1 + q.2) % p
def mix (p : Int) (m : Nat) (w : List Int) (ss : List (List Int)) : List Int := (List.range m).map fun (k : Nat) => ((w.zip ss).map fun q => q.1 * gI q.2 (k : Int)).sum % p
def tstep (p : Int) (m z : Nat) (cs a b : List Int) (q : List (List Int) × Nat) (k : Nat) : List (List Int) × Nat := (q.1 ++ [dl p (gI a (k : Int) * gI b (k : Int) % p) m (slc cs q.2 z)], q.2 + z)
def tims (p : Int) (m z : Nat) (cs a b : List Int) (i : Nat) : List (List Int) × Nat := (List.range m).foldl (tstep p m z cs a b) ([], i)
structure Q where
  F : List (List Int)
  D : List (PV × List (List Int))
  i : Nat
  t : Nat
def givM (m : Nat) : PV := .tup ((List.range m).map fun (k : Nat) => .int (k : Int))
def sstep (p : Int) (m z : Nat) (w th cs : List Int) (q : Q) : Rw → Q
  | .own a => ⟨q.F ++ [dl p (gI th a) m (slc cs q.i z)], q.D ++ [(.tup [.int a], [dl p (gI th a) m (slc cs q.i z)])], q.i + z, q.t⟩
  | .num v => ⟨q.F ++ [List.replicate m (v % p)], q.D, q.i, q.t⟩
  | .sum i j => ⟨q.F ++ [addL p (gF q.F i) (gF q.F j)], q.D, q.i, q.t⟩
  | .tim i j => ⟨q.F ++ [mix p m w (tims p m z cs (gF q.F i) (gF q.F j) q.i).1], q.D ++ [(givM m, (tims p m z cs (gF q.F i) (gF q.F j) q.i).1)], q.i + m * z, q.t + 1⟩
def fin (p : Int) (m z : Nat) (w th cs : List Int) (sh : List Rw) : Q := sh.foldl (sstep p m z w th cs) ⟨[], [], 0, 0⟩
def FP (F : List (List Int)) : List PV := F.map tI
def DP (D : List (PV × List (List Int))) : List PV := D.map fun d => .tup (d.2.map tI)
def DL (D : List (PV × List (List Int))) : List PV := D.map fun d => .tup [d.1, .tup (d.2.map tI)]
def B (ns : List Int) (i s r : Int) (F D : List PV) (t : Nat) : Store := rowT ns i s r (.lst F :: .lst D :: List.replicate t .dead)
theorem B_dead {ns : List Int} {i s r : Int} {F D : List PV} {t : Nat} : B ns i s r F D t ++ [.dead] = B ns i s r F D (t + 1) := by
  show _ :: _ :: _ :: (List.replicate t SO.dead ++ [.dead]) = _ :: _ :: _ :: List.replicate (t + 1) SO.dead
  rw [List.replicate_succ']
theorem dl_len {s : Int} {cs : List Int} : (dl p s m cs).length = m := by unfold dl; simp
theorem hor_in (hp : PR p) (s j : Int) (cs : List Int) : 0 ≤ hor p s j cs ∧ hor p s j cs < p := ⟨Int.emod_nonneg _ (by have := hp.pos; omega), Int.emod_lt_of_pos _ hp.pos⟩
theorem dl_in (hp : PR p) {s : Int} {cs : List Int} : In p (dl p s m cs) := fun x hx => by
  obtain ⟨k, _, rfl⟩ := List.mem_map.mp hx
  exact hor_in hp _ _ _
/-- what stays of the shares -/
structure Good (p : Int) (m : Nat) (F : List (List Int)) : Prop where
  len : ∀ f ∈ F, f.length = m
  inn : ∀ f ∈ F, In p f
theorem Good.get {F : List (List Int)} (g : Good p m F) {i : Int} (h0 : 0 ≤ i) (h1 : i < F.length) : (gF F i).length = m ∧ In p (gF F i) := by
  have hk : i.toNat < F.length := by omega
  unfold gF
  rw [List.getD_eq_getElem?_getD, List.getElem?_eq_getElem hk]
  exact ⟨g.len _ (List.getElem_mem hk), g.inn _ (List.getElem_mem hk)⟩
theorem Good.snoc {F : List (List Int)} {f : List Int} (g : Good p m F) (h : f.length = m) (h2 : In p f) : Good p m (F ++ [f]) := ⟨fun x hx => by
  rcases List.mem_append.mp hx with hx | hx
  · exact g.len x hx
  · rw [List.mem_singleton.mp hx]; exact h, fun x hx => by
  rcases List.mem_append.mp hx with hx | hx
  · exact g.inn x hx
  · rw [List.mem_singleton.mp hx]; exact h2⟩
theorem em_in (hp : PR p) (x : Int) : 0 ≤ x % p ∧ x % p < p := ⟨Int.emod_nonneg _ (by have := hp.pos; omega), Int.emod_lt_of_pos _ hp.pos⟩
theorem addL_ok (hp : PR p) {xs ys : List Int} (h1 : xs.length = m) (h2 : ys.length = m) : (addL p xs ys).length = m ∧ In p (addL p xs ys) := ⟨by simp [addL, h1, h2], fun x hx => by
  obtain ⟨q, _, rfl⟩ := List.mem_map.mp hx
  exact em_in hp _⟩
theorem mix_ok (hp : PR p) {w : List Int} {ss : List (List Int)} : (mix p m w ss).length = m ∧ In p (mix p m w ss) := ⟨by simp [mix], fun x hx => by
  obtain ⟨q, _, rfl⟩ := List.mem_map.mp hx
  exact em_in hp _⟩
theorem rep_ok (hp : PR p) {v : Int} : (List.replicate m (v % p)).length = m ∧ In p (List.replicate m (v % p)) := ⟨by simp, fun x hx => by
  rw [(List.mem_replicate.mp hx).2]; exact em_in hp _⟩
theorem tims_prop (hp : PR p) {cs a b : List Int} : ∀ (ks : List Nat) (q : List (List Int) × Nat), Good p m q.1 → Good p m (ks.foldl (tstep p m z cs a b) q).1 ∧ (ks.foldl (tstep p m z cs a b) q).1.length = q.1.length + ks.length ∧ (ks.foldl (tstep p m z cs a b) q).2 = q.2 + ks.length * z
  | [], q, h => ⟨h, rfl, by simp⟩
  | k :: ks, q, h => by
    obtain ⟨a1, a2, a3⟩ := tims_prop hp ks (tstep p m z cs a b q k) (h.snoc dl_len (dl_in hp))
    refine ⟨a1, ?_, ?_⟩
    · rw [List.foldl_cons, a2]; simp [tstep]; omega
    · rw [List.foldl_cons, a3]; simp [tstep, Nat.add_mul]; omega
theorem tims_ok (hp : PR p) {cs a b : List Int} {i : Nat} : Good p m (tims p m z cs a b i).1 ∧ (tims p m z cs a b i).1.length = m ∧ (tims p m z cs a b i).2 = i + m * z := by
  obtain ⟨a1, a2, a3⟩ := tims_prop hp (z := z) (cs := cs) (a := a) (b := b) (m := m) (List.range m) ([], i) ⟨(fun _ h => nomatch h), fun _ h => nomatch h⟩
  refine ⟨a1, ?_, ?_⟩
  · unfold tims; rw [a2]; simp
  · unfold tims; rw [a3]; simp
/-- how many coins a row takes -/
def cN (m z : Nat) : Rw → Nat
  | .own _ => z
  | .tim _ _ => m * z
  | _ => 0
def cntN (m z : Nat) (sh : List Rw) : Nat := (sh.map (cN m z)).sum
theorem cnt_eq (sh : List Rw) : cnt m z sh = cntN m z sh := by
  induction sh with
  | nil => rfl
  | cons r sh ih =>
    show cn m z r + cnt m z sh = ((cN m z r + cntN m z sh : Nat) : Int)
    rw [ih]
    cases r <;> simp [cn, cN]
/-- what stays of the state -/
structure Inv (p : Int) (m z : Nat) (sh : List Rw) (cs : List Int) (k : Nat) (q : Q) : Prop where
  good : Good p m q.F
  len : q.F.length = k
  rest : q.i + cntN m z (sh.drop k) = cs.length
  D : q.D.length ≤ k
theorem Inv.next {w th cs : List Int} {k : Nat} {q : Q} {r : Rw} (hp : PR p) (I : Inv p m z sh cs k q) (ho : okS m tm sh) (hk : sh[k]? = some r) (hl : th.length = m) : Inv p m z sh cs (k + 1) (sstep p m z w th cs q r) ∧ q.i + cN m z r ≤ cs.length := by
  have hkl : k < sh.length := (List.getElem?_eq_some_iff.mp hk).1
  have hd : sh.drop k = r :: sh.drop (k + 1) := by
    rw [List.drop_eq_getElem_cons hkl, (List.getElem?_eq_some_iff.mp hk).2]
  have hr := ho k r hk
  have e := I.rest
  rw [hd] at e
  have e : q.i + (cN m z r + cntN m z (sh.drop (k + 1))) = cs.length := e
  have l := I.len
  have d := I.D
  refine ⟨?_, by omega⟩
  cases r with
  | own a => exact ⟨I.good.snoc dl_len (dl_in hp), by simp [sstep, l], by show q.i + z + _ = _; rw [← e]; simp [cN]; omega, by simp [sstep]; omega⟩
  | num v => exact ⟨I.good.snoc (rep_ok hp).1 (rep_ok hp).2, by simp [sstep, l], by show q.i + _ = _; rw [← e]; simp [cN], by simp [sstep]; omega⟩
  | sum i j =>
    have a1 := I.good.get hr.1.1 (by have := hr.1.2; omega)
    have a2 := I.good.get hr.2.1 (by have := hr.2.2; omega)
    exact ⟨I.good.snoc (addL_ok hp a1.1 a2.1).1 (addL_ok hp a1.1 a2.1).2, by simp [sstep, l], by show q.i + _ = _; rw [← e]; simp [cN], by simp [sstep]; omega⟩
  | tim i j => exact ⟨I.good.snoc (mix_ok hp).1 (mix_ok hp).2, by simp [sstep, l], by show q.i + m * z + _ = _; rw [← e]; simp [cN]; omega, by simp [sstep]; omega⟩
/-! slices -/
theorem slc_tup {cs : List Int} {i z : Nat} (h : i + z ≤ cs.length) : slice (tI cs) (some (i : Int)) (some ((i : Int) + z)) = some (tI (slc cs i z)) := by
  show some (PV.tup (cut (cs.map PV.int) (some (i : Int)) (some ((i : Int) + z)))) = _
  have e1 : bnd (cs.map PV.int).length (i : Int) = i := by unfold bnd; rw [List.length_map, if_neg (by omega)]; omega
  have e2 : bnd (cs.map PV.int).length ((i : Int) + z) = i + z := by unfold bnd; rw [List.length_map, if_neg (by omega)]; omega
  show some (PV.tup (((cs.map PV.int).drop (bnd (cs.map PV.int).length (i : Int))).take (bnd (cs.map PV.int).length ((i : Int) + z) - bnd (cs.map PV.int).length (i : Int)))) = _
  rw [e1, e2, Nat.add_sub_cancel_left]
  unfold tI slc
  rw [List.map_take, List.map_drop]
theorem slc_len {cs : List Int} {i z : Nat} (h : i + z ≤ cs.length) : (slc cs i z).length = z := by unfold slc; simp; omega
theorem ixF {F : List (List Int)} {i : Int} (h0 : 0 ≤ i) (h1 : i < F.length) : index (.lst (FP F)) (.int i) = some (tI (gF F i)) := by
  show ((at_ (F.map tI).length i).bind fun k => (F.map tI)[k]?) = _
  rw [List.length_map, at_of h0 h1]
  show (F.map tI)[i.toNat]? = _
  have h : i.toNat < F.length := by omega
  unfold gF
  rw [List.getElem?_map, List.getElem?_eq_getElem h, List.getD_eq_getElem?_getD, List.getElem?_eq_getElem h]; rfl
theorem zip_map {α β : Type} (f : α → PV) (g : β → PV) : ∀ (xs : List α) (ys : List β), zipP (xs.map f) (ys.map g) = (xs.zip ys).map fun q => .tup [f q.1, g q.2]
  | [], _ => rfl
  | _ :: _, [] => rfl
  | x :: xs, y :: ys => by
    show PV.tup [f x, g y] :: zipP (xs.map f) (ys.map g) = _
    rw [zip_map f g xs ys]; rfl
theorem repP {m : Nat} (hm : MM m) (x : Int) : binop .mul (.tup [.int x]) (.int m) = some (tI (List.replicate m x)) := by
  rcases hm with rfl | rfl | rfl <;> rfl
end Ck30

namespace Ck30
open Gp
variable {n : Nat} {p : Int} {m z : Nat} {tm : Bool} {sh : List Rw} {ns : List Int} {i s r : Int} {w th cs : List Int}
/-- the slots of run_shared -/
def en (p : Int) (m z : Nat) (sh : List Rw) (th cs w : List Int) (o7 : Option LV) (a : Nat) (o11 o12 o13 o14 : Option LV) : Gp.Env :=
  [some (LI p), some (LI m), some (LI z), some (.pv (shP sh)), some (.pv (tI th)), some (.pv (tI cs)), some (.pv (tI w)), o7, some (.ref 1), some (.ref 2), some (LI a), o11, o12, o13, o14, none, none, none]
def TB (ns : List Int) (i s r : Int) (q : Q) : Store := B ns i s r (FP q.F) (DP q.D) q.t
/-- one row's turn ends by its append -/
theorem g_end {F : List (List Int)} {D : List PV} {t : Nat} {f : List Int} {ρ : Gp.Env} (h8 : ρ[8]? = some (some (.ref 1))) (h11 : ρ[11]? = some (some (.pv (tI f)))) (hl : F.length < 1000) : St (kseq (kexp (kmth .append (kvar 8) (kcons (kvar 11) knil))) kend) ρ (B ns i s r (FP F) D t) ρ (B ns i s r (FP (F ++ [f])) D t) := by
  refine st_seq ?_ st_end
  have q := st_app (j := 8) (k := 1) (l := FP F) (S := B ns i s r (FP F) D t) h8 rfl (v_var h11) (by unfold FP; rw [List.length_map]; omega)
  have e : FP (F ++ [f]) = FP F ++ [tI f] := by unfold FP; rw [List.map_append]; rfl
  rw [e]
  exact q
theorem dp_snoc {D : List (PV × List (List Int))} {d : PV × List (List Int)} : DP (D ++ [d]) = DP D ++ [.tup (d.2.map tI)] := by unfold DP; rw [List.map_append]; rfl
def BODY (c : Gp.Ctx) : Sv := (kseq (kasg (.nm 14) (kbin .mod (kbin .mul (kidx (kidx (kvar 8) (kidx (kvar 7) (kcon (.int 1)))) (kvar 13)) (kidx (kidx (kvar 8) (kidx (kvar 7) (kcon (.int 2)))) (kvar 13))) (kvar 0))) (kseq (kexp (kmth .append (kvar 12) (kcons (kcall c 5 (kcons (kvar 0) (kcons (kvar 1) (kcons (kvar 14) (kcons (kslc false false (kvar 5) (kvar 10) (kbin .add (kvar 10) (kvar 2))) knil))))) knil))) (kseq (kaug 10 .add (kvar 2)) kend)))
theorem vF {F : List (List Int)} {D : List PV} {t : Nat} {T : Store} {ρ : Gp.Env} {e : Ev} {j : Int} (h8 : ρ[8]? = some (some (.ref 1))) (he : Vl e ρ (B ns i s r (FP F) D t ++ T) (.int j)) (h0 : 0 ≤ j) (h1 : j < F.length) : Vl (kidx (kvar 8) e) ρ (B ns i s r (FP F) D t ++ T) (tI (gF F j)) :=
  v_idxr (l := FP F) h8 rfl he (ixF h0 h1)
theorem vF0 {F : List (List Int)} {D : List PV} {t : Nat} {ρ : Gp.Env} {e : Ev} {j : Int} (h8 : ρ[8]? = some (some (.ref 1))) (he : Vl e ρ (B ns i s r (FP F) D t) (.int j)) (h0 : 0 ≤ j) (h1 : j < F.length) : Vl (kidx (kvar 8) e) ρ (B ns i s r (FP F) D t) (tI (gF F j)) :=
  v_idxr (l := FP F) h8 rfl he (ixF h0 h1)
theorem g_tims {q : Q} {a b : Int} (hp : PR p) (hm : MM m) (hz : z = 1 ∨ z = 2) (hg : Good p m q.F) (ha : 0 ≤ a ∧ a < q.F.length) (hb : 0 ≤ b ∧ b < q.F.length) (hi : q.i + m * z ≤ cs.length) {o11 i13 i14 : Option LV} :
    ∃ o13 o14, St (kfor (.nm 13) (kr1 (kvar 1)) (BODY ⟨K (n + 2), 100⟩)) (en p m z sh th cs w (some (.pv (Rw.tim a b).pv)) q.i o11 (some (.ref (TB ns i s r q).length)) i13 i14) (TB ns i s r q ++ [.lst []])
      (en p m z sh th cs w (some (.pv (Rw.tim a b).pv)) (q.i + m * z) o11 (some (.ref (TB ns i s r q).length)) o13 o14) (TB ns i s r q ++ [.lst (FP (tims p m z cs (gF q.F a) (gF q.F b) q.i).1)]) := by
  have hm2 : 2 ≤ m ∧ m ≤ 4 := by rcases hm with rfl | rfl | rfl <;> omega
  obtain ⟨la, ia⟩ := hg.get ha.1 ha.2
  obtain ⟨lb, ib⟩ := hg.get hb.1 hb.2
  obtain ⟨ρ', hf, ⟨h1, h2, u, v, rfl⟩⟩ := st_forI (α := Nat) (β := List (List Int) × Nat) (S := TB ns i s r q ++ [.lst []]) (ρ := en p m z sh th cs w (some (.pv (Rw.tim a b).pv)) q.i o11 (some (.ref (TB ns i s r q).length)) i13 i14) (t := .nm 13) (it := kr1 (kvar 1)) (bd := BODY ⟨K (n + 2), 100⟩)
    (g := fun k : Nat => LI (k : Int)) (as := List.range m) (Pr := fun k y ρ => y.1.length = k ∧ y.2 = q.i + k * z ∧ ∃ u v, ρ = en p m z sh th cs w (some (.pv (Rw.tim a b).pv)) y.2 o11 (some (.ref (TB ns i s r q).length)) u v) (T := fun y => TB ns i s r q ++ [.lst (FP y.1)]) (step := tstep p m z cs (gF q.F a) (gF q.F b)) (q := ([], q.i))
    (it_r1 (v_var rfl) (by omega)) ⟨rfl, by simp, _, _, rfl⟩
    (fun k u hk y ρ ⟨h1, h2, o, o', e⟩ => by
      subst e
      have hkm : k < m := by have := (List.getElem?_eq_some_iff.mp hk).1; simpa using this
      have hu : u = k := by have := (List.getElem?_eq_some_iff.mp hk).2; simpa using this.symm
      subst hu
      have ku : (u : Int) < (gF q.F a).length := by omega
      have ku2 : (u : Int) < (gF q.F b).length := by omega
      have bu := gI_in ib (i := (u : Int)) (by omega) ku2
      have hs : y.2 + z ≤ cs.length := by
        rw [h2]
        have : u * z + z ≤ m * z := by
          have := Nat.mul_le_mul_right z (show u + 1 ≤ m from hkm)
          rw [Nat.add_mul] at this; omega
        omega
      let x : Int := gI (gF q.F a) (u : Int) * gI (gF q.F b) (u : Int) % p
      refine ⟨_, en p m z sh th cs w (some (.pv (Rw.tim a b).pv)) (tstep p m z cs (gF q.F a) (gF q.F b) y u).2 o11 (some (.ref (TB ns i s r q).length)) (some (LI u)) (some (LI x)), rfl, ?_, by simp [tstep, h1], by simp [tstep, h2, Nat.add_mul]; omega, _, _, rfl⟩
      refine st_seq (st_asg (x := .int x) (v_bin (v_bin (v_idx (vF rfl (v_idx (x := (Rw.tim a b).pv) (v_var rfl) v_con rfl) ha.1 ha.2) (v_var rfl) (ixIt (by omega) ku)) (v_idx (vF rfl (v_idx (x := (Rw.tim a b).pv) (v_var rfl) v_con rfl) hb.1 hb.2) (v_var rfl) (ixIt (by omega) ku2)) (bmul bu.1 (by have := hp.lt; have := bu.2; unfold gI at *; omega))) (v_var rfl) (bmod hp.pos _))) ?_
      refine st_seq (ρ' := en p m z sh th cs w (some (.pv (Rw.tim a b).pv)) y.2 o11 (some (.ref (TB ns i s r q).length)) (some (LI u)) (some (LI x))) (S' := TB ns i s r q ++ [.lst (FP (tstep p m z cs (gF q.F a) (gF q.F b) y u).1)]) ?_ ?_
      · have h := st_app (a := kcall ⟨K (n + 2), 100⟩ 5 (kcons (kvar 0) (kcons (kvar 1) (kcons (kvar 14) (kcons (kslc false false (kvar 5) (kvar 10) (kbin .add (kvar 10) (kvar 2))) knil))))) (ρ := (en p m z sh th cs w (some (.pv (Rw.tim a b).pv)) y.2 o11 (some (.ref (TB ns i s r q).length)) (some (LI u)) (some (LI x)))) (S := TB ns i s r q ++ [.lst (FP y.1)]) (j := 12) (k := (TB ns i s r q).length) (l := FP y.1) rfl at_last
          (v_call (c := ⟨K (n + 2), 100⟩) (f := 5) (vs_cons (v_var (x := .int p) rfl) (vs_cons (v_var (x := .int m) rfl) (vs_cons (v_var (x := .int x) rfl) (vs_cons (v_slc2 (v_var (x := tI cs) rfl) (v_var (x := .int (y.2 : Int)) rfl) (v_bin (x := .int (y.2 : Int)) (y := .int (z : Int)) (v_var rfl) (v_var rfl) rfl) (slc_tup hs)) vs_nil)))) (e5 (s := x) hp.pos hm2.2)) (by unfold FP; rw [List.length_map]; omega)
        rw [set_last] at h
        have e : FP (tstep p m z cs (gF q.F a) (gF q.F b) y u).1 = FP y.1 ++ [tI (dl p x m (slc cs y.2 z))] := by unfold FP tstep; rw [List.map_append]; rfl
        rw [e]
        exact h
      · exact st_seq (st_aug (u := (y.2 : Int)) (v := (z : Int)) rfl (v_var rfl)) st_end)
  refine ⟨u, v, ?_⟩
  have e2 : (tims p m z cs (gF q.F a) (gF q.F b) q.i).2 = q.i + m * z := (tims_ok hp).2.2
  have hf : St _ _ _ (en p m z sh th cs w (some (.pv (Rw.tim a b).pv)) (tims p m z cs (gF q.F a) (gF q.F b) q.i).2 o11 (some (.ref (TB ns i s r q).length)) u v) (TB ns i s r q ++ [.lst (FP (tims p m z cs (gF q.F a) (gF q.F b) q.i).1)]) := hf
  rw [e2] at hf
  exact hf
end Ck30

namespace Ck30
open Gp
variable {n : Nat} {p : Int} {m z : Nat} {tm : Bool} {sh : List Rw} {ns : List Int} {i s r : Int} {w th cs : List Int}
theorem sumM {α : Type} (f : α → Int) (xs : List α) : builtin .sum [.lst (xs.map fun r => .int (f r))] = some (.int ((xs.map f).sum)) := by
  show (intsOf (xs.map fun r => PV.int (f r))).map (fun l => PV.int l.sum) = _
  have e : (xs.map fun r => PV.int (f r)) = (xs.map f).map .int := by rw [List.map_map]; rfl
  rw [e, intsOf_map]; rfl
theorem g_dealt {F : List PV} {D : List (PV × List (List Int))} {t : Nat} {e : Ev} {d : PV × List (List Int)} {ρ : Gp.Env} (h9 : ρ[9]? = some (some (.ref 2))) (he : Vl e ρ (B ns i s r F (DP D) t) (.tup (d.2.map tI))) (hl : D.length < 1000) : St (kexp (kmth .append (kvar 9) (kcons e knil))) ρ (B ns i s r F (DP D) t) ρ (B ns i s r F (DP (D ++ [d])) t) := by
  have q := st_app (j := 9) (k := 2) (l := DP D) (S := B ns i s r F (DP D) t) h9 rfl he (by unfold DP; rw [List.length_map]; omega)
  rw [dp_snoc]
  exact q
theorem it_zipI {ρ : Gp.Env} {S : Store} {a b : Ev} {xs ys : List Int} (ha : Vl a ρ S (tI xs)) (hb : Vl b ρ S (tI ys)) : kzip a b ρ S = .ok ((xs.zip ys).map fun q => LV.pv (.tup [.int q.1, .int q.2])) S := by
  rw [it_zip (xs := xs.map .int) (ys := ys.map .int) ha hb rfl rfl, zip_map, List.map_map]; rfl
theorem it_zipF {ρ : Gp.Env} {S : Store} {a b : Ev} {xs : List Int} {ys : List (List Int)} (ha : Vl a ρ S (tI xs)) (hb : Vl b ρ S (.lst (FP ys))) : kzip a b ρ S = .ok ((xs.zip ys).map fun q => LV.pv (.tup [.int q.1, tI q.2])) S := by
  rw [it_zip (xs := xs.map .int) (ys := ys.map tI) ha hb rfl rfl, zip_map, List.map_map]; rfl
/-- the turn of one row -/
def TURN (c : Gp.Ctx) : Sv := (kseq (kif (kcmp .eq (kidx (kvar 7) (kcon (.int 0))) (kcon (.str [111, 119, 110]))) (kseq (kasg (.nm 11) (kcall c 5 (kcons (kvar 0) (kcons (kvar 1) (kcons (kidx (kvar 4) (kidx (kvar 7) (kcon (.int 1)))) (kcons (kslc false false (kvar 5) (kvar 10) (kbin .add (kvar 10) (kvar 2))) knil)))))) (kseq (kaug 10 .add (kvar 2)) (kseq (kexp (kmth .append (kvar 9) (kcons (ktup (kcons (kvar 11) knil)) knil))) kend))) (kseq (kif (kcmp .eq (kidx (kvar 7) (kcon (.int 0))) (kcon (.str [110, 117, 109, 98, 101, 114]))) (kseq (kasg (.nm 11) (kbin .mul (ktup (kcons (kbin .mod (kidx (kvar 7) (kcon (.int 1))) (kvar 0)) knil)) (kvar 1))) kend) (kseq (kif (kcmp .eq (kidx (kvar 7) (kcon (.int 0))) (kcon (.str [115, 117, 109]))) (kseq (kasg (.nm 11) (kblt .tuple false (kcons (klc false [15, 16] (kbin .mod (kbin .add (kvar 15) (kvar 16)) (kvar 0)) (.t2 (.nm 15) (.nm 16)) (kzip (kidx (kvar 8) (kidx (kvar 7) (kcon (.int 1)))) (kidx (kvar 8) (kidx (kvar 7) (kcon (.int 2))))) true kno) knil))) kend) (kseq (kasg (.nm 12) (klst true knil)) (kseq (kfor (.nm 13) (kr1 (kvar 1)) (BODY c)) (kseq (kfrz 12) (kseq (kexp (kmth .append (kvar 9) (kcons (kblt .tuple false (kcons (kvar 12) knil)) knil))) (kseq (kasg (.nm 11) (kblt .tuple false (kcons (klc false [13] (kbin .mod (kblt .sum false (kcons (klc false [17, 15] (kbin .mul (kvar 17) (kidx (kvar 15) (kvar 13))) (.t2 (.nm 17) (.nm 15)) (kzip (kvar 6) (kvar 12)) true kno) knil)) (kvar 0)) (.nm 13) (kr1 (kvar 1)) true kno) knil))) kend)))))) kend)) kend)) (kseq (kexp (kmth .append (kvar 8) (kcons (kvar 11) knil))) kend))
theorem g_mix {ss : List (List Int)} {S : Store} {a : Nat} {o7 o11 o13 o14 : Option LV} (hp : PR p) (hm : MM m) (hw : w.length = m) (hg : Good p m ss) : Vl (kblt .tuple false (kcons (klc false [13] (kbin .mod (kblt .sum false (kcons (klc false [17, 15] (kbin .mul (kvar 17) (kidx (kvar 15) (kvar 13))) (.t2 (.nm 17) (.nm 15)) (kzip (kvar 6) (kvar 12)) true kno) knil)) (kvar 0)) (.nm 13) (kr1 (kvar 1)) true kno) knil))
    (en p m z sh th cs w o7 a o11 (some (.pv (.lst (FP ss)))) o13 o14) S (tI (mix p m w ss)) := by
  have hm2 : 2 ≤ m ∧ m ≤ 4 := by rcases hm with rfl | rfl | rfl <;> omega
  refine v_blt1 (v_lc (g := fun k : Nat => LI (k : Int)) (h := fun k => .int (((w.zip ss).map fun q => q.1 * gI q.2 (k : Int)).sum % p)) (as := List.range m) (it_r1 (v_var rfl) (by omega)) (fun k hk => ⟨_, rfl, ?_⟩) (by rw [List.length_range]; omega)) ?_
  · have hk := List.mem_range.mp hk
    refine v_bin (v_blt1 (v_lc (g := fun q : Int × List Int => LV.pv (.tup [.int q.1, tI q.2])) (h := fun q => .int (q.1 * gI q.2 (k : Int))) (as := w.zip ss) (it_zipF (v_var rfl) (v_var rfl)) (fun q hq => ⟨_, rfl, ?_⟩) ?_) (sumM _ _)) (v_var rfl) (bmod hp.pos _)
    · have h2 : q.2 ∈ ss := (List.of_mem_zip hq).2
      have hl := hg.len _ h2
      have hi := gI_in (hg.inn _ h2) (i := (k : Int)) (by omega) (by omega)
      exact v_bin (v_var rfl) (v_idx (x := tI q.2) (v_var rfl) (v_var rfl) (ixIt (by omega) (by omega))) (bmul hi.1 (by have := hp.lt; have := hi.2; unfold gI at *; omega))
    · rw [List.length_zip]; omega
  · show some (PV.tup _) = _
    unfold tI mix
    rw [List.map_map]; rfl
theorem g_turn {c : Gp.Ctx} {k : Nat} {q : Q} {x : Rw} (hc : c = ⟨K (n + 2), 100⟩) (hp : PR p) (hm : MM m) (hz : z = 1 ∨ z = 2) (ht : In p th) (hl : th.length = m) (hw : w.length = m) (ho : okS m tm sh) (h8 : sh.length ≤ 8) (hk : sh[k]? = some x) (I : Inv p m z sh cs k q) {o11 o12 o13 o14 : Option LV} :
    ∃ u11 u12 u13 u14, St (TURN c) (en p m z sh th cs w (some (.pv x.pv)) q.i o11 o12 o13 o14) (TB ns i s r q) (en p m z sh th cs w (some (.pv x.pv)) (sstep p m z w th cs q x).i u11 u12 u13 u14) (TB ns i s r (sstep p m z w th cs q x)) := by
  subst hc
  have hm2 : 2 ≤ m ∧ m ≤ 4 := by rcases hm with rfl | rfl | rfl <;> omega
  have hkl : k < 8 := by have := (List.getElem?_eq_some_iff.mp hk).1; omega
  have hF : q.F.length < 1000 := by have := I.len; omega
  have hD : q.D.length < 1000 := by have := I.D; omega
  have hr := ho k x hk
  have hs := (I.next (w := w) hp ho hk hl).2
  have hlen := I.len
  cases x with
  | own a =>
    have hs : q.i + z ≤ cs.length := hs
    refine ⟨some (.pv (tI (dl p (gI th a) m (slc cs q.i z)))), o12, o13, o14, ?_⟩
    show St (TURN _) _ (B ns i s r (FP q.F) (DP q.D) q.t) _ (B ns i s r (FP (q.F ++ [dl p (gI th a) m (slc cs q.i z)])) (DP (q.D ++ [(.tup [.int a], [dl p (gI th a) m (slc cs q.i z)])])) q.t)
    exact st_seq (st_ifT (tt_k (by kernel_rfl)) (st_seq (st_asg (v_call (vs_cons (v_var (x := .int p) rfl) (vs_cons (v_var (x := .int m) rfl) (vs_cons (v_idx (x := tI th) (v_var rfl) (v_idx (x := (Rw.own a).pv) (v_var rfl) v_con rfl) (ixIt hr.1 (by have := hr.2; omega))) (vs_cons (v_slc2 (x := tI cs) (v_var rfl) (v_var (x := .int (q.i : Int)) rfl) (v_bin (x := .int (q.i : Int)) (y := .int (z : Int)) (v_var rfl) (v_var rfl) rfl) (slc_tup hs)) vs_nil)))) (e5 hp.pos hm2.2)))
      (st_seq (st_aug (u := (q.i : Int)) (v := (z : Int)) rfl (v_var rfl)) (st_seq (g_dealt (d := (.tup [.int a], [dl p (gI th a) m (slc cs q.i z)])) rfl (v_tup1 (v_var rfl)) hD) st_end)))) (g_end rfl rfl hF)
  | num v =>
    refine ⟨some (.pv (tI (List.replicate m (v % p)))), o12, o13, o14, ?_⟩
    show St (TURN _) _ (B ns i s r (FP q.F) (DP q.D) q.t) _ (B ns i s r (FP (q.F ++ [List.replicate m (v % p)])) (DP q.D) q.t)
    exact st_seq (st_ifF (tt_k (by kernel_rfl)) (st_seq (st_ifT (tt_k (by kernel_rfl)) (st_seq (st_asg (v_bin (v_tup1 (v_bin (v_idx (x := (Rw.num v).pv) (v_var rfl) v_con rfl) (v_var rfl) (bmod hp.pos v))) (v_var rfl) (repP hm _))) st_end)) st_end)) (g_end rfl rfl hF)
  | sum a b =>
    obtain ⟨la, ia⟩ := I.good.get hr.1.1 (by have := hr.1.2; omega)
    obtain ⟨lb, ib⟩ := I.good.get hr.2.1 (by have := hr.2.2; omega)
    refine ⟨some (.pv (tI (addL p (gF q.F a) (gF q.F b)))), o12, o13, o14, ?_⟩
    show St (TURN _) _ (B ns i s r (FP q.F) (DP q.D) q.t) _ (B ns i s r (FP (q.F ++ [addL p (gF q.F a) (gF q.F b)])) (DP q.D) q.t)
    refine st_seq (st_ifF (tt_k (by kernel_rfl)) (st_seq (st_ifF (tt_k (by kernel_rfl)) (st_seq (st_ifT (tt_k (by kernel_rfl)) (st_seq (st_asg (v_blt1 (v_lc (g := fun y : Int × Int => LV.pv (.tup [.int y.1, .int y.2])) (h := fun y => .int ((y.1 + y.2) % p)) (as := (gF q.F a).zip (gF q.F b)) (it_zipI (vF0 rfl (v_idx (x := (Rw.sum a b).pv) (v_var rfl) v_con rfl) hr.1.1 (by have := hr.1.2; omega)) (vF0 rfl (v_idx (x := (Rw.sum a b).pv) (v_var rfl) v_con rfl) hr.2.1 (by have := hr.2.2; omega))) (fun y _ => ⟨_, rfl, v_bin (v_bin (v_var rfl) (v_var rfl) rfl) (v_var rfl) (bmod hp.pos _)⟩) (by rw [List.length_zip]; omega)) ?_)) st_end)) st_end)) st_end)) (g_end rfl rfl hF)
    show some (PV.tup _) = _
    unfold tI addL
    rw [List.map_map]; rfl
  | tim a b =>
    have hs : q.i + m * z ≤ cs.length := hs
    obtain ⟨u, v, hf⟩ := g_tims (n := n) (p := p) (m := m) (z := z) (sh := sh) (ns := ns) (i := i) (s := s) (r := r) (w := w) (th := th) (cs := cs) (q := q) (a := a) (b := b) hp hm hz I.good ⟨hr.2.1.1, by have := hr.2.1.2; omega⟩ ⟨hr.2.2.1, by have := hr.2.2.2; omega⟩ hs (o11 := o11) (i13 := o13) (i14 := o14)
    obtain ⟨tg, tl, te⟩ := tims_ok (z := z) (m := m) hp (cs := cs) (a := gF q.F a) (b := gF q.F b) (i := q.i)
    refine ⟨some (.pv (tI (mix p m w (tims p m z cs (gF q.F a) (gF q.F b) q.i).1))), some (.pv (.lst (FP (tims p m z cs (gF q.F a) (gF q.F b) q.i).1))), u, v, ?_⟩
    show St (TURN _) _ (TB ns i s r q) _ (B ns i s r (FP (q.F ++ [mix p m w (tims p m z cs (gF q.F a) (gF q.F b) q.i).1])) (DP (q.D ++ [(givM m, (tims p m z cs (gF q.F a) (gF q.F b) q.i).1)])) (q.t + 1))
    refine st_seq (st_ifF (tt_k (by kernel_rfl)) (st_seq (st_ifF (tt_k (by kernel_rfl)) (st_seq (st_ifF (tt_k (by kernel_rfl)) (st_seq st_new (st_seq hf (st_seq (st_frz (k := (TB ns i s r q).length) (l := FP (tims p m z cs (gF q.F a) (gF q.F b) q.i).1) rfl at_last) ?_)))) st_end)) st_end)) (g_end rfl rfl hF)
    rw [set_last]
    unfold TB
    rw [B_dead]
    exact st_seq (g_dealt (d := (givM m, (tims p m z cs (gF q.F a) (gF q.F b) q.i).1)) rfl (v_blt1 (x := .lst (FP (tims p m z cs (gF q.F a) (gF q.F b) q.i).1)) (v_var rfl) rfl) hD) (st_seq (st_asg (g_mix hp hm hw tg)) st_end)
def ST (ns : List Int) (i s r : Int) (F D : List PV) (t : Nat) : Store := rowT ns i s r (.lst F :: .lst D :: List.replicate t .dead)
theorem inv0 (h : cs.length = cntN m z sh) : Inv p m z sh cs 0 ⟨[], [], 0, 0⟩ := ⟨⟨(fun _ h => nomatch h), fun _ h => nomatch h⟩, rfl, by rw [h]; show 0 + _ = _; simp, Nat.le_refl _⟩
theorem fin_inv (hp : PR p) (ho : okS m tm sh) (hl : th.length = m) (hcs : cs.length = cntN m z sh) : Inv p m z sh cs sh.length (fin p m z w th cs sh) := by
  have main : ∀ (bs : List Rw) (k : Nat) (q : Q), (∀ j x, bs[j]? = some x → sh[k + j]? = some x) → Inv p m z sh cs k q → Inv p m z sh cs (k + bs.length) (bs.foldl (sstep p m z w th cs) q) := by
    intro bs
    induction bs with
    | nil => intro k q _ h; exact h
    | cons x bs ih =>
      intro k q hb h
      have := ih (k + 1) (sstep p m z w th cs q x) (fun j y hy => by have := hb (j + 1) y (by simpa using hy); rw [← this]; congr 1; omega) (h.next hp ho (by have := hb 0 x rfl; simpa using this) hl).1
      rw [List.length_cons]
      have e : k + (bs.length + 1) = k + 1 + bs.length := by omega
      rw [e]; exact this
  have := main sh 0 ⟨[], [], 0, 0⟩ (fun j x h => by simpa using h) (inv0 hcs)
  unfold fin
  simpa using this
theorem oneP (hm : MM m) : builtin .lstR2 [.int 1, .int ((m : Int) + 1)] = some (one m) := by
  rcases hm with rfl | rfl | rfl <;> rfl
theorem ixLF {F : List (List Int)} (h : 0 < F.length) : index (.lst (FP F)) (.int (-1)) = some (tI (F.getD (F.length - 1) [])) := by
  rw [ixLastG (by unfold FP; rw [List.length_map]; exact h)]
  unfold FP
  rw [List.length_map]
  have h' : F.length - 1 < F.length := by omega
  rw [List.getD_eq_getElem?_getD, List.getD_eq_getElem?_getD, List.getElem?_map, List.getElem?_eq_getElem h']; rfl
theorem e15 (hp : PR p) (hm : MM m) (hz : z = 1 ∨ z = 2) (ht : In p th) (hl : th.length = m) (ho : okS m tm sh) (h1 : 1 ≤ sh.length) (h8 : sh.length ≤ 8) (hcs : cs.length = cntN m z sh) :
    K (n + 3) 15 [LI p, LI m, LI z, .pv (shP sh), .pv (tI th), .pv (tI cs)] (R ns i s r) = .ok (.pv (.tup [tI ((fin p m z (wt p m) th cs sh).F.getD ((fin p m z (wt p m) th cs sh).F.length - 1) []), .tup (DP (fin p m z (wt p m) th cs sh).D)])) (R ns i s r) := by
  have I := fin_inv (w := wt p m) hp ho hl hcs
  refine run_rt (T := .dead :: .dead :: List.replicate (fin p m z (wt p m) th cs sh).t .dead) (e := ⟨6, 18, k15⟩) rfl rfl (u15 _) ?_
  refine rt_seq (ρ' := [some (LI p), some (LI m), some (LI z), some (.pv (shP sh)), some (.pv (tI th)), some (.pv (tI cs)), none, none, some (.ref 1), some (.ref 2), some (LI 0), none, none, none, none, none, none, none]) (S' := R2 ns i s r [] []) ?_ ?_
  · exact st_parL (xs := [.ref 1, .ref 2, LI 0]) rfl rfl
  refine rt_seq (st_asgL (v_call (vs_cons (v_var rfl) (vs_cons (v_blt2 v_con (v_bin (x := .int (m : Int)) (y := .int 1) (v_var rfl) v_con rfl) (oneP hm)) vs_nil)) (e6b n hp hm [] []))) ?_
  obtain ⟨ρ', hf, _, o7, o11, o12, o13, o14, rfl⟩ := st_forI (α := Rw) (β := Q) (S := R2 ns i s r [] []) (ρ := en p m z sh th cs (wt p m) none 0 none none none none) (t := .nm 7) (it := kex (kvar 3)) (bd := TURN ⟨K (n + 2), 100⟩)
    (g := fun x => .pv x.pv) (as := sh) (Pr := fun k q ρ => Inv p m z sh cs k q ∧ ∃ o7 o11 o12 o13 o14, ρ = en p m z sh th cs (wt p m) o7 q.i o11 o12 o13 o14) (T := TB ns i s r) (step := sstep p m z (wt p m) th cs) (q := ⟨[], [], 0, 0⟩)
    (by rw [it_ex (xs := sh.map Rw.pv) (v_var rfl), List.map_map]; rfl) ⟨inv0 hcs, _, _, _, _, _, rfl⟩
    (fun k x hk q ρ ⟨J, o7, o11, o12, o13, o14, e⟩ => by
      subst e
      obtain ⟨u11, u12, u13, u14, h⟩ := g_turn (n := n) (ns := ns) (i := i) (s := s) (r := r) (w := wt p m) rfl hp hm hz ht hl (wt_len hp hm) ho h8 hk J (o11 := o11) (o12 := o12) (o13 := o13) (o14 := o14)
      exact ⟨_, _, rfl, h, (J.next hp ho hk hl).1, _, _, _, _, _, rfl⟩)
  refine rt_seq hf ?_
  refine rt_seq (st_frz (k := 1) (l := FP (fin p m z (wt p m) th cs sh).F) rfl rfl) ?_
  refine rt_seq (st_frz (k := 2) (l := DP (fin p m z (wt p m) th cs sh).D) rfl rfl) ?_
  exact rt_now (rt_ret (v_tup2 (v_idx (x := .lst (FP (fin p m z (wt p m) th cs sh).F)) (y := .int (-1)) (v_var rfl) rfl (ixLF (by rw [I.len]; omega))) (v_blt1 (x := .lst (DP (fin p m z (wt p m) th cs sh).D)) (v_var rfl) rfl)))
end Ck30

namespace Ck30
open Gp
variable {n : Nat} {p : Int} {m z : Nat} {tm : Bool} {sh : List Rw} {ns : List Int} {i s r : Int} {w th cs : List Int}
def dot (p : Int) (w l : List Int) : Int := ((w.zip l).map fun q => q.1 * q.2).sum % p
def lastF (F : List (List Int)) : List Int := F.getD (F.length - 1) []
theorem lastF_in {F : List (List Int)} (g : Good p m F) (h : 0 < F.length) : (lastF F).length = m ∧ In p (lastF F) := by
  have := g.get (i := ((F.length - 1 : Nat) : Int)) (by omega) (by omega)
  unfold gF at this
  unfold lastF
  simpa using this
theorem v_dot {ρ : Gp.Env} {S : Store} {a b : Ev} {j k : Nat} {l : List Int} {P : Ev} (hp : PR p) (hi : In p l) (hl : w.length ≤ 1000) (hit : kzip a b ρ S = .ok ((w.zip l).map fun q => LV.pv (.tup [.int q.1, .int q.2])) S)
    (hb : ∀ q : Int × Int, q ∈ w.zip l → ∃ ρ1, bindT (.t2 (.nm j) (.nm k)) (LV.pv (.tup [.int q.1, .int q.2])) (wipe ρ [j, k]) = some ρ1 ∧ Vl (kvar j) ρ1 S (.int q.1) ∧ Vl (kvar k) ρ1 S (.int q.2)) (hP : Vl P ρ S (.int p)) :
    Vl (kbin .mod (kblt .sum false (kcons (klc false [j, k] (kbin .mul (kvar j) (kvar k)) (.t2 (.nm j) (.nm k)) (kzip a b) true kno) knil)) P) ρ S (.int (dot p w l)) := by
  refine v_bin (v_blt1 (v_lc (g := fun q : Int × Int => LV.pv (.tup [.int q.1, .int q.2])) (h := fun q => .int (q.1 * q.2)) (as := w.zip l) hit (fun q hq => ?_) (by rw [List.length_zip]; omega)) (sumM _ _)) hP (bmod hp.pos _)
  obtain ⟨ρ1, h1, h2, h3⟩ := hb q hq
  have := hi _ (List.of_mem_zip hq).2
  exact ⟨ρ1, h1, v_bin h2 h3 (bmul this.1 (by have := hp.lt; omega))⟩
theorem tz2 {n : Nat} {xs : List LV} {es : EvL} {ρ : Gp.Env} {S : Store} {v : PV} (e : Vs es ρ S xs) (h15 : K (n + 4) 15 xs S = .ok (.pv v) S) : Vl (kcall ⟨K (n + 4), 100⟩ 15 es) ρ S v := v_call e h15
theorem e17 (hp : PR p) (hm : MM m) (hz : z = 1 ∨ z = 2) (ht : In p th) (hl : th.length = m) (ho : okS m tm sh) (h1 : 1 ≤ sh.length) (h8 : sh.length ≤ 8) (hc : In p cs) (hcs : cs.length = cntN m z sh) (hcl : cs.length ≤ 1000) (he : (if hasM sh then 2 * z else z) < m) :
    K (n + 5) 17 [LI p, LI m, LI z, .pv (shP sh), .pv (tI th), .pv (tI cs)] (R ns i s r) = .ok (.pv (.tup [.int (dot p (wt p m) (lastF (fin p m z (wt p m) th cs sh).F)), .tup (DP (fin p m z (wt p m) th cs sh).D)])) (R ns i s r) := by
  have hm2 : 2 ≤ m ∧ m ≤ 4 := by rcases hm with rfl | rfl | rfl <;> omega
  have I := fin_inv (w := wt p m) hp ho hl hcs
  have L := lastF_in I.good (by rw [I.len]; omega)
  refine run_rt0 (e := ⟨6, 11, k17⟩) rfl rfl (u17 _) ?_
  refine rt_seq (st_exp (v_call (vs_cons (v_var rfl) (vs_cons (v_var rfl) (vs_cons (v_var rfl) (vs_cons (v_var rfl) (vs_cons (v_var rfl) vs_nil))))) (e16 hp hm hz ht hl ho h1 h8))) ?_
  refine rt_seq (st_ifF (tt_orF (tt_notT (tt_call (vs_cons (v_var rfl) (vs_cons (v_var rfl) vs_nil)) (e3 hc (by omega)))) (tt_cmp (x := .int cs.length) (y := .int (cnt m z sh)) (v_blt1 (x := tI cs) (v_var rfl) ?_) (v_call (vs_cons (v_var rfl) (vs_cons (v_var rfl) (vs_cons (v_var rfl) vs_nil))) (e13 h8 (by omega))) ?_)) st_end) ?_
  · show some (PV.int ((cs.map PV.int).length : Nat)) = _
    rw [List.length_map]
  · rw [cmp_neI, cnt_eq, hcs]; simp
  refine rt_seq (st_exp (v_call (vs_cons (v_var rfl) (vs_cons (v_var rfl) (vs_cons (v_var rfl) vs_nil))) (e12 h8 (by omega) he))) ?_
  have h15 := e15 (n := n + 1) (ns := ns) (i := i) (s := s) (r := r) hp hm hz ht hl ho h1 h8 hcs
  generalize fin p m z (wt p m) th cs sh = q at *
  change K (n + 4) 15 _ _ = .ok (.pv (.tup [tI (lastF q.F), .tup (DP q.D)])) _ at h15
  generalize lastF q.F = lf at *
  generalize DP q.D = dq at *
  have hc : Vl (kcall ⟨K (n + 4), 100⟩ 15 (kcons (kvar 0) (kcons (kvar 1) (kcons (kvar 2) (kcons (kvar 3) (kcons (kvar 4) (kcons (kvar 5) knil))))))) [some (LI p), some (LI m), some (LI z), some (.pv (shP sh)), some (.pv (tI th)), some (.pv (tI cs)), none, none, none, none, none] (R ns i s r) (.tup [tI lf, .tup dq]) :=
    (by have e : Vs (kcons (kvar 0) (kcons (kvar 1) (kcons (kvar 2) (kcons (kvar 3) (kcons (kvar 4) (kcons (kvar 5) knil)))))) [some (LI p), some (LI m), some (LI z), some (.pv (shP sh)), some (.pv (tI th)), some (.pv (tI cs)), none, none, none, none, none] (R ns i s r) [LI p, LI m, LI z, .pv (shP sh), .pv (tI th), .pv (tI cs)] := (vs_cons (v_var rfl) (vs_cons (v_var rfl) (vs_cons (v_var rfl) (vs_cons (v_var rfl) (vs_cons (v_var rfl) (vs_cons (v_var rfl) vs_nil)))))); exact tz2 e h15)
  refine rt_seq (ρ' := [some (LI p), some (LI m), some (LI z), some (.pv (shP sh)), some (.pv (tI th)), some (.pv (tI cs)), none, some (.pv (tI lf)), some (.pv (.tup dq)), none, none]) (S' := R ns i s r) (st_asgT hc rfl) ?_
  refine rt_seq (st_asg (v_call (vs_cons (v_var rfl) (vs_cons (v_blt2 v_con (v_bin (x := .int (m : Int)) (y := .int 1) (v_var rfl) v_con rfl) (oneP hm)) vs_nil)) (e6 (n + 2) hp hm))) ?_
  exact rt_now (rt_ret (v_tup2 (v_dot (l := lf) (w := wt p m) hp L.2 (by rw [wt_len hp hm]; omega) (it_zipI (v_var rfl) (v_var rfl)) (fun q _ => ⟨_, rfl, v_var rfl, v_var rfl⟩) (v_var rfl)) (v_var rfl)))
end Ck30

namespace Ck30
open Gp
variable {n : Nat} {p : Int} {m z : Nat} {tm : Bool} {sh : List Rw} {ns : List Int} {i s r : Int} {w th cs : List Int}
def lI (l : List Int) : PV := .lst (l.map .int)
/-- the slots of _law_shared -/
def el (p : Int) (m z : Nat) (sh : List Rw) (th cs w : List Int) (o7 : Option LV) (a : Nat) (o11 o12 : Option LV) : Gp.Env :=
  [some (LI p), some (LI m), some (LI z), some (.pv (shP sh)), some (.pv (tI th)), some (.pv (tI cs)), some (.pv (lI w)), o7, some (.ref 1), some (.ref 2), some (.pv (lI (cs.drop a))), o11, o12, none, none, none]
def TL (ns : List Int) (i s r : Int) (q : Q) : Store := B ns i s r (FP q.F) (DL q.D) q.t
theorem slT {l : List Int} {z : Nat} : slice (lI l) none (some (z : Int)) = some (lI (l.take z)) := by
  show some (PV.lst (((l.map PV.int).drop 0).take (bnd (l.map PV.int).length (z : Int) - 0))) = _
  have e : bnd (l.map PV.int).length (z : Int) = min z l.length := by unfold bnd; rw [List.length_map, if_neg (by omega)]; simp
  rw [e, List.drop_zero, Nat.sub_zero]
  unfold lI
  rw [List.map_take]
  congr 2
  by_cases h : z ≤ l.length
  · rw [Nat.min_eq_left h]
  · rw [Nat.min_eq_right (by omega), List.take_of_length_le (by simp), List.take_of_length_le (by simp; omega)]
theorem slF {l : List Int} {z : Nat} (h : z ≤ l.length) : slice (lI l) (some (z : Int)) none = some (lI (l.drop z)) := by
  show some (PV.lst (((l.map PV.int).drop (bnd (l.map PV.int).length (z : Int))).take ((l.map PV.int).length - bnd (l.map PV.int).length (z : Int)))) = _
  have e : bnd (l.map PV.int).length (z : Int) = z := by unfold bnd; rw [List.length_map, if_neg (by omega)]; simp; omega
  rw [e]
  unfold lI
  rw [List.map_drop, List.take_of_length_le (by simp)]
theorem g_found {F : List (List Int)} {D : List PV} {t : Nat} {f : List Int} {e : Ev} {ρ : Gp.Env} (h8 : ρ[8]? = some (some (.ref 1))) (he : Vl e ρ (B ns i s r (FP F) D t) (tI f)) (hl : F.length < 1000) : St (kexp (kmth .append (kvar 8) (kcons e knil))) ρ (B ns i s r (FP F) D t) ρ (B ns i s r (FP (F ++ [f])) D t) := by
  have q := st_app (j := 8) (k := 1) (l := FP F) (S := B ns i s r (FP F) D t) h8 rfl he (by unfold FP; rw [List.length_map]; omega)
  have e : FP (F ++ [f]) = FP F ++ [tI f] := by unfold FP; rw [List.map_append]; rfl
  rw [e]
  exact q
theorem g_told {F : List PV} {D : List (PV × List (List Int))} {t : Nat} {e : Ev} {d : PV × List (List Int)} {ρ : Gp.Env} (h9 : ρ[9]? = some (some (.ref 2))) (he : Vl e ρ (B ns i s r F (DL D) t) (.tup [d.1, .tup (d.2.map tI)])) (hl : D.length < 1000) : St (kexp (kmth .append (kvar 9) (kcons e knil))) ρ (B ns i s r F (DL D) t) ρ (B ns i s r F (DL (D ++ [d])) t) := by
  have q := st_app (j := 9) (k := 2) (l := DL D) (S := B ns i s r F (DL D) t) h9 rfl he (by unfold DL; rw [List.length_map]; omega)
  have e : DL (D ++ [d]) = DL D ++ [.tup [d.1, .tup (d.2.map tI)]] := by unfold DL; rw [List.map_append]; rfl
  rw [e]
  exact q
def BODL (c : Gp.Ctx) : Sv := (kseq (kexp (kmth .append (kvar 11) (kcons (kcall c 24 (kcons (kvar 0) (kcons (kvar 1) (kcons (kbin .mod (kbin .mul (kidx (kidx (kvar 8) (kidx (kvar 7) (kcon (.int 1)))) (kvar 12)) (kidx (kidx (kvar 8) (kidx (kvar 7) (kcon (.int 2)))) (kvar 12))) (kvar 0)) (kcons (kslc true false (kvar 10) kno (kvar 2)) knil))))) knil))) (kseq (kasg (.nm 10) (kslc false true (kvar 10) (kvar 2) kno)) kend))
theorem g_given {q : Q} {a b : Int} (hp : PR p) (hm : MM m) (hz : z = 1 ∨ z = 2) (hg : Good p m q.F) (ha : 0 ≤ a ∧ a < q.F.length) (hb : 0 ≤ b ∧ b < q.F.length) (hi : q.i + m * z ≤ cs.length) {i12 : Option LV} :
    ∃ o12, St (kfor (.nm 12) (kr1 (kvar 1)) (BODL ⟨K (n + 2), 100⟩)) (el p m z sh th cs w (some (.pv (Rw.tim a b).pv)) q.i (some (.ref (TL ns i s r q).length)) i12) (TL ns i s r q ++ [.lst []])
      (el p m z sh th cs w (some (.pv (Rw.tim a b).pv)) (q.i + m * z) (some (.ref (TL ns i s r q).length)) o12) (TL ns i s r q ++ [.lst (FP (tims p m z cs (gF q.F a) (gF q.F b) q.i).1)]) := by
  have hm2 : 2 ≤ m ∧ m ≤ 4 := by rcases hm with rfl | rfl | rfl <;> omega
  obtain ⟨la, ia⟩ := hg.get ha.1 ha.2
  obtain ⟨lb, ib⟩ := hg.get hb.1 hb.2
  obtain ⟨ρ', hf, ⟨h1, h2, u, rfl⟩⟩ := st_forI (α := Nat) (β := List (List Int) × Nat) (S := TL ns i s r q ++ [.lst []]) (ρ := el p m z sh th cs w (some (.pv (Rw.tim a b).pv)) q.i (some (.ref (TL ns i s r q).length)) i12) (t := .nm 12) (it := kr1 (kvar 1)) (bd := BODL ⟨K (n + 2), 100⟩)
    (g := fun k : Nat => LI (k : Int)) (as := List.range m) (Pr := fun k y ρ => y.1.length = k ∧ y.2 = q.i + k * z ∧ ∃ u, ρ = el p m z sh th cs w (some (.pv (Rw.tim a b).pv)) y.2 (some (.ref (TL ns i s r q).length)) u) (T := fun y => TL ns i s r q ++ [.lst (FP y.1)]) (step := tstep p m z cs (gF q.F a) (gF q.F b)) (q := ([], q.i))
    (it_r1 (v_var rfl) (by omega)) ⟨rfl, by simp, _, rfl⟩
    (fun k u hk y ρ ⟨h1, h2, o, e⟩ => by
      subst e
      have hkm : k < m := by have := (List.getElem?_eq_some_iff.mp hk).1; simpa using this
      have hu : u = k := by have := (List.getElem?_eq_some_iff.mp hk).2; simpa using this.symm
      subst hu
      have ku : (u : Int) < (gF q.F a).length := by omega
      have ku2 : (u : Int) < (gF q.F b).length := by omega
      have bu := gI_in ib (i := (u : Int)) (by omega) ku2
      have hs : y.2 + z ≤ cs.length := by
        rw [h2]
        have : u * z + z ≤ m * z := by
          have := Nat.mul_le_mul_right z (show u + 1 ≤ m from hkm)
          rw [Nat.add_mul] at this; omega
        omega
      have hsl := slc_len hs
      let x : Int := gI (gF q.F a) (u : Int) * gI (gF q.F b) (u : Int) % p
      have hx : Vl (kbin .mod (kbin .mul (kidx (kidx (kvar 8) (kidx (kvar 7) (kcon (.int 1)))) (kvar 12)) (kidx (kidx (kvar 8) (kidx (kvar 7) (kcon (.int 2)))) (kvar 12))) (kvar 0)) (el p m z sh th cs w (some (.pv (Rw.tim a b).pv)) y.2 (some (.ref (TL ns i s r q).length)) (some (LI u))) (TL ns i s r q ++ [.lst (FP y.1)]) (.int x) :=
        v_bin (v_bin (v_idx (vF rfl (v_idx (x := (Rw.tim a b).pv) (v_var rfl) v_con rfl) ha.1 ha.2) (v_var rfl) (ixIt (by omega) ku)) (v_idx (vF rfl (v_idx (x := (Rw.tim a b).pv) (v_var rfl) v_con rfl) hb.1 hb.2) (v_var rfl) (ixIt (by omega) ku2)) (bmul bu.1 (by have := hp.lt; have := bu.2; unfold gI at *; omega))) (v_var rfl) (bmod hp.pos _)
      refine ⟨_, el p m z sh th cs w (some (.pv (Rw.tim a b).pv)) (tstep p m z cs (gF q.F a) (gF q.F b) y u).2 (some (.ref (TL ns i s r q).length)) (some (LI u)), rfl, ?_, by simp [tstep, h1], by simp [tstep, h2, Nat.add_mul]; omega, _, rfl⟩
      refine st_seq (ρ' := el p m z sh th cs w (some (.pv (Rw.tim a b).pv)) y.2 (some (.ref (TL ns i s r q).length)) (some (LI u))) (S' := TL ns i s r q ++ [.lst (FP (tstep p m z cs (gF q.F a) (gF q.F b) y u).1)]) ?_ ?_
      · have hv : Vl (kcall ⟨K (n + 2), 100⟩ 24 (kcons (kvar 0) (kcons (kvar 1) (kcons (kbin .mod (kbin .mul (kidx (kidx (kvar 8) (kidx (kvar 7) (kcon (.int 1)))) (kvar 12)) (kidx (kidx (kvar 8) (kidx (kvar 7) (kcon (.int 2)))) (kvar 12))) (kvar 0)) (kcons (kslc true false (kvar 10) kno (kvar 2)) knil))))) (el p m z sh th cs w (some (.pv (Rw.tim a b).pv)) y.2 (some (.ref (TL ns i s r q).length)) (some (LI u))) (TL ns i s r q ++ [.lst (FP y.1)]) (tI (dl p x m (slc cs y.2 z))) :=
          v_call (vs_cons (v_var rfl) (vs_cons (v_var rfl) (vs_cons hx (vs_cons (v_slcT (x := lI (cs.drop y.2)) (v_var rfl) (v_var rfl) slT) vs_nil)))) (e24 (s := x) hp hm2.2 (by show (slc cs y.2 z).length = 1 ∨ (slc cs y.2 z).length = 2; rw [hsl]; exact hz))
        have h := st_app (S := TL ns i s r q ++ [.lst (FP y.1)]) (j := 11) (k := (TL ns i s r q).length) (l := FP y.1) (ρ := el p m z sh th cs w (some (.pv (Rw.tim a b).pv)) y.2 (some (.ref (TL ns i s r q).length)) (some (LI u))) rfl at_last hv (by unfold FP; rw [List.length_map]; omega)
        rw [set_last] at h
        have e : FP (tstep p m z cs (gF q.F a) (gF q.F b) y u).1 = FP y.1 ++ [tI (dl p x m (slc cs y.2 z))] := by unfold FP tstep; rw [List.map_append]; rfl
        rw [e]
        exact h
      · have hd : (cs.drop y.2).drop z = cs.drop (y.2 + z) := by rw [List.drop_drop]
        have h := st_asg (j := 10) (v_slcF (x := lI (cs.drop y.2)) (a := kvar 10) (b := kvar 2) (d := kno) (ρ := el p m z sh th cs w (some (.pv (Rw.tim a b).pv)) y.2 (some (.ref (TL ns i s r q).length)) (some (LI u))) (S := TL ns i s r q ++ [.lst (FP (tstep p m z cs (gF q.F a) (gF q.F b) y u).1)]) (v_var rfl) (v_var (x := .int (z : Int)) rfl) (slF (by simp; omega)))
        rw [hd] at h
        exact st_seq h st_end)
  refine ⟨u, ?_⟩
  have e2 : (tims p m z cs (gF q.F a) (gF q.F b) q.i).2 = q.i + m * z := (tims_ok hp).2.2
  have hf : St _ _ _ (el p m z sh th cs w (some (.pv (Rw.tim a b).pv)) (tims p m z cs (gF q.F a) (gF q.F b) q.i).2 (some (.ref (TL ns i s r q).length)) u) (TL ns i s r q ++ [.lst (FP (tims p m z cs (gF q.F a) (gF q.F b) q.i).1)]) := hf
  rw [e2] at hf
  exact hf
theorem zip_range {α : Type} (f : Int → List Int → α) {w : List Int} {ss : List (List Int)} (h1 : w.length = m) (h2 : ss.length = m) : ((w.zip ss).map fun q => f q.1 q.2) = (List.range m).map fun (g : Nat) => f (gI w (g : Int)) (gF ss (g : Int)) := by
  refine List.ext_getElem (by simp [h1, h2]) fun k a b => ?_
  have hk : k < m := by simpa using b
  simp [gI, gF, List.getD_eq_getElem?_getD, List.getElem?_eq_getElem (show k < w.length by omega), List.getElem?_eq_getElem (show k < ss.length by omega)]
theorem l_mix {ss : List (List Int)} {S : Store} {a : Nat} {o7 o12 : Option LV} (hp : PR p) (hm : MM m) (hw : w.length = m) (hg : Good p m ss) (hs : ss.length = m) : Vl (kblt .tuple false (kcons (klc false [12] (kbin .mod (kblt .sum false (kcons (klc false [15] (kbin .mul (kidx (kvar 6) (kvar 15)) (kidx (kidx (kvar 11) (kvar 15)) (kvar 12))) (.nm 15) (kr1 (kvar 1)) true kno) knil)) (kvar 0)) (.nm 12) (kr1 (kvar 1)) true kno) knil))
    (el p m z sh th cs w o7 a (some (.pv (.lst (FP ss)))) o12) S (tI (mix p m w ss)) := by
  have hm2 : 2 ≤ m ∧ m ≤ 4 := by rcases hm with rfl | rfl | rfl <;> omega
  refine v_blt1 (v_lc (g := fun k : Nat => LI (k : Int)) (h := fun k => .int (((w.zip ss).map fun q => q.1 * gI q.2 (k : Int)).sum % p)) (as := List.range m) (it_r1 (v_var rfl) (by omega)) (fun k hk => ⟨_, rfl, ?_⟩) (by rw [List.length_range]; omega)) ?_
  · have hk := List.mem_range.mp hk
    rw [zip_range (fun u v => u * gI v (k : Int)) hw hs]
    refine v_bin (v_blt1 (v_lc (g := fun g : Nat => LI (g : Int)) (h := fun g => .int (gI w (g : Int) * gI (gF ss (g : Int)) (k : Int))) (as := List.range m) (it_r1 (v_var rfl) (by omega)) (fun g hk2 => ⟨_, rfl, ?_⟩) (by rw [List.length_range]; omega)) (sumM _ _)) (v_var rfl) (bmod hp.pos _)
    have hg2 := List.mem_range.mp hk2
    obtain ⟨hl, hin⟩ := hg.get (i := (g : Int)) (by omega) (by omega)
    have hi := gI_in hin (i := (k : Int)) (by omega) (by omega)
    exact v_bin (v_idx (x := lI w) (v_var rfl) (v_var rfl) (ixI (by omega) (by omega))) (v_idx (v_idx (x := .lst (FP ss)) (v_var rfl) (v_var rfl) (ixF (by omega) (by omega))) (v_var rfl) (ixIt (by omega) (by omega))) (bmul hi.1 (by have := hp.lt; have := hi.2; unfold gI at *; omega))
  · show some (PV.tup _) = _
    unfold tI mix
    rw [List.map_map]; rfl
end Ck30

namespace Ck30
open Gp
variable {n : Nat} {p : Int} {m z : Nat} {tm : Bool} {sh : List Rw} {ns : List Int} {i s r : Int} {w th cs : List Int}
/-- the turn of one row -/
def TURL (c : Gp.Ctx) : Sv := (kseq (kif (kcmp .eq (kidx (kvar 7) (kcon (.int 0))) (kcon (.str [111, 119, 110]))) (kseq (kexp (kmth .append (kvar 8) (kcons (kcall c 24 (kcons (kvar 0) (kcons (kvar 1) (kcons (kidx (kvar 4) (kidx (kvar 7) (kcon (.int 1)))) (kcons (kslc true false (kvar 10) kno (kvar 2)) knil))))) knil))) (kseq (kexp (kmth .append (kvar 9) (kcons (ktup (kcons (ktup (kcons (kidx (kvar 7) (kcon (.int 1))) knil)) (kcons (ktup (kcons (kidx (kvar 8) (kneg (kcon (.int 1)))) knil)) knil))) knil))) (kseq (kasg (.nm 10) (kslc false true (kvar 10) (kvar 2) kno)) kend))) (kseq (kif (kcmp .eq (kidx (kvar 7) (kcon (.int 0))) (kcon (.str [110, 117, 109, 98, 101, 114]))) (kseq (kexp (kmth .append (kvar 8) (kcons (kbin .mul (ktup (kcons (kbin .mod (kidx (kvar 7) (kcon (.int 1))) (kvar 0)) knil)) (kvar 1)) knil))) kend) (kseq (kif (kcmp .eq (kidx (kvar 7) (kcon (.int 0))) (kcon (.str [115, 117, 109]))) (kseq (kexp (kmth .append (kvar 8) (kcons (kblt .tuple false (kcons (klc false [13, 14] (kbin .mod (kbin .add (kvar 13) (kvar 14)) (kvar 0)) (.t2 (.nm 13) (.nm 14)) (kzip (kidx (kvar 8) (kidx (kvar 7) (kcon (.int 1)))) (kidx (kvar 8) (kidx (kvar 7) (kcon (.int 2))))) true kno) knil)) knil))) kend) (kseq (kasg (.nm 11) (klst true knil)) (kseq (kfor (.nm 12) (kr1 (kvar 1)) (BODL c)) (kseq (kfrz 11) (kseq (kexp (kmth .append (kvar 9) (kcons (ktup (kcons (kblt .tupR1 false (kcons (kvar 1) knil)) (kcons (kblt .tuple false (kcons (kvar 11) knil)) knil))) knil))) (kseq (kexp (kmth .append (kvar 8) (kcons (kblt .tuple false (kcons (klc false [12] (kbin .mod (kblt .sum false (kcons (klc false [15] (kbin .mul (kidx (kvar 6) (kvar 15)) (kidx (kidx (kvar 11) (kvar 15)) (kvar 12))) (.nm 15) (kr1 (kvar 1)) true kno) knil)) (kvar 0)) (.nm 12) (kr1 (kvar 1)) true kno) knil)) knil))) kend)))))) kend)) kend)) kend)
theorem lastF_snoc {F : List (List Int)} {f : List Int} : (F ++ [f]).getD ((F ++ [f]).length - 1) [] = f := by simp
theorem givMP (hm : MM m) : builtin .tupR1 [.int m] = some (givM m) := by rcases hm with rfl | rfl | rfl <;> rfl
theorem l_turn {c : Gp.Ctx} {k : Nat} {q : Q} {x : Rw} (hc : c = ⟨K (n + 2), 100⟩) (hp : PR p) (hm : MM m) (hz : z = 1 ∨ z = 2) (ht : In p th) (hl : th.length = m) (hw : w.length = m) (ho : okS m tm sh) (h8 : sh.length ≤ 8) (hk : sh[k]? = some x) (I : Inv p m z sh cs k q) {o11 o12 : Option LV} :
    ∃ u11 u12, St (TURL c) (el p m z sh th cs w (some (.pv x.pv)) q.i o11 o12) (TL ns i s r q) (el p m z sh th cs w (some (.pv x.pv)) (sstep p m z w th cs q x).i u11 u12) (TL ns i s r (sstep p m z w th cs q x)) := by
  subst hc
  have hm2 : 2 ≤ m ∧ m ≤ 4 := by rcases hm with rfl | rfl | rfl <;> omega
  have hkl : k < 8 := by have := (List.getElem?_eq_some_iff.mp hk).1; omega
  have hF : q.F.length < 1000 := by have := I.len; omega
  have hD : q.D.length < 1000 := by have := I.D; omega
  have hr := ho k x hk
  have hs := (I.next (w := w) hp ho hk hl).2
  have hlen := I.len
  cases x with
  | own a =>
    have hs : q.i + z ≤ cs.length := hs
    have hsl := slc_len hs
    refine ⟨o11, o12, ?_⟩
    show St (TURL _) _ (B ns i s r (FP q.F) (DL q.D) q.t) _ (B ns i s r (FP (q.F ++ [dl p (gI th a) m (slc cs q.i z)])) (DL (q.D ++ [(.tup [.int a], [dl p (gI th a) m (slc cs q.i z)])])) q.t)
    have hv : Vl (kcall ⟨K (n + 2), 100⟩ 24 (kcons (kvar 0) (kcons (kvar 1) (kcons (kidx (kvar 4) (kidx (kvar 7) (kcon (.int 1)))) (kcons (kslc true false (kvar 10) kno (kvar 2)) knil))))) (el p m z sh th cs w (some (.pv (Rw.own a).pv)) q.i o11 o12) (B ns i s r (FP q.F) (DL q.D) q.t) (tI (dl p (gI th a) m (slc cs q.i z))) :=
      v_call (vs_cons (v_var rfl) (vs_cons (v_var rfl) (vs_cons (v_idx (x := tI th) (v_var rfl) (v_idx (x := (Rw.own a).pv) (v_var rfl) v_con rfl) (ixIt hr.1 (by have := hr.2; omega))) (vs_cons (v_slcT (x := lI (cs.drop q.i)) (v_var rfl) (v_var rfl) slT) vs_nil)))) (e24 hp hm2.2 (by show (slc cs q.i z).length = 1 ∨ (slc cs q.i z).length = 2; rw [hsl]; exact hz))
    have hd : (cs.drop q.i).drop z = cs.drop (q.i + z) := by rw [List.drop_drop]
    have hA := st_asg (j := 10) (v_slcF (x := lI (cs.drop q.i)) (a := kvar 10) (b := kvar 2) (d := kno) (ρ := el p m z sh th cs w (some (.pv (Rw.own a).pv)) q.i o11 o12) (S := B ns i s r (FP (q.F ++ [dl p (gI th a) m (slc cs q.i z)])) (DL (q.D ++ [(.tup [.int a], [dl p (gI th a) m (slc cs q.i z)])])) q.t) (v_var rfl) (v_var (x := .int (z : Int)) rfl) (slF (by simp; omega)))
    rw [hd] at hA
    refine st_seq (st_ifT (tt_k (by kernel_rfl)) (st_seq (g_found rfl hv hF) (st_seq (g_told (d := (.tup [.int a], [dl p (gI th a) m (slc cs q.i z)])) rfl (v_tup2 (v_tup1 (v_idx (x := (Rw.own a).pv) (v_var rfl) v_con rfl)) (v_tup1 ?_)) hD) (st_seq hA st_end)))) st_end
    have hx := ixLF (F := q.F ++ [dl p (gI th a) m (slc cs q.i z)]) (by simp)
    rw [lastF_snoc] at hx
    exact v_idxr (l := FP (q.F ++ [dl p (gI th a) m (slc cs q.i z)])) (y := .int (-1)) rfl rfl rfl hx
  | num v =>
    refine ⟨o11, o12, ?_⟩
    show St (TURL _) _ (B ns i s r (FP q.F) (DL q.D) q.t) _ (B ns i s r (FP (q.F ++ [List.replicate m (v % p)])) (DL q.D) q.t)
    exact st_seq (st_ifF (tt_k (by kernel_rfl)) (st_seq (st_ifT (tt_k (by kernel_rfl)) (st_seq (g_found rfl (v_bin (v_tup1 (v_bin (v_idx (x := (Rw.num v).pv) (v_var rfl) v_con rfl) (v_var rfl) (bmod hp.pos v))) (v_var rfl) (repP hm _)) hF) st_end)) st_end)) st_end
  | sum a b =>
    obtain ⟨la, ia⟩ := I.good.get hr.1.1 (by have := hr.1.2; omega)
    obtain ⟨lb, ib⟩ := I.good.get hr.2.1 (by have := hr.2.2; omega)
    refine ⟨o11, o12, ?_⟩
    show St (TURL _) _ (B ns i s r (FP q.F) (DL q.D) q.t) _ (B ns i s r (FP (q.F ++ [addL p (gF q.F a) (gF q.F b)])) (DL q.D) q.t)
    refine st_seq (st_ifF (tt_k (by kernel_rfl)) (st_seq (st_ifF (tt_k (by kernel_rfl)) (st_seq (st_ifT (tt_k (by kernel_rfl)) (st_seq (g_found rfl (v_blt1 (v_lc (g := fun y : Int × Int => LV.pv (.tup [.int y.1, .int y.2])) (h := fun y => .int ((y.1 + y.2) % p)) (as := (gF q.F a).zip (gF q.F b)) (it_zipI (vF0 rfl (v_idx (x := (Rw.sum a b).pv) (v_var rfl) v_con rfl) hr.1.1 (by have := hr.1.2; omega)) (vF0 rfl (v_idx (x := (Rw.sum a b).pv) (v_var rfl) v_con rfl) hr.2.1 (by have := hr.2.2; omega))) (fun y _ => ⟨_, rfl, v_bin (v_bin (v_var rfl) (v_var rfl) rfl) (v_var rfl) (bmod hp.pos _)⟩) (by rw [List.length_zip]; omega)) ?_) hF) st_end)) st_end)) st_end)) st_end
    show some (PV.tup _) = _
    unfold tI addL
    rw [List.map_map]; rfl
  | tim a b =>
    have hs : q.i + m * z ≤ cs.length := hs
    obtain ⟨u, hf⟩ := g_given (n := n) (p := p) (m := m) (z := z) (sh := sh) (ns := ns) (i := i) (s := s) (r := r) (w := w) (th := th) (cs := cs) (q := q) (a := a) (b := b) hp hm hz I.good ⟨hr.2.1.1, by have := hr.2.1.2; omega⟩ ⟨hr.2.2.1, by have := hr.2.2.2; omega⟩ hs (i12 := o12)
    obtain ⟨tg, tl, te⟩ := tims_ok (z := z) (m := m) hp (cs := cs) (a := gF q.F a) (b := gF q.F b) (i := q.i)
    refine ⟨some (.pv (.lst (FP (tims p m z cs (gF q.F a) (gF q.F b) q.i).1))), u, ?_⟩
    show St (TURL _) _ (TL ns i s r q) _ (B ns i s r (FP (q.F ++ [mix p m w (tims p m z cs (gF q.F a) (gF q.F b) q.i).1])) (DL (q.D ++ [(givM m, (tims p m z cs (gF q.F a) (gF q.F b) q.i).1)])) (q.t + 1))
    refine st_seq (st_ifF (tt_k (by kernel_rfl)) (st_seq (st_ifF (tt_k (by kernel_rfl)) (st_seq (st_ifF (tt_k (by kernel_rfl)) (st_seq st_new (st_seq hf (st_seq (st_frz (k := (TL ns i s r q).length) (l := FP (tims p m z cs (gF q.F a) (gF q.F b) q.i).1) rfl at_last) ?_)))) st_end)) st_end)) st_end
    rw [set_last]
    unfold TL
    rw [B_dead]
    exact st_seq (g_told (d := (givM m, (tims p m z cs (gF q.F a) (gF q.F b) q.i).1)) rfl (v_tup2 (v_blt1 (v_var rfl) (givMP hm)) (v_blt1 (x := .lst (FP (tims p m z cs (gF q.F a) (gF q.F b) q.i).1)) (v_var rfl) rfl)) hD) (st_seq (g_found rfl (l_mix hp hm hw tg tl) hF) st_end)
theorem vcK {n f : Nat} {xs : List LV} {es : EvL} {ρ : Gp.Env} {S : Store} {v : PV} (e : Vs es ρ S xs) (h : K n f xs S = .ok (.pv v) S) : Vl (kcall ⟨K n, 100⟩ f es) ρ S v := v_call e h
theorem e26 (hp : PR p) (hm : MM m) (hz : z = 1 ∨ z = 2) (ht : In p th) (hl : th.length = m) (ho : okS m tm sh) (h1 : 1 ≤ sh.length) (h8 : sh.length ≤ 8) (hcs : cs.length = cntN m z sh) :
    K (n + 3) 26 [LI p, LI m, LI z, .pv (shP sh), .pv (tI th), .pv (tI cs)] (R ns i s r) = .ok (.pv (.tup [tI (lastF (fin p m z (wt p m) th cs sh).F), .lst (DL (fin p m z (wt p m) th cs sh).D)])) (R ns i s r) := by
  have I := fin_inv (w := wt p m) hp ho hl hcs
  refine run_rt (T := .dead :: .dead :: List.replicate (fin p m z (wt p m) th cs sh).t .dead) (e := ⟨6, 16, k26⟩) rfl rfl (u26 _) ?_
  refine rt_seq (ρ' := [some (LI p), some (LI m), some (LI z), some (.pv (shP sh)), some (.pv (tI th)), some (.pv (tI cs)), none, none, some (.ref 1), some (.ref 2), some (.pv (lI cs)), none, none, none, none, none]) (S' := R2 ns i s r [] []) ?_ ?_
  · exact st_parL (xs := [.ref 1, .ref 2, .pv (lI cs)]) rfl rfl
  have h25 : K (n + 2) 25 [LI p, LI m] (R2 ns i s r [] []) = .ok (.pv (lI (wt p m))) (R2 ns i s r [] []) := e25b (n + 1) hp hm [] []
  have hv : Vl (kcall ⟨K (n + 2), 100⟩ 25 (kcons (kvar 0) (kcons (kvar 1) knil))) [some (LI p), some (LI m), some (LI z), some (.pv (shP sh)), some (.pv (tI th)), some (.pv (tI cs)), none, none, some (.ref 1), some (.ref 2), some (.pv (lI cs)), none, none, none, none, none] (R2 ns i s r [] []) (lI (wt p m)) :=
    vcK (xs := [LI p, LI m]) (vs_cons (v_var rfl) (vs_cons (v_var rfl) vs_nil)) h25
  refine rt_seq (st_asg hv) ?_
  obtain ⟨ρ', hf, _, o7, o11, o12, rfl⟩ := st_forI (α := Rw) (β := Q) (S := R2 ns i s r [] []) (ρ := el p m z sh th cs (wt p m) none 0 none none) (t := .nm 7) (it := kex (kvar 3)) (bd := TURL ⟨K (n + 2), 100⟩)
    (g := fun x => .pv x.pv) (as := sh) (Pr := fun k q ρ => Inv p m z sh cs k q ∧ ∃ o7 o11 o12, ρ = el p m z sh th cs (wt p m) o7 q.i o11 o12) (T := TL ns i s r) (step := sstep p m z (wt p m) th cs) (q := ⟨[], [], 0, 0⟩)
    (by rw [it_ex (xs := sh.map Rw.pv) (v_var rfl), List.map_map]; rfl) ⟨inv0 hcs, _, _, _, rfl⟩
    (fun k x hk q ρ ⟨J, o7, o11, o12, e⟩ => by
      subst e
      obtain ⟨u11, u12, h⟩ := l_turn (n := n) (ns := ns) (i := i) (s := s) (r := r) (w := wt p m) rfl hp hm hz ht hl (wt_len hp hm) ho h8 hk J (o11 := o11) (o12 := o12)
      exact ⟨_, _, rfl, h, (J.next hp ho hk hl).1, _, _, _, rfl⟩)
  refine rt_seq hf ?_
  refine rt_seq (st_frz (k := 2) (l := DL (fin p m z (wt p m) th cs sh).D) rfl rfl) ?_
  refine rt_seq (st_frz (k := 1) (l := FP (fin p m z (wt p m) th cs sh).F) rfl rfl) ?_
  exact rt_now (rt_ret (v_tup2 (v_idx (x := .lst (FP (fin p m z (wt p m) th cs sh).F)) (y := .int (-1)) (v_var rfl) rfl (ixLF (by rw [I.len]; omega))) (v_var rfl)))
end Ck30

namespace Ck30
open Gp
variable {n : Nat} {p : Int} {m z : Nat} {tm : Bool} {sh : List Rw} {w th cs : List Int}
theorem hor1 {s j c : Int} : E p (hor p s j [c]) (s + c * j) := by
  show E p (((0 + c) * j % p + s) % p) (s + c * j)
  exact .md (.tr (.add (.md .rf) .rf) (.of (by grind)))
theorem hor2 {s j c d : Int} : E p (hor p s j [c, d]) (s + c * j + d * (j * j)) := by
  show E p ((((0 + d) * j % p + c) * j % p + s) % p) (s + c * j + d * (j * j))
  exact .md (.tr (.add (.md (.mul (.add (.md .rf) .rf) .rf)) .rf) (.of (by grind)))
theorem gI_range {g : Nat → Int} {k : Nat} (h : k < m) : gI ((List.range m).map g) (k : Int) = g k := by
  unfold gI
  simp [List.getD_eq_getElem?_getD, h]
theorem gI_dl {s : Int} {k : Nat} (h : k < m) : gI (dl p s m cs) (k : Int) = hor p s ((k : Int) + 1) cs := gI_range h
/-- shares of a value -/
def Poly (p : Int) (m z : Nat) (v : Int) (f : List Int) : Prop := ∃ c d : Int, (z = 1 → d = 0) ∧ ∀ i : Nat, i < m → E p (gI f (i : Int)) (v + c * ((i : Int) + 1) + d * (((i : Int) + 1) * ((i : Int) + 1)))
theorem poly_own (hz : z = 1 ∨ z = 2) {v : Int} {l : List Int} (hl : l.length = z) : Poly p m z v (dl p v m l) := by
  rcases hz with rfl | rfl
  · match l, hl with
    | [c], _ => exact ⟨c, 0, fun _ => rfl, fun i hi => by rw [gI_dl hi]; exact .tr hor1 (.of (by grind))⟩
  · match l, hl with
    | [c, d], _ => exact ⟨c, d, (fun h => absurd h (by decide)), fun i hi => by rw [gI_dl hi]; exact hor2⟩
theorem poly_num {v : Int} : Poly p m z (v % p) (List.replicate m (v % p)) := ⟨0, 0, fun _ => rfl, fun i hi => by
  have e : gI (List.replicate m (v % p)) (i : Int) = v % p := by unfold gI; simp [List.getD_eq_getElem?_getD, hi]
  rw [e]
  exact .of (by grind)⟩
theorem poly_sum {u v : Int} {f g : List Int} (hf : f.length = m) (hg : g.length = m) (a : Poly p m z u f) (b : Poly p m z v g) : Poly p m z ((u + v) % p) (addL p f g) := by
  obtain ⟨c, d, h1, h2⟩ := a
  obtain ⟨c', d', g1, g2⟩ := b
  refine ⟨c + c', d + d', fun h => by rw [h1 h, g1 h]; rfl, fun i hi => ?_⟩
  have e : gI (addL p f g) (i : Int) = (gI f (i : Int) + gI g (i : Int)) % p := by
    unfold gI addL
    simp [List.getD_eq_getElem?_getD, List.getElem?_eq_getElem (show i < f.length by omega), List.getElem?_eq_getElem (show i < g.length by omega), List.getElem?_eq_getElem (show i < (f.zip g).length by simp; omega)]
  rw [e]
  refine .md (.tr (.add (h2 i hi) (g2 i hi)) (.sy (.tr (.add (.add (.md .rf) .rf) .rf) (.of (by grind)))))
/-! the weights' sums -/
theorem wt2 (hp : PR p) : ∃ a b : Int, wt p 2 = [a, b] ∧ E p (a + b) 1 ∧ E p (a + 2 * b) 0 := by
  rcases hp with rfl | rfl | rfl | rfl <;> exact ⟨_, _, rfl, rfl, rfl⟩
theorem wt3 (hp : PR p) : ∃ a b c : Int, wt p 3 = [a, b, c] ∧ E p (a + b + c) 1 ∧ E p (a + 2 * b + 3 * c) 0 ∧ E p (a + 4 * b + 9 * c) 0 := by
  rcases hp with rfl | rfl | rfl | rfl <;> exact ⟨_, _, _, rfl, rfl, rfl, rfl⟩
theorem wt4 (hp : PR p) : ∃ a b c d : Int, wt p 4 = [a, b, c, d] ∧ E p (a + b + c + d) 1 ∧ E p (a + 2 * b + 3 * c + 4 * d) 0 ∧ E p (a + 4 * b + 9 * c + 16 * d) 0 := by
  rcases hp with rfl | rfl | rfl | rfl <;> exact ⟨_, _, _, _, rfl, rfl, rfl, rfl⟩
theorem dotE (hp : PR p) (hm : MM m) {f : List Int} (hf : f.length = m) {X Y Z : Int} (h : ∀ i : Nat, i < m → E p (gI f (i : Int)) (X + Y * ((i : Int) + 1) + Z * (((i : Int) + 1) * ((i : Int) + 1)))) (hz : m = 2 → Z = 0) : E p (((wt p m).zip f).map fun q => q.1 * q.2).sum X := by
  rcases hm with rfl | rfl | rfl
  · obtain ⟨a, b, e, m0, m1⟩ := wt2 hp
    rw [e]
    match f, hf with
    | [x, y], _ =>
      have h0 : E p x _ := h 0 (by decide)
      have h1 : E p y _ := h 1 (by decide)
      have z0 := hz rfl
      subst z0
      show E p (a * x + (b * y + 0)) X
      refine .tr (.add (.mul .rf h0) (.add (.mul .rf h1) .rf)) (.tr (y := (a + b) * X + (a + 2 * b) * Y) (.of (by grind)) (.tr (.add (.mul m0 .rf) (.mul m1 .rf)) (.of (by grind))))
  · obtain ⟨a, b, c, e, m0, m1, m2⟩ := wt3 hp
    rw [e]
    match f, hf with
    | [x, y, u], _ =>
      have h0 : E p x _ := h 0 (by decide)
      have h1 : E p y _ := h 1 (by decide)
      have h2 : E p u _ := h 2 (by decide)
      show E p (a * x + (b * y + (c * u + 0))) X
      refine .tr (.add (.mul .rf h0) (.add (.mul .rf h1) (.add (.mul .rf h2) .rf))) (.tr (y := (a + b + c) * X + (a + 2 * b + 3 * c) * Y + (a + 4 * b + 9 * c) * Z) (.of (by grind)) (.tr (.add (.add (.mul m0 .rf) (.mul m1 .rf)) (.mul m2 .rf)) (.of (by grind))))
  · obtain ⟨a, b, c, d, e, m0, m1, m2⟩ := wt4 hp
    rw [e]
    match f, hf with
    | [x, y, u, v], _ =>
      have h0 : E p x _ := h 0 (by decide)
      have h1 : E p y _ := h 1 (by decide)
      have h2 : E p u _ := h 2 (by decide)
      have h3 : E p v _ := h 3 (by decide)
      show E p (a * x + (b * y + (c * u + (d * v + 0)))) X
      refine .tr (.add (.mul .rf h0) (.add (.mul .rf h1) (.add (.mul .rf h2) (.add (.mul .rf h3) .rf)))) (.tr (y := (a + b + c + d) * X + (a + 2 * b + 3 * c + 4 * d) * Y + (a + 4 * b + 9 * c + 16 * d) * Z) (.of (by grind)) (.tr (.add (.add (.mul m0 .rf) (.mul m1 .rf)) (.mul m2 .rf)) (.of (by grind))))
theorem one_of {l : List Int} (h : l.length = 1) : ∃ c, l = [c] := match l, h with
  | [c], _ => ⟨c, rfl⟩
theorem poly_tim (hp : PR p) (hm : m = 3 ∨ m = 4) {u v : Int} {f g : List Int} (i : Nat) (hi : i + m * 1 ≤ cs.length) (a : Poly p m 1 u f) (b : Poly p m 1 v g) : Poly p m 1 (u * v % p) (mix p m (wt p m) (tims p m 1 cs f g i).1) := by
  obtain ⟨c, d, h1, h2⟩ := a
  obtain ⟨c', d', g1, g2⟩ := b
  have d0 := h1 rfl
  have d1 := g1 rfl
  subst d0 d1
  have hs : ∀ k : Nat, k < m → E p (gI f (k : Int) * gI g (k : Int) % p) ((u + c * ((k : Int) + 1)) * (v + c' * ((k : Int) + 1))) := fun k hk => .md (.mul (.tr (h2 k hk) (.of (by grind))) (.tr (g2 k hk) (.of (by grind))))
  rcases hm with rfl | rfl
  · obtain ⟨w0, w1, w2, e, m0, m1, m2⟩ := wt3 hp
    obtain ⟨c0, e0⟩ := one_of (slc_len (z := 1) (show i + 1 ≤ cs.length by omega))
    obtain ⟨c1, e1⟩ := one_of (slc_len (z := 1) (show i + 1 + 1 ≤ cs.length by omega))
    obtain ⟨c2, e2⟩ := one_of (slc_len (z := 1) (show i + 1 + 1 + 1 ≤ cs.length by omega))
    refine ⟨w0 * c0 + w1 * c1 + w2 * c2, 0, fun _ => rfl, fun k hk => ?_⟩
    unfold mix
    rw [gI_range hk, e]
    show E p ((w0 * gI (dl p (gI f 0 * gI g 0 % p) 3 (slc cs i 1)) (k : Int) + (w1 * gI (dl p (gI f 1 * gI g 1 % p) 3 (slc cs (i + 1) 1)) (k : Int) + (w2 * gI (dl p (gI f 2 * gI g 2 % p) 3 (slc cs (i + 1 + 1) 1)) (k : Int) + 0))) % p) _
    rw [e0, e1, e2, gI_dl hk, gI_dl hk, gI_dl hk]
    refine .md (.tr (.add (.mul .rf (.tr hor1 (.add (hs 0 (by decide)) .rf))) (.add (.mul .rf (.tr hor1 (.add (hs 1 (by decide)) .rf))) (.add (.mul .rf (.tr hor1 (.add (hs 2 (by decide)) .rf))) .rf))) ?_)
    refine .tr (y := (w0 + w1 + w2) * (u * v) + (w0 + 2 * w1 + 3 * w2) * (u * c' + v * c) + (w0 + 4 * w1 + 9 * w2) * (c * c') + (w0 * c0 + w1 * c1 + w2 * c2) * ((k : Int) + 1)) (.of (by grind)) ?_
    refine .tr (.add (.add (.add (.mul m0 .rf) (.mul m1 .rf)) (.mul m2 .rf)) .rf) (.sy (.tr (.add (.add (.md .rf) .rf) .rf) (.of (by grind))))
  · obtain ⟨w0, w1, w2, w3, e, m0, m1, m2⟩ := wt4 hp
    obtain ⟨c0, e0⟩ := one_of (slc_len (z := 1) (show i + 1 ≤ cs.length by omega))
    obtain ⟨c1, e1⟩ := one_of (slc_len (z := 1) (show i + 1 + 1 ≤ cs.length by omega))
    obtain ⟨c2, e2⟩ := one_of (slc_len (z := 1) (show i + 1 + 1 + 1 ≤ cs.length by omega))
    obtain ⟨c3, e3⟩ := one_of (slc_len (z := 1) (show i + 1 + 1 + 1 + 1 ≤ cs.length by omega))
    refine ⟨w0 * c0 + w1 * c1 + w2 * c2 + w3 * c3, 0, fun _ => rfl, fun k hk => ?_⟩
    unfold mix
    rw [gI_range hk, e]
    show E p ((w0 * gI (dl p (gI f 0 * gI g 0 % p) 4 (slc cs i 1)) (k : Int) + (w1 * gI (dl p (gI f 1 * gI g 1 % p) 4 (slc cs (i + 1) 1)) (k : Int) + (w2 * gI (dl p (gI f 2 * gI g 2 % p) 4 (slc cs (i + 1 + 1) 1)) (k : Int) + (w3 * gI (dl p (gI f 3 * gI g 3 % p) 4 (slc cs (i + 1 + 1 + 1) 1)) (k : Int) + 0)))) % p) _
    rw [e0, e1, e2, e3, gI_dl hk, gI_dl hk, gI_dl hk, gI_dl hk]
    refine .md (.tr (.add (.mul .rf (.tr hor1 (.add (hs 0 (by decide)) .rf))) (.add (.mul .rf (.tr hor1 (.add (hs 1 (by decide)) .rf))) (.add (.mul .rf (.tr hor1 (.add (hs 2 (by decide)) .rf))) (.add (.mul .rf (.tr hor1 (.add (hs 3 (by decide)) .rf))) .rf)))) ?_)
    refine .tr (y := (w0 + w1 + w2 + w3) * (u * v) + (w0 + 2 * w1 + 3 * w2 + 4 * w3) * (u * c' + v * c) + (w0 + 4 * w1 + 9 * w2 + 16 * w3) * (c * c') + (w0 * c0 + w1 * c1 + w2 * c2 + w3 * c3) * ((k : Int) + 1)) (.of (by grind)) ?_
    refine .tr (.add (.add (.add (.mul m0 .rf) (.mul m1 .rf)) (.mul m2 .rf)) .rf) (.sy (.tr (.add (.add (.md .rf) .rf) .rf) (.of (by grind))))
/-- all rows at once -/
theorem poly_all (hp : PR p) (hm : MM m) (hz : z = 1 ∨ z = 2) (ht : In p th) (hl : th.length = m) (ho : okS m tm sh) (hcs : cs.length = cntN m z sh) (he : ∀ x ∈ sh, isM x = true → z = 1 ∧ 2 < m) : ∀ (bs : List Rw) (k : Nat) (q : Q) (f : List Int), (∀ j x, bs[j]? = some x → sh[k + j]? = some x) → Inv p m z sh cs k q → f.length = k →
    (∀ j : Int, 0 ≤ j → j < k → Poly p m z (gI f j) (gF q.F j)) →
    let q' := bs.foldl (sstep p m z (wt p m) th cs) q
    let f' := bs.foldl (vstep p th) f
    f'.length = k + bs.length ∧ q'.F.length = k + bs.length ∧ ∀ j : Int, 0 ≤ j → j < k + bs.length → Poly p m z (gI f' j) (gF q'.F j)
  | [], k, q, f, _, I, hf, h => ⟨hf, I.len, fun j h0 h1 => h j h0 (by simpa using h1)⟩
  | x :: bs, k, q, f, hb, I, hf, h => by
    have hk : sh[k]? = some x := by have := hb 0 x rfl; simpa using this
    have hr := ho k x hk
    obtain ⟨I2, hi⟩ := I.next (w := wt p m) hp ho hk hl
    have lq := I.len
    have nx : Poly p m z (val p th f x) ((sstep p m z (wt p m) th cs q x).F.getD k []) := by
      have last : ∀ g : List Int, (q.F ++ [g]).getD k [] = g := fun g => by
        rw [← lq]; simp
      cases x with
      | own a =>
        show Poly p m z (gI th a) ((q.F ++ [_]).getD k [])
        rw [last]
        exact poly_own hz (slc_len hi)
      | num v =>
        show Poly p m z (v % p) ((q.F ++ [_]).getD k [])
        rw [last]
        exact poly_num
      | sum a b =>
        show Poly p m z ((gI f a + gI f b) % p) ((q.F ++ [_]).getD k [])
        rw [last]
        obtain ⟨la, _⟩ := I.good.get hr.1.1 (by have := hr.1.2; omega)
        obtain ⟨lb, _⟩ := I.good.get hr.2.1 (by have := hr.2.2; omega)
        exact poly_sum la lb (h a hr.1.1 hr.1.2) (h b hr.2.1 hr.2.2)
      | tim a b =>
        show Poly p m z ((gI f a * gI f b) % p) ((q.F ++ [_]).getD k [])
        rw [last]
        obtain ⟨z1, m3⟩ := he _ (List.mem_of_getElem? hk) rfl
        subst z1
        exact poly_tim hp (by rcases hm with rfl | rfl | rfl <;> omega) q.i hi (h a hr.2.1.1 hr.2.1.2) (h b hr.2.2.1 hr.2.2.2)
    have R := poly_all hp hm hz ht hl ho hcs he bs (k + 1) (sstep p m z (wt p m) th cs q x) (vstep p th f x) (fun j y hy => by have := hb (j + 1) y (by simpa using hy); rw [← this]; congr 1; omega) I2 (by simp [vstep, hf]) (fun j h0 h1 => by
      by_cases hj : j < k
      · have e1 : gI (vstep p th f x) j = gI f j := by
          unfold gI vstep
          rw [List.getD_eq_getElem?_getD, List.getD_eq_getElem?_getD, List.getElem?_append_left (by omega)]
        have e2 : gF (sstep p m z (wt p m) th cs q x).F j = gF q.F j := by
          have : ∃ g, (sstep p m z (wt p m) th cs q x).F = q.F ++ [g] := by cases x <;> exact ⟨_, rfl⟩
          obtain ⟨g, e⟩ := this
          unfold gF
          rw [e, List.getD_eq_getElem?_getD, List.getD_eq_getElem?_getD, List.getElem?_append_left (by omega)]
        rw [e1, e2]
        exact h j h0 hj
      · have ej : j = (k : Int) := by omega
        subst ej
        have e1 : gI (vstep p th f x) (k : Int) = val p th f x := by
          unfold gI vstep
          rw [← hf]; simp
        rw [e1]
        exact nx)
    simp only [List.foldl_cons, List.length_cons]; have e : k + (bs.length + 1) = k + 1 + bs.length := by omega
    rw [e]
    refine ⟨R.1, R.2.1, fun j h0 h1 => R.2.2 j h0 (by push_cast at h1 ⊢; omega)⟩
theorem dot_due (hp : PR p) (hm : MM m) (hz : z = 1 ∨ z = 2) (ht : In p th) (hl : th.length = m) (ho : okS m tm sh) (h1 : 1 ≤ sh.length) (hcs : cs.length = cntN m z sh) (he : ∀ x ∈ sh, isM x = true → z = 1 ∧ 2 < m) (hm2 : m = 2 → z = 1) :
    dot p (wt p m) (lastF (fin p m z (wt p m) th cs sh).F) = lst (vals p th sh) := by
  have I := fin_inv (w := wt p m) hp ho hl hcs
  obtain ⟨a, b, c⟩ := poly_all hp hm hz ht hl ho hcs he sh 0 ⟨[], [], 0, 0⟩ [] (fun j x h => by simpa using h) (inv0 hcs) rfl (fun j h0 h1 => by omega)
  obtain ⟨u, d, h3, h4⟩ := c ((sh.length - 1 : Nat) : Int) (by omega) (by omega)
  obtain ⟨vi, vl⟩ := vals_in hp ht hl ho
  have eF : gF (fin p m z (wt p m) th cs sh).F ((sh.length - 1 : Nat) : Int) = lastF (fin p m z (wt p m) th cs sh).F := by
    unfold gF lastF
    rw [I.len]; simp
  have eV : gI (vals p th sh) ((sh.length - 1 : Nat) : Int) = lst (vals p th sh) := by
    unfold gI lst
    rw [vl]; simp
  have L := lastF_in I.good (by rw [I.len]; omega)
  have h4 : ∀ i : Nat, i < m → E p (gI (gF (fin p m z (wt p m) th cs sh).F ((sh.length - 1 : Nat) : Int)) (i : Int)) (gI (vals p th sh) ((sh.length - 1 : Nat) : Int) + u * ((i : Int) + 1) + d * (((i : Int) + 1) * ((i : Int) + 1))) := h4
  rw [eF, eV] at h4
  have D := dotE hp hm L.1 h4 (fun h => h3 (hm2 h))
  unfold dot
  have r := gI_in vi (i := ((sh.length - 1 : Nat) : Int)) (by omega) (by omega)
  rw [eV] at r
  have D : _ % p = _ % p := D
  rw [D]
  exact Int.emod_eq_of_lt r.1 r.2
end Ck30

namespace Ck30
open Gp
variable {n : Nat} {S : Store}
def Al : Nat → PV → Prop
  | 0, x => ∃ i, x = .int i
  | d + 1, x => (∃ i, x = .int i) ∨ ∃ xs, x = .tup xs ∧ xs.length ≤ 1000 ∧ ∀ y ∈ xs, Al d y
theorem ixT {l : List PV} {i : Int} (h0 : 0 ≤ i) (h1 : i < l.length) : index (.tup l) (.int i) = some (l.getD i.toNat .non) := ixg h0 h1
theorem al_int (i : Int) : K (n + 1) 20 [LI i, LI i] S = .ok (.pv (.bl true)) S := by
  refine run_rt0 (e := ⟨2, 4, k20⟩) rfl rfl (u20 _) ?_
  refine rt_seq (st_ifF (tt_k (by kernel_rfl)) st_end) ?_
  refine rt_seq (st_ifF (tt_k (by kernel_rfl)) st_end) ?_
  refine rt_seq (st_ifF (tt_k (by kernel_rfl)) st_end) ?_
  refine rt_now (rt_ret (v_and (v_k (by kernel_rfl)) (v_and (v_k (by kernel_rfl)) (v_cmp (x := .int i) (y := .int i) (v_var rfl) (v_var rfl) ?_))))
  rw [cmp_eqI]; simp
theorem al_tup {xs : List PV} (hl : xs.length ≤ 1000) (h : ∀ y ∈ xs, K n 20 [.pv y, .pv y] S = .ok (.pv (.bl true)) S) : K (n + 1) 20 [.pv (.tup xs), .pv (.tup xs)] S = .ok (.pv (.bl true)) S := by
  refine run_rt0 (e := ⟨2, 4, k20⟩) rfl rfl (u20 _) ?_
  have lv : ∀ {ρ : Gp.Env} {j : Nat}, ρ[j]? = some (some (.pv (.tup xs))) → Vl (kblt .len false (kcons (kvar j) knil)) ρ S (.int xs.length) := fun h => v_blt1 (v_var h) rfl
  refine rt_now (rt_ifT (tt_k (by kernel_rfl)) ?_)
  refine rt_seq (st_ifF (tt_k (by kernel_rfl)) st_end) ?_
  refine rt_seq (st_ifF (tt_cmp (lv rfl) (lv rfl) (by rw [cmp_neI]; simp)) st_end) ?_
  have hc := v_lcF (ws := [2]) (a := kvar 2) (b := knot (kcall ⟨runK KP 100 n, 100⟩ 20 (kcons (kidx (kvar 0) (kvar 2)) (kcons (kidx (kvar 1) (kvar 2)) knil)))) (t := .nm 2) (it := kr1 (kblt .len false (kcons (kvar 1) knil))) (g := fun k : Nat => LI (k : Int)) (h := fun _ => .non) (p := fun _ => false) (as := List.range xs.length) (S := S) (ρ := [some (.pv (.tup xs)), some (.pv (.tup xs)), none, none])
    (it_r1 (lv rfl) hl) (fun k hk => ⟨_, rfl, tt_notT (tt_call (vs_cons (v_idx (x := .tup xs) (v_var rfl) (v_var rfl) (ixT (by omega) (by have := List.mem_range.mp hk; omega))) (vs_cons (v_idx (x := .tup xs) (v_var rfl) (v_var rfl) (ixT (by omega) (by have := List.mem_range.mp hk; omega))) vs_nil)) (h _ (by
      have hk := List.mem_range.mp hk
      have e : ((k : Int)).toNat = k := by omega
      rw [e, List.getD_eq_getElem?_getD, List.getElem?_eq_getElem hk]
      exact List.getElem_mem hk))), fun h => nomatch h⟩) (by rw [List.length_range]; omega)
  have e0 : (((List.range xs.length).filter fun _ => false).map fun _ => PV.non) = [] := by simp
  rw [e0] at hc
  exact rt_now (rt_ret (v_cmp (t := true) hc rfl rfl))
theorem e20 : ∀ (d : Nat) (x : PV), Al d x → K (n + d + 1) 20 [.pv x, .pv x] S = .ok (.pv (.bl true)) S
  | 0, x, ⟨i, e⟩ => by rw [e]; exact al_int i
  | d + 1, x, h => by
    rcases h with ⟨i, e⟩ | ⟨xs, e, hl, h⟩
    · rw [e]; exact al_int i
    · rw [e]; exact al_tup hl fun y hy => e20 d y (h y hy)
/-! drawing -/
theorem takn (ns : List Int) (i s r : Int) (T : Store) (m : Int) (h0 : 0 < m) (h1 : m < 1073741824) (hi : 0 ≤ i) : ∃ v i' s' r', K (n + 1) 18 [.ref 0, LI m] (rowT ns i s r T) = .ok (LI v) (rowT ns i' s' r' T) ∧ 0 ≤ v ∧ v < m ∧ 0 ≤ i' := by
  have := taken_okT (P := defs.map DefI.d) (wf := 100) (k := n) (f := 18) rfl T ns i s r m h0 h1 hi
  rw [runK_eq (P := defs.map DefI.d) (KP := KP) kp_eq] at this
  exact this
theorem xs_cons {a : Ev} {es : EvL} {ρ : Gp.Env} {S S1 S2 : Store} {u : LV} {us : List LV} (ha : a false ρ S = .ok u S1) (hr : es ρ S1 = .ok us S2) : kcons a es ρ S = .ok (u :: us) S2 := by
  show ((a false ρ S).bind fun x S => (es ρ S).bind fun xs S => .ok (x :: xs) S) = _
  rw [ha]
  show ((es ρ S1).bind fun xs S => .ok (u :: xs) S) = _
  rw [hr]; rfl
theorem x_call {c : Gp.Ctx} {f : Nat} {es : EvL} {ρ : Gp.Env} {S S1 S2 : Store} {u : LV} {us : List LV} (hs : es ρ S = .ok us S1) (h : c.call f us S1 = .ok u S2) : kcall c f es false ρ S = .ok u S2 := by
  show ((es ρ S).bind fun ls S => c.call f ls S) = _
  rw [hs]; exact h
theorem x_tup {es : EvL} {ρ : Gp.Env} {S S1 : Store} {us : List PV} (hs : es ρ S = .ok (us.map .pv) S1) : ktup es false ρ S = .ok (.pv (.tup us)) S1 := by
  show ((es ρ S).bind fun ls S => match pvs ls with | some ps => Res.ok (LV.pv (.tup ps)) S | none => .bad) = _
  rw [hs]
  show (match pvs (us.map LV.pv) with | some ps => Res.ok (LV.pv (.tup ps)) S1 | none => .bad) = _
  rw [pvs_map]
theorem x_lst {al : Bool} {es : EvL} {ρ : Gp.Env} {S S1 : Store} {us : List PV} (hs : es ρ S = .ok (us.map .pv) S1) : klst al es false ρ S = (if al then .ok (.ref S1.length) (S1 ++ [.lst us]) else .ok (.pv (.lst us)) S1) := by
  show ((es ρ S).bind fun ls S => mkL al ls S) = _
  rw [hs]
  show mkL al (us.map LV.pv) S1 = _
  unfold mkL
  rw [pvs_map]
theorem x_ite {a b d : Ev} {ρ : Gp.Env} {S S1 : Store} {t : Bool} {u : LV} (h : Tt d ρ S t) (h1 : t = true → a false ρ S = .ok u S1) (h2 : t = false → b false ρ S = .ok u S1) : kite d a b false ρ S = .ok u S1 := by
  show iteR (isT (d true ρ S)) (fun S => a false ρ S) (fun S => b false ρ S) = _
  rw [h]
  cases t with
  | true => exact h1 rfl
  | false => exact h2 rfl
theorem x_idx {a b : Ev} {ρ : Gp.Env} {S S1 : Store} {x y z : PV} (ha : Vl a ρ S x) (hb : b false ρ S = .ok (.pv y) S1) (h : index x y = some z) : kidx a b false ρ S = .ok (.pv z) S1 := by
  show ((a false ρ S).bind fun x S => (b false ρ S).bind fun y S => idxL x y S) = _
  rw [ha]
  show ((b false ρ S).bind fun y S => idxL (.pv x) y S) = _
  rw [hb]
  show opt (index x y) S1 = _
  rw [h]; rfl
theorem x_app {j k : Nat} {a : Ev} {ρ : Gp.Env} {S S1 : Store} {l l1 : List PV} {x : PV} (hr : ρ[j]? = some (some (.ref k))) (h0 : S[k]? = some (.lst l)) (ha : a false ρ S = .ok (.pv x) S1) (hk : S1[k]? = some (.lst l1)) (hl : l1.length < 1000000) : St (kexp (kmth .append (kvar j) (kcons a knil))) ρ S ρ (S1.set k (.lst (l1 ++ [x]))) := by
  refine st_exp (u := .pv .non) ?_
  show ((getV ρ j S).bind fun x S => if mtyOk .append x S then (kcons a knil ρ S).bind fun ls S => methL .append x ls S else .bad) = _
  have g : getV ρ j S = .ok (.ref k) S := by unfold getV; rw [hr]
  rw [g]
  show (if mtyOk .append (.ref k) S then (kcons a knil ρ S).bind fun ls S => methL .append (.ref k) ls S else .bad) = _
  have e : mtyOk .append (.ref k) S = true := by
    unfold mtyOk
    rw [rd_ref h0]
  rw [if_pos e, xs_cons ha rfl]
  show (match S1[k]? with | some (.lst l) => if l.length < big then Res.ok (LV.pv .non) (S1.set k (.lst (l ++ [x]))) else .bad | _ => .bad) = _
  rw [hk]
  show (if l1.length < big then _ else _) = _
  rw [if_pos (show l1.length < big from hl)]
/-- a loop whose turns draw -/
theorem forL_draw {f : LV → Gp.Env → Store → Res Flow} {I : Nat → Gp.Env → Store → Prop} (N : Nat) : ∀ {ls : List LV} {k : Nat} {ρ : Gp.Env} {S : Store}, k + ls.length = N → I k ρ S → (∀ l ∈ ls, ∀ k ρ S, k < N → I k ρ S → ∃ ρ' S', f l ρ S = .ok (.nx ρ') S' ∧ I (k + 1) ρ' S') → ∃ ρ' S', forL f ls ρ S = .ok (.nx ρ') S' ∧ I N ρ' S'
  | [], k, ρ, S, hn, h, _ => ⟨ρ, S, rfl, by rw [← hn]; exact h⟩
  | l :: ls, k, ρ, S, hn, h, H => by
    have hn' : k + (ls.length + 1) = N := hn
    obtain ⟨ρ1, S1, e, h1⟩ := H l List.mem_cons_self k ρ S (by omega) h
    obtain ⟨ρ2, S2, e2, h2⟩ := forL_draw (f := f) (I := I) N (ls := ls) (by omega) h1 fun l hl => H l (List.mem_cons_of_mem _ hl)
    exact ⟨ρ2, S2, (forL_step e).trans e2, h2⟩
/-- a comprehension that draws numbers -/
theorem compL_draw {α : Type} {p : Int} {f : LV → Store → Res (Option LV)} {g : α → LV} {I : Store → Prop} : ∀ {as : List α} {S : Store}, I S → (∀ u ∈ as, ∀ S, I S → ∃ v S', f (g u) S = .ok (some (LI v)) S' ∧ 0 ≤ v ∧ v < p ∧ I S') → ∃ vs S', compL f (as.map g) S = .ok ((vs.map PV.int).map .pv) S' ∧ vs.length = as.length ∧ In p vs ∧ I S'
  | [], S, h, _ => ⟨[], S, rfl, rfl, (fun _ h => nomatch h), h⟩
  | u :: as, S, h, H => by
    obtain ⟨v, S1, e1, v0, v1, h1⟩ := H u List.mem_cons_self S h
    obtain ⟨vs, S2, e2, l2, i2, h2⟩ := compL_draw (f := f) (g := g) (I := I) (as := as) h1 fun y hy => H y (List.mem_cons_of_mem _ hy)
    refine ⟨v :: vs, S2, ?_, by simp [l2], fun x hx => ?_, h2⟩
    · show (f (g u) S).bind (fun o S => (compL f (as.map g) S).bind fun ys S => match o with
        | some y => .ok (y :: ys) S
        | none => .ok ys S) = _
      rw [e1]
      show (compL f (as.map g) S1).bind _ = _
      rw [e2]; rfl
    · rcases List.mem_cons.mp hx with rfl | hx
      · exact ⟨v0, v1⟩
      · exact i2 x hx
def Row (ns : List Int) (S : Store) : Prop := ∃ i s r, S = R ns i s r ∧ 0 ≤ i
/-- a tuple of drawn numbers -/
theorem draws {ns : List Int} {i s r p : Int} {ρ : Gp.Env} {j k : Nat} {c e : Ev} (hp0 : 0 < p) (hp1 : p < 1000) (hi : 0 ≤ i) (hk : k ≤ 1000) (he : ∀ S, Vl e ρ S (.int k)) (hc : ∀ (u : Nat) (S : Store) (v : Int) (S' : Store), K (n + 1) 18 [.ref 0, LI p] S = .ok (LI v) S' → c false ((wipe ρ [j]).set j (some (LI u))) S = .ok (LI v) S') :
    ∃ vs i' s' r', kblt .tuple false (kcons (klc false [j] c (.nm j) (kr1 e) true kno) knil) false ρ (R ns i s r) = .ok (.pv (tI vs)) (R ns i' s' r') ∧ vs.length = k ∧ In p vs ∧ 0 ≤ i' := by
  obtain ⟨vs, S', e1, l1, i1, i', s', r', rfl, h1⟩ := compL_draw (p := p) (f := fun l S => turn (bindT (.nm j) l (wipe ρ [j])) fun ρ => iteR (tstO true (kno true ρ S) S) (fun S => (c false ρ S).bind fun v S => .ok (some v) S) (fun S => .ok none S)) (g := fun u : Nat => LI (u : Int)) (I := Row ns) (as := List.range k) (S := R ns i s r) ⟨i, s, r, rfl, hi⟩ (fun u _ S ⟨i, s, r, e, hi⟩ => by
    subst e
    obtain ⟨v, i', s', r', e, v0, v1, h⟩ := takn (n := n) ns i s r [] p hp0 (by omega) hi
    refine ⟨v, _, ?_, v0, v1, i', s', r', rfl, h⟩
    show ((c false ((wipe ρ [j]).set j (some (LI u))) (R ns i s r)).bind fun v S => Res.ok (some v) S) = _
    rw [hc u _ v _ e]; rfl)
  refine ⟨vs, i', s', r', ?_, by rw [l1, List.length_range], i1, h1⟩
  refine v_bltG (x := .lst (vs.map .int)) ?_ rfl
  show ((kr1 e ρ (R ns i s r)).bind fun ls S => (noX (compL _ ls S)).bind fun ys S => mkC false ys S) = _
  rw [it_r1 (he _) hk]
  show (noX (compL _ ((List.range k).map fun u : Nat => LI (u : Int)) (R ns i s r))).bind (fun ys S => mkC false ys S) = _
  rw [e1]
  exact mkC_pv _ _ (by rw [List.length_map, l1, List.length_range]; omega)
end Ck30

namespace Ck30
open Gp
variable {n : Nat} {S : Store} {m : Nat} {tm : Bool} {ns : List Int} {i s r : Int}
theorem run_rtX {KP : List KD} {wf n f : Nat} {e : KD} {ls : List LV} {S S1 : Store} {s : Sv} {x : PV} (T : Store) (h : KP[f]? = some e) (hl : ls.length = e.ar) (hu : e.body ⟨runK KP wf n, wf⟩ = s) (hr : Rt s (enterK e.ar e.sl ls) S (.pv x) (S1 ++ T)) (hlen : S1.length = S.length) : runK KP wf (n + 1) f ls S = .ok (.pv x) S1 := by
  rw [runK_s h hl, hu, hr]
  show Res.ok (LV.pv x) ((S1 ++ T).take S.length) = _
  rw [← hlen, List.take_left]
theorem pickT (T : Store) (xs : List PV) (h0 : xs ≠ []) (h1 : xs.length < 1000000) (hi : 0 ≤ i) : ∃ x i' s' r', K (n + 2) 19 [.ref 0, .pv (.lst xs)] (rowT ns i s r T) = .ok (.pv x) (rowT ns i' s' r' T) ∧ x ∈ xs ∧ 0 ≤ i' := by
  have hl : 0 < xs.length := List.length_pos_iff.mpr h0
  obtain ⟨v, i', s', r', e, v0, v1, hi'⟩ := takn (n := n) ns i s r T (xs.length : Int) (by omega) (by omega) hi
  have hv : v.toNat < xs.length := by omega
  refine ⟨xs[v.toNat], i', s', r', ?_, List.getElem_mem hv, hi'⟩
  refine run_rtX [] (e := ⟨2, 2, k19⟩) rfl rfl (u19 _) ?_ rfl
  rw [List.append_nil]
  have hx := ixg (l := xs) v0 v1
  rw [List.getD_eq_getElem?_getD, List.getElem?_eq_getElem hv] at hx
  have hc : kcall ⟨K (n + 1), 100⟩ 18 (kcons (kvar 0) (kcons (kblt .len false (kcons (kvar 1) knil)) knil)) false [some (.ref 0), some (.pv (.lst xs))] (rowT ns i s r T) = .ok (LI v) (rowT ns i' s' r' T) :=
    x_call (us := [.ref 0, LI xs.length]) (S1 := rowT ns i s r T) (xs_cons (v_ref rfl) (xs_cons (v_blt1 (x := .lst xs) (v_var rfl) rfl) rfl)) e
  exact rt_now (rt_ret (x_idx (x := .lst xs) (y := .int v) (v_var rfl) hc hx))
def DRAW (c : Gp.Ctx) : Ev := (kite (kcmp .eq (kvar 6) (kcon (.int 0))) (kcall c 19 (kcons (kvar 0) (kcons (klst false (kcons (ktup (kcons (kcon (.str [111, 119, 110])) (kcons (kcall c 18 (kcons (kvar 0) (kcons (kvar 1) knil))) knil))) (kcons (ktup (kcons (kcon (.str [110, 117, 109, 98, 101, 114])) (kcons (kcall c 18 (kcons (kvar 0) (kcons (kcon (.int 13)) knil))) knil))) knil))) knil))) (ktup (kcons (kite (kcmp .eq (kvar 6) (kcon (.int 3))) (kcon (.str [116, 105, 109, 101, 115])) (kcon (.str [115, 117, 109]))) (kcons (kvar 7) (kcons (kvar 8) knil)))))
def shL (ns : List Int) (i s r : Int) (sh : List Rw) : Store := rowT ns i s r [.lst (sh.map Rw.pv)]
def es (m : Nat) (tm : Bool) (o5 o6 o7 o8 : Option LV) : Gp.Env := [some (.ref 0), some (LI m), some (LI 8), some (.pv (.bl tm)), some (.ref 1), o5, o6, o7, o8]
theorem t18 {n : Nat} {ρ : Gp.Env} {S S' : Store} {e : Ev} {m v : Int} (h0 : ρ[0]? = some (some (.ref 0))) (he : Vl e ρ S (.int m)) (h : K n 18 [.ref 0, LI m] S = .ok (LI v) S') : kcall ⟨K n, 100⟩ 18 (kcons (kvar 0) (kcons e knil)) false ρ S = .ok (LI v) S' :=
  x_call (us := [.ref 0, LI m]) (xs_cons (v_ref h0) (xs_cons he rfl)) h
theorem g_draw {sh : List Rw} {o5 : Option LV} {w a b : Int} (hm : MM m) (ho : okS m tm sh) (hw : 0 ≤ w ∧ w < (if tm then 4 else 3)) (ha : 0 ≤ a ∧ a < sh.length) (hb : 0 ≤ b ∧ b < sh.length) (hi : 0 ≤ i) :
    ∃ x i' s' r', DRAW ⟨K (n + 2), 100⟩ false (es m tm o5 (some (LI w)) (some (LI a)) (some (LI b))) (shL ns i s r sh) = .ok (.pv (Rw.pv x)) (shL ns i' s' r' sh) ∧ okR m tm sh.length x ∧ 0 ≤ i' := by
  have hm2 : 2 ≤ m ∧ m ≤ 4 := by rcases hm with rfl | rfl | rfl <;> omega
  by_cases h0 : w = 0
  · subst h0
    obtain ⟨v1, i1, s1, r1, e1, a1, b1, c1⟩ := takn (n := n + 1) ns i s r [.lst (sh.map Rw.pv)] m (by omega) (by omega) hi
    obtain ⟨v2, i2, s2, r2, e2, a2, b2, c2⟩ := takn (n := n + 1) ns i1 s1 r1 [.lst (sh.map Rw.pv)] 13 (by omega) (by omega) c1
    obtain ⟨x, i3, s3, r3, e3, hx, c3⟩ := pickT (n := n) (ns := ns) (i := i2) (s := s2) (r := r2) [.lst (sh.map Rw.pv)] [(Rw.own v1).pv, (Rw.num v2).pv] (by simp) (by simp) c2
    have hx2 : ∃ y : Rw, x = y.pv ∧ okR m tm sh.length y := by
      simp only [List.mem_cons, List.not_mem_nil, or_false] at hx; rcases hx with rfl | rfl
      · exact ⟨.own v1, rfl, a1, b1⟩
      · exact ⟨.num v2, rfl, a2, by omega⟩
    obtain ⟨y, rfl, hy⟩ := hx2
    refine ⟨y, i3, s3, r3, ?_, hy, c3⟩
    refine x_ite (t := true) (tt_k (by kernel_rfl)) (fun _ => ?_) (fun h => nomatch h)
    refine x_call (us := [.ref 0, .pv (.lst [(Rw.own v1).pv, (Rw.num v2).pv])]) (S1 := shL ns i2 s2 r2 sh) (xs_cons (v_ref rfl) (xs_cons (S1 := shL ns i2 s2 r2 sh) ?_ rfl)) e3
    refine (x_lst (al := false) (us := [(Rw.own v1).pv, (Rw.num v2).pv]) (S1 := shL ns i2 s2 r2 sh) ?_).trans rfl
    exact xs_cons (S1 := shL ns i1 s1 r1 sh) (u := .pv (Rw.own v1).pv) (us := [.pv (Rw.num v2).pv]) (x_tup (us := [.str tO, .int v1]) (xs_cons (u := .pv (.str tO)) (us := [LI v1]) (S1 := shL ns i s r sh) rfl (xs_cons (t18 rfl (v_var rfl) e1) rfl)))
      (xs_cons (u := .pv (Rw.num v2).pv) (us := []) (S1 := shL ns i2 s2 r2 sh) (x_tup (us := [.str tN, .int v2]) (xs_cons (u := .pv (.str tN)) (us := [LI v2]) (S1 := shL ns i1 s1 r1 sh) rfl (xs_cons (t18 rfl v_con e2) rfl))) rfl)
  · have f0 : Tt (kcmp .eq (kvar 6) (kcon (.int 0))) (es m tm o5 (some (LI w)) (some (LI a)) (some (LI b))) (shL ns i s r sh) false := tt_cmp (x := .int w) (y := .int 0) (v_var rfl) v_con (by rw [cmp_eqI, decide_eq_false h0])
    by_cases h3 : w = 3
    · subst h3
      have ht : tm = true := by
        cases tm with
        | true => rfl
        | false => exfalso; have := hw.2; simp at this
      refine ⟨.tim a b, i, s, r, ?_, ⟨ht, ha, hb⟩, hi⟩
      exact x_ite (t := false) f0 (fun h => nomatch h) (fun _ => v_tup3 (x := .str tM) (y := .int a) (z := .int b) (v_ite (t := true) (tt_k (by kernel_rfl)) (fun _ => v_con) (fun h => nomatch h)) (v_var rfl) (v_var rfl))
    · have f3 : Tt (kcmp .eq (kvar 6) (kcon (.int 3))) (es m tm o5 (some (LI w)) (some (LI a)) (some (LI b))) (shL ns i s r sh) false := tt_cmp (x := .int w) (y := .int 3) (v_var rfl) v_con (by rw [cmp_eqI, decide_eq_false h3])
      refine ⟨.sum a b, i, s, r, ?_, ⟨ha, hb⟩, hi⟩
      exact x_ite (t := false) f0 (fun h => nomatch h) (fun _ => v_tup3 (x := .str tS) (y := .int a) (z := .int b) (v_ite (t := false) f3 (fun h => nomatch h) (fun _ => v_con)) (v_var rfl) (v_var rfl))
def BODS (c : Gp.Ctx) : Sv := kseq (kasg (.nm 6) (kcall c 18 (kcons (kvar 0) (kcons (kite (kvar 3) (kcon (.int 4)) (kcon (.int 3))) knil)))) (kseq (kpar [7, 8] (kcons (kcall c 18 (kcons (kvar 0) (kcons (kblt .len false (kcons (kvar 4) knil)) knil))) (kcons (kcall c 18 (kcons (kvar 0) (kcons (kblt .len false (kcons (kvar 4) knil)) knil))) knil))) (kseq (kexp (kmth .append (kvar 4) (kcons (DRAW c) knil))) kend))
theorem okS_snoc {sh : List Rw} {x : Rw} (h : okS m tm sh) (hx : okR m tm sh.length x) : okS m tm (sh ++ [x]) := fun k y hk => by
  by_cases hl : k < sh.length
  · rw [List.getElem?_append_left hl] at hk
    exact h k y hk
  · rw [List.getElem?_append_right (by omega)] at hk
    have e : k - sh.length = 0 := by
      have := (List.getElem?_eq_some_iff.mp hk).1
      simp at this; omega
    rw [e] at hk
    have ek : k = sh.length := by omega
    cases hk
    rw [ek]; exact hx
theorem e21 (hm : MM m) (hi : 0 ≤ i) : ∃ sh i' s' r', K (n + 3) 21 [.ref 0, LI m, LI 8, .pv (.bl tm)] (R ns i s r) = .ok (.pv (shP sh)) (R ns i' s' r') ∧ okS m tm sh ∧ 1 ≤ sh.length ∧ sh.length ≤ 8 ∧ 0 ≤ i' := by
  have hm2 : 2 ≤ m ∧ m ≤ 4 := by rcases hm with rfl | rfl | rfl <;> omega
  obtain ⟨v0, i0, s0, r0, e0, a0, b0, c0⟩ := takn (n := n + 1) ns i s r [] m (by omega) (by omega) hi
  obtain ⟨v1, i1, s1, r1, e1, a1, b1, c1⟩ := takn (n := n + 1) ns i0 s0 r0 [.lst [(Rw.own v0).pv]] 8 (by omega) (by omega) c0
  have hv1 : v1 = ((v1.toNat : Nat) : Int) := by omega
  have st0 : St (kasg (.nm 4) (klst true (kcons (ktup (kcons (kcon (.str [111, 119, 110])) (kcons (kcall ⟨K (n + 2), 100⟩ 18 (kcons (kvar 0) (kcons (kvar 1) knil))) knil))) knil))) [some (.ref 0), some (LI m), some (LI 8), some (.pv (.bl tm)), none, none, none, none, none] (R ns i s r) (es m tm none none none none) (shL ns i0 s0 r0 [.own v0]) := by
    refine st_asgL (u := .ref 1) (S' := shL ns i0 s0 r0 [.own v0]) ?_
    refine (x_lst (al := true) (us := [(Rw.own v0).pv]) (S1 := R ns i0 s0 r0) ?_).trans rfl
    exact xs_cons (S1 := R ns i0 s0 r0) (u := .pv (Rw.own v0).pv) (us := []) (x_tup (us := [.str tO, .int v0]) (xs_cons (u := .pv (.str tO)) (us := [LI v0]) (S1 := R ns i s r) rfl (xs_cons (t18 rfl (v_var rfl) e0) rfl))) rfl
  have hrun : ∃ sh i' s' r', Rt (kseq (kasg (.nm 4) (klst true (kcons (ktup (kcons (kcon (.str [111, 119, 110])) (kcons (kcall ⟨K (n + 2), 100⟩ 18 (kcons (kvar 0) (kcons (kvar 1) knil))) knil))) knil))) (kseq (kfor (.nm 5) (kr1 (kcall ⟨K (n + 2), 100⟩ 18 (kcons (kvar 0) (kcons (kvar 2) knil)))) (BODS ⟨K (n + 2), 100⟩)) (kseq (kfrz 4) (kseq (kret (kblt .tuple false (kcons (kvar 4) knil))) kend))))
      [some (.ref 0), some (LI m), some (LI 8), some (.pv (.bl tm)), none, none, none, none, none] (R ns i s r) (.pv (shP sh)) (R ns i' s' r' ++ [.dead]) ∧ okS m tm sh ∧ 1 ≤ sh.length ∧ sh.length ≤ 8 ∧ 0 ≤ i' := by
    have hL := forL_draw v1.toNat (f := fun l ρ S => match bindT (.nm 5) l ρ with | some ρ => BODS ⟨K (n + 2), 100⟩ ρ S | none => .bad) (I := fun k ρ S => ∃ sh i s r o5 o6 o7 o8, 0 ≤ i ∧ sh.length = 1 + k ∧ okS m tm sh ∧ S = shL ns i s r sh ∧ ρ = es m tm o5 o6 o7 o8) (ls := (List.range v1.toNat).map fun u : Nat => LI (u : Int)) (k := 0) (ρ := es m tm none none none none) (S := shL ns i1 s1 r1 [.own v0]) (by simp) ⟨[.own v0], i1, s1, r1, none, none, none, none, c1, rfl, (fun k y hk => by
      match k, hk with
      | 0, hk => cases hk; exact ⟨a0, b0⟩), rfl, rfl⟩ (fun l hl k ρ S hk I => by
        obtain ⟨sh, i, s, r, o5, o6, o7, o8, hi, hlen, ho, rfl, rfl⟩ := I
        obtain ⟨w, ia, sa, ra, ea, wa, wb, ca⟩ := takn (n := n + 1) ns i s r [.lst (sh.map Rw.pv)] (if tm then 4 else 3) (by split <;> omega) (by split <;> omega) hi
        obtain ⟨x, ib, sb, rb, eb, xa, xb, cb⟩ := takn (n := n + 1) ns ia sa ra [.lst (sh.map Rw.pv)] sh.length (by omega) (by omega) ca
        obtain ⟨y, ic, sc, rc, ec, ya, yb, cc⟩ := takn (n := n + 1) ns ib sb rb [.lst (sh.map Rw.pv)] sh.length (by omega) (by omega) cb
        obtain ⟨z, id, sd, rd, ed, hz, cd⟩ := g_draw (n := n) (ns := ns) (i := ic) (s := sc) (r := rc) (o5 := some l) (w := w) (a := x) (b := y) hm ho ⟨wa, wb⟩ ⟨xa, xb⟩ ⟨ya, yb⟩ cc
        refine ⟨es m tm (some l) (some (LI w)) (some (LI x)) (some (LI y)), shL ns id sd rd (sh ++ [z]), ?_, ⟨sh ++ [z], id, sd, rd, _, _, _, _, cd, by simp [hlen]; omega, okS_snoc ho hz, rfl, rfl⟩⟩
        have lv : ∀ {i s r : Int} {o5 o6 o7 o8 : Option LV}, Vl (kblt .len false (kcons (kvar 4) knil)) (es m tm o5 o6 o7 o8) (shL ns i s r sh) (.int sh.length) := fun {i s r o5 o6 o7 o8} => v_blr (l := sh.map Rw.pv) rfl rfl (by
          show some (PV.int ((sh.map Rw.pv).length : Nat)) = _
          rw [List.length_map])
        refine (show St (BODS ⟨K (n + 2), 100⟩) (es m tm (some l) o6 o7 o8) (shL ns i s r sh) _ _ from ?_)
        refine st_seq (ρ' := es m tm (some l) (some (LI w)) o7 o8) (S' := shL ns ia sa ra sh) (st_asgL (u := LI w) (t18 (m := if tm then 4 else 3) rfl ?_ ea)) ?_
        · refine v_ite (t := tm) (tt_var rfl) (fun e => ?_) (fun e => ?_)
          · rw [e]; exact v_con
          · rw [e]; exact v_con
        refine st_seq (ρ' := es m tm (some l) (some (LI w)) (some (LI x)) (some (LI y))) (S' := shL ns ic sc rc sh) (st_parL (xs := [LI x, LI y]) (xs_cons (S1 := shL ns ib sb rb sh) (t18 rfl lv eb) (xs_cons (S1 := shL ns ic sc rc sh) (t18 rfl lv ec) rfl)) rfl) ?_
        refine st_seq ?_ st_end
        have q := x_app (j := 4) (k := 1) (ρ := es m tm (some l) (some (LI w)) (some (LI x)) (some (LI y))) (S := shL ns ic sc rc sh) (S1 := shL ns id sd rd sh) (l := sh.map Rw.pv) (l1 := sh.map Rw.pv) rfl rfl ed rfl (by rw [List.length_map]; omega)
        have e : shL ns id sd rd (sh ++ [z]) = (shL ns id sd rd sh).set 1 (.lst (sh.map Rw.pv ++ [z.pv])) := by
          show [_, SO.lst ((sh ++ [z]).map Rw.pv)] = [_, SO.lst (sh.map Rw.pv ++ [z.pv])]
          rw [List.map_append]; rfl
        rw [e]
        exact q)
    obtain ⟨ρ', S', hf, sh, i2, s2, r2, o5, o6, o7, o8, c2, hl2, ho2, rfl, rfl⟩ := hL
    refine ⟨sh, i2, s2, r2, ?_, ho2, by omega, by omega, c2⟩
    refine rt_seq st0 ?_
    refine rt_seq (ρ' := es m tm o5 o6 o7 o8) (S' := shL ns i2 s2 r2 sh) ?_ ?_
    · have hk : kr1 (kcall ⟨K (n + 2), 100⟩ 18 (kcons (kvar 0) (kcons (kvar 2) knil))) (es m tm none none none none) (shL ns i0 s0 r0 [.own v0]) = .ok ((List.range v1.toNat).map fun u : Nat => LI (u : Int)) (shL ns i1 s1 r1 [.own v0]) := by
        have hc := t18 (ρ := es m tm none none none none) (e := kvar 2) (m := 8) (S := shL ns i0 s0 r0 [.own v0]) rfl (v_var rfl) e1
        show ((kcall ⟨K (n + 2), 100⟩ 18 (kcons (kvar 0) (kcons (kvar 2) knil)) false _ _).bind fun l S => match l with
          | .pv (.int j) => if rangeOk 0 j then Res.ok ((rangeI 0 j).map LV.pv) S else .bad
          | _ => .bad) = _
        rw [hc, hv1]
        exact it_r1 (e := kcon (.int ((v1.toNat : Nat) : Int))) (ρ := es m tm none none none none) (S := shL ns i1 s1 r1 [.own v0]) v_con (by omega)
      show ((kr1 _ _ _).bind fun ls S => forL _ ls _ S) = _
      rw [hk]
      exact hf
    refine rt_seq (st_frz (k := 1) (l := sh.map Rw.pv) rfl rfl) ?_
    exact rt_now (rt_ret (v_blt1 (x := .lst (sh.map Rw.pv)) (v_var rfl) rfl))
  obtain ⟨sh, i', s', r', h, h1, h2, h3, h4⟩ := hrun
  exact ⟨sh, i', s', r', run_rtX [.dead] (e := ⟨4, 9, k21⟩) rfl rfl (u21 _) h rfl, h1, h2, h3, h4⟩
end Ck30

namespace Ck30
open Gp
variable {p : Int} {m z : Nat} {tm : Bool} {sh : List Rw} {ns : List Int} {i s r : Int} {w th cs : List Int}
def LBOD : Sv := (kseq (kasg (.nm 11) (kblt .tuple false (kcons (klc false [15] (kcall ⟨K 59, 100⟩ 18 (kcons (kvar 1) (kcons (kvar 9) knil))) (.nm 15) (kr1 (kvar 7)) true kno) knil))) (kseq (kasg (.t2 (.nm 12) (.nm 13)) (kcall ⟨K 59, 100⟩ 26 (kcons (kvar 9) (kcons (kvar 10) (kcons (kvar 6) (kcons (kvar 3) (kcons (kvar 4) (kcons (kvar 11) knil)))))))) (kseq (kif (knot (kcall ⟨K 59, 100⟩ 20 (kcons (kcall ⟨K 59, 100⟩ 17 (kcons (kvar 9) (kcons (kvar 10) (kcons (kvar 6) (kcons (kvar 3) (kcons (kvar 4) (kcons (kvar 11) knil))))))) (kcons (ktup (kcons (kvar 5) (kcons (kblt .tuple false (kcons (klc false [19, 20] (kvar 20) (.t2 (.nm 19) (.nm 20)) (kex (kvar 13)) true kno) knil)) knil))) knil)))) (kseq (kret (kcon (.bl false))) kend) kend) (kseq (kif (kcmp .ne (kbin .mod (kblt .sum false (kcons (klc false [17, 18] (kbin .mul (kvar 17) (kvar 18)) (.t2 (.nm 17) (.nm 18)) (kzip (kcall ⟨K 59, 100⟩ 25 (kcons (kvar 9) (kcons (kvar 10) knil))) (kvar 12)) true kno) knil)) (kvar 9)) (kvar 5)) (kseq (kret (kcon (.bl false))) kend) kend) kend))))
theorem tt_callK {n f : Nat} {xs : List LV} {es : EvL} {ρ : Gp.Env} {S : Store} {t : Bool} (e : Vs es ρ S xs) (h : K n f xs S = .ok (.pv (.bl t)) S) : Tt (kcall ⟨K n, 100⟩ f es) ρ S t := tt_call e h
theorem D_step (hp : PR p) (hm : m ≤ 4) (q : Q) (x : Rw) (h : ∀ d ∈ q.D, d.2.length ≤ 4 ∧ ∀ f ∈ d.2, f.length ≤ 4) : ∀ d ∈ (sstep p m z w th cs q x).D, d.2.length ≤ 4 ∧ ∀ f ∈ d.2, f.length ≤ 4 := by
  intro d hd
  cases x with
  | own a =>
    rcases List.mem_append.mp hd with hd | hd
    · exact h d hd
    · rw [List.mem_singleton.mp hd]
      exact ⟨by show 1 ≤ 4; decide, fun f hf => by rw [List.mem_singleton.mp hf, dl_len]; exact hm⟩
  | num v => exact h d hd
  | sum a b => exact h d hd
  | tim a b =>
    rcases List.mem_append.mp hd with hd | hd
    · exact h d hd
    · rw [List.mem_singleton.mp hd]
      obtain ⟨g, l, _⟩ := tims_ok (z := z) (m := m) hp (cs := cs) (a := gF q.F a) (b := gF q.F b) (i := q.i)
      exact ⟨by show List.length _ ≤ 4; rw [l]; exact hm, fun f hf => by rw [g.len f hf]; exact hm⟩
theorem D_ok (hp : PR p) (hm : m ≤ 4) : ∀ (bs : List Rw) (q : Q), (∀ d ∈ q.D, d.2.length ≤ 4 ∧ ∀ f ∈ d.2, f.length ≤ 4) → ∀ d ∈ (bs.foldl (sstep p m z w th cs) q).D, d.2.length ≤ 4 ∧ ∀ f ∈ d.2, f.length ≤ 4
  | [], _, h => h
  | x :: bs, q, h => D_ok hp hm bs _ (D_step hp hm q x h)
theorem al_due (hp : PR p) (hm : m ≤ 4) (v : Int) (hD : (fin p m z w th cs sh).D.length ≤ 8) : Al 4 (.tup [.int v, .tup (DP (fin p m z w th cs sh).D)]) := by
  have hd := D_ok (z := z) (w := w) (th := th) (cs := cs) hp hm sh ⟨[], [], 0, 0⟩ (fun _ h => nomatch h)
  refine .inr ⟨_, rfl, by simp, fun y hy => ?_⟩
  rcases List.mem_cons.mp hy with rfl | hy
  · exact .inl ⟨_, rfl⟩
  · rw [List.mem_singleton.mp hy]
    refine .inr ⟨_, rfl, by unfold DP; rw [List.length_map]; omega, fun y hy => ?_⟩
    obtain ⟨d, hd', rfl⟩ := List.mem_map.mp hy
    obtain ⟨l1, l2⟩ := hd d hd'
    refine .inr ⟨_, rfl, by rw [List.length_map]; omega, fun y hy => ?_⟩
    obtain ⟨f, hf, rfl⟩ := List.mem_map.mp hy
    refine .inr ⟨_, rfl, by rw [List.length_map]; have := l2 f hf; omega, fun y hy => ?_⟩
    obtain ⟨x, _, rfl⟩ := List.mem_map.mp hy
    exact ⟨x, rfl⟩
theorem cntN_le (hm : m ≤ 4) (hz : z ≤ 2) : ∀ sh : List Rw, cntN m z sh ≤ 8 * sh.length
  | [] => Nat.le_refl _
  | x :: sh => by
    have h := cntN_le hm hz sh
    have e : cntN m z (x :: sh) = cN m z x + cntN m z sh := rfl
    have mz : m * z ≤ 8 := Nat.mul_le_mul hm hz
    have c : cN m z x ≤ 8 := by cases x <;> simp [cN] <;> omega
    rw [e, List.length_cons]; omega
/-- the slots of the law -/
def lw (ns : List Int) (tm : Bool) (sh : List Rw) (th : List Int) (due : Int) (z mc : Nat) (p : Int) (m : Nat) (o8 o11 o12 o13 : Option LV) : Gp.Env :=
  [some (.pv (.scr ns)), some (.ref 0), some (.pv (.bl tm)), some (.pv (shP sh)), some (.pv (tI th)), some (LI due), some (LI z), some (LI mc), o8, some (LI p), some (LI m), o11, o12, o13, none, none, none, none, none, none, none]
structure Hy (p : Int) (m z : Nat) (tm : Bool) (sh : List Rw) (th : List Int) : Prop where
  hp : PR p
  hm : MM m
  hz : z = 1 ∨ z = 2
  ht : In p th
  hl : th.length = m
  ho : okS m tm sh
  h1 : 1 ≤ sh.length
  h8 : sh.length ≤ 8
  en : (if hasM sh then 2 * z else z) < m
  he : ∀ x ∈ sh, isM x = true → z = 1 ∧ 2 < m
  m2 : m = 2 → z = 1
theorem l_body (H : Hy p m z tm sh th) (hi : 0 ≤ i) {l : LV} {o8 o11 o12 o13 : Option LV} : ∃ i' s' r' u11 u12 u13, St LBOD (lw ns tm sh th (lst (vals p th sh)) z (cntN m z sh) p m (some l) o11 o12 o13) (R ns i s r) (lw ns tm sh th (lst (vals p th sh)) z (cntN m z sh) p m (some l) u11 u12 u13) (R ns i' s' r') ∧ 0 ≤ i' := by
  obtain ⟨hp, hm, hz, ht, hl, ho, h1, h8, en, he, m2⟩ := H
  have hm4 : 2 ≤ m ∧ m ≤ 4 := by rcases hm with rfl | rfl | rfl <;> omega
  have hcn : cntN m z sh ≤ 64 := Nat.le_trans (cntN_le hm4.2 (by omega) sh) (by omega)
  obtain ⟨cs, i1, s1, r1, e1, lc, ic, c1⟩ := draws (n := 58) (ns := ns) (i := i) (s := s) (r := r) (p := p) (ρ := lw ns tm sh th (lst (vals p th sh)) z (cntN m z sh) p m (some l) o11 o12 o13) (j := 15) (k := cntN m z sh) (c := kcall ⟨K 59, 100⟩ 18 (kcons (kvar 1) (kcons (kvar 9) knil))) (e := kvar 7) hp.pos hp.lt hi (by omega) (fun S => v_var rfl)
    (fun u S v S' h => x_call (us := [.ref 0, LI p]) (xs_cons (v_ref rfl) (xs_cons (v_var (x := .int p) rfl) rfl)) h)
  have I := fin_inv (w := wt p m) hp ho hl lc
  have L := lastF_in I.good (by rw [I.len]; omega)
  have x26 : K 59 26 [LI p, LI m, LI z, .pv (shP sh), .pv (tI th), .pv (tI cs)] (R ns i1 s1 r1) = .ok (.pv (.tup [tI (lastF (fin p m z (wt p m) th cs sh).F), .lst (DL (fin p m z (wt p m) th cs sh).D)])) (R ns i1 s1 r1) := e26 (n := 56) hp hm hz ht hl ho h1 h8 lc
  have x17 : K 59 17 [LI p, LI m, LI z, .pv (shP sh), .pv (tI th), .pv (tI cs)] (R ns i1 s1 r1) = .ok (.pv (.tup [.int (dot p (wt p m) (lastF (fin p m z (wt p m) th cs sh).F)), .tup (DP (fin p m z (wt p m) th cs sh).D)])) (R ns i1 s1 r1) := e17 (n := 54) hp hm hz ht hl ho h1 h8 ic lc (by omega) en
  have x25 : K 59 25 [LI p, LI m] (R ns i1 s1 r1) = .ok (.pv (.lst ((wt p m).map .int))) (R ns i1 s1 r1) := e25 58 hp hm
  have dd := dot_due hp hm hz ht hl ho h1 lc he m2
  rw [dd] at x17
  have x20 : K 59 20 [.pv (.tup [.int (lst (vals p th sh)), .tup (DP (fin p m z (wt p m) th cs sh).D)]), .pv (.tup [.int (lst (vals p th sh)), .tup (DP (fin p m z (wt p m) th cs sh).D)])] (R ns i1 s1 r1) = .ok (.pv (.bl true)) (R ns i1 s1 r1) := e20 (n := 54) 4 _ (al_due hp hm4.2 _ (by have := I.D; omega))
  have hD : (fin p m z (wt p m) th cs sh).D.length ≤ 8 := by have := I.D; omega
  generalize fin p m z (wt p m) th cs sh = q at *
  let ρ1 : Gp.Env := lw ns tm sh th (lst (vals p th sh)) z (cntN m z sh) p m (some l) (some (.pv (tI cs))) o12 o13
  let ρ2 : Gp.Env := lw ns tm sh th (lst (vals p th sh)) z (cntN m z sh) p m (some l) (some (.pv (tI cs))) (some (.pv (tI (lastF q.F)))) (some (.pv (.lst (DL q.D))))
  have six : ∀ {f : Nat} {v : PV}, K 59 f [LI p, LI m, LI z, .pv (shP sh), .pv (tI th), .pv (tI cs)] (R ns i1 s1 r1) = .ok (.pv v) (R ns i1 s1 r1) → ∀ {u12 u13 : Option LV}, Vl (kcall ⟨K 59, 100⟩ f (kcons (kvar 9) (kcons (kvar 10) (kcons (kvar 6) (kcons (kvar 3) (kcons (kvar 4) (kcons (kvar 11) knil))))))) (lw ns tm sh th (lst (vals p th sh)) z (cntN m z sh) p m (some l) (some (.pv (tI cs))) u12 u13) (R ns i1 s1 r1) v := fun {f v} h {u12 u13} =>
    vcK (vs_cons (v_var rfl) (vs_cons (v_var rfl) (vs_cons (v_var rfl) (vs_cons (v_var rfl) (vs_cons (v_var rfl) (vs_cons (v_var rfl) vs_nil)))))) h
  have told : Vl (kblt .tuple false (kcons (klc false [19, 20] (kvar 20) (.t2 (.nm 19) (.nm 20)) (kex (kvar 13)) true kno) knil)) ρ2 (R ns i1 s1 r1) (.tup (DP q.D)) := by
    refine v_blt1 (v_lc (g := fun d : PV × List (List Int) => LV.pv (.tup [d.1, .tup (d.2.map tI)])) (h := fun d => .tup (d.2.map tI)) (as := q.D) ?_ (fun d _ => ⟨_, rfl, v_var rfl⟩) (by omega)) rfl
    rw [it_exl (xs := DL q.D) (v_var rfl)]
    unfold DL
    rw [List.map_map]; rfl
  refine ⟨i1, s1, r1, some (.pv (tI cs)), some (.pv (tI (lastF q.F))), some (.pv (.lst (DL q.D))), ?_, c1⟩
  refine st_seq (ρ' := ρ1) (S' := R ns i1 s1 r1) (st_asgL (u := .pv (tI cs)) e1) ?_
  refine st_seq (ρ' := ρ2) (S' := R ns i1 s1 r1) (st_asgT (six x26) rfl) ?_
  refine st_seq (ρ' := ρ2) (S' := R ns i1 s1 r1) (st_ifF (tt_notT (tt_callK (xs := [_, _]) (vs_cons (six x17) (vs_cons (v_tup2 (v_var rfl) told) vs_nil)) x20)) st_end) ?_
  refine st_seq (ρ' := ρ2) (S' := R ns i1 s1 r1) (st_ifF (tt_cmp (x := .int (dot p (wt p m) (lastF q.F))) (y := .int (lst (vals p th sh))) ?_ (v_var rfl) (by rw [cmp_neI, dd]; simp)) st_end) st_end
  refine v_dot (w := wt p m) (l := lastF q.F) hp L.2 (by rw [wt_len hp hm]; omega) ?_ (fun q _ => ⟨_, rfl, v_var rfl, v_var rfl⟩) (v_var rfl)
  rw [it_zip (x := .lst ((wt p m).map .int)) (y := tI (lastF q.F)) (xs := (wt p m).map .int) (ys := (lastF q.F).map .int) (vcK (vs_cons (v_var rfl) (vs_cons (v_var rfl) vs_nil)) x25) (v_var rfl) rfl rfl, zip_map, List.map_map]; rfl
end Ck30

namespace Ck30
open Gp
def LAW : Sv := kseq (kasg (.nm 1) (klst true (kcons (kvar 0) (kcons (kcon (.int 0)) (kcons (kcon (.int 7730)) (kcons (kcon (.int 0)) knil)))))) (kseq (kasg (.t2 (.nm 9) (.nm 10)) (ktup (kcons (kcall ⟨K 59, 100⟩ 19 (kcons (kvar 1) (kcons (klst false (kcons (kcon (.int 5)) (kcons (kcon (.int 7)) (kcons (kcon (.int 11)) (kcons (kcon (.int 13)) knil))))) knil))) (kcons (kbin .add (kcon (.int 2)) (kcall ⟨K 59, 100⟩ 18 (kcons (kvar 1) (kcons (kcon (.int 3)) knil)))) knil)))) (kseq (kasg (.nm 2) (kcmp .gt (kvar 10) (kcon (.int 2)))) (kseq (kasg (.nm 3) (kcall ⟨K 59, 100⟩ 21 (kcons (kvar 1) (kcons (kvar 10) (kcons (kcon (.int 8)) (kcons (kvar 2) knil)))))) (kseq (kasg (.nm 4) (kblt .tuple false (kcons (klc false [14] (kcall ⟨K 59, 100⟩ 18 (kcons (kvar 1) (kcons (kvar 9) knil))) (.nm 14) (kr1 (kvar 10)) true kno) knil))) (kseq (kasg (.nm 5) (kcall ⟨K 59, 100⟩ 22 (kcons (kvar 9) (kcons (kvar 3) (kcons (kvar 4) knil))))) (kseq (kif (knot (kcall ⟨K 59, 100⟩ 20 (kcons (kcall ⟨K 59, 100⟩ 11 (kcons (kvar 9) (kcons (kvar 10) (kcons (kvar 3) (kcons (kvar 4) knil))))) (kcons (kvar 5) knil)))) (kseq (kret (kcon (.bl false))) kend) kend) (kseq (kasg (.nm 6) (kite (kor (kcmp .lt (kvar 10) (kcon (.int 4))) (kcmp .ne (klc false [16] (kvar 16) (.nm 16) (kex (kvar 3)) false (kcmp .eq (kidx (kvar 16) (kcon (.int 0))) (kcon (.str [116, 105, 109, 101, 115])))) (klst false knil))) (kcon (.int 1)) (kcon (.int 2)))) (kseq (kasg (.nm 7) (kcall ⟨K 59, 100⟩ 27 (kcons (kvar 10) (kcons (kvar 6) (kcons (kvar 3) knil))))) (kseq (kif (knot (kcall ⟨K 59, 100⟩ 20 (kcons (kcall ⟨K 59, 100⟩ 14 (kcons (kvar 10) (kcons (kvar 6) (kcons (kvar 3) knil)))) (kcons (kvar 7) knil)))) (kseq (kret (kcon (.bl false))) kend) kend) (kseq (kfor (.nm 8) (kr1 (kcon (.int 3))) LBOD) (kseq (kret (kcon (.bl true))) kend)))))))))))
theorem u28L : k28 ⟨K 59, 100⟩ = LAW := rfl
/-- the slots ahead of the loop -/
def lv (ns : List Int) (o2 o3 o4 o5 o6 o7 o9 o10 : Option LV) : Gp.Env := [some (.pv (.scr ns)), some (.ref 0), o2, o3, o4, o5, o6, o7, none, o9, o10, none, none, none, none, none, none, none, none, none, none]
def lv' (ns : List Int) : Gp.Env := [some (.pv (.scr ns)), none, none, none, none, none, none, none, none, none, none, none, none, none, none, none, none, none, none, none, none]
theorem eqOks_rw : ∀ l : List Rw, PV.eqOks (l.map Rw.pv) = true
  | [] => rfl
  | x :: l => by
    show (PV.eqOk x.pv && PV.eqOks (l.map Rw.pv)) = true
    rw [eqOks_rw l]
    cases x <;> rfl
theorem ne_nil (x : Rw) (l : List Rw) {S : Store} : cmpL .ne (.pv (.lst ((x :: l).map Rw.pv))) (.pv (.lst [])) S = .ok (.pv (.bl true)) S := by
  have e : eqG (.lst ((x :: l).map Rw.pv)) (.lst []) = true := by
    show (PV.eqOks ((x :: l).map Rw.pv) && true && decide (min (1 + PV.deeps ((x :: l).map Rw.pv)) (1 + 0) ≤ 150)) = true
    rw [eqOks_rw]
    simp
  show blR (if eqG (.lst ((x :: l).map Rw.pv)) (.lst []) = true then some (!PV.eqb (.lst ((x :: l).map Rw.pv)) (.lst [])) else none) S = _
  rw [if_pos e]; rfl
theorem law_rt (ns : List Int) : ∃ S, Rt LAW (lv' ns) [] (.pv (.bl true)) S := by
  obtain ⟨x, i1, s1, r1, e1, hx, c1⟩ := pickT (n := 57) (ns := ns) (i := 0) (s := 7730) (r := 0) [] [.int 5, .int 7, .int 11, .int 13] (by simp) (by simp) (by decide)
  obtain ⟨v, i2, s2, r2, e2, v0, v1, c2⟩ := takn (n := 58) ns i1 s1 r1 [] 3 (by decide) (by decide) c1
  have hxp : ∃ p : Int, x = .int p ∧ PR p := by
    simp only [List.mem_cons, List.not_mem_nil, or_false] at hx; rcases hx with rfl | rfl | rfl | rfl
    · exact ⟨5, rfl, .inl rfl⟩
    · exact ⟨7, rfl, .inr (.inl rfl)⟩
    · exact ⟨11, rfl, .inr (.inr (.inl rfl))⟩
    · exact ⟨13, rfl, .inr (.inr (.inr rfl))⟩
  obtain ⟨p, rfl, hp⟩ := hxp
  obtain ⟨m, hmv, hm⟩ : ∃ m : Nat, (2 + v : Int) = (m : Int) ∧ MM m := ⟨(2 + v).toNat, by omega, by unfold MM; omega⟩
  have hm4 : 2 ≤ m ∧ m ≤ 4 := by rcases hm with rfl | rfl | rfl <;> omega
  obtain ⟨sh, i3, s3, r3, e3, ho, h1, h8, c3⟩ := e21 (n := 56) (ns := ns) (i := i2) (s := s2) (r := r2) (m := m) (tm := decide (2 < m)) hm c2
  obtain ⟨th, i4, s4, r4, e4, hl, ht, c4⟩ := draws (n := 58) (ns := ns) (i := i3) (s := s3) (r := r3) (p := p) (ρ := lv ns (some (.pv (.bl (decide (2 < m))))) (some (.pv (shP sh))) none none none none (some (LI p)) (some (LI m))) (j := 14) (k := m) (c := kcall ⟨K 59, 100⟩ 18 (kcons (kvar 1) (kcons (kvar 9) knil))) (e := kvar 10) hp.pos hp.lt c3 (by omega) (fun S => v_var rfl)
    (fun u S v S' h => x_call (us := [.ref 0, LI p]) (xs_cons (v_ref rfl) (xs_cons (v_var (x := .int p) rfl) rfl)) h)
  have hM : ∀ x ∈ sh, isM x = true → 2 < m := fun x hx hm => by
    obtain ⟨k, hk, e⟩ := List.mem_iff_getElem.mp hx
    have := ho k x (by rw [List.getElem?_eq_getElem hk, e])
    cases x with
    | tim a b => exact of_decide_eq_true this.1
    | own a => cases hm
    | num a => cases hm
    | sum a b => cases hm
  obtain ⟨z, hzd⟩ : ∃ z : Nat, z = if m < 4 ∨ hasM sh = true then 1 else 2 := ⟨_, rfl⟩
  have hasI : ∀ x ∈ sh, isM x = true → hasM sh = true := fun x hx h => List.any_eq_true.mpr ⟨x, hx, h⟩
  have hasE : hasM sh = true → 2 < m := fun h => by
    obtain ⟨x, hx, h⟩ := List.any_eq_true.mp h
    exact hM x hx h
  have hz : z = 1 ∨ z = 2 := by rw [hzd]; split <;> simp
  have z1 : m < 4 ∨ hasM sh = true → z = 1 := fun h => by rw [hzd, if_pos h]
  have z2 : ¬(m < 4 ∨ hasM sh = true) → z = 2 := fun h => by rw [hzd, if_neg h]
  have hen : (if hasM sh then 2 * z else z) < m := by
    cases h : hasM sh with
    | true =>
      have a := hasE h
      have b := z1 (Or.inr h)
      show 2 * z < m
      omega
    | false =>
      show z < m
      by_cases h4 : m < 4
      · have b := z1 (Or.inl h4); omega
      · rcases hz with hz | hz <;> omega
  have H : Hy p m z (decide (2 < m)) sh th := ⟨hp, hm, hz, ht, hl, ho, h1, h8, hen, fun x hx h => ⟨z1 (Or.inr (hasI x hx h)), hM x hx h⟩, fun h => z1 (Or.inl (by omega))⟩
  have x22 : K 59 22 [LI p, .pv (shP sh), .pv (tI th)] (R ns i4 s4 r4) = .ok (LI (lst (vals p th sh))) (R ns i4 s4 r4) := e22 (n := 58) hp ht hl ho h1 h8
  have x11 : K 59 11 [LI p, LI m, .pv (shP sh), .pv (tI th)] (R ns i4 s4 r4) = .ok (LI (lst (vals p th sh))) (R ns i4 s4 r4) := e11 (n := 55) hp hm ht hl ho h1 h8
  have x27 : K 59 27 [LI m, LI z, .pv (shP sh)] (R ns i4 s4 r4) = .ok (LI (cnt m z sh)) (R ns i4 s4 r4) := e27 (n := 58) h8 (by omega)
  have x14 : K 59 14 [LI m, LI z, .pv (shP sh)] (R ns i4 s4 r4) = .ok (LI (cnt m z sh)) (R ns i4 s4 r4) := e14 (n := 55) hm hz ho h1 h8 H.en
  rw [cnt_eq] at x27 x14
  have x20 : ∀ i : Int, K 59 20 [LI i, LI i] (R ns i4 s4 r4) = .ok (.pv (.bl true)) (R ns i4 s4 r4) := fun i => al_int (n := 58) i
  have hL := forL_draw 3 (f := fun l ρ S => match bindT (.nm 8) l ρ with | some ρ => LBOD ρ S | none => .bad) (I := fun k ρ S => ∃ i s r o8 o11 o12 o13, 0 ≤ i ∧ S = R ns i s r ∧ ρ = lw ns (decide (2 < m)) sh th (lst (vals p th sh)) z (cntN m z sh) p m o8 o11 o12 o13) (ls := (List.range 3).map fun u : Nat => LI (u : Int)) (k := 0) (ρ := lw ns (decide (2 < m)) sh th (lst (vals p th sh)) z (cntN m z sh) p m none none none none) (S := R ns i4 s4 r4) rfl ⟨i4, s4, r4, none, none, none, none, c4, rfl, rfl⟩ (fun l _ k ρ S _ I => by
    obtain ⟨i, s, r, o8, o11, o12, o13, hi, rfl, rfl⟩ := I
    obtain ⟨i', s', r', u11, u12, u13, h, hi'⟩ := l_body (ns := ns) (i := i) (s := s) (r := r) H hi (l := l) (o8 := none) (o11 := o11) (o12 := o12) (o13 := o13)
    exact ⟨_, _, h, i', s', r', _, _, _, _, hi', rfl, rfl⟩)
  obtain ⟨ρ', S', hf, i5, s5, r5, o8, o11, o12, o13, c5, rfl, rfl⟩ := hL
  refine ⟨R ns i5 s5 r5, ?_⟩
  unfold LAW
  refine rt_seq (ρ' := lv ns none none none none none none none none) (S' := R ns 0 7730 0) rfl ?_
  refine rt_seq (ρ' := lv ns none none none none none none (some (LI p)) (some (LI m))) (S' := R ns i2 s2 r2) ?_ ?_
  · have hc : ktup (kcons (kcall ⟨K 59, 100⟩ 19 (kcons (kvar 1) (kcons (klst false (kcons (kcon (.int 5)) (kcons (kcon (.int 7)) (kcons (kcon (.int 11)) (kcons (kcon (.int 13)) knil))))) knil))) (kcons (kbin .add (kcon (.int 2)) (kcall ⟨K 59, 100⟩ 18 (kcons (kvar 1) (kcons (kcon (.int 3)) knil)))) knil)) false (lv ns none none none none none none none none) (R ns 0 7730 0) = .ok (.pv (.tup [.int p, .int m])) (R ns i2 s2 r2) := by
      refine x_tup (us := [.int p, .int m]) (xs_cons (S1 := R ns i1 s1 r1) (u := LI p) (us := [LI m]) (x_call (us := [.ref 0, .pv (.lst [.int 5, .int 7, .int 11, .int 13])]) (S1 := R ns 0 7730 0) (xs_cons (v_ref rfl) (xs_cons (S1 := R ns 0 7730 0) rfl rfl)) e1) (xs_cons (S1 := R ns i2 s2 r2) (u := LI m) (us := []) ?_ rfl))
      have h18 : kcall ⟨K 59, 100⟩ 18 (kcons (kvar 1) (kcons (kcon (.int 3)) knil)) false (lv ns none none none none none none none none) (R ns i1 s1 r1) = .ok (LI v) (R ns i2 s2 r2) := x_call (us := [.ref 0, LI 3]) (S1 := R ns i1 s1 r1) (xs_cons (v_ref rfl) (xs_cons (S1 := R ns i1 s1 r1) rfl rfl)) e2
      show ((kcall ⟨K 59, 100⟩ 18 (kcons (kvar 1) (kcons (kcon (.int 3)) knil)) false (lv ns none none none none none none none none) (R ns i1 s1 r1)).bind fun y S => rdB (LI 2) S fun x => rdB y S fun y => opt (binop .add x y) S) = _
      rw [h18, ← hmv]; rfl
    show ((ktup _ false (lv ns none none none none none none none none) (R ns 0 7730 0)).bind fun l S => lift ((bindT (.t2 (.nm 9) (.nm 10)) l (lv ns none none none none none none none none)).map Flow.nx) S) = _
    rw [hc]; rfl
  refine rt_seq (ρ' := lv ns (some (.pv (.bl (decide (2 < m))))) none none none none none (some (LI p)) (some (LI m))) (S' := R ns i2 s2 r2) (st_asg (x := .bl (decide (2 < m))) (v_cmp (x := .int m) (y := .int 2) (v_var rfl) v_con ?_)) ?_
  · show Res.ok (LV.pv (.bl (decide ((2 : Int) < (m : Int))))) _ = _
    have : decide ((2 : Int) < (m : Int)) = decide (2 < m) := by rw [decide_eq_decide]; omega
    rw [this]
  refine rt_seq (ρ' := lv ns (some (.pv (.bl (decide (2 < m))))) (some (.pv (shP sh))) none none none none (some (LI p)) (some (LI m))) (S' := R ns i3 s3 r3) (st_asgL (u := .pv (shP sh)) (x_call (us := [.ref 0, LI m, LI 8, .pv (.bl (decide (2 < m)))]) (S1 := R ns i2 s2 r2) (xs_cons (v_ref rfl) (xs_cons (v_var (x := .int m) rfl) (xs_cons v_con (xs_cons (v_var (x := .bl (decide (2 < m))) rfl) rfl)))) e3)) ?_
  refine rt_seq (ρ' := lv ns (some (.pv (.bl (decide (2 < m))))) (some (.pv (shP sh))) (some (.pv (tI th))) none none none (some (LI p)) (some (LI m))) (S' := R ns i4 s4 r4) (st_asgL (u := .pv (tI th)) e4) ?_
  refine rt_seq (ρ' := lv ns (some (.pv (.bl (decide (2 < m))))) (some (.pv (shP sh))) (some (.pv (tI th))) (some (LI (lst (vals p th sh)))) none none (some (LI p)) (some (LI m))) (S' := R ns i4 s4 r4) (st_asg (vcK (vs_cons (v_var rfl) (vs_cons (v_var rfl) (vs_cons (v_var rfl) vs_nil))) x22)) ?_
  refine rt_seq (ρ' := lv ns (some (.pv (.bl (decide (2 < m))))) (some (.pv (shP sh))) (some (.pv (tI th))) (some (LI (lst (vals p th sh)))) none none (some (LI p)) (some (LI m))) (S' := R ns i4 s4 r4) (st_ifF (tt_notT (tt_callK (vs_cons (vcK (vs_cons (v_var rfl) (vs_cons (v_var rfl) (vs_cons (v_var rfl) (vs_cons (v_var rfl) vs_nil)))) x11) (vs_cons (v_var rfl) vs_nil)) (x20 _))) st_end) ?_
  refine rt_seq (ρ' := lv ns (some (.pv (.bl (decide (2 < m))))) (some (.pv (shP sh))) (some (.pv (tI th))) (some (LI (lst (vals p th sh)))) (some (LI z)) none (some (LI p)) (some (LI m))) (S' := R ns i4 s4 r4) (st_asg (x := .int z) ?_) ?_
  · have t1 : Tt (kcmp .lt (kvar 10) (kcon (.int 4))) (lv ns (some (.pv (.bl (decide (2 < m))))) (some (.pv (shP sh))) (some (.pv (tI th))) (some (LI (lst (vals p th sh)))) none none (some (LI p)) (some (LI m))) (R ns i4 s4 r4) (decide (m < 4)) := tt_cmp (x := .int m) (y := .int 4) (v_var rfl) v_con (by
      show Res.ok (LV.pv (.bl (decide ((m : Int) < (4 : Int))))) _ = _
      have : decide ((m : Int) < (4 : Int)) = decide (m < 4) := by rw [decide_eq_decide]; omega
      rw [this])
    have hfl := v_lcF (ws := [16]) (a := kvar 16) (b := kcmp .eq (kidx (kvar 16) (kcon (.int 0))) (kcon (.str [116, 105, 109, 101, 115]))) (t := .nm 16) (it := kex (kvar 3)) (g := fun r : Rw => .pv r.pv) (h := fun r => r.pv) (p := isM) (as := sh) (S := R ns i4 s4 r4) (ρ := lv ns (some (.pv (.bl (decide (2 < m))))) (some (.pv (shP sh))) (some (.pv (tI th))) (some (LI (lst (vals p th sh)))) none none (some (LI p)) (some (LI m)))
      (by rw [it_ex (xs := sh.map Rw.pv) (v_var rfl), List.map_map]; rfl) (fun r _ => ⟨_, rfl, by cases r <;> exact tt_k (by kernel_rfl), fun _ => v_var rfl⟩) (by omega)
    have t2 : Tt (kcmp .ne (klc false [16] (kvar 16) (.nm 16) (kex (kvar 3)) false (kcmp .eq (kidx (kvar 16) (kcon (.int 0))) (kcon (.str [116, 105, 109, 101, 115])))) (klst false knil)) (lv ns (some (.pv (.bl (decide (2 < m))))) (some (.pv (shP sh))) (some (.pv (tI th))) (some (LI (lst (vals p th sh)))) none none (some (LI p)) (some (LI m))) (R ns i4 s4 r4) (hasM sh) := by
      refine tt_cmp (y := .lst []) hfl rfl ?_
      cases hf : sh.filter isM with
      | nil =>
        have : hasM sh = false := by
          cases h : hasM sh with
          | false => rfl
          | true =>
            obtain ⟨x, hx, hy⟩ := List.any_eq_true.mp h
            have := List.mem_filter.mpr ⟨hx, hy⟩
            rw [hf] at this; cases this
        rw [this]; rfl
      | cons x l =>
        have hx : x ∈ sh.filter isM := by rw [hf]; exact List.mem_cons_self
        rw [hasI x (List.mem_filter.mp hx).1 (List.mem_filter.mp hx).2]
        exact ne_nil x l
    refine v_ite (t := decide (m < 4) || hasM sh) (tt_or t1 fun _ => t2) (fun h => ?_) (fun h => ?_)
    · have : z = 1 := by rw [hzd, if_pos (by simpa using h)]
      rw [this]; exact v_con
    · have : z = 2 := by rw [hzd, if_neg (by simpa using h)]
      rw [this]; exact v_con
  refine rt_seq (ρ' := lw ns (decide (2 < m)) sh th (lst (vals p th sh)) z (cntN m z sh) p m none none none none) (S' := R ns i4 s4 r4) (st_asg (vcK (vs_cons (v_var rfl) (vs_cons (v_var rfl) (vs_cons (v_var rfl) vs_nil))) x27)) ?_
  refine rt_seq (ρ' := lw ns (decide (2 < m)) sh th (lst (vals p th sh)) z (cntN m z sh) p m none none none none) (S' := R ns i4 s4 r4) (st_ifF (tt_notT (tt_callK (vs_cons (vcK (vs_cons (v_var rfl) (vs_cons (v_var rfl) (vs_cons (v_var rfl) vs_nil))) x14) (vs_cons (v_var rfl) vs_nil)) (x20 _))) st_end) ?_
  refine rt_seq (ρ' := lw ns (decide (2 < m)) sh th (lst (vals p th sh)) z (cntN m z sh) p m o8 o11 o12 o13) (S' := R ns i5 s5 r5) ?_ (rt_now (rt_ret v_con))
  show ((kr1 (kcon (.int 3)) _ _).bind fun ls S => forL _ ls _ S) = _
  rw [it_r1 (e := kcon (.int 3)) (n := 3) v_con (by decide)]
  exact hf
theorem law_run (ns : List Int) : ∃ S, Gp.run P 100 60 28 [.pv (.scr ns)] [] = .ok (.pv (.bl true)) S := by
  rw [runK_eq (P := defs.map DefI.d) (KP := KP) kp_eq]
  obtain ⟨S, h⟩ := law_rt ns
  exact ⟨[], run_rtX (KP := KP) (wf := 100) (n := 59) S (e := ⟨1, 21, k28⟩) rfl rfl u28L h rfl⟩
end Ck30

namespace Ck30
open PySem PySem.Spec PyProof.Rows L2 Gp
theorem ck_all : (defs.all fun D => ckDef tb D) = true := by decide +kernel
theorem all_mk {K : PySem.W.Frag} {l : PySem.W.OpenLaw} {w : World} {h : Heap} {mg : Str → Option Value} {fa : Addr} (KX : K.In h) (G : h.Ns mainGlobals mg) (hfa : mg "law" = some (.ref fa))
    (hd : ∀ D ∈ defs, DefAt K D.x D.st D.ps) (hbl : ∀ x ∈ bnames, PySem.W.nsIn K mainGlobals x = some none) (hcon : ∀ x p, (x, p) ∈ tb.cons → ConAt K x p) (hb1 : ∀ (kV doc pm : Value) (an : Option Addr) (cdv ct : Value) (s : Shared) (v : Value), BindsTo s (PySem.W.fnOf "law" "law" (defArgs d28.st) (defBody d28.st) (defScope d28.st) .none kV doc pm an cdv ct) ⟨[v], []⟩ [("_law_script", v)]) :
    ∃ fd : FuncData, (∀ (s : Shared) (v : Value), BindsTo s fd ⟨[v], []⟩ [("_law_script", v)]) ∧ ∀ base : Heap, K.In base → base.Ns mainGlobals mg → FnOk l.prog w K mg base (L2.CX l.prog w) 60 fa fd ["_law_script"] (spF (wd0 K) ⟨Gp.run P 100 60, 100⟩ 28 1) := by
  obtain ⟨fns, hl, hF⟩ := fns_of (mg := mg) KX G hd
  have hlt : 28 < fns.length := by rw [hl]; decide
  have FA := hF 28 d28 fns[28] rfl (List.getElem?_eq_getElem hlt)
  have e : fa = fns[28].fa := by
    have := hfa.symm.trans FA.mg
    injection this with this
    injection this
  obtain ⟨oc, od, kV, doc, pm, an, cdv, ct, osl, hfd, _, _⟩ := FA.fn.ex
  subst e
  refine ⟨fns[28].fd, fun s v => by rw [hfd]; exact hb1 _ _ _ _ _ _ s v, fun base KB GB => ?_⟩
  exact law_fns (prog := l.prog) (w := w) (base := base) (wf := 100) hl hF rfl (fun D hD => List.all_eq_true.mp ck_all D hD) (fun x hx => PySem.W.mg_none_of KX G (hbl x hx)) (fun x p hx => by
    obtain ⟨v, u, h1, h2, h3⟩ := hcon x p hx
    exact ⟨v, u, PySem.W.mg_of KX G h1, h2, h3⟩) 60 28 d28 fns[28] rfl (List.getElem?_eq_getElem hlt)
theorem all_list {K : PySem.W.Frag} (h0 : DefAt K d0.x d0.st d0.ps) (h1 : DefAt K d1.x d1.st d1.ps) (h2 : DefAt K d2.x d2.st d2.ps) (h3 : DefAt K d3.x d3.st d3.ps) (h4 : DefAt K d4.x d4.st d4.ps) (h5 : DefAt K d5.x d5.st d5.ps) (h6 : DefAt K d6.x d6.st d6.ps) (h7 : DefAt K d7.x d7.st d7.ps) (h8 : DefAt K d8.x d8.st d8.ps) (h9 : DefAt K d9.x d9.st d9.ps) (h10 : DefAt K d10.x d10.st d10.ps) (h11 : DefAt K d11.x d11.st d11.ps) (h12 : DefAt K d12.x d12.st d12.ps) (h13 : DefAt K d13.x d13.st d13.ps) (h14 : DefAt K d14.x d14.st d14.ps) (h15 : DefAt K d15.x d15.st d15.ps) (h16 : DefAt K d16.x d16.st d16.ps) (h17 : DefAt K d17.x d17.st d17.ps) (h18 : DefAt K d18.x d18.st d18.ps) (h19 : DefAt K d19.x d19.st d19.ps) (h20 : DefAt K d20.x d20.st d20.ps) (h21 : DefAt K d21.x d21.st d21.ps) (h22 : DefAt K d22.x d22.st d22.ps) (h23 : DefAt K d23.x d23.st d23.ps) (h24 : DefAt K d24.x d24.st d24.ps) (h25 : DefAt K d25.x d25.st d25.ps) (h26 : DefAt K d26.x d26.st d26.ps) (h27 : DefAt K d27.x d27.st d27.ps) (h28 : DefAt K d28.x d28.st d28.ps) : ∀ D ∈ defs, DefAt K D.x D.st D.ps := by
  intro D hD
  simp only [defs, List.mem_cons, List.not_mem_nil, or_false] at hD
  rcases hD with rfl | rfl | rfl | rfl | rfl | rfl | rfl | rfl | rfl | rfl | rfl | rfl | rfl | rfl | rfl | rfl | rfl | rfl | rfl | rfl | rfl | rfl | rfl | rfl | rfl | rfl | rfl | rfl | rfl
  · exact h0
  · exact h1
  · exact h2
  · exact h3
  · exact h4
  · exact h5
  · exact h6
  · exact h7
  · exact h8
  · exact h9
  · exact h10
  · exact h11
  · exact h12
  · exact h13
  · exact h14
  · exact h15
  · exact h16
  · exact h17
  · exact h18
  · exact h19
  · exact h20
  · exact h21
  · exact h22
  · exact h23
  · exact h24
  · exact h25
  · exact h26
  · exact h27
  · exact h28
theorem bl_list {K : PySem.W.Frag} (z0 : PySem.W.nsIn K mainGlobals "range" = some none) (z1 : PySem.W.nsIn K mainGlobals "len" = some none) (z2 : PySem.W.nsIn K mainGlobals "sum" = some none) (z3 : PySem.W.nsIn K mainGlobals "all" = some none) (z4 : PySem.W.nsIn K mainGlobals "any" = some none) (z5 : PySem.W.nsIn K mainGlobals "sorted" = some none) (z6 : PySem.W.nsIn K mainGlobals "min" = some none) (z7 : PySem.W.nsIn K mainGlobals "max" = some none) (z8 : PySem.W.nsIn K mainGlobals "int" = some none) (z9 : PySem.W.nsIn K mainGlobals "str" = some none) (z10 : PySem.W.nsIn K mainGlobals "abs" = some none) (z11 : PySem.W.nsIn K mainGlobals "tuple" = some none) (z12 : PySem.W.nsIn K mainGlobals "list" = some none) (z13 : PySem.W.nsIn K mainGlobals "dict" = some none) (z14 : PySem.W.nsIn K mainGlobals "isinstance" = some none) (z15 : PySem.W.nsIn K mainGlobals "zip" = some none) (z16 : PySem.W.nsIn K mainGlobals "enumerate" = some none) (z17 : PySem.W.nsIn K mainGlobals "bool" = some none) (z18 : PySem.W.nsIn K mainGlobals "set" = some none) (z19 : PySem.W.nsIn K mainGlobals "reversed" = some none) : ∀ x ∈ bnames, PySem.W.nsIn K mainGlobals x = some none := by
  intro x hx
  simp only [bnames, List.mem_cons, List.not_mem_nil, or_false] at hx
  rcases hx with rfl | rfl | rfl | rfl | rfl | rfl | rfl | rfl | rfl | rfl | rfl | rfl | rfl | rfl | rfl | rfl | rfl | rfl | rfl | rfl
  · exact z0
  · exact z1
  · exact z2
  · exact z3
  · exact z4
  · exact z5
  · exact z6
  · exact z7
  · exact z8
  · exact z9
  · exact z10
  · exact z11
  · exact z12
  · exact z13
  · exact z14
  · exact z15
  · exact z16
  · exact z17
  · exact z18
  · exact z19
theorem con_list {K : PySem.W.Frag} (y0 : ConAt K "FEWEST" (.int 2)) (y1 : ConAt K "MOST_NUMBER" (.int 12)) (y2 : ConAt K "MOST_ROWS" (.int 8)) (y3 : ConAt K "MOST_SHARED" (.int 4)) (y4 : ConAt K "MOST_SIZE" (.int 2)) (y5 : ConAt K "PRIMES" (.tup [(.int 5), (.int 7), (.int 11), (.int 13)])) : ∀ x p, (x, p) ∈ tb.cons → ConAt K x p := by
  intro x p hx
  simp only [tb, List.mem_cons, List.not_mem_nil, or_false, Prod.mk.injEq] at hx
  rcases hx with ⟨rfl, rfl⟩ | ⟨rfl, rfl⟩ | ⟨rfl, rfl⟩ | ⟨rfl, rfl⟩ | ⟨rfl, rfl⟩ | ⟨rfl, rfl⟩
  · exact y0
  · exact y1
  · exact y2
  · exact y3
  · exact y4
  · exact y5
end Ck30
open PySem PySem.W PyProof.Rows
set_option maxHeartbeats 0 in
theorem PySem.Challenge.cw_nomoretold_k30_whole_sheets_holds : PySem.Challenge.rw_nomoretold_k30_whole_sheets.Holds := by
  w_on; o_law; k_head; (case hw => w_witness2)
  k_fill
  refine L2.walk_of (l := PySem.Challenge.rw_nomoretold_k30_whole_sheets) (n := 63) (k := 60) (x := "_law_script") (CX := fun w => L2.CX PySem.Challenge.pw_nomoretold_k30_whole_sheets w) (sp := fun w => Gp.spF (Gp.wd0 _) ⟨Gp.run Ck30.P 100 60, 100⟩ 28 1) rfl (by decide) rfl ⟨rfl, by decide, by decide⟩ (fun w h Y => PySem.W.kIn_of Y) ?F (fun w H a ns hl _ hS => (Ck30.law_run ns).elim fun S h => Gp.law_sp (prog := PySem.Challenge.pw_nomoretold_k30_whole_sheets) (w := w) hS h) (fun w H s e s' h => by
    obtain ⟨_, _, _, _, _, _, _, _, _, _, _, _, z⟩ := h; exact z.elim)
  case F =>
    intro w mg fa h KX G hmg
    refine' Ck30.all_mk KX G hmg (Ck30.all_list ?h0 ?h1 ?h2 ?h3 ?h4 ?h5 ?h6 ?h7 ?h8 ?h9 ?h10 ?h11 ?h12 ?h13 ?h14 ?h15 ?h16 ?h17 ?h18 ?h19 ?h20 ?h21 ?h22 ?h23 ?h24 ?h25 ?h26 ?h27 ?h28) (Ck30.bl_list ?z0 ?z1 ?z2 ?z3 ?z4 ?z5 ?z6 ?z7 ?z8 ?z9 ?z10 ?z11 ?z12 ?z13 ?z14 ?z15 ?z16 ?z17 ?z18 ?z19) (Ck30.con_list ?y0 ?y1 ?y2 ?y3 ?y4 ?y5) (fun _ _ _ _ _ _ s v => .of_eq rfl)
    (case h0 => refine' Gp.defAt_mk ?a ?l ?c ?k (fun _ _ _ _ _ _ us hl => match us, hl with | [_, _, _], _ => rfl); (case a => k_is); (case l => k_is); (case c => k_is); (case k => k_is))
    (case h1 => refine' Gp.defAt_mk ?a ?l ?c ?k (fun _ _ _ _ _ _ us hl => match us, hl with | [_, _, _], _ => rfl); (case a => k_is); (case l => k_is); (case c => k_is); (case k => k_is))
    (case h2 => refine' Gp.defAt_mk ?a ?l ?c ?k (fun _ _ _ _ _ _ us hl => match us, hl with | [_], _ => rfl); (case a => k_is); (case l => k_is); (case c => k_is); (case k => k_is))
    (case h3 => refine' Gp.defAt_mk ?a ?l ?c ?k (fun _ _ _ _ _ _ us hl => match us, hl with | [_, _], _ => rfl); (case a => k_is); (case l => k_is); (case c => k_is); (case k => k_is))
    (case h4 => refine' Gp.defAt_mk ?a ?l ?c ?k (fun _ _ _ _ _ _ us hl => match us, hl with | [_, _, _, _], _ => rfl); (case a => k_is); (case l => k_is); (case c => k_is); (case k => k_is))
    (case h5 => refine' Gp.defAt_mk ?a ?l ?c ?k (fun _ _ _ _ _ _ us hl => match us, hl with | [_, _, _, _], _ => rfl); (case a => k_is); (case l => k_is); (case c => k_is); (case k => k_is))
    (case h6 => refine' Gp.defAt_mk ?a ?l ?c ?k (fun _ _ _ _ _ _ us hl => match us, hl with | [_, _], _ => rfl); (case a => k_is); (case l => k_is); (case c => k_is); (case k => k_is))
    (case h7 => refine' Gp.defAt_mk ?a ?l ?c ?k (fun _ _ _ _ _ _ us hl => match us, hl with | [_, _], _ => rfl); (case a => k_is); (case l => k_is); (case c => k_is); (case k => k_is))
    (case h8 => refine' Gp.defAt_mk ?a ?l ?c ?k (fun _ _ _ _ _ _ us hl => match us, hl with | [_, _, _], _ => rfl); (case a => k_is); (case l => k_is); (case c => k_is); (case k => k_is))
    (case h9 => refine' Gp.defAt_mk ?a ?l ?c ?k (fun _ _ _ _ _ _ us hl => match us, hl with | [_, _], _ => rfl); (case a => k_is); (case l => k_is); (case c => k_is); (case k => k_is))
    (case h10 => refine' Gp.defAt_mk ?a ?l ?c ?k (fun _ _ _ _ _ _ us hl => match us, hl with | [_, _, _], _ => rfl); (case a => k_is); (case l => k_is); (case c => k_is); (case k => k_is))
    (case h11 => refine' Gp.defAt_mk ?a ?l ?c ?k (fun _ _ _ _ _ _ us hl => match us, hl with | [_, _, _, _], _ => rfl); (case a => k_is); (case l => k_is); (case c => k_is); (case k => k_is))
    (case h12 => refine' Gp.defAt_mk ?a ?l ?c ?k (fun _ _ _ _ _ _ us hl => match us, hl with | [_, _, _], _ => rfl); (case a => k_is); (case l => k_is); (case c => k_is); (case k => k_is))
    (case h13 => refine' Gp.defAt_mk ?a ?l ?c ?k (fun _ _ _ _ _ _ us hl => match us, hl with | [_, _, _], _ => rfl); (case a => k_is); (case l => k_is); (case c => k_is); (case k => k_is))
    (case h14 => refine' Gp.defAt_mk ?a ?l ?c ?k (fun _ _ _ _ _ _ us hl => match us, hl with | [_, _, _], _ => rfl); (case a => k_is); (case l => k_is); (case c => k_is); (case k => k_is))
    (case h15 => refine' Gp.defAt_mk ?a ?l ?c ?k (fun _ _ _ _ _ _ us hl => match us, hl with | [_, _, _, _, _, _], _ => rfl); (case a => k_is); (case l => k_is); (case c => k_is); (case k => k_is))
    (case h16 => refine' Gp.defAt_mk ?a ?l ?c ?k (fun _ _ _ _ _ _ us hl => match us, hl with | [_, _, _, _, _], _ => rfl); (case a => k_is); (case l => k_is); (case c => k_is); (case k => k_is))
    (case h17 => refine' Gp.defAt_mk ?a ?l ?c ?k (fun _ _ _ _ _ _ us hl => match us, hl with | [_, _, _, _, _, _], _ => rfl); (case a => k_is); (case l => k_is); (case c => k_is); (case k => k_is))
    (case h18 => refine' Gp.defAt_mk ?a ?l ?c ?k (fun _ _ _ _ _ _ us hl => match us, hl with | [_, _], _ => rfl); (case a => k_is); (case l => k_is); (case c => k_is); (case k => k_is))
    (case h19 => refine' Gp.defAt_mk ?a ?l ?c ?k (fun _ _ _ _ _ _ us hl => match us, hl with | [_, _], _ => rfl); (case a => k_is); (case l => k_is); (case c => k_is); (case k => k_is))
    (case h20 => refine' Gp.defAt_mk ?a ?l ?c ?k (fun _ _ _ _ _ _ us hl => match us, hl with | [_, _], _ => rfl); (case a => k_is); (case l => k_is); (case c => k_is); (case k => k_is))
    (case h21 => refine' Gp.defAt_mk ?a ?l ?c ?k (fun _ _ _ _ _ _ us hl => match us, hl with | [_, _, _, _], _ => rfl); (case a => k_is); (case l => k_is); (case c => k_is); (case k => k_is))
    (case h22 => refine' Gp.defAt_mk ?a ?l ?c ?k (fun _ _ _ _ _ _ us hl => match us, hl with | [_, _, _], _ => rfl); (case a => k_is); (case l => k_is); (case c => k_is); (case k => k_is))
    (case h23 => refine' Gp.defAt_mk ?a ?l ?c ?k (fun _ _ _ _ _ _ us hl => match us, hl with | [_, _, _], _ => rfl); (case a => k_is); (case l => k_is); (case c => k_is); (case k => k_is))
    (case h24 => refine' Gp.defAt_mk ?a ?l ?c ?k (fun _ _ _ _ _ _ us hl => match us, hl with | [_, _, _, _], _ => rfl); (case a => k_is); (case l => k_is); (case c => k_is); (case k => k_is))
    (case h25 => refine' Gp.defAt_mk ?a ?l ?c ?k (fun _ _ _ _ _ _ us hl => match us, hl with | [_, _], _ => rfl); (case a => k_is); (case l => k_is); (case c => k_is); (case k => k_is))
    (case h26 => refine' Gp.defAt_mk ?a ?l ?c ?k (fun _ _ _ _ _ _ us hl => match us, hl with | [_, _, _, _, _, _], _ => rfl); (case a => k_is); (case l => k_is); (case c => k_is); (case k => k_is))
    (case h27 => refine' Gp.defAt_mk ?a ?l ?c ?k (fun _ _ _ _ _ _ us hl => match us, hl with | [_, _, _], _ => rfl); (case a => k_is); (case l => k_is); (case c => k_is); (case k => k_is))
    (case h28 => refine' Gp.defAt_mk ?a ?l ?c ?k (fun _ _ _ _ _ _ us hl => match us, hl with | [_], _ => rfl); (case a => k_is); (case l => k_is); (case c => k_is); (case k => k_is))
    (case z0 => k_is)
    (case z1 => k_is)
    (case z2 => k_is)
    (case z3 => k_is)
    (case z4 => k_is)
    (case z5 => k_is)
    (case z6 => k_is)
    (case z7 => k_is)
    (case z8 => k_is)
    (case z9 => k_is)
    (case z10 => k_is)
    (case z11 => k_is)
    (case z12 => k_is)
    (case z13 => k_is)
    (case z14 => k_is)
    (case z15 => k_is)
    (case z16 => k_is)
    (case z17 => k_is)
    (case z18 => k_is)
    (case z19 => k_is)
    (case y0 => refine' Gp.con_int ?a; (case a => k_is))
    (case y1 => refine' Gp.con_int ?a; (case a => k_is))
    (case y2 => refine' Gp.con_int ?a; (case a => k_is))
    (case y3 => refine' Gp.con_int ?a; (case a => k_is))
    (case y4 => refine' Gp.con_int ?a; (case a => k_is))
    (case y5 => refine' Gp.con_ints [5, 7, 11, 13] ?a ?l ?z ?v; (case a => k_is); (case l => k_is); (case z => decide); (case v => exact (.cons ⟨_, rfl⟩ (.cons ⟨_, rfl⟩ (.cons ⟨_, rfl⟩ (.cons ⟨_, rfl⟩ .nil))))))

