import PyProof.Rows.All
import HandS.Zip
import HandS.Iter
import KE.GoesNew
import PyProof.AutoSeq1
import Wide.All
import OpenK.AllK
import Wide.FinOn
import HandS.ForMost
import HandS.Walk
import HandS.Flow
import HandS.Wide
import HandS.WideBits
import HandS.IsInst
import HandS.TupAny
import HandS.Style
import HandS.Conv
import HandS.More
import HandS.Rev
import HandS.Strs
import HandS.SetFor
import HandS.SortInts
import HandS.Text
import HandS.RaiseMore
import HandS.HotCalls
import HandS.ExcInit
import HandS.ExcInitHot
import HandS.ExcValue
import HandS.ExcIs
import HandS.ExcField
import KE.DataFind
import PyProof.ReprRoads
import PyProof.SumWalk
import KE.LtData
import HandS.Deep
import HandS.EndBits
import HandS.SetKeys
import HandS.ListItems
import HandS.RevTup
import HandS.Sort
import HandS.DictComp
import HandS.Spec
import KE.KRevIter
import KE.KDictPairs
import PyProof.DictUpdate
import HandS.NoneIn
import KE.KExcIs
import PyProof.Rows.StrJoinMade
import PyProof.Rows.RegFStrParts
import PySem.Challenge.RW_beltrow_k07_whole_moved_by_doing
set_option Elab.async false
set_option linter.all false
set_option maxRecDepth 100000
set_option maxHeartbeats 4000000
set_option autoImplicit false
/-! ## zip of lists and tuples in any mix -/
namespace Bp
open PySem L2
def SqX (t : Bool) (K : PySem.W.Frag) (H : Hp) (a : Addr) (xs : List V) : Prop := if t = true then SqT K H a xs else SqL K H a xs
def ItX (t : Bool) (h : Heap) (i a : Addr) (k : Nat) : Prop := if t = true then h.IsTupleIter i a k else h.IsListIter i a k
def SeX (t : Bool) (h : Heap) (a : Addr) (its : Array Value) : Prop := if t = true then h.IsTuple a its else h.IsList a its
def ItzM (s t : Bool) (K : PySem.W.Frag) (a b : Addr) : It where
  go i H := ∃ xs ys x y, SqX s K H a xs ∧ SqX t K H b ys ∧ xs[i]? = some x ∧ ys[i]? = some y
  yld i H v H' := ∃ T x y, v = V.ref T ∧ H T = none ∧ H' = upd H T (HO.tup [x, y]) ∧ (∀ xs : List V, SqX s K H a xs → xs[i]? = some x) ∧ ∀ ys : List V, SqX t K H b ys → ys[i]? = some y
  stop i H := ∃ xs ys, SqX s K H a xs ∧ SqX t K H b ys ∧ i = min xs.length ys.length
theorem draws_X {prog : Program} {w : World} {A : Around} (hh : A.handled = none) (t : Bool) (it l : Addr) (ne : l ≠ it) (items : Array Value) :
    Draws prog w A it [it, l] items.size (fun i v => items[i]? = some v) fun i h => ItX t h it l i ∧ SeX t h l items := by
  cases t
  · exact Draws.list hh it l ne items
  · exact Draws.tuple hh it l ne items
theorem ItX.at {t : Bool} {h h' : Heap} {i a : Addr} {k : Nat} (x : ItX t h i a k) (g : ∀ o : Obj, h.get? i = some o → h'.get? i = some o) : ItX t h' i a k := by
  cases t
  · exact Heap.IsListIter.at x g
  · exact Heap.IsTupleIter.at x g
theorem ItX.obj {t : Bool} {h : Heap} {i a : Addr} {k : Nat} (x : ItX t h i a k) : ∃ o, h.get? i = some o ∧ ∀ v : Option Value, o.data ≠ Data.cell v := by
  cases t <;> obtain ⟨o, e, _, d⟩ := x <;> exact ⟨o, e, fun v q => by rw [d] at q; cases q⟩
theorem sq_X {X : Cx} {pins : List (Addr × Obj)} {σ : L2.St} {H : Hp} {s : Shared} {a : Addr} {xs : List V} {t : Bool} (I : L2.Inv X pins σ H s) (q : SqX t X.K H a xs) : ∃ its, Vals xs its ∧ SeX t s.heap a its.toArray := by
  cases t
  · obtain ⟨its, v, ⟨o, n, e, c, p⟩, _⟩ := Inv.list I q
    exact ⟨its, v, o, e, c, n, p.2⟩
  · obtain ⟨its, v, p, _⟩ := Inv.tuple I q
    exact ⟨its, v, p⟩
theorem SqX.inj {X : Cx} {pins : List (Addr × Obj)} {σ : L2.St} {H : Hp} {s : Shared} {a : Addr} {xs ys : List V} {t : Bool} (I : L2.Inv X pins σ H s) (q : SqX t X.K H a xs) (q' : SqX t X.K H a ys) : xs = ys := by
  cases t
  · exact Inv.list_inj I q q'
  · exact Inv.tuple_inj I q q'
theorem turn_zipM {P : Program} {w : World} {K : PySem.W.Frag} {elts : List Expr} {kk : Nat} {tpos : Pos} {a b z TI TO i1 i2 : Addr} {s t : Bool} (D : ZipSep2 z TI TO i1 i2 [i1, a] [i2, b]) (n1 : a ≠ i1) (n2 : b ≠ i2) :
    Turn P w K (Expr.Tuple elts kk tpos) (ItzM s t K a b) [z, TI, TO, i1, i2] z fun i h =>
      IsZip h z TI TO Value.none ∧ IsTupOf2 h TI (Value.ref i1) (Value.ref i2) ∧ (∃ x y, IsTupOf2 h TO x y) ∧ ItX s h i1 a i ∧ ItX t h i2 b i where
  mem := by simp
  obj := by
    rintro i h ⟨hz, hTI, ⟨x, y, hTO⟩, h1, h2⟩ c hc
    simp only [List.mem_cons, List.not_mem_nil, or_false] at hc
    rcases hc with rfl | rfl | rfl | rfl | rfl
    · exact ⟨_, hz, fun v q => by cases q⟩
    · exact ⟨_, hTI, fun v q => by cases q⟩
    · exact ⟨_, hTO, fun v q => by cases q⟩
    · exact h1.obj
    · exact h2.obj
  keep := by
    rintro i h h' ⟨hz, hTI, ⟨x, y, hTO⟩, h1, h2⟩ k
    exact ⟨k z (by simp) _ hz, k TI (by simp) _ hTI, ⟨x, y, k TO (by simp) _ hTO⟩, h1.at (k i1 (by simp)), h2.at (k i2 (by simp))⟩
  item := by
    rintro X rfl rfl rfl hc i pins st σ H E I hf ⟨hz, hTI, ⟨x0, y0, hTO⟩, h1, h2⟩ ⟨xs, ys, x, y, hqx, hqy, hx, hy⟩
    obtain ⟨its, rv, p⟩ := sq_X I hqx
    obtain ⟨its2, rv2, p2⟩ := sq_X I hqy
    obtain ⟨u, hu, ru⟩ := rv.get hx
    obtain ⟨u2, hu2, ru2⟩ := rv2.get hy
    have hi : i < min its.toArray.size its2.toArray.size := by
      have := (List.getElem?_eq_some_iff.mp hu).1
      have := (List.getElem?_eq_some_iff.mp hu2).1
      simp; omega
    refine (GoesN.zip2 (A := X.A) (prog := X.prog) (w := X.w) (elts := elts) (x1 := kk) (pos := tpos) D (draws_X (show X.A.in1.handled = none from I.ok.hd hc) s i1 a n1 its.toArray) (draws_X (show X.A.in1.handled = none from I.ok.hd hc) t i2 b n2 its2.toArray)).goes i st _ E hi ⟨hz, hTI, ⟨x0, y0, hTO⟩, ⟨h1, p⟩, ⟨h2, p2⟩⟩ ?_
    rintro v h' tk ⟨T, x', y', rfl, fr, e1, e2, tt⟩ ⟨gz, gTI, ⟨b1, b2, gTO⟩, ⟨g1, _⟩, ⟨g2, _⟩⟩ kp le
    have e1' : its[i]? = some x' := by simpa using e1
    have e2' : its2[i]? = some y' := by simpa using e2
    have : u = x' := by rw [e1'] at hu; exact (Option.some.inj hu).symm
    subst this
    have : u2 = y' := by rw [e2'] at hu2; exact (Option.some.inj hu2).symm
    subst this
    have ft : H T = none := I.hok.fresh fr
    have hin : ∀ c, c ∈ [z, TI, TO, i1, i2] → FpOk X pins H c := hf
    refine ⟨.ref T, upd H T (.tup [x, y]), I.turnedNew (ch := [z, TO, i1, i2]) kp (fun c hc => hf c ?_) fr ?_, rfl, ⟨T, x, y, rfl, ft, rfl, fun xs' q => ?_, fun ys' q => ?_⟩, ⟨gz, gTI, ⟨b1, b2, gTO⟩, g1, g2⟩, fun c hc => ?_⟩
    · simp only [List.mem_cons, List.not_mem_nil, or_false] at hc ⊢
      rcases hc with h | h | h | h <;> simp [h]
    · exact ⟨by simp [sizeLine], [u, u2], .cons ru (.cons ru2 .nil), tt⟩
    · rw [SqX.inj I q hqx]; exact hx
    · rw [SqX.inj I q hqy]; exact hy
    · have h0 := (hf c hc).1
      rw [upd_ne]
      · exact h0
      · rintro rfl
        have hob : ∃ o, st.heap.get? c = some o := by
          simp only [List.mem_cons, List.not_mem_nil, or_false] at hc
          rcases hc with h | h | h | h | h
          · exact ⟨_, h ▸ hz⟩
          · exact ⟨_, h ▸ hTI⟩
          · exact ⟨_, h ▸ hTO⟩
          · obtain ⟨o, e, _⟩ := h1.obj; exact ⟨o, h ▸ e⟩
          · obtain ⟨o, e, _⟩ := h2.obj; exact ⟨o, h ▸ e⟩
        obtain ⟨o, e⟩ := hob
        have := Heap.lt_size e
        exact absurd fr (Nat.not_le.mpr this)
  done := by
    rintro X rfl rfl rfl hc i pins st σ H E I hf ⟨hz, hTI, ⟨x0, y0, hTO⟩, h1, h2⟩ ⟨xs, ys, hqx, hqy, hl⟩
    obtain ⟨its, rv, p⟩ := sq_X I hqx
    obtain ⟨its2, rv2, p2⟩ := sq_X I hqy
    have e : i = min its.toArray.size its2.toArray.size := by
      have := rv.length; have := rv2.length
      simp; omega
    rw [e] at h1 h2
    refine (GoesN.zip2 (A := X.A) (prog := X.prog) (w := X.w) (elts := elts) (x1 := kk) (pos := tpos) D (draws_X (show X.A.in1.handled = none from I.ok.hd hc) s i1 a n1 its.toArray) (draws_X (show X.A.in1.handled = none from I.ok.hd hc) t i2 b n2 its2.toArray)).stops st _ E ⟨hz, hTI, ⟨x0, y0, hTO⟩, ⟨h1, p⟩, ⟨h2, p2⟩⟩ ?_
    exact fun h' tk kp le => I.turnedL kp fun c hc => hf c (by
      simp only [List.mem_cons, List.not_mem_nil, or_false] at hc ⊢
      rcases hc with h | h | h | h <;> simp [h])
  self := by
    rintro A i st Q E ⟨hz, _⟩ h
    exact wpAny_pyIter_zip hz h
def iZipM (K : PySem.W.Frag) (ta : TA) : TI := fun σ H R => ta σ H fun vs H1 => ∃ a b xs ys s t, vs = [V.ref a, V.ref b] ∧ SqX s K H1 a xs ∧ SqX t K H1 b ys ∧ R (ItzM s t K a b) H1
theorem begins_X (t : Bool) (l : Addr) (items : Array Value) : ∃ o, (∃ c, o.cls = c ∧ c = Value.type (if t = true then "tuple_iterator" else "list_iterator")) ∧ o.data = Data.fields #[Value.ref l, Value.int 0 0] ∧ Begins (Value.ref l) o fun h => SeX t h l items := by
  cases t
  · exact ⟨_, ⟨_, rfl, rfl⟩, rfl, begins_list l items⟩
  · exact ⟨_, ⟨_, rfl, rfl⟩, rfl, begins_tuple l items⟩
theorem pi_zipM {X : Cx} {e e2 : Expr} {ta : TA} {p pos tpos : Pos} {elts : List Expr} {kk : Nat} (hg : Gl X "zip") (hm : X.mg "zip" = none) (ha : PA X [e, e2] ta)
    (hs : starEach [e, e2] X.env = (false, eval e X.env) :: starEach [e2] X.env) (hpl : ((backTo pos (starEach [e2] X.env)).any fun x => x.fst) = false) :
    PI X (Expr.Tuple elts kk tpos) ((Expr.Name "zip" p).Call [e, e2] [] pos) (iZipM X.K ta) := by
  constructor
  intro pins s σ H R I h
  refine PyProof.Rows.Call_ (ld_blt I hg hm PyProof.Rows.boot_zip (PyProof.Rows.callWith_type1 (thn (ha.run pos pins s σ H _ I h) ?_) hs hpl))
  rintro us s1 ⟨vs, H1, I1, r1, a, b, xs, ys, sb, tb, rfl, q1, q2, hR⟩
  cases r1 with
  | cons ra r1 =>
  cases r1 with
  | cons rb r1 =>
  cases r1
  cases ra; cases rb
  obtain ⟨its, rv, p1⟩ := sq_X I1 q1
  obtain ⟨its2, rv2, p2⟩ := sq_X I1 q2
  obtain ⟨o1, ⟨_, c1, rfl⟩, d1, b1⟩ := begins_X sb a its.toArray
  obtain ⟨o2, ⟨_, c2, rfl⟩, d2, b2⟩ := begins_X tb b its2.toArray
  have la : a < s1.heap.objs.size := by cases sb <;> obtain ⟨o, e, _⟩ := p1 <;> exact Heap.lt_size e
  have lb : b < s1.heap.objs.size := by cases tb <;> obtain ⟨o, e, _⟩ := p2 <;> exact Heap.lt_size e
  refine zip_begins2 b1 b2 p1 p2 fun h' hz hTI hTO g1 g2 sz kp => ?_
  have I2 : L2.Inv X pins σ H1 { heap := h', gens := s1.gens, drawn := s1.drawn, toks := s1.toks, os := s1.os } := I1.turnedL (ch := []) (fun b o _ e => kp b o e) (fun b hb => by cases hb)
  have fp : ∀ c, s1.heap.objs.size ≤ c → FpOk X pins H1 c := fun c hc => I1.fpOk hc (I1.hok.fresh hc)
  refine wpAny_pyIter_zip hz ⟨_, _, _, _, H1, rfl, I2, turn_zipM (s := sb) (t := tb) (a := a) (b := b) (zip_sep2 (N := s1.heap.objs.size) (fp1 := [a]) (fp2 := [b]) (fun c hc => ?_) (fun c hc => ?_)) ?_ ?_, ⟨hz, hTI, ⟨_, _, hTO⟩, ?_, ?_⟩, fun c hc => ?_, hR⟩
  · rw [List.mem_singleton.mp hc]; exact la
  · rw [List.mem_singleton.mp hc]; exact lb
  · exact Nat.ne_of_lt la
  · exact Nat.ne_of_lt (Nat.lt_succ_of_lt lb)
  · cases sb <;> exact ⟨o1, g1, c1, d1⟩
  · cases tb <;> exact ⟨o2, g2, c2, d2⟩
  · simp only [List.mem_cons, List.not_mem_nil, or_false] at hc
    rcases hc with h | h | h | h | h <;> rw [h] <;> exact fp _ (by omega)
end Bp

/-! ## enumerate of lists and tuples -/
namespace PySem
open PySem.Calls PyProof.Rows
theorem meets_enumerate_newB1 {v : Value} {o : Obj} {H : Heap → Prop} (B : Begins v o H) :
  Meets (Builtin.«enumerate.__new__» ⟨[.type "enumerate", v], []⟩) (fun _ R s => H s.heap ∧ R (.ok (.ret (.ref (s.heap.push o).objs.size))) { s with heap := (s.heap.push o).push { cls := .type "enumerate", data := .fields #[.none, .bool false, .ref s.heap.objs.size, rawInt 0, .none, .none] } }) :=
  .of_wp fun prog w A R s h => by
    obtain ⟨hh, h⟩ := h
    have z2 := PySem.sub_enumerate
    wp_walk using (B.iter _ _ _ _ _ _ hh), wpAny_stack_any
    intro st
    have key : ∀ b : Bool, ∀ Q : Bool → Shared → Prop, Q b s → wpAny (model prog w) A.in1 (pure b) Q (fun e s' => R (Except.error e) s') s := fun b Q h => wpAny_pure h
    refine key _ _ ?_
    split
    · rename_i c tl kw p t1 hst
      cases hb : (c == Value.type "enumerate")
      all_goals wp_walk using (B.iter _ _ _ _ _ _ hh)
      all_goals (first | exact ⟨_, rfl, h⟩ | skip)
    · wp_walk using (B.iter _ _ _ _ _ _ hh)
      all_goals (first | exact ⟨_, rfl, h⟩ | skip)
theorem enum_begins1 {prog : Program} {w : World} {A : Around} {E : Value → Shared → Prop} {s : Shared} {v : Value} {o : Obj} {H : Heap → Prop} {Q : Value → Shared → Prop} (B : Begins v o H) (h1 : H s.heap)
    (h : ∀ h' : Heap, IsEnum h' (s.heap.objs.size + 1) s.heap.objs.size 0 Value.none → h'.get? s.heap.objs.size = some o → h'.objs.size = s.heap.objs.size + 2 → (∀ (b : Addr) (o : Obj), s.heap.get? b = some o → h'.get? b = some o) → Q (Value.ref (s.heap.objs.size + 1)) { heap := h', gens := s.gens, drawn := s.drawn, toks := s.toks, os := s.os }) :
    wpAny (model prog w) A (call (Value.type "enumerate") [v]) Q E s := by
  refine callType_new F.called_enumerate (by decide) (F.typeCall_enumerate_1 v) (F.newCall_enumerate_1 v) (fun obj => F.args_object_init_2 obj v) F.entry_enumerate_new (meets_enumerate_newB1 B) ⟨h1, ?_⟩
  have hz := Heap.size_push s.heap o
  show _ ∧ _
  rw [hz]
  have he := Heap.get?_push_size (s.heap.push o) (o := { cls := .type "enumerate", data := .fields #[.none, .bool false, .ref s.heap.objs.size, rawInt 0, .none, .none] }) rfl
  rw [hz] at he
  exact ⟨⟨_, he, rfl⟩, h _ he (Heap.get?_push_of_some _ (Heap.get?_push_size s.heap B.free)) (by rw [Heap.size_push, hz]) fun b o1 x => Heap.get?_push_of_some _ (Heap.get?_push_of_some o x)⟩
end PySem
namespace Bp
open PySem L2
def IteM (t : Bool) (K : PySem.W.Frag) (a : Addr) : It where
  go i H := ∃ xs x, SqX t K H a xs ∧ xs[i]? = some x
  yld i H v H' := ∃ T x, v = V.ref T ∧ H T = none ∧ H' = upd H T (HO.tup [V.int (i : Nat), x]) ∧ ∀ xs : List V, SqX t K H a xs → xs[i]? = some x
  stop i H := ∃ xs, SqX t K H a xs ∧ i = xs.length
theorem turn_enumM {P : Program} {w : World} {K : PySem.W.Frag} {elts : List Expr} {kk : Nat} {tpos : Pos} {a e it : Addr} {t : Bool} (n1 : a ≠ it) (n2 : e ≠ it) (n3 : e ≠ a) :
    Turn P w K (Expr.Tuple elts kk tpos) (IteM t K a) [e, it] e fun i h => (∃ old, IsEnum h e it (i : Nat) old) ∧ ItX t h it a i where
  mem := by simp
  obj := by
    rintro i h ⟨⟨old, he⟩, h1⟩ c hc
    simp only [List.mem_cons, List.not_mem_nil, or_false] at hc
    rcases hc with rfl | rfl
    · exact ⟨_, he, fun v q => by cases q⟩
    · exact h1.obj
  keep := by
    rintro i h h' ⟨⟨old, he⟩, h1⟩ k
    exact ⟨⟨old, k e (by simp) _ he⟩, h1.at (k it (by simp))⟩
  item := by
    rintro X rfl rfl rfl hc i pins st σ H E I hf ⟨⟨old, he⟩, h1⟩ ⟨xs, x, hqx, hx⟩
    obtain ⟨its, rv, p⟩ := sq_X I hqx
    obtain ⟨u, hu, ru⟩ := rv.get hx
    have hi : i < its.toArray.size := by have := (List.getElem?_eq_some_iff.mp hu).1; simpa using this
    have G := GoesN.enumFrom (A := X.A) (prog := X.prog) (w := X.w) (elts := elts) (x1 := kk) (pos := tpos) 0 (draws_X (show X.A.in1.handled = none from I.ok.hd hc) t it a n1 its.toArray) e n2 (by simp [n2, n3]) (by simp)
    refine G.goes i st _ E hi ⟨⟨old, by rw [Int.zero_add]; exact he⟩, h1, p⟩ ?_
    rintro v h' tk ⟨T, tt, x', rfl, fr, e1, ht⟩ ⟨⟨old', ge⟩, g1, _⟩ kp le
    have e1' : its[i]? = some x' := by simpa using e1
    have : u = x' := by rw [e1'] at hu; exact (Option.some.inj hu).symm
    subst this
    have ft : H T = none := I.hok.fresh fr
    refine ⟨.ref T, upd H T (.tup [.int (i : Nat), x]), I.turnedNew (ch := [e, it]) kp hf fr ?_, rfl, ⟨T, x, rfl, ft, rfl, fun xs' q => ?_⟩, ⟨⟨old', by rw [Int.zero_add] at ge; exact ge⟩, g1⟩, fun c hc => ?_⟩
    · exact ⟨by simp [sizeLine], [Value.int (0 + (i : Int)) tt, u], .cons ⟨tt, by rw [Int.zero_add]⟩ (.cons ru .nil), ht⟩
    · rw [SqX.inj I q hqx]; exact hx
    · have h0 := (hf c hc).1
      rw [upd_ne]
      · exact h0
      · rintro rfl
        have hob : ∃ o, st.heap.get? c = some o := by
          simp only [List.mem_cons, List.not_mem_nil, or_false] at hc
          rcases hc with h | h
          · exact ⟨_, h ▸ he⟩
          · obtain ⟨o, e, _⟩ := h1.obj; exact ⟨o, h ▸ e⟩
        obtain ⟨o, e⟩ := hob
        have := Heap.lt_size e
        exact absurd fr (Nat.not_le.mpr this)
  done := by
    rintro X rfl rfl rfl hc i pins st σ H E I hf ⟨⟨old, he⟩, h1⟩ ⟨xs, hqx, hl⟩
    obtain ⟨its, rv, p⟩ := sq_X I hqx
    have e' : i = its.toArray.size := by have := rv.length; simp; omega
    have G := GoesN.enumFrom (A := X.A) (prog := X.prog) (w := X.w) (elts := elts) (x1 := kk) (pos := tpos) 0 (draws_X (show X.A.in1.handled = none from I.ok.hd hc) t it a n1 its.toArray) e n2 (by simp [n2, n3]) (by simp)
    rw [e'] at h1 he
    refine G.stops st _ E ⟨⟨old, by rw [Int.zero_add]; exact he⟩, h1, p⟩ ?_
    exact fun h' tk kp le => I.turnedL kp hf
  self := by
    rintro A i st Q E ⟨⟨old, he⟩, _⟩ h
    exact wpAny_pyIter_enum he h
def iEnumM (K : PySem.W.Frag) (ta : TA) : TI := fun σ H R => ta σ H fun vs H1 => ∃ a xs t, vs = [V.ref a] ∧ SqX t K H1 a xs ∧ R (IteM t K a) H1
theorem pi_enumM {X : Cx} {e : Expr} {ta : TA} {p pos tpos : Pos} {elts : List Expr} {kk : Nat} (hg : Gl X "enumerate") (hm : X.mg "enumerate" = none) (ha : PA X [e] ta)
    (hs : starEach [e] X.env = [(false, eval e X.env)]) :
    PI X (Expr.Tuple elts kk tpos) ((Expr.Name "enumerate" p).Call [e] [] pos) (iEnumM X.K ta) := by
  constructor
  intro pins s σ H R I h
  refine PyProof.Rows.Call_ (ld_blt I hg hm PyProof.Rows.boot_enumerate (PyProof.Rows.callWith_type1 (thn (ha.run pos pins s σ H _ I h) ?_) hs rfl))
  rintro us s1 ⟨vs, H1, I1, r1, a, xs, t, rfl, q1, hR⟩
  cases r1 with
  | cons ra r1 =>
  cases r1
  cases ra
  obtain ⟨its, rv, p1⟩ := sq_X I1 q1
  obtain ⟨o1, ⟨_, c1, rfl⟩, d1, b1⟩ := begins_X t a its.toArray
  have la : a < s1.heap.objs.size := by cases t <;> obtain ⟨o, e, _⟩ := p1 <;> exact Heap.lt_size e
  refine enum_begins1 b1 p1 fun h' he g1 sz kp => ?_
  have I2 : L2.Inv X pins σ H1 { heap := h', gens := s1.gens, drawn := s1.drawn, toks := s1.toks, os := s1.os } := I1.turnedL (ch := []) (fun b o _ e => kp b o e) (fun b hb => by cases hb)
  have fp : ∀ c, s1.heap.objs.size ≤ c → FpOk X pins H1 c := fun c hc => I1.fpOk hc (I1.hok.fresh hc)
  refine wpAny_pyIter_enum he ⟨_, _, _, _, H1, rfl, I2, turn_enumM (t := t) (a := a) (e := s1.heap.objs.size + 1) (it := s1.heap.objs.size) ?_ ?_ ?_, ⟨⟨_, he⟩, ?_⟩, fun c hc => ?_, hR⟩
  · exact Nat.ne_of_lt la
  · exact Nat.succ_ne_self _
  · exact Nat.ne_of_gt (Nat.lt_succ_of_lt la)
  · cases t <;> exact ⟨o1, g1, c1, d1⟩
  · simp only [List.mem_cons, List.not_mem_nil, or_false] at hc
    rcases hc with h | h <;> rw [h] <;> exact fp _ (by omega)
end Bp

/-! ## a small semantics of our own: values, a heap by numbers, expressions, statements -/
namespace Bp
open PySem L2

inductive D where
  | non | bl (b : Bool) | int (i : Int) | str (s : Str) | tup (ds : List D) | ref (n : Nat)

inductive O where
  | lst (ds : List D)
  | dK (kvs : List (Key × D))
  | ins (c : Str) (fs : List (Str × D))
  | rl (ds : List D)
  | rd (kvs : List (Key × D))
  | exc (c : Str) (p : Option D)

abbrev Hh := List O
abbrev En := List (Option D)
abbrev Qd := D → Hh → Prop
abbrev Xq := Str → Option D → Hh → Prop

inductive Bo where | add | sub | mul | fdiv | mod | pow | xor
inductive Co where | eq | ne | lt | le | gt | ge | is | isnot | isin | notin | deq | dne
inductive Bi where | len | list | tuple | divmod | abs | int | max2 | min2 | all | any | sum | max1 | min1 | str | bool | repr | sorted | dict | listS | listK | sortK
inductive Mt where | append | extend | insert | pop | popAt | index | reverse | clear | remove | count | get2 | get1 | dpop2 | join | update | setdef
/-- calls within calls: list(d.items()), sum(d.values()), list(reversed(x)) -/
inductive Ne where | litems | svals | lrev | dne

inductive Tn where | non | int | bool | str | list | tuple | dict

mutual
inductive E where
  | var (i : Nat)
  | non | bl (b : Bool) | int (i : Int) | str (s : Str)
  | glob (x : Str)
  | bin (o : Bo) (a b : E)
  | neg (a : E)
  | not (a : E)
  | bop (and : Bool) (es : Es)
  | cmp (o : Co) (a b : E)
  | cmp2 (o o' : Co) (a b c : E)
  | ite (c a b : E)
  | tup (es : Es)
  | lst (es : Es)
  | dct (kvs : Es)
  | tab (x : Str) (i : E)
  | tabG (x : Str) (i d : E)
  | tabIn (neg : Bool) (x : Str) (i : E)
  | idx (a i : E)
  | sli (a : E) (lo hi : Oe)
  | rev (a : E)
  | call (f : Str) (es : Es)
  | bi (b : Bi) (es : Es)
  | rng (tup : Bool) (a b : E)
  | mt (m : Mt) (o : E) (es : Es)
  | isi (e : E) (ts : List Tn)
  | comp (elt : E) (t : Tg) (it : Iv) (c : Oe) (own : List (Str × Nat))
  | fld (o : E) (f : Str)
  | meth (o : E) (m : Str) (es : Es)
  | make (c : Str) (es : Es)
  | prom (e : E)
  | nest (n : Ne) (e : E)
  | isx (a : E) (cs : List Str)
  | xfld (a : E)
inductive Es where | nil | cons (e : E) (es : Es)
inductive Oe where | none | some (e : E)
inductive Iv where
  | seq (e : E) | rng1 (a : E) | rng2 (a b : E) | enu (e : E) | zip (a b : E) | rvs (e : E) | keys (i : Nat) | rngd (a b : E)
inductive Tg where
  | nm (i : Nat) | tp (ts : Tgs) | sub (o i : E)
inductive Tgs where | nil | cons (t : Tg) (ts : Tgs)
end

/-- a statement of an except suite -/
inductive Th where | asg (j : Nat) (a : E) | ret (a : E) | retn | expr (a : E)

mutual
inductive S where
  | asg (t : Tg) (e : E)
  | setc (i : Nat) (elt : E) (t : Tg) (it : Iv) (c : Oe) (own : List (Str × Nat))
  | par (i j : Nat) (a b : E)
  | par3 (i j l : Nat) (a b c : E)
  | aug (i : Nat) (o : Bo) (e : E)
  | expr (e : E)
  | ret (e : E)
  | ite (c : E) (a b : Ss)
  | loop (c : E) (b : Ss)
  | each (t : Tg) (it : Iv) (b : Ss)
  | eachK (t : Tg) (i : Nat) (b : Ss)
  | brk | cont | pass
  | setf (o : E) (f : Str) (e : E)
  | augf (o : E) (f : Str) (op : Bo) (e : E)
  | retn | rais
  | tri (b : Ss)
  | augs (o i : E) (op : Bo) (e : E)
  | rais0 (c : Str)
  | raisR (c : Str) (e : E)
  | tryA (b : Ss) (c : Str) (i : Nat) (su : List Th)
  | tryM (b : Ss) (hs : List (Str × List Th))
inductive Ss where | nil | cons (s : S) (ss : Ss)
end

/-! ### values -/
def elems (h : Hh) : D → Option (List D)
  | .tup ds => some ds
  | .ref n => match h[n]? with
    | some (.lst ds) => some ds
    | some (.rl ds) => some ds
    | _ => none
  | _ => none

/-- the truth of a value -/
def tru (h : Hh) : D → (Bool → Prop) → Prop
  | .non, Q => Q false
  | .bl b, Q => Q b
  | .int i, Q => Q (i != 0)
  | .str s, Q => s.length ≤ 100000 ∧ Q (s.length != 0)
  | .tup ds, Q => Q (!ds.isEmpty)
  | .ref n, Q => (∃ ds, h[n]? = some (.lst ds) ∧ Q (!ds.isEmpty)) ∨ (∃ ds, h[n]? = some (.rl ds) ∧ Q (!ds.isEmpty)) ∨ ∃ kvs, h[n]? = some (.dK kvs) ∧ Q (!kvs.isEmpty)

mutual
/-- data read off the heap -/
inductive Pd (h : Hh) : D → PyData → Prop
  | non : Pd h .non .none
  | bl (b : Bool) : Pd h (.bl b) (.bool b)
  | int (i : Int) : Pd h (.int i) (.int i)
  | str (x : Str) : Pd h (.str x) (.str x)
  | tup {ds : List D} {ps : List PyData} : Pds h ds ps → Pd h (.tup ds) (.tuple ps)
  | lst {n : Nat} {ds : List D} {ps : List PyData} : h[n]? = some (.lst ds) → Pds h ds ps → Pd h (.ref n) (.list ps)
  | rl {n : Nat} {ds : List D} {ps : List PyData} : h[n]? = some (.rl ds) → Pds h ds ps → Pd h (.ref n) (.list ps)
inductive Pds (h : Hh) : List D → List PyData → Prop
  | nil : Pds h [] []
  | cons {d : D} {ds : List D} {p : PyData} {ps : List PyData} : Pd h d p → Pds h ds ps → Pds h (d :: ds) (p :: ps)
end

def flat : D → Bool
  | .non => true | .bl _ => true | .int _ => true | .str _ => true | _ => false
def eqD : D → D → Bool
  | .non, .non => true
  | .bl a, .bl b => a == b
  | .bl a, .int b => (if a then 1 else 0) == b
  | .int a, .bl b => a == (if b then 1 else 0)
  | .int a, .int b => a == b
  | .str a, .str b => a == b
  | _, _ => false

/-- a field set -/
def putFD (f : Str) (v : D) : List (Str × D) → List (Str × D)
  | [] => [(f, v)]
  | (g, x) :: r => if g = f then (g, v) :: r else (g, x) :: putFD f v r
def keyOf : D → Option Key
  | .int i => some (.inl i)
  | .str s => some (.inr s)
  | _ => none
def getK {κ : Type} [DecidableEq κ] (kvs : List (κ × D)) (k : κ) : Option D := (kvs.find? fun kv => decide (kv.1 = k)).map (·.2)
def putD {κ : Type} [DecidableEq κ] (kvs : List (κ × D)) (k : κ) (v : D) : List (κ × D) :=
  if kvs.any (fun kv => decide (kv.1 = k)) then kvs.map (fun kv => if kv.1 = k then (kv.1, v) else kv) else kvs ++ [(k, v)]

def mergeD (kvs more : List (Key × D)) : List (Key × D) := more.foldl (fun acc kv => putD acc kv.1 kv.2) kvs
/-- keys and values by turns -/
def pairUp : List D → Option (List (Key × D))
  | [] => some []
  | [_] => none
  | a :: b :: r => match keyOf a, pairUp r with
    | some k, some ps => some ((k, b) :: ps)
    | _, _ => none
/-- pairs (key, value) -/
def pairD : D → Option (Key × D)
  | .tup [k, v] => match keyOf k with
    | some q => some (q, v)
    | none => none
  | _ => none
def pairsD : List D → Option (List (Key × D))
  | [] => some []
  | d :: r => match pairD d, pairsD r with
    | some p, some ps => some (p :: ps)
    | _, _ => none
def dropD {κ : Type} [DecidableEq κ] (kvs : List (κ × D)) (k : κ) : List (κ × D) := kvs.filter fun kv => decide (kv.1 ≠ k)
def keyD : Key → D
  | .inl i => .int i
  | .inr s => .str s
def cutD (xs : List D) (lo hi : Option Int) : List D := (xs.drop (HT.sIx xs.length 0 lo)).take (HT.sIx xs.length xs.length hi - HT.sIx xs.length 0 lo)

/-! ### operators -/
/-- ** of a great number -/
def CPowW (i j : Int) : Prop := 0 ≤ j ∧ (Builtin.Int.intBits i : Int) * j ≤ 2 ^ 27
/-- data that is shown -/
def Shows (p : PyData) : Prop := p.showable = true ∧ SeqAt.shaped p = true ∧ p.shown.length ≤ sizeLine
def wBo : Bo → D → D → Hh → Qd → Prop
  | .add, .int i, .int j, h, Q => Q (.int (i + j)) h
  | .add, .str i, .str j, h, Q => i.length + j.length ≤ 100000 ∧ Q (.str (i ++ j)) h
  | .add, .tup a, .tup b, h, Q => a.length + b.length ≤ 100000 ∧ Q (.tup (a ++ b)) h
  | .add, .ref a, .ref b, h, Q => ∃ xs ys, h[a]? = some (.lst xs) ∧ h[b]? = some (.lst ys) ∧ xs.length + ys.length ≤ 100000 ∧ Q (.ref h.length) (h ++ [.lst (xs ++ ys)])
  | .sub, .int i, .int j, h, Q => Q (.int (i - j)) h
  | .mul, .int i, .int j, h, Q => (CMul i j ∨ CMulW i j) ∧ Q (.int (i * j)) h
  | .mul, .ref a, .int k, h, Q => ∃ xs, h[a]? = some (.lst xs) ∧ -1000000 ≤ k ∧ k ≤ 1000000 ∧ xs.length * k.toNat ≤ 100000 ∧ Q (.ref h.length) (h ++ [.lst (List.replicate k.toNat xs).flatten])
  | .fdiv, .int i, .int j, h, Q => (CDiv i j ∨ CDivW i j) ∧ Q (.int (i / j)) h
  | .mod, .int i, .int j, h, Q => 0 < j ∧ Q (.int (i % j)) h
  | .pow, .int i, .int j, h, Q => (CPow i j ∨ CPowW i j) ∧ Q (.int (i ^ j.toNat)) h
  | .xor, .int i, .int j, h, Q => Q (.int (Builtin.bitXor i j)) h
  | _, _, _, _, _ => False

/-- x op= y -/
def wAug : Bo → D → D → Hh → Qd → Prop
  | .add, .int i, .int j, h, Q => Q (.int (i + j)) h
  | .add, .str i, .str j, h, Q => i.length + j.length ≤ 100000 ∧ Q (.str (i ++ j)) h
  | .sub, .int i, .int j, h, Q => Q (.int (i - j)) h
  | .mul, .int i, .int j, h, Q => CMul i j ∧ Q (.int (i * j)) h
  | .fdiv, .int i, .int j, h, Q => CDiv i j ∧ Q (.int (i / j)) h
  | .mod, .int i, .int j, h, Q => 0 < j ∧ Q (.int (i % j)) h
  | _, _, _, _, _ => False
/-- == of anything: scalars at once, else by the data -/
def wEq (d e : D) (h : Hh) (Q : Bool → Prop) : Prop :=
  match d, e with
  | .int i, .int j => Q (decide (i = j))
  | .str i, .str j => Q (decide (i = j))
  | .bl i, .bl j => Q (decide (i = j))
  | .non, .non => Q true
  | .non, .int _ => Q false
  | .int _, .non => Q false
  | .non, .str _ => Q false
  | .str _, .non => Q false
  | .non, .bl _ => Q false
  | .bl _, .non => Q false
  | .int _, .str _ => Q false
  | .str _, .int _ => Q false
  | .bl _, .str _ => Q false
  | .str _, .bl _ => Q false
  | d, e => ∃ p q, Pd h d p ∧ Pd h e q ∧ SeqAt.shaped p = true ∧ SeqAt.shaped q = true ∧ Q (PyData.eqv p q)

def wIn (x c : D) (h : Hh) (Q : Bool → Prop) : Prop :=
  match c with
  | .str z => ∃ s, x = .str ⟨#[s]⟩ ∧ Q (decide (s ∈ z.cps.toList))
  | .tup ds => flat x = true ∧ ds.all flat = true ∧ Q (ds.any fun y => eqD y x)
  | .ref n => (∃ ds, (h[n]? = some (.lst ds) ∨ h[n]? = some (.rl ds)) ∧ flat x = true ∧ ds.all flat = true ∧ Q (ds.any fun y => eqD y x)) ∨
      (∃ kvs k, (h[n]? = some (.dK kvs) ∨ h[n]? = some (.rd kvs)) ∧ keyOf x = some k ∧ Q (getK kvs k).isSome) ∨
      (∃ p ps, Pd h x p ∧ Pd h (.ref n) (.list ps) ∧ SeqAt.shaped p = true ∧ SeqAt.shaped (.list ps) = true ∧ Q (ps.any fun z => PyData.eqv z p))
  | _ => False

def wCo : Co → D → D → Hh → (Bool → Prop) → Prop
  | .eq, d, e, h, Q => wEq d e h Q
  | .ne, d, e, h, Q => wEq d e h fun b => Q (!b)
  | .lt, .int i, .int j, _, Q => Q (decide (i < j))
  | .le, .int i, .int j, _, Q => Q (decide (i ≤ j))
  | .gt, .int i, .int j, _, Q => Q (decide (j < i))
  | .ge, .int i, .int j, _, Q => Q (decide (j ≤ i))
  | .lt, .str i, .str j, _, Q => Q (decide (i.cps.toList < j.cps.toList))
  | .lt, .tup a, .tup b, h, Q => ∃ p q, Pd h (.tup a) p ∧ Pd h (.tup b) q ∧ SeqAt.shaped p = true ∧ SeqAt.shaped q = true ∧ PySem.W.alike p q = true ∧ Q (PySem.W.dataLt p q)
  | .is, d, .non, _, Q => Q (match d with | .non => true | _ => false)
  | .isnot, d, .non, _, Q => Q (match d with | .non => false | _ => true)
  | .deq, d, e, h, Q => ∃ p q, Pd h d p ∧ Pd h e q ∧ SeqAt.shaped p = true ∧ SeqAt.shaped q = true ∧ Q (PyData.eqv p q)
  | .dne, d, e, h, Q => ∃ p q, Pd h d p ∧ Pd h e q ∧ SeqAt.shaped p = true ∧ SeqAt.shaped q = true ∧ Q (!PyData.eqv p q)
  | .isin, x, c, h, Q => wIn x c h Q
  | .notin, x, c, h, Q => wIn x c h fun b => Q (!b)
  | _, _, _, _, _ => False

def wIdx (a i : D) (h : Hh) (Q : Qd) : Prop :=
  match a with
  | .str z => ∃ k c, i = .int k ∧ z.length ≤ 100000 ∧ atI z.cps.toList k = some c ∧ Q (.str ⟨#[c]⟩) h
  | .tup ds => ∃ k v, i = .int k ∧ atI ds k = some v ∧ Q v h
  | .ref n => (∃ ds k v, (h[n]? = some (.lst ds) ∨ h[n]? = some (.rl ds)) ∧ i = .int k ∧ atI ds k = some v ∧ Q v h) ∨
      (∃ kvs k v, (h[n]? = some (.dK kvs) ∨ h[n]? = some (.rd kvs)) ∧ keyOf i = some k ∧ getK kvs k = some v ∧ Q v h)
  | _ => False

def wSli (a : D) (lo hi : Option Int) (h : Hh) (Q : Qd) : Prop :=
  match a with
  | .str z => z.length ≤ 100000 ∧ Q (.str (cutS z lo hi)) h
  | .tup ds => Q (.tup (cutD ds lo hi)) h
  | .ref n => ∃ ds, (h[n]? = some (.lst ds) ∨ h[n]? = some (.rl ds)) ∧ Q (.ref h.length) (h ++ [.lst (cutD ds lo hi)])
  | _ => False

def wRev (a : D) (h : Hh) (Q : Qd) : Prop :=
  match a with
  | .ref n => ∃ ds, h[n]? = some (.lst ds) ∧ Q (.ref h.length) (h ++ [.lst ds.reverse])
  | _ => False

def wBi : Bi → List D → Hh → Qd → Prop
  | .len, [.str s], h, Q => s.length ≤ 100000 ∧ Q (.int s.length) h
  | .len, [d], h, Q => (∃ ds, elems h d = some ds ∧ Q (.int ds.length) h) ∨ ∃ n kvs, d = .ref n ∧ h[n]? = some (.dK kvs) ∧ Q (.int kvs.length) h
  | .list, [d], h, Q => ∃ ds, elems h d = some ds ∧ Q (.ref h.length) (h ++ [.lst ds])
  | .tuple, [d], h, Q => ∃ ds, elems h d = some ds ∧ Q (.tup ds) h
  | .divmod, [.int i, .int j], h, Q => (CDiv i j ∨ CDivW i j) ∧ Q (.tup [.int (i / j), .int (i % j)]) h
  | .abs, [.int i], h, Q => Q (.int (if i < 0 then -i else i)) h
  | .int, [.int i], h, Q => Q (.int i) h
  | .int, [.bl b], h, Q => Q (.int (if b then 1 else 0)) h
  | .bool, [.int i], h, Q => Q (.bl (i != 0)) h
  | .bool, [.bl b], h, Q => Q (.bl b) h
  | .max2, [.int i, .int j], h, Q => Q (.int (if j > i then j else i)) h
  | .min2, [.int i, .int j], h, Q => Q (.int (if j < i then j else i)) h
  | .all, [.ref n], h, Q => ∃ bs : List Bool, h[n]? = some (.lst (bs.map D.bl)) ∧ Q (.bl (bs.all id)) h
  | .any, [.ref n], h, Q => ∃ bs : List Bool, h[n]? = some (.lst (bs.map D.bl)) ∧ Q (.bl (bs.any id)) h
  | .sum, [.ref n], h, Q => ∃ is : List Int, h[n]? = some (.lst (is.map D.int)) ∧ Q (.int is.sum) h
  | .max1, [.ref n], h, Q => ∃ is : List Int, h[n]? = some (.lst (is.map D.int)) ∧ 0 < is.length ∧ ∀ m, m ∈ is → (∀ y ∈ is, y ≤ m) → Q (.int m) h
  | .min1, [.ref n], h, Q => ∃ is : List Int, h[n]? = some (.lst (is.map D.int)) ∧ 0 < is.length ∧ ∀ m, m ∈ is → (∀ y ∈ is, m ≤ y) → Q (.int m) h
  | .str, [.int i], h, Q => i.natAbs.log2 < 1920 ∧ Q (.str (toString i)) h
  | .str, [.tup ds], h, Q => ∃ p, Pd h (.tup ds) p ∧ Shows p ∧ Q (.str p.shown) h
  | .str, [.ref n], h, Q => ∃ p, Pd h (.ref n) p ∧ Shows p ∧ Q (.str p.shown) h
  | .repr, [.int i], h, Q => i.natAbs.log2 < 1920 ∧ Q (.str (toString i)) h
  | .repr, [.tup ds], h, Q => ∃ p, Pd h (.tup ds) p ∧ Shows p ∧ Q (.str p.shown) h
  | .repr, [.ref n], h, Q => ∃ p, Pd h (.ref n) p ∧ Shows p ∧ Q (.str p.shown) h
  | .sorted, [.ref n], h, Q => (∃ ss : List Str, h[n]? = some (.lst (ss.map D.str)) ∧ ss.length < 64 ∧ ∀ ys : List Str, ys.Perm ss → PyProof.Rows.sortedS ys = true → Q (.ref h.length) (h ++ [.lst (ys.map D.str)])) ∨
      (∃ is : List Int, h[n]? = some (.lst (is.map D.int)) ∧ ∀ ys : List Int, ys.Perm is → ys.Pairwise (· ≤ ·) → Q (.ref h.length) (h ++ [.lst (ys.map D.int)]))
  | .listS, [.str z], h, Q => z.length ≤ 100000 ∧ Q (.ref h.length) (h ++ [.lst (z.cps.toList.map fun c => .str ⟨#[c]⟩)])
  | .listK, [.ref n], h, Q => ∃ kvs, h[n]? = some (.dK kvs) ∧ Q (.ref h.length) (h ++ [.lst (kvs.map fun kv => keyD kv.1)])
  | .sortK, [.ref n], h, Q => ∃ kvs, ∃ ks : List Str, h[n]? = some (.dK kvs) ∧ kvs.map (·.1) = ks.map Sum.inr ∧ ks.length < 64 ∧ ∀ ys : List Str, ys.Perm ks → PyProof.Rows.sortedS ys = true → Q (.ref h.length) (h ++ [.lst (ys.map D.str)])
  | .dict, [.ref n], h, Q => (∃ ds ps, h[n]? = some (.lst ds) ∧ pairsD ds = some ps ∧ Q (.ref h.length) (h ++ [.dK (mergeD [] ps)])) ∨ ∃ kvs, h[n]? = some (.dK kvs) ∧ Q (.ref h.length) (h ++ [.dK kvs])
  | _, _, _, _ => False
def wNe : Ne → D → Hh → Qd → Prop
  | .litems, .ref n, h, Q => ∃ kvs, h[n]? = some (.dK kvs) ∧ Q (.ref h.length) (h ++ [.lst (kvs.map fun kv => .tup [keyD kv.1, kv.2])])
  | .svals, .ref n, h, Q => ∃ kvs, ∃ is : List Int, h[n]? = some (.dK kvs) ∧ kvs.map (·.2) = is.map D.int ∧ (∀ j, j ≤ is.length → InLong ((is.take j).sum)) ∧ (∀ i ∈ is, InLong i) ∧ Q (.int is.sum) h
  | .lrev, .ref n, h, Q => ∃ ds, (h[n]? = some (.lst ds) ∨ h[n]? = some (.rl ds)) ∧ Q (.ref h.length) (h ++ [.lst ds.reverse])
  | .dne, .ref n, h, Q => ∃ kvs, h[n]? = some (.dK kvs) ∧ Q (.bl (!kvs.isEmpty)) h
  | _, _, _, _ => False

def wMt : Mt → D → List D → Hh → Qd → Prop
  | .append, .ref n, [d], h, Q => ∃ xs, h[n]? = some (.lst xs) ∧ xs.length < 100000 ∧ Q .non (h.set n (.lst (xs ++ [d])))
  | .extend, .ref n, [.ref b], h, Q => ∃ xs ys, h[n]? = some (.lst xs) ∧ h[b]? = some (.lst ys) ∧ xs.length + ys.length ≤ 100000 ∧ Q .non (h.set n (.lst (xs ++ ys)))
  | .extend, .ref n, [.tup ys], h, Q => ∃ xs, h[n]? = some (.lst xs) ∧ xs.length + ys.length ≤ 100000 ∧ Q .non (h.set n (.lst (xs ++ ys)))
  | .pop, .ref n, [], h, Q => ∃ xs y, h[n]? = some (.lst xs) ∧ xs[xs.length - 1]? = some y ∧ Q y (h.set n (.lst xs.dropLast))
  | .popAt, .ref n, [.int i], h, Q => ∃ xs k y, h[n]? = some (.lst xs) ∧ -100000 ≤ i ∧ i ≤ 100000 ∧ seqIndex? i xs.length = some k ∧ xs[k]? = some y ∧ Q y (h.set n (.lst (xs.eraseIdx k)))
  | .reverse, .ref n, [], h, Q => ∃ xs, h[n]? = some (.lst xs) ∧ Q .non (h.set n (.lst xs.reverse))
  | .clear, .ref n, [], h, Q => ∃ xs, h[n]? = some (.lst xs) ∧ Q .non (h.set n (.lst []))
  | .insert, .ref n, [.int i, d], h, Q => ∃ xs, h[n]? = some (.lst xs) ∧ 0 ≤ i ∧ i ≤ xs.length ∧ xs.length < 100000 ∧ Q .non (h.set n (.lst (xs.take i.toNat ++ d :: xs.drop i.toNat)))
  | .index, .ref n, [x], h, Q => ∃ xs j y, (h[n]? = some (.lst xs) ∨ h[n]? = some (.rl xs)) ∧ flat x = true ∧ xs.all flat = true ∧ xs[j]? = some y ∧ eqD y x = true ∧ (∀ (m : Nat) z, m < j → xs[m]? = some z → eqD z x = false) ∧ Q (.int (j : Nat)) h
  | .remove, .ref n, [x], h, Q => ∃ xs j y, h[n]? = some (.lst xs) ∧ flat x = true ∧ xs.all flat = true ∧ xs[j]? = some y ∧ eqD y x = true ∧ (∀ (m : Nat) z, m < j → xs[m]? = some z → eqD z x = false) ∧ Q .non (h.set n (.lst (xs.eraseIdx j)))
  | .join, .str a, [.ref n], h, Q => ∃ ss : List Str, h[n]? = some (.lst (ss.map D.str)) ∧ (ss.map (·.length)).sum + ss.length * a.length ≤ 100000 ∧ Q (.str (Txt.join a ss)) h
  | .get2, .ref n, [k, x], h, Q => ∃ kvs key, (h[n]? = some (.dK kvs) ∨ h[n]? = some (.rd kvs)) ∧ keyOf k = some key ∧ Q ((getK kvs key).getD x) h
  | .get1, .ref n, [k], h, Q => ∃ kvs key, (h[n]? = some (.dK kvs) ∨ h[n]? = some (.rd kvs)) ∧ keyOf k = some key ∧ Q ((getK kvs key).getD .non) h
  | .dpop2, .ref n, [k, x], h, Q => ∃ kvs key, h[n]? = some (.dK kvs) ∧ keyOf k = some key ∧ (∀ v, getK kvs key = some v → Q v (h.set n (.dK (dropD kvs key)))) ∧ (getK kvs key = none → Q x h)
  | .setdef, .ref n, [k, x], h, Q => ∃ kvs key, h[n]? = some (.dK kvs) ∧ keyOf k = some key ∧ kvs.length < 100000 ∧ (∀ v, getK kvs key = some v → Q v h) ∧ (getK kvs key = none → Q x (h.set n (.dK (putD kvs key x))))
  | .update, .ref n, [.ref b], h, Q => ∃ kvs more, n ≠ b ∧ h[n]? = some (.dK kvs) ∧ h[b]? = some (.dK more) ∧ kvs.length + more.length ≤ 100000 ∧ Q .non (h.set n (.dK (mergeD kvs more)))
  | _, _, _, _, _ => False

/-- what a method is asked of -/
def mtDict : Mt → Bool
  | .get2 => true | .get1 => true | .dpop2 => true | .setdef => true | .update => true | _ => false
def mtTy (m : Mt) (x : D) (h : Hh) : Prop :=
  match x with
  | .ref n => match m with
    | .get2 => ∃ kvs, h[n]? = some (.dK kvs)
    | .get1 => ∃ kvs, h[n]? = some (.dK kvs)
    | .dpop2 => ∃ kvs, h[n]? = some (.dK kvs)
    | .setdef => ∃ kvs, h[n]? = some (.dK kvs)
    | .update => ∃ kvs, h[n]? = some (.dK kvs)
    | .join => False
    | _ => ∃ ds, h[n]? = some (.lst ds)
  | .str _ => match m with
    | .join => True
    | _ => False
  | _ => False
/-- isinstance by built-in classes -/
def tyD (h : Hh) : D → Option Tn
  | .non => some .non
  | .bl _ => some .bool
  | .int _ => some .int
  | .str _ => some .str
  | .tup _ => some .tuple
  | .ref n => match h[n]? with
    | some (.lst _) => some .list
    | some (.rl _) => some .list
    | some (.dK _) => some .dict
    | _ => none
def isT : Tn → Tn → Bool
  | .non, .non => true
  | .int, .int => true
  | .bool, .bool => true
  | .bool, .int => true
  | .str, .str => true
  | .list, .list => true
  | .tuple, .tuple => true
  | .dict, .dict => true
  | _, _ => false

/-! ### expressions -/
structure Cn where
  fs : Str → List D → Hh → Qd → Xq → Prop
  gl : Str → Option D
  isf : Str → Bool
  td : Str → Option (List (Str × D)) := fun _ => none
  fl : Str → Str → Bool := fun _ _ => false
  mtk : Str → Str → Option Str := fun _ _ => none
  fh : Str → List D → Hh → Qd → Prop := fun _ _ _ _ => False
  sb : Str → Str → Bool := fun _ _ => false
  xk : Str → Option Bool := fun _ => none
/-- within an except suite -/
def Cn.hot (C : Cn) : Cn := ⟨fun f ds h Q _ => C.fh f ds h Q, C.gl, fun _ => false, C.td, C.fl, C.mtk, fun _ _ _ _ => False, C.sb, C.xk⟩

/-- what is walked: the items, and what must stand still -/
structure Src where
  items : List D
  still : List (Nat × O) := []
def Src.ok (s : Src) (h : Hh) : Prop := ∀ p ∈ s.still, h[p.1]? = some p.2

def srcL (d : D) (h : Hh) (Q : Src → Hh → Prop) : Prop :=
  match d with
  | .ref n => (∃ ds, h[n]? = some (.lst ds) ∧ Q ⟨ds, [(n, .lst ds)]⟩ h) ∨ (∃ ds, h[n]? = some (.rl ds) ∧ Q ⟨ds, [(n, .rl ds)]⟩ h)
  | _ => False
def srcT (d : D) (h : Hh) (Q : Src → Hh → Prop) : Prop :=
  match d with
  | .tup ds => Q ⟨ds, []⟩ h
  | _ => False
def srcOf (d : D) (h : Hh) (Q : Src → Hh → Prop) : Prop :=
  match d with
  | .tup ds => Q ⟨ds, []⟩ h
  | .str z => Q ⟨z.cps.toList.map fun c => D.str ⟨#[c]⟩, []⟩ h
  | .ref n => (∃ ds, h[n]? = some (.lst ds) ∧ Q ⟨ds, [(n, .lst ds)]⟩ h) ∨ (∃ ds, h[n]? = some (.rl ds) ∧ Q ⟨ds, [(n, .rl ds)]⟩ h)
  | _ => False
def srcZ (x y : D) (h : Hh) (Q : Src → Hh → Prop) : Prop :=
  (srcL x h fun s h3 => srcL y h3 fun s' h4 => Q ⟨(s.items.zip s'.items).map fun p => .tup [p.1, p.2], s.still ++ s'.still⟩ h4) ∨
  (srcT x h fun s h3 => srcT y h3 fun s' h4 => Q ⟨(s.items.zip s'.items).map fun p => .tup [p.1, p.2], []⟩ h4) ∨
  (srcT x h fun s h3 => srcL y h3 fun s' h4 => Q ⟨(s.items.zip s'.items).map fun p => .tup [p.1, p.2], s'.still⟩ h4) ∨
  (srcL x h fun s h3 => srcT y h3 fun s' h4 => Q ⟨(s.items.zip s'.items).map fun p => .tup [p.1, p.2], s.still⟩ h4)
/-- enumerate -/
def srcE (x : D) (h : Hh) (Q : Src → Hh → Prop) : Prop :=
  (srcL x h fun s h2 => Q ⟨s.items.zipIdx.map fun p => .tup [.int (p.2 : Nat), p.1], s.still⟩ h2) ∨ (srcT x h fun s h2 => Q ⟨s.items.zipIdx.map fun p => .tup [.int (p.2 : Nat), p.1], []⟩ h2)
def srcR (x : D) (h : Hh) (Q : Src → Hh → Prop) : Prop :=
  (srcL x h fun s h2 => Q ⟨s.items.reverse, s.still⟩ h2) ∨ (srcT x h fun s h2 => Q ⟨s.items.reverse, []⟩ h2)

/-- a walk over items: G holds at each turn and at the end -/
def forW (G : Hh → Prop) (turn : D → En → Hh → (En → Hh → Prop) → Prop) (done : En → Hh → Prop) : List D → En → Hh → Prop
  | [], e, h => G h ∧ done e h
  | d :: ds, e, h => G h ∧ turn d e h (fun e' h' => forW G turn done ds e' h')

def compW (G : Hh → Prop) (p : Nat) (turn : D → Hh → (Option D → Hh → Prop) → Prop) (done : Hh → Prop) : List D → Hh → Prop
  | [], h => G h ∧ done h
  | d :: ds, h => G h ∧ turn d h fun r h' => match r with
    | none => compW G p turn done ds h'
    | some y => ∃ acc, h'[p]? = some (.lst acc) ∧ acc.length < 100000 ∧ compW G p turn done ds (h'.set p (.lst (acc ++ [y])))

/-- the slots of a comprehension's own names -/
def tgsLen : Tgs → Nat
  | .nil => 0
  | .cons _ ts => tgsLen ts + 1
def wipeE (e : En) : List Nat → En
  | [] => e
  | v :: vs => (wipeE e vs).set v none

section
variable (C : Cn)
mutual
def wpE : E → Xq → En → Hh → Qd → Prop
  | .var i, X, e, h, Q => ∃ d, e[i]? = some (some d) ∧ Q d h
  | .non, X, _, h, Q => Q .non h
  | .bl b, X, _, h, Q => Q (.bl b) h
  | .int i, X, _, h, Q => Q (.int i) h
  | .str s, X, _, h, Q => Q (.str s) h
  | .glob x, X, _, h, Q => ∃ d, C.gl x = some d ∧ Q d h
  | .bin o a b, X, e, h, Q => wpE a X e h fun x h1 => wpE b X e h1 fun y h2 => wBo o x y h2 Q
  | .neg a, X, e, h, Q => wpE a X e h fun x h1 => ∃ i, x = .int i ∧ Q (.int (-i)) h1
  | .not a, X, e, h, Q => wpE a X e h fun x h1 => tru h1 x fun b => Q (.bl (!b)) h1
  | .bop k es, X, e, h, Q => wpB k es X e h Q
  | .cmp o a b, X, e, h, Q => wpE a X e h fun x h1 => wpE b X e h1 fun y h2 => wCo o x y h2 fun r => Q (.bl r) h2
  | .cmp2 o o' a b c, X, e, h, Q => wpE a X e h fun x h1 => wpE b X e h1 fun y h2 => wCo o x y h2 fun r => if r = true then wpE c X e h2 fun z h3 => wCo o' y z h3 fun r' => Q (.bl r') h3 else Q (.bl false) h2
  | .ite c a b, X, e, h, Q => wpE c X e h fun x h1 => tru h1 x fun r => if r = true then wpE a X e h1 Q else wpE b X e h1 Q
  | .tup es, X, e, h, Q => wpEs es X e h fun ds h1 => ds.length ≤ 100000 ∧ Q (.tup ds) h1
  | .lst es, X, e, h, Q => wpEs es X e h fun ds h1 => ds.length ≤ 100000 ∧ Q (.ref h1.length) (h1 ++ [.lst ds])
  | .dct kvs, X, e, h, Q => wpEs kvs X e (h ++ [.dK []]) fun ds h2 => h2[h.length]? = some (.dK []) ∧ ∃ ps, pairUp ds = some ps ∧ ps.length ≤ 15 ∧ Q (.ref h.length) (h2.set h.length (.dK (mergeD [] ps)))
  | .tab x i, X, e, h, Q => ∃ kvs, C.td x = some kvs ∧ wpE i X e h fun y h1 => ∃ z v, y = .str z ∧ kvs.lookup z = some v ∧ Q v h1
  | .tabG x i d, X, e, h, Q => ∃ kvs, C.td x = some kvs ∧ wpE i X e h fun y h1 => wpE d X e h1 fun u h2 => ∃ z, y = .str z ∧ Q ((kvs.lookup z).getD u) h2
  | .tabIn neg x i, X, e, h, Q => ∃ kvs, C.td x = some kvs ∧ wpE i X e h fun y h1 => ∃ z, y = .str z ∧ Q (.bl (if neg = true then !(kvs.lookup z).isSome else (kvs.lookup z).isSome)) h1
  | .idx a i, X, e, h, Q => wpE a X e h fun x h1 => wpE i X e h1 fun y h2 => wIdx x y h2 Q
  | .sli a lo hi, X, e, h, Q => wpE a X e h fun x h1 => wpO lo X e h1 fun l h2 => wpO hi X e h2 fun u h3 => wSli x l u h3 Q
  | .rev a, X, e, h, Q => wpE a X e h fun x h1 => wRev x h1 Q
  | .call f es, X, e, h, Q => C.isf f = true ∧ wpEs es X e h fun ds h1 => C.fs f ds h1 Q X
  | .bi b es, X, e, h, Q => wpEs es X e h fun ds h1 => wBi b ds h1 Q
  | .rng k a b, X, e, h, Q => wpE a X e h fun x h1 => wpE b X e h1 fun y h2 => ∃ i j, x = .int i ∧ y = .int j ∧ (-1000000 ≤ i ∧ i ≤ 1000000 ∧ -1000000 ≤ j ∧ j ≤ 1000000) ∧
      if k = true then Q (.tup ((List.range (j - i).toNat).map fun n : Nat => D.int (i + n))) h2 else Q (.ref h2.length) (h2 ++ [.lst ((List.range (j - i).toNat).map fun n : Nat => D.int (i + n))])
  | .mt m o es, X, e, h, Q => wpE o X e h fun x h1 => mtTy m x h1 ∧ wpEs es X e h1 fun ds h2 => wMt m x ds h2 Q
  | .isi a ts, X, e, h, Q => wpE a X e h fun x h1 => ∃ t, tyD h1 x = some t ∧ Q (.bl (ts.any (isT t))) h1
  | .comp elt t it c own, X, e, h, Q => wpI it X e h fun s h1 =>
      compW s.ok h1.length (fun d h2 k => wpG t (fun _ _ _ => False) d (wipeE e (own.map (·.2))) h2 fun e3 h3 => wpC c (fun _ _ _ => False) e3 h3 fun r h4 => if r = true then wpE elt (fun _ _ _ => False) e3 h4 fun y h5 => k (some y) h5 else k none h4) (Q (.ref h1.length)) s.items (h1 ++ [.lst []])
  | .fld o f, X, e, h, Q => wpE o X e h fun x h1 => ∃ n c fs v, x = .ref n ∧ h1[n]? = some (.ins c fs) ∧ C.fl c f = true ∧ fs.lookup f = some v ∧ Q v h1
  | .meth o m es, X, e, h, Q => wpE o X e h fun x h1 => ∃ n c fs g, x = .ref n ∧ h1[n]? = some (.ins c fs) ∧ C.mtk c m = some g ∧ fs.lookup m = none ∧ wpEs es X e h1 fun ds h2 => C.fs g (x :: ds) h2 Q X
  | .make c es, X, e, h, Q => ∃ g, C.mtk c "__init__" = some g ∧ wpEs es X e h fun ds h1 => C.fs g (.ref h1.length :: ds) (h1 ++ [.ins c []]) (fun r h2 => r = .non ∧ Q (.ref h1.length) h2) X
  | .prom a, X, e, h, Q => wpE a X e h Q
  | .nest n a, X, e, h, Q => wpE a X e h fun x h1 => wNe n x h1 Q
  | .isx a cs, X, e, h, Q => wpE a X e h fun x h1 => ∃ n c p, x = .ref n ∧ h1[n]? = some (.exc c p) ∧ (C.xk c).isSome = true ∧ cs.all (fun y => (C.xk y).isSome || y == "ValueError") = true ∧ Q (.bl (cs.any (C.sb c))) h1
  | .xfld a, X, e, h, Q => wpE a X e h fun x h1 => ∃ n c v, x = .ref n ∧ h1[n]? = some (.exc c (some v)) ∧ (C.xk c).isSome = true ∧ Q v h1
def wpB : Bool → Es → Xq → En → Hh → Qd → Prop
  | _, .nil, X, _, _, _ => False
  | _, .cons a .nil, X, e, h, Q => wpE a X e h Q
  | k, .cons a (.cons b r), X, e, h, Q => wpE a X e h fun x h1 => tru h1 x fun t => if t = k then wpB k (.cons b r) X e h1 Q else Q x h1
def wpEs : Es → Xq → En → Hh → (List D → Hh → Prop) → Prop
  | .nil, X, _, h, Q => Q [] h
  | .cons a r, X, e, h, Q => wpE a X e h fun x h1 => wpEs r X e h1 fun xs h2 => Q (x :: xs) h2
def wpO : Oe → Xq → En → Hh → (Option Int → Hh → Prop) → Prop
  | .none, X, _, h, Q => Q none h
  | .some a, X, e, h, Q => wpE a X e h fun x h1 => ∃ i, x = .int i ∧ Q (some i) h1
def wpC : Oe → Xq → En → Hh → (Bool → Hh → Prop) → Prop
  | .none, X, _, h, Q => Q true h
  | .some a, X, e, h, Q => wpE a X e h fun x h1 => tru h1 x fun r => Q r h1
def wpI : Iv → Xq → En → Hh → (Src → Hh → Prop) → Prop
  | .seq a, X, e, h, Q => wpE a X e h fun x h1 => srcOf x h1 Q
  | .rng1 a, X, e, h, Q => wpE a X e h fun x h1 => ∃ j, x = .int j ∧ -1000000 ≤ j ∧ j ≤ 1000000 ∧ Q ⟨(List.range j.toNat).map fun i : Nat => D.int i, []⟩ h1
  | .rng2 a b, X, e, h, Q => wpE a X e h fun x h1 => wpE b X e h1 fun y h2 => ∃ i j, x = .int i ∧ y = .int j ∧ (-1000000 ≤ i ∧ i ≤ 1000000 ∧ -1000000 ≤ j ∧ j ≤ 1000000) ∧ Q ⟨(List.range (j - i).toNat).map fun k : Nat => D.int (i + k), []⟩ h2
  | .enu a, X, e, h, Q => wpE a X e h fun x h1 => srcE x h1 Q
  | .zip a b, X, e, h, Q => wpE a X e h fun x h1 => wpE b X e h1 fun y h2 => srcZ x y h2 Q
  | .rvs a, X, e, h, Q => wpE a X e h fun x h1 => srcR x h1 Q
  | .rngd a b, X, e, h, Q => wpE a X e h fun x h1 => wpE b X e h1 fun y h2 => ∃ i j, x = .int i ∧ y = .int j ∧ (-1000000 ≤ i ∧ i ≤ 1000000 ∧ -1000000 ≤ j ∧ j ≤ 1000000) ∧ Q ⟨(List.range (i - j).toNat).map fun k : Nat => D.int (i - k), []⟩ h2
  | .keys i, X, e, h, Q => ∃ n kvs, e[i]? = some (some (.ref n)) ∧ h[n]? = some (.dK kvs) ∧ False
def wpG : Tg → Xq → D → En → Hh → (En → Hh → Prop) → Prop
  | .nm i, X, d, e, h, Q => Q (e.set i (some d)) h
  | .tp ts, X, d, e, h, Q => ∃ ds, elems h d = some ds ∧ ds.length = tgsLen ts ∧ wpGs ts X ds e h Q
  | .sub o i, X, d, e, h, Q => wpE o X e h fun x h1 => wpE i X e h1 fun y h2 => ∃ n, x = .ref n ∧
      ((∃ xs k j, h2[n]? = some (.lst xs) ∧ y = .int k ∧ ixN xs.length k = some j ∧ Q e (h2.set n (.lst (xs.set j d)))) ∨
       ∃ kvs k, h2[n]? = some (.dK kvs) ∧ keyOf y = some k ∧ kvs.length < 100000 ∧ Q e (h2.set n (.dK (putD kvs k d))))
def wpGs : Tgs → Xq → List D → En → Hh → (En → Hh → Prop) → Prop
  | .nil, X, ds, e, h, Q => ds = [] ∧ Q e h
  | .cons t ts, X, ds, e, h, Q => ∃ d r, ds = d :: r ∧ wpG t X d e h fun e1 h1 => wpGs ts X r e1 h1 Q
end
end

/-- a test -/
def wpT (C : Cn) (X : Xq) (a : E) (e : En) (h : Hh) (Q : Bool → Hh → Prop) : Prop := wpE C a X e h fun x h1 => tru h1 x fun b => Q b h1

/-! ### statements -/
structure Po where
  nx : En → Hh → Prop
  rt : Qd
  bk : En → Hh → Prop := fun _ _ => False
  ct : En → Hh → Prop := fun _ _ => False
  ex : En → Xq := fun _ _ _ _ => False
/-- the name of an except clause goes -/
def Po.unset (P : Po) (i : Nat) : Po := ⟨fun e h => P.nx (e.set i none) h, P.rt, fun e h => P.bk (e.set i none) h, fun e h => P.ct (e.set i none) h, fun _ _ _ _ => False⟩
/-- a suite -/
def wpTh (C : Cn) : List Th → En → Hh → Po → Prop
  | [], e, h, P => P.nx e h
  | .asg j a :: r, e, h, P => wpE C a (fun _ _ _ => False) e h fun x h1 => wpTh C r (e.set j (some x)) h1 P
  | .ret a :: _, e, h, P => wpE C a (fun _ _ _ => False) e h P.rt
  | .retn :: _, e, h, P => P.rt .non h
  | .expr a :: r, e, h, P => wpE C a (fun _ _ _ => False) e h fun _ h1 => wpTh C r e h1 P
/-- the clauses, one after the other -/
def wpHs (C : Cn) (P : Po) (c : Str) (p : Option D) (e : En) (h : Hh) : List (Str × List Th) → Prop
  | [] => P.ex e c p h
  | (c0, su) :: r => (C.xk c).isSome = true ∧ if C.sb c c0 = true then wpTh C.hot su e h { P with ex := fun _ _ _ _ => False } else wpHs C P c p e h r

section
variable (C : Cn)
mutual
def wpS : S → En → Hh → Po → Prop
  | .asg t a, e, h, P => wpE C a (P.ex e) e h fun x h1 => wpG C t (fun _ _ _ => False) x e h1 P.nx
  | .setc i elt t it c own, e, h, P => wpE C (.comp elt t it c own) (P.ex e) e h fun x h1 => P.nx (e.set i (some x)) h1
  | .par i j a b, e, h, P => wpE C a (P.ex e) e h fun x h1 => wpE C b (P.ex e) e h1 fun y h2 => P.nx ((e.set i (some x)).set j (some y)) h2
  | .par3 i j l a b c, e, h, P => wpE C a (P.ex e) e h fun x h1 => wpE C b (P.ex e) e h1 fun y h2 => wpE C c (P.ex e) e h2 fun z h3 => P.nx (((e.set i (some x)).set j (some y)).set l (some z)) h3
  | .aug i o a, e, h, P => ∃ x, e[i]? = some (some x) ∧ wpE C a (P.ex e) e h fun y h1 => wAug o x y h1 fun z h2 => P.nx (e.set i (some z)) h2
  | .expr a, e, h, P => wpE C a (P.ex e) e h fun _ h1 => P.nx e h1
  | .ret a, e, h, P => wpE C a (P.ex e) e h P.rt
  | .ite c a b, e, h, P => wpT C (P.ex e) c e h fun r h1 => if r = true then wpSs a e h1 P else wpSs b e h1 P
  | .loop c b, e, h, P => ∃ W : Nat → En → Hh → Prop, (∃ m, W m e h) ∧ ∀ m e h, W m e h → wpT C (P.ex e) c e h fun r h1 =>
      if r = true then wpSs b e h1 { P with nx := fun e' h' => ∃ m', m' < m ∧ W m' e' h', ct := fun e' h' => ∃ m', m' < m ∧ W m' e' h', bk := P.nx } else P.nx e h1
  | .each t it b, e, h, P => wpI C it (P.ex e) e h fun s h1 => forW s.ok (fun d e2 h2 k => wpG C t (fun _ _ _ => False) d e2 h2 fun e3 h3 => wpSs b e3 h3 { P with nx := k, ct := k, bk := P.nx }) P.nx s.items e h1
  | .eachK t i b, e, h, P => False
  | .brk, e, h, P => P.bk e h
  | .cont, e, h, P => P.ct e h
  | .pass, e, h, P => P.nx e h
  | .setf o f a, e, h, P => wpE C a (P.ex e) e h fun d h1 => wpE C o (P.ex e) e h1 fun x h2 => ∃ n c fs, x = .ref n ∧ h2[n]? = some (.ins c fs) ∧ C.fl c f = true ∧ fs.length < 1000 ∧ P.nx e (h2.set n (.ins c (putFD f d fs)))
  | .augf o f op a, e, h, P => wpE C o (P.ex e) e h fun x h1 => ∃ n c fs v, x = .ref n ∧ h1[n]? = some (.ins c fs) ∧ C.fl c f = true ∧ fs.lookup f = some v ∧
      wpE C a (P.ex e) e h1 fun y h2 => wAug op v y h2 fun z h3 => ∃ fs', h3[n]? = some (.ins c fs') ∧ fs'.length < 1000 ∧ P.nx e (h3.set n (.ins c (putFD f z fs')))
  | .retn, e, h, P => P.rt .non h
  | .rais, e, h, P => False
  | .tri b, e, h, P => False
  | .rais0 c, e, h, P => C.xk c = some false ∧ P.ex e c none h
  | .raisR c a, e, h, P => C.xk c = some true ∧ wpE C a (P.ex e) e h fun v h1 => P.ex e c (some v) h1
  | .tryA b c0 i su, e, h, P => (C.xk c0).isSome = true ∧ wpSs b e h { P with ex := fun e' c p h' => (C.xk c).isSome = true ∧ if C.sb c c0 = true then wpTh C.hot su (e'.set i (some (.ref h'.length))) (h' ++ [.exc c p]) (P.unset i) else P.ex e' c p h' }
  | .tryM b hs, e, h, P => (hs.all fun x => (C.xk x.1).isSome) = true ∧ wpSs b e h { P with ex := fun e' c p h' => wpHs C P c p e' h' hs }
  | .augs o i op a, e, h, P => wpE C o (P.ex e) e h fun x h1 => wpE C i (P.ex e) e h1 fun y h2 => ∃ n xs k v, x = .ref n ∧ h2[n]? = some (.lst xs) ∧ y = .int k ∧ 0 ≤ k ∧ atI xs k = some v ∧
      wpE C a (P.ex e) e h2 fun z h3 => wAug op v z h3 fun r h4 => ∃ ys j, h4[n]? = some (.lst ys) ∧ ixN ys.length k = some j ∧ P.nx e (h4.set n (.lst (ys.set j r)))
def wpSs : Ss → En → Hh → Po → Prop
  | .nil, e, h, P => P.nx e h
  | .cons s r, e, h, P => wpS s e h { P with nx := fun e1 h1 => wpSs r e1 h1 P }
end
end

/-! ### a table of defs -/
structure Fn where
  ps : List Str
  ns : List Str
  body : Ss
structure Tb where
  fns : List (Str × Fn)
  gls : List (Str × D)
  tds : List (Str × List (Str × D)) := []
  mts : List (Str × Fn) := []
  cls : List (Str × List (Str × Str) × List Str) := []
  exs : List (Str × Bool × List Str) := []
def Tb.fn (T : Tb) (f : Str) : Option Fn := T.fns.lookup f
/-- defs and methods -/
def Tb.df (T : Tb) (f : Str) : Option Fn := match T.fns.lookup f with
  | some F => some F
  | none => T.mts.lookup f
theorem Tb.fn_df {T : Tb} {f : Str} {F : Fn} (h : T.fn f = some F) : T.df f = some F := by
  unfold Tb.df
  rw [show T.fns.lookup f = some F from h]
def Tb.fl (T : Tb) (c f : Str) : Bool := match T.cls.lookup c with
  | some p => p.2.contains f
  | none => false
def Tb.mtk (T : Tb) (c m : Str) : Option Str := match T.cls.lookup c with
  | some p => p.1.lookup m
  | none => none

def Tb.sb (T : Tb) (c d : Str) : Bool := match T.exs.lookup c with
  | some p => p.2.contains d
  | none => false
def Tb.xk (T : Tb) (c : Str) : Option Bool := (T.exs.lookup c).map (·.1)
mutual
/-- what an except suite may hold (g: str too) -/
def tameE (g : Bool) : E → Bool
  | .var _ => true | .non => true | .bl _ => true | .int _ => true | .str _ => true | .glob _ => true
  | .bin .add a b => tameE g a && tameE g b
  | .neg a => tameE g a
  | .not a => tameE g a
  | .bop _ es => tameEs g es
  | .ite c a b => tameE g c && tameE g a && tameE g b
  | .tup es => tameEs g es
  | .idx a b => tameE g a && tameE g b
  | .fld a _ => tameE g a
  | .isx a _ => tameE g a
  | .xfld a => tameE g a
  | .bi .str (.cons a .nil) => g && tameE g a
  | _ => false
def tameEs (g : Bool) : Es → Bool
  | .nil => true
  | .cons a r => tameE g a && tameEs g r
end
/-- a def that may be called there: self.f = e -/
def tameF : Ss → Bool
  | .cons (.setf o _ a) .nil => tameE false o && tameE false a
  | _ => false
/-- the key of an __init__ -/
def isIni (f : Str) : Bool := (f.cps.toList.drop (f.cps.toList.length - 9)) == [46, 95, 95, 105, 110, 105, 116, 95, 95]
abbrev Fsp := Str → List D → Hh → Qd → Xq → Prop
def cn0 (T : Tb) : Cn := ⟨fun _ _ _ _ _ => False, fun x => T.gls.lookup x, fun _ => false, fun x => T.tds.lookup x, T.fl, fun _ _ => none, fun _ _ _ _ => False, T.sb, T.xk⟩
def fsH (T : Tb) : Str → List D → Hh → Qd → Prop := fun f ds h Q => ∃ F, T.df f = some F ∧ ds.length = F.ps.length ∧ tameF F.body = true ∧
      wpSs (cn0 T) F.body (ds.map some ++ List.replicate (F.ns.length - ds.length) none) h { nx := fun _ h' => Q .non h', rt := Q }
def fsB (T : Tb) (fs : Fsp) : Fsp := fun f ds h Q X => ∃ F, T.df f = some F ∧ ds.length = F.ps.length ∧
      wpSs ⟨fs, fun x => T.gls.lookup x, fun x => (T.fn x).isSome, fun x => T.tds.lookup x, T.fl, T.mtk, fsH T, T.sb, T.xk⟩ F.body (ds.map some ++ List.replicate (F.ns.length - ds.length) none) h { nx := fun _ h' => Q .non h', rt := Q, ex := fun _ => X }
/-- a call; an __init__ takes two levels -/
def FS (T : Tb) : Nat → Fsp
  | 0 => fun _ _ _ _ _ => False
  | 1 => fun f ds h Q X => isIni f = false ∧ fsB T (FS T 0) f ds h Q X
  | k + 2 => fun f ds h Q X => if isIni f = true then fsB T (FS T k) f ds h Q X else fsB T (FS T (k + 1)) f ds h Q X
theorem FS_norm {T : Tb} {k : Nat} {f : Str} {ds : List D} {h : Hh} {Q : Qd} {X : Xq} (hi : isIni f = false) : FS T (k + 1) f ds h Q X ↔ fsB T (FS T k) f ds h Q X := by
  cases k with
  | zero => exact ⟨fun w => w.2, fun w => ⟨hi, w⟩⟩
  | succ k =>
    show (if isIni f = true then _ else _) ↔ _
    rw [if_neg (by rw [hi]; exact Bool.false_ne_true)]
theorem FS_ini {T : Tb} {k : Nat} {f : Str} {ds : List D} {h : Hh} {Q : Qd} {X : Xq} (hi : isIni f = true) : FS T (k + 2) f ds h Q X ↔ fsB T (FS T k) f ds h Q X := by
  show (if isIni f = true then _ else _) ↔ _
  rw [if_pos hi]
theorem FS_one {T : Tb} {f : Str} {ds : List D} {h : Hh} {Q : Qd} {X : Xq} (hi : isIni f = true) : ¬ FS T 1 f ds h Q X := fun w => by have := w.1; rw [hi] at this; cases this
theorem FS_df {T : Tb} : ∀ {k : Nat} {f : Str} {ds : List D} {h : Hh} {Q : Qd} {X : Xq}, FS T k f ds h Q X → ∃ F, T.df f = some F ∧ ds.length = F.ps.length
  | 0, _, _, _, _, _, w => w.elim
  | 1, _, _, _, _, _, w => by obtain ⟨F, a, b, _⟩ := w.2; exact ⟨F, a, b⟩
  | k + 2, f, ds, h, Q, X, w => by
    have w : if isIni f = true then fsB T (FS T k) f ds h Q X else fsB T (FS T (k + 1)) f ds h Q X := w
    split at w <;> (obtain ⟨F, a, b, _⟩ := w; exact ⟨F, a, b⟩)
end Bp

namespace Bp
open PySem L2 PySem.Spec PyProof.Rows

mutual
inductive R (K : PySem.W.Frag) (H : Hp) (m : List Addr) : V → D → Prop
  | non : R K H m .non .non
  | bl (b : Bool) : R K H m (.bl b) (.bl b)
  | int (i : Int) : R K H m (.int i) (.int i)
  | str (s : Str) : R K H m (.str s) (.str s)
  | tup {a : Addr} {vs : List V} {ds : List D} : SqT K H a vs → Rs K H m vs ds → R K H m (.ref a) (.tup ds)
  | ref {a : Addr} {n : Nat} : m[n]? = some a → R K H m (.ref a) (.ref n)
inductive Rs (K : PySem.W.Frag) (H : Hp) (m : List Addr) : List V → List D → Prop
  | nil : Rs K H m [] []
  | cons {v : V} {d : D} {vs : List V} {ds : List D} : R K H m v d → Rs K H m vs ds → Rs K H m (v :: vs) (d :: ds)
end

structure Ext0 (K : PySem.W.Frag) (H : Hp) (m : List Addr) (H' : Hp) (m' : List Addr) : Prop where
  pre : ∀ (n : Nat) (a : Addr), m[n]? = some a → m'[n]? = some a
  tup : ∀ a vs, SqT K H a vs → SqT K H' a vs
structure Ext (K : PySem.W.Frag) (H : Hp) (m : List Addr) (H' : Hp) (m' : List Addr) : Prop extends Ext0 K H m H' m' where
  frz : ∀ a o u, H a = some (.frz o u) → H' a = some (.frz o u)
  xds : ∀ a fs, H a = some (.xd fs) → H' a = some (.xd fs)
section
variable {K : PySem.W.Frag} {H H' H2 : Hp} {m m' m2 : List Addr} {h h' : Hh}
theorem Ext.refl : Ext K H m H m := ⟨⟨fun _ _ e => e, fun _ _ e => e⟩, fun _ _ _ e => e, fun _ _ e => e⟩
theorem Ext.trans (a : Ext K H m H' m') (b : Ext K H' m' H2 m2) : Ext K H m H2 m2 := ⟨⟨fun n x e => b.pre n x (a.pre n x e), fun x vs e => b.tup x vs (a.tup x vs e)⟩, fun x o u e => b.frz x o u (a.frz x o u e), fun x fs e => b.xds x fs (a.xds x fs e)⟩
theorem Ext0.trans (a : Ext0 K H m H' m') (b : Ext0 K H' m' H2 m2) : Ext0 K H m H2 m2 := ⟨fun n x e => b.pre n x (a.pre n x e), fun x vs e => b.tup x vs (a.tup x vs e)⟩
mutual
theorem R.mono0 (x : Ext0 K H m H' m') : ∀ {v : V} {d : D}, R K H m v d → R K H' m' v d
  | _, _, .non => .non
  | _, _, .bl b => .bl b
  | _, _, .int i => .int i
  | _, _, .str s => .str s
  | _, _, .tup t r => .tup (x.tup _ _ t) (Rs.mono0 x r)
  | _, _, .ref e => .ref (x.pre _ _ e)
theorem Rs.mono0 (x : Ext0 K H m H' m') : ∀ {vs : List V} {ds : List D}, Rs K H m vs ds → Rs K H' m' vs ds
  | _, _, .nil => .nil
  | _, _, .cons r t => .cons (R.mono0 x r) (Rs.mono0 x t)
end
theorem R.mono (x : Ext K H m H' m') {v : V} {d : D} (r : R K H m v d) : R K H' m' v d := r.mono0 x.toExt0
theorem Rs.mono (x : Ext K H m H' m') {vs : List V} {ds : List D} (r : Rs K H m vs ds) : Rs K H' m' vs ds := r.mono0 x.toExt0

/-! ### lists of related values -/
theorem Rs.len : ∀ {vs : List V} {ds : List D}, Rs K H m vs ds → vs.length = ds.length
  | _, _, .nil => rfl
  | _, _, .cons _ t => by rw [List.length_cons, List.length_cons, t.len]
theorem Rs.get : ∀ {vs : List V} {ds : List D} {i : Nat} {d : D}, Rs K H m vs ds → ds[i]? = some d → ∃ v, vs[i]? = some v ∧ R K H m v d
  | _, _, _, _, .nil, e => by simp at e
  | _, _, 0, _, .cons r _, e => by simp at e; subst e; exact ⟨_, rfl, r⟩
  | _, _, i + 1, d, .cons _ t, e => by
    obtain ⟨v, h1, h2⟩ := Rs.get (i := i) (d := d) t (by simpa using e)
    exact ⟨v, by simpa using h1, h2⟩
theorem Rs.get2 : ∀ {vs : List V} {ds : List D} {i : Nat} {v : V}, Rs K H m vs ds → vs[i]? = some v → ∃ d, ds[i]? = some d ∧ R K H m v d
  | _, _, _, _, .nil, e => by simp at e
  | _, _, 0, _, .cons r _, e => by simp at e; subst e; exact ⟨_, rfl, r⟩
  | _, _, i + 1, d, .cons _ t, e => by
    obtain ⟨v, h1, h2⟩ := Rs.get2 (i := i) (v := d) t (by simpa using e)
    exact ⟨v, by simpa using h1, h2⟩
theorem Rs.append : ∀ {vs ws : List V} {ds es : List D}, Rs K H m vs ds → Rs K H m ws es → Rs K H m (vs ++ ws) (ds ++ es)
  | _, _, _, _, .nil, s => s
  | _, _, _, _, .cons r t, s => .cons r (Rs.append t s)
theorem Rs.one {v : V} {d : D} (r : R K H m v d) : Rs K H m [v] [d] := .cons r .nil
theorem Rs.take : ∀ {vs : List V} {ds : List D} (n : Nat), Rs K H m vs ds → Rs K H m (vs.take n) (ds.take n)
  | _, _, 0, _ => .nil
  | _, _, _ + 1, .nil => .nil
  | _, _, n + 1, .cons r t => .cons r (Rs.take n t)
theorem Rs.drop : ∀ {vs : List V} {ds : List D} (n : Nat), Rs K H m vs ds → Rs K H m (vs.drop n) (ds.drop n)
  | _, _, 0, r => r
  | _, _, _ + 1, .nil => .nil
  | _, _, n + 1, .cons _ t => Rs.drop n t
theorem Rs.set {v : V} {d : D} (r : R K H m v d) : ∀ {vs : List V} {ds : List D} (i : Nat), Rs K H m vs ds → Rs K H m (vs.set i v) (ds.set i d)
  | _, _, _, .nil => .nil
  | _, _, 0, .cons _ t => .cons r t
  | _, _, i + 1, .cons q t => .cons q (Rs.set r i t)
theorem Rs.reverse : ∀ {vs : List V} {ds : List D}, Rs K H m vs ds → Rs K H m vs.reverse ds.reverse
  | _, _, .nil => .nil
  | _, _, .cons r t => by
    rw [List.reverse_cons, List.reverse_cons]
    exact (Rs.reverse t).append (.one r)
theorem Rs.rep {vs : List V} {ds : List D} (r : Rs K H m vs ds) : ∀ k : Nat, Rs K H m (List.replicate k vs).flatten (List.replicate k ds).flatten
  | 0 => .nil
  | k + 1 => by
    rw [List.replicate_succ, List.replicate_succ, List.flatten_cons, List.flatten_cons]
    exact r.append (Rs.rep r k)
theorem Rs.erase : ∀ {vs : List V} {ds : List D} (i : Nat), Rs K H m vs ds → Rs K H m (vs.eraseIdx i) (ds.eraseIdx i)
  | _, _, _, .nil => .nil
  | _, _, 0, .cons _ t => t
  | _, _, i + 1, .cons r t => .cons r (Rs.erase i t)
theorem Rs.dropLast {vs : List V} {ds : List D} (r : Rs K H m vs ds) : Rs K H m vs.dropLast ds.dropLast := by
  rw [List.dropLast_eq_take, List.dropLast_eq_take, r.len]
  exact r.take _
theorem Rs.cut {vs : List V} {ds : List D} (r : Rs K H m vs ds) (lo hi : Option Int) : Rs K H m (cutV vs lo hi) (cutD ds lo hi) := by
  unfold cutV cutD
  rw [r.len]
  exact (r.drop _).take _
theorem Rs.at {vs : List V} {ds : List D} (r : Rs K H m vs ds) {i : Int} {d : D} (e : atI ds i = some d) : ∃ v, atI vs i = some v ∧ R K H m v d := by
  unfold atI at e ⊢
  rw [r.len]
  cases hx : ixN ds.length i with
  | none => rw [hx] at e; cases e
  | some j =>
    rw [hx] at e
    exact r.get e
theorem Rs.ints : ∀ (ns : List Int), Rs K H m (ns.map V.int) (ns.map D.int)
  | [] => .nil
  | n :: r => .cons (.int n) (Rs.ints r)
theorem Rs.ints_of : ∀ {ns : List Int} {vs : List V}, Rs K H m vs (ns.map D.int) → vs = ns.map V.int
  | [], _, .nil => rfl
  | n :: r, _, .cons q t => by
    cases q
    rw [List.map_cons, Rs.ints_of t]
theorem Rs.strs : ∀ (ns : List Str), Rs K H m (ns.map V.str) (ns.map D.str)
  | [] => .nil
  | n :: r => .cons (.str n) (Rs.strs r)
theorem Rs.strs_of : ∀ {ns : List Str} {vs : List V}, Rs K H m vs (ns.map D.str) → vs = ns.map V.str
  | [], _, .nil => rfl
  | n :: r, _, .cons q t => by
    cases q
    rw [List.map_cons, Rs.strs_of t]
theorem Rs.bls_of : ∀ {ns : List Bool} {vs : List V}, Rs K H m vs (ns.map D.bl) → vs = ns.map V.bl
  | [], _, .nil => rfl
  | n :: r, _, .cons q t => by
    cases q
    rw [List.map_cons, Rs.bls_of t]
theorem Rs.nats (f : Nat → Int) : ∀ (l : List Nat), Rs K H m (l.map fun i => V.int (f i)) (l.map fun i => D.int (f i))
  | [] => .nil
  | n :: r => .cons (.int _) (Rs.nats f r)
theorem Rs.nil_iff {vs : List V} {ds : List D} (r : Rs K H m vs ds) : vs.isEmpty = ds.isEmpty := by
  cases r <;> rfl
theorem Rs.inv1 {vs : List V} {d : D} (r : Rs K H m vs [d]) : ∃ v, vs = [v] ∧ R K H m v d := by
  cases r with
  | cons r t => cases t; exact ⟨_, rfl, r⟩
theorem Rs.inv2 {vs : List V} {d e : D} (r : Rs K H m vs [d, e]) : ∃ v w, vs = [v, w] ∧ R K H m v d ∧ R K H m w e := by
  cases r with
  | cons r t =>
    obtain ⟨w, rfl, q⟩ := t.inv1
    exact ⟨_, w, rfl, r, q⟩
theorem Rs.inv0 {vs : List V} (r : Rs K H m vs []) : vs = [] := by cases r; rfl

/-! ### dicts and fields -/
inductive Rk {κ : Type} (K : PySem.W.Frag) (H : Hp) (m : List Addr) : List (κ × V) → List (κ × D) → Prop
  | nil : Rk K H m [] []
  | cons {k : κ} {v : V} {d : D} {vs : List (κ × V)} {ds : List (κ × D)} : R K H m v d → Rk K H m vs ds → Rk K H m ((k, v) :: vs) ((k, d) :: ds)
theorem Rk.mono0 {κ : Type} (x : Ext0 K H m H' m') : ∀ {vs : List (κ × V)} {ds : List (κ × D)}, Rk K H m vs ds → Rk K H' m' vs ds
  | _, _, .nil => .nil
  | _, _, .cons r t => .cons (r.mono0 x) (Rk.mono0 x t)
theorem Rk.mono {κ : Type} (x : Ext K H m H' m') {vs : List (κ × V)} {ds : List (κ × D)} (r : Rk K H m vs ds) : Rk K H' m' vs ds := r.mono0 x.toExt0
theorem Rk.len {κ : Type} : ∀ {vs : List (κ × V)} {ds : List (κ × D)}, Rk K H m vs ds → vs.length = ds.length
  | _, _, .nil => rfl
  | _, _, .cons _ t => by rw [List.length_cons, List.length_cons, t.len]
inductive Ro (K : PySem.W.Frag) (H : Hp) (m : List Addr) : Option V → Option D → Prop
  | none : Ro K H m none none
  | some {v : V} {d : D} : R K H m v d → Ro K H m (some v) (some d)
theorem Ro.getD {v : Option V} {d : Option D} {x : V} {y : D} (r : Ro K H m v d) (q : R K H m x y) : R K H m (v.getD x) (d.getD y) := by
  cases r
  · exact q
  · assumption
theorem Ro.isSome {v : Option V} {d : Option D} (r : Ro K H m v d) : v.isSome = d.isSome := by cases r <;> rfl
theorem Rk.val {κ : Type} [DecidableEq κ] (k : κ) : ∀ {vs : List (κ × V)} {ds : List (κ × D)}, Rk K H m vs ds → Ro K H m (valV vs k) (getK ds k)
  | _, _, .nil => .none
  | _, _, .cons (k := k0) r t => by
    unfold valV getK
    rw [List.find?_cons, List.find?_cons]
    by_cases e : k0 = k
    · simp only [e, decide_true]
      exact .some r
    · simp only [e, decide_false]
      exact Rk.val k t
theorem Rk.any {κ : Type} [DecidableEq κ] (k : κ) : ∀ {vs : List (κ × V)} {ds : List (κ × D)}, Rk K H m vs ds → (vs.any fun kv => decide (kv.1 = k)) = ds.any fun kv => decide (kv.1 = k)
  | _, _, .nil => rfl
  | _, _, .cons r t => by rw [List.any_cons, List.any_cons, Rk.any k t]
theorem Rk.repl {κ : Type} [DecidableEq κ] (k : κ) {v : V} {d : D} (q : R K H m v d) : ∀ {vs : List (κ × V)} {ds : List (κ × D)}, Rk K H m vs ds → Rk K H m (vs.map fun kv => if kv.1 = k then (kv.1, v) else kv) (ds.map fun kv => if kv.1 = k then (kv.1, d) else kv)
  | _, _, .nil => .nil
  | _, _, .cons (k := k0) r t => by
    rw [List.map_cons, List.map_cons]
    by_cases e : k0 = k
    · rw [if_pos e, if_pos e]
      exact .cons q (Rk.repl k q t)
    · rw [if_neg e, if_neg e]
      exact .cons r (Rk.repl k q t)
theorem Rk.append {κ : Type} : ∀ {vs ws : List (κ × V)} {ds es : List (κ × D)}, Rk K H m vs ds → Rk K H m ws es → Rk K H m (vs ++ ws) (ds ++ es)
  | _, _, _, _, .nil, s => s
  | _, _, _, _, .cons r t, s => .cons r (Rk.append t s)
theorem Rk.put {κ : Type} [DecidableEq κ] (k : κ) {v : V} {d : D} (q : R K H m v d) {vs : List (κ × V)} {ds : List (κ × D)} (r : Rk K H m vs ds) : Rk K H m (putK vs k v) (putD ds k d) := by
  unfold putK putD
  rw [r.any k]
  split
  · exact r.repl k q
  · exact r.append (.cons q .nil)

theorem Ro.inv {o : Option V} {d : D} (r : Ro K H m o (Option.some d)) : ∃ v, o = Option.some v ∧ R K H m v d := by
  cases r with
  | some r => exact ⟨_, rfl, r⟩
theorem Ro.invN {o : Option V} (r : Ro K H m o Option.none) : o = Option.none := by cases r; rfl
theorem Rk.look {f : Str} : ∀ {vs : List (Str × V)} {ds : List (Str × D)}, Rk K H m vs ds → Ro K H m (vs.lookup f) (ds.lookup f)
  | _, _, .nil => .none
  | _, _, .cons (k := k0) r t => by
    rw [List.lookup_cons, List.lookup_cons]
    cases hb : f == k0 with
    | true => exact .some r
    | false => exact Rk.look t
theorem Rk.putF (f : Str) {v : V} {d : D} (q : R K H m v d) : ∀ {vs : List (Str × V)} {ds : List (Str × D)}, Rk K H m vs ds → Rk K H m (L2.putF f v vs) (putFD f d ds)
  | _, _, .nil => .cons q .nil
  | _, _, .cons (k := k0) r t => by
    unfold L2.putF putFD
    by_cases e : k0 = f
    · rw [if_pos e, if_pos e]; exact .cons q t
    · rw [if_neg e, if_neg e]; exact .cons r (Rk.putF f q t)
/-! ### the heaps -/
/-- that may be changed -/
def O.mu : O → Bool
  | .lst _ => true | .dK _ => true | .ins _ _ => true | _ => false
/-- standing alone at its place -/
def O.uq : O → Bool
  | .rl _ => false | _ => true
/-- an exception that's kept, at a -/
def ExH (cls : Value) (d : Option Addr) (a : Addr) : HO := .ext fun h => ∃ (oe : Obj) (vs : Array Value), h.get? a = some oe ∧ L2N.Zn cls d oe ∧ oe.data = .fields vs
theorem exH_inj {P : Heap → Prop} {cls : Value} {d : Option Addr} {a : Addr} : ExH cls d a ≠ .lst [] := fun z => HO.noConfusion z
/-- what an exception bears -/
def ExP (K : PySem.W.Frag) (H : Hp) (m : List Addr) : Option D → Option Addr → Prop
  | none, none => True
  | some v, some dx => ∃ y, H dx = some (.xd [("row", y)]) ∧ R K H m y v
  | _, _ => False
theorem ExP.mono (x : Ext K H m H' m') {p : Option D} {d : Option Addr} (h : ExP K H m p d) : ExP K H' m' p d := by
  cases p with
  | none => cases d with
    | none => trivial
    | some d => exact h.elim
  | some v => cases d with
    | none => exact h.elim
    | some d => obtain ⟨y, a, b⟩ := h; exact ⟨y, x.xds _ _ a, b.mono x⟩
def Ob (K : PySem.W.Frag) (ca : Str → Option Addr) (H : Hp) (m : List Addr) (a : Addr) : O → Prop
  | .lst ds => ∃ vs, H a = some (.lst vs) ∧ Rs K H m vs ds
  | .dK kvs => ∃ vk, H a = some (.dK vk) ∧ Rk K H m vk kvs
  | .ins c fs => ∃ C dx vf, H a = some (.ins C dx vf) ∧ ca c = some C ∧ Rk K H m vf fs
  | .rl ds => ∃ vs, ((∃ o, H a = some (.frz o (.lst vs))) ∨ ∀ H', SqL K H' a vs) ∧ Rs K H m vs ds
  | .rd kvs => ∃ vk ob, H a = some (.frz ob (.dK vk)) ∧ Rk K H m vk kvs
  | .exc c p => ∃ C d, ca c = some C ∧ H a = some (ExH (.ref C) d a) ∧ ExP K H m p d
/-- the classes' places, and whence we look -/
structure Cs where
  ca : Str → Option Addr
  H0 : Hp
  m0 : List Addr
structure Sm (K : PySem.W.Frag) (ca : Cs) (H : Hp) (m : List Addr) (h : Hh) : Prop where
  or : Ext K ca.H0 ca.m0 H m
  len : m.length = h.length
  inj : ∀ (n n' : Nat) (a : Addr) (o o' : O), m[n]? = some a → m[n']? = some a → h[n]? = some o → h[n']? = some o' → o.uq = true → o'.uq = true → n = n'
  obj : ∀ (n : Nat) (a : Addr) (o : O), m[n]? = some a → h[n]? = some o → Ob K ca.ca H m a o
variable {ca : Cs} {cf : Str → Option Addr}
theorem Sm.at (S : Sm K ca H m h) {n : Nat} {o : O} (e : h[n]? = some o) : ∃ a, m[n]? = some a ∧ Ob K ca.ca H m a o := by
  have hl : n < h.length := (List.getElem?_eq_some_iff.mp e).1
  have hm : n < m.length := by rw [S.len]; exact hl
  exact ⟨m[n], List.getElem?_eq_getElem hm, S.obj n _ o (List.getElem?_eq_getElem hm) e⟩
theorem Ob.some {a : Addr} {o : O} (b : Ob K cf H m a o) (e : o.uq = true) : ∃ ho, H a = some ho ∧ (∀ vs, ho ≠ .tup vs) ∧ ∀ ob u, ho = .frz ob u → ∃ vk, u = .dK vk := by
  cases o with
  | lst ds => obtain ⟨vs, e, _⟩ := b; exact ⟨_, e, fun _ z => HO.noConfusion z, fun _ _ z => HO.noConfusion z⟩
  | dK ds => obtain ⟨vs, e, _⟩ := b; exact ⟨_, e, fun _ z => HO.noConfusion z, fun _ _ z => HO.noConfusion z⟩
  | ins c ds => obtain ⟨C, dx, vs, e, _⟩ := b; exact ⟨_, e, fun _ z => HO.noConfusion z, fun _ _ z => HO.noConfusion z⟩
  | rl ds => cases e
  | rd ds => obtain ⟨vs, ob, e, _⟩ := b; exact ⟨_, e, fun _ z => HO.noConfusion z, fun _ _ z => by cases z; exact ⟨_, rfl⟩⟩
  | exc c p => obtain ⟨C, d, _, e, _⟩ := b; exact ⟨_, e, fun _ z => HO.noConfusion z, fun _ _ z => HO.noConfusion z⟩
theorem O.uq_mu {o : O} (h : o.mu = true) : o.uq = true := by cases o <;> first | rfl | cases h
theorem ob_nofrz {a : Addr} {o : O} (b : Ob K cf H m a o) (e : o.mu = true) : ∀ (ob : Obj) (u : HO), H a ≠ some (HO.frz ob u) := by
  intro ob u z
  cases o with
  | lst ds => obtain ⟨vs, e, _⟩ := b; rw [e] at z; cases z
  | dK ds => obtain ⟨vs, e, _⟩ := b; rw [e] at z; cases z
  | ins c ds => obtain ⟨C, dx, vs, e, _⟩ := b; rw [e] at z; cases z
  | rl ds => cases e
  | rd ds => cases e
  | exc c p => cases e
theorem ob_noxd {a : Addr} {o : O} (b : Ob K cf H m a o) (e : o.mu = true) : ∀ fs, H a ≠ some (HO.xd fs) := by
  intro fs z
  cases o with
  | lst ds => obtain ⟨vs, e, _⟩ := b; rw [e] at z; cases z
  | dK ds => obtain ⟨vs, e, _⟩ := b; rw [e] at z; cases z
  | ins c ds => obtain ⟨C, dx, vs, e, _⟩ := b; rw [e] at z; cases z
  | rl ds => cases e
  | rd ds => cases e
  | exc c p => cases e
theorem Ob.mono0 {a : Addr} {o : O} (b : Ob K cf H m a o) (x : Ext0 K H m H' m') (xd : ∀ (a : Addr) (fs : List (Str × V)), H a = Option.some (HO.xd fs) → H' a = Option.some (HO.xd fs)) (e : H' a = H a ∨ (H a = none)) : Ob K cf H' m' a o := by
  cases o with
  | lst ds =>
    obtain ⟨vs, e1, r⟩ := b
    rcases e with e | e
    · exact ⟨vs, e.trans e1, r.mono0 x⟩
    · rw [e] at e1; cases e1
  | dK ds =>
    obtain ⟨vs, e1, r⟩ := b
    rcases e with e | e
    · exact ⟨vs, e.trans e1, r.mono0 x⟩
    · rw [e] at e1; cases e1
  | ins c ds =>
    obtain ⟨C, dx, vs, e1, e2, r⟩ := b
    rcases e with e | e
    · exact ⟨C, dx, vs, e.trans e1, e2, r.mono0 x⟩
    · rw [e] at e1; cases e1
  | rl ds =>
    obtain ⟨vs, e1, r⟩ := b
    rcases e1 with ⟨ob, e1⟩ | e1
    · rcases e with e | e
      · exact ⟨vs, .inl ⟨ob, e.trans e1⟩, r.mono0 x⟩
      · rw [e] at e1; cases e1
    · exact ⟨vs, .inr e1, r.mono0 x⟩
  | rd ds =>
    obtain ⟨vs, ob, e1, r⟩ := b
    rcases e with e | e
    · exact ⟨vs, ob, e.trans e1, r.mono0 x⟩
    · rw [e] at e1; cases e1
  | exc c p =>
    obtain ⟨C, d, e0, e1, r⟩ := b
    rcases e with e | e
    · refine ⟨C, d, e0, e.trans e1, ?_⟩
      cases p with
      | none => cases d with
        | none => trivial
        | some d => exact r.elim
      | some v => cases d with
        | none => exact r.elim
        | some d => obtain ⟨y, a, b⟩ := r; exact ⟨y, xd _ _ a, R.mono0 x b⟩
    · rw [e] at e1; cases e1
theorem Ob.mono {a : Addr} {o : O} (b : Ob K cf H m a o) (x : Ext K H m H' m') (e : H' a = H a ∨ (H a = none)) : Ob K cf H' m' a o := b.mono0 x.toExt0 x.xds e
theorem sqt_new {p a : Addr} {o : HO} {vs : List V} (hp : H p = none) (h : SqT K H a vs) : SqT K (upd H p o) a vs := by
  rcases h with h | h
  · left
    rcases h with h | ⟨ob, h⟩
    · exact .inl (by rw [upd_ne (ne_of_none h hp)]; exact h)
    · exact .inr ⟨ob, by rw [upd_ne (ne_of_none h hp)]; exact h⟩
  · exact .inr h
theorem sqt_obj {p a : Addr} {o ho : HO} {vs : List V} (hp : H p = some ho) (h1 : ∀ vs, ho ≠ .tup vs) (h2 : ∀ ob u, ho = .frz ob u → ∃ vk, u = .dK vk) (h : SqT K H a vs) : SqT K (upd H p o) a vs := by
  rcases h with h | h
  · left
    rcases h with h | ⟨ob, h⟩
    · refine .inl ?_
      rw [upd_ne (fun z => ?_)]
      · exact h
      · subst z; rw [hp] at h; exact h1 _ (Option.some.inj h)
    · refine .inr ⟨ob, ?_⟩
      rw [upd_ne (fun z => ?_)]
      · exact h
      · subst z; rw [hp] at h; obtain ⟨vk, z⟩ := h2 _ _ (Option.some.inj h); cases z
  · exact .inr h
theorem Ext.new {p : Addr} {o : HO} (hp : H p = none) (m2 : List Addr) : Ext K H m (upd H p o) (m ++ m2) :=
  ⟨⟨fun n a e => by rw [List.getElem?_append_left (List.getElem?_eq_some_iff.mp e).1]; exact e, fun _ _ e => sqt_new hp e⟩, fun _ _ _ e => by rw [upd_ne (ne_of_none e hp)]; exact e, fun _ _ e => by rw [upd_ne (ne_of_none e hp)]; exact e⟩
theorem Ext.new0 {p : Addr} {o : HO} (hp : H p = none) : Ext K H m (upd H p o) m := ⟨⟨fun n a e => e, fun _ _ e => sqt_new hp e⟩, fun _ _ _ e => by rw [upd_ne (ne_of_none e hp)]; exact e, fun _ _ e => by rw [upd_ne (ne_of_none e hp)]; exact e⟩

/-- a new tuple -/
theorem Sm.newt (S : Sm K ca H m h) {p : Addr} {vs : List V} (hp : H p = none) : Sm K ca (upd H p (.tup vs)) m h := by
  refine ⟨S.or.trans (Ext.new0 hp), S.len, S.inj, fun n a o e1 e2 => (S.obj n a o e1 e2).mono (Ext.new0 hp) ?_⟩
  by_cases e : a = p
  · subst e; exact .inr hp
  · exact .inl (upd_ne e)
/-- a thing of no number -/
theorem Sm.newx (S : Sm K ca H m h) {p : Addr} {ho : HO} (hp : H p = none) : Sm K ca (upd H p ho) m h := by
  refine ⟨S.or.trans (Ext.new0 hp), S.len, S.inj, fun n a o e1 e2 => (S.obj n a o e1 e2).mono (Ext.new0 hp) ?_⟩
  by_cases e : a = p
  · subst e; exact .inr hp
  · exact .inl (upd_ne e)
/-- a new object -/
theorem Sm.new (S : Sm K ca H m h) {p : Addr} {ho : HO} {o : O} (hp : H p = none) (ho' : Ob K ca.ca (upd H p ho) (m ++ [p]) p o) : Sm K ca (upd H p ho) (m ++ [p]) (h ++ [o]) := by
  refine ⟨S.or.trans (Ext.new hp _), by rw [List.length_append, List.length_append, S.len]; rfl, fun n n' a q q' e1 e2 e3 e4 u1 u2 => ?_, fun n a q e1 e2 => ?_⟩
  · have key : ∀ (n : Nat) (q : O), (m ++ [p])[n]? = some a → (h ++ [o])[n]? = some q → q.uq = true → (n < m.length ∧ a ≠ p) ∨ (n = m.length ∧ a = p) := by
      intro n q e1 e3 u1
      by_cases hn : n < m.length
      · left
        refine ⟨hn, fun z => ?_⟩
        rw [List.getElem?_append_left hn] at e1
        rw [List.getElem?_append_left (by rw [← S.len]; exact hn)] at e3
        obtain ⟨x, hx, _⟩ := (S.obj n a q e1 e3).some u1
        rw [z, hp] at hx; cases hx
      · right
        rw [List.getElem?_append_right (by omega)] at e1
        have : n - m.length = 0 := by
          have := (List.getElem?_eq_some_iff.mp e1).1
          simp at this; omega
        rw [this] at e1
        simp at e1
        exact ⟨by omega, e1.symm⟩
    rcases key n q e1 e3 u1 with ⟨k1, k2⟩ | ⟨k1, k2⟩ <;> rcases key n' q' e2 e4 u2 with ⟨k3, k4⟩ | ⟨k3, k4⟩
    · rw [List.getElem?_append_left k1] at e1
      rw [List.getElem?_append_left k3] at e2
      rw [List.getElem?_append_left (by rw [← S.len]; exact k1)] at e3
      rw [List.getElem?_append_left (by rw [← S.len]; exact k3)] at e4
      exact S.inj n n' a q q' e1 e2 e3 e4 u1 u2
    · exact absurd k4 k2
    · exact absurd k2 k4
    · omega
  · by_cases hn : n < m.length
    · rw [List.getElem?_append_left hn] at e1
      rw [List.getElem?_append_left (by rw [← S.len]; exact hn)] at e2
      refine (S.obj n a q e1 e2).mono (Ext.new hp _) ?_
      by_cases e : a = p
      · subst e; exact .inr hp
      · exact .inl (upd_ne e)
    · rw [List.getElem?_append_right (by omega)] at e1
      have hz : n - m.length = 0 := by
        have := (List.getElem?_eq_some_iff.mp e1).1
        simp at this; omega
      rw [List.getElem?_append_right (by rw [← S.len]; omega), ← S.len, hz] at e2
      rw [hz] at e1
      simp at e1 e2
      subst e1 e2
      exact ho'
/-- an object changed -/
theorem Sm.put (S : Sm K ca H m h) {n : Nat} {a : Addr} {ho : HO} {o q : O} (en : h[n]? = some q) (ea : m[n]? = some a) (mq : q.mu = true) (uo : o.uq = true) (ho' : ∀ H', (∀ b vs, SqT K H b vs → SqT K H' b vs) → H' a = some ho → Ob K ca.ca H' m a o) :
    Sm K ca (upd H a ho) m (h.set n o) ∧ Ext K H m (upd H a ho) m := by
  have uq := O.uq_mu mq
  obtain ⟨x, hx, x1, x2⟩ := (S.obj n a q ea en).some uq
  have ext : Ext K H m (upd H a ho) m := ⟨⟨fun _ _ e => e, fun _ _ e => sqt_obj hx x1 x2 e⟩, fun b ob u e => by rw [upd_ne (fun z => ob_nofrz (S.obj n a q ea en) mq ob u (by rw [← z]; exact e))]; exact e,
    fun b fs e => by rw [upd_ne (fun z => ob_noxd (S.obj n a q ea en) mq fs (by rw [← z]; exact e))]; exact e⟩
  have hn : n < h.length := (List.getElem?_eq_some_iff.mp en).1
  refine ⟨⟨S.or.trans ext, by rw [List.length_set]; exact S.len, fun n1 n2 b o1 o2 e1 e2 e3 e4 u1 u2 => ?_, fun n1 b o1 e1 e3 => ?_⟩, ext⟩
  · have key : ∀ (n1 : Nat) (o1 : O), (h.set n o)[n1]? = some o1 → o1.uq = true → ∃ o', h[n1]? = some o' ∧ o'.uq = true := by
      intro n1 o1 e3 u1
      by_cases e : n = n1
      · subst e; exact ⟨q, en, uq⟩
      · rw [List.getElem?_set_ne e] at e3; exact ⟨o1, e3, u1⟩
    obtain ⟨p1, k1, k2⟩ := key n1 o1 e3 u1
    obtain ⟨p2, k3, k4⟩ := key n2 o2 e4 u2
    exact S.inj n1 n2 b p1 p2 e1 e2 k1 k3 k2 k4
  · by_cases e : n = n1
    · subst e
      rw [List.getElem?_set_self hn] at e3
      rw [ea] at e1
      cases e1; cases e3
      exact ho' _ ext.tup upd_same
    · rw [List.getElem?_set_ne e] at e3
      by_cases eb : b = a
      · subst eb
        have nm : o1.uq = false := by
          cases hm : o1.uq with
          | false => rfl
          | true => exact absurd (S.inj n n1 b q o1 ea e1 en e3 uq hm) e
        have b1 := S.obj n1 b o1 e1 e3
        cases o1 with
        | lst _ => cases nm
        | dK _ => cases nm
        | ins _ _ => cases nm
        | exc _ _ => cases nm
        | rl ds =>
          obtain ⟨vs, e5, r⟩ := b1
          rcases e5 with ⟨ob, e5⟩ | e5
          · rw [hx] at e5; obtain ⟨vk, z⟩ := x2 _ _ (Option.some.inj e5); cases z
          · exact ⟨vs, .inr e5, r.mono ext⟩
        | rd ds => cases nm
      · exact (S.obj n1 b o1 e1 e3).mono ext (.inl (upd_ne eb))
/-- looked at from here -/
theorem Sm.here (S : Sm K ca H m h) : Sm K ⟨ca.ca, H, m⟩ H m h := ⟨Ext.refl, S.len, S.inj, S.obj⟩
/-- looked at from there -/
theorem Sm.there {H0 : Hp} {m0 : List Addr} (S : Sm K ⟨ca.ca, H0, m0⟩ H m h) (x : Ext K ca.H0 ca.m0 H0 m0) : Sm K ca H m h := ⟨x.trans S.or, S.len, S.inj, S.obj⟩

/-! ### what is wanted behind -/
def Post (K : PySem.W.Frag) (ca : Cs) (H : Hp) (m : List Addr) (Q' : Qd) (Q : VK) : Prop :=
  ∀ m' v H' d h', Ext K H m H' m' → Sm K ca H' m' h' → R K H' m' v d → Q' d h' → Q v H'
variable {Q : VK} {Q' : Qd}
theorem Post.mono (p : Post K ca H m Q' Q) (x : Ext K H m H' m') : Post K ca H' m' Q' Q := fun m' v H' d h' x' => p m' v H' d h' (x.trans x')
theorem Post.same (p : Post K ca H m Q' Q) (S : Sm K ca H m h) {v : V} {d : D} (r : R K H m v d) (q : Q' d h) : Q v H := p m v H d h Ext.refl S r q
theorem Post.newt (p : Post K ca H m Q' Q) (S : Sm K ca H m h) {vs : List V} {ds : List D} (r : Rs K H m vs ds) {a : Addr} (ha : H a = none) (q : Q' (.tup ds) h) : Q (.ref a) (upd H a (.tup vs)) :=
  p m _ _ (.tup ds) h (Ext.new0 ha) (S.newt ha) (.tup (SqT.of upd_same) (r.mono (Ext.new0 ha))) q
theorem Post.newl (p : Post K ca H m Q' Q) (S : Sm K ca H m h) {vs : List V} {ds : List D} (r : Rs K H m vs ds) {a : Addr} (ha : H a = none) (q : Q' (.ref h.length) (h ++ [.lst ds])) : Q (.ref a) (upd H a (.lst vs)) :=
  p (m ++ [a]) _ _ (.ref h.length) _ (Ext.new ha _) (S.new (o := .lst ds) ha ⟨vs, upd_same, r.mono (Ext.new ha _)⟩) (.ref (by rw [← S.len]; simp)) q
theorem Post.setl (p : Post K ca H m Q' Q) (S : Sm K ca H m h) {n : Nat} {a : Addr} {q0 : O} {vs : List V} {ds : List D} {v : V} {d : D} (en : h[n]? = some q0) (ea : m[n]? = some a) (u : q0.mu = true) (r : Rs K H m vs ds) (rv : R K H m v d) (q : Q' d (h.set n (.lst ds))) : Q v (upd H a (.lst vs)) := by
  obtain ⟨S', x⟩ := S.put (ho := .lst vs) (o := .lst ds) en ea u rfl fun H' ht e => ⟨vs, e, r.mono0 ⟨fun _ _ z => z, ht⟩⟩
  exact p m v _ d _ x S' (rv.mono x) q
theorem Post.newd (p : Post K ca H m Q' Q) (S : Sm K ca H m h) {vs : List (Key × V)} {ds : List (Key × D)} (r : Rk K H m vs ds) {a : Addr} (ha : H a = none) (q : Q' (.ref h.length) (h ++ [.dK ds])) : Q (.ref a) (upd H a (.dK vs)) :=
  p (m ++ [a]) _ _ (.ref h.length) _ (Ext.new ha _) (S.new (o := .dK ds) ha ⟨vs, upd_same, r.mono (Ext.new ha _)⟩) (.ref (by rw [← S.len]; simp)) q
theorem Post.setd (p : Post K ca H m Q' Q) (S : Sm K ca H m h) {n : Nat} {a : Addr} {q0 : O} {vs : List (Key × V)} {ds : List (Key × D)} {v : V} {d : D} (en : h[n]? = some q0) (ea : m[n]? = some a) (u : q0.mu = true) (r : Rk K H m vs ds) (rv : R K H m v d) (q : Q' d (h.set n (.dK ds))) : Q v (upd H a (.dK vs)) := by
  obtain ⟨S', x⟩ := S.put (ho := .dK vs) (o := .dK ds) en ea u rfl fun H' ht e => ⟨vs, e, r.mono0 ⟨fun _ _ z => z, ht⟩⟩
  exact p m v _ d _ x S' (rv.mono x) q
theorem Rk.merge {vk : List (Key × V)} {ps : List (Key × D)} (r : Rk K H m vk ps) : ∀ {av : List (Key × V)} {ad : List (Key × D)}, Rk K H m av ad → Rk K H m (mergeK av vk) (mergeD ad ps) := by
  induction r with
  | nil => intro av ad a; exact a
  | @cons k v d vs ds r t ih =>
    intro av ad a
    exact ih (a.put k r)
theorem Rk.drop {κ : Type} [DecidableEq κ] (k : κ) : ∀ {vs : List (κ × V)} {ds : List (κ × D)}, Rk K H m vs ds → Rk K H m (dropK vs k) (dropD ds k)
  | _, _, .nil => .nil
  | _, _, .cons (k := k') r t => by
    have ih := Rk.drop k t
    unfold dropK dropD at ih ⊢
    by_cases e : k' = k
    · rw [List.filter_cons_of_neg (by simp [e]), List.filter_cons_of_neg (by simp [e])]; exact ih
    · rw [List.filter_cons_of_pos (by simp [e]), List.filter_cons_of_pos (by simp [e])]; exact .cons r ih
theorem key_R {x : V} {d : D} {k : Key} (rx : R K H m x d) (e : keyOf d = some k) : x = kV k := by
  cases rx <;> first | (cases e; rfl) | cases e
theorem key_R2 (k : Key) : R K H m (kV k) (keyD k) := by
  cases k with
  | inl i => exact .int i
  | inr s => exact .str s
theorem pairsD_ok : ∀ {vs : List V} {ds : List D} {ps : List (Key × D)}, Rs K H m vs ds → pairsD ds = some ps → ∃ (as : List Addr) (kvs : List (Key × V)), vs = as.map V.ref ∧ Paired (fun p kv => SqT K H p [kV kv.1, kv.2]) as kvs ∧ Rk K H m kvs ps
  | _, _, _, .nil, e => by
    cases e; exact ⟨[], [], rfl, .nil, .nil⟩
  | _, _, _, .cons (d := d) r t, e => by
    unfold pairsD at e
    split at e
    · rename_i p ps hp hps
      cases e
      obtain ⟨as, kvs, e1, e2, e3⟩ := pairsD_ok t hps
      unfold pairD at hp
      split at hp
      · rename_i kd vd
        split at hp
        · rename_i q hq
          cases hp
          cases r with
          | @tup a ws _ sq rs =>
            obtain ⟨w1, w2, rfl, r1, r2⟩ := rs.inv2
            have := key_R r1 hq
            subst this
            exact ⟨a :: as, (q, w2) :: kvs, by rw [e1]; rfl, .cons sq e2, .cons r2 e3⟩
        · cases hp
      · cases hp
    · cases e
theorem Sm.grow (S : Sm K ca H m h) (k : ∀ b o, H b = some o → H' b = some o) : Sm K ca H' m h ∧ Ext K H m H' m := by
  have st : ∀ b vs, SqT K H b vs → SqT K H' b vs := fun b vs z => by
    rcases z with z | z
    · left
      rcases z with z | ⟨ob, z⟩
      · exact .inl (k _ _ z)
      · exact .inr ⟨ob, k _ _ z⟩
    · exact .inr z
  have x : Ext K H m H' m := ⟨⟨fun _ _ z => z, st⟩, fun _ _ _ z => k _ _ z, fun _ _ z => k _ _ z⟩
  refine ⟨⟨S.or.trans x, S.len, S.inj, fun n a o e1 e2 => (S.obj n a o e1 e2).mono x ?_⟩, x⟩
  cases hq : H a with
  | none => exact .inr rfl
  | some q => exact .inl (k _ _ hq)
/-- a new list beside other new things -/
theorem Post.newg (p : Post K ca H m Q' Q) (S : Sm K ca H m h) (k : ∀ b o, H b = some o → H' b = some o) {a : Addr} {vs : List V} {ds : List D} (ha : H a = none) (ea : H' a = some (.lst vs)) (r : Rs K H' m vs ds) (q : Q' (.ref h.length) (h ++ [.lst ds])) : Q (.ref a) H' := by
  have e0 : upd (fun b => if b = a then none else H' b) a (.lst vs) = H' := by
    funext b
    by_cases z : b = a
    · rw [z, upd_same, ea]
    · rw [upd_ne z, if_neg z]
  have k0 : ∀ b o, H b = some o → (fun b => if b = a then none else H' b) b = some o := fun b o z => by
    have : b ≠ a := fun y => by rw [y, ha] at z; cases z
    show (if b = a then none else H' b) = some o
    rw [if_neg this]; exact k b o z
  obtain ⟨S0, x0⟩ := S.grow k0
  have hn : (fun b => if b = a then (none : Option HO) else H' b) a = none := if_pos rfl
  have S1 := S0.new (p := a) (ho := .lst vs) (o := .lst ds) hn
  have x1 := Ext.new (K := K) (H := fun b => if b = a then (none : Option HO) else H' b) (m := m) (p := a) (o := HO.lst vs) hn [a]
  rw [e0] at S1 x1
  have r1 : Rs K H' (m ++ [a]) vs ds := r.mono0 ⟨fun n b e => by rw [List.getElem?_append_left (List.getElem?_eq_some_iff.mp e).1]; exact e, fun _ _ z => z⟩
  exact p (m ++ [a]) _ _ (.ref h.length) _ (x0.trans x1) (S1 ⟨vs, ea, r1⟩) (.ref (by rw [← S.len]; simp)) q
theorem Rs.chars : ∀ (l : List Nat), Rs K H m (l.map fun c => V.str ⟨#[c]⟩) (l.map fun c => D.str ⟨#[c]⟩)
  | [] => .nil
  | n :: r => .cons (.str _) (Rs.chars r)
theorem Rk.keys : ∀ {vk : List (Key × V)} {ds : List (Key × D)}, Rk K H m vk ds → Rs K H m (vk.map fun kv => kV kv.1) (ds.map fun kv => keyD kv.1)
  | _, _, .nil => .nil
  | _, _, .cons r t => .cons (key_R2 _) (Rk.keys t)
theorem Rk.names {κ : Type} : ∀ {vk : List (κ × V)} {ds : List (κ × D)}, Rk K H m vk ds → vk.map (·.1) = ds.map (·.1)
  | _, _, .nil => rfl
  | _, _, .cons r t => by rw [List.map_cons, List.map_cons, Rk.names t]
end
end Bp

/-! ## defs where it is told that no list is being shown (so str of lists and tuples is known) -/
namespace Bp
open PySem L2 PySem.Spec PyProof.Rows

structure FnG (Pg : Program) (wd : World) (K : PySem.W.Frag) (mm : Str → Option Value) (bh : Heap) (cx : CXT) (lv : Nat) (fa : Addr) (fd : FuncData) (prm : List Str) (sp : Sp) : Prop where
  len : ∀ ws H Q E, sp ws H Q E → ws.length = prm.length
  run : ∀ (ar : Around) (out : List Env) (st : Shared) (H : Hp) (args : Args) (ul : List Value) (ws : List V) (Q : VK) (E : XK), ar.guards = some [] → Room lv ar → Env0 Pg wd K mm bh ar out st H →
    BindsTo st fd args (prm.zip ul) → Vals ws ul → sp ws H Q E → codeAny (model Pg wd) ar (.call (.ref fa) args) (CR cx out Pg wd H st Q E) st

section
variable {X : Cx} {cx : CXT} {lv : Nat} {fa cl : Addr} {fd : FuncData} {prm : List Str} {sp : Sp} {dvs : List V} {dl : List Value} {E : XK} {Es : L2.St → XK} {x : Str} {p pos : Pos} {e : Expr} {es : List Expr} {t : TA}
theorem run_g {pins : List (Addr × Obj)} {σ : L2.St} {H : Hp} {st : Shared} {Q : VK} {ul : List Value} {ws : List V} (F : FnG X.prog X.w X.K X.mg X.base cx lv fa fd prm sp) (gd : X.A.guards = some []) (hr : Room lv X.A) (hb : L2.Binds X.K fd prm [])
    (px : ∀ e st', cx X.stack H st E e st' → X.xe e st') (I : L2.Inv X pins σ H st) (r : Vals ws ul) (q : sp ws H Q E) : wpAny (model X.prog X.w) X.A (call (.ref fa) ul) (EP X pins σ Q) X.xe st := by
  have n1 : ul.length = prm.length := r.length.symm.trans (F.len _ _ _ _ q)
  have b1 := hb st ul I.kIn (by rw [List.append_nil]; exact n1)
  rw [List.append_nil] at b1
  refine wpAny_call (codeAny_mono (F.run X.A X.stack st H ⟨ul, []⟩ ul ws Q E gd hr I.env0 b1 r q) fun rr st' hq => ?_)
  match rr, hq with
  | .error e, z => exact px e st' z
  | .ok (.ret u), z => exact I.after z
  | .ok .next, z => exact z.elim
  | .ok .brk, z => exact z.elim
  | .ok .cont, z => exact z.elim
theorem pe_callG (F : FnG X.prog X.w X.K X.mg X.base cx lv fa fd prm sp) (gd : X.A.guards = some []) (hr : Room lv X.A) (hg : Gl X x) (hm : X.mg x = some (.ref fa)) (hk : PySem.W.keepIn X.K (.ref fa) = true) (hb : L2.Binds X.K fd prm [])
    (px : ∀ σ, PassesAt cx X σ (Es σ)) (ha : PA X (e :: es) t) (hdb : (x == ("__debug__" : Str)) = false) (he : starEach (e :: es) X.env = (false, eval e X.env) :: starEach es X.env) (hpl : (backTo pos (starEach es X.env)).any (·.1) = false) :
    PE X (.Call (.Name x p) (e :: es) [] pos) (fun σ H Q => t σ H fun ws H1 => sp ws H1 Q (Es σ)) :=
  ⟨fun pins st σ H Q I q => wpAny_Call_Name_kw (ld_glob I hg hm (PySem.W.callWith_K (h₀ := X.base) I.ok.mod.kin hk
    (thn (ha.run pos pins st σ H _ I q) fun ul s1 ⟨ws, H1, I1, r, q1⟩ => ⟨I1.kIn, run_g F gd hr hb (fun e st' c => px σ pins H1 s1 e st' I1 c) I1 r q1⟩) he hpl) hdb)⟩
theorem pe_callG0 (F : FnG X.prog X.w X.K X.mg X.base cx lv fa fd prm sp) (gd : X.A.guards = some []) (hr : Room lv X.A) (hg : Gl X x) (hm : X.mg x = some (.ref fa)) (hk : PySem.W.keepIn X.K (.ref fa) = true) (hb : L2.Binds X.K fd prm [])
    (px : ∀ σ, PassesAt cx X σ (Es σ)) (hdb : (x == ("__debug__" : Str)) = false) : PE X (.Call (.Name x p) [] [] pos) (fun σ H Q => sp [] H Q (Es σ)) :=
  ⟨fun pins st σ H Q I q => wpAny_Call_Name_kw (ld_glob I hg hm (PySem.W.callWith_K0 I.kIn hk (run_g (ul := []) (ws := []) F gd hr hb (fun e st' c => px σ pins H st e st' I c) I .nil q)) hdb)⟩
end
theorem guards_deeper {ar : Around} {env : Env} (gd : ar.guards = some []) : (ar.deeper env).guards = some [] := gd
section
variable {Pg : Program} {wd : World} {K : PySem.W.Frag} {mm : Str → Option Value} {bh : Heap}
/-- a def of the text by its body -/
theorem fnG_of {cx : CXT} {nm qn : Str} {st : Stmt} {fa : Addr} {fd : FuncData} {N prm : List Str} {lv : Nat} {sp : Sp} (F : Fun K nm qn st fa fd) (S : FnScope N prm (defScope st)) (len : ∀ ws H Q E, sp ws H Q E → ws.length = prm.length)
    (body : ∀ (cdv : Value) (ar : Around) (out : List Env) (s0 : Shared) (H : Hp) (ws : List V) (Q : VK) (E : XK), ar.guards = some [] → Room lv (ar.deeper (envOfC qn (defScope st) s0.heap.objs.size fa cdv)) → sp ws H Q E →
      ∃ t, PSs (cxOf cx Pg wd K mm bh N qn (defScope st) fa cdv ar out s0 H E) (defBody st) t ∧ t { nx := fun _ H' => Q .non H', rt := Q } (start N ws) H) : FnG Pg wd K mm bh cx (lv + 1) fa fd prm sp := by
  obtain ⟨oc, od, kV, doc, pm, an, cdv, ct, osl, rfl, lk, hcd⟩ := F.ex
  refine ⟨len, fun ar out s0 H args ul ws Q E gd hr e0 hb r q => ?_⟩
  have inK : K.In s0.heap := e0.mod.kin.keeps fun b o z => (e0.bs b o z).1
  have nl : s0.heap.NoLimit := e0.mod.nolimit.keeps fun b o z => (e0.bs b o z).1
  refine codeAny_call_function hr.depth (inK _ _ lk) rfl S.co S.gen rfl (PySem.W.codeRec_of inK hcd) (hb _ _ _ _ (wpAny_newFunctionEnv_cells S.kind (fun ⟨n, v⟩ hy => ?_) fun env he s1 ic => ?_))
  · exact (S.par n (List.of_mem_zip hy).1).elim .inl fun z => .inr ⟨z, PySem.W.cellsFrom_some _ _ _ (.inl z)⟩
  · subst he
    obtain ⟨t, ht, hq⟩ := body cdv ar out s0 H ws Q E gd (hr.deeper _) q
    have I := inv_start (cd := cdv) (CX := cx) (E := E) (f := fa) (qual := qn) S hr.hd e0 (len _ _ _ _ q) r ic
    refine ⟨nl.keeps ic.toInCall.keep, codeAny_func (wpAny_mono (ht.run [] s1 (start N ws) H _ I hq) (fun fl s' z => ?_) fun _ _ z => z)⟩
    match fl, z with
    | .ret u, ⟨v, σ', H', J, rv, z⟩ => exact ⟨v, H', J.os, J.bare, J.base, J.hok, rv, z⟩
    | .next, ⟨σ', H', J, z⟩ => exact ⟨V.non, H', J.os, J.bare, J.base, J.hok, rfl, z⟩
    | .brk, ⟨_, _, _, z⟩ => exact z.elim
    | .cont, ⟨_, _, _, z⟩ => exact z.elim
/-- as that, where no exception leaves -/
theorem fnG_of0 {nm qn : Str} {st : Stmt} {fa : Addr} {fd : FuncData} {N prm : List Str} {lv : Nat} {sp : Sp} (F : Fun K nm qn st fa fd) (S : FnScope N prm (defScope st)) (len : ∀ ws H Q E, sp ws H Q E → ws.length = prm.length)
    (body : ∀ (cdv : Value) (ar : Around) (out : List Env) (s0 : Shared) (H : Hp) (ws : List V) (Q : VK) (E : XK), ar.guards = some [] → Room lv (ar.deeper (envOfC qn (defScope st) s0.heap.objs.size fa cdv)) → sp ws H Q E →
      ∃ t, PSs (cxOf CX0 Pg wd K mm bh N qn (defScope st) fa cdv ar out s0 H E).nox (defBody st) t ∧ t { nx := fun _ H' => Q .non H', rt := Q } (start N ws) H) : FnG Pg wd K mm bh CX0 (lv + 1) fa fd prm sp :=
  fnG_of F S len fun cdv ar out s0 H ws Q E gd hr q => by
    obtain ⟨t, z, q⟩ := body cdv ar out s0 H ws Q E gd hr q
    exact ⟨t, z.nox, q⟩
/-- the law's call -/
theorem lawG_call {mb : Str → Option Value} {cx : CXT} {lv : Nat} {fa sa : Addr} {fd : FuncData} {x : Str} {sp : Sp} {s1 : Shared} {ul : List Value} {zs : List Int}
    (inK : K.In s1.heap) (gN : s1.heap.Ns mainGlobals mm) (bN : s1.heap.Ns builtinsNs mb) (hbb : ∀ y : Str, y ≠ "__name__" → mb y = bootBuiltins y) (nl : s1.heap.NoLimit) (hg : s1.gens = #[])
    (so : s1.heap.get? sa = some { cls := .type "list", data := .seq ul.toArray }) (hi : IntsAre ul zs) (hl : zs.length ≤ sizeLine) (hr : Room lv callerA)
    (F : ∀ bh : Heap, K.In bh → bh.Ns mainGlobals mm → FnG Pg wd K mm bh cx lv fa fd [x] sp) (bnd : ∀ (s : Shared) (u : Value), BindsTo s fd ⟨[u], []⟩ [(x, u)])
    (hsp : ∀ H : Hp, Only H → SqL K H sa (zs.map V.int) → sp [.ref sa] H (fun v _ => v = .bl true) fun _ _ _ => False) (hcx : ∀ H e s', cx [] H s1 (fun _ _ _ => False) e s' → False) :
    codeAny (model Pg wd) callerA (.call (.ref fa) ⟨[.ref sa], []⟩) (fun r s' => r = .ok (.ret (.bool true)) ∧ OldK s1.heap s'.heap ∧ s'.os = s1.os ∧ AllBare s'.gens) s1 := by
  have rv := vals_ints hi
  -- H: nothing is known but (maybe) the script
  have main : ∀ H : Hp, Only H → SqL K H sa (zs.map V.int) → HOk Pg wd H s1.heap → (∀ b, H b ≠ none → b = sa) → (H sa ≠ none → K.lookup sa = none) →
      codeAny (model Pg wd) callerA (.call (.ref fa) ⟨[.ref sa], []⟩) (fun r s' => r = .ok (.ret (.bool true)) ∧ OldK s1.heap s'.heap ∧ s'.os = s1.os ∧ AllBare s'.gens) s1 := by
    intro H only sq hok one out
    let G0 := hidT s1.heap H
    have not_sa : ∀ {b : Addr}, b ≠ sa → H b = none := fun {b} hb => Classical.byContradiction fun z => hb (one b z)
    have up : ∀ {b : Addr} {o : Obj}, s1.heap.get? b = some o → H b = none → G0.get? b = some o := fun z n => hidT_get z n
    have ns : ∀ {b : Addr} {m : Str → Option Value}, s1.heap.Ns b m → G0.Ns b m := by
      rintro b m ⟨o, es, ep, z, d, r⟩
      refine ⟨o, es, ep, up z (not_sa fun hb => ?_), d, r⟩
      subst hb
      rw [so] at z
      cases z
      exact Data.noConfusion d
    have kin : K.In G0 := fun b o z => up (inK b o z) (Classical.byContradiction fun q => by
      obtain rfl := one b q
      rw [out q] at z; cases z)
    have md : Mod K mm G0 := ⟨kin, ns gN, ⟨mb, ns bN, hbb⟩, by obtain ⟨mc, a1, a2⟩ := nl; exact ⟨mc, ns a1, a2⟩⟩
    have e0 : Env0 Pg wd K mm G0 callerA [] s1 H := ⟨rfl, md, fun b o z => of_hidT z, Nat.le_of_eq (hidT_size _ _), trivial, fun b z => (by cases z), hok, .of_eq hg⟩
    have go := (F _ kin (ns gN)).run callerA [] s1 H ⟨[.ref sa], []⟩ [.ref sa] [.ref sa] _ _ rfl hr e0 (bnd s1 (.ref sa)) (.cons rfl .nil) (hsp H only sq)
    refine codeAny_mono go fun r s' z => ?_
    match r, z with
    | .error e, z => exact (hcx H e s' z).elim
    | .ok .next, z => exact z.elim
    | .ok .brk, z => exact z.elim
    | .ok .cont, z => exact z.elim
    | .ok (.ret u), ⟨v, H', os, bare, un, hok', rr, q⟩ =>
      obtain rfl : v = .bl true := q
      obtain rfl : u = Value.bool true := rr
      refine ⟨rfl, OldK.of_keep fun b o z => ?_, os, bare⟩
      rcases only b with n | ⟨ob, xs, n⟩
      · exact un.keep b o z n (fun y => by cases y) (by simp)
      · have a1 := (hok b _ n).1
        have a2 := (hok' b _ (un.frzs b ob _ n)).1
        rw [z] at a1; cases a1
        exact a2
  cases hk : K.lookup sa with
  | some o =>
    have z := inK sa o hk
    rw [so] at z
    cases z
    refine main (fun _ => none) (fun _ => .inl rfl) (.inr ⟨_, ul.toArray, _, hk, rfl, rfl, rfl, ?_, by simpa using rv⟩) (fun b u y => ?_) (fun b y => absurd rfl y) (fun y => absurd rfl y)
    · rw [List.size_toArray, hi.length]; exact hl
    · exact absurd (show (none : Option HO) = some u from y) (by simp)
  | none =>
    have at_sa : ∀ {α : Type} {a b : α}, (if sa = sa then a else b) = a := if_pos rfl
    refine main (fun b => if b = sa then some (.frz { cls := .type "list", data := .seq ul.toArray } (.lst (zs.map V.int))) else none) (fun b => ?_) (.inl (.inr ⟨_, if_pos rfl⟩)) (fun b u y => ?_) (fun b y => Classical.byContradiction fun hb => y (if_neg hb)) (fun _ => hk)
    · by_cases hb : b = sa
      · exact .inr ⟨_, _, if_pos hb⟩
      · exact .inl (if_neg hb)
    · by_cases hb : b = sa
      · subst hb
        have y' := (if_pos rfl).symm.trans y
        cases y'
        exact ⟨so, by rw [List.length_map]; exact hl, ul, _, rv, so⟩
      · have y' := (if_neg hb).symm.trans y
        cases y'
end
theorem walkG_of {l : PySem.W.OpenLaw} {n lv : Nat} {q : Program} {loose : List Str} {XP : (Str → Option Value) → Heap → Prop} {YP : World → Heap → Prop} {d : DefRec} {K : Params → PySem.W.Frag} {cx : World → CXT} {sp : World → Sp} {x : Str}
    (hn : l.most = some n) (hn2 : n ≤ sizeLine) (hdf : d.params.defaults = []) (hr : Room lv callerA) (hY : ∀ (wd : World) (h : Heap), YP wd h → (K wd.params).In h)
    (F : ∀ (wd : World) (mm : Str → Option Value) (fa : Addr) (h : Heap), (K wd.params).In h → h.Ns mainGlobals mm → mm d.name = some (.ref fa) →
      ∃ fd : FuncData, (∀ (s : Shared) (u : Value), BindsTo s fd ⟨[u], []⟩ [(x, u)]) ∧ ∀ bh : Heap, (K wd.params).In bh → bh.Ns mainGlobals mm → FnG l.prog wd (K wd.params) mm bh (cx wd) lv fa fd [x] (sp wd))
    (hsp : ∀ (wd : World) (H : Hp) (a : Addr) (zs : List Int), zs.length ≤ n → (∀ z ∈ zs, Builtin.Int.intBits z ≤ 1048576) → Only H → SqL (K wd.params) H a (zs.map V.int) → sp wd [.ref a] H (fun v _ => v = .bl true) fun _ _ _ => False)
    (hcx : ∀ (wd : World) (H : Hp) (s : Shared) (e : Value) (s' : Shared), cx wd [] H s (fun _ _ _ => False) e s' → False) : PySem.W.WalkO q loose XP YP l.row.toRowW d [] (fun f vs => PySem.call f vs) := by
  refine Att.attach_callB hn hdf fun wd s0 s1 mm mb fa o pm cd doc a ul zs G Y _ _ _ hmg so hi hlen hbits hg => ?_
  obtain ⟨fd, bnd, hF⟩ := F wd mm fa _ (hY wd _ Y) G.T.g hmg
  exact lawG_call (hY wd _ Y) G.T.g G.T.b G.T.builtins G.T.nolimit hg so hi (Nat.le_trans hlen hn2) hr hF bnd (fun H hO hS => hsp wd H a zs hlen hbits hO hS) fun H e s' => hcx wd H s1 e s'
end Bp

/-! ## classes: a method asked of an instance, an instance made (in the manner of pe_meth, pe_make) -/
namespace Bp
open PySem L2 PySem.Spec PyProof.Rows

theorem meth_late {prog : Program} {w : World} {A : Around} {E : Value → Shared → Prop} {s : Shared} {env : Env} {o : Expr} {name : Str} {apos pos : Pos} {args : List Expr} {Q : Value → Shared → Prop}
    (hbase : attributeBase o name env (eval o env) = eval o env)
    (hfew : ((backTo pos (starEach args env)).all (fun x => !x.1) && (backToKw pos (keywordEach [] env)).all (fun x => x.1.isSome)
      && decide (args.length + ([] : List Keyword).length + (if ([] : List Keyword).isEmpty then 0 else 1) < 30)) = true)
    (hline : (apos.endLine == pos.line) = true)
    (h : wpAny (model prog w) A (eval o env) (fun ov s₁ => ∀ pl : Sem Bool, wpAny (model prog w) A (getMethod ov name pl) (fun p s₂ => wpAny (model prog w) A (callWith pos p.1 p.2 (backTo pos (starEach args env)) (backToKw pos (keywordEach [] env))) Q E s₂) E s₁) E s) :
    wpAny (model prog w) A (eval (.Call (.Attribute o name apos) args [] pos) env) Q E s := by
  rw [arm_eval_Call, hbase]
  refine wpAny_bind (wpAny_mono h (fun ov s₁ h₁ => ?_) fun _ _ e => e)
  refine wpAny_bind (wpAny_standAt ?_)
  have hform : methodCallForm (args.length + ([] : List Keyword).length) (backTo pos (starEach args env)) (backToKw pos (keywordEach [] env)) = true := hfew
  have hpos : methodCallPos true o env apos pos = pure pos := by unfold methodCallPos; simp [hline]
  unfold methodCall
  rw [hform]
  refine wpAny_bind (wpAny_holding (wpAny_mono (h₁ _) (fun p s₂ h₂ => ?_) fun _ _ e => e))
  exact wpAny_bind (wpAny_of_eq hpos h₂)

section
variable {X : Cx} {cx : CXT} {lv : Nat} {E : L2.St → XK} {m x : Str} {p pos apos : Pos} {e o : Expr} {es : List Expr} {ta : TE} {t : TA}
/-- o.m(e, ..), the class told by the instance -/
def tMethG (X : Cx) (cx : CXT) (lv : Nat) (m : Str) (E : L2.St → XK) (ta : TE) (t : TA) : TE := fun σ H Q => ta σ H fun x H1 => ∃ a C dx fs f fd prm sp, x = .ref a ∧ H1 a = some (.ins C dx fs) ∧ fs.lookup m = none ∧ Cls X.K C ∧ Meth X.K C m f ∧
  FnG X.prog X.w X.K X.mg X.base cx lv f fd prm sp ∧ L2.Binds X.K fd prm [] ∧ t σ H1 fun vs H2 => sp (x :: vs) H2 Q (E σ)
theorem pe_methG (he : PE X o ta) (gd : X.A.guards = some []) (hr : Room lv X.A) (px : ∀ σ, PassesAt cx X σ (E σ)) (ha : PA X (e :: es) t) (hbase : attributeBase o m X.env (eval o X.env) = eval o X.env)
    (hfew : ((backTo pos (starEach (e :: es) X.env)).all (fun x => !x.1) && (backToKw pos (keywordEach [] X.env)).all (fun x => x.1.isSome)
      && decide ((e :: es).length + ([] : List Keyword).length + (if ([] : List Keyword).isEmpty then 0 else 1) < 30)) = true)
    (hline : (apos.endLine == pos.line) = true) (hst : starEach (e :: es) X.env = (false, eval e X.env) :: starEach es X.env) (hpl : (backTo pos (starEach es X.env)).any (·.1) = false) :
    PE X (.Call (.Attribute o m apos) (e :: es) [] pos) (tMethG X cx lv m E ta t) := by
  refine ⟨fun pins s σ H Q I h => ?_⟩
  refine meth_late hbase hfew hline (thn (he.run pins s σ H _ I h) fun u s1 ⟨x, H1, I1, rx, a, C, dx, fs, f, fd, prm, sp, ex, ea, l, c, hm, F, hb, q⟩ pl => ?_)
  subst ex
  obtain rfl : u = Value.ref a := rx
  refine getmeth_ok I1 ea c hm l ?_
  refine PySem.W.callWith_K (first := [.ref a]) (h₀ := X.base) I.ok.mod.kin hm.kp (thn (ha.run pos pins s1 σ H1 _ I1 q) fun us s2 ⟨vs, H2, I2, r, q2⟩ => ⟨I2.kIn, ?_⟩) hst hpl
  exact run_g (ul := .ref a :: us) (ws := .ref a :: vs) F gd hr hb (fun e st' c => px σ pins H2 s2 e st' I2 c) I2 (.cons rfl r) q2
theorem pe_methG0 (he : PE X o ta) (gd : X.A.guards = some []) (hr : Room lv X.A) (px : ∀ σ, PassesAt cx X σ (E σ)) (hbase : attributeBase o m X.env (eval o X.env) = eval o X.env)
    (hline : (apos.endLine == pos.line) = true) :
    PE X (.Call (.Attribute o m apos) [] [] pos) (tMethG X cx lv m E ta tNil) := by
  refine ⟨fun pins s σ H Q I h => ?_⟩
  refine meth_late hbase rfl hline (thn (he.run pins s σ H _ I h) fun u s1 ⟨x, H1, I1, rx, a, C, dx, fs, f, fd, prm, sp, ex, ea, l, c, hm, F, hb, q⟩ pl => ?_)
  subst ex
  obtain rfl : u = Value.ref a := rx
  refine getmeth_ok I1 ea c hm l ?_
  exact PySem.W.callWith_K0 (first := [.ref a]) I1.kIn hm.kp (run_g (ul := [.ref a]) (ws := [.ref a]) F gd hr hb (fun e st' c => px σ pins H1 s1 e st' I1 c) I1 (.cons rfl .nil) q)

/-- o.m(e, ..) within an except suite -/
def tMethGH (X : Cx) (lv : Nat) (m : Str) (E : L2.St → XK) (ta : TE) (t : TA) : TE := fun σ H Q => ta σ H fun x H1 => ∃ a C dx fs f fd prm sp, x = .ref a ∧ H1 a = some (.ins C dx fs) ∧ fs.lookup m = none ∧ Cls X.K C ∧ Meth X.K C m f ∧
  L2H.FnH X.prog X.w X.K X.mg X.base CX0 lv f fd prm sp ∧ L2.Binds X.K fd prm [] ∧ t σ H1 fun vs H2 => sp (x :: vs) H2 Q (E σ)
theorem pe_methGH (he : PE X o ta) (hr : L2H.RoomH lv X.A) (hc : L2H.HotC X) (px : ∀ σ, PassesAt CX0 X σ (E σ)) (ha : PA X (e :: es) t) (hbase : attributeBase o m X.env (eval o X.env) = eval o X.env)
    (hfew : ((backTo pos (starEach (e :: es) X.env)).all (fun x => !x.1) && (backToKw pos (keywordEach [] X.env)).all (fun x => x.1.isSome)
      && decide ((e :: es).length + ([] : List Keyword).length + (if ([] : List Keyword).isEmpty then 0 else 1) < 30)) = true)
    (hline : (apos.endLine == pos.line) = true) (hst : starEach (e :: es) X.env = (false, eval e X.env) :: starEach es X.env) (hpl : (backTo pos (starEach es X.env)).any (·.1) = false) :
    PE X (.Call (.Attribute o m apos) (e :: es) [] pos) (tMethGH X lv m E ta t) := by
  refine ⟨fun pins s σ H Q I h => ?_⟩
  refine meth_late hbase hfew hline (thn (he.run pins s σ H _ I h) fun u s1 ⟨x, H1, I1, rx, a, C, dx, fs, f, fd, prm, sp, ex, ea, l, c, hm, F, hb, q⟩ pl => ?_)
  subst ex
  obtain rfl : u = Value.ref a := rx
  refine getmeth_ok I1 ea c hm l ?_
  refine PySem.W.callWith_K (first := [.ref a]) (h₀ := X.base) I.ok.mod.kin hm.kp (thn (ha.run pos pins s1 σ H1 _ I1 q) fun us s2 ⟨vs, H2, I2, r, q2⟩ => ⟨I2.kIn, ?_⟩) hst hpl
  exact L2H.run_fnH (us := .ref a :: us) (vs := .ref a :: vs) F hr hc hb (px σ) I2 (.cons rfl r) q2
variable {C f : Addr} {fd : FuncData} {prm : List Str} {sp : Sp}
theorem run_makeG {pins : List (Addr × Obj)} {σ : L2.St} {H : Hp} {s : Shared} {Q : VK} {us : List Value} {vs : List V} (M : Mk X.K C f) (F : FnG X.prog X.w X.K X.mg X.base cx lv f fd prm sp) (gd : X.A.guards = some []) (hr : Room (lv + 1) X.A) (hb : L2.Binds X.K fd prm [])
    (hx : ∀ σ, PassesAt cx X σ (E σ)) (I : L2.Inv X pins σ H s) (r : Vals vs us)
    (h : ∀ x dx, H x = none → H dx = none → dx ≠ x → sp (.ref x :: vs) (upd (upd H dx (.own x)) x (.ins C dx [])) (fun v H2 => v = .non ∧ Q (.ref x) H2) (E σ)) :
    wpAny (model X.prog X.w) X.A (call (.ref C) us) (EP X pins σ Q) X.xe s := by
  have hq := h (s.heap.objs.size + 1) s.heap.objs.size (I.hok.fresh (Nat.le_succ _)) (I.hok.fresh (Nat.le_refl _)) (Nat.ne_of_lt (Nat.lt_succ_self _))
  have I2 := Inv.made (C := C) I
  have r2 : Vals (V.ref (s.heap.objs.size + 1) :: vs) (Value.ref (s.heap.objs.size + 1) :: us) := .cons rfl r
  have hl : (Value.ref (s.heap.objs.size + 1) :: us).length = prm.length := by
    have e := r2.length
    rw [F.len _ _ _ _ hq] at e
    exact e.symm
  have b1 := hb _ (Value.ref (s.heap.objs.size + 1) :: us) I2.kIn (by rw [List.append_nil]; exact hl)
  rw [List.append_nil] at b1
  refine wpAny_call (make_map (f := f) I.kIn M.makes M.init (beq_iff_eq.mp M.fn) (codeAny_mono (F.run _ X.stack _ _ ⟨Value.ref (s.heap.objs.size + 1) :: us, []⟩ (Value.ref (s.heap.objs.size + 1) :: us) _ _ (E σ) gd (hr.make C us [])
    (I2.env0.make C us []) b1 r2 hq) fun r s' hq' => ?_))
  cases r with
  | error e => exact hx σ pins _ _ e s' I2 hq'
  | ok fl =>
    cases fl with
    | ret u =>
      obtain ⟨v, H', I3, rv, ev, q3⟩ := I2.after hq'
      subst ev
      exact ⟨rv, ⟨V.ref (s.heap.objs.size + 1), H', I3, rfl, q3⟩⟩
    | next => exact False.elim hq'
    | brk => exact False.elim hq'
    | cont => exact False.elim hq'
def tMakeS (C : Addr) (sp : Sp) (dvs : List V) (E : L2.St → XK) (t : TA) : TE := fun σ H Q => t σ H fun vs H1 => ∀ x dx, H1 x = none → H1 dx = none → dx ≠ x →
  sp (.ref x :: (vs ++ dvs)) (upd (upd H1 dx (.own x)) x (.ins C dx [])) (fun v H2 => v = .non ∧ Q (.ref x) H2) (E σ)
theorem pe_makeG (M : Mk X.K C f) (F : FnG X.prog X.w X.K X.mg X.base cx lv f fd prm sp) (gd : X.A.guards = some []) (hr : Room (lv + 1) X.A) (hg : Gl X x) (hm : X.mg x = some (.ref C)) (hb : L2.Binds X.K fd prm []) (hx : ∀ σ, PassesAt cx X σ (E σ))
    (ha : PA X (e :: es) t) (hdb : (x == ("__debug__" : Str)) = false) (he : starEach (e :: es) X.env = (false, eval e X.env) :: starEach es X.env) (hpl : (backTo pos (starEach es X.env)).any (·.1) = false) :
    PE X (.Call (.Name x p) (e :: es) [] pos) (tMakeS C sp [] E t) := by
  refine ⟨fun pins s σ H Q I h => ?_⟩
  refine wpAny_Call_Name_kw (ld_glob I hg hm ?_ hdb)
  refine PySem.W.callWith_K (h₀ := X.base) I.ok.mod.kin M.kp (thn (ha.run pos pins s σ H _ I h) fun us s1 ⟨vs, H1, I1, r, q⟩ => ⟨I1.kIn, ?_⟩) he hpl
  exact run_makeG M F gd hr hb hx I1 r (fun a b c d e => by have z := q a b c d e; rw [List.append_nil] at z; exact z)
theorem pe_makeG0 (M : Mk X.K C f) (F : FnG X.prog X.w X.K X.mg X.base cx lv f fd prm sp) (gd : X.A.guards = some []) (hr : Room (lv + 1) X.A) (hg : Gl X x) (hm : X.mg x = some (.ref C)) (hb : L2.Binds X.K fd prm []) (hx : ∀ σ, PassesAt cx X σ (E σ))
    (hdb : (x == ("__debug__" : Str)) = false) : PE X (.Call (.Name x p) [] [] pos) (tMakeS C sp [] E tNil) := by
  refine ⟨fun pins s σ H Q I h => ?_⟩
  refine wpAny_Call_Name_kw (ld_glob I hg hm ?_ hdb)
  exact PySem.W.callWith_K0 I.kIn M.kp (run_makeG (us := []) M F gd hr hb hx I .nil (fun a b c d e => by have z := h a b c d e; rw [List.append_nil] at z; exact z))
end
end Bp

/-! ## methods and built-ins of the machine that the hand layer lacks -/
namespace Bp
open PySem L2 PySem.Spec PyProof.Rows
section
variable {X : Cx}
/-- str of lists and tuples -/
def rStrD (K : PySem.W.Frag) : List V → Hp → VK → Prop := fun xs H Q => ∃ a p, xs = [.ref a] ∧ Dp K H (.ref a) p ∧ p.showable = true ∧ SeqAt.shaped p = true ∧ p.shown.length ≤ sizeLine ∧ Q (.str p.shown) H
theorem call_strD (gd : X.A.guards = some []) (hu : X.A.units + 70 < cLine) : CallR X (.type "str") (rStrD X.K) := by
  intro pins st σ H xs us Q I r h
  obtain ⟨a, p, rfl, dp, hs, sh, hl, q⟩ := h
  obtain rfl := Vals.ref1 r
  obtain ⟨as, rd⟩ := Dp.reads I p (.ref a) (.ref a) dp rfl
  have hd := SeqAt.depth_of_shaped sh
  exact str_of_reads rd hs (PyData.noDict_hsm (PyData.hasDict_of_canLay p (SeqAt.canLay_of_shaped sh))) gd (by omega) (fun _ _ z => z) (fun h' u tk kp => ⟨.str p.shown, H, I.kept kp, ⟨u, rfl⟩, q⟩) hl
theorem call_reprD (gd : X.A.guards = some []) (hu : X.A.units + 70 < cLine) : CallR X (.builtin "repr") (rStrD X.K) := by
  intro pins st σ H xs us Q I r h
  obtain ⟨a, p, rfl, dp, hs, sh, hl, q⟩ := h
  obtain rfl := Vals.ref1 r
  obtain ⟨as, rd⟩ := Dp.reads I p (.ref a) (.ref a) dp rfl
  have hd := SeqAt.depth_of_shaped sh
  exact repr_of_reads' rd hs (PyData.noDict_hsm (PyData.hasDict_of_canLay p (SeqAt.canLay_of_shaped sh))) gd (by omega) (fun _ _ z => z) (fun h' u tk kp => ⟨.str p.shown, H, I.kept kp, ⟨u, rfl⟩, q⟩) hl
/-- list.remove of a flat value -/
def rRemF : V → List V → Hp → VK → Prop := fun x xs H Q => ∃ (l : Addr) (ys : List V) (y z : V) (j : Nat), x = .ref l ∧ xs = [y] ∧ H l = some (.lst ys) ∧ flatV y = true ∧ ys.all flatV = true ∧ ys[j]? = some z ∧ eqV z y = true ∧
  (∀ (m : Nat) (z' : V), m < j → ys[m]? = some z' → eqV z' y = false) ∧ Q .non (upd H l (.lst (ys.eraseIdx j)))
theorem mt_removeF : MtM X "list.remove" rRemF := by
  intro pins st σ H x xs v us Q I rx rxs h
  obtain ⟨l, ys, y, z, j, rfl, rfl, hH, fy, fys, hz, hzj, hno, q⟩ := h
  cases rx
  obtain ⟨u, rfl, ru⟩ := rxs.one
  obtain ⟨zl, its, n, rv, hl, e⟩ := I.lstM hH
  obtain ⟨u1, hu1, ru1⟩ := rv.get hz
  obtain ⟨hjl, hje⟩ := List.getElem?_eq_some_iff.mp hu1
  refine call_meets PySem.F.slot_list_remove ⟨_, e, rfl⟩ PySem.F.entry_list_remove (PySem.F.args_list_remove_2 _ _)
    (SeqAt.list_removeAt l its.toArray n none #[] u (L2.eqU y) j (by simpa using hjl) ?_ ?_ (by rw [List.size_toArray, ← hl]; exact zl)) ⟨e, fun u' hu' => mem_eqAt ru fy rv fys u' (by simpa using hu'), ?_⟩
  · have e1 : its.toArray[j] = u1 := by simpa using hje
    rw [e1, eqU_of ru1 (flat_at fys hz)]
    exact hzj
  · intro m hm hmj
    have hmy : m < ys.length := by rw [hl]; simpa using hm
    have hy' : ys[m]? = some ys[m] := List.getElem?_eq_getElem hmy
    obtain ⟨u2, hu2, ru2⟩ := rv.get hy'
    obtain ⟨_, hme⟩ := List.getElem?_eq_some_iff.mp hu2
    have e1 : its.toArray[m] = u2 := by simpa using hme
    rw [e1, eqU_of ru2 (flat_at fys hy')]
    exact hno m _ hmj hy'
  · refine ⟨.non, _, I.lset (its' := its.eraseIdx j) (t' := st.toks) hH e ?_ (rv.eraseIdx j) ?_, rfl, q⟩
    · rw [List.eraseIdxIfInBounds_toArray]
    · have := List.length_eraseIdx_le ys j
      omega
end
end Bp

/-! ## dicts and conversions of the machine that the hand layer lacks -/
namespace PySem.AutoSeq1
open PySem PySem.Calls PyProof.Rows
theorem ext_tup (l : Addr) (xs : Array Value) (n : Nat) (b : Addr) (ys : Array Value) (n2 : Nat) (dd : Option Addr) (sl : Array (Option Value)) (h0 : ¬(!xs.isEmpty && Builtin.List.listTooLong (xs.size + ys.size)) = true) (h1 : xs.size ≤ sizeLine) (h2 : xs.size + ys.size ≤ sizeLine + 1) :
    Meets (Builtin.«list.extend» ⟨[.ref l, .ref b], []⟩) (fun _ R s => s.heap.get? l = some { cls := .type "list", data := .seq xs n } ∧ s.heap.get? b = some { cls := .type "tuple", dict := dd, data := .seq ys n2, slots := sl } ∧ R (.ok (.ret Value.none)) { s with heap := s.heap.update l (Obj.mapSeq fun x => x ++ ys), toks := s.toks }) :=
  .of_wp fun prog w A R s h => by
    obtain ⟨hp, g, d, tk, os⟩ := s
    obtain ⟨hl, hb, h⟩ := h
    have z1 := idx_int
    have z2 := sub_tuple_tuple
    have z3 := sub_list_list
    have z4 := sub_tuple_list
    have z5 := sub_list_tuple
    have z6 : (xs ++ ys).size ≤ sizeLine + 1 := by rw [Array.size_append]; exact h2
    wp_walk using (wpAny_updateSeq hl rfl (hz := h1) (_hz' := z6)), wpAny_loadPart' hl, wpAny_loadPart' hb
    exact ⟨_, rfl, h⟩
end PySem.AutoSeq1
namespace Bp
open PySem L2 PySem.Spec PyProof.Rows
section
variable {X : Cx}
/-- d.update(e), e another dict -/
def rUpd : V → List V → Hp → VK → Prop := fun x xs H Q => ∃ (a b : Addr) (kvs more : List (Key × V)), x = .ref a ∧ xs = [.ref b] ∧ a ≠ b ∧ H a = some (.dK kvs) ∧ H b = some (.dK more) ∧ kvs.length + more.length ≤ sizeLine ∧ Q .non (upd H a (.dK (mergeK kvs more)))
theorem mt_upd : MtR X "dict.update" rUpd := by
  intro pins st σ H x xs v us Q I rx rv h
  obtain ⟨a, b, kvs, more, rfl, rfl, hne, ea, eb, hl, q⟩ := h
  cases rx
  obtain ⟨u, rfl, ru⟩ := rv.one
  cases ru
  obtain ⟨z1, d1, v1, r1, k1⟩ := dk_of I.hok ea
  obtain ⟨z2, d2, v2, r2, k2⟩ := dk_of I.hok eb
  refine call_meetsIn PySem.F.slot_dict_update k1.typeIs PySem.F.entry_dict_update (PySem.F.args_dict_update_2 _ _) (meets_dict_update (mixKind X.prog X.w) a b hne d2) ⟨v1, v2, k1, k2, by rw [← r1.length, ← r2.length]; exact hl, fun h' k' _ hs => ?_⟩
  have there : ∃ q, h'.get? a = some q := let ⟨q, _, _, hq, _⟩ := k'; ⟨q, hq⟩
  exact ⟨.non, _, d_write (t' := st.toks) I (by rw [ea]; exact True.intro) hs there (dk_new (Nat.le_trans (length_mergeK _ _) hl) d1 (KV.merge r2 r1) k'), rfl, q⟩
end
/-! ### list(reversed(x)) -/
section
variable {prog : Program} {w : World} {A : Around} {E : Value → Shared → Prop} {s : Shared}
theorem ext_rev {it l S : Addr} {items : Array Value} {res : Value} {R : Result → Shared → Prop} (hh : A.handled = none) (hit : s.heap.IsRevIter it l ((items.size : Int) - 1)) (hl : s.heap.IsList l items) (hne : l ≠ it) (hn : items.size ≤ sizeLine) (hSi : S ≠ it) (hSl : S ≠ l) {c0 : Nat} (hS : s.heap.get? S = some { cls := .type "list", data := .seq #[] c0 })
    (hR : ∀ h' tk acc c, (∀ b o, b ≠ S → b ≠ it → s.heap.get? b = some o → h'.get? b = some o) → h'.get? S = some { cls := .type "list", dict := none, data := .seq acc c, slots := #[] } → ItemsOf (fun i v => items[items.size - 1 - i]? = some v) acc items.size → R (.ok (.ret res)) { s with heap := h', toks := tk }) :
    wpAny (model prog w) A.in1 (Builtin.List.listExtendWith (.ref S) (.ref it) res) (fun fin s' => match fin with | .done f => R (.ok f) s' | .again c' => c'.quiet = true ∧ codeAny (model prog w) A c' R s') (fun e s' => R (.error e) s') s := by
  have walk := (Walks.listRev (prog := prog) (w := w) (A := A.in1) hh it l hne items).toS
  have out : S ∉ [it, l] := by
    intro z
    rcases List.mem_cons.mp z with z | z
    · exact hSi z
    · exact hSl (List.mem_singleton.mp z)
  have ty : s.TypeIs (.ref it) "list_reverseiterator" := hit.typeIs
  have ne1 : Builtin.List.listSameRef (.ref S) (.ref it) = false := by simp [Builtin.List.listSameRef, hSi]
  unfold Builtin.List.listExtendWith
  refine wpAny_bind (wpAny_typeOf ty ?_)
  rw [if_neg (by rw [ne1]; decide)]
  refine wpAny_bind (wpAny_pyIter_revIter hit ?_)
  refine wpAny_bind (wpAny_holding ?_)
  unfold Builtin.List.listLengthHint
  refine wpAny_bind (wpAny_specialOf ty RT.nolen_lri ?_)
  show wpAny _ A.in1 (specialOf (.ref it) (Str.ofString "__length_hint__") >>= _) _ _ _
  refine wpAny_bind (wpAny_specialOf ty RT.hint_lri ?_)
  generalize hid : ("list_reverseiterator.__length_hint__" : String) = nm
  wp_delta
  rw [show splitId nm = some ("list_reverseiterator", "__length_hint__") from by subst hid; decide +kernel]
  subst hid
  refine wpAny_bind (wpAny_isInstance (b := true) ty (by rw [isSubtype_type]; kernel_rfl) ?_)
  refine wpAny_pure ?_
  rw [if_neg (by decide)]
  refine wpAny_pure ⟨plainId_quiet F.plain_extend_loop _, codeAny_extend_loopS walk hn S out _ items.size 0 _ #[] c0 rfl (Nat.zero_le _) ⟨Nat.zero_le _, by simpa using hit, hl⟩ hS (ItemsOf.nil _) fun s' acc c hm hS' hacc => ?_⟩
  rw [Moved.eq_with hm]
  refine hR s'.heap s'.toks acc c (fun b o hb hb' e => hm.heap b o (fun z => ?_) e) hS' hacc
  rcases List.mem_cons.mp z with z | z
  · exact hb z
  · exact hb' (List.mem_singleton.mp z)
theorem call_list_rev {it l : Addr} {items : Array Value} {Q : Value → Shared → Prop} (hh : A.handled = none) (hit : s.heap.IsRevIter it l ((items.size : Int) - 1)) (hl : s.heap.IsList l items) (hne : l ≠ it) (hn : items.size ≤ sizeLine)
    (hQ : ∀ h' tk acc c, (∀ b o, b ≠ it → s.heap.get? b = some o → h'.get? b = some o) → h'.get? s.heap.objs.size = some { cls := .type "list", dict := none, data := .seq acc c, slots := #[] } → ItemsOf (fun i v => items[items.size - 1 - i]? = some v) acc items.size → Q (.ref s.heap.objs.size) { s with heap := h', toks := tk }) :
    wpAny (model prog w) A (call (.type "list") [.ref it]) Q E s := by
  obtain ⟨oi, hoi, _⟩ := id hit
  obtain ⟨ol, hol, _⟩ := id hl
  refine callType_codes (Q₁ := fun v t => v = .ref s.heap.objs.size ∧ t = { s with heap := s.heap.push { cls := .type "list", data := .seq #[] } }) F.called_list (F.typeCall_list_1 _) F.entry_list_init (code_list_new _ ⟨rfl, rfl⟩) fun v t ht => ?_
  obtain ⟨rfl, rfl⟩ := ht
  have hS : (s.heap.push { cls := .type "list", data := .seq #[] }).get? s.heap.objs.size = some { cls := .type "list", data := .seq #[] } := Heap.get?_push_size _ rfl
  refine ⟨⟨_, hS, rfl⟩, F.args_list_init_2 _ _, ?_⟩
  show wpAny _ A.in1.in1 (do let old ← Builtin.List.listItems (.ref s.heap.objs.size); Builtin.List.listUpdate (.ref s.heap.objs.size) (fun _ => #[]); letGo old.toList.reverse; Builtin.List.listExtendWith (.ref s.heap.objs.size) (.ref it) .none) _ _ _
  refine wpAny_bind ?_
  unfold Builtin.List.listItems
  refine wpAny_bind (wpAny_seqItems hS rfl (wpAny_pure ?_))
  show wpAny _ A.in1.in1 (updateSeq s.heap.objs.size (fun _ => #[]) >>= fun _ => letGo (#[] : Array Value).toList.reverse >>= fun _ => Builtin.List.listExtendWith (.ref s.heap.objs.size) (.ref it) .none) _ _ _
  refine wpAny_bind (wpAny_updateSeq hS rfl ?_)
  have hS2 := Heap.get?_update_self (Obj.mapSeq (fun _ => (#[] : Array Value))) hS rfl
  have oth : ∀ b o, s.heap.get? b = some o → ((s.heap.push { cls := .type "list", data := .seq #[] }).update s.heap.objs.size (Obj.mapSeq (fun _ => (#[] : Array Value)))).get? b = some o := fun b o e =>
    (Heap.get?_update_other _ _ (Nat.ne_of_gt (Heap.lt_size e))).trans (Heap.get?_push_of_some _ e)
  refine wpAny_bind (wpAny_letGo ?_)
  refine ext_rev (A := A.in1) hh (hit.at fun o e => oth _ o e) (hl.at fun o e => oth _ o e) hne hn (Nat.ne_of_gt (Heap.lt_size hoi)) (Nat.ne_of_gt (Heap.lt_size hol)) hS2 fun h' tk acc c hk hS' hacc => ⟨rfl, hQ h' tk acc c (fun b o hb e => hk b o (Nat.ne_of_lt (Heap.lt_size e)) hb (oth b o e)) hS' hacc⟩
end
def tLstRev (K : PySem.W.Frag) (te : TE) : TE := fun σ H Q => te σ H fun v H1 => ∃ (a : Addr) (xs : List V), v = .ref a ∧ SqL K H1 a xs ∧ ∀ q, H1 q = none → Q (.ref q) (upd H1 q (.lst xs.reverse))
theorem boot_listR : bootBuiltins "list" = some (.type "list") := by decide +kernel
theorem pe_lstRev {X : Cx} {e : Expr} {te : TE} {p p2 pos pos2 : Pos} (hc : X.calm = true) (hg : Gl X "list") (hm : X.mg "list" = none) (hg2 : Gl X "reversed") (hm2 : X.mg "reversed" = none) (he : PE X e te)
    (st : starEach [e] X.env = (false, eval e X.env) :: starEach [] X.env) (st2 : starEach [.Call (.Name "reversed" p2) [e] [] pos2] X.env = (false, eval (.Call (.Name "reversed" p2) [e] [] pos2) X.env) :: starEach [] X.env) :
    PE X (.Call (.Name "list" p) [.Call (.Name "reversed" p2) [e] [] pos2] [] pos) (tLstRev X.K te) := by
  refine ⟨fun pins st' σ H Q I h => ?_⟩
  refine Call_ (ld_blt I hg hm boot_listR (PyProof.Rows.callWith_type1 (args_cons (Call_ (ld_blt I hg2 hm2 PyProof.Rows.boot_reversed (PyProof.Rows.callWith_type1 (args_cons (thn (he.run pins st' σ H _ I h) fun u s1 hs1 => args_nil ?_) st) st rfl))) st2) st2 rfl))
  obtain ⟨v, H1, I1, r1, a, xs, rfl, hq, q⟩ := hs1
  obtain rfl : u = Value.ref a := r1
  obtain ⟨its, rv, pl, hz⟩ := I1.list hq
  refine call_reversed_list pl.isList (args_nil ?_)
  have hl := pl.isList
  obtain ⟨ol, hol, _⟩ := id hl
  have la : a < s1.heap.objs.size := Heap.lt_size hol
  refine call_list_rev (s := { s1 with heap := s1.heap.push (revObj a ((its.toArray.size : Int) - 1)) }) (I1.ok.hd hc) ⟨_, Heap.get?_push_size _ rfl, rfl, rfl⟩ (hl.push _) (Nat.ne_of_lt la) (by rw [List.size_toArray, ← rv.length]; exact hz) fun h' tk acc c hk hS hacc => ?_
  have sz : (s1.heap.push (revObj a ((its.toArray.size : Int) - 1))).objs.size = s1.heap.objs.size + 1 := Heap.size_push _ _
  refine ⟨.ref (s1.heap.push (revObj a ((its.toArray.size : Int) - 1))).objs.size, _, I1.laid (a := (s1.heap.push (revObj a ((its.toArray.size : Int) - 1))).objs.size) (t' := tk) (fun b o e => hk b o (Nat.ne_of_lt (Heap.lt_size e)) (Heap.get?_push_of_some _ e)) (by rw [sz]; omega) (show ObjOk X.prog X.w _ _ _ (.lst xs.reverse) from ⟨by rw [List.length_reverse]; exact hz, acc.toList, c, RT.vals_rev rv hacc, ?_⟩), rfl, q _ (I1.hok.fresh (by rw [sz]; omega))⟩
  rw [Array.toArray_toList]
  exact hS
/-! ### sum(d.values()) -/
theorem preSum_of {is : List Int} : ∀ n, n ≤ is.length → preSum (fun i => is.getD i 0) n = (is.take n).sum
  | 0, _ => by simp [preSum]
  | n + 1, h => by
    have ih := preSum_of (is := is) n (by omega)
    rw [List.take_succ, List.sum_append, ← ih, List.getElem?_eq_getElem (show n < is.length by omega)]
    simp [preSum, List.getD, List.getElem?_eq_getElem (show n < is.length by omega)]
def tSumVals (td : TE) : TE := fun σ H Q => td σ H fun x H1 => ∃ (a : Addr) (kvs : List (Key × V)) (is : List Int), x = V.ref a ∧ H1 a = some (.dK kvs) ∧ kvs.map (·.2) = is.map V.int ∧ (∀ j, j ≤ is.length → InLong ((is.take j).sum)) ∧ (∀ i ∈ is, InLong i) ∧ Q (.int is.sum) H1
theorem pe_sumVals {X : Cx} {o : Expr} {td : TE} {p pos apos mpos : Pos} (hc : X.calm = true) (hg : Gl X "sum") (hm : X.mg "sum" = none) (hd : PE X o td) (hbase : attributeBase o "values" X.env (eval o X.env) = eval o X.env) (hline : (apos.endLine == mpos.line) = true)
    (st : starEach [Expr.Call (.Attribute o "values" apos) [] [] mpos] X.env = [(false, eval (Expr.Call (.Attribute o "values" apos) [] [] mpos) X.env)]) :
    PE X (.Call (.Name "sum" p) [.Call (.Attribute o "values" apos) [] [] mpos] [] pos) (tSumVals td) := by
  refine ⟨fun pins st' σ H Q I h => ?_⟩
  refine wpAny_Call_Name_kw (ld_blt I hg hm (u := .builtin "sum") (by decide +kernel) ?_)
  rw [st]
  refine PySem.callWith_builtin1 (wpAny_Call_method0_late hbase hline (thn (hd.run pins st' σ H _ I h) fun v s1 hs1 => ?_))
  obtain ⟨x, H1, I1, r1, a, kvs, is, rfl, ha, hv, hin, hin2, q⟩ := hs1
  obtain rfl : v = Value.ref a := r1
  obtain ⟨_, hsys, vs, rel, dof⟩ := dk_of I1.hok ha
  obtain ⟨ep, dat⟩ := dof.dictAt
  obtain ⟨ob, es, ho, ex, _⟩ := id dat
  refine ⟨"dict", "dict.values", F.plainAttrs_dict, F.slot_dict_values, F.type_dict_values, ⟨ob, ho, ex.1⟩, fun b e => ?_, Calls.callWith_builtin rfl (PySem.evalArgs_none ?_)⟩
  · cases e; exact ⟨ob, ho, ex.2.1⟩
  refine call_meetsIn F.slot_dict_values ⟨ob, ho, ex.1⟩ F.entry_dict_values (F.args_dict_values_1 _) (meets_dict_values (mixKind X.prog X.w) a hsys) ⟨⟨vs, dof⟩, ?_⟩
  generalize hvw : s1.heap.push { cls := .type "dict_values", data := .fields #[.ref a] } = h1
  have k1 : ∀ b u, s1.heap.get? b = some u → h1.get? b = some u := fun b u e => by rw [← hvw]; exact Heap.get?_push_of_some _ e
  have z1 : h1.objs.size = s1.heap.objs.size + 1 := by rw [← hvw]; exact Heap.size_push _ _
  have lt := Heap.lt_size ho
  have lv : vs.length = is.length := by
    have e1 := congrArg List.length hv
    rw [List.length_map, List.length_map] at e1
    rw [← e1]; exact (KV.length rel).symm
  have item : ∀ (i : Nat) (v : Value), (∃ k, vs[i]? = some (k, v)) → ∃ t, v = Value.int (is.getD i 0) t := by
    rintro i v ⟨k, hk⟩
    obtain ⟨y, g1, g2⟩ := KV.at' rel hk
    have e1 : (kvs.map (·.2))[i]? = some y := by rw [List.getElem?_map, g1]; rfl
    rw [hv, List.getElem?_map] at e1
    obtain ⟨j, hj, rfl⟩ := Option.map_eq_some_iff.mp e1
    obtain ⟨t, e3⟩ := g2
    exact ⟨t, by rw [e3, List.getD_eq_getElem?_getD, hj]; rfl⟩
  refine call_sum_walk (wpAny_pyIter_values (v := s1.heap.objs.size) (d := a) ⟨_, by rw [← hvw]; exact Heap.get?_push_size _ rfl, rfl, rfl⟩ (dat.keep k1) ?_)
  refine ⟨_, _, _, _, _, _, fun i => is.getD i 0, rfl, Walks.dictValues (knd := mixKind X.prog X.w) (A := X.A.in1) (I.ok.hd hc) h1.objs.size a (by rw [z1]; exact Nat.ne_of_lt (Nat.lt_succ_of_lt lt)) vs ep, ⟨⟨_, Heap.get?_push_size _ rfl, rfl, rfl⟩, (dat.keep k1).keep fun b u e => Heap.get?_push_of_some _ e⟩, fun b hb => ?_, item, fun j hj => ?_, fun h' tk t' hk => ?_⟩
  · show b < (h1.push _).objs.size
    rw [Heap.size_push]
    rcases List.mem_cons.mp hb with z | z
    · rw [z]; exact Nat.lt_succ_self _
    · rw [List.mem_singleton.mp z]; exact Nat.lt_succ_of_lt (by rw [z1]; exact Nat.lt_succ_of_lt lt)
  · rw [lv] at hj
    refine ⟨?_, by rw [preSum_of _ (by omega)]; exact hin _ (by omega)⟩
    show InLong (is.getD j 0)
    rw [List.getD_eq_getElem?_getD, List.getElem?_eq_getElem hj]
    exact hin2 _ (List.getElem_mem hj)
  · rw [lv, preSum_of _ (Nat.le_refl _), List.take_length]
    refine ⟨.int _, H1, I1.kept (t' := tk) fun b u e => hk b u (fun z => ?_) (Heap.get?_push_of_some _ (k1 b u e)), ⟨t', rfl⟩, q⟩
    have e2 := Heap.lt_size e
    rw [List.mem_singleton.mp z, z1] at e2
    exact absurd e2 (Nat.not_lt.mpr (Nat.le_succ _))
/-! ### list(s) -/
def rListS : List V → Hp → VK → Prop := fun xs H Q => ∃ z : Str, xs = [.str z] ∧ z.length ≤ sizeLine ∧ ∀ l, H l = none → Q (.ref l) (upd H l (.lst (z.cps.toList.map fun c => V.str ⟨#[c]⟩)))
theorem signs_vals {z : Str} {acc : Array Value} (h : ItemsOf (SignAt z) acc z.cps.size) : Vals (z.cps.toList.map fun c => V.str ⟨#[c]⟩) acc.toList := by
  refine L2.vals_of_at (by simp [h.1]) fun j y w h1 h2 => ?_
  obtain ⟨c, u, hc, rfl⟩ := h.2 j w (by rw [← Array.getElem?_toList]; exact h2)
  rw [List.getElem?_map, Array.getElem?_toList, hc] at h1
  cases h1
  exact ⟨u, rfl⟩
theorem call_listS {X : Cx} (hc : X.calm = true) : CallR X (.type "list") rListS := by
  intro pins st σ H xs us Q I r h
  obtain ⟨z, rfl, hz, q⟩ := h
  obtain ⟨u, rfl, ru⟩ := r.one
  obtain ⟨t, rfl⟩ := ru
  refine call_list_str (I.ok.hd hc) z t (fun h' tk acc c hk hS hacc => ?_) hz
  refine ⟨.ref st.heap.objs.size, _, I.laid (a := st.heap.objs.size) (t' := tk) hk (Nat.le_refl _) (show ObjOk X.prog X.w _ _ _ (.lst (z.cps.toList.map fun c => V.str ⟨#[c]⟩)) from ⟨?_, acc.toList, c, signs_vals hacc, ?_⟩), rfl, q _ (I.hok.fresh (Nat.le_refl _))⟩
  · rw [List.length_map, Array.length_toList]; exact hz
  · rw [Array.toArray_toList]; exact hS
/-! ### d != {} -/
def rNe0 : R2 := fun x y H Q => ∃ a b ks, x = .ref a ∧ y = .ref b ∧ H a = some (.dK ks) ∧ H b = some (.dK []) ∧ Q (.bl (!ks.isEmpty)) H
theorem op_ne0 {X : Cx} (hu : X.A.units < cLine) : OpR X (compareOp .NotEq) rNe0 := by
  intro pins s σ H x y v u Q I rx ry h
  obtain ⟨a, b, ks, rfl, rfl, ea, eb, q⟩ := h
  obtain rfl : v = Value.ref a := rx
  obtain rfl : u = Value.ref b := ry
  obtain ⟨_, za, va, la, ga⟩ := (show ObjOk X.prog X.w H s.heap a (.dK ks) from I.hok a _ ea)
  obtain ⟨_, zb, vb, lb, gb⟩ := (show ObjOk X.prog X.w H s.heap b (.dK []) from I.hok b _ eb)
  have l1 : va.length = ks.length := la.length.symm
  have l2 : vb.length = 0 := lb.length.symm
  have l3 : (!(va.length == vb.length && true)) = !ks.isEmpty := by
    rw [l1, l2]; cases ks <;> rfl
  refine PySem.W.keq_ne (knd := mixKind X.prog X.w) (r := true) za zb ga gb hu (fun e => ?_) (fin_bl I q l3.symm)
  have : va = [] := List.length_eq_zero_iff.mp (by rw [e, l2])
  subst this
  exact .nil
/-! ### xs.extend(t) of a tuple -/
def rExtT (K : PySem.W.Frag) : V → List V → Hp → VK → Prop := fun x vs H Q => rExtend x vs H Q ∨ ∃ l b xs zs, x = .ref l ∧ vs = [.ref b] ∧ H l = some (.lst xs) ∧ SqT K H b zs ∧ xs.length + zs.length ≤ sizeLine ∧ Q .non (upd H l (.lst (xs ++ zs)))
theorem mt_extT {X : Cx} : MtM X "list.extend" (rExtT X.K) := by
  intro pins s σ H x vs v us Q I rx rv h
  rcases h with h | h
  · exact mt_extend pins s σ H _ _ _ _ Q I rx rv h
  · obtain ⟨l, b, xs, zs, rfl, rfl, hH, hB, hz, q⟩ := h
    cases rx
    obtain ⟨u, rfl, ru⟩ := rv.one
    cases ru
    obtain ⟨z, ia, n, ra, la, ea⟩ := I.lstM hH
    obtain ⟨ib, o, n2, rb, eb, ec, ed⟩ := L2.sqT_at I.hok I.kIn hB
    obtain ⟨oc, od, oa, os⟩ := o
    dsimp only at ec ed
    subst ec ed
    have lb := rb.length
    have z1 : ia.toArray.size + ib.toArray.size ≤ sizeLine := by rw [List.size_toArray, List.size_toArray]; omega
    have z2 : ¬ (!ia.toArray.isEmpty && Builtin.List.listTooLong (ia.toArray.size + ib.toArray.size)) = true := by
      rw [notLongL z1, Bool.and_false]; exact Bool.false_ne_true
    refine call_meets PySem.F.slot_list_extend ⟨_, ea, rfl⟩ PySem.F.entry_list_extend (PySem.F.args_list_extend_2 _ _)
      (PySem.AutoSeq1.ext_tup l ia.toArray n b ib.toArray n2 _ _ z2 (by omega) (by omega)) ⟨ea, eb, ?_⟩
    refine ⟨.non, _, I.lset (its' := ia ++ ib) hH ea (by simp) (ra.append rb) ?_, rfl, q⟩
    rw [List.length_append]; omega
end Bp

namespace Bp
open PySem L2 PySem.Spec PyProof.Rows

theorem lim (n : Nat) (h : n ≤ 100000) : n ≤ sizeLine := Nat.le_trans h (by decide)
theorem lim' (n : Nat) (h : n < 100000) : n < sizeLine := Nat.lt_of_lt_of_le h (by decide)

/-! ### operators -/
def boP : Bo → Operator
  | .add => .Add | .sub => .Sub | .mul => .Mult | .fdiv => .FloorDiv | .mod => .Mod | .pow => .Pow | .xor => .BitXor
def rStrAdd : R2 := fun x y H Q => ∃ i j, x = .str i ∧ y = .str j ∧ i.length + j.length ≤ sizeLine ∧ Q (.str (i ++ j)) H
def rBo (K : PySem.W.Frag) : Bo → R2
  | .add => fun x y H Q => rI0 (fun i j => .int (i + j)) x y H Q ∨ (rStrAdd x y H Q ∨ (rCatA K x y H Q ∨ rCat x y H Q))
  | .sub => rI0 fun i j => .int (i - j)
  | .mul => fun x y H Q => rI CMul (fun i j => .int (i * j)) x y H Q ∨ (rI CMulW (fun i j => .int (i * j)) x y H Q ∨ rRep x y H Q)
  | .fdiv => fun x y H Q => rI CDiv (fun i j => .int (i / j)) x y H Q ∨ rI CDivW (fun i j => .int (i / j)) x y H Q
  | .mod => rI (fun _ j => 0 < j) fun i j => .int (i % j)
  | .pow => rI (fun i j => CPow i j ∨ CPowW i j) fun i j => .int (i ^ j.toNat)
  | .xor => rI0 fun i j => .int (Builtin.bitXor i j)
theorem op_bo {X : Cx} (o : Bo) : OpR X (binaryOp (boP o)) (rBo X.K o) := by
  cases o with
  | add => exact op_add.or (op_add_str.or (op_catA.or op_cat))
  | sub => exact op_sub
  | mul => exact op_mul.or (op_mulW.or op_rep)
  | fdiv => exact op_fdiv.or op_fdivW
  | mod => exact op_mod
  | pow => exact opI fun _ _ _ _ _ _ _ hc q => hc.elim (fun hc => pow_int_small hc.1 hc.2.1 hc.2.2 q) (fun hc => pow_int hc.1 hc.2 q)
  | xor => exact op_xor
section
variable {K : PySem.W.Frag} {ca : Cs} {H : Hp} {m : List Addr} {h : Hh} {x y : V} {d e : D} {Q : VK} {Q' : Qd}
theorem Sm.lstAt (S : Sm K ca H m h) {n : Nat} {a : Addr} {ds : List D} (en : h[n]? = some (.lst ds)) (ea : m[n]? = some a) : ∃ vs, H a = some (.lst vs) ∧ Rs K H m vs ds := S.obj n a _ ea en
theorem Sm.seqAt (S : Sm K ca H m h) {n : Nat} {a : Addr} {ds : List D} (en : h[n]? = some (.lst ds) ∨ h[n]? = some (.rl ds)) (ea : m[n]? = some a) : ∃ vs, SqL K H a vs ∧ Rs K H m vs ds := by
  rcases en with en | en
  · obtain ⟨vs, e, r⟩ := S.lstAt en ea
    exact ⟨vs, SqL.of e, r⟩
  · obtain ⟨vs, e, r⟩ := S.obj n a _ ea en
    rcases e with ⟨o, e⟩ | e
    · exact ⟨vs, .inl (.inr ⟨o, e⟩), r⟩
    · exact ⟨vs, e H, r⟩
theorem bo_ok (o : Bo) (S : Sm K ca H m h) (rx : R K H m x d) (ry : R K H m y e) (w : wBo o d e h Q') (p : Post K ca H m Q' Q) : rBo K o x y H Q := by
  unfold wBo at w
  split at w
  · cases rx; cases ry; exact .inl ⟨_, _, rfl, rfl, p.same S (.int _) w⟩
  · cases rx; cases ry; exact .inr (.inl ⟨_, _, rfl, rfl, lim _ w.1, p.same S (.str _) w.2⟩)
  · cases rx with
    | tup t1 r1 => cases ry with
      | tup t2 r2 =>
        refine .inr (.inr (.inl ⟨_, _, _, _, rfl, rfl, t1, t2, by rw [r1.len, r2.len]; exact lim _ w.1, fun z => ?_, fun z1 z2 => ?_, fun _ _ q hq => ?_⟩))
        · subst z; cases r1; exact p.same S (.tup t2 r2) w.2
        · subst z2; cases r2; rw [List.append_nil] at w; exact p.same S (.tup t1 r1) w.2
        · exact p.newt S (r1.append r2) hq w.2
  · obtain ⟨xs, ys, e1, e2, hl, q⟩ := w
    cases rx with
    | ref m1 => cases ry with
      | ref m2 =>
        obtain ⟨vs, a1, r1⟩ := S.lstAt e1 m1
        obtain ⟨ws, a2, r2⟩ := S.lstAt e2 m2
        exact .inr (.inr (.inr ⟨_, _, vs, ws, rfl, rfl, a1, a2, by rw [r1.len, r2.len]; exact lim _ hl, fun q' hq => p.newl S (r1.append r2) hq q⟩))
  · cases rx; cases ry; exact ⟨_, _, rfl, rfl, p.same S (.int _) w⟩
  · cases rx; cases ry
    rcases w with ⟨w | w, q⟩
    · exact .inl ⟨_, _, rfl, rfl, w, p.same S (.int _) q⟩
    · exact .inr (.inl ⟨_, _, rfl, rfl, w, p.same S (.int _) q⟩)
  · obtain ⟨xs, e1, k1, k2, hl, q⟩ := w
    cases rx with
    | ref m1 => cases ry with
      | int _ =>
        obtain ⟨vs, a1, r1⟩ := S.lstAt e1 m1
        exact .inr (.inr ⟨_, _, vs, rfl, rfl, a1, by omega, by omega, by rw [r1.len]; exact lim _ hl, fun q' hq => p.newl S (r1.rep _) hq q⟩)
  · cases rx; cases ry
    rcases w with ⟨w | w, q⟩
    · exact .inl ⟨_, _, rfl, rfl, w, p.same S (.int _) q⟩
    · exact .inr ⟨_, _, rfl, rfl, w, p.same S (.int _) q⟩
  · cases rx; cases ry; exact ⟨_, _, rfl, rfl, w.1, p.same S (.int _) w.2⟩
  · cases rx; cases ry; exact ⟨_, _, rfl, rfl, w.1, p.same S (.int _) w.2⟩
  · cases rx; cases ry; exact ⟨_, _, rfl, rfl, p.same S (.int _) w⟩
  · exact w.elim

/-! ### truth -/
theorem tru_ok' {Qb : Bool → Prop} (S : Sm K ca H m h) (rx : R K H m x d) (w : tru h d Qb) : ∃ k, TruV K x H k ∧ Qb k := by
  cases rx with
  | non => exact ⟨_, rfl, w⟩
  | bl b => exact ⟨_, rfl, w⟩
  | int i => exact ⟨_, rfl, w⟩
  | str s =>
    refine ⟨_, ⟨lim _ w.1, rfl⟩, ?_⟩
    have e : ((s.length : Int) != 0) = (s.length != 0) := by
      cases hs : s.length <;> rfl
    rw [e]; exact w.2
  | tup t r => exact ⟨_, .inr (.inl ⟨_, t, rfl⟩), by rw [r.nil_iff]; exact w⟩
  | ref e =>
    rcases w with ⟨ds, e1, q⟩ | ⟨ds, e1, q⟩ | ⟨kvs, e1, q⟩
    · obtain ⟨vs, e2, r⟩ := S.seqAt (.inl e1) e
      exact ⟨_, .inl ⟨vs, e2, rfl⟩, by rw [r.nil_iff]; exact q⟩
    · obtain ⟨vs, e2, r⟩ := S.seqAt (.inr e1) e
      exact ⟨_, .inl ⟨vs, e2, rfl⟩, by rw [r.nil_iff]; exact q⟩
    · obtain ⟨vk, e2, r⟩ := S.obj _ _ _ e e1
      exact ⟨_, .inr (.inr ⟨vk, e2, rfl⟩), by
        have : vk.isEmpty = kvs.isEmpty := by cases r <;> rfl
        rw [this]; exact q⟩
theorem TruV.det {k k' : Bool} (S : Sm K ca H m h) (rx : R K H m x d) {Qb : Bool → Prop} (w : tru h d Qb) (w' : tru h d fun b => b = k) : Qb k := by
  cases d with
  | non => cases w'; exact w
  | bl b => cases w'; exact w
  | int i => cases w'; exact w
  | str s => cases w'.2; exact w.2
  | tup ds => cases w'; exact w
  | ref n =>
    rcases w with ⟨ds, e1, q⟩ | ⟨ds, e1, q⟩ | ⟨kvs, e1, q⟩ <;> rcases w' with ⟨ds', e1', q'⟩ | ⟨ds', e1', q'⟩ | ⟨kvs', e1', q'⟩ <;> (rw [e1] at e1'; cases e1') <;> (subst q'; exact q)

/-! ### comparisons -/
mutual
theorem Pd.dp (S : Sm K ca H m h) : ∀ {d : D} {p : PyData} {v : V}, Pd h d p → R K H m v d → Dp K H v p
  | _, _, _, .non, r => by cases r; exact .non
  | _, _, _, .bl b, r => by cases r; exact .bl b
  | _, _, _, .int i, r => by cases r; exact .int i
  | _, _, _, .str s, r => by cases r; exact .str s
  | _, _, _, .tup ps, r => by cases r with | tup t q => exact .tup t (Pds.dp S ps q)
  | _, _, _, .lst e ps, r => by
    cases r with
    | ref z =>
      obtain ⟨vs, e2, q⟩ := S.seqAt (.inl e) z
      exact .lst e2 (Pds.dp S ps q)
  | _, _, _, .rl e ps, r => by
    cases r with
    | ref z =>
      obtain ⟨vs, e2, q⟩ := S.seqAt (.inr e) z
      exact .lst e2 (Pds.dp S ps q)
theorem Pds.dp (S : Sm K ca H m h) : ∀ {ds : List D} {ps : List PyData} {vs : List V}, Pds h ds ps → Rs K H m vs ds → DpAll K H vs ps
  | _, _, _, .nil, r => by cases r; exact .nil
  | _, _, _, .cons p ps, r => by cases r with | cons q qs => exact .cons (Pd.dp S p q) (Pds.dp S ps qs)
end
def rEqA (K : PySem.W.Frag) : R2 := fun x y H Q => rEq x y H Q ∨ rEqD K x y H Q
def rNeA (K : PySem.W.Frag) : R2 := fun x y H Q => rNe x y H Q ∨ rNeD K x y H Q
theorem eq_ok {Qb : Bool → Prop} (S : Sm K ca H m h) (rx : R K H m x d) (ry : R K H m y e) (w : wEq d e h Qb) (p : ∀ b, Qb b → Q (.bl b) H) : rEqA K x y H Q := by
  unfold wEq at w
  split at w
  all_goals first
    | (obtain ⟨a, b, pa, pb, s1, s2, q⟩ := w
       exact .inr ⟨a, b, pa.dp S rx, pb.dp S ry, s1, s2, p _ q⟩)
    | (cases rx; cases ry; refine .inl ⟨rfl, ?_⟩
       first
         | (rw [dec_int, Bool.beq_eq_decide_eq]; exact p _ w)
         | (rw [dec_str, Bool.beq_eq_decide_eq]; exact p _ w)
         | (rw [dec_bl, Bool.beq_eq_decide_eq]; exact p _ w)
         | (rw [decide_eq_false (by intro z; cases z)]; exact p _ w)
         | (rw [decide_eq_true rfl]; exact p _ w))
theorem ne_ok {Qb : Bool → Prop} (S : Sm K ca H m h) (rx : R K H m x d) (ry : R K H m y e) (w : wEq d e h fun b => Qb (!b)) (p : ∀ b, Qb b → Q (.bl b) H) : rNeA K x y H Q := by
  unfold wEq at w
  split at w
  all_goals first
    | (obtain ⟨a, b, pa, pb, s1, s2, q⟩ := w
       exact .inr ⟨a, b, pa.dp S rx, pb.dp S ry, s1, s2, p _ q⟩)
    | (cases rx; cases ry; refine .inl ⟨rfl, ?_⟩
       first
         | (rw [dec_int, Bool.beq_eq_decide_eq]; exact p _ w)
         | (rw [dec_str, Bool.beq_eq_decide_eq]; exact p _ w)
         | (rw [dec_bl, Bool.beq_eq_decide_eq]; exact p _ w)
         | (rw [decide_eq_false (by intro z; cases z)]; exact p _ w)
         | (rw [decide_eq_true rfl]; exact p _ w))
theorem flat_ok (rx : R K H m x d) (f : flat d = true) : flatV x = true := by
  cases rx <;> first | rfl | cases f
theorem flats_ok : ∀ {vs : List V} {ds : List D}, Rs K H m vs ds → ds.all flat = true → vs.all flatV = true
  | _, _, .nil, _ => rfl
  | _, _, .cons r t, f => by
    rw [List.all_cons, Bool.and_eq_true] at f ⊢
    exact ⟨flat_ok r f.1, flats_ok t f.2⟩
theorem eqV_ok (rx : R K H m x d) (ry : R K H m y e) (f : flat d = true) (g : flat e = true) : eqV x y = eqD d e := by
  cases rx <;> cases ry <;> first | rfl | cases f | cases g
theorem inV_ok : ∀ {vs : List V} {ds : List D}, Rs K H m vs ds → ds.all flat = true → R K H m x d → flat d = true → inV x vs = ds.any fun y => eqD y d
  | _, _, .nil, _, _, _ => rfl
  | _, _, .cons r t, f, rx, fx => by
    rw [List.all_cons, Bool.and_eq_true] at f
    have ih := inV_ok t f.2 rx fx
    unfold inV at ih ⊢
    rw [List.any_cons, List.any_cons, ih, eqV_ok r rx f.1 fx]
def rDIn (neg : Bool) : R2 := fun y x H Q => ∃ a o, x = .ref a ∧ DGet H a y o ∧ Q (.bl (if neg then !o.isSome else o.isSome)) H
theorem op_din {X : Cx} (hu : X.A.units + 1 < cLine) : OpR X (compareOp .In) (rDIn false) := by
  intro pins s σ H x y v u Q I rx ry h
  obtain ⟨a, o, rfl, g, q⟩ := h
  cases ry
  exact d_in hu I g rx fun s' I' => ⟨.bl _, H, I', rfl, q⟩
theorem op_dnotin {X : Cx} (hu : X.A.units + 1 < cLine) : OpR X (compareOp .NotIn) (rDIn true) := by
  intro pins s σ H x y v u Q I rx ry h
  obtain ⟨a, o, rfl, g, q⟩ := h
  cases ry
  exact d_notIn hu I g rx fun s' I' => ⟨.bl _, H, I', rfl, q⟩
theorem key_ok {k : Key} (rx : R K H m x d) (e : keyOf d = some k) : x = kV k := by
  cases rx <;> first | (cases e; rfl) | cases e
def rSign (neg : Bool) : R2 := fun x y H Q => ∃ (c : Nat) (z : Str), x = .str ⟨#[c]⟩ ∧ y = .str z ∧ Q (.bl (if neg then !decide (c ∈ z.cps.toList) else decide (c ∈ z.cps.toList))) H
def rInDD (K : PySem.W.Frag) (neg : Bool) : R2 := if neg then rNotInD K else rInD K
def rInA (K : PySem.W.Frag) (neg : Bool) : R2 := fun x y H Q => rSign neg x y H Q ∨ (rIn K neg x y H Q ∨ (rDIn neg x y H Q ∨ rInDD K neg x y H Q))
theorem in_ok {neg : Bool} {Qb : Bool → Prop} (S : Sm K ca H m h) (rx : R K H m x d) (ry : R K H m y e) (w : wIn d e h fun b => Qb (if neg then !b else b)) (p : ∀ b, Qb b → Q (.bl b) H) : rInA K neg x y H Q := by
  unfold wIn at w
  split at w
  · obtain ⟨s, rfl, q⟩ := w
    cases rx; cases ry
    exact .inl ⟨s, _, rfl, rfl, p _ q⟩
  · cases ry with
    | tup t r =>
      refine .inr (.inl ⟨_, _, rfl, .inr t, flat_ok rx w.1, flats_ok r w.2.1, ?_⟩)
      have := p _ w.2.2
      rw [inV_ok r w.2.1 rx w.1]
      exact this
  · cases ry with
    | ref z =>
      rcases w with ⟨ds, e1, f1, f2, q⟩ | ⟨kvs, k, e1, ek, q⟩ | ⟨pp, ps, e1, e2, s1, s2, q⟩
      · obtain ⟨vs, e2, r⟩ := S.seqAt e1 z
        refine .inr (.inl ⟨_, vs, rfl, .inl e2, flat_ok rx f1, flats_ok r f2, ?_⟩)
        rw [inV_ok r f2 rx f1]
        exact p _ q
      · rcases e1 with e1 | e1
        · obtain ⟨vk, e2, r⟩ := S.obj _ _ _ z e1
          have ex := key_ok rx ek
          subst ex
          refine .inr (.inr (.inl ⟨_, _, rfl, DGet.k e2, ?_⟩))
          have hv := r.val k
          have es : (valV vk k).isSome = (getK kvs k).isSome := hv.isSome
          rw [es]
          exact p _ q
        · obtain ⟨vk, ob, e2, r⟩ := S.obj _ _ _ z e1
          have ex := key_ok rx ek
          subst ex
          refine .inr (.inr (.inl ⟨_, _, rfl, .inl ⟨vk, k, .inr ⟨ob, e2⟩, rfl, rfl⟩, ?_⟩))
          have hv := r.val k
          have es : (valV vk k).isSome = (getK kvs k).isSome := hv.isSome
          rw [es]
          exact p _ q
      · refine .inr (.inr (.inr ?_))
        cases neg with
        | false => exact ⟨pp, ps, e1.dp S rx, e2.dp S (.ref z), s1, s2, p _ q⟩
        | true => exact ⟨pp, ps, e1.dp S rx, e2.dp S (.ref z), s1, s2, p _ q⟩
  · exact w.elim
def coP : Co → CmpOp
  | .eq => .Eq | .ne => .NotEq | .lt => .Lt | .le => .LtE | .gt => .Gt | .ge => .GtE | .is => .Is | .isnot => .IsNot | .isin => .In | .notin => .NotIn | .deq => .Eq | .dne => .NotEq
def rLtS : R2 := fun x y H Q => ∃ i j, x = .str i ∧ y = .str j ∧ Q (.bl (decide (i.cps.toList < j.cps.toList))) H
def rLtD (K : PySem.W.Frag) : R2 := fun x y H Q => ∃ d e, Dp K H x d ∧ Dp K H y e ∧ d ≠ .none ∧ d.depth ≤ 64 ∧ PySem.W.alike d e = true ∧ Q (.bl (PySem.W.dataLt d e)) H
theorem op_ltD {X : Cx} (hu : X.A.units + 64 < cLine) : OpR X (compareOp .Lt) (rLtD X.K) := by
  intro pins s σ H x y v u Q I rx ry h
  obtain ⟨d, e, hd, he, hn, hp, ha, q⟩ := h
  obtain ⟨as, r1⟩ := Dp.reads I d x v hd rx
  obtain ⟨bs, r2⟩ := Dp.reads I e y u he ry
  exact PySem.W.rcLt_alike d e X.A s v u as bs r1 r2 ha hn (by omega) _ _ _ _ ⟨.bl _, H, I, rfl, q⟩
def rIsNon (neg : Bool) : R2 := fun x y H Q => y = .non ∧ Q (.bl (if neg then !decide (x = .non) else decide (x = .non))) H
def rCo (K : PySem.W.Frag) : Co → R2
  | .eq => rEqA K
  | .ne => rNeA K
  | .lt => fun x y H Q => rI0 (fun i j => .bl (decide (i < j))) x y H Q ∨ (rLtS x y H Q ∨ rLtD K x y H Q)
  | .le => rI0 fun i j => .bl (decide (i ≤ j))
  | .gt => rI0 fun i j => .bl (decide (j < i))
  | .ge => rI0 fun i j => .bl (decide (j ≤ i))
  | .is => rIsNon false
  | .isnot => rIsNon true
  | .isin => rInA K false
  | .notin => rInA K true
  | .deq => rEqD K
  | .dne => rNeD K
theorem op_co {X : Cx} (hu : X.A.units + 65 < cLine) (o : Co) : OpR X (compareOp (coP o)) (rCo X.K o) := by
  cases o with
  | eq => exact op_eq.or (op_eqD (by omega))
  | ne => exact op_ne.or (op_neD (by omega))
  | lt => exact op_lt.or (op_lt_str.or (op_ltD (by omega)))
  | le => exact op_le
  | gt => exact op_gt
  | ge => exact op_ge
  | is => exact op_isN
  | isnot => exact op_notN
  | isin => exact op_in_sign.or (op_in_seq.or ((op_din (by omega)).or (op_inD (by omega))))
  | notin => exact op_notIn_sign.or (op_notIn_seq.or ((op_dnotin (by omega)).or (op_notInD (by omega))))
  | deq => exact op_eqD (by omega)
  | dne => exact op_neD (by omega)
theorem co_ok (o : Co) {Qb : Bool → Prop} (S : Sm K ca H m h) (rx : R K H m x d) (ry : R K H m y e) (w : wCo o d e h Qb) (p : ∀ b, Qb b → Q (.bl b) H) : rCo K o x y H Q := by
  unfold wCo at w
  split at w
  · exact eq_ok S rx ry w p
  · exact ne_ok S rx ry w p
  · cases rx; cases ry; exact .inl ⟨_, _, rfl, rfl, p _ w⟩
  · cases rx; cases ry; exact ⟨_, _, rfl, rfl, p _ w⟩
  · cases rx; cases ry; exact ⟨_, _, rfl, rfl, p _ w⟩
  · cases rx; cases ry; exact ⟨_, _, rfl, rfl, p _ w⟩
  · cases rx; cases ry; exact .inr (.inl ⟨_, _, rfl, rfl, p _ w⟩)
  · obtain ⟨a, b, pa, pb, s1, s2, al, q⟩ := w
    exact .inr (.inr ⟨a, b, pa.dp S rx, pb.dp S ry, (by rintro rfl; cases pa), SeqAt.depth_of_shaped s1, al, p _ q⟩)
  · cases ry
    refine ⟨rfl, p _ ?_⟩
    cases rx <;> exact w
  · cases ry
    refine ⟨rfl, p _ ?_⟩
    cases rx <;> exact w
  · obtain ⟨a, b, pa, pb, s1, s2, q⟩ := w
    exact ⟨a, b, pa.dp S rx, pb.dp S ry, s1, s2, p _ q⟩
  · obtain ⟨a, b, pa, pb, s1, s2, q⟩ := w
    exact ⟨a, b, pa.dp S rx, pb.dp S ry, s1, s2, p _ q⟩
  · exact in_ok (neg := false) S rx ry w p
  · exact in_ok (neg := true) S rx ry w p
  · exact w.elim

/-! ### subscripts and slices -/
def rIxDk : R2 := fun x y H Q => ∃ a v, x = .ref a ∧ DGet H a y (some v) ∧ Q v H
def rIxA (K : PySem.W.Frag) : R2 := fun x y H Q => rIx K x y H Q ∨ rIxDk x y H Q
theorem ix_dict {X : Cx} (hu : X.A.units + 1 < cLine) : IxR X rIxDk := by
  intro value slice pins s σ H x y v u Q I rx ry h hs
  obtain ⟨a, w, rfl, g, q⟩ := h
  cases rx
  exact tail_any (dict_typeIs I g) PySem.F.slot_dict_getitem.lookup (d_getItem hu I g ry fun w' s' I' r' => ⟨w, H, I', r', q⟩) hs
theorem ix_any {X : Cx} (hu : X.A.units + 1 < cLine) : IxR X (rIxA X.K) := ix_seq.or (ix_dict hu)
theorem idx_ok (S : Sm K ca H m h) (rx : R K H m x d) (ry : R K H m y e) (w : wIdx d e h Q') (p : Post K ca H m Q' Q) : rIxA K x y H Q := by
  unfold wIdx at w
  split at w
  · obtain ⟨k, c, rfl, hz, ha, q⟩ := w
    cases rx; cases ry
    exact .inl (.inr (.inr ⟨_, _, c, rfl, rfl, lim _ hz, ha, p.same S (.str _) q⟩))
  · obtain ⟨k, v, rfl, ha, q⟩ := w
    cases rx with
    | tup t r =>
      cases ry
      obtain ⟨u, e1, r1⟩ := r.at ha
      exact .inl (.inr (.inl ⟨_, _, _, u, rfl, rfl, t, e1, p.same S r1 q⟩))
  · cases rx with
    | ref z =>
      rcases w with ⟨ds, k, v, e1, rfl, ha, q⟩ | ⟨kvs, k, v, e1, ek, ev, q⟩
      · cases ry
        obtain ⟨vs, e2, r⟩ := S.seqAt e1 z
        obtain ⟨u, e3, r1⟩ := r.at ha
        exact .inl (.inl ⟨_, _, _, u, rfl, rfl, e2, e3, p.same S r1 q⟩)
      · rcases e1 with e1 | e1
        · obtain ⟨vk, e2, r⟩ := S.obj _ _ _ z e1
          have ex := key_ok ry ek
          subst ex
          have hv := r.val k
          rw [ev] at hv
          generalize eu : valV vk k = ou at hv
          cases hv with
          | some r1 =>
            refine .inr ⟨_, _, rfl, ?_, p.same S r1 q⟩
            rw [← eu]
            exact DGet.k e2
        · obtain ⟨vk, ob, e2, r⟩ := S.obj _ _ _ z e1
          have ex := key_ok ry ek
          subst ex
          have hv := r.val k
          rw [ev] at hv
          generalize eu : valV vk k = ou at hv
          cases hv with
          | some r1 =>
            refine .inr ⟨_, _, rfl, ?_, p.same S r1 q⟩
            rw [← eu]
            exact .inl ⟨vk, k, .inr ⟨ob, e2⟩, rfl, rfl⟩
  · exact w.elim
def rSlX (K : PySem.W.Frag) : V → Option Int → Option Int → Hp → VK → Prop := fun x lo hi H Q => rSlS x lo hi H Q ∨ (rSlA K x lo hi H Q ∨ rSlL K x lo hi H Q)
theorem sl_any {X : Cx} : SlR X (rSlX X.K) := sl_str.or (sl_tupA.or sl_list)
theorem cut_whole {α : Type} (xs : List α) (lo hi : Option Int) (h : HT.sIx xs.length 0 lo = 0 ∧ HT.sIx xs.length xs.length hi = xs.length) : (xs.drop (HT.sIx xs.length 0 lo)).take (HT.sIx xs.length xs.length hi - HT.sIx xs.length 0 lo) = xs := by
  rw [h.1, h.2, List.drop_zero, Nat.sub_zero, List.take_length]
theorem sli_ok {lo hi : Option Int} (S : Sm K ca H m h) (rx : R K H m x d) (w : wSli d lo hi h Q') (p : Post K ca H m Q' Q) : rSlX K x lo hi H Q := by
  unfold wSli at w
  split at w
  · cases rx
    exact .inl ⟨_, rfl, lim _ w.1, p.same S (.str _) w.2⟩
  · cases rx with
    | tup t r =>
      refine .inr (.inl ⟨_, _, rfl, t, fun z => ?_, fun _ q hq => p.newt S (r.cut lo hi) hq w⟩)
      rw [show cutD _ lo hi = _ from cut_whole _ lo hi (by rw [← r.len]; exact z)] at w
      exact p.same S (.tup t r) w
  · cases rx with
    | ref z =>
      obtain ⟨ds, e1, q⟩ := w
      obtain ⟨vs, e2, r⟩ := S.seqAt e1 z
      exact .inr (.inr ⟨_, vs, rfl, e2, fun q' hq => p.newl S (r.cut lo hi) hq q⟩)
  · exact w.elim

/-! ### built-ins -/
def biN : Bi → Str
  | .len => "len" | .list => "list" | .tuple => "tuple" | .divmod => "divmod" | .abs => "abs" | .int => "int" | .max2 => "max" | .min2 => "min" | .all => "all" | .any => "any" | .sum => "sum"
  | .max1 => "max" | .min1 => "min" | .str => "str" | .bool => "bool" | .repr => "repr" | .sorted => "sorted" | .dict => "dict" | .listS => "list" | .listK => "list" | .sortK => "sorted"
def biV : Bi → Sum String String
  | .len => .inl "len" | .list => .inr "list" | .tuple => .inr "tuple" | .divmod => .inl "divmod" | .abs => .inl "abs" | .int => .inr "int" | .max2 => .inl "max" | .min2 => .inl "min" | .all => .inl "all" | .any => .inl "any" | .sum => .inl "sum"
  | .max1 => .inl "max" | .min1 => .inl "min" | .str => .inr "str" | .bool => .inr "bool" | .repr => .inl "repr" | .sorted => .inl "sorted" | .dict => .inr "dict" | .listS => .inr "list" | .listK => .inr "list" | .sortK => .inl "sorted"
def biVal : Sum String String → Value
  | .inl s => .builtin s
  | .inr s => .type s
theorem bi_boot (b : Bi) : bootBuiltins (biN b) = some (biVal (biV b)) := by cases b <;> decide +kernel
def rLenD : List V → Hp → VK → Prop := fun xs H Q => ∃ a kvs, xs = [.ref a] ∧ H a = some (.dK kvs) ∧ Q (.int kvs.length) H
theorem call_lenDk {X : Cx} : CallR X (.builtin "len") rLenD := by
  intro pins s σ H xs us Q I r h
  obtain ⟨a, kvs, rfl, e, q⟩ := h
  obtain rfl := Vals.ref1 r
  exact d_len I (.inl e) fun t s' I' => ⟨.int _, H, I', ⟨_, rfl⟩, q⟩
def rLenA (K : PySem.W.Frag) : List V → Hp → VK → Prop := fun xs H Q => ∃ p ys, xs = [.ref p] ∧ (SqL K H p ys ∨ SqT K H p ys) ∧ Q (.int ys.length) H
def rLenS : List V → Hp → VK → Prop := fun xs H Q => ∃ z, xs = [.str z] ∧ z.length ≤ sizeLine ∧ Q (.int z.length) H
def rListA (K : PySem.W.Frag) : List V → Hp → VK → Prop := fun xs H Q => ∃ p ys, xs = [.ref p] ∧ (SqL K H p ys ∨ SqT K H p ys) ∧ ∀ l, H l = none → Q (.ref l) (upd H l (.lst ys))
def rTupA (K : PySem.W.Frag) : List V → Hp → VK → Prop := fun xs H Q => ∃ p ys, xs = [.ref p] ∧ ((SqL K H p ys ∧ ∀ l, H l = none → Q (.ref l) (upd H l (.tup ys))) ∨ (SqT K H p ys ∧ Q (.ref p) H))
def rDictP (K : PySem.W.Frag) : List V → Hp → VK → Prop := fun xs H Q => ∃ (a : Addr) (ps : List Addr) (kvs : List (Key × V)), xs = [.ref a] ∧ SqL K H a (ps.map V.ref) ∧ Paired (fun p kv => SqT K H p [kV kv.1, kv.2]) ps kvs ∧ ∀ p, H p = none → Q (.ref p) (upd H p (.dK (mergeK [] kvs)))
def rDictC : List V → Hp → VK → Prop := fun xs H Q => ∃ (a : Addr) (kvs : List (Key × V)), xs = [.ref a] ∧ Rd H a (.dK kvs) ∧ ∀ p, H p = none → Q (.ref p) (upd H p (.dK kvs))
def rBi (K : PySem.W.Frag) : Bi → List V → Hp → VK → Prop
  | .len => fun xs H Q => rLenS xs H Q ∨ (rLenA K xs H Q ∨ rLenD xs H Q)
  | .list => rListA K
  | .tuple => rTupA K
  | .divmod => fun xs H Q => (∃ i j, xs = [.int i, .int j] ∧ CDiv i j ∧ ∀ p, H p = none → Q (.ref p) (upd H p (.tup [.int (i / j), .int (i % j)]))) ∨ ∃ i j, xs = [.int i, .int j] ∧ CDivP i j ∧ ∀ p, H p = none → Q (.ref p) (upd H p (.tup [.int (i / j), .int (i % j)]))
  | .abs => fun xs H Q => ∃ i, xs = [.int i] ∧ Q (.int (if i < 0 then -i else i)) H
  | .int => fun xs H Q => (∃ i, xs = [.int i] ∧ Q (.int i) H) ∨ ∃ k, xs = [.bl k] ∧ Q (.int (if k then 1 else 0)) H
  | .bool => fun xs H Q => (∃ i, xs = [.int i] ∧ Q (.bl (i != 0)) H) ∨ ∃ k, xs = [.bl k] ∧ Q (.bl k) H
  | .max2 => fun xs H Q => ∃ i j, xs = [.int i, .int j] ∧ Q (.int (if j > i then j else i)) H
  | .min2 => fun xs H Q => ∃ i j, xs = [.int i, .int j] ∧ Q (.int (if j < i then j else i)) H
  | .all => rAll K
  | .any => rAny K
  | .sum => rSum K
  | .max1 => rMax K
  | .min1 => rMin K
  | .str => fun xs H Q => (∃ i, xs = [.int i] ∧ i.natAbs.log2 < 1920 ∧ Q (.str (toString i)) H) ∨ rStrD K xs H Q
  | .repr => fun xs H Q => (∃ i, xs = [.int i] ∧ i.natAbs.log2 < 1920 ∧ Q (.str (toString i)) H) ∨ rStrD K xs H Q
  | .sorted => fun xs H Q => rSortedS K xs H Q ∨ rSortedI K xs H Q
  | .dict => fun xs H Q => rDictP K xs H Q ∨ rDictC xs H Q
  | .listS => rListS
  | .listK => rListD
  | .sortK => fun xs H Q => ∃ (a : Addr) (kvs : List (Key × V)) (ks : List Str), xs = [.ref a] ∧ Rd H a (.dK kvs) ∧ kvs.map (·.1) = ks.map Sum.inr ∧ ks.length < 64 ∧ ∀ ys p, ys.Perm ks → sortedS ys = true → H p = none → Q (.ref p) (upd H p (.lst (ys.map V.str)))
theorem call_bi {X : Cx} (hc : X.calm = true) (gd : X.A.guards = some []) (hu : X.A.units + 70 < cLine) (b : Bi) : CallR X (biVal (biV b)) (rBi X.K b) := by
  cases b with
  | len => exact call_len_str.or (call_len_seq.or call_lenDk)
  | list => exact call_list_of
  | tuple => exact call_tuple_of
  | divmod => exact call_divmod.or call_divmodW
  | abs => exact call_abs
  | int => exact call_int1
  | bool => exact call_bool1
  | max2 => exact call_max2 hc
  | min2 => exact call_min2 hc
  | all => exact cr_all hc
  | any => exact cr_any hc
  | sum => exact cr_sum hc
  | max1 => exact cr_max hc
  | min1 => exact cr_min hc
  | str => exact call_str_int.or (call_strD gd hu)
  | repr => exact SkE.call_repr_int.or (call_reprD gd hu)
  | sorted => exact cr_sortedS.or cr_sortedI
  | dict => exact CallR.or (call_dictP hc) call_dictD
  | listS => exact call_listS hc
  | listK => exact call_list_dK hc
  | sortK => exact call_sortedD hc
theorem elems_ok {ds : List D} (S : Sm K ca H m h) (rx : R K H m x d) (e : elems h d = some ds) : ∃ a vs, x = .ref a ∧ (SqL K H a vs ∨ SqT K H a vs) ∧ Rs K H m vs ds ∧ (SqT K H a vs → ∃ es, d = .tup es ∨ SqL K H a vs) := by
  unfold elems at e
  split at e
  · cases e
    cases rx with
    | tup t r => exact ⟨_, _, rfl, .inr t, r, fun _ => ⟨_, .inl rfl⟩⟩
  · cases rx with
    | ref z =>
      split at e
      · cases e
        rename_i ds e1
        obtain ⟨vs, e2, r⟩ := S.seqAt (.inl e1) z
        exact ⟨_, vs, rfl, .inl e2, r, fun _ => ⟨[], .inr e2⟩⟩
      · cases e
        rename_i ds e1
        obtain ⟨vs, e2, r⟩ := S.seqAt (.inr e1) z
        exact ⟨_, vs, rfl, .inl e2, r, fun _ => ⟨[], .inr e2⟩⟩
      · cases e
  · cases e
theorem len_ok (S : Sm K ca H m h) (rx : R K H m x d) (w : (∃ ds, elems h d = some ds ∧ Q' (.int ds.length) h) ∨ ∃ n kvs, d = .ref n ∧ h[n]? = some (.dK kvs) ∧ Q' (.int kvs.length) h) (p : Post K ca H m Q' Q) : rBi K .len [x] H Q := by
  rcases w with ⟨ds, e, q⟩ | ⟨n, kvs, rfl, e, q⟩
  · obtain ⟨a, vs, rfl, hq, r, _⟩ := elems_ok S rx e
    exact .inr (.inl ⟨a, vs, rfl, hq, by rw [r.len]; exact p.same S (.int _) q⟩)
  · cases rx with
    | ref z =>
      obtain ⟨vk, e2, r⟩ := S.obj _ _ _ z e
      exact .inr (.inr ⟨_, vk, rfl, e2, by rw [r.len]; exact p.same S (.int _) q⟩)
theorem shows_ok {K : PySem.W.Frag} {ca : Cs} {H : Hp} {m : List Addr} {h : Hh} {Q : VK} {Q' : Qd} {vs : List V} {d : D} {A : Prop} (S : Sm K ca H m h) (rs : Rs K H m vs [d]) (p : Post K ca H m Q' Q) (w : ∃ p, Pd h d p ∧ Shows p ∧ Q' (.str p.shown) h) (hd : (∃ ds, d = .tup ds) ∨ ∃ n, d = .ref n) : A ∨ rStrD K vs H Q := by
  obtain ⟨v, rfl, r⟩ := rs.inv1
  obtain ⟨pd, h1, ⟨h2, h3, h4⟩, q⟩ := w
  have dp := Pd.dp S h1 r
  cases r with
  | tup t _ => exact .inr ⟨_, pd, rfl, dp, h2, h3, h4, p.same S (.str _) q⟩
  | ref z => exact .inr ⟨_, pd, rfl, dp, h2, h3, h4, p.same S (.str _) q⟩
  | _ => rcases hd with ⟨_, z⟩ | ⟨_, z⟩ <;> cases z
theorem bi_ok (b : Bi) {vs : List V} {ds : List D} (S : Sm K ca H m h) (rs : Rs K H m vs ds) (w : wBi b ds h Q') (p : Post K ca H m Q' Q) : rBi K b vs H Q := by
  unfold wBi at w
  split at w
  · obtain ⟨v, rfl, r⟩ := rs.inv1
    cases r
    exact .inl ⟨_, rfl, lim _ w.1, p.same S (.int _) w.2⟩
  · obtain ⟨v, rfl, r⟩ := rs.inv1
    exact len_ok S r w p
  · obtain ⟨v, rfl, r⟩ := rs.inv1
    obtain ⟨es, e, q⟩ := w
    obtain ⟨a, ws, rfl, hq, r2, _⟩ := elems_ok S r e
    exact ⟨a, ws, rfl, hq, fun l hl => p.newl S r2 hl q⟩
  · obtain ⟨v, rfl, r⟩ := rs.inv1
    obtain ⟨es, e, q⟩ := w
    obtain ⟨a, ws, rfl, hq, r2, _⟩ := elems_ok S r e
    rcases hq with hq | hq
    · exact ⟨a, ws, rfl, .inl ⟨hq, fun l hl => p.newt S r2 hl q⟩⟩
    · exact ⟨a, ws, rfl, .inr ⟨hq, p.same S (.tup hq r2) q⟩⟩
  · obtain ⟨v, u, rfl, r, r'⟩ := rs.inv2
    cases r; cases r'
    rcases w with ⟨w | w, q⟩
    · exact .inl ⟨_, _, rfl, w, fun l hl => p.newt S (.cons (.int _) (.cons (.int _) .nil)) hl q⟩
    · exact .inr ⟨_, _, rfl, ⟨w.1, PyProof.noPylong_of_log2 w.2⟩, fun l hl => p.newt S (.cons (.int _) (.cons (.int _) .nil)) hl q⟩
  · obtain ⟨v, rfl, r⟩ := rs.inv1
    cases r; exact ⟨_, rfl, p.same S (.int _) w⟩
  · obtain ⟨v, rfl, r⟩ := rs.inv1
    cases r; exact .inl ⟨_, rfl, p.same S (.int _) w⟩
  · obtain ⟨v, rfl, r⟩ := rs.inv1
    cases r; exact .inr ⟨_, rfl, p.same S (.int _) w⟩
  · obtain ⟨v, rfl, r⟩ := rs.inv1
    cases r; exact .inl ⟨_, rfl, p.same S (.bl _) w⟩
  · obtain ⟨v, rfl, r⟩ := rs.inv1
    cases r; exact .inr ⟨_, rfl, p.same S (.bl _) w⟩
  · obtain ⟨v, u, rfl, r, r'⟩ := rs.inv2
    cases r; cases r'
    exact ⟨_, _, rfl, p.same S (.int _) w⟩
  · obtain ⟨v, u, rfl, r, r'⟩ := rs.inv2
    cases r; cases r'
    exact ⟨_, _, rfl, p.same S (.int _) w⟩
  · obtain ⟨v, rfl, r⟩ := rs.inv1
    obtain ⟨bs, e, q⟩ := w
    cases r with
    | ref z =>
      obtain ⟨ws, e2, r2⟩ := S.lstAt e z
      rw [r2.bls_of] at e2
      exact ⟨_, bs, rfl, SqL.of e2, p.same S (.bl _) q⟩
  · obtain ⟨v, rfl, r⟩ := rs.inv1
    obtain ⟨bs, e, q⟩ := w
    cases r with
    | ref z =>
      obtain ⟨ws, e2, r2⟩ := S.lstAt e z
      rw [r2.bls_of] at e2
      exact ⟨_, bs, rfl, SqL.of e2, p.same S (.bl _) q⟩
  · obtain ⟨v, rfl, r⟩ := rs.inv1
    obtain ⟨bs, e, q⟩ := w
    cases r with
    | ref z =>
      obtain ⟨ws, e2, r2⟩ := S.lstAt e z
      rw [r2.ints_of] at e2
      exact ⟨_, bs, rfl, SqL.of e2, p.same S (.int _) q⟩
  · obtain ⟨v, rfl, r⟩ := rs.inv1
    obtain ⟨bs, e, hp, q⟩ := w
    cases r with
    | ref z =>
      obtain ⟨ws, e2, r2⟩ := S.lstAt e z
      rw [r2.ints_of] at e2
      exact ⟨_, bs, rfl, SqL.of e2, hp, fun k h1 h2 => p.same S (.int _) (q k h1 h2)⟩
  · obtain ⟨v, rfl, r⟩ := rs.inv1
    obtain ⟨bs, e, hp, q⟩ := w
    cases r with
    | ref z =>
      obtain ⟨ws, e2, r2⟩ := S.lstAt e z
      rw [r2.ints_of] at e2
      exact ⟨_, bs, rfl, SqL.of e2, hp, fun k h1 h2 => p.same S (.int _) (q k h1 h2)⟩
  · obtain ⟨v, rfl, r⟩ := rs.inv1
    cases r; exact .inl ⟨_, rfl, w.1, p.same S (.str _) w.2⟩
  · exact shows_ok S rs p w (.inl ⟨_, rfl⟩)
  · exact shows_ok S rs p w (.inr ⟨_, rfl⟩)
  · obtain ⟨v, rfl, r⟩ := rs.inv1
    cases r; exact .inl ⟨_, rfl, w.1, p.same S (.str _) w.2⟩
  · exact shows_ok S rs p w (.inl ⟨_, rfl⟩)
  · exact shows_ok S rs p w (.inr ⟨_, rfl⟩)
  · obtain ⟨v, rfl, r⟩ := rs.inv1
    cases r with
    | ref z =>
      rcases w with ⟨ss, e, hl, q⟩ | ⟨is, e, q⟩
      · obtain ⟨ws, e2, r2⟩ := S.lstAt e z
        rw [r2.strs_of] at e2
        exact .inl ⟨_, ss, rfl, SqL.of e2, hl, fun ys pa hp hs hn => p.newl S (Rs.strs ys) hn (q ys hp hs)⟩
      · obtain ⟨ws, e2, r2⟩ := S.lstAt e z
        rw [r2.ints_of] at e2
        exact .inr ⟨_, is, rfl, SqL.of e2, fun ys pa hp hs hn => p.newl S (Rs.ints ys) hn (q ys hp hs)⟩
  · obtain ⟨v, rfl, r⟩ := rs.inv1
    cases r
    exact ⟨_, rfl, lim _ w.1, fun l hl => p.newl S (Rs.chars _) hl w.2⟩
  · obtain ⟨v, rfl, r⟩ := rs.inv1
    obtain ⟨kvs, e, q⟩ := w
    cases r with
    | ref z =>
      obtain ⟨vk, e2, rk⟩ := S.obj _ _ _ z e
      exact ⟨_, vk, rfl, e2, fun l hl => p.newl S (Rk.keys rk) hl q⟩
  · obtain ⟨v, rfl, r⟩ := rs.inv1
    obtain ⟨kvs, ks, e, hk, hl, q⟩ := w
    cases r with
    | ref z =>
      obtain ⟨vk, e2, rk⟩ := S.obj _ _ _ z e
      exact ⟨_, vk, ks, rfl, .inl e2, by rw [Rk.names rk]; exact hk, hl, fun ys pa hp hs hn => p.newl S (Rs.strs ys) hn (q ys hp hs)⟩
  · obtain ⟨v, rfl, r⟩ := rs.inv1
    cases r with
    | ref z =>
      rcases w with ⟨ds, ps, e, hp, q⟩ | ⟨kvs, e, q⟩
      · obtain ⟨vs, e2, r2⟩ := S.lstAt e z
        obtain ⟨as, kv, rfl, pp, rk⟩ := pairsD_ok r2 hp
        exact .inl ⟨_, as, kv, rfl, SqL.of e2, pp, fun l hl => p.newd S (Rk.merge rk .nil) hl q⟩
      · obtain ⟨vk, e2, rk⟩ := S.obj _ _ _ z e
        exact .inr ⟨_, vk, rfl, .inl e2, fun l hl => p.newd S rk hl q⟩
  · exact w.elim
end
end Bp

namespace Bp
open PySem L2 PySem.Spec PyProof.Rows

/-! ### the look: an expression of ours beside one of the text -/
def visB (sc : Scope) (x : Str) : Bool := match sc.names.lookup x with | some .local => true | some .cell => true | some .free => true | _ => false
def locB (sc : Scope) (fc : Str → Bool) (x : Str) : Bool := match sc.names.lookup x with | some .local => true | some .cell => fc x | _ => false
def lcl (sc : Scope) (x : Str) : Bool := match sc.names.lookup x with | some .local => true | _ => false
def glB (sc : Scope) (x : Str) : Bool := match sc.names.lookup x with | some .globalImplicit => true | _ => false
def nst : Expr → Bool | .Starred _ _ => false | _ => true
def nsl : Expr → Bool | .Slice _ _ _ _ => false | _ => true
def nset : Expr → Bool | .Set _ _ _ => false | _ => true
def nlc : Expr → Bool | .ListComp _ _ _ _ => false | .SetComp _ _ _ _ => false | .DictComp _ _ _ _ _ => false | _ => true
def isTup : Expr → Bool | .Tuple _ _ _ => true | _ => false
def isCall0 : Expr → Bool | .Call _ [] [] _ => true | _ => false
def tnN : Tn → Str
  | .non => "NoneType" | .int => "int" | .bool => "bool" | .str => "str" | .list => "list" | .tuple => "tuple" | .dict => "dict"
def tnS : Tn → String
  | .non => "NoneType" | .int => "int" | .bool => "bool" | .str => "str" | .list => "list" | .tuple => "tuple" | .dict => "dict"
def tnOk : Tn → Bool | .non => false | _ => true
def ckTy (sc : Scope) (t : Tn) : Expr → Bool
  | .Name x _ => decide (x = tnN t) && glB sc x && tnOk t
  | _ => false
def ckTys (sc : Scope) : List Tn → List Expr → Bool
  | [], [] => true
  | t :: ts, e :: es => ckTy sc t e && ckTys sc ts es
  | _, _ => false
def mtN : Mt → Str
  | .append => "append" | .extend => "extend" | .insert => "insert" | .pop => "pop" | .popAt => "pop" | .index => "index" | .reverse => "reverse" | .clear => "clear" | .remove => "remove" | .count => "count" | .get2 => "get" | .get1 => "get" | .dpop2 => "pop" | .join => "join" | .update => "update" | .setdef => "setdefault"
def mtA : Mt → Nat
  | .append => 1 | .extend => 1 | .insert => 2 | .pop => 0 | .popAt => 1 | .reverse => 0 | .clear => 0 | .get2 => 2 | .index => 1 | .remove => 1 | .join => 1 | .get1 => 1 | .dpop2 => 2 | .update => 1 | .setdef => 2 | _ => 99
def tgSlots : Tg → List Nat
  | .nm i => [i]
  | .tp ts => go ts
  | .sub _ _ => []
where go : Tgs → List Nat
  | .nil => []
  | .cons t ts => tgSlots t ++ go ts

/-- the class that's named -/
def ckXc (sc : Scope) (c : Str) : Expr → Bool
  | .Name x _ => decide (x = c) && glB sc x && !(x == ("__debug__" : Str))
  | _ => false
def ckXcs (sc : Scope) : List Str → List Expr → Bool
  | [], [] => true
  | c :: cs, e :: es => ckXc sc c e && ckXcs sc cs es
  | _, _ => false
def ckXt (sc : Scope) (cs : List Str) : Expr → Bool
  | .Tuple xs _ _ => ckXcs sc cs xs && decide (cs.length ≤ 100000)
  | .Name y p => (match cs with | [c] => ckXc sc c (.Name y p) | _ => false)
  | _ => false
mutual
def ckE : E → List Str → Scope → (Str → Bool) → Expr → Bool
  | .var i, N, sc, _, e => match e with | .Name x _ => decide (N[i]? = some x) && visB sc x && !(x == ("__debug__" : Str)) && !(x == ("__classdict__" : Str)) | _ => false
  | .non, _, _, _, e => match e with | .Constant .none _ _ => true | _ => false
  | .bl b, _, _, _, e => match e with | .Constant (.bool c) _ _ => decide (b = c) | _ => false
  | .int i, _, _, _, e => match e with | .Constant (.int j) _ _ => decide (i = j) | _ => false
  | .str s, _, _, _, e => match e with | .Constant (.str z) _ _ => decide (s = z) | _ => false
  | .glob x, _, sc, _, e => match e with | .Name y _ => decide (x = y) && glB sc x && !(x == ("__debug__" : Str)) | _ => false
  | .bin o a b, N, sc, fc, e => match e with | .BinOp l op r _ => decide (op = boP o) && ckE a N sc fc l && ckE b N sc fc r | _ => false
  | .neg a, N, sc, fc, e => match e with | .UnaryOp .USub x _ => ckE a N sc fc x | _ => false
  | .not a, N, sc, fc, e => match e with | .UnaryOp .Not x _ => ckE a N sc fc x | _ => false
  | .bop k es, N, sc, fc, e => match e with | .BoolOp op xs _ => decide (op = if k then .And else .Or) && ckB es N sc fc xs | _ => false
  | .cmp o a b, N, sc, fc, e => match e with | .Compare l [op] [r] _ => decide (op = coP o) && nset r && ckE a N sc fc l && ckE b N sc fc r | _ => false
  | .cmp2 o o' a b c, N, sc, fc, e => match e with | .Compare l [op, op'] [r, r'] _ => decide (op = coP o) && decide (op' = coP o') && nset r && nset r' && ckE a N sc fc l && ckE b N sc fc r && ckE c N sc fc r' | _ => false
  | .ite c a b, N, sc, fc, e => match e with | .IfExp t x y _ => ckE c N sc fc t && ckE a N sc fc x && ckE b N sc fc y | _ => false
  | .tup es, N, sc, fc, e => match e with | .Tuple xs _ _ => ckEs es N sc fc xs | _ => false
  | .lst es, N, sc, fc, e => match e with | .List xs _ => ckEs es N sc fc xs | _ => false
  | .dct kvs, N, sc, fc, e => match e with | .Dict keys values _ => ckD kvs N sc fc keys values && decide (keys.length ≤ 15) | _ => false
  | .tab x i, N, sc, fc, e => match e with | .Subscript (.Name y _) j _ => decide (x = y) && glB sc x && !(x == ("__debug__" : Str)) && nsl j && ckE i N sc fc j | _ => false
  | .tabG x i d, N, sc, fc, e => match e with | .Call (.Attribute (.Name y _) n ap) [u, v] [] cp => decide (x = y) && glB sc x && !(x == ("__debug__" : Str)) && decide (n = "get") && (ap.endLine == cp.line) && nst u && nst v && ckE i N sc fc u && ckE d N sc fc v | _ => false
  | .tabIn neg x i, N, sc, fc, e => match e with | .Compare l [op] [.Name y _] _ => decide (x = y) && glB sc x && !(x == ("__debug__" : Str)) && decide (op = if neg then .NotIn else .In) && ckE i N sc fc l | _ => false
  | .idx a i, N, sc, fc, e => match e with | .Subscript x y _ => nsl y && ckE a N sc fc x && ckE i N sc fc y | _ => false
  | .sli a lo hi, N, sc, fc, e => match e with | .Subscript x (.Slice l u none _) _ => ckE a N sc fc x && ckO lo N sc fc l && ckO hi N sc fc u | _ => false
  | .rev a, N, sc, fc, e => match e with | .Subscript x (.Slice none none (some (.UnaryOp .USub (.Constant (.int 1) _ _) _)) _) _ => ckE a N sc fc x | _ => false
  | .call f es, N, sc, fc, e => match e with | .Call (.Name x _) xs [] _ => decide (f = x) && glB sc x && !(x == ("__debug__" : Str)) && ckEs es N sc fc xs | _ => false
  | .bi b es, N, sc, fc, e => match e with | .Call (.Name x _) (y :: xs) [] _ => decide (x = biN b) && glB sc x && ckEs es N sc fc (y :: xs) | _ => false
  | .rng k a b, N, sc, fc, e => match e with
    | .Call (.Name x _) [.Call (.Name y _) ys [] _] [] _ => decide (x = if k then "tuple" else "list") && glB sc x && decide (y = "range") && glB sc y &&
        (match ys, a with
          | [u], .int 0 => nst u && ckE b N sc fc u
          | [u, v], _ => nst u && nst v && ckE a N sc fc u && ckE b N sc fc v
          | _, _ => false)
    | _ => false
  | .mt m o es, N, sc, fc, e => match e with | .Call (.Attribute x n ap) xs [] cp => decide (n = mtN m) && decide (xs.length < 30) && decide (xs.length = mtA m) && !isCall0 x && (ap.endLine == cp.line) && ckE o N sc fc x && ckEs es N sc fc xs | _ => false
  | .isi a ts, N, sc, fc, e => match e with
    | .Call (.Name x _) [u, t] [] _ => decide (x = "isinstance") && glB sc x && nst u && nst t && ckE a N sc fc u && (match t with
        | .Tuple xs _ _ => ckTys sc ts xs && decide (ts.length ≤ 100000)
        | .Name y p => (match ts with | [z] => ckTy sc z (.Name y p) | _ => false)
        | _ => false)
    | _ => false
  | .comp elt t it c own, N, sc, fc, e => match e with
    | .ListComp x [⟨tg, iter, ifs, 0⟩] scope _ => blkC N sc scope own && nset iter && ckI it N sc fc tg iter && ckG t N (relS scope sc) (fun z => scope.names.lookup z == some .cell) tg && (tgSlots t).all (fun i => decide (i ∈ own.map (·.2))) &&
        (match c, ifs with | .none, [] => true | .some a, [f] => ckE a N (relS scope sc) (fun z => scope.names.lookup z == some .cell) f | _, _ => false) && ckE elt N (relS scope sc) (fun z => scope.names.lookup z == some .cell) x
    | _ => false
  | .fld o f, N, sc, fc, e => match e with | .Attribute x n _ => decide (n = f) && !isCall0 x && ckE o N sc fc x | _ => false
  | .meth o m es, N, sc, fc, e => match e with | .Call (.Attribute x n ap) xs [] cp => decide (n = m) && decide (xs.length < 30) && !isCall0 x && (ap.endLine == cp.line) && ckE o N sc fc x && ckEs es N sc fc xs | _ => false
  | .make c es, N, sc, fc, e => match e with | .Call (.Name x _) xs [] _ => decide (c = x) && glB sc x && !(x == ("__debug__" : Str)) && ckEs es N sc fc xs | _ => false
  | .prom a, N, sc, fc, e => ckE a N sc fc e
  | .nest n a, N, sc, fc, e => (match n with
    | .litems => (match e with | .Call (.Name x _) [.Call (.Attribute y m ap) [] [] cp] [] _ => decide (x = "list") && glB sc x && decide (m = "items") && !isCall0 y && (ap.endLine == cp.line) && ckE a N sc fc y | _ => false)
    | .svals => (match e with | .Call (.Name x _) [.Call (.Attribute y m ap) [] [] cp] [] _ => decide (x = "sum") && glB sc x && decide (m = "values") && !isCall0 y && (ap.endLine == cp.line) && ckE a N sc fc y | _ => false)
    | .lrev => (match e with | .Call (.Name x _) [.Call (.Name y _) [z] [] _] [] _ => decide (x = "list") && glB sc x && decide (y = "reversed") && glB sc y && nst z && ckE a N sc fc z | _ => false)
    | .dne => (match e with | .Compare x [.NotEq] [.Dict [] [] _] _ => ckE a N sc fc x | _ => false))
  | .isx a cs, N, sc, fc, e => match e with
    | .Call (.Name x _) [u, t] [] _ => decide (x = "isinstance") && glB sc x && nst u && nst t && ckE a N sc fc u && ckXt sc cs t
    | _ => false
  | .xfld a, N, sc, fc, e => match e with | .Attribute x n _ => decide (n = "row") && !isCall0 x && ckE a N sc fc x | _ => false
def ckB : Es → List Str → Scope → (Str → Bool) → List Expr → Bool
  | .nil, _, _, _, _ => false
  | .cons a .nil, N, sc, fc, xs => match xs with | [x] => ckE a N sc fc x | _ => false
  | .cons a (.cons b r), N, sc, fc, xs => match xs with | x :: y :: ys => ckE a N sc fc x && ckB (.cons b r) N sc fc (y :: ys) | _ => false
def ckEs : Es → List Str → Scope → (Str → Bool) → List Expr → Bool
  | .nil, _, _, _, xs => match xs with | [] => true | _ => false
  | .cons a r, N, sc, fc, xs => match xs with | x :: ys => nst x && ckE a N sc fc x && ckEs r N sc fc ys | _ => false
def ckD : Es → List Str → Scope → (Str → Bool) → List (Option Expr) → List Expr → Bool
  | .nil, _, _, _, ks, vs => match ks, vs with | [], [] => true | _, _ => false
  | .cons _ .nil, _, _, _, _, _ => false
  | .cons a (.cons b r), N, sc, fc, ks, vs => match ks, vs with | some k :: ks, v :: vs => ckE a N sc fc k && ckE b N sc fc v && ckD r N sc fc ks vs | _, _ => false
def ckO : Oe → List Str → Scope → (Str → Bool) → Option Expr → Bool
  | .none, _, _, _, e => match e with | none => true | _ => false
  | .some a, N, sc, fc, e => match e with | some x => ckE a N sc fc x | _ => false
def ckI : Iv → List Str → Scope → (Str → Bool) → Expr → Expr → Bool
  | .seq a, N, sc, fc, _, e => ckE a N sc fc e
  | .rng1 a, N, sc, fc, _, e => match e with | .Call (.Name x _) [u] [] _ => decide (x = "range") && glB sc x && nst u && ckE a N sc fc u | _ => false
  | .rng2 a b, N, sc, fc, _, e => match e with | .Call (.Name x _) [u, v] [] _ => decide (x = "range") && glB sc x && nst u && nst v && ckE a N sc fc u && ckE b N sc fc v | _ => false
  | .enu a, N, sc, fc, tg, e => match e with | .Call (.Name x _) [u] [] _ => isTup tg && decide (x = "enumerate") && glB sc x && nst u && ckE a N sc fc u | _ => false
  | .zip a b, N, sc, fc, tg, e => match e with | .Call (.Name x _) [u, v] [] _ => isTup tg && decide (x = "zip") && glB sc x && nst u && nst v && ckE a N sc fc u && ckE b N sc fc v | _ => false
  | .rvs a, N, sc, fc, _, e => match e with | .Call (.Name x _) [u] [] _ => decide (x = "reversed") && glB sc x && nst u && ckE a N sc fc u | _ => false
  | .keys _, _, _, _, _, _ => false
  | .rngd a b, N, sc, fc, _, e => match e with | .Call (.Name x _) [u, v, .UnaryOp .USub (.Constant (.int 1) _ _) _] [] _ => decide (x = "range") && glB sc x && nst u && nst v && ckE a N sc fc u && ckE b N sc fc v | _ => false
def ckG : Tg → List Str → Scope → (Str → Bool) → Expr → Bool
  | .nm i, N, sc, fc, e => match e with | .Name x _ => decide (N[i]? = some x) && locB sc fc x | _ => false
  | .tp ts, N, sc, fc, e => match e with | .Tuple xs _ _ => ckGs ts N sc fc xs | _ => false
  | .sub o i, N, sc, fc, e => match e with | .Subscript x y _ => nsl y && ckE o N sc fc x && ckE i N sc fc y | _ => false
def ckGs : Tgs → List Str → Scope → (Str → Bool) → List Expr → Bool
  | .nil, _, _, _, xs => match xs with | [] => true | _ => false
  | .cons t ts, N, sc, fc, xs => match xs with | x :: ys => nst x && ckG t N sc fc x && ckGs ts N sc fc ys | _ => false
end

/-- name = a comprehension: stored within (true) or behind -/
def swB (sc : Scope) (scope : Scope) (vl : Nat) (t : Str) (tl : Nat) : Bool :=
  (match sc.kind with | .function => true | _ => false) && lcl sc t && (tl == vl) && !(scope.names.any fun (n, k) => n == t && (k == .local || k == .cell))
/-- the stores aren't exchanged -/
def swNone (sc : Scope) (ts vs : List Expr) : Bool :=
  let line := (ts.head?.map (·.pos.line)).getD 0
  let names := ts.filterMap fun
    | .Name id pos => if sc.names.lookup id == some .local && pos.line == line then some id else none
    | _ => none
  !(ts.length == 2 || ts.length == 3) || (names.length != ts.length || vs.all (foldedForSure 8))

/-- a suite where the exception is had by a name -/
def ckThA (N : List Str) (sc : Scope) : List Th → List Stmt → Bool
  | [], xs => match xs with | [] => true | _ => false
  | t :: r, xs => match t with
    | .asg j a => (match xs with | .Assign [.Name y _] v _ :: ys => decide (N[j]? = some y) && lcl sc y && tameE true a && nlc v && !isTup v && ckE a N sc (fun _ => true) v && ckThA N sc r ys | _ => false)
    | .ret a => (match xs with | .Return (some v) _ :: ys => tameE true a && ckE a N sc (fun _ => true) v && ckThA N sc r ys | _ => false)
    | _ => false
/-- a suite where it isn't -/
def ckThM (N : List Str) (sc : Scope) : List Th → List Stmt → Bool
  | [], xs => match xs with | [] => true | _ => false
  | t :: r, xs => match t with
    | .expr a => (match a with
      | .meth o m es => (match xs with
        | .Expr (.Call (.Attribute x n ap) (y :: ys) [] cp) _ :: zs => tameE true o && tameEs true es && decide (n = m) && decide ((y :: ys).length < 30) && !isCall0 x && (ap.endLine == cp.line) && ckE o N sc (fun _ => true) x && ckEs es N sc (fun _ => true) (y :: ys) && ckThM N sc r zs
        | _ => false)
      | _ => false)
    | .retn => (match xs with | .Return none _ :: ys => ckThM N sc r ys | _ => false)
    | .ret a => (match xs with | .Return (some v) _ :: ys => tameE true a && ckE a N sc (fun _ => true) v && ckThM N sc r ys | _ => false)
    | _ => false
def ckHs (N : List Str) (sc : Scope) : List (Str × List Th) → List ExceptHandler → Bool
  | [], hs => match hs with | [] => true | _ => false
  | (c, su) :: r, hs => match hs with | .ExceptHandler (some (.Name x _)) none (b₀ :: suite) _ :: hs => decide (x = c) && glB sc x && !(x == ("__debug__" : Str)) && ckThM N sc su (b₀ :: suite) && ckHs N sc r hs | _ => false
mutual
def ckS : S → List Str → Scope → Stmt → Bool
  | .asg t a, N, sc, s => match s with
    | .Assign [tg] v _ => nst tg && ckG t N sc (fun _ => true) tg && ckE a N sc (fun _ => true) v && (match v with
        | .ListComp _ _ scope p => (match tg with
          | .Name y py => !swB sc scope p.line y py.line
          | _ => true)
        | .SetComp _ _ _ _ => false
        | .DictComp _ _ _ _ _ => false
        | .Tuple vs _ _ => (match tg with
          | .Tuple ts _ _ => swNone sc ts vs
          | .List _ _ => false
          | _ => true)
        | _ => true)
    | _ => false
  | .setc i elt t it c own, N, sc, s => match s with
    | .Assign [.Name y py] (.ListComp x gs scope p) _ => decide (N[i]? = some y) && lcl sc y && swB sc scope p.line y py.line && ckE (.comp elt t it c own) N sc (fun _ => true) (.ListComp x gs scope p)
    | _ => false
  | .par i j a b, N, sc, s => match s with
    | .Assign [.Tuple [.Name x px, .Name y py] _ _] (.Tuple [u, v] _ _) _ => decide (N[i]? = some x) && decide (N[j]? = some y) && decide (i ≠ j) && decide (x ≠ y) && lcl sc x && lcl sc y && (px.line == py.line) && (match sc.kind with | .function => true | _ => false) &&
        !(foldedForSure 8 u && foldedForSure 8 v) && !(constantsAlone 8 u && constantsAlone 8 v) && nst u && nst v && ckE a N sc (fun _ => true) u && ckE b N sc (fun _ => true) v
    | _ => false
  | .par3 i j l a b c, N, sc, s => match s with
    | .Assign [.Tuple [.Name x px, .Name y py, .Name z pz] _ _] (.Tuple [u, v, w] _ _) _ => decide (N[i]? = some x) && decide (N[j]? = some y) && decide (N[l]? = some z) && decide (i ≠ j ∧ i ≠ l ∧ j ≠ l) && decide (x ≠ y ∧ x ≠ z ∧ y ≠ z) && lcl sc x && lcl sc y && lcl sc z && (px.line == py.line && px.line == pz.line) && (match sc.kind with | .function => true | _ => false) &&
        !(foldedForSure 8 u && foldedForSure 8 v && foldedForSure 8 w) && !(constantsAlone 8 u && constantsAlone 8 v && constantsAlone 8 w) && (nst u && nst v && nst w) && ckE a N sc (fun _ => true) u && ckE b N sc (fun _ => true) v && ckE c N sc (fun _ => true) w
    | _ => false
  | .aug i o a, N, sc, s => match s with
    | .AugAssign (.Name x _) op v _ => decide (N[i]? = some x) && locB sc (fun _ => true) x && decide (op = boP o) && ckE a N sc (fun _ => true) v
    | _ => false
  | .expr a, N, sc, s => match s with | .Expr v _ => nlc v && ckE a N sc (fun _ => true) v | _ => false
  | .ret a, N, sc, s => match s with | .Return (some v) _ => ckE a N sc (fun _ => true) v | _ => false
  | .ite c a b, N, sc, s => match s with | .If t x y _ => ckE c N sc (fun _ => true) t && ckSs a N sc x && ckSs b N sc y | _ => false
  | .loop c b, N, sc, s => match s with | .While t x [] _ => ckE c N sc (fun _ => true) t && ckSs b N sc x | _ => false
  | .each t it b, N, sc, s => match s with | .For tg iter x [] _ => nset iter && ckI it N sc (fun _ => true) tg iter && ckG t N sc (fun _ => true) tg && ckSs b N sc x | _ => false
  | .eachK t i b, N, sc, s => match s with | .For tg (.Name x p) bs [] _ => ckE (.var i) N sc (fun _ => true) (.Name x p) && ckG t N sc (fun _ => true) tg && ckSs b N sc bs | _ => false
  | .brk, _, _, s => match s with | .Break _ => true | _ => false
  | .cont, _, _, s => match s with | .Continue _ => true | _ => false
  | .pass, _, _, s => match s with | .Pass _ => true | _ => false
  | .setf o f a, N, sc, s => match s with | .Assign [.Attribute x n _] v _ => decide (n = f) && (match v with | .SetComp _ _ _ _ => false | .DictComp _ _ _ _ _ => false | _ => true) && ckE o N sc (fun _ => true) x && ckE a N sc (fun _ => true) v | _ => false
  | .augf o f op a, N, sc, s => match s with | .AugAssign (.Attribute x n _) p v _ => decide (n = f) && decide (p = boP op) && ckE o N sc (fun _ => true) x && ckE a N sc (fun _ => true) v | _ => false
  | .retn, _, _, s => match s with | .Return none _ => true | _ => false
  | .rais, _, _, s => match s with | .Raise _ _ _ => true | _ => false
  | .tri b, N, sc, s => match s with | .Try x (_ :: _) [] [] _ => ckSs b N sc x | _ => false
  | .rais0 c, N, sc, s => match s with | .Raise (some (.Call (.Name x _) [.Constant (.str _) _ _] [] _)) none _ => decide (x = c) && glB sc x && !(x == ("__debug__" : Str)) | _ => false
  | .raisR c a, N, sc, s => match s with | .Raise (some (.Call (.Name x _) [u] [] _)) none _ => decide (x = c) && glB sc x && !(x == ("__debug__" : Str)) && nst u && ckE a N sc (fun _ => true) u | _ => false
  | .tryA b c i su, N, sc, s => match s with
    | .Try x [.ExceptHandler (some (.Name y _)) (some n) (b₀ :: suite) _] [] [] _ => decide (y = c) && glB sc y && !(y == ("__debug__" : Str)) && decide (N[i]? = some n) && lcl sc n && ckSs b N sc x && ckThA N sc su (b₀ :: suite)
    | _ => false
  | .tryM b hs, N, sc, s => match s with | .Try x (h₀ :: hds) [] [] _ => ckSs b N sc x && ckHs N sc hs (h₀ :: hds) | _ => false
  | .augs o i op a, N, sc, s => match s with | .AugAssign (.Subscript x y _) p v _ => decide (p = boP op) && nsl y && ckE o N sc (fun _ => true) x && ckE i N sc (fun _ => true) y && ckE a N sc (fun _ => true) v | _ => false
def ckSs : Ss → List Str → Scope → List Stmt → Bool
  | .nil, _, _, xs => match xs with | [] => true | _ => false
  | .cons s r, N, sc, xs => match xs with | x :: ys => ckS s N sc x && ckSs r N sc ys | _ => false
end
end Bp

/-! ## exceptions: kept as values, told of, raised, caught -/
namespace Bp
open PySem L2 PySem.Spec PyProof.Rows

/-- what a class of exceptions must say -/
structure ExC (K : PySem.W.Frag) (C : Addr) : Prop where
  ga : PySem.W.findIn K (.ref C) "__getattribute__" = some (some (.builtin "BaseException.__getattribute__"))
  gg : PySem.W.findIn K (.ref C) "__getattr__" = some none
  ex : PySem.W.subIn K (.ref C) (.type "BaseException") = some true
  cd : PySem.W.findIn K (.ref C) "__class__" = some (some (.builtin "object.__class__"))
  sp : PySem.W.specialIn K (.builtin "object.__class__") "__get__" = some (some (.builtin "getset_descriptor.__get__"))
  tk : PySem.W.takesIn K (.builtin "object.__class__") = some true
  mo : PySem.W.mroIn K C (.type "object") = some true
  ty : PySem.W.typeIn K (.ref C) = some (.type "type")
  kp : PySem.W.keepIn K (.ref C) = true
  hd : PySem.W.hasDictIn K C = true
  nr : PySem.W.findIn K (.ref C) "row" = some none
theorem ExC.cl {K : PySem.W.Frag} {C : Addr} (T : ExC K C) : (PySem.W.clsIn K C).isSome = true := by
  have h := T.hd
  unfold PySem.W.hasDictIn at h
  cases e : PySem.W.clsIn K C with
  | none => rw [e] at h; cases h
  | some c => rfl
theorem ExC.raises {X : Cx} {C : Addr} (T : ExC X.K C) : Raises X (.ref C) := raises_own T.ex T.ty
theorem exH_ok {P : Program} {w : World} {H : Hp} {h : Heap} {a : Addr} {cls : Value} {d : Option Addr} {oe : Obj} {vs : Array Value} (e : h.get? a = some oe) (z : L2N.Zn cls d oe) (dt : oe.data = .fields vs) : ObjOk P w H h a (ExH cls d a) :=
  ⟨⟨oe, vs, e, z, dt⟩, ⟨oe, e⟩, fun _ _ ⟨o, v, q, r⟩ k => ⟨o, v, k o q, r⟩⟩
theorem exH_at {P : Program} {w : World} {H : Hp} {h : Heap} {a : Addr} {cls : Value} {d : Option Addr} (k : HOk P w H h) (e : H a = some (ExH cls d a)) : ∃ oe vs, h.get? a = some oe ∧ L2N.Zn cls d oe ∧ oe.data = .fields vs := (k a _ e).1
/-- its dict stands -/
def ExD (H : Hp) : Option Addr → Prop
  | none => True
  | some d => ∃ fs, H d = some (.xd fs)
theorem ExP.exD {K : PySem.W.Frag} {H : Hp} {m : List Addr} {p : Option D} {d : Option Addr} (h : ExP K H m p d) : ExD H d := by
  cases p with
  | none => cases d with
    | none => trivial
    | some d => exact h.elim
  | some v => cases d with
    | none => exact h.elim
    | some d => obtain ⟨y, a, _⟩ := h; exact ⟨_, a⟩
section
variable {X : Cx} {pins : List (Addr × Obj)} {σ : L2.St} {H : Hp} {s : Shared} {a C : Addr} {d : Option Addr}
theorem exH_inst (I : L2.Inv X pins σ H s) (e : H a = some (ExH (.ref C) d a)) (ed : ExD H d) : ∃ oe od, PySem.W.InstAt s.heap a oe C od := by
  obtain ⟨oe, vs, h1, hz, hd⟩ := exH_at I.hok e
  cases d with
  | none => exact ⟨oe, none, h1, hz.1, by unfold PySem.W.notCls; rw [hd] <;> rfl, by rw [hz.2.1]; trivial⟩
  | some d =>
    obtain ⟨fs, ed⟩ := ed
    have hx : ObjOk X.prog X.w H s.heap d (.xd fs) := I.hok d _ ed
    obtain ⟨mA, hns, hr⟩ := hx
    obtain ⟨o, es, ep, ho, _⟩ := hns
    exact ⟨oe, some o, h1, hz.1, by unfold PySem.W.notCls; rw [hd] <;> rfl, by rw [hz.2.1]; exact ho⟩
/-- isinstance(e, c) -/
def rIsX (K : PySem.W.Frag) : List V → Hp → VK → Prop := fun xs H Q => ∃ (a C : Addr) (d : Option Addr) (c : V) (u : Value) (b : Bool), xs = [.ref a, c] ∧ ClsV c u ∧ H a = some (ExH (.ref C) d a) ∧ ExD H d ∧ ExC K C ∧ PySem.W.kitOne K (.ref C) u = some b ∧ Q (.bl b) H
def rIsXT (K : PySem.W.Frag) : List V → Hp → VK → Prop := fun xs H Q => ∃ (a C : Addr) (d : Option Addr) (tp : Addr) (cs : List V) (us : List Value) (b : Bool), xs = [.ref a, .ref tp] ∧ H tp = some (.tup cs) ∧ Paired ClsV cs us ∧ H a = some (ExH (.ref C) d a) ∧ ExD H d ∧ ExC K C ∧ PySem.W.kitAny K (.ref C) us = some b ∧ Q (.bl b) H
theorem call_isX : CallR X (.builtin "isinstance") (rIsX X.K) := by
  intro pins s σ H xs us Q I r h
  obtain ⟨a, C, d, c, u, b, rfl, k, e, ed, T, kk, q⟩ := h
  obtain ⟨u1, u2, rfl, r1, r2⟩ := vals2 r
  have e2 := k.eq r2
  subst e2
  cases (show u1 = Value.ref a from r1)
  obtain ⟨oe, od, J⟩ := exH_inst I e ed
  exact PySem.W.kia_one (PySem.W.kitx_exc T.cl T.ga T.gg T.ex T.cd T.sp T.tk T.mo) I.kIn J kk (fun z => nomatch z) fun tk => ⟨.bl b, H, I.tok tk, rfl, q⟩
theorem call_isXT : CallR X (.builtin "isinstance") (rIsXT X.K) := by
  intro pins s σ H xs us Q I r h
  obtain ⟨a, C, d, tp, cs, ws, b, rfl, hT, k, e, ed, T, kk, q⟩ := h
  obtain ⟨u1, u2, rfl, r1, r2⟩ := vals2 r
  cases (show u2 = Value.ref tp from r2)
  cases (show u1 = Value.ref a from r1)
  obtain ⟨oe, od, J⟩ := exH_inst I e ed
  obtain ⟨_, its, rv, o, h1, h2, n, h3⟩ := (show ObjOk X.prog X.w H s.heap tp (.tup cs) from I.hok tp _ hT)
  have e3 := ClsV.all k rv
  subst e3
  obtain ⟨oc, od', dt, sl⟩ := o
  simp only at h2 h3
  subst h2 h3
  exact PySem.W.kia_tup (PySem.W.kitx_exc T.cl T.ga T.gg T.ex T.cd T.sp T.tk T.mo) I.kIn J h1 kk (fun z => nomatch z) fun tk => ⟨.bl b, H, I.tok tk, rfl, q⟩
/-- e.row -/
def tXrow (K : PySem.W.Frag) (te : TE) : TE := fun σ H Q => te σ H fun x H1 => ∃ (a C d : Addr) (fs : List (Str × V)) (v : V), x = .ref a ∧ H1 a = some (ExH (.ref C) (some d) a) ∧ H1 d = some (.xd fs) ∧ ExC K C ∧ fs.lookup ("row" : Str) = some v ∧ Q v H1
theorem pe_xrow {e : Expr} {te : TE} {pos : Pos} (he : PE X e te) (hb : attributeBase e "row" X.env (eval e X.env) = eval e X.env) : PE X (.Attribute e "row" pos) (tXrow X.K te) := by
  refine ⟨fun pins s σ H Q I h => ?_⟩
  refine attr_of hb (thn (he.run pins s σ H _ I h) fun u s1 hh => ?_)
  obtain ⟨x, H1, I1, rx, a, C, d, fs, v, ex, ea, ed, T, l, q⟩ := hh
  subst ex
  obtain rfl : u = Value.ref a := rx
  obtain ⟨oe, vs, h1, hz, hd⟩ := exH_at I1.hok ea
  have hx : ObjOk X.prog X.w H1 s1.heap d (.xd fs) := I1.hok d _ ed
  obtain ⟨mA, hns, hr⟩ := hx
  obtain ⟨od, ho, hl⟩ := lookIn_ns hns
  obtain ⟨u, hu, ru⟩ := RelO.some_of (v := v) (o := mA ("row" : Str)) (by rw [← l]; exact hr ("row" : Str))
  have J : PySem.W.InstAt s1.heap a oe C (some od) := ⟨h1, hz.1, by unfold PySem.W.notCls; rw [hd] <;> rfl, by rw [hz.2.1]; exact ho⟩
  exact HandSPX.exc_get I1.kIn J T.ga T.gg T.ex (PySem.W.findObj_own T.hd T.nr rfl (by rw [hl, hu])) (handed_of ru) ⟨v, H1, I1.tok _, ru, q⟩
/-- an exception that nobody has in hand is taken in hand -/
theorem Inv.track {oe : Obj} {vs : Array Value} {cls : Value} (I : L2.Inv X pins σ H s) (ha : s.heap.get? a = some oe) (hz : L2N.Zn cls d oe) (hd : oe.data = .fields vs) (na : H a = none) (n0 : X.s_0.heap.get? a = none) (nL : a ≠ X.env.locals) (np : ∀ p ∈ X.pn ++ pins, p.1 ≠ a) :
    L2.Inv X pins σ (upd H a (ExH cls d a)) s := by
  have ne0 : ∀ b o, X.s_0.heap.get? b = some o → b ≠ a := fun b o e z => by rw [z, n0] at e; cases e
  refine ⟨I.ok, I.os, I.bare, ⟨I.base.keep, I.base.slot, fun b o e n hx => ?_, I.base.there, fun b xs e => ?_, fun b o u e => ?_, fun b ps e => ?_⟩, I.loc, I.cell, ?_, fun x c e => ?_, fun p hp => ?_, fun b u e => ?_, I.len⟩
  · rw [upd_ne (ne0 b o e)]; exact I.base.free b o e n hx
  · have z := I.base.tups b xs e; rw [upd_ne (ne_of_none z na)]; exact z
  · have z := I.base.frzs b o u e; rw [upd_ne (ne_of_none z na)]; exact z
  · obtain ⟨m, z⟩ := I.base.tbls b ps e; exact ⟨m, by rw [upd_ne (ne_of_none z na)]; exact z⟩
  · rw [upd_ne (Ne.symm nL)]; exact I.free
  · have hc : c ≠ a := fun z => by
      obtain ⟨v, o, ho, hdc⟩ := I.cell x c e
      rw [z, ha] at ho
      cases ho
      rw [hd] at hdc; cases hdc
    rw [upd_ne hc]; exact I.freeC x c e
  · obtain ⟨e, n, ne, nf, dc⟩ := I.pin p hp
    exact ⟨e, by rw [upd_ne (np p hp)]; exact n, ne, nf, dc⟩
  · by_cases hb : b = a
    · subst hb
      rw [upd_same] at e
      cases e
      exact exH_ok ha hz hd
    · rw [upd_ne hb] at e
      exact (I.hok b u e).stay (fun c v _ q => q) (fun c q => by rw [upd_ne (ne_of_none q na)]; exact q) fun c xs q => by rw [upd_ne (ne_of_none q na)]; exact q
end
/-- the context of a suite that has the exception by a name -/
abbrev suiteT (X : Cx) (a : Addr) (pn : List (Addr × Obj)) : Cx := { X with A := X.A.mark (some (.ref a)), calm := false, pn := pn, xe := fun _ _ => False }
theorem okT {X : Cx} (ok : X.Ok) (a : Addr) (pn : List (Addr × Obj)) : (suiteT X a pn).Ok :=
  ⟨ok.mod, ok.kind, ok.glob, ok.blt, ok.above, ok.inj, ok.has, ok.cab, (fun z => absurd (show false = true from z) Bool.false_ne_true), ok.frames, ok.stk, ok.exf, ok.bs, ok.bsz, ok.noex, ok.exfs, ok.funs, ok.frf⟩
/-- what the clause 'except x as n' wishes -/
def wAsT (K : PySem.W.Frag) (c : Value) (i : Nat) (ts : Addr → TS) (Wout : WX) (D : Ends) : WX := fun cls d σ H =>
  ∃ b, PySem.W.exmOne K cls c = some b ∧ (b = true → ∀ a, H a = none → ts a { nx := fun σ' H' => D.nx (σ'.set i none) H', rt := D.rt, bk := fun σ' H' => D.bk (σ'.set i none) H', ct := fun σ' H' => D.ct (σ'.set i none) H' } (σ.set i (some (.ref a))) (upd H a (ExH cls d a))) ∧
    (b = false → Wout cls d σ H)
section
variable {X : Cx} {x n : Str} {c : Value} {i : Nat} {body suite : List Stmt} {b₀ : Stmt} {np pos pos' : Pos} {tb : WX → TS} {ts : Addr → TS} {Wout : WX}
theorem ps_try_asT (hs : X.stack = X.env :: X.outer) (hf : X.env.frame = some X.env.locals) (hex : X.ex = []) (hN : X.N.Nodup) (hi : X.N[i]? = some n) (hln : X.env.kindOf n = some .local) (hc : Names X x c) (tk : L2N.Takes X Wout)
    (hb : ∀ (W : WX) (pn : List (Addr × Obj)) (xe : Value → Shared → Prop), L2N.Takes (X.tr pn xe) W → PassesOwn (model X.prog X.w) X.A X.env xe → PSs (X.tr pn xe) body (tb W))
    (hsu : ∀ (a : Addr) (pn : List (Addr × Obj)), PSs (suiteT X a pn) (b₀ :: suite) (ts a)) :
    PS X (.Try body [.ExceptHandler (some (.Name x np)) (some n) (b₀ :: suite) pos'] [] [] pos) (fun D σ H => tb (wAsT X.K c i ts Wout D) D σ H) := by
  refine ⟨fun pins s σ H D I h => ?_⟩
  have ok := I.ok
  have hfr : X.A.frames = some (X.env :: X.outer) := by rw [ok.frames, hs]
  have hloc : Loc X.env.scope n := .inl hln
  refine wpAny_Try_except ?_
  refine wpAny_mono ((hb (wAsT X.K c i ts Wout D) (X.pn ++ pins) (fun e s₁ => wpAny (model X.prog X.w) X.A (noteFrame e X.env) (fun _ s₂ => wpAny (model X.prog X.w) X.A (setFlight e none) (fun _ s₃ =>
    wpAny (model X.prog X.w) X.A (handleBy e X.env [.ExceptHandler (some (.Name x np)) (some n) (b₀ :: suite) pos']) (SP X pins D) X.xe s₃) X.xe s₂) X.xe s₁) (fun u s' xx => ?_) PassesOwn.looking).run [] s σ H D (I.toTry _) h) (fun f s1 hsp => ?_) (fun e s1 he => he)
  · obtain ⟨a, B, sI, pins', σ', H', cls, d, rfl, J', nb, up, sky, na, os, ag, b, hb1, hyes, hno⟩ := xx
    have J : L2.Inv X pins σ' H' sI := J'.ofTry ok
    have sky' : Sky B (X.env :: X.outer) a (L2N.Zn cls d) X.env.locals s'.heap := by rw [← hs]; exact sky
    show wpAny (model X.prog X.w) X.A (noteFrame (.ref a) X.env) _ _ _
    refine L2N.Sky.land L2N.Zn.steady hfr hf sky' fun h3 fl3 up3 => ?_
    have J3 : L2.Inv X pins σ' H' { s' with heap := h3 } := J.landed nb fl3.1 (up.trans up3) os ag
    obtain ⟨oe3, vs3, he3, hz3, hd3⟩ := fl3.there
    have notFr : ∀ {h : Heap} {o : Obj} {vs : Array Value}, h.FunFrames B (X.env :: X.outer) → h.get? a = some o → o.data = .fields vs → a ∉ frs (X.env :: X.outer) := fun {h o vs} ff e dd hm => by
      obtain ⟨_, o', e', hnf⟩ := ff.mem hm
      rw [e] at e'; cases e'
      exact hnf _ dd
    have nfr := notFr fl3.2.2.1 he3 hd3
    have nL : a ≠ X.env.locals := fun z => nfr (List.mem_filterMap.mpr ⟨X.env, List.mem_cons_self, by rw [hf, z]⟩)
    have nF : a ∉ X.fs := fun hm => by
      obtain ⟨e, he, q⟩ := List.mem_filterMap.mp hm
      exact nfr (List.mem_filterMap.mpr ⟨e, List.mem_cons_of_mem _ he, q⟩)
    have nB : B.get? a = none := fl3.2.1
    have nst : ∀ b o, sI.heap.get? b = some o → b ∉ frs X.stack → b ≠ a := fun b o e hb z => by
      have q := nb b o e hb
      rw [z, nB] at q; cases q
    have n0 : X.s_0.heap.get? a = none := by
      cases e : X.s_0.heap.get? a with
      | none => rfl
      | some o =>
        obtain ⟨o', q⟩ := J.base.there a o e (by rw [hex]; exact fun z => nomatch z)
        exact absurd rfl (nst a o' q (by rw [hs]; exact nfr))
    have npa : ∀ p ∈ X.pn ++ pins, p.1 ≠ a := fun p hp => by
      obtain ⟨e, _, ne, nf, _⟩ := J.pin p hp
      exact nst p.1 p.2 e fun hm => (List.mem_cons.mp (J.stkSub p.1 hm)).elim ne nf
    have S3 := J3.suite he3 hd3 na nL nF
    refine wpAny_handleBy_cons (codeAny_handlers_test ?_) (by intro q; cases q)
    have LT : PySem.W.Looks (model X.prog X.w) h3 (typeOf (.ref a)) cls := fun A Q E s k q => wpAny_typeOf_ref (k _ _ he3) (by rw [hz3.1]; exact q)
    have LM := PySem.W.exm_one (M := model X.prog X.w) (J3.kIn) LT hb1
    have test : ∀ {Q : Value → Shared → Prop} {E : Value → Shared → Prop}, Q c { s' with heap := h3 } → wpAny (model X.prog X.w) (X.A.mark (some (.ref a))) (eval (.Name x np) X.env) Q E { s' with heap := h3 } := fun {Q E} q => by
      obtain ⟨hg, hdbg, hm | ⟨hm, hv, hnn⟩⟩ := hc
      · exact ld_glob (X := X.suite a ((a, oe3) :: (X.pn ++ pins))) S3 hg hm q hdbg
      · exact ld_blt (X := X.suite a ((a, oe3) :: (X.pn ++ pins))) S3 hg hm hv q hnn hdbg
    refine test (LM.here ?_)
    cases b with
    | true =>
      refine codeAny_handlers_suite_as ?_
      refine HandSPX.lands_againZ fl3 fun h4 fl4 up4 => ?_
      have J4 : L2.Inv X pins σ' H' { s' with heap := h4 } := J.landed nb fl4.1 ((up.trans up3).trans up4) os ag
      obtain ⟨oe4, vs4, he4, hz4, hd4⟩ := fl4.there
      have JT := Inv.track J4 he4 hz4 hd4 na n0 nL npa
      have S4 : L2.Inv (suiteT X a (X.pn ++ pins)) [] σ' (upd H' a (ExH cls d a)) { s' with heap := h4 } :=
        ⟨okT JT.ok _ _, JT.os, JT.bare, JT.base, JT.loc, JT.cell, JT.free, JT.freeC, fun p hp => JT.pin p (by rw [List.append_nil] at hp; exact hp), JT.hok, JT.len⟩
      refine store_ok (X := suiteT X a (X.pn ++ pins)) (v := .ref a) S4 hN hi hloc rfl (fun s5 S5 => ?_) (.inr hln)
      refine wpAny_mono ((hsu a (X.pn ++ pins)).run [] s5 _ _ _ S5 (hyes rfl a na)) (fun f s6 hsp => ?_) (fun _ _ z => False.elim z)
      have back : ∀ {σ6 : L2.St} {H6 : Hp}, L2.Inv (suiteT X a (X.pn ++ pins)) [] σ6 H6 s6 → L2.Inv X pins σ6 H6 s6 := fun {σ6 H6} S6 =>
        ⟨ok, S6.os, S6.bare, S6.base, S6.loc, S6.cell, S6.free, S6.freeC, fun p hp => S6.pin p (List.mem_append_left _ hp), S6.hok, S6.len⟩
      have end_ : ∀ {σ6 : L2.St} {H6 : Hp} {Q : Shared → Prop}, L2.Inv (suiteT X a (X.pn ++ pins)) [] σ6 H6 s6 → (∀ s7, L2.Inv X pins (σ6.set i none) H6 s7 → Q s7) →
          wpAny (model X.prog X.w) X.A (do bindName X.env n .none; unbindBehindTheSuite X.env n pos') (fun _ s7 => Q s7) X.xe s6 := fun {σ6 H6 Q} S6 hq => gone_ok (back S6) hN hi hln hq
      cases f with
      | next =>
        obtain ⟨σ6, H6, S6, q6⟩ := hsp
        exact end_ S6 fun s7 J7 => ⟨_, _, J7, q6⟩
      | brk =>
        obtain ⟨σ6, H6, S6, q6⟩ := hsp
        exact end_ S6 fun s7 J7 => ⟨_, _, J7, q6⟩
      | cont =>
        obtain ⟨σ6, H6, S6, q6⟩ := hsp
        exact end_ S6 fun s7 J7 => ⟨_, _, J7, q6⟩
      | ret u =>
        obtain ⟨v6, σ6, H6, S6, r6, q6⟩ := hsp
        exact end_ S6 fun s7 J7 => ⟨_, _, _, J7, r6, q6⟩
    | false =>
      show wpAny _ X.A (handleBy (.ref a) X.env []) _ _ _
      refine wpAny_handleBy_nil ?_
      obtain ⟨k1, k2, k3, oe, vs, T, oT, ts', he, hz, hd, h1, hr⟩ := id fl3
      unfold PySem.passOn
      refine wpAny_bind (wpAny_field he hd h1 ?_)
      rw [if_neg (show ¬ ((Value.ref T == Value.none) = true) from by simp)]
      have fin : wpAny (model X.prog X.w) X.A (setFlight (.ref a) X.env.frame) (fun _ s4 => wpAny (model X.prog X.w) X.A (throw (.ref a) : Sem Flow) (SP X pins D) X.xe s4) X.xe { s' with heap := h3 } := by
        rw [hf]
        refine HandSPX.setFlight_upZ fl3 fun h4 hh4 up4 => wpAny_throw (tk _ _ ?_)
        exact ⟨a, B, sI, pins, σ', H', cls, d, rfl, J, nb, (up.trans up3).trans up4, .inr (.inr (by rw [hs]; exact hh4)), na, os, ag, hno rfl⟩
      first
        | exact wpAny_bind (wpAny_pure (wpAny_bind fin))
        | exact wpAny_bind fin
  · cases f with
    | next =>
      obtain ⟨σ', H', J', q⟩ := hsp
      exact wpAny_execs_nil ⟨σ', H', J'.ofTry ok, q⟩
    | brk =>
      obtain ⟨σ', H', J', q⟩ := hsp
      exact ⟨σ', H', J'.ofTry ok, q⟩
    | cont =>
      obtain ⟨σ', H', J', q⟩ := hsp
      exact ⟨σ', H', J'.ofTry ok, q⟩
    | ret u =>
      obtain ⟨v, σ', H', J', r, q⟩ := hsp
      exact ⟨v, σ', H', J'.ofTry ok, r, q⟩
end
/-! ### raise C(e), C's __init__ keeping its argument as row -/
/-- __init__ of such a class -/
structure InitOk (K : PySem.W.Frag) (C : Addr) : Prop where
  oc : OexC K C
  fn : ∃ (fI : Addr) (fd : FuncData) (st : Stmt) (nm qn : Str) (N : List Str) (p1 p2 p3 p4 : Pos), PySem.W.findIn K (.ref C) "__init__" = some (some (.ref fI)) ∧ PySem.W.typeIn K (.ref fI) = some (.type "function") ∧ Fun K nm qn st fI fd ∧ L2.Binds K fd ["self", "row"] [] ∧
    FnScope ["self", "row"] ["self", "row"] (defScope st) ∧ defBody st = [.Assign [.Attribute (.Name "self" p1) "row" p2] (.Name "row" p3) p4]
def spRow (K : PySem.W.Frag) : Sp := fun vs H Q _ => ∃ (a C : Addr) (v : V), vs = [.ref a, v] ∧ OexC K C ∧ PySem.W.findIn K (.ref C) "row" = some none ∧ H a = some (exo a C none) ∧
  ∀ dx, H dx = none → dx ≠ a → Q .non (upd (upd H dx (exd dx [("row", v)])) a (exo a C (some dx)))
theorem row_fn {P : Program} {w : World} {K : PySem.W.Frag} {mg : Str → Option Value} {base : Heap} {k : Nat} {fI : Addr} {fd : FuncData} {st : Stmt} {nm qn : Str} {p1 p2 p3 p4 : Pos} (F : Fun K nm qn st fI fd) (S : FnScope ["self", "row"] ["self", "row"] (defScope st))
    (hb : defBody st = [.Assign [.Attribute (.Name "self" p1) "row" p2] (.Name "row" p3) p4]) : FnOk P w K mg base CX0 (k + 1) fI fd ["self", "row"] (spRow K) := by
  refine F.ok S (fun vs H Q E ⟨a, C, v, e, _⟩ => by rw [e]; rfl) fun cdv A outer s H vs Q E hr hsp => ?_
  obtain ⟨a, C, v, rfl, T, nr, ea, q⟩ := hsp
  have vs_ : ∀ x ∈ (["self", "row"] : List Str), Vis (defScope st) x := fun x hx => by
    rcases S.par x hx with z | z
    · exact .inl z
    · exact .inr (.inl z)
  rw [hb]
  refine ⟨_, pss_cons (ps_ost (f := "row") (pe_var (i := 0) (by rfl) (vs_ "self" (by simp))) (pe_var (i := 1) (by rfl) (vs_ "row" (by simp)))) pss_nil, ?_⟩
  refine ⟨v, rfl, .ref a, rfl, a, C, rfl, T, nr, .inl ⟨ea, fun dx hn hne => ?_⟩⟩
  exact q dx hn hne
theorem pmk_oexN {X : Cx} {CX : CXT} {x : Str} {e : Expr} {es : List Expr} {ta : TA} {p pos : Pos} {C fI : Addr} {k : Nat} {fd : FuncData} {ps : List Str} {sp : Sp} (T : OexC X.K C) (iC : PySem.W.findIn X.K (.ref C) "__init__" = some (some (.ref fI))) (tI : PySem.W.typeIn X.K (.ref fI) = some (.type "function"))
    (F1 : FnOk X.prog X.w X.K X.mg X.base CX k fI fd ps sp) (hr : Room (k + 1) X.A) (hb : L2.Binds X.K fd ps []) (hx : Passes CX X (fun _ _ _ => False)) (hg : Gl X x) (hm : X.mg x = some (.ref C)) (ha : PA X (e :: es) ta)
    (hdb : (x == ("__debug__" : Str)) = false) (he : starEach (e :: es) X.env = (false, eval e X.env) :: starEach es X.env) (hpl : (backTo pos (starEach es X.env)).any (·.1) = false) :
    L2N.PMk X (.Call (.Name x p) (e :: es) [] pos) (tMkO C sp [] ta) := by
  intro pins s σ H Q I h
  obtain ⟨nm, q, N, bs, bm, sn, sub, ab, col, dd, k0, k1, k2, k3, k5, hC, hbm⟩ := T.cls
  refine wpAny_Call_Name_kw (ld_glob I hg hm ?_ hdb)
  refine PySem.W.callWith_K (h₀ := X.base) I.ok.mod.kin T.kC (thn (ha.run pos pins s σ H _ I h) fun us s1 ⟨vs, H1, I1, r1, hz, q1⟩ => ⟨I1.kIn, ?_⟩) he hpl
  show wpAny _ _ (call (.ref C) us) _ _ _
  obtain ⟨hp, g, dr, tk, os⟩ := s1
  have hsz : hp.objs.size ≤ hp.objs.size + 1 := Nat.le_succ _
  have hn : H1 (hp.objs.size + 1) = none := I1.hok.fresh hsz
  have hq := q1 (hp.objs.size + 1) hn
  rw [List.append_nil] at hq
  have kk : ∀ b o, hp.get? b = some o → ((hp.push (PySem.W.kdv_tup us)).push (PySem.HandSPX.excO C hp.objs.size)).get? b = some o := fun b o e => Heap.get?_push_of_some _ (Heap.get?_push_of_some _ e)
  have hget : ((hp.push (PySem.W.kdv_tup us)).push (PySem.HandSPX.excO C hp.objs.size)).get? (hp.objs.size + 1) = some (PySem.HandSPX.excO C hp.objs.size) := by heap_get
  have I2 : L2.Inv X pins σ (upd H1 (hp.objs.size + 1) (exo (hp.objs.size + 1) C none)) ⟨(hp.push (PySem.W.kdv_tup us)).push (PySem.HandSPX.excO C hp.objs.size), g, dr, tk, os⟩ :=
    I1.laid (t' := tk) (a := hp.objs.size + 1) (o := exo (hp.objs.size + 1) C none) (h' := (hp.push (PySem.W.kdv_tup us)).push (PySem.HandSPX.excO C hp.objs.size)) kk hsz (exo_ok hget)
  have r2 : Vals (V.ref (hp.objs.size + 1) :: vs) (Value.ref (hp.objs.size + 1) :: us) := .cons rfl r1
  have hl : (Value.ref (hp.objs.size + 1) :: us ++ []).length = ps.length := by
    have e := r2.length
    rw [F1.len _ _ _ _ hq] at e
    rw [List.append_nil]
    exact e.symm
  have hus : us.length ≤ sizeLine := by
    rw [← Paired.length r1, sizeLine_eq]
    omega
  have b2 := hb _ (Value.ref (hp.objs.size + 1) :: us) I2.kIn hl
  rw [List.append_nil] at b2
  refine wpAny_call (PySem.HandSPX.call_own F.excBase_ValueError (fun Y => PySem.HandSPX.refsVE_contains Y bm hbm) (I1.kIn _ _ hC) (PySem.W.looks_findIn I1.kIn iC) (fun self => PySem.W.bind_fn I1.kIn self tI) hus
    (codeAny_mono (F1.run _ X.stack _ _ ⟨Value.ref (hp.objs.size + 1) :: us, []⟩ (Value.ref (hp.objs.size + 1) :: us) _ _ (fun _ _ _ => False) (hr.make C us []) (I2.env0.make C us []) b2 r2 hq) fun r s' hq' => ?_))
  cases r with
  | error er => exact hx pins σ _ _ er s' I2 hq'
  | ok fl =>
    cases fl with
    | ret u =>
      obtain ⟨v, H2, os2, bare2, un2, hok2, rv, ev, d, fs, ea, ed, hd1, q2⟩ := hq'
      subst ev
      obtain ⟨h2, g2, d2, t2, os'⟩ := s'
      obtain ⟨t0, G, J, kG, ge, hoe, na⟩ := mk_end0 (d2 := d2) (t2 := t2) I1 hsz kk un2 hok2 os2 bare2 ea ed hd1
      refine ⟨rv, ⟨hp.objs.size + 1, _, _, ⟨G, g2, d2, t2, os'⟩, _, .ref C, some d, rfl, J, kG, ge, hoe, ⟨rfl, rfl, fun vs hv => ?_⟩, rfl, rfl, na, rfl, bare2, raises_own T.exC T.tyC, q2⟩⟩
      cases hv
      rfl
    | next => exact False.elim hq'
    | brk => exact False.elim hq'
    | cont => exact False.elim hq'
/-- C(e) raised, e's worth kept as row -/
theorem pmk_row {X : Cx} {x : Str} {e : Expr} {te : TE} {p pos : Pos} {C : Addr} {k : Nat} (T : InitOk X.K C) (hr : Room (k + 2) X.A) (hg : Gl X x) (hm : X.mg x = some (.ref C)) (he : PE X e te)
    (hdb : (x == ("__debug__" : Str)) = false) (hs : starEach [e] X.env = (false, eval e X.env) :: starEach [] X.env) : L2N.PMk X (.Call (.Name x p) [e] [] pos) (tMkO C (spRow X.K) [] (tCons te tNil)) := by
  obtain ⟨oc, fI, fd, st, nm, qn, N, p1, p2, p3, p4, iC, tI, F, hb, S, hbd⟩ := T
  exact pmk_oexN oc iC tI (row_fn F S hbd) hr hb pass0 hg hm (pa_cons he pa_nil hs) hdb hs (by rfl)
theorem row_made {K : PySem.W.Frag} {C : Addr} {v : V} {H1 : Hp} {Q : XK} (T : OexC K C) (nr : PySem.W.findIn K (.ref C) "row" = some none) (q : ∀ d, H1 d = none → Q (.ref C) (some d) (upd H1 d (.xd [("row", v)]))) :
    [v].length ≤ 1000 ∧ ∀ a, H1 a = none → spRow K (.ref a :: ([v] ++ [])) (upd H1 a (exo a C none)) (fun v H2 => v = .non ∧ ∃ (d : Addr) (fs : List (Str × V)), H2 a = some (exo a C (some d)) ∧ H2 d = some (exd d fs) ∧ H1 d = none ∧ Q (.ref C) (some d) (upd (del H2 a) d (.xd fs))) (fun _ _ _ => False) := by
  refine ⟨by show 1 ≤ 1000; omega, fun a ha => ⟨a, C, v, rfl, T, nr, upd_same, fun dx hn hne => ⟨rfl, dx, _, upd_same, by rw [upd_ne hne]; exact upd_same, by rwa [upd_ne hne] at hn, ?_⟩⟩⟩
  have hn1 : H1 dx = none := by rwa [upd_ne hne] at hn
  have e : upd (del (upd (upd (upd H1 a (exo a C none)) dx (exd dx [("row", v)])) a (exo a C (some dx))) a) dx (.xd [("row", v)]) = upd H1 dx (.xd [("row", v)]) := by
    funext b
    by_cases hb : b = dx
    · rw [hb, upd_same, upd_same]
    · rw [upd_ne hb, upd_ne hb]
      by_cases ha' : b = a
      · rw [ha', del_same, ha]
      · rw [del_ne ha', upd_ne ha', upd_ne hb, upd_ne ha']
  rw [e]
  exact q dx hn1
end Bp

namespace Bp
open PySem L2 PySem.Spec PyProof.Rows

theorem pe_imp {X : Cx} {e : Expr} {t t' : TE} (h : PE X e t) (i : ∀ σ H Q, t' σ H Q → t σ H Q) : PE X e t' := ⟨fun pins s σ H Q I q => h.run pins s σ H Q I (i σ H Q q)⟩
theorem pt_imp {X : Cx} {e : Expr} {t t' : TT} (h : PT X e t) (i : ∀ σ H Q, t' σ H Q → t σ H Q) : PT X e t' := ⟨fun pins s σ H Q I q => h.run pins s σ H Q I (i σ H Q q)⟩
theorem pw_imp {X : Cx} {e : Expr} {t t' : TT} (h : PW X e t) (i : ∀ σ H Q, t' σ H Q → t σ H Q) : PW X e t' := ⟨fun wh pins s σ H Q I q => h.run wh pins s σ H Q I (i σ H Q q)⟩
theorem pa_imp {X : Cx} {e : List Expr} {t t' : TA} (h : PA X e t) (i : ∀ σ H Q, t' σ H Q → t σ H Q) : PA X e t' := ⟨fun p pins s σ H Q I q => h.run p pins s σ H Q I (i σ H Q q)⟩
theorem po_imp {X : Cx} {e : Option Expr} {t t' : TO} (h : PO X e t) (i : ∀ σ H Q, t' σ H Q → t σ H Q) : PO X e t' := ⟨fun pins s σ H Q I q => h.run pins s σ H Q I (i σ H Q q)⟩
theorem ps_imp {X : Cx} {e : Stmt} {t t' : TS} (h : PS X e t) (i : ∀ D σ H, t' D σ H → t D σ H) : PS X e t' := ⟨fun pins s σ H D I q => h.run pins s σ H D I (i D σ H q)⟩
theorem pss_imp {X : Cx} {e : List Stmt} {t t' : TS} (h : PSs X e t) (i : ∀ D σ H, t' D σ H → t D σ H) : PSs X e t' := ⟨fun pins s σ H D I q => h.run pins s σ H D I (i D σ H q)⟩
theorem pg_imp {X : Cx} {e : Expr} {t t' : TG} (h : PG X e t) (i : ∀ v σ H Q, t' v σ H Q → t v σ H Q) : PG X e t' := ⟨fun pins s σ H v u Q I r q => h.run pins s σ H v u Q I r (i v σ H Q q)⟩
theorem pgs_imp {X : Cx} {e : List Expr} {t t' : TGs} (h : PGs X e t) (i : ∀ v σ H Q, t' v σ H Q → t v σ H Q) : PGs X e t' := ⟨fun pins s σ H v u Q I r q => h.run pins s σ H v u Q I r (i v σ H Q q)⟩
theorem pi_imp {X : Cx} {tg e : Expr} {t t' : TI} (h : PI X tg e t) (i : ∀ σ H Q, t' σ H Q → t σ H Q) : PI X tg e t' := ⟨fun pins s σ H Q I q => h.run pins s σ H Q I (i σ H Q q)⟩
theorem pg_or {X : Cx} {e : Expr} {t t' : TG} (h : PG X e t) (h' : PG X e t') : PG X e (fun v σ H Q => t v σ H Q ∨ t' v σ H Q) := ⟨fun pins s σ H v u Q I r q => q.elim (h.run pins s σ H v u Q I r) (h'.run pins s σ H v u Q I r)⟩

/-! ### slots -/
structure Er (K : PySem.W.Frag) (H : Hp) (m : List Addr) (σ : L2.St) (e : En) : Prop where
  len : σ.length = e.length
  at_ : ∀ (i : Nat) (d : D), e[i]? = some (some d) → ∃ v, σ[i]? = some (some v) ∧ R K H m v d
section
variable {K : PySem.W.Frag} {ca : Cs} {H H' : Hp} {m m' : List Addr} {σ : L2.St} {e : En} {h : Hh}
theorem Er.mono0 (E : Er K H m σ e) (x : Ext0 K H m H' m') : Er K H' m' σ e := ⟨E.len, fun i d q => let ⟨v, a, b⟩ := E.at_ i d q; ⟨v, a, b.mono0 x⟩⟩
theorem Er.mono (E : Er K H m σ e) (x : Ext K H m H' m') : Er K H' m' σ e := ⟨E.len, fun i d q => let ⟨v, a, b⟩ := E.at_ i d q; ⟨v, a, b.mono x⟩⟩
theorem Er.set (E : Er K H m σ e) {v : V} {d : D} (r : R K H m v d) (i : Nat) : Er K H m (σ.set i (some v)) (e.set i (some d)) := by
  refine ⟨by rw [List.length_set, List.length_set]; exact E.len, fun j d' q => ?_⟩
  by_cases ij : i = j
  · subst ij
    have hl : i < e.length := by
      have := (List.getElem?_eq_some_iff.mp q).1
      rwa [List.length_set] at this
    rw [List.getElem?_set_self hl] at q
    cases q
    exact ⟨v, List.getElem?_set_self (by rw [E.len]; exact hl), r⟩
  · rw [List.getElem?_set_ne ij] at q
    rw [List.getElem?_set_ne ij]
    exact E.at_ j d' q
theorem Er.unset (E : Er K H m σ e) (i : Nat) : Er K H m (σ.set i none) (e.set i none) := by
  refine ⟨by rw [List.length_set, List.length_set]; exact E.len, fun j d' q => ?_⟩
  by_cases ij : i = j
  · subst ij
    have hl : i < e.length := by
      have := (List.getElem?_eq_some_iff.mp q).1
      rwa [List.length_set] at this
    rw [List.getElem?_set_self hl] at q
    cases q
  · rw [List.getElem?_set_ne ij] at q
    rw [List.getElem?_set_ne ij]
    exact E.at_ j d' q
theorem Er.wipe (E : Er K H m σ e) : ∀ vs : List Nat, Er K H m (L2.wipe σ vs) (wipeE e vs)
  | [] => E
  | v :: vs => (Er.wipe E vs).unset v
theorem Er.start {vs : List V} {ds : List D} (r : Rs K H m vs ds) (N : List Str) : Er K H m (L2.start N vs) (ds.map some ++ List.replicate (N.length - ds.length) none) := by
  refine ⟨?_, fun i d q => ?_⟩
  · unfold L2.start
    rw [List.length_append, List.length_append, List.length_map, List.length_map, List.length_replicate, List.length_replicate, r.len]
  · unfold L2.start
    by_cases hi : i < ds.length
    · rw [List.getElem?_append_left (by rw [List.length_map]; exact hi), List.getElem?_map] at q
      cases hd : ds[i]? with
      | none => rw [hd] at q; cases q
      | some d0 =>
        rw [hd] at q
        cases q
        obtain ⟨v, e1, r1⟩ := r.get hd
        refine ⟨v, ?_, r1⟩
        rw [List.getElem?_append_left (by rw [List.length_map, r.len]; exact hi), List.getElem?_map, e1]
        rfl
    · rw [List.getElem?_append_right (by rw [List.length_map]; omega), List.getElem?_replicate] at q
      split at q <;> cases q
end
theorem wipe_set {σ : L2.St} {i : Nat} {x : Option V} : ∀ {vs : List Nat}, i ∈ vs → wipe (σ.set i x) vs = wipe σ vs
  | v :: vs, hi => by
    unfold wipe
    by_cases e : i = v
    · subst e
      by_cases h2 : i ∈ vs
      · rw [wipe_set h2]
      · have : ∀ (vs : List Nat), i ∉ vs → (wipe (σ.set i x) vs) = (wipe σ vs).set i x := by
          intro vs
          induction vs with
          | nil => intro _; rfl
          | cons w ws ih =>
            intro hn
            unfold wipe
            rw [ih (fun z => hn (List.mem_cons_of_mem _ z)), List.set_comm _ _ (fun z => hn (by rw [z]; exact List.mem_cons_self))]
        rw [this vs h2, List.set_set]
    · rcases List.mem_cons.mp hi with z | z
      · exact absurd z e
      · rw [wipe_set z]

/-! ### the readings -/
/-- .. and what is wished of an exception -/
structure Cj extends Cs where
  W : WX
instance : Coe Cj Cs := ⟨Cj.toCs⟩
/-- an exception beside ours -/
def Xrel (K : PySem.W.Frag) (cf : Str → Option Addr) (H : Hp) (m : List Addr) (c : Str) (p : Option D) (cls : Value) (d : Option Addr) : Prop := ∃ C, cf c = some C ∧ cls = .ref C ∧ ExP K H m p d
/-- what is wanted of an exception -/
def Xp (K : PySem.W.Frag) (ca : Cj) (H0 : Hp) (m0 : List Addr) (σ : L2.St) (e : En) (X : Xq) : Prop := ∀ m H h c p cls d, Ext K H0 m0 H m → Sm K ca H m h → Er K H m σ e → Xrel K ca.ca H m c p cls d → X c p h → ca.W cls d σ H
theorem Xp.mono {K : PySem.W.Frag} {ca : Cj} {H H' : Hp} {m m' : List Addr} {σ : L2.St} {e : En} {X : Xq} (x : Xp K ca H m σ e X) (y : Ext K H m H' m') : Xp K ca H' m' σ e X := fun m2 H2 h2 c p cls d z => x m2 H2 h2 c p cls d (y.trans z)
def Xn (X : Xq) : Prop := ∀ c r h, ¬ X c r h
theorem Xn.xp {K : PySem.W.Frag} {ca : Cj} {H : Hp} {m : List Addr} {σ : L2.St} {e : En} {X : Xq} (x : Xn X) : Xp K ca H m σ e X := fun _ _ _ _ _ _ _ _ _ _ _ z => absurd z (x _ _ _)
theorem xnF : Xn (fun _ _ _ => False) := fun _ _ _ z => z
theorem xpF {K : PySem.W.Frag} {ca : Cj} {H : Hp} {m : List Addr} {σ : L2.St} {e : En} : Xp K ca H m σ e (fun _ _ _ => False) := xnF.xp
def Xe (K : PySem.W.Frag) (cf : Str → Option Addr) (H0 : Hp) (m0 : List Addr) (E : XK) (X : Xq) : Prop := ∀ m H h c p cls d, Sm K ⟨cf, H0, m0⟩ H m h → Xrel K cf H m c p cls d → X c p h → E cls d H
theorem Xp.xe {K : PySem.W.Frag} {ca : Cj} {σ : L2.St} {e : En} {X : Xq} {H : Hp} {m : List Addr} {h : Hh} (x : Xp K ca H m σ e X) (S : Sm K ca H m h) (E : Er K H m σ e) : Xe K ca.ca H m (WE ca.W σ) X :=
  fun m' H' h' c p cls d S' r q => x m' H' h' c p cls d S'.or (S'.there S.or) (E.mono S'.or) r q
theorem Post.here {K : PySem.W.Frag} {ca : Cs} {H : Hp} {m : List Addr} {h : Hh} {Q' : Qd} {Q : VK} (p : Post K ca H m Q' Q) (S : Sm K ca H m h) : Post K ⟨ca.ca, H, m⟩ H m Q' Q := fun m' v H' d h' x S' r q => p m' v H' d h' x (S'.there S.or) r q
section
variable (C : Cn) (K : PySem.W.Frag) (ca : Cj)
def tE (a : E) : TE := fun σ H Q => ∃ m e h Q' X, Sm K ca H m h ∧ Er K H m σ e ∧ Xp K ca H m σ e X ∧ wpE C a X e h Q' ∧ Post K ca H m Q' Q
def tB (k : Bool) (a : Es) : TE := fun σ H Q => ∃ m e h Q' X, Sm K ca H m h ∧ Er K H m σ e ∧ Xp K ca H m σ e X ∧ wpB C k a X e h Q' ∧ Post K ca H m Q' Q
def PostB (H : Hp) (m : List Addr) (Q' : Bool → Hh → Prop) (Q : Bool → Hp → Prop) : Prop := ∀ m' H' b h', Ext K H m H' m' → Sm K ca H' m' h' → Q' b h' → Q b H'
def PostT (H : Hp) (m : List Addr) (Q' : Qd) (Q : Bool → Hp → Prop) : Prop := ∀ m' H' d h', Ext K H m H' m' → Sm K ca H' m' h' → Q' d h' → tru h' d fun b => Q b H'
def tT (a : E) : TT := fun σ H Q => ∃ m e h Q' X, Sm K ca H m h ∧ Er K H m σ e ∧ Xp K ca H m σ e X ∧ wpE C a X e h Q' ∧ PostT K ca H m Q' Q
def PostL (H : Hp) (m : List Addr) (Q' : List D → Hh → Prop) (Q : List V → Hp → Prop) : Prop := ∀ m' vs H' ds h', Ext K H m H' m' → Sm K ca H' m' h' → Rs K H' m' vs ds → Q' ds h' → Q vs H'
def tA (a : Es) : TA := fun σ H Q => ∃ m e h Q' X, Sm K ca H m h ∧ Er K H m σ e ∧ Xp K ca H m σ e X ∧ wpEs C a X e h Q' ∧ PostL K ca H m Q' Q
def PostO (H : Hp) (m : List Addr) (Q' : Option Int → Hh → Prop) (Q : Option Int → Hp → Prop) : Prop := ∀ m' H' o h', Ext K H m H' m' → Sm K ca H' m' h' → Q' o h' → Q o H'
def tO (a : Oe) : TO := fun σ H Q => ∃ m e h Q' X, Sm K ca H m h ∧ Er K H m σ e ∧ Xp K ca H m σ e X ∧ wpO C a X e h Q' ∧ PostO K ca H m Q' Q
def tC' (a : Oe) : TT := fun σ H Q => ∃ m e h Q' X, Sm K ca H m h ∧ Er K H m σ e ∧ Xp K ca H m σ e X ∧ wpC C a X e h Q' ∧ PostB K ca H m Q' Q
/-- a walk of ours over J, from H0, m0 on -/
structure WD (J : It) (s : Src) (H0 : Hp) (m0 : List Addr) : Prop where
  goes : ∀ (i : Nat) (H : Hp) (m : List Addr) (h : Hh), i < s.items.length → Ext K H0 m0 H m → Sm K ca H m h → s.ok h → J.go i H
  stops : ∀ (H : Hp) (m : List Addr) (h : Hh), Ext K H0 m0 H m → Sm K ca H m h → s.ok h → J.stop s.items.length H
  yields : ∀ (i : Nat) (H : Hp) (x : V) (H' : Hp) (m : List Addr) (h : Hh) (d : D), s.items[i]? = some d → Ext K H0 m0 H m → Sm K ca H m h → s.ok h → J.yld i H x H' → Ext K H m H' m ∧ Sm K ca H' m h ∧ R K H' m x d ∧ ∀ a o, H a = some o → H' a = some o
def PostI (H : Hp) (m : List Addr) (Q' : Src → Hh → Prop) (Q : It → Hp → Prop) : Prop := ∀ m' H' J s h', Ext K H m H' m' → Sm K ca H' m' h' → WD K ca J s H' m' → Q' s h' → Q J H'
def tI (a : Iv) : TI := fun σ H Q => ∃ m e h Q' X, Sm K ca H m h ∧ Er K H m σ e ∧ Xp K ca H m σ e X ∧ wpI C a X e h Q' ∧ PostI K ca H m Q' Q
/-- slots outside vs stay -/
def Keep (sl : List Nat) (σ σ' : L2.St) : Prop := ∀ vs : List Nat, (∀ i ∈ sl, i ∈ vs) → wipe σ' vs = wipe σ vs
def PostG (sl : List Nat) (σ : L2.St) (H : Hp) (m : List Addr) (Q' : En → Hh → Prop) (Q : L2.St → Hp → Prop) : Prop := ∀ m' σ' H' e' h', Ext K H m H' m' → Sm K ca H' m' h' → Er K H' m' σ' e' → Keep sl σ σ' → Q' e' h' → Q σ' H'
def tG (t : Tg) : TG := fun v σ H Q => ∃ m e h d Q' X, Sm K ca H m h ∧ Er K H m σ e ∧ R K H m v d ∧ Xn X ∧ wpG C t X d e h Q' ∧ PostG K ca (tgSlots t) σ H m Q' Q
def tGs (t : Tgs) : TGs := fun vs σ H Q => ∃ m e h ds Q' X, Sm K ca H m h ∧ Er K H m σ e ∧ Rs K H m vs ds ∧ Xn X ∧ wpGs C t X ds e h Q' ∧ PostG K ca (tgSlots.go t) σ H m Q' Q
def PostS (H : Hp) (m : List Addr) (P : Po) (D : Ends) : Prop :=
  (∀ m' σ' H' e' h', Ext K H m H' m' → Sm K ca H' m' h' → Er K H' m' σ' e' → P.nx e' h' → D.nx σ' H') ∧ Post K ca H m P.rt D.rt ∧
  (∀ m' σ' H' e' h', Ext K H m H' m' → Sm K ca H' m' h' → Er K H' m' σ' e' → P.bk e' h' → D.bk σ' H') ∧
  (∀ m' σ' H' e' h', Ext K H m H' m' → Sm K ca H' m' h' → Er K H' m' σ' e' → P.ct e' h' → D.ct σ' H') ∧ ∀ σ e, Xp K ca H m σ e (P.ex e)
def tS (a : S) : TS := fun D σ H => ∃ m e h P, Sm K ca H m h ∧ Er K H m σ e ∧ wpS C a e h P ∧ PostS K ca H m P D
def tSs (a : Ss) : TS := fun D σ H => ∃ m e h P, Sm K ca H m h ∧ Er K H m σ e ∧ wpSs C a e h P ∧ PostS K ca H m P D
end
/-- a def's promise -/
def spF (K : PySem.W.Frag) (cf : Str → Option Addr) (T : Tb) (k : Nat) (f : Str) : Sp := fun vs H Q E => ∃ F m h ds Q' X, T.df f = some F ∧ vs.length = F.ps.length ∧ Sm K ⟨cf, H, m⟩ H m h ∧ Rs K H m vs ds ∧ Xe K cf H m E X ∧ FS T k f ds h Q' X ∧ Post K ⟨cf, H, m⟩ H m Q' Q
/-- .. asked within an except suite -/
def spH (K : PySem.W.Frag) (cf : Str → Option Addr) (T : Tb) (f : Str) : Sp := fun vs H Q _ => ∃ F m h ds Q', T.df f = some F ∧ vs.length = F.ps.length ∧ Sm K ⟨cf, H, m⟩ H m h ∧ Rs K H m vs ds ∧ fsH T f ds h Q' ∧ Post K ⟨cf, H, m⟩ H m Q' Q

def bnames : List Str := ["len", "list", "tuple", "divmod", "abs", "int", "max", "min", "all", "any", "sum", "str", "bool", "range", "enumerate", "zip", "reversed", "isinstance", "dict", "repr", "sorted"]
def cnOf (T : Tb) (k : Nat) : Cn := ⟨FS T k, fun x => T.gls.lookup x, fun x => (T.fn x).isSome, fun x => T.tds.lookup x, T.fl, T.mtk, fsH T, T.sb, T.xk⟩
/-- an entry of a written dict beside one of ours -/
def EntOk (K : PySem.W.Frag) (e : DictEntry) (p : Str × D) : Prop := ∃ t v, e.key = .str p.1 t ∧ RelV v e.val ∧ ∀ H m, R K H m v p.2
def TabAt (K : PySem.W.Frag) (w : World) (a : Addr) (kvs : List (Str × D)) : Prop := ∃ es n, KDict K w a es n ∧ Paired (EntOk K) es.toList kvs
def veB : List Value := [.type "ValueError", .type "Exception", .type "BaseException", .type "object"]
/-- the classes of exceptions as they stand behind the top -/
structure XsOk (K : PySem.W.Frag) (mg : Str → Option Value) (cf : Str → Option Addr) (T : Tb) : Prop where
  cls : ∀ c k, T.xk c = some k → ∃ C, cf c = some C ∧ mg c = some (.ref C) ∧ ExC K C ∧ (k = false → PySem.W.excIn K C veB "ValueError.__new__" = true) ∧ (k = true → InitOk K C)
  exm : ∀ c k c0 k0 C C0, T.xk c = some k → T.xk c0 = some k0 → cf c = some C → cf c0 = some C0 → PySem.W.exmOne K (.ref C) (.ref C0) = some (T.sb c c0) ∧ PySem.W.kitOne K (.ref C) (.ref C0) = some (T.sb c c0)
  exv : ∀ c k C, T.xk c = some k → cf c = some C → PySem.W.kitOne K (.ref C) (.type "ValueError") = some (T.sb c "ValueError") ∧ mg "ValueError" = none ∧ T.xk "ValueError" = none
/-- what a context says of the names, the classes -/
structure Ct0 (g : Bool) (T : Tb) (ca : Cj) (N : List Str) (sc : Scope) (fc : Str → Bool) (X : Cx) : Prop where
  hN : X.N = N
  hsc : X.env.scope = sc
  nd : N.Nodup
  un0 : X.A.units + 200 < cLine
  gd0 : g = true → X.A.guards = some []
  fn : ∀ x, fc x = true → X.fn x = true
  blt : ∀ x ∈ bnames, X.mg x = none
  gls : ∀ x d, T.gls.lookup x = some d → ∃ v u, X.mg x = some u ∧ RelV v u ∧ ∀ H m, R X.K H m v d
  cfl : ∀ c f C, T.fl c f = true → ca.ca c = some C → Cls X.K C ∧ NoAttr X.K C f
  exs : XsOk X.K X.mg ca.ca T
structure Ct (T : Tb) (k : Nat) (ca : Cj) (N : List Str) (sc : Scope) (fc : Str → Bool) (X : Cx) : Prop extends Ct0 true T ca N sc fc X where
  calm : X.calm = true
  room : Room (k + 2) X.A
  fs : ∀ f F, T.fn f = some F → ∃ fa fd, X.mg f = some (.ref fa) ∧ PySem.W.keepIn X.K (.ref fa) = true ∧ L2.Binds X.K fd F.ps [] ∧ FnG X.prog X.w X.K X.mg X.base (L2N.CX X.prog X.w) (k + 2) fa fd F.ps (spF X.K ca.ca T k f)
  tds : ∀ x kvs, T.tds.lookup x = some kvs → ∃ a, X.mg x = some (.ref a) ∧ TabAt X.K X.w a kvs
  tk : L2N.Takes X ca.W
  cms : ∀ c m g C, T.mtk c m = some g → ca.ca c = some C → ∃ fa fd F, Cls X.K C ∧ Meth X.K C m fa ∧ T.df g = some F ∧ L2.Binds X.K fd F.ps [] ∧ FnG X.prog X.w X.K X.mg X.base (L2N.CX X.prog X.w) (k + 2) fa fd F.ps (spF X.K ca.ca T k g) ∧
    L2H.FnH X.prog X.w X.K X.mg X.base CX0 1 fa fd F.ps (spH X.K ca.ca T g)
  cmk : ∀ c g, T.mtk c "__init__" = some g → ∃ C fa fd F, ca.ca c = some C ∧ X.mg c = some (.ref C) ∧ Mk X.K C fa ∧ T.df g = some F ∧ L2.Binds X.K fd F.ps [] ∧ FnG X.prog X.w X.K X.mg X.base (L2N.CX X.prog X.w) (k + 1) fa fd F.ps (spF X.K ca.ca T k g)
/-- no exception is wished -/
def Cj.no (ca : Cj) : Cj := ⟨ca.toCs, fun _ _ _ _ => False⟩
section
variable {g : Bool} {T : Tb} {k : Nat} {ca : Cj} {N : List Str} {sc : Scope} {fc : Str → Bool} {X : Cx}
theorem Ct.gd (c : Ct T k ca N sc fc X) : X.A.guards = some [] := c.gd0 rfl
theorem Ct0.vis (c : Ct0 g T ca N sc fc X) {x : Str} (h : visB sc x = true) : Vis X.env.scope x := by
  rw [c.hsc]
  unfold visB at h
  split at h
  · exact .inl (by assumption)
  · exact .inr (.inl (by assumption))
  · exact .inr (.inr (by assumption))
  · cases h
theorem Ct0.gl (c : Ct0 g T ca N sc fc X) {x : Str} (h : glB sc x = true) : Gl X x := by
  show X.env.scope.names.lookup x = some .globalImplicit
  rw [c.hsc]
  unfold glB at h
  split at h
  · assumption
  · cases h
theorem Ct0.loc (c : Ct0 g T ca N sc fc X) {x : Str} (h : locB sc fc x = true) : Loc X.env.scope x ∧ (X.fn x = true ∨ X.env.scope.names.lookup x = some .local) := by
  rw [c.hsc]
  unfold locB at h
  split at h
  · exact ⟨.inl (by assumption), .inr (by assumption)⟩
  · exact ⟨.inr (by assumption), .inl (c.fn x h)⟩
  · cases h
theorem Ct0.lcl (c : Ct0 g T ca N sc fc X) {x : Str} (h : Bp.lcl sc x = true) : X.env.scope.names.lookup x = some .local := by
  rw [c.hsc]
  unfold Bp.lcl at h
  split at h
  · assumption
  · cases h
theorem Ct0.slot (c : Ct0 g T ca N sc fc X) {x : Str} {i : Nat} (h : decide (N[i]? = some x) = true) : X.N[i]? = some x := by
  rw [c.hN]; exact of_decide_eq_true h
theorem Ct0.hnd (c : Ct0 g T ca N sc fc X) : X.N.Nodup := by rw [c.hN]; exact c.nd
theorem Ct0.units (c : Ct0 g T ca N sc fc X) : X.A.units + 64 < cLine := by have := c.un0; omega
theorem Ct0.units70 (c : Ct0 g T ca N sc fc X) : X.A.units + 70 < cLine := by have := c.un0; omega
theorem takes_noF {X : Cx} : L2N.Takes X (fun _ _ _ _ => False) := fun _ _ ⟨_, _, _, _, _, _, _, _, _, _, _, _, _, _, _, _, w⟩ => w.elim
theorem Ct.blk (c : Ct T k ca N sc fc X) (s : Shared) (H : Hp) (scope : Scope) (C : Addr) (cl : List (Str × Addr)) (fp : List Addr) :
    Ct T k ca.no N (relS scope sc) (fun z => scope.names.lookup z == some .cell) (X.blk s H scope (compEnvC scope cl C X.env) fp) :=
  ⟨⟨c.hN, by rw [← c.hsc]; rfl, c.nd, c.un0, c.gd0, fun x h => h, c.blt, c.gls, c.cfl, c.exs⟩, c.calm, c.room, c.fs, c.tds, takes_noF, c.cms, c.cmk⟩
theorem star_cons (e : Expr) (es : List Expr) (env : Env) (h : nst e = true) : starEach (e :: es) env = (false, eval e env) :: starEach es env := by
  cases e <;> first | rfl | cases h
theorem assign_cons (e : Expr) (es : List Expr) (env : Env) (h : nst e = true) : assignEach (e :: es) env = (false, assign e env) :: assignEach es env := by
  cases e <;> first | rfl | cases h
end
end Bp

namespace Bp
open PySem L2 PySem.Spec PyProof.Rows

section
variable {T : Tb} {k : Nat} {ca : Cj} {N : List Str} {sc : Scope} {fc : Str → Bool} {X : Cx} {C : Cn}
theorem star_any (pos : Pos) (env : Env) : ∀ (xs : List Expr), (∀ x ∈ xs, nst x = true) → (backTo pos (starEach xs env)).any (·.1) = false
  | [], _ => rfl
  | x :: xs, h => by
    rw [star_cons x xs env (h x List.mem_cons_self)]
    have ih := star_any pos env xs fun y hy => h y (List.mem_cons_of_mem _ hy)
    unfold backTo at ih ⊢
    rw [List.map_cons, List.any_cons, ih]
    rfl
theorem star_all (pos : Pos) (env : Env) : ∀ (xs : List Expr), (∀ x ∈ xs, nst x = true) → (backTo pos (starEach xs env)).all (fun x => !x.1) = true
  | [], _ => rfl
  | x :: xs, h => by
    rw [star_cons x xs env (h x List.mem_cons_self)]
    have ih := star_all pos env xs fun y hy => h y (List.mem_cons_of_mem _ hy)
    unfold backTo at ih ⊢
    rw [List.map_cons, List.all_cons, ih]
    rfl
theorem ck_nst : ∀ (xs : List Expr) (a : Es), ckEs a N sc fc xs = true → ∀ x ∈ xs, nst x = true
  | [], _, _, x, hx => by cases hx
  | y :: ys, .nil, h, x, hx => by unfold ckEs at h; cases h
  | y :: ys, .cons a r, h, x, hx => by
    unfold ckEs at h
    simp only [Bool.and_eq_true] at h
    rcases List.mem_cons.mp hx with e | e
    · rw [e]; exact h.1.1
    · exact ck_nst ys r h.2 x e
theorem few_ok (pos : Pos) (env : Env) (xs : List Expr) (h : ∀ x ∈ xs, nst x = true) (hl : xs.length < 30) : ((backTo pos (starEach xs env)).all (fun x => !x.1) && (backToKw pos (keywordEach [] env)).all (fun x => x.1.isSome)
      && decide (xs.length + ([] : List Keyword).length + (if ([] : List Keyword).isEmpty then 0 else 1) < 30)) = true := by
  rw [star_all pos env xs h]
  show (true && true && decide (xs.length + 0 + 0 < 30)) = true
  rw [decide_eq_true (by omega)]
  rfl
theorem base_ok (o : Expr) (n : Str) (env : Env) (w : Sem Value) (h : isCall0 o = false) : attributeBase o n env w = w := by
  unfold attributeBase
  split
  · cases h
  · rfl
theorem ix_plain (b : Expr) (h : nsl b = true) : PlainIx b := by
  intro o i
  cases b <;> first | rfl | cases h
theorem nset_in (op : CmpOp) (b : Expr) (h : nset b = true) : behindInMarks op b = false := by
  cases b <;> first | rfl | cases h
theorem nset_fold (e : Expr) (env : Env) (x : Value) (h : nset e = true) : foldedSetIterable e env x = pure x := by
  cases e <;> first | rfl | cases h

/-! ### tests -/
theorem pt_of {e : Expr} {a : E} (h : PE X e (tE C X.K ca a)) (he : ∀ whole, PySem.isTrue e X.env whole = (do let v ← whole; standAt e.pos; holding [v] (truthy v))) : PT X e (tT C X.K ca a) :=
  pt_imp (pt_truth h he) fun σ H Q ⟨m, en, hh, Q', Xx, S, E, xp, w, p⟩ =>
    ⟨m, en, hh, _, Xx, S, E, xp, w, fun m' v H' d h' x S' r q => tru_ok' S' r (p m' H' d h' x S' q)⟩
theorem pt_ifExp {t x y : Expr} {pos : Pos} {tt tx ty : TT} (hc : PT X t tt) (ha : PT X x tx) (hb : PT X y ty) : PT X (.IfExp t x y pos) (fun σ H Q => tt σ H fun b H1 => if b = true then tx σ H1 Q else ty σ H1 Q) := by
  refine ⟨fun pins s σ H Q I h => ?_⟩
  have e : PySem.isTrue (.IfExp t x y pos) X.env (eval (.IfExp t x y pos) X.env) = (do
      if ← PySem.isTrue t X.env (eval t X.env) then PySem.isTrue x X.env (eval x X.env) else PySem.isTrue y X.env (eval y X.env)) := by rw [PySem.isTrue]
  rw [e]
  refine wpAny_bind (thn (hc.run pins s σ H _ I h) fun b s1 ⟨H1, I1, q⟩ => ?_)
  cases b with
  | true => exact ha.run pins s1 σ H1 Q I1 q
  | false => exact hb.run pins s1 σ H1 Q I1 q
theorem tru_det {h : Hh} {d : D} {A : Bool → Prop} {b : Bool} (w : tru h d A) (w' : tru h d fun c => c = b) : A b := by
  cases d with
  | non => cases w'; exact w
  | bl b => cases w'; exact w
  | int i => cases w'; exact w
  | str s => cases w'.2; exact w.2
  | tup ds => cases w'; exact w
  | ref n =>
    rcases w with ⟨ds, e1, q⟩ | ⟨ds, e1, q⟩ | ⟨kvs, e1, q⟩ <;> rcases w' with ⟨ds', e1', q'⟩ | ⟨ds', e1', q'⟩ | ⟨kvs', e1', q'⟩ <;> (rw [e1] at e1'; cases e1') <;> (subst q'; exact q)
theorem tru_imp {h : Hh} {d : D} {A B : Bool → Prop} (w : tru h d A) (i : ∀ b, A b → B b) : tru h d B := by
  cases d with
  | non => exact i _ w
  | bl b => exact i _ w
  | int _ => exact i _ w
  | str s => exact ⟨w.1, i _ w.2⟩
  | tup ds => exact i _ w
  | ref n =>
    rcases w with ⟨ds, e1, q⟩ | ⟨ds, e1, q⟩ | ⟨kvs, e1, q⟩
    · exact .inl ⟨ds, e1, i _ q⟩
    · exact .inr (.inl ⟨ds, e1, i _ q⟩)
    · exact .inr (.inr ⟨kvs, e1, i _ q⟩)
/-- truth twice is truth once -/
theorem tru_twice {h : Hh} {d : D} {A : Prop} {k : Bool} {B : Bool → Prop} (w : tru h d fun t => if t = k then A else tru h d B) : tru h d fun t => if t = k then A else B t := by
  cases d with
  | non => dsimp only [tru] at w ⊢; split at w <;> simp_all
  | bl b => dsimp only [tru] at w ⊢; split at w <;> simp_all
  | int i => dsimp only [tru] at w ⊢; split at w <;> simp_all
  | str s => refine ⟨w.1, ?_⟩; have w2 := w.2; dsimp only [tru] at w2; split at w2 <;> simp_all
  | tup ds => dsimp only [tru] at w ⊢; split at w <;> simp_all
  | ref n =>
    rcases w with ⟨ds, e1, q⟩ | ⟨ds, e1, q⟩ | ⟨kvs, e1, q⟩
    · refine .inl ⟨ds, e1, ?_⟩
      split at q
      · rw [if_pos (by assumption)]; exact q
      · rw [if_neg (by assumption)]
        rcases q with ⟨ds', e1', q'⟩ | ⟨ds', e1', q'⟩ | ⟨kvs', e1', q'⟩ <;> (rw [e1] at e1'; cases e1'; try exact q')
    · refine .inr (.inl ⟨ds, e1, ?_⟩)
      split at q
      · rw [if_pos (by assumption)]; exact q
      · rw [if_neg (by assumption)]
        rcases q with ⟨ds', e1', q'⟩ | ⟨ds', e1', q'⟩ | ⟨kvs', e1', q'⟩ <;> (rw [e1] at e1'; cases e1'; try exact q')
    · refine .inr (.inr ⟨kvs, e1, ?_⟩)
      split at q
      · rw [if_pos (by assumption)]; exact q
      · rw [if_neg (by assumption)]
        rcases q with ⟨ds', e1', q'⟩ | ⟨ds', e1', q'⟩ | ⟨kvs', e1', q'⟩ <;> (rw [e1] at e1'; cases e1'; try exact q')

/-! ### methods of built-in types -/
def rMtGet : V → List V → Hp → VK → Prop := fun x xs H Q => ∃ a y z o, x = .ref a ∧ xs = [y, z] ∧ DGet H a y o ∧ Q (o.getD z) H
theorem mt_dget2 (hu : X.A.units + 1 < cLine) : MtR X "dict.get" rMtGet := by
  intro pins s σ H x xs v us Q I rx rv h
  obtain ⟨a, y, z, o, rfl, rfl, g, q⟩ := h
  cases rx
  obtain ⟨u1, u2, rfl, r1, r2⟩ := rv.two
  exact d_get2 hu I g r1 r2 fun w' s' I' r' => ⟨_, H, I', r', q⟩
def rMtGet1 : V → List V → Hp → VK → Prop := fun x xs H Q => ∃ a y o, x = .ref a ∧ xs = [y] ∧ DGet H a y o ∧ Q (o.getD .non) H
theorem mt_dget1 (hu : X.A.units + 1 < cLine) : MtR X "dict.get" rMtGet1 := by
  intro pins s σ H x xs v us Q I rx rv h
  obtain ⟨a, y, o, rfl, rfl, g, q⟩ := h
  cases rx
  obtain ⟨u1, rfl, r1⟩ := rv.one
  exact d_get1 hu I g r1 fun w' s' I' r' => ⟨_, H, I', r', q⟩
def rMtPop2 : V → List V → Hp → VK → Prop := fun x xs H Q => ∃ a k z kvs, x = .ref a ∧ xs = [kV k, z] ∧ H a = some (.dK kvs) ∧ (∀ v, valV kvs k = some v → Q v (upd H a (.dK (dropK kvs k)))) ∧ (valV kvs k = none → Q z H)
theorem mt_dpop2 : MtR X "dict.pop" rMtPop2 := by
  intro pins s σ H x xs v us Q I rx rv h
  obtain ⟨a, k, z, kvs, rfl, rfl, e, q1, q2⟩ := h
  cases rx
  obtain ⟨u1, u2, rfl, r1, r2⟩ := rv.two
  cases l : valV kvs k with
  | some v => exact d_pop I e r1 l (.inr ⟨u2, rfl⟩) fun w' s' I' r' => ⟨v, _, I', r', q1 v l⟩
  | none => exact d_popD I e r1 l fun s' I' => ⟨z, H, I', r2, q2 l⟩
def rMtSetd : V → List V → Hp → VK → Prop := fun x xs H Q => ∃ a k z kvs, x = .ref a ∧ xs = [kV k, z] ∧ H a = some (.dK kvs) ∧ kvs.length < sizeLine ∧ (∀ v, valV kvs k = some v → Q v H) ∧ (valV kvs k = none → Q z (upd H a (.dK (putK kvs k z))))
theorem mt_dsetd : MtR X "dict.setdefault" rMtSetd := by
  intro pins s σ H x xs v us Q I rx rv h
  obtain ⟨a, k, z, kvs, rfl, rfl, e, hl, q1, q2⟩ := h
  cases rx
  obtain ⟨u1, u2, rfl, r1, r2⟩ := rv.two
  exact d_setd I e r1 r2 hl (fun v hv w' s' I' r' => ⟨v, _, I', r', q1 v hv⟩) fun hn w' s' I' r' => ⟨z, _, I', r', q2 hn⟩
def mtT : Mt → String
  | .get2 => "dict" | .get1 => "dict" | .dpop2 => "dict" | .setdef => "dict" | .update => "dict" | .join => "str" | _ => "list"
def rMt (K : PySem.W.Frag) : Mt → V → List V → Hp → VK → Prop
  | .append => rAppend
  | .extend => rExtT K
  | .pop => rPop
  | .popAt => rPopAt
  | .reverse => rReverse
  | .clear => rClear
  | .insert => fun x vs H Q => ∃ (l : Addr) (xs : List V) (i : Int) (y : V), x = .ref l ∧ vs = [.int i, y] ∧ H l = some (.lst xs) ∧ xs.length < sizeLine ∧ 0 ≤ i ∧ i < 2 ^ 63 ∧ Q .non (upd H l (.lst (xs.take i.toNat ++ [y] ++ xs.drop i.toNat)))
  | .get2 => rMtGet
  | .get1 => rMtGet1
  | .dpop2 => rMtPop2
  | .setdef => rMtSetd
  | .update => rUpd
  | .index => rIndex K
  | .remove => rRemF
  | .join => fun x xs H Q => ∃ a p, ∃ ys : List Str, x = .str a ∧ xs = [.ref p] ∧ (SqL K H p (ys.map V.str) ∨ SqT K H p (ys.map V.str)) ∧ (ys.map (·.length)).sum + ys.length * a.length ≤ 16777216 ∧ Q (.str (Txt.join a ys)) H
  | _ => fun _ _ _ _ => False
def tMt (K : PySem.W.Frag) (m : Mt) (to : TE) (t : TA) : TE := fun σ H Q => to σ H fun x H1 => tyV K (mtT m) x H1 ∧ t σ H1 fun xs H2 => rMt K m x xs H2 Q
theorem pe_mt {m : Mt} {o : Expr} {xs : List Expr} {ap cp : Pos} {to : TE} {t : TA} (hu : X.A.units + 1 < cLine) (hz : xs = [] → False) (hs : xs.length < 30) (hl : xs.length = mtA m) (hn : ∀ x ∈ xs, nst x = true) (hb : isCall0 o = false) (hp : (ap.endLine == cp.line) = true) (ho : PE X o to) (ha : PA X xs t) : PE X (.Call (.Attribute o (mtN m) ap) xs [] cp) (tMt X.K m to t) := by
  have hbase := fun n => base_ok o n X.env (eval o X.env) hb
  cases m
  case append =>
    obtain ⟨a, rfl⟩ : ∃ a, xs = [a] := by match xs, hl with | [a], _ => exact ⟨a, rfl⟩
    exact pe_bm PySem.F.plainAttrs_list PySem.F.slot_list_append PySem.F.type_list_append mt_append ho ha (hbase _) (few_ok cp X.env _ hn (by simp)) hp (star_cons _ _ _ (hn a (by simp))) rfl
  case extend =>
    obtain ⟨a, rfl⟩ : ∃ a, xs = [a] := by match xs, hl with | [a], _ => exact ⟨a, rfl⟩
    exact pe_bm PySem.F.plainAttrs_list PySem.F.slot_list_extend PySem.F.type_list_extend mt_extT ho ha (hbase _) (few_ok cp X.env _ hn (by simp)) hp (star_cons _ _ _ (hn a (by simp))) rfl
  case popAt =>
    obtain ⟨a, rfl⟩ : ∃ a, xs = [a] := by match xs, hl with | [a], _ => exact ⟨a, rfl⟩
    exact pe_bm PySem.F.plainAttrs_list PySem.F.slot_list_pop PySem.F.type_list_pop mt_popAt ho ha (hbase _) (few_ok cp X.env _ hn (by simp)) hp (star_cons _ _ _ (hn a (by simp))) rfl
  case insert =>
    obtain ⟨a, b, rfl⟩ : ∃ a b, xs = [a, b] := by match xs, hl with | [a, b], _ => exact ⟨a, b, rfl⟩
    exact pe_bm PySem.F.plainAttrs_list PySem.F.slot_list_insert PySem.F.type_list_insert mt_insert ho ha (hbase _) (few_ok cp X.env _ hn (by simp)) hp (star_cons _ _ _ (hn a (by simp))) (star_any cp X.env [b] fun x hx => hn x (List.mem_cons_of_mem _ hx))
  case index =>
    obtain ⟨a, rfl⟩ : ∃ a, xs = [a] := by match xs, hl with | [a], _ => exact ⟨a, rfl⟩
    exact pe_bm PySem.F.plainAttrs_list PySem.F.slot_list_index PySem.F.type_list_index mt_index ho ha (hbase _) (few_ok cp X.env _ hn (by simp)) hp (star_cons _ _ _ (hn a (by simp))) rfl
  case remove =>
    obtain ⟨a, rfl⟩ : ∃ a, xs = [a] := by match xs, hl with | [a], _ => exact ⟨a, rfl⟩
    exact pe_bm PySem.F.plainAttrs_list PySem.F.slot_list_remove PySem.F.type_list_remove mt_removeF ho ha (hbase _) (few_ok cp X.env _ hn (by simp)) hp (star_cons _ _ _ (hn a (by simp))) rfl
  case join =>
    obtain ⟨a, rfl⟩ : ∃ a, xs = [a] := by match xs, hl with | [a], _ => exact ⟨a, rfl⟩
    exact pe_bm PySem.F.plainAttrs_str PySem.F.slot_str_join PySem.F.type_str_join mt_join ho ha (hbase _) (few_ok cp X.env _ hn (by simp)) hp (star_cons _ _ _ (hn a (by simp))) rfl
  case get2 =>
    obtain ⟨a, b, rfl⟩ : ∃ a b, xs = [a, b] := by match xs, hl with | [a, b], _ => exact ⟨a, b, rfl⟩
    exact pe_bm PySem.F.plainAttrs_dict PySem.F.slot_dict_get PySem.F.type_dict_get (mt_dget2 hu) ho ha (hbase _) (few_ok cp X.env _ hn (by simp)) hp (star_cons _ _ _ (hn a (by simp))) (star_any cp X.env [b] fun x hx => hn x (List.mem_cons_of_mem _ hx))
  case get1 =>
    obtain ⟨a, rfl⟩ : ∃ a, xs = [a] := by match xs, hl with | [a], _ => exact ⟨a, rfl⟩
    exact pe_bm PySem.F.plainAttrs_dict PySem.F.slot_dict_get PySem.F.type_dict_get (mt_dget1 hu) ho ha (hbase _) (few_ok cp X.env _ hn (by simp)) hp (star_cons _ _ _ (hn a (by simp))) rfl
  case update =>
    obtain ⟨a, rfl⟩ : ∃ a, xs = [a] := by match xs, hl with | [a], _ => exact ⟨a, rfl⟩
    exact pe_bm PySem.F.plainAttrs_dict PySem.F.slot_dict_update PySem.F.type_dict_update mt_upd ho ha (hbase _) (few_ok cp X.env _ hn (by simp)) hp (star_cons _ _ _ (hn a (by simp))) rfl
  case dpop2 =>
    obtain ⟨a, b, rfl⟩ : ∃ a b, xs = [a, b] := by match xs, hl with | [a, b], _ => exact ⟨a, b, rfl⟩
    exact pe_bm PySem.F.plainAttrs_dict PySem.F.slot_dict_pop PySem.F.type_dict_pop mt_dpop2 ho ha (hbase _) (few_ok cp X.env _ hn (by simp)) hp (star_cons _ _ _ (hn a (by simp))) (star_any cp X.env [b] fun x hx => hn x (List.mem_cons_of_mem _ hx))
  case setdef =>
    obtain ⟨a, b, rfl⟩ : ∃ a b, xs = [a, b] := by match xs, hl with | [a, b], _ => exact ⟨a, b, rfl⟩
    exact pe_bm PySem.F.plainAttrs_dict PySem.F.slot_dict_setdefault PySem.F.type_dict_setdefault mt_dsetd ho ha (hbase _) (few_ok cp X.env _ hn (by simp)) hp (star_cons _ _ _ (hn a (by simp))) (star_any cp X.env [b] fun x hx => hn x (List.mem_cons_of_mem _ hx))
  all_goals first
    | exact (hz (List.length_eq_zero_iff.mp (show xs.length = 0 from hl))).elim
    | (have : xs.length < 30 := hs
       rw [hl] at this
       exact absurd this (by decide))
theorem pe_mt0 {m : Mt} {o : Expr} {ap cp : Pos} {to : TE} (hl : 0 = mtA m) (hb : isCall0 o = false) (hp : (ap.endLine == cp.line) = true) (ho : PE X o to) : PE X (.Call (.Attribute o (mtN m) ap) [] [] cp) (fun σ H Q => to σ H fun x H1 => tyV X.K (mtT m) x H1 ∧ rMt X.K m x [] H1 Q) := by
  have hbase := fun n => base_ok o n X.env (eval o X.env) hb
  cases m
  case pop => exact pe_bm0 PySem.F.plainAttrs_list PySem.F.slot_list_pop PySem.F.type_list_pop mt_pop ho (hbase _) hp
  case reverse => exact pe_bm0 PySem.F.plainAttrs_list PySem.F.slot_list_reverse PySem.F.type_list_reverse mt_reverse ho (hbase _) hp
  case clear => exact pe_bm0 PySem.F.plainAttrs_list PySem.F.slot_list_clear PySem.F.type_list_clear mt_clear ho (hbase _) hp
  all_goals exact absurd hl (by decide)
theorem ty_ok {K : PySem.W.Frag} {H : Hp} {m : List Addr} {h : Hh} {x : V} {d : D} (mt : Mt) (S : Sm K ca H m h) (rx : R K H m x d) (w : mtTy mt d h) : tyV K (mtT mt) x H := by
  have lists : ∀ n, d = .ref n → (∃ ds, h[n]? = some (.lst ds)) → tyV K "list" x H := by
    rintro n rfl ⟨ds, e⟩
    cases rx with
    | ref z =>
      obtain ⟨ws, e2, r2⟩ := S.lstAt e z
      exact .inl ⟨rfl, ws, SqL.of e2⟩
  have dicts : ∀ n, d = .ref n → (∃ ds, h[n]? = some (.dK ds)) → tyV K "dict" x H := by
    rintro n rfl ⟨ds, e⟩
    cases rx with
    | ref z =>
      obtain ⟨vk, e2, r2⟩ := S.obj _ _ _ z e
      exact .inr (.inr (.inl ⟨rfl, .inl ⟨vk, e2⟩⟩))
  cases d with
  | ref n =>
    cases mt with
    | get2 => exact dicts n rfl w
    | get1 => exact dicts n rfl w
    | dpop2 => exact dicts n rfl w
    | setdef => exact dicts n rfl w
    | update => exact dicts n rfl w
    | join => exact w.elim
    | _ => exact lists n rfl w
  | str s =>
    cases rx
    cases mt with
    | join => exact rfl
    | _ => exact w.elim
  | non => exact w.elim
  | bl _ => exact w.elim
  | int _ => exact w.elim
  | tup _ => exact w.elim
theorem flat_R {K : PySem.W.Frag} {H : Hp} {m : List Addr} {v : V} {d : D} (r : R K H m v d) : flatV v = flat d := by cases r <;> rfl
theorem flat_Rs {K : PySem.W.Frag} {H : Hp} {m : List Addr} : ∀ {vs : List V} {ds : List D}, Rs K H m vs ds → vs.all flatV = ds.all flat
  | _, _, .nil => rfl
  | _, _, .cons r t => by rw [List.all_cons, List.all_cons, flat_R r, flat_Rs t]
theorem eq_R {K : PySem.W.Frag} {H : Hp} {m : List Addr} {v w : V} {d e : D} (r : R K H m v d) (s : R K H m w e) (f : flat d = true) (g : flat e = true) : eqV v w = eqD d e := by
  cases r <;> cases s <;> first | rfl | (exact absurd f (by simp [flat])) | (exact absurd g (by simp [flat]))
theorem mt_ok {K : PySem.W.Frag} {H : Hp} {m : List Addr} {h : Hh} {x : V} {d : D} {Q : VK} {Q' : Qd} (mt : Mt) {vs : List V} {ds : List D} (S : Sm K ca H m h) (rx : R K H m x d) (rs : Rs K H m vs ds) (w : wMt mt d ds h Q') (p : Post K ca H m Q' Q) : rMt K mt x vs H Q := by
  unfold wMt at w
  split at w
  · obtain ⟨xs, e, hl, q⟩ := w
    obtain ⟨v, rfl, r⟩ := rs.inv1
    cases rx with
    | ref z =>
      obtain ⟨ws, e2, r2⟩ := S.lstAt e z
      exact ⟨_, ws, v, rfl, rfl, e2, by rw [r2.len]; exact lim' _ hl, p.setl S e z rfl (r2.append (.one r)) .non q⟩
  · obtain ⟨xs, ys, e, e', hl, q⟩ := w
    obtain ⟨v, rfl, r⟩ := rs.inv1
    cases rx with
    | ref z => cases r with
      | ref z' =>
        obtain ⟨ws, e2, r2⟩ := S.lstAt e z
        obtain ⟨us, e3, r3⟩ := S.lstAt e' z'
        exact .inl ⟨_, _, ws, us, rfl, rfl, e2, e3, by rw [r2.len, r3.len]; exact lim _ hl, p.setl S e z rfl (r2.append r3) .non q⟩
  · obtain ⟨xs, e, hl, q⟩ := w
    obtain ⟨v, rfl, r⟩ := rs.inv1
    cases rx with
    | ref z => cases r with
      | tup t1 t2 =>
        obtain ⟨ws, e2, r2⟩ := S.lstAt e z
        exact .inr ⟨_, _, ws, _, rfl, rfl, e2, t1, by rw [r2.len, t2.len]; exact lim _ hl, p.setl S e z rfl (r2.append t2) .non q⟩
  · obtain ⟨xs, y, e, hy, q⟩ := w
    obtain rfl := rs.inv0
    cases rx with
    | ref z =>
      obtain ⟨ws, e2, r2⟩ := S.lstAt e z
      obtain ⟨v, hv, rv⟩ := r2.get hy
      exact ⟨_, ws, v, rfl, rfl, e2, by rw [r2.len]; exact hv, p.setl S e z rfl r2.dropLast rv q⟩
  · obtain ⟨xs, kk, y, e, h1, h2, hk, hy, q⟩ := w
    obtain ⟨v, rfl, r⟩ := rs.inv1
    cases r
    cases rx with
    | ref z =>
      obtain ⟨ws, e2, r2⟩ := S.lstAt e z
      obtain ⟨v, hv, rv⟩ := r2.get hy
      exact ⟨_, ws, _, kk, v, rfl, rfl, e2, by omega, by omega, by rw [r2.len]; exact hk, hv, p.setl S e z rfl (r2.erase _) rv q⟩
  · obtain ⟨xs, e, q⟩ := w
    obtain rfl := rs.inv0
    cases rx with
    | ref z =>
      obtain ⟨ws, e2, r2⟩ := S.lstAt e z
      exact ⟨_, ws, rfl, rfl, e2, p.setl S e z rfl r2.reverse .non q⟩
  · obtain ⟨xs, e, q⟩ := w
    obtain rfl := rs.inv0
    cases rx with
    | ref z =>
      obtain ⟨ws, e2, r2⟩ := S.lstAt e z
      exact ⟨_, ws, rfl, rfl, e2, p.setl S e z rfl .nil .non q⟩
  · obtain ⟨xs, e, h0, h1, hl, q⟩ := w
    obtain ⟨v, u, rfl, r, r'⟩ := rs.inv2
    cases r
    cases rx with
    | ref z =>
      obtain ⟨ws, e2, r2⟩ := S.lstAt e z
      refine ⟨_, ws, _, u, rfl, rfl, e2, by rw [r2.len]; exact lim' _ hl, h0, by omega, p.setl S e z rfl (((r2.take _).append (.one r')).append (r2.drop _)) .non ?_⟩
      rw [List.append_assoc]
      exact q
  · obtain ⟨xs, j, y, e, fx, fxs, hy, hyx, hno, q⟩ := w
    obtain ⟨v, rfl, r⟩ := rs.inv1
    cases rx with
    | ref z =>
      obtain ⟨ws, e2, r2⟩ := S.seqAt e z
      obtain ⟨u, hu, ru⟩ := r2.get hy
      have fy := List.all_eq_true.mp fxs y (List.mem_of_getElem? hy)
      refine ⟨_, ws, v, j, u, rfl, rfl, e2, (flat_R r).trans fx, (flat_Rs r2).trans fxs, hu, (eq_R ru r fy fx).trans hyx, fun k z' hk hz' => ?_, p.same S (.int _) q⟩
      obtain ⟨d', hd', rd'⟩ := r2.get2 hz'
      exact (eq_R rd' r (List.all_eq_true.mp fxs d' (List.mem_of_getElem? hd')) fx).trans (hno k d' hk hd')
  · obtain ⟨xs, j, y, e, fx, fxs, hy, hyx, hno, q⟩ := w
    obtain ⟨v, rfl, r⟩ := rs.inv1
    cases rx with
    | ref z =>
      obtain ⟨ws, e2, r2⟩ := S.lstAt e z
      obtain ⟨u, hu, ru⟩ := r2.get hy
      have fy := List.all_eq_true.mp fxs y (List.mem_of_getElem? hy)
      refine ⟨_, ws, v, u, j, rfl, rfl, e2, (flat_R r).trans fx, (flat_Rs r2).trans fxs, hu, (eq_R ru r fy fx).trans hyx, fun k z' hk hz' => ?_, p.setl S e z rfl (r2.erase _) .non q⟩
      obtain ⟨d', hd', rd'⟩ := r2.get2 hz'
      exact (eq_R rd' r (List.all_eq_true.mp fxs d' (List.mem_of_getElem? hd')) fx).trans (hno k d' hk hd')
  · obtain ⟨ss, e, hl, q⟩ := w
    obtain ⟨v, rfl, r⟩ := rs.inv1
    cases rx
    cases r with
    | ref z =>
      obtain ⟨ws, e2, r2⟩ := S.lstAt e z
      rw [r2.strs_of] at e2
      exact ⟨_, _, ss, rfl, rfl, .inl (SqL.of e2), by omega, p.same S (.str _) q⟩
  · obtain ⟨kvs, key, e, ek, q⟩ := w
    obtain ⟨v, u, rfl, r, r'⟩ := rs.inv2
    cases rx with
    | ref z =>
      rcases e with e | e
      · obtain ⟨vk, e2, r2⟩ := S.obj _ _ _ z e
        have ex := key_ok r ek
        subst ex
        exact ⟨_, _, u, _, rfl, rfl, DGet.k e2, p.same S ((r2.val key).getD r') q⟩
      · obtain ⟨vk, ob, e2, r2⟩ := S.obj _ _ _ z e
        have ex := key_ok r ek
        subst ex
        exact ⟨_, _, u, _, rfl, rfl, .inl ⟨vk, key, .inr ⟨ob, e2⟩, rfl, rfl⟩, p.same S ((r2.val key).getD r') q⟩
  · obtain ⟨kvs, key, e, ek, q⟩ := w
    obtain ⟨v, rfl, r⟩ := rs.inv1
    cases rx with
    | ref z =>
      have ex := key_ok r ek
      subst ex
      rcases e with e | e
      · obtain ⟨vk, e2, r2⟩ := S.obj _ _ _ z e
        exact ⟨_, _, _, rfl, rfl, DGet.k e2, p.same S ((r2.val key).getD .non) q⟩
      · obtain ⟨vk, ob, e2, r2⟩ := S.obj _ _ _ z e
        exact ⟨_, _, _, rfl, rfl, .inl ⟨vk, key, .inr ⟨ob, e2⟩, rfl, rfl⟩, p.same S ((r2.val key).getD .non) q⟩
  · obtain ⟨kvs, key, e, ek, q1, q2⟩ := w
    obtain ⟨v, u, rfl, r, r'⟩ := rs.inv2
    cases rx with
    | ref z =>
      have ex := key_ok r ek
      subst ex
      obtain ⟨vk, e2, r2⟩ := S.obj _ _ _ z e
      have hv := r2.val key
      refine ⟨_, key, u, vk, rfl, rfl, e2, fun y hy => ?_, fun hn => ?_⟩
      · rw [hy] at hv
        generalize eu : getK kvs key = ou at hv
        cases hv with
        | some r1 => exact p.setd S e z rfl (r2.drop key) r1 (q1 _ eu)
      · rw [hn] at hv
        generalize eu : getK kvs key = ou at hv
        cases hv with
        | none => exact p.same S r' (q2 eu)
  · obtain ⟨kvs, key, e, ek, hl, q1, q2⟩ := w
    obtain ⟨v, u, rfl, r, r'⟩ := rs.inv2
    cases rx with
    | ref z =>
      have ex := key_ok r ek
      subst ex
      obtain ⟨vk, e2, r2⟩ := S.obj _ _ _ z e
      have hv := r2.val key
      refine ⟨_, key, u, vk, rfl, rfl, e2, by rw [r2.len]; exact lim' _ hl, fun y hy => ?_, fun hn => ?_⟩
      · rw [hy] at hv
        generalize eu : getK kvs key = ou at hv
        cases hv with
        | some r1 => exact p.same S r1 (q1 _ eu)
      · rw [hn] at hv
        generalize eu : getK kvs key = ou at hv
        cases hv with
        | none => exact p.setd S e z rfl (r2.put key r') r' (q2 eu)
  · obtain ⟨kvs, more, hne, e, e', hl, q⟩ := w
    obtain ⟨v, rfl, r⟩ := rs.inv1
    cases rx with
    | ref z => cases r with
      | ref z' =>
        obtain ⟨vk, e2, r2⟩ := S.obj _ _ _ z e
        obtain ⟨vk', e3, r3⟩ := S.obj _ _ _ z' e'
        refine ⟨_, _, vk, vk', rfl, rfl, fun y => ?_, e2, e3, by rw [r2.len, r3.len]; exact lim _ hl, p.setd S e z rfl (Rk.merge r3 r2) .non q⟩
        subst y
        exact hne (S.inj _ _ _ _ _ z z' e e' rfl rfl)
  · exact w.elim
end
end Bp

namespace Bp
open PySem L2 PySem.Spec PyProof.Rows

/-! ### walks -/
section
variable {K : PySem.W.Frag} {ca : Cj} {H0 : Hp} {m0 : List Addr}
theorem oks {n : Nat} {o : O} {h : Hh} {ds : List D} {r : List (Nat × O)} (k : Src.ok ⟨ds, (n, o) :: r⟩ h) : h[n]? = some o := k (n, o) List.mem_cons_self
theorem seq_of {h : Hh} {n : Nat} {ds : List D} {o : O} (ho : o = .lst ds ∨ o = .rl ds) (e : h[n]? = some o) : h[n]? = some (.lst ds) ∨ h[n]? = some (.rl ds) := by
  rcases ho with rfl | rfl
  · exact .inl e
  · exact .inr e
theorem wd_list {n : Nat} {a : Addr} {o : O} {ds : List D} (ea : m0[n]? = some a) (ho : o = .lst ds ∨ o = .rl ds) : WD K ca (Itl K a) ⟨ds, [(n, o)]⟩ H0 m0 := by
  refine ⟨fun i H m h hi x S k => ?_, fun H m h x S k => ?_, fun i H v H' m h d hd x S k y => ?_⟩
  · obtain ⟨vs, e, r⟩ := S.seqAt (seq_of ho (oks k)) (x.pre n a ea)
    obtain ⟨v, e2, _⟩ := r.get (List.getElem?_eq_getElem hi)
    exact ⟨vs, v, e, e2⟩
  · obtain ⟨vs, e, r⟩ := S.seqAt (seq_of ho (oks k)) (x.pre n a ea)
    exact ⟨vs, e, Nat.le_of_eq r.len⟩
  · obtain ⟨vs, e, r⟩ := S.seqAt (seq_of ho (oks k)) (x.pre n a ea)
    obtain ⟨rfl, y⟩ := y
    obtain ⟨v', e2, r2⟩ := r.get hd
    have := (y vs e).symm.trans e2
    cases this
    exact ⟨Ext.refl, S, r2, fun _ _ z => z⟩
theorem wd_tup {a : Addr} {vs : List V} {ds : List D} (t : SqT K H0 a vs) (r : Rs K H0 m0 vs ds) : WD K ca (Itt K a) ⟨ds, []⟩ H0 m0 := by
  refine ⟨fun i H m h hi x S k => ?_, fun H m h x S k => ?_, fun i H v H' m h d hd x S k y => ?_⟩
  · obtain ⟨v, e2, _⟩ := r.get (List.getElem?_eq_getElem hi)
    exact ⟨vs, v, x.tup _ _ t, e2⟩
  · exact ⟨vs, x.tup _ _ t, Nat.le_of_eq r.len⟩
  · obtain ⟨rfl, y⟩ := y
    obtain ⟨v', e2, r2⟩ := r.get hd
    have := (y vs (x.tup _ _ t)).symm.trans e2
    cases this
    exact ⟨Ext.refl, S, r2.mono x, fun _ _ z => z⟩
theorem wd_str {z : Str} : WD K ca (Its z) ⟨z.cps.toList.map fun c => D.str ⟨#[c]⟩, []⟩ H0 m0 := by
  refine ⟨fun i H m h hi x S k => ?_, fun H m h x S k => ?_, fun i H v H' m h d hd x S k y => ?_⟩
  · have : i < (z.cps.toList.map fun c => D.str ⟨#[c]⟩).length := hi
    rw [List.length_map, Array.length_toList] at this
    exact this
  · show z.cps.size ≤ (z.cps.toList.map fun c => D.str ⟨#[c]⟩).length
    rw [List.length_map, Array.length_toList]
    exact Nat.le_refl _
  · obtain ⟨rfl, c, ec, rfl⟩ := y
    have hd' : (z.cps.toList.map fun c => D.str ⟨#[c]⟩)[i]? = some d := hd
    rw [List.getElem?_map, Array.getElem?_toList, ec] at hd'
    cases hd'
    exact ⟨Ext.refl, S, .str _, fun _ _ z => z⟩
theorem wd_rng {lo : Int} {n : Nat} : WD K ca (Itr lo n) ⟨(List.range n).map fun k : Nat => D.int (lo + k), []⟩ H0 m0 := by
  refine ⟨fun i H m h hi x S k => ?_, fun H m h x S k => ?_, fun i H v H' m h d hd x S k y => ?_⟩
  · have : i < ((List.range n).map fun k : Nat => D.int (lo + k)).length := hi
    rw [List.length_map, List.length_range] at this
    exact this
  · show n ≤ ((List.range n).map fun k : Nat => D.int (lo + k)).length
    rw [List.length_map, List.length_range]
    exact Nat.le_refl _
  · obtain ⟨rfl, rfl⟩ := y
    have hd' : ((List.range n).map fun k : Nat => D.int (lo + k))[i]? = some d := hd
    rw [List.getElem?_map] at hd'
    by_cases hi : i < n
    · rw [List.getElem?_range hi] at hd'
      cases hd'
      exact ⟨Ext.refl, S, .int _, fun _ _ z => z⟩
    · rw [List.getElem?_eq_none (by rw [List.length_range]; omega)] at hd'
      cases hd'
theorem wd_rngd {lo : Int} {n : Nat} : WD K ca (Itc lo (-1) n) ⟨(List.range n).map fun k : Nat => D.int (lo - k), []⟩ H0 m0 := by
  refine ⟨fun i H m h hi x S k => ?_, fun H m h x S k => ?_, fun i H v H' m h d hd x S k y => ?_⟩
  · have : i < ((List.range n).map fun k : Nat => D.int (lo - k)).length := hi
    rw [List.length_map, List.length_range] at this
    exact this
  · show n ≤ ((List.range n).map fun k : Nat => D.int (lo - k)).length
    rw [List.length_map, List.length_range]
    exact Nat.le_refl _
  · obtain ⟨rfl, rfl⟩ := y
    have hd' : ((List.range n).map fun k : Nat => D.int (lo - k))[i]? = some d := hd
    rw [List.getElem?_map] at hd'
    by_cases hi : i < n
    · rw [List.getElem?_range hi] at hd'
      cases hd'
      rw [show lo + (i : Int) * (-1) = lo - i by omega]
      exact ⟨Ext.refl, S, .int _, fun _ _ z => z⟩
    · rw [List.getElem?_eq_none (by rw [List.length_range]; omega)] at hd'
      cases hd'
theorem pair_ok {H H' : Hp} {m : List Addr} {h : Hh} {v : V} {T : Addr} {x y : V} {d e : D} (S : Sm K ca H m h) (hT : H T = none) (hH : H' = upd H T (.tup [x, y])) (rx : R K H m x d) (ry : R K H m y e) : Ext K H m H' m ∧ Sm K ca H' m h ∧ R K H' m (.ref T) (.tup [d, e]) ∧ ∀ a o, H a = some o → H' a = some o := by
  subst hH
  have x1 : Ext K H m (upd H T (.tup [x, y])) m := Ext.new0 hT
  exact ⟨x1, S.newt hT, .tup (SqT.of upd_same) (.cons (rx.mono x1) (.cons (ry.mono x1) .nil)), fun a o z => by rw [upd_ne (ne_of_none z hT)]; exact z⟩
theorem wd_enum {n : Nat} {a : Addr} {o : O} {ds : List D} (ea : m0[n]? = some a) (ho : o = .lst ds ∨ o = .rl ds) : WD K ca (Ite K a) ⟨ds.zipIdx.map fun p => .tup [.int (p.2 : Nat), p.1], [(n, o)]⟩ H0 m0 := by
  have hl : (ds.zipIdx.map fun p => D.tup [.int (p.2 : Nat), p.1]).length = ds.length := by rw [List.length_map, List.length_zipIdx]
  refine ⟨fun i H m h hi x S k => ?_, fun H m h x S k => ?_, fun i H v H' m h d hd x S k y => ?_⟩
  · obtain ⟨vs, e, r⟩ := S.seqAt (seq_of ho (oks k)) (x.pre n a ea)
    have hi' : i < ds.length := by rw [← hl]; exact hi
    obtain ⟨v, e2, _⟩ := r.get (List.getElem?_eq_getElem hi')
    exact ⟨vs, v, e, e2⟩
  · obtain ⟨vs, e, r⟩ := S.seqAt (seq_of ho (oks k)) (x.pre n a ea)
    exact ⟨vs, e, by rw [hl]; exact Nat.le_of_eq r.len⟩
  · obtain ⟨vs, e, r⟩ := S.seqAt (seq_of ho (oks k)) (x.pre n a ea)
    obtain ⟨T, z, rfl, hT, hH, y⟩ := y
    have hd' : (ds.zipIdx.map fun p => D.tup [.int (p.2 : Nat), p.1])[i]? = some d := hd
    rw [List.getElem?_map, List.getElem?_zipIdx] at hd'
    cases hg : ds[i]? with
    | none => rw [hg] at hd'; cases hd'
    | some d0 =>
      rw [hg] at hd'
      have hd2 : some (D.tup [.int ((0 + i : Nat) : Int), d0]) = some d := hd'
      rw [Nat.zero_add] at hd2
      cases hd2
      obtain ⟨v', e2, r2⟩ := r.get hg
      have := (y vs e).symm.trans e2
      cases this
      exact pair_ok (v := .non) S hT hH (.int _) r2
theorem zip_at {ds es : List D} {i : Nat} {d : D} (hd : ((ds.zip es).map fun p => D.tup [p.1, p.2])[i]? = some d) : ∃ x y, ds[i]? = some x ∧ es[i]? = some y ∧ d = .tup [x, y] := by
  rw [List.getElem?_map] at hd
  cases hg : (ds.zip es)[i]? with
  | none => rw [hg] at hd; cases hd
  | some p =>
    rw [hg] at hd
    cases hd
    rw [List.getElem?_zip_eq_some] at hg
    exact ⟨p.1, p.2, hg.1, hg.2, rfl⟩
theorem wd_zip {n n' : Nat} {a a' : Addr} {o o' : O} {ds es : List D} (ea : m0[n]? = some a) (ho : o = .lst ds ∨ o = .rl ds) (ea' : m0[n']? = some a') (ho' : o' = .lst es ∨ o' = .rl es) : WD K ca (Itz K a a') ⟨(ds.zip es).map fun p => .tup [p.1, p.2], [(n, o)] ++ [(n', o')]⟩ H0 m0 := by
  have two : ∀ {h : Hh}, Src.ok ⟨(ds.zip es).map fun p => .tup [p.1, p.2], [(n, o)] ++ [(n', o')]⟩ h → h[n]? = some o ∧ h[n']? = some o' := fun k => ⟨k (n, o) (by simp), k (n', o') (by simp)⟩
  have hl : ((ds.zip es).map fun p => D.tup [p.1, p.2]).length = min ds.length es.length := by rw [List.length_map, List.length_zip]
  refine ⟨fun i H m h hi x S k => ?_, fun H m h x S k => ?_, fun i H v H' m h d hd x S k y => ?_⟩
  · obtain ⟨vs, e, r⟩ := S.seqAt (seq_of ho (two k).1) (x.pre n a ea)
    obtain ⟨ws, e', r'⟩ := S.seqAt (seq_of ho' (two k).2) (x.pre n' a' ea')
    have hi' : i < min ds.length es.length := by rw [← hl]; exact hi
    obtain ⟨v, e2, _⟩ := r.get (List.getElem?_eq_getElem (show i < ds.length by omega))
    obtain ⟨w, e3, _⟩ := r'.get (List.getElem?_eq_getElem (show i < es.length by omega))
    exact ⟨vs, ws, v, w, e, e', e2, e3⟩
  · obtain ⟨vs, e, r⟩ := S.seqAt (seq_of ho (two k).1) (x.pre n a ea)
    obtain ⟨ws, e', r'⟩ := S.seqAt (seq_of ho' (two k).2) (x.pre n' a' ea')
    refine ⟨vs, ws, e, e', ?_⟩
    show vs.length ≤ ((ds.zip es).map fun p => D.tup [p.1, p.2]).length ∨ ws.length ≤ ((ds.zip es).map fun p => D.tup [p.1, p.2]).length
    rw [hl, r.len, r'.len]
    omega
  · obtain ⟨vs, e, r⟩ := S.seqAt (seq_of ho (two k).1) (x.pre n a ea)
    obtain ⟨ws, e', r'⟩ := S.seqAt (seq_of ho' (two k).2) (x.pre n' a' ea')
    obtain ⟨T, z, u, rfl, hT, hH, y1, y2⟩ := y
    obtain ⟨dx, dy, g1, g2, rfl⟩ := zip_at hd
    obtain ⟨v', e2, r2⟩ := r.get g1
    obtain ⟨w', e3, r3⟩ := r'.get g2
    have h1 := (y1 vs e).symm.trans e2
    have h2 := (y2 ws e').symm.trans e3
    cases h1; cases h2
    exact pair_ok (v := .non) S hT hH r2 r3
theorem wd_zipT {a a' : Addr} {vs ws : List V} {ds es : List D} (t : SqT K H0 a vs) (r : Rs K H0 m0 vs ds) (t' : SqT K H0 a' ws) (r' : Rs K H0 m0 ws es) : WD K ca (RZ.ItzT K a a') ⟨(ds.zip es).map fun p => .tup [p.1, p.2], []⟩ H0 m0 := by
  have hl : ((ds.zip es).map fun p => D.tup [p.1, p.2]).length = min ds.length es.length := by rw [List.length_map, List.length_zip]
  refine ⟨fun i H m h hi x S k => ?_, fun H m h x S k => ?_, fun i H v H' m h d hd x S k y => ?_⟩
  · have hi' : i < min ds.length es.length := by rw [← hl]; exact hi
    obtain ⟨v, e2, _⟩ := r.get (List.getElem?_eq_getElem (show i < ds.length by omega))
    obtain ⟨w, e3, _⟩ := r'.get (List.getElem?_eq_getElem (show i < es.length by omega))
    exact ⟨vs, ws, v, w, x.tup _ _ t, x.tup _ _ t', e2, e3⟩
  · refine ⟨vs, ws, x.tup _ _ t, x.tup _ _ t', ?_⟩
    show vs.length ≤ ((ds.zip es).map fun p => D.tup [p.1, p.2]).length ∨ ws.length ≤ ((ds.zip es).map fun p => D.tup [p.1, p.2]).length
    rw [hl, r.len, r'.len]
    omega
  · obtain ⟨T, z, u, rfl, hT, hH, y1, y2⟩ := y
    obtain ⟨dx, dy, g1, g2, rfl⟩ := zip_at hd
    obtain ⟨v', e2, r2⟩ := r.get g1
    obtain ⟨w', e3, r3⟩ := r'.get g2
    have h1 := (y1 vs (x.tup _ _ t)).symm.trans e2
    have h2 := (y2 ws (x.tup _ _ t')).symm.trans e3
    cases h1; cases h2
    exact pair_ok (v := .non) S hT hH (r2.mono x) (r3.mono x)
theorem wd_zipM {sb tb : Bool} {a a' : Addr} {ds es : List D} {st : List (Nat × O)} (f : ∀ {H : Hp} {m : List Addr} {h : Hh}, Ext K H0 m0 H m → Sm K ca H m h → (∀ p ∈ st, h[p.1]? = some p.2) → ∃ vs, SqX sb K H a vs ∧ Rs K H m vs ds)
    (g : ∀ {H : Hp} {m : List Addr} {h : Hh}, Ext K H0 m0 H m → Sm K ca H m h → (∀ p ∈ st, h[p.1]? = some p.2) → ∃ vs, SqX tb K H a' vs ∧ Rs K H m vs es) : WD K ca (ItzM sb tb K a a') ⟨(ds.zip es).map fun p => .tup [p.1, p.2], st⟩ H0 m0 := by
  have hl : ((ds.zip es).map fun p => D.tup [p.1, p.2]).length = min ds.length es.length := by rw [List.length_map, List.length_zip]
  refine ⟨fun i H m h hi x S k => ?_, fun H m h x S k => ?_, fun i H v H' m h d hd x S k y => ?_⟩
  · obtain ⟨vs, e, r⟩ := f x S k
    obtain ⟨ws, e', r'⟩ := g x S k
    have hi' : i < min ds.length es.length := by rw [← hl]; exact hi
    obtain ⟨v, e2, _⟩ := r.get (List.getElem?_eq_getElem (show i < ds.length by omega))
    obtain ⟨w, e3, _⟩ := r'.get (List.getElem?_eq_getElem (show i < es.length by omega))
    exact ⟨vs, ws, v, w, e, e', e2, e3⟩
  · obtain ⟨vs, e, r⟩ := f x S k
    obtain ⟨ws, e', r'⟩ := g x S k
    refine ⟨vs, ws, e, e', ?_⟩
    show ((ds.zip es).map fun p => D.tup [p.1, p.2]).length = min vs.length ws.length
    rw [hl, r.len, r'.len]
  · obtain ⟨vs, e, r⟩ := f x S k
    obtain ⟨ws, e', r'⟩ := g x S k
    obtain ⟨T, z, u, rfl, hT, hH, y1, y2⟩ := y
    obtain ⟨dx, dy, g1, g2, rfl⟩ := zip_at hd
    obtain ⟨v', e2, r2⟩ := r.get g1
    obtain ⟨w', e3, r3⟩ := r'.get g2
    have h1 := (y1 vs e).symm.trans e2
    have h2 := (y2 ws e').symm.trans e3
    cases h1; cases h2
    exact pair_ok (v := .non) S hT hH r2 r3
theorem wd_enumM {t : Bool} {a : Addr} {ds : List D} {st : List (Nat × O)} (f : ∀ {H : Hp} {m : List Addr} {h : Hh}, Ext K H0 m0 H m → Sm K ca H m h → (∀ p ∈ st, h[p.1]? = some p.2) → ∃ vs, SqX t K H a vs ∧ Rs K H m vs ds) :
    WD K ca (IteM t K a) ⟨ds.zipIdx.map fun p => .tup [.int (p.2 : Nat), p.1], st⟩ H0 m0 := by
  have hl : (ds.zipIdx.map fun p => D.tup [.int (p.2 : Nat), p.1]).length = ds.length := by rw [List.length_map, List.length_zipIdx]
  refine ⟨fun i H m h hi x S k => ?_, fun H m h x S k => ?_, fun i H v H' m h d hd x S k y => ?_⟩
  · obtain ⟨vs, e, r⟩ := f x S k
    have hi' : i < ds.length := by rw [← hl]; exact hi
    obtain ⟨v, e2, _⟩ := r.get (List.getElem?_eq_getElem hi')
    exact ⟨vs, v, e, e2⟩
  · obtain ⟨vs, e, r⟩ := f x S k
    exact ⟨vs, e, by show (ds.zipIdx.map _).length = _; rw [hl]; exact r.len.symm⟩
  · obtain ⟨vs, e, r⟩ := f x S k
    obtain ⟨T, z, rfl, hT, hH, y⟩ := y
    have hd' : (ds.zipIdx.map fun p => D.tup [.int (p.2 : Nat), p.1])[i]? = some d := hd
    rw [List.getElem?_map, List.getElem?_zipIdx] at hd'
    cases hg : ds[i]? with
    | none => rw [hg] at hd'; cases hd'
    | some d0 =>
      rw [hg] at hd'
      have hd2 : some (D.tup [.int ((0 + i : Nat) : Int), d0]) = some d := hd'
      rw [Nat.zero_add] at hd2
      cases hd2
      obtain ⟨v', e2, r2⟩ := r.get hg
      have := (y vs e).symm.trans e2
      cases this
      exact pair_ok (v := .non) S hT hH (.int _) r2
theorem wd_rev {n : Nat} {a : Addr} {o : O} {ds : List D} (ea : m0[n]? = some a) (ho : o = .lst ds ∨ o = .rl ds) : WD K ca (Itv K a ds.length) ⟨ds.reverse, [(n, o)]⟩ H0 m0 := by
  refine ⟨fun i H m h hi x S k => ?_, fun H m h x S k => ?_, fun i H v H' m h d hd x S k y => ?_⟩
  · obtain ⟨vs, e, r⟩ := S.seqAt (seq_of ho (oks k)) (x.pre n a ea)
    have hi' : i < ds.length := by
      have : i < ds.reverse.length := hi
      rwa [List.length_reverse] at this
    obtain ⟨v, e2, _⟩ := r.get (List.getElem?_eq_getElem (show ds.length - 1 - i < ds.length by omega))
    exact ⟨hi', vs, v, e, e2⟩
  · show ds.length ≤ ds.reverse.length
    rw [List.length_reverse]
    exact Nat.le_refl _
  · obtain ⟨vs, e, r⟩ := S.seqAt (seq_of ho (oks k)) (x.pre n a ea)
    obtain ⟨rfl, y⟩ := y
    have hd' : ds.reverse[i]? = some d := hd
    have hi : i < ds.length := by
      have := (List.getElem?_eq_some_iff.mp hd').1
      rwa [List.length_reverse] at this
    rw [List.getElem?_reverse hi] at hd'
    obtain ⟨v', e2, r2⟩ := r.get hd'
    have := (y vs e).symm.trans e2
    cases this
    exact ⟨Ext.refl, S, r2, fun _ _ z => z⟩
theorem wd_revT {a : Addr} {vs : List V} {ds : List D} (t : SqT K H0 a vs) (r : Rs K H0 m0 vs ds) : WD K ca (RT.ItvT K a ds.length) ⟨ds.reverse, []⟩ H0 m0 := by
  refine ⟨fun i H m h hi x S k => ?_, fun H m h x S k => ?_, fun i H v H' m h d hd x S k y => ?_⟩
  · have hi' : i < ds.length := by
      have : i < ds.reverse.length := hi
      rwa [List.length_reverse] at this
    obtain ⟨v, e2, _⟩ := r.get (List.getElem?_eq_getElem (show ds.length - 1 - i < ds.length by omega))
    exact ⟨hi', vs, v, x.tup _ _ t, e2⟩
  · show ds.length ≤ ds.reverse.length
    rw [List.length_reverse]
    exact Nat.le_refl _
  · obtain ⟨rfl, y⟩ := y
    have hd' : ds.reverse[i]? = some d := hd
    have hi : i < ds.length := by
      have := (List.getElem?_eq_some_iff.mp hd').1
      rwa [List.length_reverse] at this
    rw [List.getElem?_reverse hi] at hd'
    obtain ⟨v', e2, r2⟩ := r.get hd'
    have := (y vs (x.tup _ _ t)).symm.trans e2
    cases this
    exact ⟨Ext.refl, S, r2.mono x, fun _ _ z => z⟩
end

/-! ### for x in e, whatever e is -/
section
variable {X : Cx} {tg : Expr}
theorem it_list {pins : List (Addr × Obj)} {σ : L2.St} {H : Hp} {s : Shared} {Rr : It → Hp → Prop} {E : Value → Shared → Prop} {a : Addr} {xs : List V} (I : Inv X pins σ H s) (hq : SqL X.K H a xs) (q : Rr (Itl X.K a) H) :
    wpAny (model X.prog X.w) X.A (pyIter (.ref a)) (PIE X pins σ tg Rr) E s := by
  obtain ⟨its, rv, pl, hz⟩ := I.list hq
  exact wpAny_pyIter_list pl.isList (pi_one (tk := s.toks) I _ (turn_list a _) ⟨_, Heap.get?_push_size _ rfl, rfl, rfl⟩ q)
theorem it_tup {pins : List (Addr × Obj)} {σ : L2.St} {H : Hp} {s : Shared} {Rr : It → Hp → Prop} {E : Value → Shared → Prop} {a : Addr} {xs : List V} (I : Inv X pins σ H s) (hq : SqT X.K H a xs) (q : Rr (Itt X.K a) H) :
    wpAny (model X.prog X.w) X.A (pyIter (.ref a)) (PIE X pins σ tg Rr) E s := by
  obtain ⟨its, rv, pl, hz⟩ := I.tuple hq
  exact wpAny_pyIter_tuple pl (pi_one (tk := s.toks) I _ (turn_tuple a _) ⟨_, Heap.get?_push_size _ rfl, rfl, rfl⟩ q)
theorem it_str {pins : List (Addr × Obj)} {σ : L2.St} {H : Hp} {s : Shared} {Rr : It → Hp → Prop} {E : Value → Shared → Prop} {z : Str} {t : Tok} (I : Inv X pins σ H s) (q : Rr (Its z) H) :
    wpAny (model X.prog X.w) X.A (pyIter (.str z t)) (PIE X pins σ tg Rr) E s := by
  cases ha : z.cps.all (· < 128)
  · exact wpAny_pyIter_wide ha (pi_one (tk := s.toks) I _ (turn_str _ z t "str_iterator" (.inr rfl)) ⟨_, Heap.get?_push_size _ rfl, rfl, rfl⟩ q)
  · exact wpAny_pyIter_ascii ha (pi_one (tk := s.toks) I _ (turn_str _ z t "str_ascii_iterator" (.inl rfl)) ⟨_, Heap.get?_push_size _ rfl, rfl, rfl⟩ q)
def iSeqA (K : PySem.W.Frag) (tl : TE) : TI := fun σ H Rr => tl σ H fun x H1 => (∃ a xs, x = .ref a ∧ SqL K H1 a xs ∧ Rr (Itl K a) H1) ∨ (∃ a xs, x = .ref a ∧ SqT K H1 a xs ∧ Rr (Itt K a) H1) ∨ (∃ z, x = .str z ∧ Rr (Its z) H1)
theorem pi_any {l : Expr} {tl : TE} (hl : PE X l tl) : PI X tg l (iSeqA X.K tl) := by
  refine ⟨fun pins s σ H Rr I h => thn (hl.run pins s σ H _ I h) fun v s1 ⟨x, H1, I1, r1, q1⟩ => ?_⟩
  rcases q1 with ⟨a, xs, rfl, hq, q⟩ | ⟨a, xs, rfl, hq, q⟩ | ⟨z, rfl, q⟩
  · cases r1; exact it_list I1 hq q
  · cases r1; exact it_tup I1 hq q
  · obtain ⟨t, rfl⟩ := r1; exact it_str I1 q
end
end Bp

namespace Bp
open PySem L2 PySem.Spec PyProof.Rows

section
variable {K : PySem.W.Frag} {w : World} {a : Addr}
theorem tab_find : ∀ {es : List DictEntry} {kvs : List (Str × D)}, Paired (EntOk K) es kvs → ∀ z : Str,
    (match kvs.lookup z with
      | none => es.find? (·.key.isStr z) = none
      | some d => ∃ e v, es.find? (·.key.isStr z) = some e ∧ RelV v e.val ∧ ∀ H m, R K H m v d) ∧ es.any (·.refKey) = false
  | _, _, .nil, z => ⟨rfl, rfl⟩
  | _, _, .cons (a := e) (b := p) (l₁ := es) (l₂ := kvs) h t, z => by
    obtain ⟨tk, v, hk, rv, rr⟩ := h
    obtain ⟨x, d⟩ := p
    obtain ⟨i1, i2⟩ := tab_find t z
    have hr : e.refKey = false := by unfold DictEntry.refKey; rw [hk]
    refine ⟨?_, by rw [List.any_cons, hr, i2]; rfl⟩
    have hs : e.key.isStr z = (x == z) := by rw [hk]; rfl
    rw [List.lookup_cons, List.find?_cons, hs]
    by_cases hz : z = x
    · subst hz
      rw [beq_self_eq_true]
      exact ⟨e, v, rfl, rv, rr⟩
    · rw [beq_eq_false_iff_ne.mpr hz, beq_eq_false_iff_ne.mpr (fun q => hz q.symm)]
      exact i1
theorem TabAt.ns {kvs : List (Str × D)} (h : TabAt K w a kvs) (z : Str) : ∃ es n r, KDict K w a es n ∧ PySem.W.nsIn K a z = some r ∧ match kvs.lookup z with
    | none => r = none
    | some d => ∃ u v, r = some u ∧ RelV v u ∧ ∀ H m, R K H m v d := by
  obtain ⟨es, n, D, pr⟩ := h
  obtain ⟨i1, i2⟩ := tab_find pr z
  have e : PySem.W.nsIn K a z = (match es.toList.find? (·.key.isStr z) with
      | some e => some (some e.val)
      | none => if es.toList.any (·.refKey) then none else some none) := by
    unfold PySem.W.nsIn; rw [D.at_]; rfl
  cases hl : kvs.lookup z with
  | none =>
    rw [hl] at i1
    refine ⟨es, n, none, D, ?_, rfl⟩
    rw [e, i1, i2]; rfl
  | some d =>
    rw [hl] at i1
    obtain ⟨en, v, h1, h2, h3⟩ := i1
    exact ⟨es, n, some en.val, D, by rw [e, h1], _, v, rfl, h2, h3⟩
end
section
variable {X : Cx} {a : Addr} {o e f : Expr} {apos cpos : Pos} {ty tx : TE} {kvs : List (Str × D)}
/-- X.get(i, d) of a written dict -/
theorem pe_tget {es : Array DictEntry} {n : Nat} (D : KDict X.K X.w a es n) (ho : PE X o (tC (.ref a))) (he : PE X e ty) (hf : PE X f tx) (m : M2 X o "get" apos e f cpos) :
    PE X (.Call (.Attribute o "get" apos) [e, f] [] cpos) (fun σ H Q => ty σ H fun y H1 => tx σ H1 fun z H2 => ∃ s r v, y = .str s ∧ PySem.W.nsIn X.K a s = some r ∧ (match r with | none => v = z | some u => RelV v u) ∧ Q v H2) := by
  refine ⟨fun pins s σ H Q I h => ?_⟩
  refine wpAny_Call_method m.base m.few m.line PySem.F.plainAttrs_dict PySem.F.slot_dict_get PySem.F.type_dict_get (thn (ho.run pins s σ H (fun v H1 => v = .ref a ∧ H1 = H) I ⟨rfl, rfl⟩) fun u s1 ⟨x, H1, I1, rx, ex, eh⟩ => ?_)
  subst ex eh
  obtain rfl : u = Value.ref a := rx
  refine ⟨kd_type D I1, fun b q => ?_, ?_⟩
  · cases q
    exact ⟨_, I1.kIn _ _ D.at_, rfl⟩
  rw [m.trees]
  refine Calls.callWith_builtin rfl (Calls.evalArgs_plain (Calls.spliced_cons (thn (he.run pins s1 σ H1 _ I1 h) fun iv s2 ⟨y, H2, I2, ry, q2⟩ =>
    Calls.spliced_cons (thn (hf.run pins s2 σ H2 _ I2 q2) fun fv s3 ⟨z, H3, I3, rz, sx, r, v, ey, hn, hv, q3⟩ => Calls.spliced_nil ?_))))
  subst ey
  obtain ⟨tk, rfl⟩ := ry
  refine call_meetsIn PySem.F.slot_dict_get (kd_type D I3) PySem.F.entry_dict_get (PySem.F.args_dict_get_3 _ _ _) (meets_dict_get_default (PySem.strKind X.prog X.w) a (PySem.strKind_is X.prog X.w sx tk) D.low fv) ⟨_, PySem.W.mapOf_K (prog := X.prog) I3.kIn D.at_ D.lit, ?_⟩
  rw [PySem.W.find_K D.at_ hn]
  refine ⟨v, H3, I3.tok _, ?_, q3⟩
  cases r with
  | none => rw [hv]; exact rz
  | some u => exact hv
end

/-! ### displays of dicts -/
def prs : List V → List (V × V)
  | a :: b :: r => (a, b) :: prs r
  | _ => []
def evn : Es → Bool
  | .nil => true
  | .cons _ .nil => false
  | .cons _ (.cons _ r) => evn r
def trsOf (C : Cn) (K : PySem.W.Frag) (ca : Cj) : Es → List (TE × TE)
  | .cons a (.cons b r) => (tE C K ca a, tE C K ca b) :: trsOf C K ca r
  | _ => []
section
variable {C : Cn} {K : PySem.W.Frag} {ca : Cj}
theorem pairs_ok {X : Xq} {e : En} {σ : L2.St} : ∀ (kvs : Es) {H : Hp} {m : List Addr} {h : Hh} {Q' : List D → Hh → Prop} {Qp : List (V × V) → Hp → Prop}, Xp K ca H m σ e X → evn kvs = true → Sm K ca H m h → Er K H m σ e → wpEs C kvs X e h Q' →
    (∀ m' vs H' ds h', Ext K H m H' m' → Sm K ca H' m' h' → Rs K H' m' vs ds → Q' ds h' → Qp (prs vs) H') → tPairs (trsOf C K ca kvs) σ H Qp
  | .nil, H, m, h, Q', Qp, _, _, S, E, w, p => by
    unfold wpEs at w
    exact p m [] H [] h Ext.refl S .nil w
  | .cons a .nil, _, _, _, _, _, _, he, _, _, _, _ => by cases he
  | .cons a (.cons b r), H, m, h, Q', Qp, xp, he, S, E, w, p => by
    unfold wpEs at w
    refine ⟨m, e, h, _, X, S, E, xp, w, fun m1 v1 H1 d1 h1 x1 S1 r1 w1 => ?_⟩
    unfold wpEs at w1
    refine ⟨m1, e, h1, _, X, S1, E.mono x1, xp.mono x1, w1, fun m2 v2 H2 d2 h2 x2 S2 r2 w2 => ?_⟩
    refine pairs_ok r (xp.mono (x1.trans x2)) he S2 (E.mono (x1.trans x2)) w2 fun m3 vs H3 ds h3 x3 S3 rs q => ?_
    exact p m3 (v1 :: v2 :: vs) H3 (d1 :: d2 :: ds) h3 ((x1.trans x2).trans x3) S3 (.cons (r1.mono (x2.trans x3)) (.cons (r2.mono x3) rs)) q
theorem keys_ok {H : Hp} {m : List Addr} : ∀ {vs : List V} {ds : List D} {ps : List (Key × D)}, Rs K H m vs ds → pairUp ds = some ps → ∃ vk : List (Key × V), prs vs = vk.map (fun kv => (kV kv.1, kv.2)) ∧ Rk K H m vk ps
  | _, _, ps, .nil, e => by cases e; exact ⟨[], rfl, .nil⟩
  | _, _, ps, .cons _ .nil, e => by cases e
  | _, _, ps, .cons (v := v) (d := d) r1 (.cons (v := u) (d := f) r2 t), e => by
    unfold pairUp at e
    cases hk : keyOf d with
    | none => rw [hk] at e; cases e
    | some k =>
      rw [hk] at e
      split at e
      · rename_i k' qs e1 e2
        cases e1; cases e
        obtain ⟨vk, e3, r3⟩ := keys_ok t e2
        refine ⟨(k, u) :: vk, ?_, .cons r2 r3⟩
        rw [List.map_cons, ← e3, ← key_ok r1 hk]
        rfl
      · cases e
theorem rk_merge {H : Hp} {m : List Addr} {vk : List (Key × V)} {ps : List (Key × D)} (r : Rk K H m vk ps) : ∀ {av : List (Key × V)} {ad : List (Key × D)}, Rk K H m av ad → Rk K H m (mergeK av vk) (mergeD ad ps) := by
  induction r with
  | nil => intro av ad a; exact a
  | @cons k v d vs ds r t ih =>
    intro av ad a
    exact ih (a.put k r)
theorem disp_ok {kvs : Es} {X : Xq} {e : En} {σ : L2.St} {H : Hp} {m : List Addr} {h : Hh} {Q' : Qd} {Q : VK} (xp : Xp K ca H m σ e X) (he : evn kvs = true) (S : Sm K ca H m h) (E : Er K H m σ e)
    (w : wpEs C kvs X e (h ++ [.dK []]) fun ds h2 => h2[h.length]? = some (.dK []) ∧ ∃ ps, pairUp ds = some ps ∧ ps.length ≤ 15 ∧ Q' (.ref h.length) (h2.set h.length (.dK (mergeD [] ps)))) (p : Post K ca H m Q' Q) : tDisp (trsOf C K ca kvs) σ H Q := by
  intro p0 hp0
  have x0 : Ext K H m (upd H p0 (.dK [])) (m ++ [p0]) := Ext.new hp0 _
  have S0 : Sm K ca (upd H p0 (.dK [])) (m ++ [p0]) (h ++ [.dK []]) := S.new (o := .dK []) hp0 ⟨[], upd_same, .nil⟩
  have m0 : (m ++ [p0])[h.length]? = some p0 := by rw [← S.len]; simp
  refine pairs_ok kvs (xp.mono x0) he S0 (E.mono x0) w fun m2 vs H2 ds h2 x2 S2 rs ⟨g2, ps, e1, l1, q⟩ => ?_
  have m2p := x2.pre _ _ m0
  obtain ⟨vk, e2, rk⟩ := keys_ok rs e1
  obtain ⟨vk0, e3, rk0⟩ := S2.obj _ _ _ m2p g2
  cases rk0
  refine ⟨e3, vk, e2, by rw [rk.len]; exact l1, ?_⟩
  obtain ⟨S3, x3⟩ := S2.put (ho := .dK (mergeK [] vk)) (o := .dK (mergeD [] ps)) g2 m2p rfl rfl fun H' ht e => ⟨_, e, (rk_merge rk .nil).mono0 ⟨fun _ _ z => z, ht⟩⟩
  exact p m2 (.ref p0) _ (.ref h.length) _ ((x0.trans x2).trans x3) S3 (.ref m2p) q
end
end Bp

namespace Bp
open PySem L2 PySem.Spec PyProof.Rows

section
variable {g : Bool} {T : Tb} {k : Nat} {ca : Cj}

def tTB (C : Cn) (K : PySem.W.Frag) (ca : Cj) (kk : Bool) (a : Es) : TT := fun σ H Q => ∃ m e h Q' Xx, Sm K ca H m h ∧ Er K H m σ e ∧ Xp K ca H m σ e Xx ∧ wpB C kk a Xx e h Q' ∧ PostT K ca H m Q' Q
theorem sub1 {C : Cn} {K : PySem.W.Frag} {a : E} {σ : L2.St} {H : Hp} {m : List Addr} {e : En} {h : Hh} {Q' : Qd} {X : Xq} {Q : VK} (S : Sm K ca H m h) (Ee : Er K H m σ e) (xp : Xp K ca H m σ e X) (w : wpE C a X e h Q')
    (p : ∀ m' v H' d h', Ext K H m H' m' → Sm K ca H' m' h' → R K H' m' v d → Q' d h' → Q v H') : tE C K ca a σ H Q := ⟨m, e, h, Q', X, S, Ee, xp, w, p⟩

theorem blt_ok {N : List Str} {sc : Scope} {fc : Str → Bool} {X : Cx} (c : Ct T k ca N sc fc X) (b : Bi) : X.mg (biN b) = none := c.blt _ (by cases b <;> decide)
theorem kit_all (a b : Tn) (h : tnOk b = true) : kitB (tnS a) (tnS b) = some (isT a b) := by
  cases b
  case non => cases h
  all_goals (cases a <;> decide +kernel)
theorem kits_all {K : PySem.W.Frag} (a : Tn) : ∀ ts : List Tn, ts.all tnOk = true → PySem.W.kitAny K (.type (tnS a)) (ts.map fun t => Value.type (tnS t)) = some (ts.any (isT a))
  | [], _ => rfl
  | t :: ts, h => by
    rw [List.all_cons, Bool.and_eq_true] at h
    rw [List.map_cons, List.any_cons]
    refine kitAny_cons (b := isT a t) (kit_ty (kit_all a t h.1)) (fun z => ?_) (fun z => ?_)
    · rw [z, Bool.false_or]; exact kits_all a ts h.2
    · rw [z]; rfl
theorem tyx_ok {K : PySem.W.Frag} {H : Hp} {m : List Addr} {h : Hh} {x : V} {d : D} {t : Tn} (S : Sm K ca H m h) (rx : R K H m x d) (e : tyD h d = some t) : TyX K H x (.type (tnS t)) := by
  cases rx with
  | non => cases e; exact .base .non
  | bl b => cases e; exact .base (.bl b)
  | int i => cases e; exact .base (.int i)
  | str s => cases e; exact .base (.str s)
  | tup q r =>
    cases e
    rcases q with (q | ⟨o, q⟩) | ⟨o, its, n, q, c, _⟩
    · exact .base (.tup q)
    · exact .fTuple q
    · exact .kTuple q c
  | ref z =>
    dsimp only [tyD] at e
    split at e
    · cases e
      rename_i e1
      obtain ⟨vs, e2, r⟩ := S.lstAt e1 z
      exact .base (.lst e2)
    · cases e
      rename_i e1
      obtain ⟨vs, e2, r⟩ := S.obj _ _ _ z e1
      rcases e2 with ⟨o, e2⟩ | e2
      · exact .base (.frz e2)
      · rcases e2 (fun _ => none) with (q | ⟨o, q⟩) | ⟨o, its, n, q, c, _⟩
        · cases q
        · cases q
        · exact .kList q c
    · cases e
      rename_i e1
      obtain ⟨vk, e2, r⟩ := S.obj _ _ _ z e1
      exact .base (.dK e2)
    · cases e

theorem tn_boot (t : Tn) (h : tnOk t = true) : bootBuiltins (tnN t) = some (.type (tnS t)) ∧ tnN t ∈ bnames ∧ tnN t ≠ "__name__" ∧ (tnN t == ("__debug__" : Str)) = false := by
  cases t
  case non => cases h
  all_goals exact ⟨by decide +kernel, by decide, by decide, by decide⟩
theorem ckTy_ok {N : List Str} {sc : Scope} {fc : Str → Bool} {X : Cx} (c : Ct T k ca N sc fc X) (t : Tn) (e : Expr) (h : ckTy sc t e = true) : PE X e (tC (.ty (tnS t))) ∧ tnOk t = true := by
  unfold ckTy at h
  split at h
  · simp only [Bool.and_eq_true] at h
    obtain ⟨⟨h1, h2⟩, h3⟩ := h
    have ex := of_decide_eq_true h1
    subst ex
    obtain ⟨b1, b2, b3, b4⟩ := tn_boot t h3
    exact ⟨pe_bltn (c.gl h2) (c.blt _ b2) b1 rfl b3 b4, h3⟩
  · cases h
def tTys : List Tn → TA
  | [] => tNil
  | t :: ts => tCons (tC (.ty (tnS t))) (tTys ts)
theorem ckTys_ok {N : List Str} {sc : Scope} {fc : Str → Bool} {X : Cx} (c : Ct T k ca N sc fc X) : ∀ (ts : List Tn) (xs : List Expr), ckTys sc ts xs = true → PA X xs (fun σ H Q => Q (ts.map fun t => V.ty (tnS t)) H) ∧ ts.all tnOk = true ∧ True
  | [], [], _ => ⟨pa_nil, rfl, trivial⟩
  | t :: ts, x :: xs, h => by
    unfold ckTys at h
    rw [Bool.and_eq_true] at h
    obtain ⟨h1, h2⟩ := ckTy_ok c t x h.1
    obtain ⟨h3, h4, h5⟩ := ckTys_ok c ts xs h.2
    have ns : nst x = true := by
      cases x <;> first | rfl | (have := h.1; unfold ckTy at this; cases this)
    exact ⟨pa_imp (pa_cons h1 h3 (star_cons _ _ _ ns)) fun σ H Q q => q, by rw [List.all_cons, h2, h4]; rfl, trivial⟩
  | [], _ :: _, h => by cases h
  | _ :: _, [], h => by cases h
theorem clss_ok : ∀ ts : List Tn, Paired ClsV (ts.map fun t => V.ty (tnS t)) (ts.map fun t => Value.type (tnS t))
  | [] => .nil
  | t :: ts => .cons (.ty _) (clss_ok ts)
theorem tyx_new {K : PySem.W.Frag} {H : Hp} {p : Addr} {o : HO} {x : V} {t : Value} (hp : H p = none) (h : TyX K H x t) : TyX K (upd H p o) x t := by
  have ne : ∀ {a : Addr} {u : HO}, H a = some u → (upd H p o) a = some u := fun e => by rw [upd_ne (ne_of_none e hp)]; exact e
  cases h with
  | base b =>
    cases b with
    | non => exact .base .non
    | bl b => exact .base (.bl b)
    | int i => exact .base (.int i)
    | str s => exact .base (.str s)
    | flt s => exact .base (.flt s)
    | lst e => exact .base (.lst (ne e))
    | frz e => exact .base (.frz (ne e))
    | tup e => exact .base (.tup (ne e))
    | dK e => exact .base (.dK (ne e))
    | dT e => exact .base (.dT (ne e))
    | ins e a b c d f => exact .base (.ins (ne e) a b c d f)
  | byt b => exact .byt b
  | set e => exact .set (ne e)
  | kList a b => exact .kList a b
  | kTuple a b => exact .kTuple a b
  | kDict a b => exact .kDict a b
  | fTuple e => exact .fTuple (ne e)
  | fDict e => exact .fDict (ne e)
/-! ### targets -/
def rSetA : TSet := fun o i v H Q => rSetL o i v H Q ∨ ∃ a H', o = .ref a ∧ DPut H a i v H' ∧ Q H'
theorem set_any {X : Cx} (hu : X.A.units + 1 < cLine) : PSet X rSetA := by
  intro pins s σ H o i v ov iv u Q I ro ri rv h
  rcases h with h | ⟨a, H', rfl, g, q⟩
  · exact set_list pins s σ H o i v ov iv u Q I ro ri rv h
  · cases ro
    exact d_setItem hu I g ri rv fun s' I' => ⟨H', I', q⟩
theorem ckGs_nst {N : List Str} {sc : Scope} {fc : Str → Bool} : ∀ (xs : List Expr) (a : Tgs), ckGs a N sc fc xs = true → ∀ x ∈ xs, nst x = true
  | [], _, _, x, hx => by cases hx
  | y :: ys, .nil, h, x, hx => by unfold ckGs at h; cases h
  | y :: ys, .cons a r, h, x, hx => by
    unfold ckGs at h
    simp only [Bool.and_eq_true] at h
    rcases List.mem_cons.mp hx with e | e
    · rw [e]; exact h.1.1
    · exact ckGs_nst ys r h.2 x e
theorem ckGs_len {N : List Str} {sc : Scope} {fc : Str → Bool} : ∀ (xs : List Expr) (a : Tgs), ckGs a N sc fc xs = true → tgsLen a = xs.length
  | [], .nil, _ => rfl
  | [], .cons _ _, h => by unfold ckGs at h; cases h
  | y :: ys, .nil, h => by unfold ckGs at h; cases h
  | y :: ys, .cons a r, h => by
    unfold ckGs at h
    simp only [Bool.and_eq_true] at h
    unfold tgsLen
    rw [List.length_cons, ckGs_len ys r h.2]
theorem asg_len (env : Env) : ∀ xs : List Expr, (∀ x ∈ xs, nst x = true) → (assignEach xs env).length = xs.length
  | [], _ => rfl
  | x :: xs, h => by rw [assign_cons x xs env (h x List.mem_cons_self), List.length_cons, List.length_cons, asg_len env xs fun y hy => h y (List.mem_cons_of_mem _ hy)]
theorem asg_idx (env : Env) : ∀ xs : List Expr, (∀ x ∈ xs, nst x = true) → (assignEach xs env).findIdx? (·.1) = none
  | [], _ => rfl
  | x :: xs, h => by
    rw [assign_cons x xs env (h x List.mem_cons_self), List.findIdx?_cons, asg_idx env xs fun y hy => h y (List.mem_cons_of_mem _ hy)]
    rfl
theorem sub_asg (o i : Expr) (pos : Pos) (env : Env) (h : nsl i = true) : ∀ v, assign (.Subscript o i pos) env v = (do
      let ov ← holding [v] (eval o env)
      let iv ← holding [v, ov] (eval i env)
      standAt pos
      holding [v, ov, iv] (setItem ov iv v)
      release [v, ov, iv] []) := by
  intro v
  cases i <;> first | rfl | cases h
theorem srcL_ok {K : PySem.W.Frag} {H : Hp} {m : List Addr} {h : Hh} {v : V} {d : D} {Q : Src → Hh → Prop} (S : Sm K ca H m h) (r : R K H m v d) (w : srcL d h Q) : ∃ (a : Addr) (n : Nat) (o : O) (ds : List D) (vs : List V), v = .ref a ∧ m[n]? = some a ∧ (o = .lst ds ∨ o = .rl ds) ∧ SqL K H a vs ∧ Q ⟨ds, [(n, o)]⟩ h := by
  unfold srcL at w
  split at w
  · rename_i n
    cases r with
    | @ref a _ z =>
      rcases w with ⟨ds, e1, q⟩ | ⟨ds, e1, q⟩
      · obtain ⟨vs, e2, r⟩ := S.seqAt (.inl e1) z
        exact ⟨a, n, _, ds, vs, rfl, z, .inl rfl, e2, q⟩
      · obtain ⟨vs, e2, r⟩ := S.seqAt (.inr e1) z
        exact ⟨a, n, _, ds, vs, rfl, z, .inr rfl, e2, q⟩
  · exact w.elim
theorem zip_key {K : PySem.W.Frag} {H : Hp} {m : List Addr} {h : Hh} {v1 v2 : V} {d1 d2 : D} {Q' : Src → Hh → Prop} {Q : It → Hp → Prop} (S : Sm K ca H m h) (r1 : R K H m v1 d1) (r2 : R K H m v2 d2) (w : srcZ d1 d2 h Q') (p : ∀ J s, WD K ca J s H m → Q' s h → Q J H) :
    ∃ a b xs ys s t, [v1, v2] = [V.ref a, V.ref b] ∧ SqX s K H a xs ∧ SqX t K H b ys ∧ Q (ItzM s t K a b) H := by
  have tupT : ∀ {v : V} {d : D} {Q2 : Src → Hh → Prop}, R K H m v d → srcT d h Q2 → ∃ a vs ds, v = .ref a ∧ SqX true K H a vs ∧ (∀ {st : List (Nat × O)} {H' : Hp} {m' : List Addr} {h' : Hh}, Ext K H m H' m' → Sm K ca H' m' h' → (∀ p ∈ st, h'[p.1]? = some p.2) → ∃ vs, SqX true K H' a vs ∧ Rs K H' m' vs ds) ∧ Q2 ⟨ds, []⟩ h := by
    intro v d Q2 r w
    unfold srcT at w
    split at w
    · cases r with
      | tup t1 rr => exact ⟨_, _, _, rfl, t1, fun x _ _ => ⟨_, x.tup _ _ t1, rr.mono x⟩, w⟩
    · exact w.elim
  have lstL : ∀ {v : V} {d : D} {Q2 : Src → Hh → Prop}, R K H m v d → srcL d h Q2 → ∃ a vs ds n o, v = .ref a ∧ SqX false K H a vs ∧ (∀ {st : List (Nat × O)} {H' : Hp} {m' : List Addr} {h' : Hh}, (n, o) ∈ st → Ext K H m H' m' → Sm K ca H' m' h' → (∀ p ∈ st, h'[p.1]? = some p.2) → ∃ vs, SqX false K H' a vs ∧ Rs K H' m' vs ds) ∧ Q2 ⟨ds, [(n, o)]⟩ h := by
    intro v d Q2 r w
    obtain ⟨a, n, o, ds, vs, rfl, z, ho, sq, w⟩ := srcL_ok S r w
    refine ⟨a, vs, ds, n, o, rfl, sq, fun hm x S' k => ?_, w⟩
    obtain ⟨vs', e, r'⟩ := S'.seqAt (seq_of ho (k (n, o) hm)) (x.pre n a z)
    exact ⟨vs', e, r'⟩
  unfold srcZ at w
  rcases w with w | w | w | w
  · obtain ⟨a, vs, ds, n, o, rfl, q1, f, w⟩ := lstL r1 w
    obtain ⟨b, ws, es, n', o', rfl, q2, g, w⟩ := lstL r2 w
    exact ⟨a, b, vs, ws, _, _, rfl, q1, q2, p _ _ (wd_zipM (fun x S k => f (by simp) x S k) (fun x S k => g (by simp) x S k)) w⟩
  · obtain ⟨a, vs, ds, rfl, q1, f, w⟩ := tupT r1 w
    obtain ⟨b, ws, es, rfl, q2, g, w⟩ := tupT r2 w
    exact ⟨a, b, vs, ws, _, _, rfl, q1, q2, p _ _ (wd_zipM (fun x S k => f x S k) (fun x S k => g x S k)) w⟩
  · obtain ⟨a, vs, ds, rfl, q1, f, w⟩ := tupT r1 w
    obtain ⟨b, ws, es, n', o', rfl, q2, g, w⟩ := lstL r2 w
    exact ⟨a, b, vs, ws, _, _, rfl, q1, q2, p _ _ (wd_zipM (fun x S k => f x S k) (fun x S k => g (by simp) x S k)) w⟩
  · obtain ⟨a, vs, ds, n, o, rfl, q1, f, w⟩ := lstL r1 w
    obtain ⟨b, ws, es, rfl, q2, g, w⟩ := tupT r2 w
    exact ⟨a, b, vs, ws, _, _, rfl, q1, q2, p _ _ (wd_zipM (fun x S k => f (by simp) x S k) (fun x S k => g x S k)) w⟩
theorem all_mem {xs ys : List Nat} (h : xs.all (fun i => decide (i ∈ ys)) = true) : ∀ i ∈ xs, i ∈ ys := fun i hi => of_decide_eq_true (List.all_eq_true.mp h i hi)
theorem wipe_idem (σ : L2.St) : ∀ vs : List Nat, wipe (wipe σ vs) vs = wipe σ vs
  | [] => rfl
  | v :: vs => by
    show (wipe ((wipe σ vs).set v none) vs).set v none = (wipe σ vs).set v none
    have key : ∀ (ws : List Nat) (τ : L2.St), (wipe (τ.set v none) ws).set v none = (wipe τ ws).set v none := by
      intro ws
      induction ws with
      | nil => intro τ; exact List.set_set ..
      | cons w ws ih =>
        intro τ
        show ((wipe (τ.set v none) ws).set w none).set v none = ((wipe τ ws).set w none).set v none
        by_cases e : w = v
        · subst e; rw [List.set_set, List.set_set]; exact ih τ
        · rw [List.set_comm _ _ e, List.set_comm _ _ e, ih]
    rw [key, wipe_idem]
theorem lc_sound {C : Cn} {K : PySem.W.Frag} {elt : E} {t : Tg} {it : Iv} {cc : Oe} {own : List (Str × Nat)} {σ : L2.St} {H : Hp} {Q : VK} (hsl : ∀ i ∈ tgSlots t, i ∈ own.map (·.2)) (q : tE C K ca (.comp elt t it cc own) σ H Q) :
    tLc (tI C K ca it) (tG C K ca.no t) (tC' C K ca.no cc) (tE C K ca.no elt) (own.map (·.2)) σ H Q := by
  obtain ⟨m, en, hh, Q', Xx, S, E, xp, w, p⟩ := q
  unfold wpE at w
  refine ⟨m, en, hh, _, Xx, S, E, xp, w, fun m1 H1 J s h1 x1 S1 wd w1 D hD => ?_⟩
  have xN : Ext K H1 m1 (upd H1 D (.lst [])) (m1 ++ [D]) := Ext.new hD _
  have SN : Sm K ca (upd H1 D (.lst [])) (m1 ++ [D]) (h1 ++ [.lst []]) := S1.new (o := .lst []) hD ⟨[], upd_same, .nil⟩
  have hp0 : (m1 ++ [D])[h1.length]? = some D := by rw [← S1.len]; simp
  refine ⟨fun i mm H2 => mm = s.items.length - i ∧ i ≤ s.items.length ∧ ∃ m' h', Ext K (upd H1 D (.lst [])) (m1 ++ [D]) H2 m' ∧ Sm K ca H2 m' h' ∧
      compW s.ok h1.length (fun d h2 k => wpG C t (fun _ _ _ => False) d (wipeE en (own.map (·.2))) h2 fun e3 h3 => wpC C cc (fun _ _ _ => False) e3 h3 fun r h4 => if r = true then wpE C elt (fun _ _ _ => False) e3 h4 fun y h5 => k (some y) h5 else k none h4) (Q' (.ref h1.length)) (s.items.drop i) h',
    ⟨_, rfl, Nat.zero_le _, m1 ++ [D], _, Ext.refl, SN, w1⟩, ?_⟩
  rintro i mm H2 ⟨rfl, hi, m', h', xx, S', w'⟩
  have x0 : Ext K H1 m1 H2 m' := xN.trans xx
  by_cases hlt : i < s.items.length
  · rw [List.drop_eq_getElem_cons hlt] at w'
    unfold compW at w'
    refine .inr ⟨wd.goes i H2 m' h' hlt x0 S' w'.1, fun H3 => ∃ m'' h'', Ext K (upd H1 D (.lst [])) (m1 ++ [D]) H3 m'' ∧ Sm K ca H3 m'' h'' ∧
      compW s.ok h1.length (fun d h2 k => wpG C t (fun _ _ _ => False) d (wipeE en (own.map (·.2))) h2 fun e3 h3 => wpC C cc (fun _ _ _ => False) e3 h3 fun r h4 => if r = true then wpE C elt (fun _ _ _ => False) e3 h4 fun y h5 => k (some y) h5 else k none h4) (Q' (.ref h1.length)) (s.items.drop (i + 1)) h'',
      fun H3 ⟨m'', h'', a1, a2, a3⟩ => ⟨s.items.length - (i + 1), by omega, rfl, hlt, m'', h'', a1, a2, a3⟩, fun x H3 hy => ?_⟩
    obtain ⟨y1, y2, y3, y4⟩ := wd.yields i H2 x H3 m' h' _ (List.getElem?_eq_getElem hlt) x0 S' w'.1 hy
    have Ew : Er K H3 m' (wipe σ (own.map (·.2))) (wipeE en (own.map (·.2))) := (E.mono ((x1.trans x0).trans y1)).wipe _
    refine ⟨m', _, h', _, _, _, y2, Ew, y3, xnF, w'.2, fun m3 σ3 H4 e3 h3 x3 S3 E3 kp q3 => ⟨?_, ?_⟩⟩
    · rw [kp _ hsl, wipe_idem]
    · refine ⟨m3, e3, h3, _, _, S3, E3, xpF, q3, fun m4 H5 b h4 x4 S4 q4 => ?_⟩
      cases b with
      | false => exact ⟨m4, h4, (xx.trans y1).trans (x3.trans x4), S4, q4⟩
      | true =>
        refine ⟨m4, e3, h4, _, _, S4, E3.mono x4, xpF, q4, fun m5 y H6 d5 h5 x5 S5 r5 q5 => ?_⟩
        obtain ⟨acc, ea, hl, wn⟩ := q5
        have x6 := ((xx.trans y1).trans (x3.trans x4)).trans x5
        have hm : m5[h1.length]? = some D := x6.pre _ _ hp0
        obtain ⟨vacc, ev, rv⟩ := S5.lstAt ea hm
        obtain ⟨S6, x7⟩ := S5.put (ho := .lst (vacc ++ [y])) (o := .lst (acc ++ [d5])) ea hm rfl rfl fun H' ht e => ⟨_, e, (rv.append (.one r5)).mono0 ⟨fun _ _ z => z, ht⟩⟩
        exact ⟨vacc, ev, by rw [rv.len]; exact lim' _ hl, m5, _, x6.trans x7, S6, wn⟩
  · have e : i = s.items.length := by omega
    subst e
    rw [List.drop_length] at w'
    unfold compW at w'
    exact .inl ⟨wd.stops H2 m' h' x0 S' w'.1, p m' (.ref D) H2 _ h' (x1.trans x0) S' (.ref (xx.pre _ _ hp0)) w'.2⟩
theorem both {C : Cn} {X : Cx} {e : Expr} {a : E} (pe : PE X e (tE C X.K ca a)) (he : ∀ whole, PySem.isTrue e X.env whole = (do let v ← whole; standAt e.pos; holding [v] (truthy v))) : PE X e (tE C X.K ca a) ∧ PT X e (tT C X.K ca a) := ⟨pe, pt_of pe he⟩
theorem fs_len {f : Str} {F : Fn} {ds : List D} {h : Hh} {Q : Qd} {X : Xq} (hf : T.df f = some F) (q : FS T k f ds h Q X) : ds.length = F.ps.length := by
  obtain ⟨F', hf', hl⟩ := FS_df q
  rw [hf] at hf'
  cases hf'
  exact hl
theorem items_rs {K : PySem.W.Frag} {H : Hp} {m : List Addr} : ∀ {ts : List Addr} {vk : List (Key × V)} {kvs : List (Key × Bp.D)}, Paired (fun (t : Addr) (q : Key × V) => H t = some (.tup [kV q.1, q.2])) ts vk → Rk K H m vk kvs → Rs K H m (ts.map V.ref) (kvs.map fun kv => .tup [keyD kv.1, kv.2])
  | _, _, _, .nil, .nil => .nil
  | _, _, _, .cons h t, .cons r u => .cons (.tup (SqT.of h) (.cons (key_R2 _) (.cons r .nil))) (items_rs t u)
theorem rk_ints {K : PySem.W.Frag} {H : Hp} {m : List Addr} : ∀ {vk : List (Key × V)} {kvs : List (Key × Bp.D)} {is : List Int}, Rk K H m vk kvs → kvs.map (·.2) = is.map Bp.D.int → vk.map (·.2) = is.map V.int
  | _, _, [], .nil, _ => rfl
  | _, _, _ :: _, .nil, e => by cases e
  | _, _, [], .cons _ _, e => by cases e
  | _, _, i :: is, .cons r t, e => by
    rw [List.map_cons, List.map_cons, List.cons.injEq] at e
    obtain ⟨e1, e2⟩ := e
    dsimp only at e1
    subst e1
    cases r
    rw [List.map_cons, List.map_cons, rk_ints t e2]
/-! ### exceptions told of -/
theorem xsb {K : PySem.W.Frag} {mg : Str → Option Value} {cf : Str → Option Addr} (X : XsOk K mg cf T) {c y : Str} {C : Addr} (hc : (T.xk c).isSome = true) (ec : cf c = some C) (hy : ((T.xk y).isSome || y == "ValueError") = true) :
    (y = "ValueError" ∧ mg "ValueError" = none ∧ PySem.W.kitOne K (.ref C) (.type "ValueError") = some (T.sb c y)) ∨ ∃ C0, mg y = some (.ref C0) ∧ PySem.W.keepIn K (.ref C0) = true ∧ PySem.W.kitOne K (.ref C) (.ref C0) = some (T.sb c y) := by
  obtain ⟨kc, hc⟩ := Option.isSome_iff_exists.mp hc
  rw [Bool.or_eq_true] at hy
  rcases hy with hy | hy
  · right
    obtain ⟨ky, hy⟩ := Option.isSome_iff_exists.mp hy
    obtain ⟨C0, e1, e2, e3, _⟩ := X.cls y ky hy
    exact ⟨C0, e2, e3.kp, (X.exm c kc y ky C C0 hc hy ec e1).2⟩
  · left
    have := beq_iff_eq.mp hy
    subst this
    obtain ⟨a, b, _⟩ := X.exv c kc C hc ec
    exact ⟨rfl, b, a⟩
/-- a class's value -/
def xcV (mg : Str → Option Value) (y : Str) : V := match mg y with
  | some (.ref C) => .ref C
  | _ => .ty "ValueError"
def xcU (mg : Str → Option Value) (y : Str) : Value := match mg y with
  | some (.ref C) => .ref C
  | _ => .type "ValueError"
theorem xc_cls (mg : Str → Option Value) (y : Str) : ClsV (xcV mg y) (xcU mg y) := by
  unfold xcV xcU
  split
  · exact .own _
  · exact .ty _
theorem xc_clss (mg : Str → Option Value) : ∀ cs : List Str, Paired ClsV (cs.map (xcV mg)) (cs.map (xcU mg))
  | [] => .nil
  | y :: r => .cons (xc_cls mg y) (xc_clss mg r)
/-- the class's name read, where it's one of ours -/
def okXc (mg : Str → Option Value) (y : Str) : Prop := (y = "ValueError" ∧ mg y = none) ∨ ∃ C0, mg y = some (.ref C0)
theorem xc_pe {N : List Str} {sc : Scope} {fc : Str → Bool} {X : Cx} (c : Ct0 g T ca N sc fc X) {y : Str} {e : Expr} (h : ckXc sc y e = true) : PE X e (fun _ H Q => okXc X.mg y ∧ Q (xcV X.mg y) H) := by
  unfold ckXc at h
  split at h
  · simp only [Bool.and_eq_true, Bool.not_eq_true'] at h
    obtain ⟨⟨h1, h2⟩, h3⟩ := h
    have ex := of_decide_eq_true h1
    subst ex
    refine ⟨fun pins s σ H Q I ⟨o, q⟩ => ?_⟩
    unfold xcV at q
    rcases o with ⟨rfl, o⟩ | ⟨C0, o⟩
    · rw [o] at q
      exact ld_blt I (c.gl h2) o PyProof.Rows.Boot.«ValueError» ⟨.ty "ValueError", H, I, rfl, q⟩ (by decide) h3
    · rw [o] at q
      exact ld_glob I (c.gl h2) o ⟨.ref C0, H, I, rfl, q⟩ h3
  · cases h
theorem xcs_pa {N : List Str} {sc : Scope} {fc : Str → Bool} {X : Cx} (c : Ct0 g T ca N sc fc X) : ∀ (cs : List Str) (es : List Expr), ckXcs sc cs es = true → PA X es (fun _ H Q => (∀ y ∈ cs, okXc X.mg y) ∧ Q (cs.map (xcV X.mg)) H)
  | [], [], _ => pa_imp pa_nil fun σ H Q q => q.2
  | y :: cs, e :: es, h => by
    unfold ckXcs at h
    rw [Bool.and_eq_true] at h
    have ns : nst e = true := by
      cases e <;> first | rfl | (have := h.1; unfold ckXc at this; cases this)
    exact pa_imp (pa_cons (xc_pe c h.1) (xcs_pa c cs es h.2) (star_cons _ _ _ ns)) fun σ H Q q => ⟨q.1 y List.mem_cons_self, fun z hz => q.1 z (List.mem_cons_of_mem _ hz), q.2⟩
  | [], _ :: _, h => by cases h
  | _ :: _, [], h => by cases h
theorem xc_ok {K : PySem.W.Frag} {mg : Str → Option Value} {cf : Str → Option Addr} (X : XsOk K mg cf T) {c y : Str} {C : Addr} (hc : (T.xk c).isSome = true) (ec : cf c = some C) (hy : ((T.xk y).isSome || y == "ValueError") = true) : okXc mg y ∧ PySem.W.kitOne K (.ref C) (xcU mg y) = some (T.sb c y) := by
  rcases xsb X hc ec hy with ⟨rfl, a, b⟩ | ⟨C0, a, _, b⟩
  · refine ⟨.inl ⟨rfl, a⟩, ?_⟩
    unfold xcU; rw [a]; exact b
  · refine ⟨.inr ⟨C0, a⟩, ?_⟩
    unfold xcU; rw [a]; exact b
theorem xcs_ok {K : PySem.W.Frag} {mg : Str → Option Value} {cf : Str → Option Addr} (X : XsOk K mg cf T) {c : Str} {C : Addr} (hc : (T.xk c).isSome = true) (ec : cf c = some C) : ∀ cs : List Str, (cs.all fun y => (T.xk y).isSome || y == "ValueError") = true → (∀ y ∈ cs, okXc mg y) ∧ PySem.W.kitAny K (.ref C) (cs.map (xcU mg)) = some (cs.any (T.sb c))
  | [], _ => ⟨fun _ h => (nomatch h), rfl⟩
  | y :: r, h => by
    rw [List.all_cons, Bool.and_eq_true] at h
    obtain ⟨a, b⟩ := xc_ok X hc ec h.1
    obtain ⟨a2, b2⟩ := xcs_ok X hc ec r h.2
    refine ⟨fun z hz => (List.mem_cons.mp hz).elim (fun e => by rw [e]; exact a) (a2 z), ?_⟩
    rw [List.map_cons, List.any_cons]
    refine kitAny_cons b (fun z => ?_) (fun z => ?_)
    · rw [z, Bool.false_or]; exact b2
    · rw [z]; rfl
theorem exc_at {K : PySem.W.Frag} {H : Hp} {m : List Addr} {h : Hh} {n : Nat} {c : Str} {p : Option Bp.D} {a : Addr} {o : Cs} (S : Sm K o H m h) (e : h[n]? = some (.exc c p)) (z : m[n]? = some a) : ∃ C d, o.ca c = some C ∧ H a = some (ExH (.ref C) d a) ∧ ExP K H m p d := S.obj n a _ z e
theorem isx_pe {C : Cn} {N : List Str} {sc : Scope} {fc : Str → Bool} {X : Cx} (c : Ct0 g T ca N sc fc X) {a : E} {cs : List Str} {u t : Expr} {p1 pos : Pos} (pa : PE X u (tE C X.K ca a)) (h2 : glB sc "isinstance" = true) (h3 : nst u = true) (h4 : nst t = true)
    (h6 : ckXt sc cs t = true) (hx : C.xk = T.xk) (hs : C.sb = T.sb) : PE X (.Call (.Name "isinstance" p1) [u, t] [] pos) (tE C X.K ca (.isx a cs)) := by
  have mi : X.mg "isinstance" = none := c.blt _ (by decide)
  have ns : ∀ z ∈ [t], nst z = true := fun z hz => by rw [List.mem_singleton.mp hz]; exact h4
  unfold ckXt at h6
  split at h6
  · rename_i xs kk0 ps0
    rw [Bool.and_eq_true] at h6
    refine pe_imp (pe_callB call_isXT (c.gl h2) mi PyProof.Rows.boot_isinstance (pa_cons pa (pa_cons (pe_tup (xcs_pa c cs xs h6.1)) pa_nil (star_cons _ _ _ h4)) (star_cons _ _ _ h3)) (by decide) (by decide) (star_cons _ _ _ h3) (star_any _ _ _ ns)) fun σ H Q ⟨m, en, hh, Q', Xx, S, E, xp, w, p⟩ => ?_
    unfold wpE at w
    refine sub1 S E xp w fun m1 v1 H1 d1 h1 x1 S1 r1 w1 => ?_
    obtain ⟨n, c', p', rfl, e1, e2, e3, q⟩ := w1
    rw [hx] at e2 e3
    rw [hs] at q
    cases r1 with
    | ref z =>
      obtain ⟨C', d, ec, ea, ed⟩ := exc_at S1 e1 z
      obtain ⟨kc, hk⟩ := Option.isSome_iff_exists.mp e2
      obtain ⟨C2, f1, f2, f3, _⟩ := c.exs.cls c' kc hk
      have : some C' = some C2 := ec.symm.trans f1
      cases this
      obtain ⟨g1, g2⟩ := xcs_ok c.exs e2 ec cs e3
      refine ⟨g1, by rw [List.length_map]; exact lim _ (of_decide_eq_true h6.2), fun pa hpa => ⟨_, C', d, pa, _, _, _, rfl, upd_same, xc_clss X.mg cs, by rw [upd_ne (ne_of_none ea hpa)]; exact ea, ?_, f3, g2, ?_⟩⟩
      · cases d with
        | none => trivial
        | some d => obtain ⟨fs, ed⟩ := ed.exD; exact ⟨fs, by rw [upd_ne (ne_of_none ed hpa)]; exact ed⟩
      · exact p m1 _ _ (.bl _) h1 (x1.trans (Ext.new0 hpa)) (S1.newt hpa) (.bl _) q
  · rename_i y py
    split at h6
    · rename_i c0
      refine pe_imp (pe_callB call_isX (c.gl h2) mi PyProof.Rows.boot_isinstance (pa_cons pa (pa_cons (xc_pe c h6) pa_nil (star_cons _ _ _ h4)) (star_cons _ _ _ h3)) (by decide) (by decide) (star_cons _ _ _ h3) (star_any _ _ _ ns)) fun σ H Q ⟨m, en, hh, Q', Xx, S, E, xp, w, p⟩ => ?_
      unfold wpE at w
      refine sub1 S E xp w fun m1 v1 H1 d1 h1 x1 S1 r1 w1 => ?_
      obtain ⟨n, c', p', rfl, e1, e2, e3, q⟩ := w1
      rw [hx] at e2 e3
      rw [hs] at q
      cases r1 with
      | ref z =>
        obtain ⟨C', d, ec, ea, ed⟩ := exc_at S1 e1 z
        obtain ⟨kc, hk⟩ := Option.isSome_iff_exists.mp e2
        obtain ⟨C2, f1, f2, f3, _⟩ := c.exs.cls c' kc hk
        have : some C' = some C2 := ec.symm.trans f1
        cases this
        rw [List.all_cons, List.all_nil, Bool.and_true] at e3
        rw [List.any_cons, List.any_nil, Bool.or_false] at q
        obtain ⟨g1, g2⟩ := xc_ok c.exs e2 ec e3
        exact ⟨g1, _, C', d, _, _, _, rfl, xc_cls X.mg c0, ea, ed.exD, f3, g2, (p.mono x1).same S1 (.bl _) q⟩
    · cases h6
  · cases h6
theorem xfld_pe {C : Cn} {N : List Str} {sc : Scope} {fc : Str → Bool} {X : Cx} (c : Ct0 g T ca N sc fc X) {a : E} {e : Expr} {pos : Pos} (pa : PE X e (tE C X.K ca a)) (h2 : isCall0 e = false) (hx : C.xk = T.xk) : PE X (.Attribute e "row" pos) (tE C X.K ca (.xfld a)) := by
  refine pe_imp (pe_xrow pa (base_ok _ _ _ _ h2)) fun σ H Q ⟨m, en, hh, Q', Xx, S, E, xp, w, p⟩ => ?_
  unfold wpE at w
  refine sub1 S E xp w fun m1 v1 H1 d1 h1 x1 S1 r1 w1 => ?_
  obtain ⟨n, c', v, rfl, e1, e2, q⟩ := w1
  rw [hx] at e2
  cases r1 with
  | ref z =>
    obtain ⟨C', d, ec, ea, ed⟩ := exc_at S1 e1 z
    obtain ⟨kc, hk⟩ := Option.isSome_iff_exists.mp e2
    obtain ⟨C2, f1, f2, f3, _⟩ := c.exs.cls c' kc hk
    have : some C' = some C2 := ec.symm.trans f1
    cases this
    cases d with
    | none => exact ed.elim
    | some d =>
      obtain ⟨y, e3, r3⟩ := ed
      exact ⟨_, C', d, _, y, rfl, ea, e3, f3, rfl, (p.mono x1).same S1 r3 q⟩
mutual
theorem sndE (a : E) {ca : Cj} {N : List Str} {sc : Scope} {fc : Str → Bool} {X : Cx} {e : Expr} (c : Ct T k ca N sc fc X) (h : ckE a N sc fc e = true) : PE X e (tE (cnOf T k) X.K ca a) ∧ PT X e (tT (cnOf T k) X.K ca a) := by
  cases a with
  | var i =>
    unfold ckE at h
    split at h
    · simp only [Bool.and_eq_true, Bool.not_eq_true'] at h
      refine both ?_ fun _ => rfl
      exact pe_imp (pe_var (c.slot h.1.1.1) (c.vis h.1.1.2) h.1.2 h.2) fun σ H Q ⟨m, en, hh, Q', Xx, S, E, xp, w, p⟩ => by
        unfold wpE at w
        obtain ⟨d, ed, q⟩ := w
        obtain ⟨v, ev, r⟩ := E.at_ i d ed
        exact ⟨v, ev, p.same S r q⟩
    · cases h
  | non =>
    unfold ckE at h
    split at h
    · refine both ?_ fun _ => rfl
      exact pe_imp pe_non fun σ H Q ⟨m, en, hh, Q', Xx, S, E, xp, w, p⟩ => by
        unfold wpE at w
        exact p.same S .non w
    · cases h
  | bl b =>
    unfold ckE at h
    split at h
    · refine both ?_ fun _ => rfl
      exact pe_imp pe_bl fun σ H Q ⟨m, en, hh, Q', Xx, S, E, xp, w, p⟩ => by
        unfold wpE at w
        rw [← of_decide_eq_true h]
        exact p.same S (.bl _) w
    · cases h
  | int i =>
    unfold ckE at h
    split at h
    · refine both ?_ fun _ => rfl
      exact pe_imp pe_int fun σ H Q ⟨m, en, hh, Q', Xx, S, E, xp, w, p⟩ => by
        unfold wpE at w
        rw [← of_decide_eq_true h]
        exact p.same S (.int _) w
    · cases h
  | str s =>
    unfold ckE at h
    split at h
    · refine both ?_ fun _ => rfl
      exact pe_imp pe_str fun σ H Q ⟨m, en, hh, Q', Xx, S, E, xp, w, p⟩ => by
        unfold wpE at w
        rw [← of_decide_eq_true h]
        exact p.same S (.str _) w
    · cases h
  | glob x =>
    unfold ckE at h
    split at h
    · simp only [Bool.and_eq_true, Bool.not_eq_true'] at h
      obtain ⟨⟨h1, h2⟩, h3⟩ := h
      have ex := of_decide_eq_true h1
      subst ex
      refine both ?_ fun _ => rfl
      ·
        by_cases hd : ∃ d, T.gls.lookup x = some d
        · obtain ⟨d, hd⟩ := hd
          obtain ⟨v, u, hm, r, rr⟩ := c.gls x d hd
          exact pe_imp (pe_glob (c.gl h2) hm r h3) fun σ H Q ⟨m, en, hh, Q', Xx, S, E, xp, w, p⟩ => by
            unfold wpE at w
            obtain ⟨d', ed, q⟩ := w
            have : some d = some d' := hd.symm.trans ed
            cases this
            exact p.same S (rr H m) q
        · exact ⟨fun pins s σ H Q I ⟨m, en, hh, Q', Xx, S, E, xp, w, p⟩ => by
            unfold wpE at w
            obtain ⟨d', ed, q⟩ := w
            exact absurd ⟨d', ed⟩ hd⟩
    · cases h
  | bin o a b =>
    unfold ckE at h
    split at h
    · simp only [Bool.and_eq_true] at h
      obtain ⟨⟨h1, h2⟩, h3⟩ := h
      have ex := of_decide_eq_true h1
      subst ex
      refine both ?_ fun _ => rfl
      exact pe_imp (pe_op (op_bo o) (sndE a c h2).1 (sndE b c h3).1) fun σ H Q ⟨m, en, hh, Q', Xx, S, E, xp, w, p⟩ => by
        unfold wpE at w
        exact sub1 S E xp w fun m1 v1 H1 d1 h1 x1 S1 r1 w1 => sub1 S1 (E.mono x1) (xp.mono x1) w1 fun m2 v2 H2 d2 h2 x2 S2 r2 w2 => bo_ok o S2 (r1.mono x2) r2 w2 (p.mono (x1.trans x2))
    · cases h
  | neg a =>
    unfold ckE at h
    split at h
    · refine both ?_ fun _ => rfl
      exact pe_imp (pe_un un_neg (sndE a c h).1) fun σ H Q ⟨m, en, hh, Q', Xx, S, E, xp, w, p⟩ => by
        unfold wpE at w
        exact sub1 S E xp w fun m1 v1 H1 d1 h1 x1 S1 r1 w1 => by
          obtain ⟨i, rfl, q⟩ := w1
          cases r1
          exact ⟨_, rfl, (p.mono x1).same S1 (.int _) q⟩
    · cases h
  | not a =>
    unfold ckE at h
    split at h
    · have ih := sndE a c h
      refine ⟨pe_imp (pe_notT ih.1) fun σ H Q ⟨m, en, hh, Q', Xx, S, E, xp, w, p⟩ => ?_, pt_imp (pt_not ih.2) fun σ H Q ⟨m, en, hh, Q', Xx, S, E, xp, w, p⟩ => ?_⟩
      · unfold wpE at w
        exact sub1 S E xp w fun m1 v1 H1 d1 h1 x1 S1 r1 w1 => by
          obtain ⟨b, t, q⟩ := tru_ok' S1 r1 w1
          exact ⟨b, t, (p.mono x1).same S1 (.bl _) q⟩
      · unfold wpE at w
        exact ⟨m, en, hh, _, Xx, S, E, xp, w, fun m' H' d h' x S' q => tru_imp q fun b q => p m' H' (.bl (!b)) h' x S' q⟩
    · cases h
  | bop kk es =>
    unfold ckE at h
    split at h
    · simp only [Bool.and_eq_true] at h
      have ex := of_decide_eq_true h.1
      subst ex
      have ih := sndB kk es c h.2
      refine ⟨pe_imp (ih.1 _) fun σ H Q ⟨m, en, hh, Q', Xx, S, E, xp, w, p⟩ => ?_, pt_imp (ih.2 _).pt fun σ H Q ⟨m, en, hh, Q', Xx, S, E, xp, w, p⟩ => ?_⟩
      · unfold wpE at w
        exact ⟨m, en, hh, Q', Xx, S, E, xp, w, p⟩
      · unfold wpE at w
        exact ⟨m, en, hh, Q', Xx, S, E, xp, w, p⟩
    · cases h
  | cmp o a b =>
    unfold ckE at h
    split at h
    · simp only [Bool.and_eq_true] at h
      obtain ⟨⟨⟨h1, h2⟩, h3⟩, h4⟩ := h
      have ex := of_decide_eq_true h1
      subst ex
      have key : ∀ (σ : L2.St) (H : Hp) (Q : VK), tE (cnOf T k) X.K ca (.cmp o a b) σ H Q → tOp (rCo X.K o) (tE (cnOf T k) X.K ca a) (tE (cnOf T k) X.K ca b) σ H Q := by
        rintro σ H Q ⟨m, en, hh, Q', Xx, S, E, xp, w, p⟩
        unfold wpE at w
        exact sub1 S E xp w fun m1 v1 H1 d1 h1 x1 S1 r1 w1 => sub1 S1 (E.mono x1) (xp.mono x1) w1 fun m2 v2 H2 d2 h2 x2 S2 r2 w2 => co_ok o S2 (r1.mono x2) r2 w2 fun bb q => (p.mono (x1.trans x2)).same S2 (.bl _) q
      refine ⟨pe_imp (pe_cmpR (op_co (by have := c.units70; omega) o) (sndE a c h3).1 (sndE b c h4).1 (nset_in _ _ h2)) key, pt_imp (pt_cmpR (op_co (by have := c.units70; omega) o) (sndE a c h3).1 (sndE b c h4).1 (nset_in _ _ h2)) fun σ H Q ⟨m, en, hh, Q', Xx, S, E, xp, w, p⟩ => ?_⟩
      unfold wpE at w
      exact sub1 S E xp w fun m1 v1 H1 d1 h1 x1 S1 r1 w1 => sub1 S1 (E.mono x1) (xp.mono x1) w1 fun m2 v2 H2 d2 h2 x2 S2 r2 w2 => co_ok o S2 (r1.mono x2) r2 w2 fun bb q => ⟨bb, rfl, p m2 H2 (.bl bb) h2 (x1.trans x2) S2 q⟩
    · cases h
  | cmp2 o o' a b d =>
    unfold ckE at h
    split at h
    · simp only [Bool.and_eq_true] at h
      obtain ⟨⟨⟨⟨⟨⟨h1, h2⟩, h3⟩, h4⟩, h5⟩, h6⟩, h7⟩ := h
      have ex := of_decide_eq_true h1
      subst ex
      have ex := of_decide_eq_true h2
      subst ex
      have ia := (sndE a c h5).1
      have ib := (sndE b c h6).1
      have id := (sndE d c h7).1
      refine ⟨pe_imp (pe_chain (op_co (by have := c.units70; omega) o) (op_co (by have := c.units70; omega) o') ia ib id (nset_in _ _ h4)) fun σ H Q ⟨m, en, hh, Q', Xx, S, E, xp, w, p⟩ => ?_, pt_imp (pt_chain (op_co (by have := c.units70; omega) o) (op_co (by have := c.units70; omega) o') ia ib id (nset_in _ _ h4)) fun σ H Q ⟨m, en, hh, Q', Xx, S, E, xp, w, p⟩ => ?_⟩
      · unfold wpE at w
        refine sub1 S E xp w fun m1 v1 H1 d1 h1 x1 S1 r1 w1 => sub1 S1 (E.mono x1) (xp.mono x1) w1 fun m2 v2 H2 d2 h2 x2 S2 r2 w2 => co_ok o S2 (r1.mono x2) r2 w2 fun bb q => ⟨bb, rfl, ?_⟩
        cases bb with
        | false => exact (p.mono (x1.trans x2)).same S2 (.bl _) q
        | true => exact sub1 S2 (E.mono (x1.trans x2)) (xp.mono (x1.trans x2)) q fun m3 v3 H3 d3 h3 x3 S3 r3 w3 => co_ok o' S3 (r2.mono x3) r3 w3 fun bb q => (p.mono ((x1.trans x2).trans x3)).same S3 (.bl _) q
      · unfold wpE at w
        refine sub1 S E xp w fun m1 v1 H1 d1 h1 x1 S1 r1 w1 => sub1 S1 (E.mono x1) (xp.mono x1) w1 fun m2 v2 H2 d2 h2 x2 S2 r2 w2 => co_ok o S2 (r1.mono x2) r2 w2 fun bb q => ⟨bb, rfl, ?_⟩
        cases bb with
        | false => exact ⟨false, rfl, p m2 H2 (.bl false) h2 (x1.trans x2) S2 q⟩
        | true => exact sub1 S2 (E.mono (x1.trans x2)) (xp.mono (x1.trans x2)) q fun m3 v3 H3 d3 h3 x3 S3 r3 w3 => co_ok o' S3 (r2.mono x3) r3 w3 fun bb q => ⟨bb, rfl, p m3 H3 (.bl bb) h3 ((x1.trans x2).trans x3) S3 q⟩
    · cases h
  | ite cc a b =>
    unfold ckE at h
    split at h
    · simp only [Bool.and_eq_true] at h
      obtain ⟨⟨h1, h2⟩, h3⟩ := h
      have i1 := sndE cc c h1
      have i2 := sndE a c h2
      have i3 := sndE b c h3
      refine ⟨pe_imp (pe_ifExp i1.2 i2.1 i3.1) fun σ H Q ⟨m, en, hh, Q', Xx, S, E, xp, w, p⟩ => ?_, pt_imp (pt_ifExp i1.2 i2.2 i3.2) fun σ H Q ⟨m, en, hh, Q', Xx, S, E, xp, w, p⟩ => ?_⟩
      · unfold wpE at w
        refine ⟨m, en, hh, _, Xx, S, E, xp, w, fun m' H' d h' x S' q => tru_imp q fun bb q => ?_⟩
        cases bb with
        | true => exact ⟨m', en, h', Q', Xx, S', E.mono x, xp.mono x, q, p.mono x⟩
        | false => exact ⟨m', en, h', Q', Xx, S', E.mono x, xp.mono x, q, p.mono x⟩
      · unfold wpE at w
        refine ⟨m, en, hh, _, Xx, S, E, xp, w, fun m' H' d h' x S' q => tru_imp q fun bb q => ?_⟩
        cases bb with
        | true => exact ⟨m', en, h', Q', Xx, S', E.mono x, xp.mono x, q, fun m2 H2 b2 h2 x2 => p m2 H2 b2 h2 (x.trans x2)⟩
        | false => exact ⟨m', en, h', Q', Xx, S', E.mono x, xp.mono x, q, fun m2 H2 b2 h2 x2 => p m2 H2 b2 h2 (x.trans x2)⟩
    · cases h
  | tup es =>
    unfold ckE at h
    split at h
    · refine both ?_ fun _ => rfl
      exact pe_imp (pe_tup (sndA es c h)) fun σ H Q ⟨m, en, hh, Q', Xx, S, E, xp, w, p⟩ => by
        unfold wpE at w
        exact ⟨m, en, hh, _, Xx, S, E, xp, w, fun m' vs H' ds h' x S' rs q => ⟨by rw [rs.len]; exact lim _ q.1, fun pa hpa => (p.mono x).newt S' rs hpa q.2⟩⟩
    · cases h
  | lst es =>
    unfold ckE at h
    split at h
    · refine both ?_ fun _ => rfl
      exact pe_imp (pe_lst (sndA es c h)) fun σ H Q ⟨m, en, hh, Q', Xx, S, E, xp, w, p⟩ => by
        unfold wpE at w
        exact ⟨m, en, hh, _, Xx, S, E, xp, w, fun m' vs H' ds h' x S' rs q => ⟨by rw [rs.len]; exact lim _ q.1, fun pa hpa => (p.mono x).newl S' rs hpa q.2⟩⟩
    · cases h
  | dct kvs =>
    unfold ckE at h
    split at h
    · rename_i keys values pos
      simp only [Bool.and_eq_true] at h
      obtain ⟨h1, h2⟩ := h
      obtain ⟨d1, d2, d3, d4⟩ := sndD kvs pos c h1
      refine both ?_ fun _ => rfl
      cases keys with
      | nil =>
        obtain rfl : values = [] := List.length_eq_zero_iff.mp d3.symm
        obtain rfl : kvs = .nil := by
          cases kvs with
          | nil => rfl
          | cons a r => cases r with
            | nil => unfold ckD at h1; cases h1
            | cons b r => unfold ckD at h1; cases h1
        exact pe_imp pe_dnewK fun σ H Q ⟨m, en, hh, Q', Xx, S, E, xp, w, p⟩ => by
          unfold wpE wpEs at w
          intro p0 hp0
          obtain ⟨g2, ps, e1, l1, q⟩ := w
          cases e1
          have x0 : Ext X.K H m (upd H p0 (.dK [])) (m ++ [p0]) := Ext.new hp0 _
          have S0 : Sm X.K ca (upd H p0 (.dK [])) (m ++ [p0]) (hh ++ [.dK []]) := S.new (o := .dK []) hp0 ⟨[], upd_same, .nil⟩
          have e2 : (hh ++ [O.dK []]).set hh.length (.dK (mergeD [] [])) = hh ++ [.dK []] := by
            rw [List.set_append_right _ _ (Nat.le_refl _), Nat.sub_self]; rfl
          rw [e2] at q
          exact p _ (.ref p0) _ (.ref hh.length) _ x0 S0 (.ref (by rw [← S.len]; simp)) q
      | cons k0 ks =>
        exact pe_imp (pe_disp d1 d2 d3 (by simp) (of_decide_eq_true h2)) fun σ H Q ⟨m, en, hh, Q', Xx, S, E, xp, w, p⟩ => by
          unfold wpE at w
          exact disp_ok xp d4 S E w p
    · cases h
  | tab x i =>
    unfold ckE at h
    split at h
    · simp only [Bool.and_eq_true, Bool.not_eq_true'] at h
      obtain ⟨⟨⟨⟨h1, h2⟩, h3⟩, h4⟩, h5⟩ := h
      have ex := of_decide_eq_true h1
      subst ex
      refine both ?_ fun _ => rfl
      by_cases hd : ∃ kvs, T.tds.lookup x = some kvs
      · obtain ⟨kvs, hd⟩ := hd
        obtain ⟨a, hm, ta⟩ := c.tds x kvs hd
        exact pe_imp (pe_ix ix_kdict (pe_glob (v := .ref a) (c.gl h2) hm rfl h3) (sndE i c h5).1 (ix_plain _ h4)) fun σ H Q ⟨m, en, hh, Q', Xx, S, E, xp, w, p⟩ => by
          unfold wpE at w
          obtain ⟨kvs', e2, w⟩ := w
          have : some kvs = some kvs' := hd.symm.trans e2
          cases this
          refine sub1 S E xp w fun m1 v1 H1 d1 h1 x1 S1 r1 w1 => ?_
          obtain ⟨z, v, e1, e3, q⟩ := w1
          subst e1
          cases r1
          obtain ⟨es, n, r, D, e4, e5⟩ := ta.ns z
          rw [e3] at e5
          obtain ⟨u, v0, e6, e7, e8⟩ := e5
          subst e6
          exact ⟨a, z, v0, rfl, rfl, ⟨es, n, u, D.at_, D.lit, e4, e7⟩, (p.mono x1).same S1 (e8 _ _) q⟩
      · exact ⟨fun pins s σ H Q I ⟨m, en, hh, Q', Xx, S, E, xp, w, p⟩ => by
          unfold wpE at w
          obtain ⟨kvs', e2, w⟩ := w
          exact absurd ⟨kvs', e2⟩ hd⟩
    · cases h
  | tabG x i d =>
    unfold ckE at h
    split at h
    · rename_i y py n ap eu ev cp
      simp only [Bool.and_eq_true, Bool.not_eq_true'] at h
      obtain ⟨⟨⟨⟨⟨⟨⟨⟨h1, h2⟩, h3⟩, h4⟩, h5⟩, h6⟩, h7⟩, h8⟩, h9⟩ := h
      have ex := of_decide_eq_true h1
      subst ex
      have en := of_decide_eq_true h4
      subst en
      refine both ?_ fun _ => rfl
      have hn : ∀ z ∈ [eu, ev], nst z = true := by
        intro z hz
        simp only [List.mem_cons, List.not_mem_nil, or_false] at hz
        rcases hz with rfl | rfl
        · exact h6
        · exact h7
      by_cases hd : ∃ kvs, T.tds.lookup x = some kvs
      · obtain ⟨kvs, hd⟩ := hd
        obtain ⟨a, hm, ta⟩ := c.tds x kvs hd
        obtain ⟨es, n, D, _⟩ := id ta
        have m2 : M2 X (.Name x py) "get" ap eu ev cp := ⟨base_ok _ _ _ _ rfl, few_ok cp X.env _ hn (by simp), h5, by
          show backTo cp (starEach [eu, ev] X.env) = _
          rw [star_cons _ _ _ h6, star_cons _ _ _ h7]; rfl⟩
        exact pe_imp (pe_tget D (pe_glob (v := .ref a) (c.gl h2) hm rfl h3) (sndE i c h8).1 (sndE d c h9).1 m2) fun σ H Q ⟨m, en, hh, Q', Xx, S, E, xp, w, p⟩ => by
          unfold wpE at w
          obtain ⟨kvs', e2, w⟩ := w
          have : some kvs = some kvs' := hd.symm.trans e2
          cases this
          refine sub1 S E xp w fun m1 v1 H1 d1 h1 x1 S1 r1 w1 => sub1 S1 (E.mono x1) (xp.mono x1) w1 fun m2 v2 H2 d2 h2 x2 S2 r2 w2 => ?_
          obtain ⟨z, e1, q⟩ := w2
          subst e1
          cases r1
          obtain ⟨_, _, r, _, e4, e5⟩ := ta.ns z
          cases hl : kvs.lookup z with
          | none =>
            rw [hl] at e5 q
            subst e5
            exact ⟨z, none, v2, rfl, e4, rfl, (p.mono (x1.trans x2)).same S2 r2 q⟩
          | some dd =>
            rw [hl] at e5 q
            obtain ⟨u, v0, e6, e7, e8⟩ := e5
            subst e6
            exact ⟨z, some u, v0, rfl, e4, e7, (p.mono (x1.trans x2)).same S2 (e8 _ _) q⟩
      · exact ⟨fun pins s σ H Q I ⟨m, en, hh, Q', Xx, S, E, xp, w, p⟩ => by
          unfold wpE at w
          obtain ⟨kvs', e2, w⟩ := w
          exact absurd ⟨kvs', e2⟩ hd⟩
    · cases h
  | tabIn neg x i =>
    unfold ckE at h
    split at h
    · simp only [Bool.and_eq_true, Bool.not_eq_true'] at h
      obtain ⟨⟨⟨⟨h1, h2⟩, h3⟩, h4⟩, h5⟩ := h
      have ex := of_decide_eq_true h1
      subst ex
      have eo := of_decide_eq_true h4
      subst eo
      by_cases hd : ∃ kvs, T.tds.lookup x = some kvs
      · obtain ⟨kvs, hd⟩ := hd
        obtain ⟨a, hm, ta⟩ := c.tds x kvs hd
        obtain ⟨es, n, D, _⟩ := id ta
        have hop : OpR X (compareOp (if neg = true then CmpOp.NotIn else CmpOp.In)) (fun x y H Q => ∃ (z : Str) (r : Option Value), x = .str z ∧ y = .ref a ∧ PySem.W.nsIn X.K a z = some r ∧ Q (.bl (if neg = true then !r.isSome else r.isSome)) H) := by
          cases neg with
          | true => exact op_notIn_kd D
          | false => exact op_in_kd D
        have key : ∀ {Q2 : VK} {m1 : List Addr} {v1 : V} {H1 : Hp} {d1 : Bp.D} {h1 : Hh} {Q' : Qd}, Sm X.K ca H1 m1 h1 → R X.K H1 m1 v1 d1 → (∃ z, d1 = .str z ∧ Q' (.bl (if neg = true then !(kvs.lookup z).isSome else (kvs.lookup z).isSome)) h1) → (∀ b, Q' (.bl b) h1 → Q2 (.bl b) H1) →
            ∃ (z : Str) (r : Option Value), v1 = .str z ∧ V.ref a = .ref a ∧ PySem.W.nsIn X.K a z = some r ∧ Q2 (.bl (if neg = true then !r.isSome else r.isSome)) H1 := by
          rintro Q2 m1 v1 H1 d1 h1 Q' S1 r1 ⟨z, e1, q⟩ pp
          subst e1
          cases r1
          obtain ⟨_, _, r, _, e4, e5⟩ := ta.ns z
          refine ⟨z, r, rfl, rfl, e4, ?_⟩
          have er : r.isSome = (kvs.lookup z).isSome := by
            cases hl : kvs.lookup z with
            | none => rw [hl] at e5; subst e5; rfl
            | some dd => rw [hl] at e5; obtain ⟨u, v0, e6, _⟩ := e5; subst e6; rfl
          rw [er]
          exact pp _ q
        refine ⟨pe_imp (pe_cmpR hop (sndE i c h5).1 (pe_glob (v := .ref a) (c.gl h2) hm rfl h3) (by cases neg <;> rfl)) fun σ H Q ⟨m, en, hh, Q', Xx, S, E, xp, w, p⟩ => ?_, pt_imp (pt_cmpR hop (sndE i c h5).1 (pe_glob (v := .ref a) (c.gl h2) hm rfl h3) (by cases neg <;> rfl)) fun σ H Q ⟨m, en, hh, Q', Xx, S, E, xp, w, p⟩ => ?_⟩
        · unfold wpE at w
          obtain ⟨kvs', e2, w⟩ := w
          have : some kvs = some kvs' := hd.symm.trans e2
          cases this
          exact sub1 S E xp w fun m1 v1 H1 d1 h1 x1 S1 r1 w1 => key S1 r1 w1 fun b q => (p.mono x1).same S1 (.bl b) q
        · unfold wpE at w
          obtain ⟨kvs', e2, w⟩ := w
          have : some kvs = some kvs' := hd.symm.trans e2
          cases this
          exact sub1 S E xp w fun m1 v1 H1 d1 h1 x1 S1 r1 w1 => key (Q2 := fun x H' => ∃ k, x = V.bl k ∧ Q k H') (Q' := Q') S1 r1 w1 fun b q => ⟨b, rfl, p m1 H1 (.bl b) h1 x1 S1 q⟩
      · refine ⟨⟨fun pins s σ H Q I ⟨m, en, hh, Q', Xx, S, E, xp, w, p⟩ => ?_⟩, ⟨fun pins s σ H Q I ⟨m, en, hh, Q', Xx, S, E, xp, w, p⟩ => ?_⟩⟩
        all_goals
          unfold wpE at w
          obtain ⟨kvs', e2, w⟩ := w
          exact absurd ⟨kvs', e2⟩ hd
    · cases h
  | idx a i =>
    unfold ckE at h
    split at h
    · simp only [Bool.and_eq_true] at h
      obtain ⟨⟨h1, h2⟩, h3⟩ := h
      refine both ?_ fun _ => rfl
      exact pe_imp (pe_ix (ix_any (by have := c.units; omega)) (sndE a c h2).1 (sndE i c h3).1 (ix_plain _ h1)) fun σ H Q ⟨m, en, hh, Q', Xx, S, E, xp, w, p⟩ => by
        unfold wpE at w
        exact sub1 S E xp w fun m1 v1 H1 d1 h1 x1 S1 r1 w1 => sub1 S1 (E.mono x1) (xp.mono x1) w1 fun m2 v2 H2 d2 h2 x2 S2 r2 w2 => idx_ok S2 (r1.mono x2) r2 w2 (p.mono (x1.trans x2))
    · cases h
  | sli a lo hi =>
    unfold ckE at h
    split at h
    · simp only [Bool.and_eq_true] at h
      obtain ⟨⟨h1, h2⟩, h3⟩ := h
      refine both ?_ fun _ => rfl
      exact pe_imp (pe_slice sl_any (sndE a c h1).1 (sndO lo c h2) (sndO hi c h3)) fun σ H Q ⟨m, en, hh, Q', Xx, S, E, xp, w, p⟩ => by
        unfold wpE at w
        exact sub1 S E xp w fun m1 v1 H1 d1 h1 x1 S1 r1 w1 => ⟨m1, en, h1, _, Xx, S1, E.mono x1, xp.mono x1, w1, fun m2 H2 o2 h2 x2 S2 w2 => ⟨m2, en, h2, _, Xx, S2, E.mono (x1.trans x2), xp.mono (x1.trans x2), w2, fun m3 H3 o3 h3 x3 S3 w3 =>
          sli_ok S3 (r1.mono (x2.trans x3)) w3 (p.mono ((x1.trans x2).trans x3))⟩⟩
    · cases h
  | rev a =>
    unfold ckE at h
    split at h
    · refine both ?_ fun _ => rfl
      exact pe_imp (pe_revL (sndE a c h).1) fun σ H Q ⟨m, en, hh, Q', Xx, S, E, xp, w, p⟩ => by
        unfold wpE at w
        exact sub1 S E xp w fun m1 v1 H1 d1 h1 x1 S1 r1 w1 => by
          unfold wRev at w1
          split at w1
          · obtain ⟨ds, e1, q⟩ := w1
            cases r1 with
            | ref z =>
              obtain ⟨vs, e2, r2⟩ := S1.lstAt e1 z
              exact ⟨_, vs, rfl, SqL.of e2, fun pa hpa => (p.mono x1).newl S1 r2.reverse hpa q⟩
          · exact w1.elim
    · cases h
  | call f es =>
    unfold ckE at h
    split at h
    · simp only [Bool.and_eq_true, Bool.not_eq_true'] at h
      obtain ⟨⟨⟨h1, h2⟩, h3⟩, h4⟩ := h
      have ex := of_decide_eq_true h1
      subst ex
      rename_i xs pos
      have hn := ck_nst xs es h4
      have ia := sndA es c h4
      refine both ?_ fun _ => rfl
      ·
        by_cases hf : ∃ F, T.fn f = some F
        · obtain ⟨F, hf⟩ := hf
          obtain ⟨fa, fd, hm, hk, hb, ok⟩ := c.fs f F hf
          have fin : ∀ (σ : L2.St) (H : Hp) (Q : VK), tE (cnOf T k) X.K ca (.call f es) σ H Q → (tA (cnOf T k) X.K ca es) σ H fun ws H1 => spF X.K ca.ca T k f ws H1 Q (WE ca.W σ) := by
            rintro σ H Q ⟨m, en, hh, Q', Xx, S, E, xp, w, p⟩
            unfold wpE at w
            refine ⟨m, en, hh, _, Xx, S, E, xp, w.2, fun m' vs H' ds h' x S' rs q => ?_⟩
            exact ⟨F, m', h', ds, Q', Xx, T.fn_df hf, by rw [rs.len]; exact fs_len (T.fn_df hf) q, S'.here, rs, (xp.mono x).xe S' (E.mono x), q, (p.mono x).here S'⟩
          cases xs with
          | nil =>
            refine pe_imp (pe_callG0 ok c.gd (c.room.mono (by omega)) (c.gl h2) hm hk hb (fun σ => L2N.passAt c.tk σ) h3) ?_
            intro σ H Q q
            obtain ⟨m, en, hh, Q', Xx, S, E, xp, w, p⟩ := fin σ H Q q
            cases es with
            | nil => unfold wpEs at w; exact p m [] H [] hh Ext.refl S .nil w
            | cons _ _ => unfold ckEs at h4; cases h4
          | cons y ys =>
            exact pe_imp (pe_callG ok c.gd (c.room.mono (by omega)) (c.gl h2) hm hk hb (fun σ => L2N.passAt c.tk σ) ia h3 (star_cons _ _ _ (hn y List.mem_cons_self)) (star_any _ _ ys fun z hz => hn z (List.mem_cons_of_mem _ hz))) fin
        · refine ⟨fun pins s σ H Q I ⟨m, en, hh, Q', Xx, S, E, xp, w, p⟩ => ?_⟩
          unfold wpE at w
          obtain ⟨F, hF⟩ := Option.isSome_iff_exists.mp w.1
          exact absurd ⟨F, hF⟩ hf
    · cases h
  | bi b es =>
    unfold ckE at h
    split at h
    · simp only [Bool.and_eq_true] at h
      obtain ⟨⟨h1, h2⟩, h4⟩ := h
      have ex := of_decide_eq_true h1
      subst ex
      rename_i y xs pos
      have hn := ck_nst (y :: xs) es h4
      refine both ?_ fun _ => rfl
      ·
        have fin : ∀ (σ : L2.St) (H : Hp) (Q : VK), tE (cnOf T k) X.K ca (.bi b es) σ H Q → tCB (rBi X.K b) (tA (cnOf T k) X.K ca es) σ H Q := by
          rintro σ H Q ⟨m, en, hh, Q', Xx, S, E, xp, w, p⟩
          unfold wpE at w
          exact ⟨m, en, hh, _, Xx, S, E, xp, w, fun m' vs H' ds h' x S' rs q => bi_ok b S' rs q (p.mono x)⟩
        have hb := bi_boot b
        have hc := call_bi c.calm c.gd c.units70 b
        have e1 := star_cons y xs X.env (hn y List.mem_cons_self)
        have e2 := star_any pos X.env xs fun z hz => hn z (List.mem_cons_of_mem _ hz)
        have n1 : biN b ≠ "__name__" := by cases b <;> decide
        have n2 : (biN b == ("__debug__" : Str)) = false := by cases b <;> decide
        cases hv : biV b with
        | inl s =>
          rw [hv] at hb hc
          exact pe_imp (pe_callB hc (c.gl h2) (blt_ok c b) hb (sndA es c h4) n1 n2 e1 e2) fin
        | inr s =>
          rw [hv] at hb hc
          exact pe_imp (pe_callTy hc (c.gl h2) (blt_ok c b) hb (sndA es c h4) n1 n2 e1 e2) fin
    · cases h
  | rng kk a b =>
    unfold ckE at h
    split at h
    · simp only [Bool.and_eq_true] at h
      obtain ⟨⟨⟨⟨h1, h2⟩, h3⟩, h4⟩, h5⟩ := h
      have ex := of_decide_eq_true h1
      subst ex
      have ex := of_decide_eq_true h3
      subst ex
      rename_i ys yp pos
      have mr : X.mg "range" = none := c.blt _ (by decide)
      have ml : X.mg "list" = none := c.blt _ (by decide)
      have mt : X.mg "tuple" = none := c.blt _ (by decide)
      have hr : ∀ p0, PRg X (.Call (.Name "range" p0) ys [] yp) (fun σ H Q => tE (cnOf T k) X.K ca a σ H fun x H1 => tE (cnOf T k) X.K ca b σ H1 fun y H2 => ∃ i j, x = .int i ∧ y = .int j ∧ Q i j H2) := by
        split at h5
        · simp only [Bool.and_eq_true] at h5
          intro p0 pins s σ H Q I hq
          refine prg_1 (c.gl h4) mr (sndE b c h5.2).1 (star_cons _ _ _ h5.1) pins s σ H Q I ?_
          obtain ⟨m, en, hh, Q', Xx, S, E, xp, w, p⟩ := hq
          unfold wpE at w
          obtain ⟨m1, en1, hh1, Q1, Xx1, S1, E1, xp1, w1, p1⟩ := p.same S (.int 0) w
          refine ⟨m1, en1, hh1, Q1, Xx1, S1, E1, xp1, w1, fun m' v H' d h' x S' r q => ?_⟩
          obtain ⟨i, j, e1, e2, q⟩ := p1 m' v H' d h' x S' r q
          cases e1
          exact ⟨j, e2, q⟩
        · simp only [Bool.and_eq_true] at h5
          obtain ⟨⟨⟨n1, n2⟩, k1⟩, k2⟩ := h5
          intro p0
          exact prg_2 (c.gl h4) mr (sndE a c k1).1 (sndE b c k2).1 (star_cons _ _ _ n1) (star_cons _ _ _ n2) (star_any _ _ _ fun z hz => by rw [List.mem_singleton.mp hz]; exact n2)
        · cases h5
      have fin : ∀ (G : Int → Int → Hp → Prop) (σ : L2.St) (H : Hp) (Q : VK), (∀ i j m h H' Q', Sm X.K ca H' m h → Post X.K ca H' m Q' Q → (-1000000 ≤ i ∧ i ≤ 1000000 ∧ -1000000 ≤ j ∧ j ≤ 1000000) → (if kk = true then Q' (.tup ((List.range (j - i).toNat).map fun n : Nat => D.int (i + n))) h else Q' (.ref h.length) (h ++ [.lst ((List.range (j - i).toNat).map fun n : Nat => D.int (i + n))])) → G i j H') →
          tE (cnOf T k) X.K ca (.rng kk a b) σ H Q → tE (cnOf T k) X.K ca a σ H fun x H1 => tE (cnOf T k) X.K ca b σ H1 fun y H2 => ∃ i j, x = .int i ∧ y = .int j ∧ G i j H2 := by
        rintro G σ H Q hG ⟨m, en, hh, Q', Xx, S, E, xp, w, p⟩
        unfold wpE at w
        refine sub1 S E xp w fun m1 v1 H1 d1 h1 x1 S1 r1 w1 => sub1 S1 (E.mono x1) (xp.mono x1) w1 fun m2 v2 H2 d2 h2 x2 S2 r2 w2 => ?_
        obtain ⟨i, j, rfl, rfl, hb, q⟩ := w2
        cases r1; cases r2
        exact ⟨i, j, rfl, rfl, hG i j m2 h2 H2 Q' S2 (p.mono (x1.trans x2)) hb q⟩
      refine both ?_ fun _ => rfl
      cases kk with
      | true =>
        refine pe_imp (pe_tupRg c.calm (c.gl h2) mt (hr _) (star_cons _ _ _ rfl)) fun σ H Q q => fin _ σ H Q (fun i j m h H' Q' S p hb q => ⟨⟨by omega, by omega, by omega, by omega, by omega⟩, fun pa hpa => p.newt S (Rs.nats (fun n => i + n) _) hpa q⟩) q
      | false =>
        refine pe_imp (pe_listRg c.calm (c.gl h2) ml (hr _) (star_cons _ _ _ rfl)) fun σ H Q q => fin _ σ H Q (fun i j m h H' Q' S p hb q => ⟨⟨by omega, by omega, by omega, by omega, by omega⟩, fun pa hpa => p.newl S (Rs.nats (fun n => i + n) _) hpa q⟩) q
    · cases h
  | mt m o es =>
    unfold ckE at h
    split at h
    · simp only [Bool.and_eq_true, Bool.not_eq_true'] at h
      obtain ⟨⟨⟨⟨⟨⟨h1, h0⟩, h2⟩, h3⟩, h4⟩, h5⟩, h6⟩ := h
      have ex := of_decide_eq_true h1
      subst ex
      rename_i x ap xs cp
      have hn := ck_nst xs es h6
      have hl := of_decide_eq_true h2
      refine both ?_ fun _ => rfl
      ·
        cases xs with
        | nil =>
          refine pe_imp (pe_mt0 hl h3 h4 (sndE o c h5).1) fun σ H Q ⟨mm, en, hh, Q', Xx, S, E, xp, w, p⟩ => ?_
          unfold wpE at w
          refine sub1 S E xp w fun m1 v1 H1 d1 h1 x1 S1 r1 w1 => ⟨ty_ok m S1 r1 w1.1, ?_⟩
          cases es with
          | nil => exact mt_ok m S1 r1 .nil w1.2 (p.mono x1)
          | cons _ _ => unfold ckEs at h6; cases h6
        | cons y ys =>
          refine pe_imp (pe_mt (by have := c.units; omega) (fun z => by cases z) (of_decide_eq_true h0) hl hn h3 h4 (sndE o c h5).1 (sndA es c h6)) fun σ H Q ⟨mm, en, hh, Q', Xx, S, E, xp, w, p⟩ => ?_
          unfold wpE at w
          exact sub1 S E xp w fun m1 v1 H1 d1 h1 x1 S1 r1 w1 => ⟨ty_ok m S1 r1 w1.1, m1, en, h1, _, Xx, S1, E.mono x1, xp.mono x1, w1.2, fun m2 vs H2 ds h2 x2 S2 rs q => mt_ok m S2 (r1.mono x2) rs q (p.mono (x1.trans x2))⟩
    · cases h
  | isi a ts =>
    unfold ckE at h
    split at h
    · simp only [Bool.and_eq_true] at h
      obtain ⟨⟨⟨⟨⟨h1, h2⟩, h3⟩, h4⟩, h5⟩, h6⟩ := h
      have ex := of_decide_eq_true h1
      subst ex
      have mi : X.mg "isinstance" = none := c.blt _ (by decide)
      refine both ?_ fun _ => rfl
      split at h6
      · rename_i xs _ _
        rw [Bool.and_eq_true] at h6
        have hts := ckTys_ok c ts xs h6.1
        refine pe_imp (pe_callB call_isiT (c.gl h2) mi PyProof.Rows.boot_isinstance (pa_cons (sndE a c h5).1 (pa_cons (pe_tup hts.1) pa_nil (star_cons _ _ _ h4)) (star_cons _ _ _ h3)) (by decide) (by decide) (star_cons _ _ _ h3) (star_any _ _ _ fun z hz => by rw [List.mem_singleton.mp hz]; exact h4)) fun σ H Q ⟨m, en, hh, Q', Xx, S, E, xp, w, p⟩ => ?_
        unfold wpE at w
        refine sub1 S E xp w fun m1 v1 H1 d1 h1 x1 S1 r1 w1 => ?_
        obtain ⟨t, et, q⟩ := w1
        refine ⟨lim _ ?_, fun pa hpa => ⟨v1, pa, _, _, _, _, rfl, upd_same, clss_ok ts, tyx_new hpa (tyx_ok S1 r1 et), kits_all t ts hts.2.1, ?_⟩⟩
        · rw [List.length_map]; exact of_decide_eq_true h6.2
        · exact p m1 _ _ (.bl _) h1 (x1.trans (Ext.new0 hpa)) (S1.newt hpa) (.bl _) q
      · split at h6
        · rename_i z
          have hz := ckTy_ok c z _ h6
          refine pe_imp (pe_callB call_isi (c.gl h2) mi PyProof.Rows.boot_isinstance (pa_cons (sndE a c h5).1 (pa_cons hz.1 pa_nil (star_cons _ _ _ h4)) (star_cons _ _ _ h3)) (by decide) (by decide) (star_cons _ _ _ h3) (star_any _ _ _ fun z hz => by rw [List.mem_singleton.mp hz]; exact h4)) fun σ H Q ⟨m, en, hh, Q', Xx, S, E, xp, w, p⟩ => ?_
          unfold wpE at w
          refine sub1 S E xp w fun m1 v1 H1 d1 h1 x1 S1 r1 w1 => ?_
          obtain ⟨t, et, q⟩ := w1
          refine ⟨v1, _, _, _, isT t z, rfl, .ty _, tyx_ok S1 r1 et, kit_ty (kit_all t z hz.2), ?_⟩
          have e1 : ([z].any (isT t)) = isT t z := by simp
          rw [e1] at q
          exact (p.mono x1).same S1 (.bl _) q
        · cases h6
      · cases h6
    · cases h
  | comp elt t it cc own =>
    unfold ckE at h
    split at h
    · simp only [Bool.and_eq_true] at h
      obtain ⟨⟨⟨⟨⟨⟨h1, h2⟩, h3⟩, h4⟩, h5⟩, h6⟩, h7⟩ := h
      rename_i x tg iter ifs scope pos
      have ii := sndI it c h3
      have ig := fun s H C cl fp => sndG t (c.blk s H scope C cl fp) h4
      have ie := fun s H C cl fp => (sndE elt (c.blk s H scope C cl fp) h7).1
      have ic : ∀ (s : Shared) (H : Hp) (C : Addr) (cl : List (Str × Addr)) (fp : List Addr), PTs (X.blk s H scope (compEnvC scope cl C X.env) fp) ifs (tC' (cnOf T k) X.K ca.no cc) := by
        intro s H C cl fp
        split at h6
        · exact ⟨fun pins s σ H Q I ⟨m, en, hh, Q', Xx, S, E, xp, w, p⟩ => pts_nil.run pins s σ H Q I (p m H true hh Ext.refl S (by unfold wpC at w; exact w))⟩
        · rename_i a f
          exact ⟨fun pins s σ H Q I ⟨m, en, hh, Q', Xx, S, E, xp, w, p⟩ => (pts_one (sndE a (c.blk _ _ scope C cl fp) h6).2).run pins s σ H Q I ⟨m, en, hh, _, Xx, S, E, xp, (by unfold wpC at w; exact w), fun m' H' d h' x S' q => tru_imp q fun b q => p m' H' b h' x S' q⟩⟩
        · cases h6
      refine both ?_ fun _ => rfl
      refine pe_imp (pe_lc c.calm c.hnd ii (blkOk_by (by rw [c.hN, c.hsc]; exact h1)) ig ic ie fun v => nset_fold iter X.env v h2) fun σ H Q q => lc_sound (all_mem h5) q
    · cases h
  | fld o f =>
    unfold ckE at h
    split at h
    · simp only [Bool.and_eq_true, Bool.not_eq_true'] at h
      obtain ⟨⟨h1, h2⟩, h3⟩ := h
      have ex := of_decide_eq_true h1
      subst ex
      refine both ?_ fun _ => rfl
      refine pe_imp (pe_fld (sndE o c h3).1 (base_ok _ _ _ _ h2)) fun σ H Q ⟨m, en, hh, Q', Xx, S, E, xp, w, p⟩ => ?_
      unfold wpE at w
      refine sub1 S E xp w fun m1 v1 H1 d1 h1 x1 S1 r1 w1 => ?_
      obtain ⟨n, c', fs, v, rfl, e1, e2, e3, q⟩ := w1
      cases r1 with
      | ref z =>
        obtain ⟨C, dx, vf, e4, e5, rk⟩ := S1.obj n _ _ z e1
        obtain ⟨k1, k2⟩ := c.cfl c' _ C e2 e5
        obtain ⟨v', l', rv⟩ := (show Ro X.K H1 m1 _ (some v) from e3 ▸ rk.look).inv
        exact ⟨_, C, dx, vf, v', rfl, e4, k1, k2, l', (p.mono x1).same S1 rv q⟩
    · cases h
  | meth o mn es =>
    unfold ckE at h
    split at h
    · simp only [Bool.and_eq_true, Bool.not_eq_true'] at h
      obtain ⟨⟨⟨⟨⟨h1, h0⟩, h3⟩, h4⟩, h5⟩, h6⟩ := h
      have ex := of_decide_eq_true h1
      subst ex
      rename_i x n0 ap xs cp
      have hn := ck_nst xs es h6
      have io := (sndE o c h5).1
      have ia := sndA es c h6
      have fin : ∀ t : TA, (∀ σ H Q, tA (cnOf T k) X.K ca es σ H Q → t σ H Q) → ∀ (σ : L2.St) (H : Hp) (Q : VK), tE (cnOf T k) X.K ca (.meth o n0 es) σ H Q → tMethG X (L2N.CX X.prog X.w) (k + 2) n0 (WE ca.W) (tE (cnOf T k) X.K ca o) t σ H Q := by
        rintro t ht σ H Q ⟨m, en, hh, Q', Xx, S, E, xp, w, p⟩
        unfold wpE at w
        refine sub1 S E xp w fun m1 v1 H1 d1 h1 x1 S1 r1 w1 => ?_
        obtain ⟨n, c', fs, g, rfl, e1, e2, e3, q⟩ := w1
        cases r1 with
        | ref z =>
          obtain ⟨C, dx, vf, e4, e5, rk⟩ := S1.obj n _ _ z e1
          obtain ⟨fa, fd, F, k1, k2, k3, k4, k5, _⟩ := c.cms c' _ g C e2 e5
          refine ⟨_, C, dx, vf, fa, fd, F.ps, _, rfl, e4, (show Ro X.K H1 m1 _ none from e3 ▸ rk.look).invN, k1, k2, k5, k4, ht _ _ _ ?_⟩
          refine ⟨m1, en, h1, _, Xx, S1, E.mono x1, xp.mono x1, q, fun m2 vs H2 ds h2 x2 S2 rs q2 => ?_⟩
          refine ⟨F, m2, h2, .ref n :: ds, Q', Xx, k3, ?_, S2.here, .cons (.ref (x2.pre _ _ z)) rs, (xp.mono (x1.trans x2)).xe S2 (E.mono (x1.trans x2)), q2, (p.mono (x1.trans x2)).here S2⟩
          have := fs_len k3 q2
          rw [List.length_cons] at this ⊢
          rw [rs.len]; exact this
      refine both ?_ fun _ => rfl
      cases xs with
      | nil =>
        refine pe_imp (pe_methG0 io c.gd (c.room.mono (by omega)) (fun σ => L2N.passAt c.tk σ) (base_ok _ _ _ _ h3) h4) (fin tNil fun σ H Q ⟨m, en, hh, Q', Xx, S, E, xp, w, p⟩ => ?_)
        cases es with
        | nil => unfold wpEs at w; exact p m [] H [] hh Ext.refl S .nil w
        | cons _ _ => unfold ckEs at h6; cases h6
      | cons y ys =>
        exact pe_imp (pe_methG io c.gd (c.room.mono (by omega)) (fun σ => L2N.passAt c.tk σ) ia (base_ok _ _ _ _ h3) (few_ok cp X.env _ hn (of_decide_eq_true h0)) h4 (star_cons _ _ _ (hn y List.mem_cons_self)) (star_any _ _ ys fun z hz => hn z (List.mem_cons_of_mem _ hz))) (fin _ fun _ _ _ q => q)
    · cases h
  | make cn es =>
    unfold ckE at h
    split at h
    · simp only [Bool.and_eq_true, Bool.not_eq_true'] at h
      obtain ⟨⟨⟨h1, h2⟩, h3⟩, h4⟩ := h
      have ex := of_decide_eq_true h1
      subst ex
      rename_i xs pos
      have hn := ck_nst xs es h4
      have ia := sndA es c h4
      refine both ?_ fun _ => rfl
      by_cases hg : ∃ g, T.mtk cn "__init__" = some g
      · obtain ⟨g, hg⟩ := hg
        obtain ⟨C, fa, fd, F, k0, k1, k2, k3, k4, k5⟩ := c.cmk cn g hg
        have fin : ∀ t : TA, (∀ σ H Q, tA (cnOf T k) X.K ca es σ H Q → t σ H Q) → ∀ (σ : L2.St) (H : Hp) (Q : VK), tE (cnOf T k) X.K ca (.make cn es) σ H Q → tMakeS C (spF X.K ca.ca T k g) [] (WE ca.W) t σ H Q := by
          rintro t ht σ H Q ⟨m, en, hh, Q', Xx, S, E, xp, w, p⟩
          unfold wpE at w
          obtain ⟨g', eg, w⟩ := w
          have eg' : some g = some g' := hg.symm.trans eg
          cases eg'
          refine ht _ _ _ ⟨m, en, hh, _, Xx, S, E, xp, w, fun m1 vs H1 ds h1 x1 S1 rs q => ?_⟩
          intro x dx hx hdx ne
          rw [List.append_nil]
          have S2 := S1.newx (ho := .own x) hdx
          have hx2 : upd H1 dx (.own x) x = none := by rw [upd_ne (Ne.symm ne)]; exact hx
          have ext : Ext X.K H1 m1 (upd (upd H1 dx (.own x)) x (.ins C dx [])) (m1 ++ [x]) := (Ext.new0 hdx).trans (Ext.new hx2 [x])
          have S3 := S2.new (ho := .ins C dx []) (o := .ins cn []) hx2 ⟨C, dx, [], upd_same, k0, .nil⟩
          have at_ : (m1 ++ [x])[h1.length]? = some x := by rw [← S1.len]; simp
          have q' : FS T k g (D.ref h1.length :: ds) (h1 ++ [O.ins cn []]) (fun r h2 => r = D.non ∧ Q' (D.ref h1.length) h2) Xx := q
          refine ⟨F, m1 ++ [x], h1 ++ [O.ins cn []], D.ref h1.length :: ds, fun r h2 => r = D.non ∧ Q' (D.ref h1.length) h2, Xx, k3, ?_, S3.here, .cons (.ref at_) (rs.mono ext), (xp.mono (x1.trans ext)).xe S3 (E.mono (x1.trans ext)), q', ?_⟩
          · have := fs_len k3 q
            rw [List.length_cons] at this ⊢
            rw [rs.len]; exact this
          · rintro m' v H' d h' x' S' r ⟨e, q⟩
            subst e
            cases r
            exact ⟨rfl, p m' (.ref x) H' (.ref h1.length) h' ((x1.trans ext).trans x') (S'.there S3.or) (.ref (x'.pre _ _ at_)) q⟩
        cases xs with
        | nil =>
          refine pe_imp (pe_makeG0 k2 k5 c.gd c.room (c.gl h2) k1 k4 (fun σ => L2N.passAt c.tk σ) h3) (fin tNil fun σ H Q ⟨m, en, hh, Q', Xx, S, E, xp, w, p⟩ => ?_)
          cases es with
          | nil => unfold wpEs at w; exact p m [] H [] hh Ext.refl S .nil w
          | cons _ _ => unfold ckEs at h4; cases h4
        | cons y ys =>
          exact pe_imp (pe_makeG k2 k5 c.gd c.room (c.gl h2) k1 k4 (fun σ => L2N.passAt c.tk σ) ia h3 (star_cons _ _ _ (hn y List.mem_cons_self)) (star_any _ _ ys fun z hz => hn z (List.mem_cons_of_mem _ hz))) (fin _ fun _ _ _ q => q)
      · refine ⟨fun pins s σ H Q I ⟨m, en, hh, Q', Xx, S, E, xp, w, p⟩ => ?_⟩
        unfold wpE at w
        obtain ⟨g, eg, _⟩ := w
        exact absurd ⟨g, eg⟩ hg
    · cases h
  | prom a =>
    unfold ckE at h
    obtain ⟨i1, i2⟩ := sndE a c h
    refine ⟨pe_imp i1 fun σ H Q ⟨m, en, hh, Q', Xx, S, E, xp, w, p⟩ => ⟨m, en, hh, Q', Xx, S, E, xp, by unfold wpE at w; exact w, p⟩, pt_imp i2 fun σ H Q ⟨m, en, hh, Q', Xx, S, E, xp, w, p⟩ => ⟨m, en, hh, Q', Xx, S, E, xp, by unfold wpE at w; exact w, p⟩⟩
  | isx a cs =>
    unfold ckE at h
    split at h
    · simp only [Bool.and_eq_true] at h
      obtain ⟨⟨⟨⟨⟨h1, h2⟩, h3⟩, h4⟩, h5⟩, h6⟩ := h
      have ex := of_decide_eq_true h1
      subst ex
      refine both (isx_pe c.toCt0 (sndE a c h5).1 h2 h3 h4 h6 rfl rfl) fun _ => rfl
    · cases h
  | xfld a =>
    unfold ckE at h
    split at h
    · simp only [Bool.and_eq_true, Bool.not_eq_true'] at h
      obtain ⟨⟨h1, h2⟩, h3⟩ := h
      have ex := of_decide_eq_true h1
      subst ex
      exact both (xfld_pe c.toCt0 (sndE a c h3).1 h2 rfl) fun _ => rfl
    · cases h
  | nest n a =>
    unfold ckE at h
    have ml : X.mg "list" = none := c.blt _ (by decide)
    cases n with
    | litems =>
      dsimp only at h
      split at h
      · simp only [Bool.and_eq_true, Bool.not_eq_true'] at h
        obtain ⟨⟨⟨⟨⟨h1, h2⟩, h3⟩, h4⟩, h5⟩, h6⟩ := h
        have ex := of_decide_eq_true h1
        subst ex
        have ex := of_decide_eq_true h3
        subst ex
        refine both ?_ fun _ => rfl
        refine pe_imp (LiI.pe_listItems c.calm (sndE a c h6).1 (c.gl h2) ml boot_listR (base_ok _ _ _ _ h4) h5 (star_cons _ _ _ rfl)) fun σ H Q ⟨mm, en, hh, Q', Xx, S, E, xp, w, p⟩ => ?_
        unfold wpE at w
        refine sub1 S E xp w fun m1 v1 H1 d1 h1 x1 S1 r1 w1 => ?_
        cases d1 with
        | ref n =>
          obtain ⟨kvs, e, q⟩ := w1
          cases r1 with
          | ref z =>
            obtain ⟨vk, e2, rk⟩ := S1.obj _ _ _ z e
            refine ⟨_, vk, rfl, e2, fun H' pa ts keep hp hts hpt ha pp => ?_⟩
            exact (p.mono x1).newg S1 keep hp ha (items_rs pp (rk.mono (S1.grow keep).2)) q
        | _ => exact w1.elim
      · cases h
    | svals =>
      dsimp only at h
      split at h
      · simp only [Bool.and_eq_true, Bool.not_eq_true'] at h
        obtain ⟨⟨⟨⟨⟨h1, h2⟩, h3⟩, h4⟩, h5⟩, h6⟩ := h
        have ex := of_decide_eq_true h1
        subst ex
        have ex := of_decide_eq_true h3
        subst ex
        refine both ?_ fun _ => rfl
        refine pe_imp (pe_sumVals c.calm (c.gl h2) (c.blt _ (by decide)) (sndE a c h6).1 (base_ok _ _ _ _ h4) h5 (star_cons _ _ _ rfl)) fun σ H Q ⟨mm, en, hh, Q', Xx, S, E, xp, w, p⟩ => ?_
        unfold wpE at w
        refine sub1 S E xp w fun m1 v1 H1 d1 h1 x1 S1 r1 w1 => ?_
        cases d1 with
        | ref n =>
          obtain ⟨kvs, is, e, hv, b1, b2, q⟩ := w1
          cases r1 with
          | ref z =>
            obtain ⟨vk, e2, rk⟩ := S1.obj _ _ _ z e
            exact ⟨_, vk, is, rfl, e2, rk_ints rk hv, b1, b2, (p.mono x1).same S1 (.int _) q⟩
        | _ => exact w1.elim
      · cases h
    | lrev =>
      dsimp only at h
      split at h
      · simp only [Bool.and_eq_true] at h
        obtain ⟨⟨⟨⟨⟨h1, h2⟩, h3⟩, h4⟩, h5⟩, h6⟩ := h
        have ex := of_decide_eq_true h1
        subst ex
        have ex := of_decide_eq_true h3
        subst ex
        refine both ?_ fun _ => rfl
        refine pe_imp (pe_lstRev c.calm (c.gl h2) ml (c.gl h4) (c.blt _ (by decide)) (sndE a c h6).1 (star_cons _ _ _ h5) (star_cons _ _ _ rfl)) fun σ H Q ⟨mm, en, hh, Q', Xx, S, E, xp, w, p⟩ => ?_
        unfold wpE at w
        refine sub1 S E xp w fun m1 v1 H1 d1 h1 x1 S1 r1 w1 => ?_
        cases d1 with
        | ref n =>
          obtain ⟨ds, e, q⟩ := w1
          cases r1 with
          | ref z =>
            obtain ⟨vs, e2, r⟩ := S1.seqAt e z
            exact ⟨_, vs, rfl, e2, fun l hl => (p.mono x1).newl S1 r.reverse hl q⟩
        | _ => exact w1.elim
      · cases h
    | dne =>
      dsimp only at h
      split at h
      · refine ⟨pe_imp (pe_cmpR (op_ne0 (by have := c.units; omega)) (sndE a c h).1 pe_dnewK (nset_in _ _ rfl)) fun σ H Q ⟨mm, en, hh, Q', Xx, S, E, xp, w, p⟩ => ?_, pt_imp (pt_cmpR (op_ne0 (by have := c.units; omega)) (sndE a c h).1 pe_dnewK (nset_in _ _ rfl)) fun σ H Q ⟨mm, en, hh, Q', Xx, S, E, xp, w, p⟩ => ?_⟩
        · unfold wpE at w
          refine sub1 S E xp w fun m1 v1 H1 d1 h1 x1 S1 r1 w1 => ?_
          cases d1 with
          | ref n =>
            obtain ⟨kvs, e, q⟩ := w1
            cases r1 with
            | ref z =>
              obtain ⟨vk, e2, rk⟩ := S1.obj _ _ _ z e
              intro p0 hp0
              have hne : p0 ≠ _ := fun y => by rw [y] at hp0; rw [e2] at hp0; cases hp0
              have hem : vk.isEmpty = kvs.isEmpty := by
                cases rk <;> rfl
              refine ⟨_, _, vk, rfl, rfl, by rw [upd_ne hne.symm]; exact e2, upd_same, ?_⟩
              rw [hem]
              exact p _ _ _ _ _ (x1.trans (Ext.new0 hp0)) (S1.newx hp0) (.bl _) q
          | _ => exact w1.elim
        · unfold wpE at w
          refine sub1 S E xp w fun m1 v1 H1 d1 h1 x1 S1 r1 w1 => ?_
          cases d1 with
          | ref n =>
            obtain ⟨kvs, e, q⟩ := w1
            cases r1 with
            | ref z =>
              obtain ⟨vk, e2, rk⟩ := S1.obj _ _ _ z e
              intro p0 hp0
              have hne : p0 ≠ _ := fun y => by rw [y] at hp0; rw [e2] at hp0; cases hp0
              have hem : vk.isEmpty = kvs.isEmpty := by
                cases rk <;> rfl
              refine ⟨_, _, vk, rfl, rfl, by rw [upd_ne hne.symm]; exact e2, upd_same, _, rfl, ?_⟩
              rw [hem]
              exact p _ _ _ _ (x1.trans (Ext.new0 hp0)) (S1.newx hp0) q
          | _ => exact w1.elim
      · cases h
theorem sndB (kk : Bool) (a : Es) {ca : Cj} {N : List Str} {sc : Scope} {fc : Str → Bool} {X : Cx} {xs : List Expr} (c : Ct T k ca N sc fc X) (h : ckB a N sc fc xs = true) :
    (∀ pos, PE X (.BoolOp (if kk then .And else .Or) xs pos) (tB (cnOf T k) X.K ca kk a)) ∧
    (∀ pos, PW X (.BoolOp (if kk then .And else .Or) xs pos) (tTB (cnOf T k) X.K ca kk a)) := by
  cases a with
  | nil => unfold ckB at h; cases h
  | cons a r =>
    cases r with
    | nil =>
      unfold ckB at h
      split at h
      · have ih := sndE a c h
        refine ⟨fun pos => pe_imp (pe_one ih.1) fun σ H Q ⟨m, en, hh, Q', Xx, S, E, xp, w, p⟩ => ?_, fun pos => ?_⟩
        · unfold wpB at w
          exact ⟨m, en, hh, Q', Xx, S, E, xp, w, p⟩
        · have fin : ∀ (σ : L2.St) (H : Hp) (Q : Bool → Hp → Prop), tTB (cnOf T k) X.K ca kk (.cons a .nil) σ H Q → tT (cnOf T k) X.K ca a σ H Q := by
            rintro σ H Q ⟨m, en, hh, Q', Xx, S, E, xp, w, p⟩
            unfold wpB at w
            exact ⟨m, en, hh, Q', Xx, S, E, xp, w, p⟩
          cases kk with
          | true => exact pw_imp (pw_and1 ih.2) fin
          | false => exact pw_imp (pw_or1 ih.2) fin
      · cases h
    | cons b r =>
      unfold ckB at h
      split at h
      · rw [Bool.and_eq_true] at h
        have ih := sndE a c h.1
        have ir := sndB kk (.cons b r) c h.2
        refine ⟨fun pos => ?_, fun pos => ?_⟩
        · have fin : ∀ (σ : L2.St) (H : Hp) (Q : VK), tB (cnOf T k) X.K ca kk (.cons a (.cons b r)) σ H Q → tE (cnOf T k) X.K ca a σ H fun x H1 => ∃ t, TruV X.K x H1 t ∧ if t = kk then tB (cnOf T k) X.K ca kk (.cons b r) σ H1 Q else Q x H1 := by
            rintro σ H Q ⟨m, en, hh, Q', Xx, S, E, xp, w, p⟩
            unfold wpB at w
            refine sub1 S E xp w fun m1 v1 H1 d1 h1 x1 S1 r1 w1 => ?_
            obtain ⟨t, tv, q⟩ := tru_ok' S1 r1 w1
            refine ⟨t, tv, ?_⟩
            split at q
            · rw [if_pos (by assumption)]
              exact ⟨m1, en, h1, Q', Xx, S1, E.mono x1, xp.mono x1, q, p.mono x1⟩
            · rw [if_neg (by assumption)]
              exact (p.mono x1).same S1 r1 q
          cases kk with
          | true =>
            refine pe_imp (pe_andT ih.1 (ir.1 pos)) fun σ H Q q => ?_
            obtain ⟨m, en, hh, Q', Xx, S, E, xp, w, p⟩ := fin σ H Q q
            refine ⟨m, en, hh, Q', Xx, S, E, xp, w, fun m' v H' d h' x S' r q => ?_⟩
            obtain ⟨t, tv, q⟩ := p m' v H' d h' x S' r q
            exact ⟨t, tv, by cases t <;> simpa using q⟩
          | false =>
            refine pe_imp (pe_orT ih.1 (ir.1 pos)) fun σ H Q q => ?_
            obtain ⟨m, en, hh, Q', Xx, S, E, xp, w, p⟩ := fin σ H Q q
            refine ⟨m, en, hh, Q', Xx, S, E, xp, w, fun m' v H' d h' x S' r q => ?_⟩
            obtain ⟨t, tv, q⟩ := p m' v H' d h' x S' r q
            exact ⟨t, tv, by cases t <;> simpa using q⟩
        · have fin : ∀ (σ : L2.St) (H : Hp) (Q : Bool → Hp → Prop), tTB (cnOf T k) X.K ca kk (.cons a (.cons b r)) σ H Q → tT (cnOf T k) X.K ca a σ H fun t H1 => if t = kk then tTB (cnOf T k) X.K ca kk (.cons b r) σ H1 Q else Q t H1 := by
            rintro σ H Q ⟨m, en, hh, Q', Xx, S, E, xp, w, p⟩
            unfold wpB at w
            refine ⟨m, en, hh, _, Xx, S, E, xp, w, fun m' H' d h' x S' q => tru_twice (tru_imp q fun t q => ?_)⟩
            split at q
            · rw [if_pos (by assumption)]
              exact ⟨m', en, h', Q', Xx, S', E.mono x, xp.mono x, q, fun m2 H2 b2 h2 x2 => p m2 H2 b2 h2 (x.trans x2)⟩
            · rw [if_neg (by assumption)]
              exact p m' H' d h' x S' q
          cases kk with
          | true =>
            refine pw_imp (pw_and ih.2 (ir.2 pos)) fun σ H Q q => ?_
            obtain ⟨m, en, hh, Q', Xx, S, E, xp, w, p⟩ := fin σ H Q q
            refine ⟨m, en, hh, Q', Xx, S, E, xp, w, fun m' H' d h' x S' q => tru_imp (p m' H' d h' x S' q) fun t q => ?_⟩
            cases t <;> simpa using q
          | false =>
            refine pw_imp (pw_or ih.2 (ir.2 pos)) fun σ H Q q => ?_
            obtain ⟨m, en, hh, Q', Xx, S, E, xp, w, p⟩ := fin σ H Q q
            refine ⟨m, en, hh, Q', Xx, S, E, xp, w, fun m' H' d h' x S' q => tru_imp (p m' H' d h' x S' q) fun t q => ?_⟩
            cases t <;> simpa using q
      · cases h
theorem sndD (a : Es) (pos : Pos) {ca : Cj} {N : List Str} {sc : Scope} {fc : Str → Bool} {X : Cx} {ks : List (Option Expr)} {vs : List Expr} (c : Ct T k ca N sc fc X) (h : ckD a N sc fc ks vs = true) : PPs X pos ks vs (trsOf (cnOf T k) X.K ca a) ∧ ks.all (·.isSome) = true ∧ ks.length = vs.length ∧ evn a = true := by
  cases a with
  | nil =>
    unfold ckD at h
    split at h
    · exact ⟨pps_nil, rfl, rfl, rfl⟩
    · cases h
  | cons a r =>
    cases r with
    | nil => unfold ckD at h; cases h
    | cons b r =>
      unfold ckD at h
      split at h
      · simp only [Bool.and_eq_true] at h
        obtain ⟨i1, i2, i3, i4⟩ := sndD r pos c h.2
        refine ⟨pps_cons (sndE a c h.1.1).1 (sndE b c h.1.2).1 i1, ?_, ?_, i4⟩
        · rw [List.all_cons, i2]; rfl
        · rw [List.length_cons, List.length_cons, i3]
      · cases h
theorem sndA (a : Es) {ca : Cj} {N : List Str} {sc : Scope} {fc : Str → Bool} {X : Cx} {xs : List Expr} (c : Ct T k ca N sc fc X) (h : ckEs a N sc fc xs = true) : PA X xs (tA (cnOf T k) X.K ca a) := by
  cases a with
  | nil =>
    unfold ckEs at h
    split at h
    · refine pa_imp pa_nil fun σ H Q ⟨m, en, hh, Q', Xx, S, E, xp, w, p⟩ => ?_
      unfold wpEs at w
      exact p m [] H [] hh Ext.refl S .nil w
    · cases h
  | cons a r =>
    unfold ckEs at h
    split at h
    · simp only [Bool.and_eq_true] at h
      refine pa_imp (pa_cons (sndE a c h.1.2).1 (sndA r c h.2) (star_cons _ _ _ h.1.1)) fun σ H Q ⟨m, en, hh, Q', Xx, S, E, xp, w, p⟩ => ?_
      unfold wpEs at w
      exact sub1 S E xp w fun m1 v1 H1 d1 h1 x1 S1 r1 w1 => ⟨m1, en, h1, _, Xx, S1, E.mono x1, xp.mono x1, w1, fun m2 vs H2 ds h2 x2 S2 rs q => p m2 (v1 :: vs) H2 (d1 :: ds) h2 (x1.trans x2) S2 (.cons (r1.mono x2) rs) q⟩
    · cases h
theorem sndO (a : Oe) {ca : Cj} {N : List Str} {sc : Scope} {fc : Str → Bool} {X : Cx} {e : Option Expr} (c : Ct T k ca N sc fc X) (h : ckO a N sc fc e = true) : PO X e (tO (cnOf T k) X.K ca a) := by
  cases a with
  | none =>
    unfold ckO at h
    split at h
    · refine po_imp po_none fun σ H Q ⟨m, en, hh, Q', Xx, S, E, xp, w, p⟩ => ?_
      unfold wpO at w
      exact p m H none hh Ext.refl S w
    · cases h
  | some a =>
    unfold ckO at h
    split at h
    · refine po_imp (po_some (sndE a c h).1) fun σ H Q ⟨m, en, hh, Q', Xx, S, E, xp, w, p⟩ => ?_
      unfold wpO at w
      refine sub1 S E xp w fun m1 v1 H1 d1 h1 x1 S1 r1 w1 => ?_
      obtain ⟨i, rfl, q⟩ := w1
      cases r1
      exact ⟨i, rfl, p m1 H1 _ h1 x1 S1 q⟩
    · cases h
theorem sndI (a : Iv) {ca : Cj} {N : List Str} {sc : Scope} {fc : Str → Bool} {X : Cx} {tg e : Expr} (c : Ct T k ca N sc fc X) (h : ckI a N sc fc tg e = true) : PI X tg e (tI (cnOf T k) X.K ca a) := by
  have mr : X.mg "range" = none := c.blt _ (by decide)
  have me : X.mg "enumerate" = none := c.blt _ (by decide)
  have mz : X.mg "zip" = none := c.blt _ (by decide)
  have mv : X.mg "reversed" = none := c.blt _ (by decide)
  cases a with
  | seq a =>
    unfold ckI at h
    refine pi_imp (pi_any (sndE a c h).1) fun σ H Q ⟨m, en, hh, Q', Xx, S, E, xp, w, p⟩ => ?_
    unfold wpI at w
    refine sub1 S E xp w fun m1 v1 H1 d1 h1 x1 S1 r1 w1 => ?_
    unfold srcOf at w1
    split at w1
    · cases r1 with
      | tup t r => exact .inr (.inl ⟨_, _, rfl, t, p m1 H1 _ _ h1 x1 S1 (wd_tup t r) w1⟩)
    · cases r1
      exact .inr (.inr ⟨_, rfl, p m1 H1 _ _ h1 x1 S1 wd_str w1⟩)
    · cases r1 with
      | ref z =>
        rcases w1 with ⟨ds, e1, q⟩ | ⟨ds, e1, q⟩
        · obtain ⟨vs, e2, r⟩ := S1.seqAt (.inl e1) z
          exact .inl ⟨_, vs, rfl, e2, p m1 H1 _ _ h1 x1 S1 (wd_list z (.inl rfl)) q⟩
        · obtain ⟨vs, e2, r⟩ := S1.seqAt (.inr e1) z
          exact .inl ⟨_, vs, rfl, e2, p m1 H1 _ _ h1 x1 S1 (wd_list z (.inr rfl)) q⟩
    · exact w1.elim
  | rng1 a =>
    unfold ckI at h
    split at h
    · simp only [Bool.and_eq_true] at h
      obtain ⟨⟨⟨h1, h2⟩, h3⟩, h4⟩ := h
      have ex := of_decide_eq_true h1
      subst ex
      refine pi_imp (pi_range1 (c.gl h2) mr (pa_cons (sndE a c h4).1 pa_nil (star_cons _ _ _ h3)) (star_cons _ _ _ h3)) fun σ H Q ⟨m, en, hh, Q', Xx, S, E, xp, w, p⟩ => ?_
      unfold wpI at w
      refine sub1 S E xp w fun m1 v1 H1 d1 h1 x1 S1 r1 w1 => ?_
      obtain ⟨j, rfl, b1, b2, q⟩ := w1
      cases r1
      refine ⟨j, rfl, by omega, by omega, p m1 H1 _ _ h1 x1 S1 (wd_rng (lo := 0) (n := j.toNat)) ?_⟩
      simpa using q
    · cases h
  | rng2 a b =>
    unfold ckI at h
    split at h
    · simp only [Bool.and_eq_true] at h
      obtain ⟨⟨⟨⟨⟨h1, h2⟩, h3⟩, h4⟩, h5⟩, h6⟩ := h
      have ex := of_decide_eq_true h1
      subst ex
      refine pi_imp (pi_range2 (c.gl h2) mr (pa_cons (sndE a c h5).1 (pa_cons (sndE b c h6).1 pa_nil (star_cons _ _ _ h4)) (star_cons _ _ _ h3)) (by rw [star_cons _ _ _ h3, star_cons _ _ _ h4]; rfl) (star_cons _ _ _ h4)) fun σ H Q ⟨m, en, hh, Q', Xx, S, E, xp, w, p⟩ => ?_
      unfold wpI at w
      refine sub1 S E xp w fun m1 v1 H1 d1 h1 x1 S1 r1 w1 => sub1 S1 (E.mono x1) (xp.mono x1) w1 fun m2 v2 H2 d2 h2 x2 S2 r2 w2 => ?_
      obtain ⟨i, j, rfl, rfl, b1, q⟩ := w2
      cases r1; cases r2
      exact ⟨i, j, rfl, ⟨by omega, by omega, by omega, by omega⟩, p m2 H2 _ _ h2 (x1.trans x2) S2 wd_rng q⟩
    · cases h
  | rngd a b =>
    unfold ckI at h
    split at h
    · simp only [Bool.and_eq_true] at h
      obtain ⟨⟨⟨⟨⟨h1, h2⟩, h3⟩, h4⟩, h5⟩, h6⟩ := h
      have ex := of_decide_eq_true h1
      subst ex
      refine pi_imp (pi_range3 (c.gl h2) mr (pa_cons (sndE a c h5).1 (pa_cons (sndE b c h6).1 (pa_cons (pe_un un_neg pe_int) pa_nil rfl) (star_cons _ _ _ h4)) (star_cons _ _ _ h3)) (star_cons _ _ _ h3) (by rw [star_cons _ _ _ h4]; rfl)) fun σ H Q ⟨m, en, hh, Q', Xx, S, E, xp, w, p⟩ => ?_
      unfold wpI at w
      refine sub1 S E xp w fun m1 v1 H1 d1 h1 x1 S1 r1 w1 => sub1 S1 (E.mono x1) (xp.mono x1) w1 fun m2 v2 H2 d2 h2 x2 S2 r2 w2 => ?_
      obtain ⟨i, j, rfl, rfl, b1, q⟩ := w2
      cases r1; cases r2
      exact ⟨1, rfl, i, j, -1, (i - j).toNat, rfl, RgC.neg (by omega) (by omega) (by omega) (by omega), p m2 H2 _ _ h2 (x1.trans x2) S2 wd_rngd q⟩
    · cases h
  | enu a =>
    unfold ckI at h
    split at h
    · simp only [Bool.and_eq_true] at h
      obtain ⟨⟨⟨⟨h0, h1⟩, h2⟩, h3⟩, h4⟩ := h
      have ex := of_decide_eq_true h1
      subst ex
      obtain ⟨el, kk, tp, rfl⟩ : ∃ el kk tp, tg = .Tuple el kk tp := by
        cases tg <;> first | exact ⟨_, _, _, rfl⟩ | cases h0
      refine pi_imp (pi_enumM (c.gl h2) me (pa_cons (sndE a c h4).1 pa_nil (star_cons _ _ _ h3)) (star_cons _ _ _ h3)) fun σ H Q ⟨m, en, hh, Q', Xx, S, E, xp, w, p⟩ => ?_
      unfold wpI at w
      refine sub1 S E xp w fun m1 v1 H1 d1 h1 x1 S1 r1 w1 => ?_
      rcases w1 with w1 | w1
      · obtain ⟨a, n, o, ds, vs, rfl, z, ho, sq, w⟩ := srcL_ok S1 r1 w1
        refine ⟨a, vs, false, rfl, sq, p m1 H1 _ _ h1 x1 S1 (wd_enumM (t := false) (st := [(n, o)]) fun x S' k => ?_) w⟩
        obtain ⟨vs', e, r'⟩ := S'.seqAt (seq_of ho (k (n, o) List.mem_cons_self)) (x.pre n a z)
        exact ⟨vs', e, r'⟩
      · unfold srcT at w1
        split at w1
        · cases r1 with
          | tup t1 rr => exact ⟨_, _, true, rfl, t1, p m1 H1 _ _ h1 x1 S1 (wd_enumM (t := true) (st := []) fun x S' k => ⟨_, x.tup _ _ t1, rr.mono x⟩) w1⟩
        · exact w1.elim
    · cases h
  | zip a b =>
    unfold ckI at h
    split at h
    · simp only [Bool.and_eq_true] at h
      obtain ⟨⟨⟨⟨⟨⟨h0, h1⟩, h2⟩, h3⟩, h4⟩, h5⟩, h6⟩ := h
      have ex := of_decide_eq_true h1
      subst ex
      obtain ⟨el, kk, tp, rfl⟩ : ∃ el kk tp, tg = .Tuple el kk tp := by
        cases tg <;> first | exact ⟨_, _, _, rfl⟩ | cases h0
      refine pi_imp (pi_zipM (c.gl h2) mz (pa_cons (sndE a c h5).1 (pa_cons (sndE b c h6).1 pa_nil (star_cons _ _ _ h4)) (star_cons _ _ _ h3)) (star_cons _ _ _ h3) (star_any _ _ _ fun z hz => by rw [List.mem_singleton.mp hz]; exact h4)) fun σ H Q ⟨m, en, hh, Q', Xx, S, E, xp, w, p⟩ => ?_
      unfold wpI at w
      refine sub1 S E xp w fun m1 v1 H1 d1 h1 x1 S1 r1 w1 => sub1 S1 (E.mono x1) (xp.mono x1) w1 fun m2 v2 H2 d2 h2 x2 S2 r2 w2 => ?_
      exact zip_key S2 (r1.mono x2) r2 w2 fun J s wd q => p m2 H2 J s h2 (x1.trans x2) S2 wd q
    · cases h
  | rvs a =>
    unfold ckI at h
    split at h
    · simp only [Bool.and_eq_true] at h
      obtain ⟨⟨⟨h1, h2⟩, h3⟩, h4⟩ := h
      have ex := of_decide_eq_true h1
      subst ex
      refine pi_imp (RT.pi_revA (c.gl h2) mv (sndE a c h4).1 (star_cons _ _ _ h3)) fun σ H Q ⟨m, en, hh, Q', Xx, S, E, xp, w, p⟩ => ?_
      unfold wpI at w
      refine sub1 S E xp w fun m1 v1 H1 d1 h1 x1 S1 r1 w1 => ?_
      unfold srcR at w1
      rcases w1 with w1 | w1
      · unfold srcL at w1
        split at w1
        · cases r1 with
          | ref z =>
            rcases w1 with ⟨ds, e1, q⟩ | ⟨ds, e1, q⟩
            · obtain ⟨vs, e2, r⟩ := S1.seqAt (.inl e1) z
              exact ⟨_, vs, rfl, .inl ⟨e2, by rw [r.len]; exact p m1 H1 _ _ h1 x1 S1 (wd_rev z (.inl rfl)) q⟩⟩
            · obtain ⟨vs, e2, r⟩ := S1.seqAt (.inr e1) z
              exact ⟨_, vs, rfl, .inl ⟨e2, by rw [r.len]; exact p m1 H1 _ _ h1 x1 S1 (wd_rev z (.inr rfl)) q⟩⟩
        · exact w1.elim
      · unfold srcT at w1
        split at w1
        · cases r1 with
          | tup t r => exact ⟨_, _, rfl, .inr ⟨t, by rw [r.len]; exact p m1 H1 _ _ h1 x1 S1 (wd_revT t r) w1⟩⟩
        · exact w1.elim
    · cases h
  | keys i => unfold ckI at h; cases h
theorem sndG (a : Tg) {ca : Cj} {N : List Str} {sc : Scope} {fc : Str → Bool} {X : Cx} {e : Expr} (c : Ct T k ca N sc fc X) (h : ckG a N sc fc e = true) : PG X e (tG (cnOf T k) X.K ca a) := by
  cases a with
  | nm i =>
    unfold ckG at h
    split at h
    · simp only [Bool.and_eq_true] at h
      obtain ⟨l1, l2⟩ := c.loc h.2
      refine pg_imp (pg_name c.hnd (c.slot h.1) l1 l2) fun v σ H Q ⟨m, en, hh, d, Q', Xx, S, E, r, xp, w, p⟩ => ?_
      unfold wpG at w
      exact p m _ H _ hh Ext.refl S (E.set r i) (fun vs hv => wipe_set (hv i (by unfold tgSlots; exact List.mem_singleton.mpr rfl))) w
    · cases h
  | tp ts =>
    unfold ckG at h
    split at h
    · rename_i elts _ _
      have hn := ckGs_nst elts ts h
      have ig := sndGs ts c h
      refine pg_imp (pg_or (pg_tup c.calm ig rfl (asg_idx _ _ hn)) (pg_unl c.calm ig rfl (asg_idx _ _ hn))) fun v σ H Q ⟨m, en, hh, d, Q', Xx, S, E, r, xp, w, p⟩ => ?_
      unfold wpG at w
      obtain ⟨ds, ed, hln, w⟩ := w
      have hlen : ds.length = (assignEach elts X.env).length := by
        rw [asg_len _ _ hn]
        exact hln.trans (ckGs_len _ ts h)
      obtain ⟨a, vs, rfl, hq, rs, _⟩ := elems_ok S r ed
      have tail : tGs (cnOf T k) X.K ca ts vs σ H Q := ⟨m, en, hh, ds, Q', Xx, S, E, rs, xp, w, fun m' σ' H' e' h' x S' E' kp q => p m' σ' H' e' h' x S' E' (fun vs hv => kp vs (by unfold tgSlots at hv; exact hv)) q⟩
      rcases hq with hq | hq
      · exact .inr ⟨a, vs, rfl, hq, by rw [rs.len]; exact hlen, tail⟩
      · exact .inl ⟨a, vs, rfl, hq, by rw [rs.len]; exact hlen, tail⟩
    · cases h
  | sub o i =>
    unfold ckG at h
    split at h
    · simp only [Bool.and_eq_true] at h
      obtain ⟨⟨h1, h2⟩, h3⟩ := h
      refine pg_imp (pg_sub (sndE o c h2).1 (sndE i c h3).1 (set_any (by have := c.units; omega)) (sub_asg _ _ _ _ h1)) fun v σ H Q ⟨m, en, hh, d, Q', Xx, S, E, r, xp, w, p⟩ => ?_
      unfold wpG at w
      refine sub1 S E xp.xp w fun m1 v1 H1 d1 h1 x1 S1 r1 w1 => sub1 S1 (E.mono x1) xp.xp w1 fun m2 v2 H2 d2 h2 x2 S2 r2 w2 => ?_
      obtain ⟨n, rfl, w2⟩ := w2
      have r1' := r1.mono x2
      have rd := r.mono (x1.trans x2)
      cases r1' with
      | ref z =>
        rcases w2 with ⟨xs, kk, j, e1, rfl, ej, q⟩ | ⟨kvs, key, e1, ek, hl, q⟩
        · cases r2
          obtain ⟨vs, e2, rr⟩ := S2.lstAt e1 z
          obtain ⟨S3, x3⟩ := S2.put (ho := .lst (vs.set j v)) (o := .lst (xs.set j d)) e1 z rfl rfl fun H' ht e => ⟨_, e, (rr.set rd j).mono0 ⟨fun _ _ z => z, ht⟩⟩
          exact .inl ⟨_, vs, kk, j, rfl, rfl, e2, by rw [rr.len]; exact ej, p m2 σ _ _ _ ((x1.trans x2).trans x3) S3 (E.mono ((x1.trans x2).trans x3)) (fun _ _ => rfl) q⟩
        · obtain ⟨vk, e2, rr⟩ := S2.obj _ _ _ z e1
          have ex := key_ok r2 ek
          subst ex
          obtain ⟨S3, x3⟩ := S2.put (ho := .dK (putK vk key v)) (o := .dK (putD kvs key d)) e1 z rfl rfl fun H' ht e => ⟨_, e, (rr.put key rd).mono0 ⟨fun _ _ z => z, ht⟩⟩
          exact .inr ⟨_, _, rfl, DPut.k e2 (by rw [rr.len]; exact lim' _ hl), p m2 σ _ _ _ ((x1.trans x2).trans x3) S3 (E.mono ((x1.trans x2).trans x3)) (fun _ _ => rfl) q⟩
    · cases h
theorem sndGs (a : Tgs) {ca : Cj} {N : List Str} {sc : Scope} {fc : Str → Bool} {X : Cx} {es : List Expr} (c : Ct T k ca N sc fc X) (h : ckGs a N sc fc es = true) : PGs X es (tGs (cnOf T k) X.K ca a) := by
  cases a with
  | nil =>
    unfold ckGs at h
    split at h
    · refine pgs_imp pgs_nil fun vs σ H Q ⟨m, en, hh, ds, Q', Xx, S, E, r, xp, w, p⟩ => ?_
      unfold wpGs at w
      obtain ⟨rfl, q⟩ := w
      exact ⟨r.inv0, p m σ H en hh Ext.refl S E (fun _ _ => rfl) q⟩
    · cases h
  | cons t ts =>
    unfold ckGs at h
    split at h
    · simp only [Bool.and_eq_true] at h
      refine pgs_imp (pgs_cons (sndG t c h.1.2) (sndGs ts c h.2) (by rw [assign_cons _ _ _ h.1.1]; rfl)) fun vs σ H Q ⟨m, en, hh, ds, Q', Xx, S, E, r, xp, w, p⟩ => ?_
      unfold wpGs at w
      obtain ⟨d, ds', rfl, w⟩ := w
      cases r with
      | cons r1 rr =>
        refine ⟨_, _, rfl, m, en, hh, d, _, Xx, S, E, r1, xp, w, fun m1 σ1 H1 e1 h1 x1 S1 E1 kp1 w1 => ?_⟩
        refine ⟨m1, e1, h1, ds', Q', Xx, S1, E1, rr.mono x1, xp, w1, fun m2 σ2 H2 e2 h2 x2 S2 E2 kp2 q => p m2 σ2 H2 e2 h2 (x1.trans x2) S2 E2 (fun vs hv => ?_) q⟩
        rw [kp2 vs fun i hi => hv i (by unfold tgSlots.go; exact List.mem_append_right _ hi), kp1 vs fun i hi => hv i (by unfold tgSlots.go; exact List.mem_append_left _ hi)]
    · cases h
end
end
end Bp

/-! ## within an except suite (printed by mkHot.py out of BpSnd3) -/
namespace Bp
open PySem L2 PySem.Spec PyProof.Rows
section
variable {g : Bool} {T : Tb} {C : Cn}
mutual
theorem sndH (a : E) (hC : C.gl = fun x => T.gls.lookup x) (hf : C.fl = T.fl) (hs : C.sb = T.sb) (hx : C.xk = T.xk) {ca : Cj} {N : List Str} {sc : Scope} {fc : Str → Bool} {X : Cx} {e : Expr} (c : Ct0 g T ca N sc fc X) (t : tameE g a = true) (h : ckE a N sc fc e = true) : PE X e (tE C X.K ca a) ∧ PT X e (tT C X.K ca a) := by
  cases a with
  | var i =>
    unfold ckE at h
    split at h
    · simp only [Bool.and_eq_true, Bool.not_eq_true'] at h
      refine both ?_ fun _ => rfl
      exact pe_imp (pe_var (c.slot h.1.1.1) (c.vis h.1.1.2) h.1.2 h.2) fun σ H Q ⟨m, en, hh, Q', Xx, S, E, xp, w, p⟩ => by
        unfold wpE at w
        obtain ⟨d, ed, q⟩ := w
        obtain ⟨v, ev, r⟩ := E.at_ i d ed
        exact ⟨v, ev, p.same S r q⟩
    · cases h
  | non =>
    unfold ckE at h
    split at h
    · refine both ?_ fun _ => rfl
      exact pe_imp pe_non fun σ H Q ⟨m, en, hh, Q', Xx, S, E, xp, w, p⟩ => by
        unfold wpE at w
        exact p.same S .non w
    · cases h
  | bl b =>
    unfold ckE at h
    split at h
    · refine both ?_ fun _ => rfl
      exact pe_imp pe_bl fun σ H Q ⟨m, en, hh, Q', Xx, S, E, xp, w, p⟩ => by
        unfold wpE at w
        rw [← of_decide_eq_true h]
        exact p.same S (.bl _) w
    · cases h
  | int i =>
    unfold ckE at h
    split at h
    · refine both ?_ fun _ => rfl
      exact pe_imp pe_int fun σ H Q ⟨m, en, hh, Q', Xx, S, E, xp, w, p⟩ => by
        unfold wpE at w
        rw [← of_decide_eq_true h]
        exact p.same S (.int _) w
    · cases h
  | str s =>
    unfold ckE at h
    split at h
    · refine both ?_ fun _ => rfl
      exact pe_imp pe_str fun σ H Q ⟨m, en, hh, Q', Xx, S, E, xp, w, p⟩ => by
        unfold wpE at w
        rw [← of_decide_eq_true h]
        exact p.same S (.str _) w
    · cases h
  | glob x =>
    unfold ckE at h
    split at h
    · simp only [Bool.and_eq_true, Bool.not_eq_true'] at h
      obtain ⟨⟨h1, h2⟩, h3⟩ := h
      have ex := of_decide_eq_true h1
      subst ex
      refine both ?_ fun _ => rfl
      ·
        by_cases hd : ∃ d, T.gls.lookup x = some d
        · obtain ⟨d, hd⟩ := hd
          obtain ⟨v, u, hm, r, rr⟩ := c.gls x d hd
          exact pe_imp (pe_glob (c.gl h2) hm r h3) fun σ H Q ⟨m, en, hh, Q', Xx, S, E, xp, w, p⟩ => by
            unfold wpE at w
            rw [hC] at w
            obtain ⟨d', ed, q⟩ := w
            have : some d = some d' := hd.symm.trans ed
            cases this
            exact p.same S (rr H m) q
        · exact ⟨fun pins s σ H Q I ⟨m, en, hh, Q', Xx, S, E, xp, w, p⟩ => by
            unfold wpE at w
            rw [hC] at w
            obtain ⟨d', ed, q⟩ := w
            exact absurd ⟨d', ed⟩ hd⟩
    · cases h
  | bin o a b =>
    obtain ⟨ho, ta, tb⟩ : o = .add ∧ tameE g a = true ∧ tameE g b = true := by
      cases o <;> first | (simp only [tameE, Bool.and_eq_true] at t; exact ⟨rfl, t⟩) | (simp only [tameE] at t; cases t)
    unfold ckE at h
    split at h
    · simp only [Bool.and_eq_true] at h
      obtain ⟨⟨h1, h2⟩, h3⟩ := h
      have ex := of_decide_eq_true h1
      subst ex
      refine both ?_ fun _ => rfl
      exact pe_imp (pe_op (op_bo o) (sndH a hC hf hs hx c ta h2).1 (sndH b hC hf hs hx c tb h3).1) fun σ H Q ⟨m, en, hh, Q', Xx, S, E, xp, w, p⟩ => by
        unfold wpE at w
        exact sub1 S E xp w fun m1 v1 H1 d1 h1 x1 S1 r1 w1 => sub1 S1 (E.mono x1) (xp.mono x1) w1 fun m2 v2 H2 d2 h2 x2 S2 r2 w2 => bo_ok o S2 (r1.mono x2) r2 w2 (p.mono (x1.trans x2))
    · cases h
  | neg a =>
    unfold ckE at h
    split at h
    · refine both ?_ fun _ => rfl
      exact pe_imp (pe_un un_neg (sndH a hC hf hs hx c (by simp only [tameE] at t; exact t) h).1) fun σ H Q ⟨m, en, hh, Q', Xx, S, E, xp, w, p⟩ => by
        unfold wpE at w
        exact sub1 S E xp w fun m1 v1 H1 d1 h1 x1 S1 r1 w1 => by
          obtain ⟨i, rfl, q⟩ := w1
          cases r1
          exact ⟨_, rfl, (p.mono x1).same S1 (.int _) q⟩
    · cases h
  | not a =>
    unfold ckE at h
    split at h
    · have ih := sndH a hC hf hs hx c (by simp only [tameE] at t; exact t) h
      refine ⟨pe_imp (pe_notT ih.1) fun σ H Q ⟨m, en, hh, Q', Xx, S, E, xp, w, p⟩ => ?_, pt_imp (pt_not ih.2) fun σ H Q ⟨m, en, hh, Q', Xx, S, E, xp, w, p⟩ => ?_⟩
      · unfold wpE at w
        exact sub1 S E xp w fun m1 v1 H1 d1 h1 x1 S1 r1 w1 => by
          obtain ⟨b, t, q⟩ := tru_ok' S1 r1 w1
          exact ⟨b, t, (p.mono x1).same S1 (.bl _) q⟩
      · unfold wpE at w
        exact ⟨m, en, hh, _, Xx, S, E, xp, w, fun m' H' d h' x S' q => tru_imp q fun b q => p m' H' (.bl (!b)) h' x S' q⟩
    · cases h
  | bop kk es =>
    unfold ckE at h
    split at h
    · simp only [Bool.and_eq_true] at h
      have ex := of_decide_eq_true h.1
      subst ex
      have ih := sndHB kk es hC hf hs hx c (by simp only [tameE] at t; exact t) h.2
      refine ⟨pe_imp (ih.1 _) fun σ H Q ⟨m, en, hh, Q', Xx, S, E, xp, w, p⟩ => ?_, pt_imp (ih.2 _).pt fun σ H Q ⟨m, en, hh, Q', Xx, S, E, xp, w, p⟩ => ?_⟩
      · unfold wpE at w
        exact ⟨m, en, hh, Q', Xx, S, E, xp, w, p⟩
      · unfold wpE at w
        exact ⟨m, en, hh, Q', Xx, S, E, xp, w, p⟩
    · cases h
  | ite cc a b =>
    unfold ckE at h
    split at h
    · simp only [Bool.and_eq_true] at h
      obtain ⟨⟨h1, h2⟩, h3⟩ := h
      have i1 := sndH cc hC hf hs hx c (by simp only [tameE, Bool.and_eq_true] at t; exact t.1.1) h1
      have i2 := sndH a hC hf hs hx c (by simp only [tameE, Bool.and_eq_true] at t; exact t.1.2) h2
      have i3 := sndH b hC hf hs hx c (by simp only [tameE, Bool.and_eq_true] at t; exact t.2) h3
      refine ⟨pe_imp (pe_ifExp i1.2 i2.1 i3.1) fun σ H Q ⟨m, en, hh, Q', Xx, S, E, xp, w, p⟩ => ?_, pt_imp (pt_ifExp i1.2 i2.2 i3.2) fun σ H Q ⟨m, en, hh, Q', Xx, S, E, xp, w, p⟩ => ?_⟩
      · unfold wpE at w
        refine ⟨m, en, hh, _, Xx, S, E, xp, w, fun m' H' d h' x S' q => tru_imp q fun bb q => ?_⟩
        cases bb with
        | true => exact ⟨m', en, h', Q', Xx, S', E.mono x, xp.mono x, q, p.mono x⟩
        | false => exact ⟨m', en, h', Q', Xx, S', E.mono x, xp.mono x, q, p.mono x⟩
      · unfold wpE at w
        refine ⟨m, en, hh, _, Xx, S, E, xp, w, fun m' H' d h' x S' q => tru_imp q fun bb q => ?_⟩
        cases bb with
        | true => exact ⟨m', en, h', Q', Xx, S', E.mono x, xp.mono x, q, fun m2 H2 b2 h2 x2 => p m2 H2 b2 h2 (x.trans x2)⟩
        | false => exact ⟨m', en, h', Q', Xx, S', E.mono x, xp.mono x, q, fun m2 H2 b2 h2 x2 => p m2 H2 b2 h2 (x.trans x2)⟩
    · cases h
  | tup es =>
    unfold ckE at h
    split at h
    · refine both ?_ fun _ => rfl
      exact pe_imp (pe_tup (sndHA es hC hf hs hx c (by simp only [tameE] at t; exact t) h)) fun σ H Q ⟨m, en, hh, Q', Xx, S, E, xp, w, p⟩ => by
        unfold wpE at w
        exact ⟨m, en, hh, _, Xx, S, E, xp, w, fun m' vs H' ds h' x S' rs q => ⟨by rw [rs.len]; exact lim _ q.1, fun pa hpa => (p.mono x).newt S' rs hpa q.2⟩⟩
    · cases h
  | idx a i =>
    unfold ckE at h
    split at h
    · simp only [Bool.and_eq_true] at h
      obtain ⟨⟨h1, h2⟩, h3⟩ := h
      refine both ?_ fun _ => rfl
      exact pe_imp (pe_ix (ix_any (by have := c.units; omega)) (sndH a hC hf hs hx c (by simp only [tameE, Bool.and_eq_true] at t; exact t.1) h2).1 (sndH i hC hf hs hx c (by simp only [tameE, Bool.and_eq_true] at t; exact t.2) h3).1 (ix_plain _ h1)) fun σ H Q ⟨m, en, hh, Q', Xx, S, E, xp, w, p⟩ => by
        unfold wpE at w
        exact sub1 S E xp w fun m1 v1 H1 d1 h1 x1 S1 r1 w1 => sub1 S1 (E.mono x1) (xp.mono x1) w1 fun m2 v2 H2 d2 h2 x2 S2 r2 w2 => idx_ok S2 (r1.mono x2) r2 w2 (p.mono (x1.trans x2))
    · cases h
  | fld o f =>
    unfold ckE at h
    split at h
    · simp only [Bool.and_eq_true, Bool.not_eq_true'] at h
      obtain ⟨⟨h1, h2⟩, h3⟩ := h
      have ex := of_decide_eq_true h1
      subst ex
      refine both ?_ fun _ => rfl
      refine pe_imp (pe_fld (sndH o hC hf hs hx c (by simp only [tameE] at t; exact t) h3).1 (base_ok _ _ _ _ h2)) fun σ H Q ⟨m, en, hh, Q', Xx, S, E, xp, w, p⟩ => ?_
      unfold wpE at w
      refine sub1 S E xp w fun m1 v1 H1 d1 h1 x1 S1 r1 w1 => ?_
      obtain ⟨n, c', fs, v, rfl, e1, e2, e3, q⟩ := w1
      rw [hf] at e2
      cases r1 with
      | ref z =>
        obtain ⟨C, dx, vf, e4, e5, rk⟩ := S1.obj n _ _ z e1
        obtain ⟨k1, k2⟩ := c.cfl c' _ C e2 e5
        obtain ⟨v', l', rv⟩ := (show Ro X.K H1 m1 _ (some v) from e3 ▸ rk.look).inv
        exact ⟨_, C, dx, vf, v', rfl, e4, k1, k2, l', (p.mono x1).same S1 rv q⟩
    · cases h
  | isx a cs =>
    unfold ckE at h
    split at h
    · simp only [Bool.and_eq_true] at h
      obtain ⟨⟨⟨⟨⟨h1, h2⟩, h3⟩, h4⟩, h5⟩, h6⟩ := h
      have ex := of_decide_eq_true h1
      subst ex
      refine both (isx_pe c (sndH a hC hf hs hx c (by simp only [tameE] at t; exact t) h5).1 h2 h3 h4 h6 hx hs) fun _ => rfl
    · cases h
  | xfld a =>
    unfold ckE at h
    split at h
    · simp only [Bool.and_eq_true, Bool.not_eq_true'] at h
      obtain ⟨⟨h1, h2⟩, h3⟩ := h
      have ex := of_decide_eq_true h1
      subst ex
      exact both (xfld_pe c (sndH a hC hf hs hx c (by simp only [tameE] at t; exact t) h3).1 h2 hx) fun _ => rfl
    · cases h
  | bi b es =>
    obtain ⟨a, rfl, rfl, tg, ta⟩ : ∃ a, b = .str ∧ es = .cons a .nil ∧ g = true ∧ tameE g a = true := by
      cases b <;> first | (simp only [tameE] at t; cases t; done) | skip
      cases es with
      | nil => simp only [tameE] at t; cases t
      | cons a r => cases r with
        | nil => simp only [tameE, Bool.and_eq_true] at t; exact ⟨a, rfl, rfl, t.1, t.2⟩
        | cons b r => simp only [tameE] at t; cases t
    unfold ckE at h
    split at h
    · simp only [Bool.and_eq_true] at h
      obtain ⟨⟨h1, h2⟩, h4⟩ := h
      have ex := of_decide_eq_true h1
      subst ex
      rename_i y xs pos
      have hn := ck_nst (y :: xs) (.cons a .nil) h4
      refine both ?_ fun _ => rfl
      have fin : ∀ (σ : L2.St) (H : Hp) (Q : VK), tE C X.K ca (.bi .str (.cons a .nil)) σ H Q → tCB (rBi X.K .str) (tA C X.K ca (.cons a .nil)) σ H Q := by
        rintro σ H Q ⟨m, en, hh, Q', Xx, S, E, xp, w, p⟩
        unfold wpE at w
        exact ⟨m, en, hh, _, Xx, S, E, xp, w, fun m' vs H' ds h' x S' rs q => bi_ok .str S' rs q (p.mono x)⟩
      have hc : CallR X (biVal (biV .str)) (rBi X.K .str) := call_str_int.or (call_strD (c.gd0 tg) c.units70)
      exact pe_imp (pe_callTy hc (c.gl h2) (c.blt _ (by decide)) (bi_boot .str) (sndHA (.cons a .nil) hC hf hs hx c (by simp only [tameEs, Bool.and_true]; exact ta) h4) (by decide) (by decide) (star_cons y xs X.env (hn y List.mem_cons_self)) (star_any pos X.env xs fun z hz => hn z (List.mem_cons_of_mem _ hz))) fin
    · cases h
  | cmp o a b => simp only [tameE] at t; cases t
  | cmp2 o o' a b d => simp only [tameE] at t; cases t
  | lst es => simp only [tameE] at t; cases t
  | dct kvs => simp only [tameE] at t; cases t
  | tab x i => simp only [tameE] at t; cases t
  | tabG x i d => simp only [tameE] at t; cases t
  | tabIn neg x i => simp only [tameE] at t; cases t
  | sli a lo hi => simp only [tameE] at t; cases t
  | rev a => simp only [tameE] at t; cases t
  | call f es => simp only [tameE] at t; cases t
  | rng kk a b => simp only [tameE] at t; cases t
  | mt m o es => simp only [tameE] at t; cases t
  | isi a ts => simp only [tameE] at t; cases t
  | comp elt t it cc own => simp only [tameE] at t; cases t
  | meth o mn es => simp only [tameE] at t; cases t
  | make cn es => simp only [tameE] at t; cases t
  | prom a => simp only [tameE] at t; cases t
  | nest n a => simp only [tameE] at t; cases t
theorem sndHB (kk : Bool) (a : Es) (hC : C.gl = fun x => T.gls.lookup x) (hf : C.fl = T.fl) (hs : C.sb = T.sb) (hx : C.xk = T.xk) {ca : Cj} {N : List Str} {sc : Scope} {fc : Str → Bool} {X : Cx} {xs : List Expr} (c : Ct0 g T ca N sc fc X) (t : tameEs g a = true) (h : ckB a N sc fc xs = true) :
    (∀ pos, PE X (.BoolOp (if kk then .And else .Or) xs pos) (tB (C) X.K ca kk a)) ∧
    (∀ pos, PW X (.BoolOp (if kk then .And else .Or) xs pos) (tTB (C) X.K ca kk a)) := by
  cases a with
  | nil => unfold ckB at h; cases h
  | cons a r =>
    cases r with
    | nil =>
      unfold ckB at h
      split at h
      · have ih := sndH a hC hf hs hx c (by simp only [tameEs, Bool.and_true] at t; exact t) h
        refine ⟨fun pos => pe_imp (pe_one ih.1) fun σ H Q ⟨m, en, hh, Q', Xx, S, E, xp, w, p⟩ => ?_, fun pos => ?_⟩
        · unfold wpB at w
          exact ⟨m, en, hh, Q', Xx, S, E, xp, w, p⟩
        · have fin : ∀ (σ : L2.St) (H : Hp) (Q : Bool → Hp → Prop), tTB (C) X.K ca kk (.cons a .nil) σ H Q → tT (C) X.K ca a σ H Q := by
            rintro σ H Q ⟨m, en, hh, Q', Xx, S, E, xp, w, p⟩
            unfold wpB at w
            exact ⟨m, en, hh, Q', Xx, S, E, xp, w, p⟩
          cases kk with
          | true => exact pw_imp (pw_and1 ih.2) fin
          | false => exact pw_imp (pw_or1 ih.2) fin
      · cases h
    | cons b r =>
      unfold ckB at h
      split at h
      · rw [Bool.and_eq_true] at h
        have ih := sndH a hC hf hs hx c (by simp only [tameEs, Bool.and_eq_true] at t; exact t.1) h.1
        have ir := sndHB kk (.cons b r) hC hf hs hx c (by simp only [tameEs, Bool.and_eq_true] at t ⊢; exact t.2) h.2
        refine ⟨fun pos => ?_, fun pos => ?_⟩
        · have fin : ∀ (σ : L2.St) (H : Hp) (Q : VK), tB (C) X.K ca kk (.cons a (.cons b r)) σ H Q → tE (C) X.K ca a σ H fun x H1 => ∃ t, TruV X.K x H1 t ∧ if t = kk then tB (C) X.K ca kk (.cons b r) σ H1 Q else Q x H1 := by
            rintro σ H Q ⟨m, en, hh, Q', Xx, S, E, xp, w, p⟩
            unfold wpB at w
            refine sub1 S E xp w fun m1 v1 H1 d1 h1 x1 S1 r1 w1 => ?_
            obtain ⟨t, tv, q⟩ := tru_ok' S1 r1 w1
            refine ⟨t, tv, ?_⟩
            split at q
            · rw [if_pos (by assumption)]
              exact ⟨m1, en, h1, Q', Xx, S1, E.mono x1, xp.mono x1, q, p.mono x1⟩
            · rw [if_neg (by assumption)]
              exact (p.mono x1).same S1 r1 q
          cases kk with
          | true =>
            refine pe_imp (pe_andT ih.1 (ir.1 pos)) fun σ H Q q => ?_
            obtain ⟨m, en, hh, Q', Xx, S, E, xp, w, p⟩ := fin σ H Q q
            refine ⟨m, en, hh, Q', Xx, S, E, xp, w, fun m' v H' d h' x S' r q => ?_⟩
            obtain ⟨t, tv, q⟩ := p m' v H' d h' x S' r q
            exact ⟨t, tv, by cases t <;> simpa using q⟩
          | false =>
            refine pe_imp (pe_orT ih.1 (ir.1 pos)) fun σ H Q q => ?_
            obtain ⟨m, en, hh, Q', Xx, S, E, xp, w, p⟩ := fin σ H Q q
            refine ⟨m, en, hh, Q', Xx, S, E, xp, w, fun m' v H' d h' x S' r q => ?_⟩
            obtain ⟨t, tv, q⟩ := p m' v H' d h' x S' r q
            exact ⟨t, tv, by cases t <;> simpa using q⟩
        · have fin : ∀ (σ : L2.St) (H : Hp) (Q : Bool → Hp → Prop), tTB (C) X.K ca kk (.cons a (.cons b r)) σ H Q → tT (C) X.K ca a σ H fun t H1 => if t = kk then tTB (C) X.K ca kk (.cons b r) σ H1 Q else Q t H1 := by
            rintro σ H Q ⟨m, en, hh, Q', Xx, S, E, xp, w, p⟩
            unfold wpB at w
            refine ⟨m, en, hh, _, Xx, S, E, xp, w, fun m' H' d h' x S' q => tru_twice (tru_imp q fun t q => ?_)⟩
            split at q
            · rw [if_pos (by assumption)]
              exact ⟨m', en, h', Q', Xx, S', E.mono x, xp.mono x, q, fun m2 H2 b2 h2 x2 => p m2 H2 b2 h2 (x.trans x2)⟩
            · rw [if_neg (by assumption)]
              exact p m' H' d h' x S' q
          cases kk with
          | true =>
            refine pw_imp (pw_and ih.2 (ir.2 pos)) fun σ H Q q => ?_
            obtain ⟨m, en, hh, Q', Xx, S, E, xp, w, p⟩ := fin σ H Q q
            refine ⟨m, en, hh, Q', Xx, S, E, xp, w, fun m' H' d h' x S' q => tru_imp (p m' H' d h' x S' q) fun t q => ?_⟩
            cases t <;> simpa using q
          | false =>
            refine pw_imp (pw_or ih.2 (ir.2 pos)) fun σ H Q q => ?_
            obtain ⟨m, en, hh, Q', Xx, S, E, xp, w, p⟩ := fin σ H Q q
            refine ⟨m, en, hh, Q', Xx, S, E, xp, w, fun m' H' d h' x S' q => tru_imp (p m' H' d h' x S' q) fun t q => ?_⟩
            cases t <;> simpa using q
      · cases h
theorem sndHA (a : Es) (hC : C.gl = fun x => T.gls.lookup x) (hf : C.fl = T.fl) (hs : C.sb = T.sb) (hx : C.xk = T.xk) {ca : Cj} {N : List Str} {sc : Scope} {fc : Str → Bool} {X : Cx} {xs : List Expr} (c : Ct0 g T ca N sc fc X) (t : tameEs g a = true) (h : ckEs a N sc fc xs = true) : PA X xs (tA (C) X.K ca a) := by
  cases a with
  | nil =>
    unfold ckEs at h
    split at h
    · refine pa_imp pa_nil fun σ H Q ⟨m, en, hh, Q', Xx, S, E, xp, w, p⟩ => ?_
      unfold wpEs at w
      exact p m [] H [] hh Ext.refl S .nil w
    · cases h
  | cons a r =>
    unfold ckEs at h
    split at h
    · simp only [Bool.and_eq_true] at h
      refine pa_imp (pa_cons (sndH a hC hf hs hx c (by simp only [tameEs, Bool.and_eq_true] at t; exact t.1) h.1.2).1 (sndHA r hC hf hs hx c (by simp only [tameEs, Bool.and_eq_true] at t; exact t.2) h.2) (star_cons _ _ _ h.1.1)) fun σ H Q ⟨m, en, hh, Q', Xx, S, E, xp, w, p⟩ => ?_
      unfold wpEs at w
      exact sub1 S E xp w fun m1 v1 H1 d1 h1 x1 S1 r1 w1 => ⟨m1, en, h1, _, Xx, S1, E.mono x1, xp.mono x1, w1, fun m2 vs H2 ds h2 x2 S2 rs q => p m2 (v1 :: vs) H2 (d1 :: ds) h2 (x1.trans x2) S2 (.cons (r1.mono x2) rs) q⟩
    · cases h
end
end
end Bp

namespace Bp
open PySem L2 PySem.Spec PyProof.Rows

section
variable {T : Tb} {k : Nat} {ca : Cj} {N : List Str} {sc : Scope} {X : Cx}

theorem kind_of (h : (match sc.kind with | .function => true | _ => false) = true) : sc.kind = .function := by
  split at h
  · assumption
  · cases h
theorem comp_parts {elt : E} {t : Tg} {it : Iv} {cc : Oe} {own : List (Str × Nat)} {fc : Str → Bool} {e : Expr} (h : ckE (.comp elt t it cc own) N sc fc e = true) : ∃ x tg iter ifs scope pos, e = .ListComp x [⟨tg, iter, ifs, 0⟩] scope pos ∧
    (blkC N sc scope own && nset iter && ckI it N sc fc tg iter && ckG t N (relS scope sc) (fun z => scope.names.lookup z == some .cell) tg && (tgSlots t).all (fun i => decide (i ∈ own.map (·.2))) &&
        (match (generalizing := false) cc, ifs with | .none, [] => true | .some a, [f] => ckE a N (relS scope sc) (fun z => scope.names.lookup z == some .cell) f | _, _ => false) && ckE elt N (relS scope sc) (fun z => scope.names.lookup z == some .cell) x) = true := by
  unfold ckE at h
  split at h
  · exact ⟨_, _, _, _, _, _, rfl, h⟩
  · cases h
theorem sw_false {env : Env} {elt : Expr} {gs : List Comprehension} {scope : Scope} {p py : Pos} {y : Str} {l : Nat} (hk : env.scope.kind = .function) (h : swB env.scope scope p.line y py.line = false) : swapsWith (.ListComp elt gs scope p) (some (.Name y py)) l env = pure false := by
  unfold swapsWith
  show (pure _ : Sem Bool) = pure false
  congr 1
  unfold swB lcl at h
  have hb : env.blockKind = .function := by unfold Env.blockKind; rw [hk]; rfl
  rw [hb]
  rw [hk] at h
  show ((ScopeKind.function == ScopeKind.function) && (env.scope.names.lookup y == some .local) && (py.line == p.line) && _) = false
  rw [← h]
  congr 2
  cases hx : env.scope.names.lookup y with
  | none => rfl
  | some kd => cases kd <;> rfl
theorem sw_notName {env : Env} {v tg : Expr} {l : Nat} (h : (match tg with | .Name _ _ => false | _ => true) = true) (h2 : (match v with | .SetComp _ _ _ _ => false | .DictComp _ _ _ _ _ => false | _ => true) = true) : swapsWith v (some tg) l env = pure false := by
  cases v <;> first | rfl | (cases tg <;> first | rfl | cases h) | cases h2
theorem sw_plain {env : Env} {v : Expr} {o : Option Expr} {l : Nat} (h : nlc v = true) : swapsWith v o l env = pure false := by
  cases v <;> first | rfl | cases h

theorem sws_none {env : Env} {ts vs : List Expr} {k1 k2 : Nat} {p1 p2 : Pos} (h : swNone env.scope ts vs = true) : swappedStores [.Tuple ts k1 p1] (.Tuple vs k2 p2) env = pure none := by
  unfold swappedStores
  simp only [pure_bind]
  split
  · rfl
  · rename_i h23
    split
    · rfl
    · unfold swNone at h
      rw [Bool.or_eq_true] at h
      have h := h.resolve_left fun z => h23 (by rw [z]; rfl)
      rw [Bool.or_eq_true] at h
      split
      · rfl
      · rename_i hn
        rcases h with h | h
        · exact absurd (by rw [Bool.or_eq_true]; exact .inl h) hn
        · rw [if_pos h]
def isLst : Expr → Bool | .List _ _ => true | _ => false
theorem sws_v {env : Env} {tg v : Expr} (h : isTup v = false) : swappedStores [tg] v env = pure none := by
  cases v <;> first | (cases tg <;> rfl) | cases h
theorem sws_t {env : Env} {tg v : Expr} (h : isTup tg = false) (h2 : isLst tg = false) : swappedStores [tg] v env = pure none := by
  cases tg <;> first | (cases v <;> rfl) | exact Bool.noConfusion h | exact Bool.noConfusion h2
theorem sws_some {env : Env} {x y : Str} {px py pt pt2 : Pos} {u v : Expr} {kt k2 : Nat} (hk : env.scope.kind = .function) (hx : env.scope.names.lookup x = some .local) (hy : env.scope.names.lookup y = some .local) (hxy : x ≠ y) (hl : (px.line == py.line) = true)
    (hf : (foldedForSure 8 u && foldedForSure 8 v) = false) (hc : (constantsAlone 8 u && constantsAlone 8 v) = false) (nu : nst u = true) (nv : nst v = true) : swappedStores [.Tuple [.Name x px, .Name y py] kt pt] (.Tuple [u, v] k2 pt2) env = pure (some [x, y]) := by
  have hb : env.blockKind = .function := by unfold Env.blockKind; rw [hk]; rfl
  have hl' : (py.line == px.line) = true := by rw [beq_iff_eq] at hl ⊢; exact hl.symm
  have h1 : env.kindOf x = some .local := hx
  have h2 : env.kindOf y = some .local := hy
  have hl2 : py.line = px.line := by rw [beq_iff_eq] at hl; exact hl.symm
  have e2 : (y == x) = false := by rw [beq_eq_false_iff_ne]; exact fun z => hxy z.symm
  unfold swappedStores
  simp only [pure_bind]
  split
  · rename_i hh
    exact absurd hh (by rw [hb]; simp)
  · split
    · rename_i hh
      simp only [List.any_cons, List.any_nil, Bool.or_false, Bool.or_eq_true] at hh
      rcases hh with hh | hh
      · split at hh
        · exact Bool.noConfusion nu
        · cases hh
      · split at hh
        · exact Bool.noConfusion nv
        · cases hh
    · simp only [List.filterMap_cons, List.filterMap_nil, List.head?_cons, Option.map_some, Option.getD_some, h1, h2, hl2, Expr.pos, beq_self_eq_true, Bool.and_self, if_true]
      split
      · rename_i hh
        simp [List.eraseDups_cons, e2] at hh
      · split
        · rename_i hh
          simp only [List.all_cons, List.all_nil, Bool.and_true] at hh
          rw [hf] at hh
          cases hh
        · split
          · rename_i hh
            simp only [List.all_cons, List.all_nil, Bool.and_true] at hh
            rw [hc] at hh
            cases hh
          · rfl
theorem sws_some3 {env : Env} {x y z : Str} {px py pz pt pt2 : Pos} {u v w : Expr} {kt k2 : Nat} (hk : env.scope.kind = .function) (hx : env.scope.names.lookup x = some .local) (hy : env.scope.names.lookup y = some .local) (hz : env.scope.names.lookup z = some .local) (hxy : x ≠ y) (hxz : x ≠ z) (hyz : y ≠ z) (hl : py.line = px.line) (hl2 : pz.line = px.line)
    (hf : (foldedForSure 8 u && foldedForSure 8 v && foldedForSure 8 w) = false) (hc : (constantsAlone 8 u && constantsAlone 8 v && constantsAlone 8 w) = false) (nu : nst u = true) (nv : nst v = true) (nw : nst w = true) : swappedStores [.Tuple [.Name x px, .Name y py, .Name z pz] kt pt] (.Tuple [u, v, w] k2 pt2) env = pure (some [x, y, z]) := by
  have hb : env.blockKind = .function := by unfold Env.blockKind; rw [hk]; rfl
  have h1 : env.kindOf x = some .local := hx
  have h2 : env.kindOf y = some .local := hy
  have h3 : env.kindOf z = some .local := hz
  have e2 : (y == x) = false := by rw [beq_eq_false_iff_ne]; exact fun z => hxy z.symm
  have e3 : (z == x) = false := by rw [beq_eq_false_iff_ne]; exact fun z => hxz z.symm
  have e4 : (z == y) = false := by rw [beq_eq_false_iff_ne]; exact fun z => hyz z.symm
  unfold swappedStores
  simp only [pure_bind]
  split
  · rename_i hh
    exact absurd hh (by rw [hb]; simp)
  · split
    · rename_i hh
      simp only [List.any_cons, List.any_nil, Bool.or_false, Bool.or_eq_true] at hh
      rcases hh with hh | hh | hh
      · split at hh
        · exact Bool.noConfusion nu
        · cases hh
      · split at hh
        · exact Bool.noConfusion nv
        · cases hh
      · split at hh
        · exact Bool.noConfusion nw
        · cases hh
    · simp only [List.filterMap_cons, List.filterMap_nil, List.head?_cons, Option.map_some, Option.getD_some, h1, h2, h3, hl, hl2, Expr.pos, beq_self_eq_true, Bool.and_self, if_true]
      split
      · rename_i hh
        simp [List.eraseDups_cons, e2, e3, e4] at hh
      · split
        · rename_i hh
          simp only [List.all_cons, List.all_nil, Bool.and_true] at hh
          rw [← Bool.and_assoc, hf] at hh
          cases hh
        · split
          · rename_i hh
            simp only [List.all_cons, List.all_nil, Bool.and_true] at hh
            rw [← Bool.and_assoc, hc] at hh
            cases hh
          · rfl
def iBo (K : PySem.W.Frag) : Bo → R2
  | .add => fun x y H Q => rI0 (fun i j => .int (i + j)) x y H Q ∨ rStrAdd x y H Q
  | .sub => rI0 fun i j => .int (i - j)
  | .mul => rI CMul fun i j => .int (i * j)
  | .fdiv => rI CDiv fun i j => .int (i / j)
  | .mod => rI (fun _ j => 0 < j) fun i j => .int (i % j)
  | _ => fun _ _ _ _ => False
theorem ip_bo (o : Bo) : PIp X (boP o) (iBo X.K o) := by
  cases o with
  | add => exact iop_add.or iop_add_str
  | sub => exact iop_sub
  | mul => exact iop_mul
  | fdiv => exact iop_fdiv
  | mod => exact iop_mod
  | pow => intro _ _ _ _ _ _ _ _ _ _ _ _ h; exact h.elim
  | xor => intro _ _ _ _ _ _ _ _ _ _ _ _ h; exact h.elim

theorem aug_plain {i : Expr} (h : nsl i = true) : ∀ ov iv new, augStore i ov iv new = (do holding [new, ov, iv] (setItem ov iv new); release [new, ov, iv] []; pure .next) := by
  cases i <;> first | (intros; rfl) | cases h
def rGetL (K : PySem.W.Frag) : V → V → Hp → VK → Prop := fun o i H Q => ∃ (p : Addr) (xs : List V) (k : Int) (v : V), o = .ref p ∧ i = .int k ∧ SqL K H p xs ∧ 0 ≤ k ∧ atI xs k = some v ∧ Q v H
theorem get_list : PGet X (rGetL X.K) := by
  intro pins s σ H o i ov iv Q I ro ri h
  obtain ⟨p, xs, k, v, rfl, rfl, hq, h0, he, q⟩ := h
  cases ro
  obtain ⟨t, rfl⟩ := ri
  obtain ⟨its, r, pl, hz⟩ := I.list hq
  obtain ⟨j, h1, h2, h3, h4, h5⟩ := atI_get he
  obtain ⟨w, ew, rw'⟩ := r.get h2
  have hl := r.length
  have hn := line63
  have hj : k.toNat = j := by
    rw [seqIndex_of h0 h5] at h1
    exact Option.some.inj h1
  exact wpAny_getItem_list pl.isList h0 (by omega) (by rw [hj]; simpa using ew) ⟨v, H, I, rw', q⟩
theorem for_sound {C : Cn} {K : PySem.W.Frag} {t : Tg} {it : Iv} {b : Ss} {σ : L2.St} {H : Hp} {D : Ends} (q : tS C K ca (.each t it b) D σ H) : tFor (tI C K ca it) (tG C K ca t) (tSs C K ca b) D σ H := by
  obtain ⟨m, en, hh, P, S, E, w, p⟩ := q
  unfold wpS at w
  refine ⟨m, en, hh, _, P.ex en, S, E, p.2.2.2.2 _ _, w, fun m1 H1 J s h1 x1 S1 wd w1 => ?_⟩
  refine ⟨fun i mm σ2 H2 => mm = s.items.length - i ∧ i ≤ s.items.length ∧ ∃ m' e' h', Ext K H1 m1 H2 m' ∧ Sm K ca H2 m' h' ∧ Er K H2 m' σ2 e' ∧
      forW s.ok (fun d e2 h2 kk => wpG C t (fun _ _ _ => False) d e2 h2 fun e3 h3 => wpSs C b e3 h3 { P with nx := kk, ct := kk, bk := P.nx }) P.nx (s.items.drop i) e' h',
    ⟨_, rfl, Nat.zero_le _, m1, en, h1, Ext.refl, S1, E.mono x1, w1⟩, ?_⟩
  rintro i mm σ2 H2 ⟨rfl, hi, m', e', h', xx, S', E', w'⟩
  by_cases hlt : i < s.items.length
  · rw [List.drop_eq_getElem_cons hlt] at w'
    unfold forW at w'
    refine .inr ⟨wd.goes i H2 m' h' hlt xx S' w'.1, fun σ3 H3 => ∃ m'' e'' h'', Ext K H1 m1 H3 m'' ∧ Sm K ca H3 m'' h'' ∧ Er K H3 m'' σ3 e'' ∧
      forW s.ok (fun d e2 h2 kk => wpG C t (fun _ _ _ => False) d e2 h2 fun e3 h3 => wpSs C b e3 h3 { P with nx := kk, ct := kk, bk := P.nx }) P.nx (s.items.drop (i + 1)) e'' h'',
      fun σ3 H3 ⟨m'', e'', h'', a1, a2, a3, a4⟩ => ⟨s.items.length - (i + 1), by omega, rfl, hlt, m'', e'', h'', a1, a2, a3, a4⟩, fun x H3 hy => ?_⟩
    obtain ⟨y1, y2, y3, y4⟩ := wd.yields i H2 x H3 m' h' _ (List.getElem?_eq_getElem hlt) xx S' w'.1 hy
    refine ⟨m', e', h', _, _, _, y2, E'.mono y1, y3, xnF, w'.2, fun m3 σ3 H4 e3 h3 x3 S3 E3 _ q3 => ?_⟩
    have xa : Ext K H1 m1 H4 m3 := (xx.trans y1).trans x3
    refine ⟨m3, e3, h3, _, S3, E3, q3, fun m4 σ4 H5 e4 h4 x4 S4 E4 q4 => ⟨m4, e4, h4, xa.trans x4, S4, E4, q4⟩, p.2.1.mono (x1.trans xa), fun m4 σ4 H5 e4 h4 x4 S4 E4 q4 => p.1 m4 σ4 H5 e4 h4 ((x1.trans xa).trans x4) S4 E4 q4, fun m4 σ4 H5 e4 h4 x4 S4 E4 q4 => ⟨m4, e4, h4, xa.trans x4, S4, E4, q4⟩, fun σ e => (p.2.2.2.2 σ e).mono (x1.trans xa)⟩
  · have e : i = s.items.length := by omega
    subst e
    rw [List.drop_length] at w'
    unfold forW at w'
    exact .inl ⟨wd.stops H2 m' h' xx S' w'.1, p.1 m' σ2 H2 e' h' (x1.trans xx) S' E' w'.2⟩
theorem Rk.getk {κ : Type} {K : PySem.W.Frag} {H : Hp} {m : List Addr} : ∀ {vs : List (κ × V)} {ds : List (κ × Bp.D)} {i : Nat} {k : κ} {v : V}, Rk K H m vs ds → vs[i]? = some (k, v) → ∃ d, ds[i]? = some (k, d)
  | _, _, _, _, _, .nil, e => by simp at e
  | _, _, 0, _, _, .cons r _, e => by simp at e; obtain ⟨rfl, rfl⟩ := e; exact ⟨_, rfl⟩
  | _, _, i + 1, k, v, .cons _ t, e => by
    obtain ⟨d, h1⟩ := Rk.getk (i := i) (k := k) (v := v) t (by simpa using e)
    exact ⟨d, by simpa using h1⟩
theorem r_key {K : PySem.W.Frag} {H : Hp} {m : List Addr} (k : Key) : R K H m (kV k) (keyD k) := by
  cases k with
  | inl i => exact .int i
  | inr s => exact .str s
theorem while_sound {C : Cn} {K : PySem.W.Frag} {c : E} {b : Ss} {σ : L2.St} {H : Hp} {D : Ends} (q : tS C K ca (.loop c b) D σ H) : tWhile (tT C K ca c) (tSs C K ca b) D σ H := by
  obtain ⟨m, en, hh, P, S, E, w, p⟩ := q
  unfold wpS at w
  obtain ⟨W, ⟨m0, w0⟩, turn⟩ := w
  refine ⟨fun mm σ2 H2 => ∃ m' e' h', Ext K H m H2 m' ∧ Sm K ca H2 m' h' ∧ Er K H2 m' σ2 e' ∧ W mm e' h', ⟨m0, m, en, hh, Ext.refl, S, E, w0⟩, ?_⟩
  rintro mm σ2 H2 ⟨m', e', h', xx, S', E', w'⟩
  have t1 := turn mm e' h' w'
  unfold wpT at t1
  refine ⟨m', e', h', _, P.ex e', S', E', (p.2.2.2.2 _ _).mono xx, t1, fun m2 H3 d h2 x2 S2 q => tru_imp q fun bb q => ?_⟩
  cases bb with
  | false => exact p.1 m2 σ2 H3 e' h2 (xx.trans x2) S2 (E'.mono x2) q
  | true =>
    refine ⟨fun σ4 H4 => ∃ m'' , m'' < mm ∧ ∃ m3 e3 h3, Ext K H m H4 m3 ∧ Sm K ca H4 m3 h3 ∧ Er K H4 m3 σ4 e3 ∧ W m'' e3 h3, fun σ4 H4 ⟨m'', lt, r⟩ => ⟨m'', lt, r⟩, ?_⟩
    have xa := xx.trans x2
    exact ⟨m2, e', h2, _, S2, E'.mono x2, q, fun m4 σ4 H5 e4 h4 x4 S4 E4 ⟨m'', lt, q4⟩ => ⟨m'', lt, m4, e4, h4, xa.trans x4, S4, E4, q4⟩, p.2.1.mono xa, fun m4 σ4 H5 e4 h4 x4 S4 E4 q4 => p.1 m4 σ4 H5 e4 h4 (xa.trans x4) S4 E4 q4, fun m4 σ4 H5 e4 h4 x4 S4 E4 ⟨m'', lt, q4⟩ => ⟨m'', lt, m4, e4, h4, xa.trans x4, S4, E4, q4⟩, fun σ e => (p.2.2.2.2 σ e).mono xa⟩
theorem PostS.mono {K : PySem.W.Frag} {H H' : Hp} {m m' : List Addr} {P : Po} {D : Ends} (p : PostS K ca H m P D) (x : Ext K H m H' m') : PostS K ca H' m' P D :=
  ⟨fun m2 σ2 H2 e2 h2 x2 => p.1 m2 σ2 H2 e2 h2 (x.trans x2), p.2.1.mono x, fun m2 σ2 H2 e2 h2 x2 => p.2.2.1 m2 σ2 H2 e2 h2 (x.trans x2), fun m2 σ2 H2 e2 h2 x2 => p.2.2.2.1 m2 σ2 H2 e2 h2 (x.trans x2), fun σ e => (p.2.2.2.2 σ e).mono x⟩

/-- the frame of the def itself -/
def FrOk (X : Cx) : Prop := X.stack = X.env :: X.outer ∧ X.env.frame = some X.env.locals ∧ X.ex = []
theorem Ct.try_ {ca : Cj} (c : Ct T k ca N sc (fun _ => true) X) {W : WX} (pn : List (Addr × Obj)) (xe : Value → Shared → Prop) (tk : L2N.Takes (X.tr pn xe) W) : Ct T k ⟨ca.toCs, W⟩ N sc (fun _ => true) (X.tr pn xe) :=
  ⟨⟨c.hN, c.hsc, c.nd, c.un0, c.gd0, c.fn, c.blt, c.gls, c.cfl, c.exs⟩, c.calm, c.room, c.fs, c.tds, tk, c.cms, c.cmk⟩
theorem Ct.suiteA {ca : Cj} (c : Ct T k ca N sc (fun _ => true) X) (a : Addr) (pn : List (Addr × Obj)) : Ct0 true T ca.no N sc (fun _ => true) (suiteT X a pn) :=
  ⟨c.hN, c.hsc, c.nd, c.un0, c.gd0, c.fn, c.blt, c.gls, c.cfl, c.exs⟩
theorem Ct.suiteM {ca : Cj} (c : Ct T k ca N sc (fun _ => true) X) (a : Addr) (pn : List (Addr × Obj)) : Ct0 true T ca.no N sc (fun _ => true) (X.suite a pn) :=
  ⟨c.hN, c.hsc, c.nd, c.un0, c.gd0, c.fn, c.blt, c.gls, c.cfl, c.exs⟩
def tTh (C : Cn) (K : PySem.W.Frag) (ca : Cj) (a : List Th) : TS := fun D σ H => ∃ m e h P, Sm K ca H m h ∧ Er K H m σ e ∧ wpTh C a e h P ∧ PostS K ca H m P D
/-- the table, as a context of ours has it -/
def CnOk (C : Cn) (T : Tb) : Prop := (C.gl = fun x => T.gls.lookup x) ∧ C.fl = T.fl ∧ C.sb = T.sb ∧ C.xk = T.xk
theorem sws1 {v tg : Expr} {l : Nat} {env : Env} (h : nlc v = true) : swapsWithSole [tg] v l env = pure false := by
  show swapsWith v (some tg) l env = pure false
  exact sw_plain h
theorem sndThA {C : Cn} (hC : CnOk C T) (su : List Th) {ca : Cj} {X : Cx} {sts : List Stmt} (c : Ct0 true T ca N sc (fun _ => true) X) (h : ckThA N sc su sts = true) : PSs X sts (tTh C X.K ca su) := by
  cases su with
  | nil =>
    unfold ckThA at h
    split at h
    · refine pss_imp pss_nil fun D σ H ⟨m, en, hh, P, S, E, w, p⟩ => ?_
      unfold wpTh at w
      exact p.1 m σ H en hh Ext.refl S E w
    · cases h
  | cons t r =>
    cases t with
    | asg j a =>
      unfold ckThA at h
      dsimp only at h
      split at h
      · rename_i y py v pos ys
        simp only [Bool.and_eq_true, Bool.not_eq_true'] at h
        obtain ⟨⟨⟨⟨⟨⟨h1, h2⟩, h3⟩, h4⟩, h5⟩, h6⟩, h7⟩ := h
        have ir := sndThA hC r c h7
        refine pss_imp (pss_cons (ps_asg (sndH a hC.1 hC.2.1 hC.2.2.1 hC.2.2.2 c h3 h6).1 (pg_name (i := j) c.hnd (c.slot h1) (.inl (c.lcl h2)) (.inr (c.lcl h2))) (sws1 h4) (sws_v h5) rfl) ir) fun D σ H ⟨m, en, hh, P, S, E, w, p⟩ => ?_
        unfold wpTh at w
        refine sub1 S E xpF w fun m1 v1 H1 d1 h1 x1 S1 r1 w1 => ?_
        exact ⟨m1, _, h1, P, S1, (E.mono x1).set r1 j, w1, p.mono x1⟩
      · cases h
    | ret a =>
      unfold ckThA at h
      dsimp only at h
      split at h
      · simp only [Bool.and_eq_true] at h
        obtain ⟨⟨h1, h2⟩, h3⟩ := h
        have ir := sndThA hC r c h3
        refine pss_imp (pss_cons (ps_ret (sndH a hC.1 hC.2.1 hC.2.2.1 hC.2.2.2 c h1 h2).1) ir) fun D σ H ⟨m, en, hh, P, S, E, w, p⟩ => ?_
        unfold wpTh at w
        exact ⟨m, en, hh, P.rt, _, S, E, xpF, w, p.2.1⟩
      · cases h
    | retn => (unfold ckThA at h; dsimp only at h; cases h)
    | expr a => (unfold ckThA at h; dsimp only at h; cases h)
/-- the methods that a suite may ask -/
def MsH (T : Tb) (ca : Cj) (X : Cx) : Prop := ∀ c m g C, T.mtk c m = some g → ca.ca c = some C → ∃ fa fd F, Cls X.K C ∧ Meth X.K C m fa ∧ T.df g = some F ∧ L2.Binds X.K fd F.ps [] ∧ L2H.FnH X.prog X.w X.K X.mg X.base CX0 1 fa fd F.ps (spH X.K ca.ca T g)
theorem sndThM {C : Cn} (hC : CnOk C T) (hm : C.mtk = T.mtk) (hf : C.fs = fun f ds h Q _ => fsH T f ds h Q) (su : List Th) {ca : Cj} {X : Cx} {sts : List Stmt} (hr : L2H.RoomH 1 X.A) (hh : L2H.HotC X) (ms : MsH T ca X) (c : Ct0 true T ca N sc (fun _ => true) X) (h : ckThM N sc su sts = true) : PSs X sts (tTh C X.K ca su) := by
  cases su with
  | nil =>
    unfold ckThM at h
    split at h
    · refine pss_imp pss_nil fun D σ H ⟨m, en, hh, P, S, E, w, p⟩ => ?_
      unfold wpTh at w
      exact p.1 m σ H en hh Ext.refl S E w
    · cases h
  | cons t r =>
    cases t with
    | asg j a => (unfold ckThM at h; dsimp only at h; cases h)
    | ret a =>
      unfold ckThM at h
      dsimp only at h
      split at h
      · simp only [Bool.and_eq_true] at h
        obtain ⟨⟨h1, h2⟩, h3⟩ := h
        have ir := sndThM hC hm hf r hr hh ms c h3
        refine pss_imp (pss_cons (ps_ret (sndH a hC.1 hC.2.1 hC.2.2.1 hC.2.2.2 c h1 h2).1) ir) fun D σ H ⟨m, en, hh, P, S, E, w, p⟩ => ?_
        unfold wpTh at w
        exact ⟨m, en, hh, P.rt, _, S, E, xpF, w, p.2.1⟩
      · cases h
    | retn =>
      unfold ckThM at h
      dsimp only at h
      split at h
      · have ir := sndThM hC hm hf r hr hh ms c h
        refine pss_imp (pss_cons ps_retN ir) fun D σ H ⟨m, en, hh, P, S, E, w, p⟩ => ?_
        unfold wpTh at w
        exact p.2.1 m .non H .non hh Ext.refl S .non w
      · cases h
    | expr a =>
      cases a with
      | meth o mn es =>
        unfold ckThM at h
        dsimp only at h
        split at h
        · rename_i x n ap y ys cp ep zs
          simp only [Bool.and_eq_true, Bool.not_eq_true'] at h
          obtain ⟨⟨⟨⟨⟨⟨⟨⟨h1, h2⟩, h3⟩, h4⟩, h5⟩, h6⟩, h7⟩, h8⟩, h9⟩ := h
          have ex := of_decide_eq_true h3
          subst ex
          have hn := ck_nst (y :: ys) es h8
          have io := (sndH o hC.1 hC.2.1 hC.2.2.1 hC.2.2.2 c h1 h7).1
          have ia := sndHA es hC.1 hC.2.1 hC.2.2.1 hC.2.2.2 c h2 h8
          have ir := sndThM hC hm hf r hr hh ms c h9
          refine pss_imp (pss_cons (ps_expr (pe_methGH (E := fun _ _ _ _ => False) io hr hh (fun _ _ _ _ _ _ _ z => z.elim) ia (base_ok _ _ _ _ h5) (few_ok cp X.env _ hn (of_decide_eq_true h4)) h6 (star_cons _ _ _ (hn y List.mem_cons_self)) (star_any _ _ ys fun z hz => hn z (List.mem_cons_of_mem _ hz)))) ir) fun D σ H ⟨m, en, h0, P, S, E, w, p⟩ => ?_
          unfold wpTh wpE at w
          refine sub1 S E xpF w fun m1 v1 H1 d1 h1 x1 S1 r1 w1 => ?_
          obtain ⟨n', c', fs, g, rfl, e1, e2, e3, q⟩ := w1
          rw [hm] at e2
          rw [hf] at q
          cases r1 with
          | ref z =>
            obtain ⟨C', dx, vf, e4, e5, rk⟩ := S1.obj n' _ _ z e1
            obtain ⟨fa, fd, F, k1, k2, hF, k3, k4⟩ := ms c' n g C' e2 e5
            refine ⟨_, C', dx, vf, fa, fd, F.ps, _, rfl, e4, (show Ro X.K H1 m1 _ none from e3 ▸ rk.look).invN, k1, k2, k4, k3, ?_⟩
            refine ⟨m1, en, h1, _, _, S1, E.mono x1, xpF, q, fun m2 vs H2 ds h2 x2 S2 rs q2 => ?_⟩
            refine ⟨F, m2, h2, .ref n' :: ds, _, hF, ?_, S2.here, .cons (.ref (x2.pre _ _ z)) rs, q2, fun m3 v3 H3 d3 h3 x3 S3 r3 q3 => ⟨m3, en, h3, P, S3.there S2.or, E.mono ((x1.trans x2).trans x3), q3, p.mono ((x1.trans x2).trans x3)⟩⟩
            obtain ⟨F', hF', hl, _⟩ := q2
            rw [hF] at hF'
            cases hF'
            rw [List.length_cons] at hl ⊢
            rw [rs.len]; exact hl
        · cases h
      | _ => (unfold ckThM at h; dsimp only at h; cases h)
/-- a class's value -/
def clsOf (cf : Str → Option Addr) (c : Str) : Value := match cf c with
  | some C => .ref C
  | none => .none
def hsL (C : Cn) (K : PySem.W.Frag) (ca : Cj) (hs : List (Str × List Th)) : List (Value × (Addr → Value → Option Addr → TS)) := hs.map fun p => (clsOf ca.ca p.1, fun _ _ _ => tTh C.hot K ca.no p.2)
theorem hds_ok {ca : Cj} (c : Ct T k ca N sc (fun _ => true) X) : ∀ (hs : List (Str × List Th)) (hds : List ExceptHandler), ckHs N sc hs hds = true → (hs.all fun y => (T.xk y.1).isSome) = true → L2N.HdsOk X hds (hsL (cnOf T k) X.K ca hs) := by
  intro hs
  induction hs with
  | nil =>
    intro hds h _
    unfold ckHs at h
    split at h
    · exact .nil
    · cases h
  | cons p r ih =>
    obtain ⟨c0, su⟩ := p
    intro hds h hx
    unfold ckHs at h
    split at h
    · simp only [Bool.and_eq_true, Bool.not_eq_true'] at h
      obtain ⟨⟨⟨⟨h1, h2⟩, h3⟩, h4⟩, h5⟩ := h
      have ex := (of_decide_eq_true h1).symm
      subst ex
      rw [List.all_cons, Bool.and_eq_true] at hx
      obtain ⟨k0, hk0⟩ := Option.isSome_iff_exists.mp hx.1
      obtain ⟨C0, f1, f2, f3, _⟩ := c.exs.cls _ k0 hk0
      have ec : clsOf ca.ca c0 = .ref C0 := by unfold clsOf; rw [f1]
      refine .cons ⟨c.gl h2, h3, .inl (by rw [ec]; exact f2)⟩ (fun a oe cls d pn hz hv => ?_) (ih _ h5 hx.2)
      obtain ⟨vs, hvs⟩ := hv
      exact sndThM ⟨rfl, rfl, rfl, rfl⟩ rfl rfl su (L2H.roomH_mark (c.room.mono (by omega)) _) ⟨(a, oe), ⟨rfl, vs, hvs, hz.2.2 vs hvs⟩, List.mem_cons_self⟩
        (fun c' m g C hg hc => by obtain ⟨fa, fd, F, k1, k2, k3, k4, _, k6⟩ := c.cms c' m g C hg hc; exact ⟨fa, fd, F, k1, k2, k3, k4, k6⟩) (c.suiteM a ((a, oe) :: pn)) h4
    · cases h
theorem wm_ok {ca : Cj} (XO : XsOk X.K X.mg ca.ca T) {P : Po} {D : Ends} {H : Hp} {m : List Addr} {c : Str} {p : Option Bp.D} {cls : Value} {d : Option Addr} {σ : L2.St} {e : En} {h : Hh} (S : Sm X.K ca H m h) (E : Er X.K H m σ e) (r : Xrel X.K ca.ca H m c p cls d) (po : PostS X.K ca H m P D) :
    ∀ hs : List (Str × List Th), (hs.all fun y => (T.xk y.1).isSome) = true → wpHs (cnOf T k) P c p e h hs → wMany X.K ca.W D (hsL (cnOf T k) X.K ca hs) cls d σ H
  | [], _, w => po.2.2.2.2 σ e m H h c p cls d Ext.refl S E r w
  | (c0, su) :: rr, hx, w => by
    unfold wpHs at w
    rw [List.all_cons, Bool.and_eq_true] at hx
    obtain ⟨k0, hk0⟩ := Option.isSome_iff_exists.mp hx.1
    obtain ⟨kc, hkc⟩ := Option.isSome_iff_exists.mp w.1
    obtain ⟨C0, f1, _⟩ := XO.cls _ k0 hk0
    obtain ⟨C, g1, rfl, g3⟩ := id r
    have ec : clsOf ca.ca c0 = .ref C0 := by unfold clsOf; rw [f1]
    refine ⟨T.sb c c0, by rw [ec]; exact (XO.exm c kc c0 k0 C C0 hkc hk0 g1 f1).1, fun hb a ha => ?_, fun hb => ?_⟩
    · have q2 := w.2
      rw [show (cnOf T k).sb c c0 = true from hb, if_pos rfl] at q2
      exact ⟨m, e, h, _, S, E, q2, po.1, po.2.1, po.2.2.1, po.2.2.2.1, fun _ _ => xpF⟩
    · have q2 := w.2
      rw [show (cnOf T k).sb c c0 = false from hb] at q2
      exact wm_ok XO S E r po rr hx.2 (by simpa using q2)
mutual
theorem sndS (a : S) {ca : Cj} {X : Cx} {st : Stmt} (c : Ct T k ca N sc (fun _ => true) X) (hk : sc.kind = .function) (hp : PassesOwn (model X.prog X.w) X.A X.env X.xe) (fr : FrOk X) (h : ckS a N sc st = true) : PS X st (tS (cnOf T k) X.K ca a) := by
  have hk' : X.env.scope.kind = .function := by rw [c.hsc]; exact hk
  cases a with
  | asg t a =>
    unfold ckS at h
    split at h
    · simp only [Bool.and_eq_true] at h
      obtain ⟨⟨⟨h0, h1⟩, h2⟩, h3⟩ := h
      have ie := (sndE a c h2).1
      have ig := sndG t c h1
      have fin : ∀ (D : Ends) (σ : L2.St) (H : Hp), tS (cnOf T k) X.K ca (.asg t a) D σ H → tAsg (tE (cnOf T k) X.K ca a) (tG (cnOf T k) X.K ca t) D σ H := by
        rintro D σ H ⟨m, en, hh, P, S, E, w, p⟩
        unfold wpS at w
        exact sub1 S E (p.2.2.2.2 _ _) w fun m1 v1 H1 d1 h1 x1 S1 r1 w1 => ⟨m1, en, h1, d1, _, _, S1, E.mono x1, r1, xnF, w1, fun m2 σ2 H2 e2 h2 x2 S2 E2 _ q => p.1 m2 σ2 H2 e2 h2 (x1.trans x2) S2 E2 q⟩
      have asg1 : ∀ tg : Expr, nst tg = true → (assignEach [tg] X.env).map (·.2) = [assign tg X.env] := fun tg hn => by rw [assign_cons _ _ _ hn]; rfl
      refine ps_imp (ps_asg ie ig ?_ ?_ (asg1 _ h0)) fin
      · show swapsWith _ (some _) _ X.env = pure false
        split at h3
        · split at h3
          · rename_i y py
            rw [Bool.not_eq_true'] at h3
            exact sw_false hk' (by rw [c.hsc]; exact h3)
          · rename_i hne
            exact sw_notName (by split <;> first | rfl | exact absurd rfl (hne _ _)) rfl
        · cases h3
        · cases h3
        · rfl
        · rename_i n1 n2 n3 n4
          refine sw_plain ?_
          unfold nlc
          split <;> first | rfl | exact absurd rfl (n1 _ _ _ _) | exact absurd rfl (n2 _ _ _ _) | exact absurd rfl (n3 _ _ _ _ _)
      · split at h3
        · exact sws_v rfl
        · cases h3
        · cases h3
        · split at h3
          · exact sws_none (by rw [c.hsc]; exact h3)
          · cases h3
          · rename_i n1 n2
            refine sws_t ?_ ?_
            · unfold isTup; split <;> first | rfl | exact absurd rfl (n1 _ _ _)
            · unfold isLst; split <;> first | rfl | exact absurd rfl (n2 _ _)
        · rename_i n1 n2 n3 n4
          refine sws_v ?_
          unfold isTup
          split <;> first | rfl | exact absurd rfl (n4 _ _ _)
    · cases h
  | setc i elt t it cc own =>
    unfold ckS at h
    split at h
    · simp only [Bool.and_eq_true] at h
      obtain ⟨⟨⟨g1, g2⟩, g3⟩, h⟩ := h
      obtain ⟨x0, tg, iter, ifs, scope, pos, he, h⟩ := comp_parts h
      injection he with e1 e2 e3 e4
      rw [e3, e4] at g3
      rw [e1, e2, e3, e4]
      simp only [Bool.and_eq_true] at h
      obtain ⟨⟨⟨⟨⟨⟨h1, h2⟩, h3⟩, h4⟩, h5⟩, h6⟩, h7⟩ := h
      · have ii := sndI it c h3
        have ig : ∀ (s : Shared) (H : Hp) (C : Addr) (cl : List (Str × Addr)) (fp : List Addr), PG (X.blk s H scope (compEnvC scope cl C X.env) fp) tg (tG (cnOf T k) X.K ca.no t) := fun s H C cl fp => sndG t (c.blk s H scope C cl fp) h4
        have ie : ∀ (s : Shared) (H : Hp) (C : Addr) (cl : List (Str × Addr)) (fp : List Addr), PE (X.blk s H scope (compEnvC scope cl C X.env) fp) x0 (tE (cnOf T k) X.K ca.no elt) := fun s H C cl fp => (sndE elt (c.blk s H scope C cl fp) h7).1
        have ic : ∀ (s : Shared) (H : Hp) (C : Addr) (cl : List (Str × Addr)) (fp : List Addr), PTs (X.blk s H scope (compEnvC scope cl C X.env) fp) ifs (tC' (cnOf T k) X.K ca.no cc) := by
          intro s H C cl fp
          split at h6
          · exact ⟨fun pins s σ H Q I ⟨m, en, hh, Q', Xx, S, E, xp, w, p⟩ => pts_nil.run pins s σ H Q I (p m H true hh Ext.refl S (by unfold wpC at w; exact w))⟩
          · rename_i a f
            exact ⟨fun pins s σ H Q I ⟨m, en, hh, Q', Xx, S, E, xp, w, p⟩ => (pts_one (sndE a (c.blk _ _ scope C cl fp) h6).2).run pins s σ H Q I ⟨m, en, hh, _, Xx, S, E, xp, (by unfold wpC at w; exact w), fun m' H' d h' x S' q => tru_imp q fun b q => p m' H' b h' x S' q⟩⟩
          · cases h6
        have hsw := g3
        unfold swB at hsw
        simp only [Bool.and_eq_true, Bool.not_eq_true'] at hsw
        refine ps_imp (ps_setLc c.calm c.hnd (c.slot g1) (c.lcl g2) (sw_true hk' (c.lcl g2) hsw.1.2 hsw.2) ii (blkOk_by (by rw [c.hN, c.hsc]; exact h1)) ig ic ie fun v => nset_fold iter X.env v h2) fun D σ H ⟨m, en, hh, P, S, E, w, p⟩ => ?_
        unfold wpS at w
        refine lc_sound (all_mem h5) ⟨m, en, hh, _, P.ex en, S, E, p.2.2.2.2 _ _, w, fun m1 v1 H1 d1 h1 x1 S1 r1 w1 => ?_⟩
        exact p.1 m1 _ H1 _ h1 x1 S1 ((E.mono x1).set r1 i) w1
    · cases h
  | par i j a b =>
    unfold ckS at h
    split at h
    · simp only [Bool.and_eq_true, Bool.not_eq_true'] at h
      obtain ⟨⟨⟨⟨⟨⟨⟨⟨⟨⟨⟨⟨⟨h1, h2⟩, h3⟩, h4⟩, h5⟩, h6⟩, h7⟩, h8⟩, h9⟩, h10⟩, h11⟩, h12⟩, h13⟩, h14⟩ := h
      refine ps_imp (ps_par c.calm c.hnd (c.slot h1) (c.slot h2) (of_decide_eq_true h3) (c.lcl h5) (c.lcl h6) (pa_cons (sndE a c h13).1 (pa_cons (sndE b c h14).1 pa_nil (star_cons _ _ _ h12)) (star_cons _ _ _ h11)) (sws_some hk' (c.lcl h5) (c.lcl h6) (of_decide_eq_true h4) h7 h9 h10 h11 h12) rfl) fun D σ H ⟨m, en, hh, P, S, E, w, p⟩ => ?_
      unfold wpS at w
      refine sub1 S E (p.2.2.2.2 _ _) w fun m1 v1 H1 d1 h1 x1 S1 r1 w1 => sub1 S1 (E.mono x1) ((p.2.2.2.2 _ _).mono x1) w1 fun m2 v2 H2 d2 h2 x2 S2 r2 w2 => ?_
      exact ⟨v1, v2, rfl, p.1 m2 _ H2 _ h2 (x1.trans x2) S2 (((E.mono (x1.trans x2)).set (r1.mono x2) i).set r2 j) w2⟩
    · cases h
  | par3 i j l a b cc =>
    unfold ckS at h
    split at h
    · simp only [Bool.and_eq_true, Bool.not_eq_true'] at h
      obtain ⟨⟨⟨⟨⟨⟨⟨⟨⟨⟨⟨⟨⟨⟨⟨h1, h2⟩, h2'⟩, h3⟩, h4⟩, h5⟩, h6⟩, h6'⟩, ⟨h7, h7'⟩⟩, h8⟩, h9⟩, h10⟩, ⟨⟨h11, h12⟩, h12'⟩⟩, h13⟩, h14⟩, h15⟩ := h
      obtain ⟨i1, i2, i3⟩ := of_decide_eq_true h3
      obtain ⟨n1, n2, n3⟩ := of_decide_eq_true h4
      refine ps_imp (ps_par3 c.calm c.hnd (c.slot h1) (c.slot h2) (c.slot h2') i1 i2 i3 (c.lcl h5) (c.lcl h6) (c.lcl h6') (pa_cons (sndE a c h13).1 (pa_cons (sndE b c h14).1 (pa_cons (sndE cc c h15).1 pa_nil (star_cons _ _ _ h12')) (star_cons _ _ _ h12)) (star_cons _ _ _ h11)) (sws_some3 hk' (c.lcl h5) (c.lcl h6) (c.lcl h6') n1 n2 n3 (beq_iff_eq.mp h7).symm (beq_iff_eq.mp h7').symm h9 h10 h11 h12 h12') rfl) fun D σ H ⟨m, en, hh, P, S, E, w, p⟩ => ?_
      unfold wpS at w
      refine sub1 S E (p.2.2.2.2 _ _) w fun m1 v1 H1 d1 h1 x1 S1 r1 w1 => sub1 S1 (E.mono x1) ((p.2.2.2.2 _ _).mono x1) w1 fun m2 v2 H2 d2 h2 x2 S2 r2 w2 => sub1 S2 (E.mono (x1.trans x2)) ((p.2.2.2.2 _ _).mono (x1.trans x2)) w2 fun m3 v3 H3 d3 h3 x3 S3 r3 w3 => ?_
      exact ⟨v1, v2, v3, rfl, p.1 m3 _ H3 _ h3 ((x1.trans x2).trans x3) S3 ((((E.mono ((x1.trans x2).trans x3)).set (r1.mono (x2.trans x3)) i).set (r2.mono x3) j).set r3 l) w3⟩
    · cases h
  | aug i o a =>
    unfold ckS at h
    split at h
    · simp only [Bool.and_eq_true] at h
      obtain ⟨⟨⟨h1, h2⟩, h3⟩, h4⟩ := h
      have ex := of_decide_eq_true h3
      subst ex
      obtain ⟨l1, l2⟩ := c.loc h2
      refine ps_imp (ps_aug c.hnd (c.slot h1) l1 (sndE a c h4).1 (ip_bo o) l2) fun D σ H ⟨m, en, hh, P, S, E, w, p⟩ => ?_
      unfold wpS at w
      obtain ⟨x, ex, w⟩ := w
      obtain ⟨v, ev, rv⟩ := E.at_ i x ex
      refine ⟨v, ev, sub1 S E (p.2.2.2.2 _ _) w fun m1 v1 H1 d1 h1 x1 S1 r1 w1 => ?_⟩
      have rv1 := rv.mono x1
      have fin : ∀ {z : V} {d : Bp.D}, R X.K H1 m1 z d → P.nx (en.set i (some d)) h1 → D.nx (σ.set i (some z)) H1 := fun r q => p.1 m1 _ H1 _ h1 x1 S1 ((E.mono x1).set r i) q
      unfold wAug at w1
      split at w1
      · cases rv1; cases r1; exact .inl ⟨_, _, rfl, rfl, fin (.int _) w1⟩
      · cases rv1; cases r1; exact .inr ⟨_, _, rfl, rfl, lim _ w1.1, fin (.str _) w1.2⟩
      · cases rv1; cases r1; exact ⟨_, _, rfl, rfl, fin (.int _) w1⟩
      · cases rv1; cases r1; exact ⟨_, _, rfl, rfl, w1.1, fin (.int _) w1.2⟩
      · cases rv1; cases r1; exact ⟨_, _, rfl, rfl, w1.1, fin (.int _) w1.2⟩
      · cases rv1; cases r1; exact ⟨_, _, rfl, rfl, w1.1, fin (.int _) w1.2⟩
      · exact w1.elim
    · cases h
  | expr a =>
    unfold ckS at h
    split at h
    · simp only [Bool.and_eq_true] at h
      refine ps_imp (ps_expr (sndE a c h.2).1 (sw_plain h.1)) fun D σ H ⟨m, en, hh, P, S, E, w, p⟩ => ?_
      unfold wpS at w
      exact sub1 S E (p.2.2.2.2 _ _) w fun m1 v1 H1 d1 h1 x1 S1 r1 w1 => p.1 m1 σ H1 en h1 x1 S1 (E.mono x1) w1
    · cases h
  | ret a =>
    unfold ckS at h
    split at h
    · refine ps_imp (ps_ret (sndE a c h).1) fun D σ H ⟨m, en, hh, P, S, E, w, p⟩ => ?_
      unfold wpS at w
      exact ⟨m, en, hh, P.rt, P.ex en, S, E, p.2.2.2.2 _ _, w, p.2.1⟩
    · cases h
  | ite cc a b =>
    unfold ckS at h
    split at h
    · simp only [Bool.and_eq_true] at h
      refine ps_imp (ps_if (sndE cc c h.1.1).2 (sndSs a c hk hp fr h.1.2) (sndSs b c hk hp fr h.2)) fun D σ H ⟨m, en, hh, P, S, E, w, p⟩ => ?_
      unfold wpS wpT at w
      refine ⟨m, en, hh, _, P.ex en, S, E, p.2.2.2.2 _ _, w, fun m' H' d h' x S' q => tru_imp q fun bb q => ?_⟩
      cases bb with
      | true => exact ⟨m', en, h', P, S', E.mono x, q, p.mono x⟩
      | false => exact ⟨m', en, h', P, S', E.mono x, q, p.mono x⟩
    · cases h
  | loop cc b =>
    unfold ckS at h
    split at h
    · simp only [Bool.and_eq_true] at h
      exact ps_imp (ps_while hp (sndE cc c h.1).2 (sndSs b c hk hp fr h.2)) fun D σ H q => while_sound q
    · cases h
  | each t it b =>
    unfold ckS at h
    split at h
    · simp only [Bool.and_eq_true] at h
      obtain ⟨⟨⟨h1, h2⟩, h3⟩, h4⟩ := h
      exact ps_imp (ps_for hp c.calm (sndI it c h2) (sndG t c h3) (sndSs b c hk hp fr h4) fun v => nset_fold _ X.env v h1) fun D σ H q => for_sound q
    · cases h
  | eachK t i b =>
    refine ⟨fun pins s σ H D I ⟨m, en, hh, P, S, E, w, p⟩ => ?_⟩
    unfold wpS at w
    exact w.elim
  | brk =>
    unfold ckS at h
    split at h
    · refine ps_imp ps_break fun D σ H ⟨m, en, hh, P, S, E, w, p⟩ => ?_
      unfold wpS at w
      exact p.2.2.1 m σ H en hh Ext.refl S E w
    · cases h
  | cont =>
    unfold ckS at h
    split at h
    · refine ps_imp ps_continue fun D σ H ⟨m, en, hh, P, S, E, w, p⟩ => ?_
      unfold wpS at w
      exact p.2.2.2.1 m σ H en hh Ext.refl S E w
    · cases h
  | pass =>
    unfold ckS at h
    split at h
    · refine ps_imp ps_pass fun D σ H ⟨m, en, hh, P, S, E, w, p⟩ => ?_
      unfold wpS at w
      exact p.1 m σ H en hh Ext.refl S E w
    · cases h
  | setf o f a =>
    unfold ckS at h
    split at h
    · simp only [Bool.and_eq_true] at h
      obtain ⟨⟨⟨h1, h2⟩, h3⟩, h4⟩ := h
      have ex := of_decide_eq_true h1
      subst ex
      refine ps_imp (ps_fld (sndE o c h3).1 (sndE a c h4).1 (sw_notName rfl h2)) fun D σ H ⟨m, en, hh, P, S, E, w, p⟩ => ?_
      unfold wpS at w
      refine sub1 S E (p.2.2.2.2 _ _) w fun m1 v1 H1 d1 h1 x1 S1 r1 w1 => sub1 S1 (E.mono x1) ((p.2.2.2.2 _ _).mono x1) w1 fun m2 v2 H2 d2 h2 x2 S2 r2 w2 => ?_
      obtain ⟨n, c', fs, rfl, e1, e2, e3, q⟩ := w2
      cases r2 with
      | ref z =>
        obtain ⟨C, dx, vf, e4, e5, rk⟩ := S2.obj n _ _ z e1
        obtain ⟨k1, k2⟩ := c.cfl c' _ C e2 e5
        refine ⟨_, C, dx, vf, rfl, e4, k1, k2, by rw [rk.len]; exact e3, ?_⟩
        obtain ⟨S3, x3⟩ := S2.put (ho := .ins C dx (L2.putF _ v1 vf)) (o := .ins c' (putFD _ d1 fs)) e1 z rfl rfl fun H' ht e => ⟨C, dx, _, e, e5, (rk.mono0 ⟨fun _ _ z => z, ht⟩).putF _ ((r1.mono x2).mono0 ⟨fun _ _ z => z, ht⟩)⟩
        exact p.1 m2 σ _ en _ ((x1.trans x2).trans x3) S3 (E.mono ((x1.trans x2).trans x3)) q
    · cases h
  | augs o i op a =>
    unfold ckS at h
    split at h
    · simp only [Bool.and_eq_true] at h
      obtain ⟨⟨⟨⟨h1, h2⟩, h3⟩, h4⟩, h5⟩ := h
      have ex := of_decide_eq_true h1
      subst ex
      refine ps_imp (ps_augS (sndE o c h3).1 (sndE i c h4).1 get_list (sndE a c h5).1 (ip_bo op) set_list (aug_plain h2)) fun D σ H ⟨m, en, hh, P, S, E, w, p⟩ => ?_
      unfold wpS at w
      refine sub1 S E (p.2.2.2.2 _ _) w fun m1 v1 H1 d1 h1 x1 S1 r1 w1 => sub1 S1 (E.mono x1) ((p.2.2.2.2 _ _).mono x1) w1 fun m2 v2 H2 d2 h2 x2 S2 r2 w2 => ?_
      obtain ⟨n, xs, kk, v, rfl, e1, rfl, k0, e2, w3⟩ := w2
      have r1' := r1.mono x2
      cases r1' with
      | @ref a0 _ z =>
        cases r2
        obtain ⟨vs, e3, rv⟩ := S2.lstAt e1 z
        obtain ⟨v', e4, rv'⟩ := rv.at e2
        refine ⟨_, vs, kk, v', rfl, rfl, SqL.of e3, k0, e4, sub1 S2 (E.mono (x1.trans x2)) ((p.2.2.2.2 _ _).mono (x1.trans x2)) w3 fun m3 v3 H3 d3 h3 x3 S3 r3 w4 => ?_⟩
        have rv2 := rv'.mono x3
        have fin : ∀ {z' : V} {d : Bp.D}, R X.K H3 m3 z' d → (∃ ys j, h3[n]? = some (.lst ys) ∧ ixN ys.length kk = some j ∧ P.nx en (h3.set n (.lst (ys.set j d)))) → rSetL (.ref a0) (.int kk) z' H3 fun H6 => D.nx σ H6 := by
          rintro z' d r ⟨ys, j, e6, e7, q⟩
          have z3 := x3.pre _ _ z
          obtain ⟨ws, e8, rw2⟩ := S3.lstAt e6 z3
          refine ⟨_, ws, kk, j, rfl, rfl, e8, by rw [rw2.len]; exact e7, ?_⟩
          obtain ⟨S4, x4⟩ := S3.put (ho := .lst (ws.set j z')) (o := .lst (ys.set j d)) e6 z3 rfl rfl fun H' ht e => ⟨_, e, (Rs.set r j rw2).mono0 ⟨fun _ _ z => z, ht⟩⟩
          exact p.1 m3 σ _ en _ (((x1.trans x2).trans x3).trans x4) S4 (E.mono (((x1.trans x2).trans x3).trans x4)) q
        unfold wAug at w4
        split at w4
        · cases rv2; cases r3; exact .inl ⟨_, _, rfl, rfl, fin (.int _) w4⟩
        · cases rv2; cases r3; exact .inr ⟨_, _, rfl, rfl, lim _ w4.1, fin (.str _) w4.2⟩
        · cases rv2; cases r3; exact ⟨_, _, rfl, rfl, fin (.int _) w4⟩
        · cases rv2; cases r3; exact ⟨_, _, rfl, rfl, w4.1, fin (.int _) w4.2⟩
        · cases rv2; cases r3; exact ⟨_, _, rfl, rfl, w4.1, fin (.int _) w4.2⟩
        · cases rv2; cases r3; exact ⟨_, _, rfl, rfl, w4.1, fin (.int _) w4.2⟩
        · exact w4.elim
    · cases h
  | augf o f op a =>
    unfold ckS at h
    split at h
    · simp only [Bool.and_eq_true] at h
      obtain ⟨⟨⟨h1, h2⟩, h3⟩, h4⟩ := h
      have ex := of_decide_eq_true h1
      subst ex
      have ex := of_decide_eq_true h2
      subst ex
      rename_i x0 n0 p0 v0 p1
      refine ps_imp (ps_fldaug (sndE o c h3).1 (sndE a c h4).1 (ip_bo op)) fun D σ H ⟨m, en, hh, P, S, E, w, p⟩ => ?_
      unfold wpS at w
      refine sub1 S E (p.2.2.2.2 _ _) w fun m1 v1 H1 d1 h1 x1 S1 r1 w1 => ?_
      obtain ⟨n, c', fs, v, rfl, e1, e2, e3, w2⟩ := w1
      cases r1 with
      | @ref a0 _ z =>
        obtain ⟨C, dx, vf, e4, e5, rk⟩ := S1.obj n _ _ z e1
        obtain ⟨k1, k2⟩ := c.cfl c' _ C e2 e5
        obtain ⟨v', l', rv⟩ := (show Ro X.K H1 m1 _ (some v) from e3 ▸ rk.look).inv
        refine ⟨_, C, dx, vf, v', rfl, e4, k1, k2, l', sub1 S1 (E.mono x1) ((p.2.2.2.2 _ _).mono x1) w2 fun m2 v2 H2 d2 h2 x2 S2 r2 w3 => ?_⟩
        have rv2 := rv.mono x2
        have fin : ∀ {z' : V} {d : Bp.D}, R X.K H2 m2 z' d → (∃ fs', h2[n]? = some (.ins c' fs') ∧ fs'.length < 1000 ∧ P.nx en (h2.set n (.ins c' (putFD n0 d fs')))) → ∃ dx' fs', H2 a0 = some (.ins C dx' fs') ∧ fs'.length < 1000 ∧ D.nx σ (upd H2 a0 (.ins C dx' (L2.putF n0 z' fs'))) := by
          rintro z' d r ⟨fs', e6, e7, q⟩
          obtain ⟨C', dx', vf', e8, e9, rk'⟩ := S2.obj n _ _ (x2.pre _ _ z) e6
          have eC : some C = some C' := e5.symm.trans e9
          cases eC
          refine ⟨dx', vf', e8, by rw [rk'.len]; exact e7, ?_⟩
          obtain ⟨S3, x3⟩ := S2.put (ho := .ins C dx' (L2.putF n0 z' vf')) (o := .ins c' (putFD n0 d fs')) e6 (x2.pre _ _ z) rfl rfl fun H' ht e => ⟨C, dx', _, e, e5, (rk'.mono0 ⟨fun _ _ z => z, ht⟩).putF _ (r.mono0 ⟨fun _ _ z => z, ht⟩)⟩
          exact p.1 m2 σ _ en _ ((x1.trans x2).trans x3) S3 (E.mono ((x1.trans x2).trans x3)) q
        unfold wAug at w3
        split at w3
        · cases rv2; cases r2; exact .inl ⟨_, _, rfl, rfl, fin (.int _) w3⟩
        · cases rv2; cases r2; exact .inr ⟨_, _, rfl, rfl, lim _ w3.1, fin (.str _) w3.2⟩
        · cases rv2; cases r2; exact ⟨_, _, rfl, rfl, fin (.int _) w3⟩
        · cases rv2; cases r2; exact ⟨_, _, rfl, rfl, w3.1, fin (.int _) w3.2⟩
        · cases rv2; cases r2; exact ⟨_, _, rfl, rfl, w3.1, fin (.int _) w3.2⟩
        · cases rv2; cases r2; exact ⟨_, _, rfl, rfl, w3.1, fin (.int _) w3.2⟩
        · exact w3.elim
    · cases h
  | retn =>
    unfold ckS at h
    split at h
    · refine ps_imp ps_retN fun D σ H ⟨m, en, hh, P, S, E, w, p⟩ => ?_
      unfold wpS at w
      exact p.2.1 m .non H .non hh Ext.refl S .non w
    · cases h
  | rais =>
    refine ⟨fun pins s σ H D I ⟨m, en, hh, P, S, E, w, p⟩ => ?_⟩
    unfold wpS at w
    exact w.elim
  | tri b =>
    refine ⟨fun pins s σ H D I ⟨m, en, hh, P, S, E, w, p⟩ => ?_⟩
    unfold wpS at w
    exact w.elim
  | rais0 cn =>
    by_cases hx : T.xk cn = some false
    · unfold ckS at h
      split at h
      · simp only [Bool.and_eq_true, Bool.not_eq_true'] at h
        obtain ⟨⟨h1, h2⟩, h3⟩ := h
        have ex := (of_decide_eq_true h1).symm
        subst ex
        obtain ⟨C, f1, f2, f3, f4, _⟩ := c.exs.cls _ false hx
        refine ps_imp (L2N.ps_raise c.calm c.tk (L2N.pmk_own PySem.F.excBase_ValueError (f4 rfl) f2 f3.kp f3.raises (c.gl h2) h3)) fun D σ H ⟨m, en, hh, P, S, E, w, p⟩ => ?_
        unfold wpS at w
        exact p.2.2.2.2 σ en m H hh _ none _ none Ext.refl S E ⟨C, f1, rfl, trivial⟩ w.2
      · cases h
    · refine ⟨fun pins s σ H D I ⟨m, en, hh, P, S, E, w, p⟩ => ?_⟩
      unfold wpS at w
      exact absurd w.1 hx
  | raisR cn a =>
    unfold ckS at h
    split at h
    · simp only [Bool.and_eq_true, Bool.not_eq_true'] at h
      obtain ⟨⟨⟨⟨h1, h2⟩, h3⟩, h4⟩, h5⟩ := h
      have ex := (of_decide_eq_true h1).symm
      subst ex
      by_cases hx : T.xk cn = some true
      · obtain ⟨C, f1, f2, f3, _, f4⟩ := c.exs.cls _ true hx
        refine ps_imp (L2N.ps_raise c.calm c.tk (pmk_row (f4 rfl) c.room (c.gl h2) f2 (sndE a c h5).1 h3 (star_cons _ _ _ h4))) fun D σ H ⟨m, en, hh, P, S, E, w, p⟩ => ?_
        unfold wpS at w
        refine sub1 S E (p.2.2.2.2 _ _) w.2 fun m1 v1 H1 d1 h1 x1 S1 r1 w1 => ?_
        refine row_made (Q := fun cls d H' => ca.W cls d σ H') (f4 rfl).oc f3.nr fun d hd => ?_
        exact p.2.2.2.2 σ en m1 _ h1 cn (some d1) (.ref C) (some d) (x1.trans (Ext.new0 hd)) (S1.newx hd) (E.mono (x1.trans (Ext.new0 hd))) ⟨C, f1, rfl, (⟨_, upd_same, r1.mono (Ext.new0 hd)⟩ : ExP X.K _ m1 (some d1) (some d))⟩ w1
      · refine ⟨fun pins s σ H D I ⟨m, en, hh, P, S, E, w, p⟩ => ?_⟩
        unfold wpS at w
        exact absurd w.1 hx
    · cases h
  | tryA b cn i su =>
    unfold ckS at h
    split at h
    · simp only [Bool.and_eq_true, Bool.not_eq_true'] at h
      obtain ⟨⟨⟨⟨⟨⟨h1, h2⟩, h3⟩, h4⟩, h5⟩, h6⟩, h7⟩ := h
      have ex := (of_decide_eq_true h1).symm
      subst ex
      by_cases hx : (T.xk cn).isSome = true
      · obtain ⟨k0, hk0⟩ := Option.isSome_iff_exists.mp hx
        obtain ⟨C0, f1, f2, f3, _⟩ := c.exs.cls _ k0 hk0
        refine ps_imp (ps_try_asT (tb := fun W => tSs (cnOf T k) X.K ⟨ca.toCs, W⟩ b) (ts := fun _ => tTh (cnOf T k).hot X.K ca.no su) fr.1 fr.2.1 fr.2.2 c.hnd (c.slot h4) (c.lcl h5) ⟨c.gl h2, h3, .inl f2⟩ c.tk
          (fun W pn xe tk po => sndSs b (c.try_ pn xe tk) hk po fr h6) (fun a pn => sndThA ⟨rfl, rfl, rfl, rfl⟩ su (c.suiteA a pn) h7)) fun D σ H ⟨m, en, hh, P, S, E, w, p⟩ => ?_
        unfold wpS at w
        refine ⟨m, en, hh, _, S, E, w.2, p.1, p.2.1, p.2.2.1, p.2.2.2.1, ?_⟩
        intro σ' e' m' H' h' c' p' cls d x0 S' E' r' q
        obtain ⟨C, g1, rfl, g3⟩ := r'
        obtain ⟨kc, hkc⟩ := Option.isSome_iff_exists.mp q.1
        refine ⟨T.sb c' cn, (c.exs.exm c' kc cn k0 C C0 hkc hk0 g1 f1).1, fun hb a ha => ?_, fun hb => ?_⟩
        · have q2 := q.2
          rw [show (cnOf T k).sb c' cn = true from hb, if_pos rfl] at q2
          have x := Ext.new (K := X.K) (H := H') (m := m') (o := ExH (.ref C) d a) ha [a]
          have S2 : Sm X.K ca (upd H' a (ExH (.ref C) d a)) (m' ++ [a]) (h' ++ [.exc c' p']) := Sm.new (ca := ca.toCs) S' (o := .exc c' p') ha ⟨C, d, g1, upd_same, g3.mono x⟩
          refine ⟨m' ++ [a], _, _, _, S2, (E'.mono x).set (.ref (by rw [← S'.len]; simp)) i, q2, ?_⟩
          have xa : Ext X.K H m (upd H' a (ExH (.ref C) d a)) (m' ++ [a]) := x0.trans x
          exact ⟨fun m2 σ2 H2 e2 h2 x2 S3 E3 q3 => p.1 m2 _ H2 _ h2 (xa.trans x2) S3 (E3.unset i) q3, fun m2 v H2 d2 h2 x2 S3 r3 q3 => p.2.1 m2 v H2 d2 h2 (xa.trans x2) S3 r3 q3, fun m2 σ2 H2 e2 h2 x2 S3 E3 q3 => p.2.2.1 m2 _ H2 _ h2 (xa.trans x2) S3 (E3.unset i) q3, fun m2 σ2 H2 e2 h2 x2 S3 E3 q3 => p.2.2.2.1 m2 _ H2 _ h2 (xa.trans x2) S3 (E3.unset i) q3, fun _ _ => xpF⟩
        · have q2 := q.2
          rw [show (cnOf T k).sb c' cn = false from hb] at q2
          exact p.2.2.2.2 σ' e' m' H' h' c' p' _ d x0 S' E' ⟨C, g1, rfl, g3⟩ (by simpa using q2)
      · refine ⟨fun pins s σ H D I ⟨m, en, hh, P, S, E, w, p⟩ => ?_⟩
        unfold wpS at w
        exact absurd w.1 hx
    · cases h
  | tryM b hs =>
    unfold ckS at h
    split at h
    · rw [Bool.and_eq_true] at h
      obtain ⟨h1, h2⟩ := h
      by_cases hx : (hs.all fun y => (T.xk y.1).isSome) = true
      · refine ps_imp (L2N.ps_try_many (tb := fun W => tSs (cnOf T k) X.K ⟨ca.toCs, W⟩ b) fr.1 fr.2.1 c.tk (fun W pn xe tk po => sndSs b (c.try_ pn xe tk) hk po fr h1) (hds_ok c hs _ h2 hx)) fun D σ H ⟨m, en, hh, P, S, E, w, p⟩ => ?_
        unfold wpS at w
        refine ⟨m, en, hh, _, S, E, w.2, p.1, p.2.1, p.2.2.1, p.2.2.2.1, ?_⟩
        intro σ' e' m' H' h' c' p' cls d x0 S' E' r' q
        exact wm_ok c.exs S' E' r' (p.mono x0) hs hx q
      · refine ⟨fun pins s σ H D I ⟨m, en, hh, P, S, E, w, p⟩ => ?_⟩
        unfold wpS at w
        exact absurd w.1 hx
    · cases h
theorem sndSs (a : Ss) {ca : Cj} {X : Cx} {sts : List Stmt} (c : Ct T k ca N sc (fun _ => true) X) (hk : sc.kind = .function) (hp : PassesOwn (model X.prog X.w) X.A X.env X.xe) (fr : FrOk X) (h : ckSs a N sc sts = true) : PSs X sts (tSs (cnOf T k) X.K ca a) := by
  cases a with
  | nil =>
    unfold ckSs at h
    split at h
    · refine pss_imp pss_nil fun D σ H ⟨m, en, hh, P, S, E, w, p⟩ => ?_
      unfold wpSs at w
      exact p.1 m σ H en hh Ext.refl S E w
    · cases h
  | cons s r =>
    unfold ckSs at h
    split at h
    · rw [Bool.and_eq_true] at h
      refine pss_imp (pss_cons (sndS s c hk hp fr h.1) (sndSs r c hk hp fr h.2)) fun D σ H ⟨m, en, hh, P, S, E, w, p⟩ => ?_
      unfold wpSs at w
      exact ⟨m, en, hh, _, S, E, w, fun m1 σ1 H1 e1 h1 x1 S1 E1 w1 => ⟨m1, e1, h1, P, S1, E1, w1, p.mono x1⟩, p.2.1, p.2.2.1, p.2.2.2.1, p.2.2.2.2⟩
    · cases h
end
end
end Bp

namespace Bp
open PySem L2 PySem.Spec PyProof.Rows

/-- a def of the table as it stands behind the top -/
def FtOk (K : PySem.W.Frag) (mg : Str → Option Value) (f : Str) (F : Fn) : Prop :=
  ∃ (fa : Addr) (fd : FuncData) (st : Stmt), mg f = some (.ref fa) ∧ Fun K f f st fa fd ∧ L2.Binds K fd F.ps [] ∧ FnScope F.ns F.ps (defScope st) ∧ ckSs F.body F.ns (defScope st) (defBody st) = true
theorem lookup_mem {α : Type} {l : List (Str × α)} {f : Str} {x : α} (h : l.lookup f = some x) : (f, x) ∈ l := by
  induction l with
  | nil => cases h
  | cons p r ih =>
    obtain ⟨g, y⟩ := p
    rw [List.lookup_cons] at h
    cases hb : f == g with
    | true =>
      rw [hb] at h
      cases h
      rw [beq_iff_eq.mp hb]
      exact List.mem_cons_self
    | false =>
      rw [hb] at h
      exact List.mem_cons_of_mem _ (ih h)
theorem FnG.up {P : Program} {w : World} {K : PySem.W.Frag} {mg : Str → Option Value} {base : Heap} {cx : CXT} {lv : Nat} {fa : Addr} {fd : FuncData} {prm : List Str} {sp : Sp} (h : FnG P w K mg base cx lv fa fd prm sp) : FnG P w K mg base cx (lv + 1) fa fd prm sp :=
  ⟨h.len, fun ar out st H args ul ws Q E gd hr => h.run ar out st H args ul ws Q E gd (hr.mono (by omega))⟩
section
variable {P : Program} {w : World} {K : PySem.W.Frag} {mg : Str → Option Value} {base : Heap} {T : Tb} {ca : Str → Option Addr}
/-- the classes of the table as they stand behind the top -/
structure ClOk (K : PySem.W.Frag) (mg : Str → Option Value) (ca : Str → Option Addr) (T : Tb) : Prop where
  fl : ∀ c f C, T.fl c f = true → ca c = some C → Cls K C ∧ NoAttr K C f
  ms : ∀ c m g C, T.mtk c m = some g → ca c = some C → ∃ fa fd F st nm qn, Cls K C ∧ Meth K C m fa ∧ T.df g = some F ∧ Fun K nm qn st fa fd ∧ L2.Binds K fd F.ps [] ∧ FnScope F.ns F.ps (defScope st) ∧ ckSs F.body F.ns (defScope st) (defBody st) = true
  mks : ∀ c g, T.mtk c "__init__" = some g → isIni g = true ∧ ∃ C fa, ca c = some C ∧ mg c = some (.ref C) ∧ Mk K C fa
theorem clOk_nil (h : T.cls = []) : ClOk K mg ca T := by
  have a : ∀ c f, T.fl c f = false := fun c f => by unfold Tb.fl; rw [h]; rfl
  have b : ∀ c f, T.mtk c f = none := fun c f => by unfold Tb.mtk; rw [h]; rfl
  exact ⟨fun c f C z => (by rw [a] at z; cases z), fun c m g C z => (by rw [b] at z; cases z), fun c g z => (by rw [b] at z; cases z)⟩
/-- a def that a suite may ask: self.f = e -/
theorem fnH_all (hB : ∀ x ∈ bnames, mg x = none) (hG : ∀ x d, T.gls.lookup x = some d → ∃ v u, mg x = some u ∧ RelV v u ∧ ∀ H m, R K H m v d) (hC : ClOk K mg ca T) (hX : XsOk K mg ca T)
    (f nm qn : Str) (F : Fn) (fa : Addr) (fd : FuncData) (st : Stmt) (hf : T.df f = some F) (h2 : Fun K nm qn st fa fd) (h4 : FnScope F.ns F.ps (defScope st)) (h5 : ckSs F.body F.ns (defScope st) (defBody st) = true) :
    L2H.FnH P w K mg base CX0 1 fa fd F.ps (spH K ca T f) := by
  obtain ⟨oc, od, kV, doc, pm, an, cdv, ct, osl, rfl, lk, hcd⟩ := h2.ex
  have lens : ∀ (vs : List V) (H : Hp) (Q : VK) (E : XK), spH K ca T f vs H Q E → vs.length = F.ps.length := by
    rintro vs H Q E ⟨F', m, h, ds, Q', hf', hl, _⟩
    have : some F = some F' := hf.symm.trans hf'
    cases this
    exact hl
  refine L2H.fn_ofH (k := 0) lk hcd h4 lens fun A outer s H vs Q E p hot hr hsp => ?_
  obtain ⟨F', m, h, ds, Q', hf', hl, S, rs, q, po⟩ := hsp
  have e : some F = some F' := hf.symm.trans hf'
  cases e
  obtain ⟨F', hf'', hl2, ht, q⟩ := q
  have e : some F = some F' := hf.symm.trans hf''
  cases e
  obtain ⟨ps, ns, body⟩ := F
  dsimp only at *
  obtain ⟨o, fl, a, rfl, to, ta⟩ : ∃ o fl a, body = .cons (.setf o fl a) .nil ∧ tameE false o = true ∧ tameE false a = true := by
    unfold tameF at ht
    split at ht
    · rw [Bool.and_eq_true] at ht; exact ⟨_, _, _, rfl, ht.1, ht.2⟩
    · cases ht
  have ct : Ct0 false T ⟨⟨ca, H, m⟩, fun _ _ _ _ => False⟩ ns (defScope st) (fun _ => true) (L2H.cxH CX0 P w K mg base ns qn (defScope st) fa cdv A outer s H E p) :=
    ⟨rfl, rfl, h4.nd, hr.un, fun z => (nomatch z), fun _ _ => rfl, hB, hG, hC.fl, hX⟩
  generalize hbd : defBody st = sts at h5 ⊢
  unfold ckSs at h5
  split at h5
  · rename_i st0 sts0
    rw [Bool.and_eq_true] at h5
    obtain ⟨h6, h7⟩ := h5
    unfold ckS at h6
    split at h6
    · simp only [Bool.and_eq_true] at h6
      obtain ⟨⟨⟨g1, g2⟩, g3⟩, g4⟩ := h6
      have ex := of_decide_eq_true g1
      subst ex
      unfold ckSs at h7
      split at h7
      · refine ⟨_, pss_cons (ps_fld (sndH (C := cn0 T) o rfl rfl rfl rfl ct to g3).1 (sndH (C := cn0 T) a rfl rfl rfl rfl ct ta g4).1 (sw_notName rfl g2)) pss_nil, ?_⟩
        have E0 := Er.start rs ns
        unfold wpSs wpS at q
        refine ⟨m, _, h, _, _, S, E0, xpF, q, fun m1 v1 H1 d1 h1 x1 S1 r1 w1 => ⟨m1, _, h1, _, _, S1, E0.mono x1, xpF, w1, fun m2 v2 H2 d2 h2 x2 S2 r2 w2 => ?_⟩⟩
        obtain ⟨n, c', fs, rfl, e1, e2, e3, q⟩ := w2
        cases r2 with
        | ref z =>
          obtain ⟨C, dx, vf, e4, e5, rk⟩ := S2.obj n _ _ z e1
          obtain ⟨k1, k2⟩ := hC.fl c' _ C e2 e5
          refine ⟨_, C, dx, vf, rfl, e4, k1, k2, by rw [rk.len]; exact e3, ?_⟩
          obtain ⟨S3, x3⟩ := S2.put (ho := .ins C dx (L2.putF _ v1 vf)) (o := .ins c' (putFD _ d1 fs)) e1 z rfl rfl fun H' ht e => ⟨C, dx, _, e, e5, (rk.mono0 ⟨fun _ _ z => z, ht⟩).putF _ ((r1.mono x2).mono0 ⟨fun _ _ z => z, ht⟩)⟩
          unfold wpSs at q
          exact po m2 .non _ .non _ ((x1.trans x2).trans x3) S3 .non q
      · cases h7
    · cases h6
  · cases h5
abbrev CXN (P : Program) (w : World) : CXT := L2N.CX P w
theorem fn_all (hF : ∀ p ∈ T.fns, FtOk K mg p.1 p.2) (hB : ∀ x ∈ bnames, mg x = none) (hG : ∀ x d, T.gls.lookup x = some d → ∃ v u, mg x = some u ∧ RelV v u ∧ ∀ H m, R K H m v d) (hD : ∀ x kvs, T.tds.lookup x = some kvs → ∃ a, mg x = some (.ref a) ∧ TabAt K w a kvs) (hC : ClOk K mg ca T) (hX : XsOk K mg ca T) :
    ∀ (k : Nat) (f nm qn : Str) (F : Fn) (fa : Addr) (fd : FuncData) (st : Stmt), T.df f = some F → Fun K nm qn st fa fd → FnScope F.ns F.ps (defScope st) → ckSs F.body F.ns (defScope st) (defBody st) = true →
      FnG P w K mg base (CXN P w) (k + 2) fa fd F.ps (spF K ca T k f) ∧ (isIni f = true → FnG P w K mg base (CXN P w) (k + 1) fa fd F.ps (spF K ca T k f)) := by
  have lens : ∀ (k : Nat) (f : Str) (F : Fn), T.df f = some F → ∀ (vs : List V) (H : Hp) (Q : VK) (E : XK), spF K ca T k f vs H Q E → vs.length = F.ps.length := by
    rintro k f F hf vs H Q E ⟨F', m, h, ds, Q', X, hf', hl, _⟩
    have : some F = some F' := hf.symm.trans hf'
    cases this
    exact hl
  have none_ : ∀ (lv k : Nat) (f : Str) (F : Fn) (fa : Addr) (fd : FuncData), T.df f = some F → (∀ ds h Q X, ¬ FS T k f ds h Q X) → FnG P w K mg base (CXN P w) lv fa fd F.ps (spF K ca T k f) := fun lv k f F fa fd hf hn =>
    ⟨lens k f F hf, fun A outer s H args us vs Q E _ _ _ _ _ ⟨F', m, h, ds, Q', X, hf', hl, _, _, _, q, _⟩ => (hn _ _ _ _ q).elim⟩
  have body : ∀ (k : Nat), (∀ (f nm qn : Str) (F : Fn) (fa : Addr) (fd : FuncData) (st : Stmt), T.df f = some F → Fun K nm qn st fa fd → FnScope F.ns F.ps (defScope st) → ckSs F.body F.ns (defScope st) (defBody st) = true →
      FnG P w K mg base (CXN P w) (k + 2) fa fd F.ps (spF K ca T k f) ∧ (isIni f = true → FnG P w K mg base (CXN P w) (k + 1) fa fd F.ps (spF K ca T k f))) →
      ∀ (n : Nat) (f nm qn : Str) (F : Fn) (fa : Addr) (fd : FuncData) (st : Stmt), T.df f = some F → Fun K nm qn st fa fd → FnScope F.ns F.ps (defScope st) → ckSs F.body F.ns (defScope st) (defBody st) = true →
      (∀ ds h Q X, FS T n f ds h Q X → fsB T (FS T k) f ds h Q X) → FnG P w K mg base (CXN P w) (k + 3) fa fd F.ps (spF K ca T n f) := by
    intro k ih n f nm qn F fa fd st hf h2 h4 h5 hfs
    refine fnG_of (lv := k + 2) h2 h4 (lens n f F hf) (fun cdv A outer s H vs Q E gd hr hsp => ?_)
    obtain ⟨F', m, h, ds, Q', Xx, hf', hl, S, rs, xp, q, p⟩ := hsp
    have e : some F = some F' := hf.symm.trans hf'
    cases e
    obtain ⟨F', hf'', hl2, q⟩ := hfs _ _ _ _ q
    have e : some F = some F' := hf.symm.trans hf''
    cases e
    have ct : Ct T k ⟨⟨ca, H, m⟩, fun cls d _ H => E cls d H⟩ F.ns (defScope st) (fun _ => true) (cxOf (CXN P w) P w K mg base F.ns qn (defScope st) fa cdv A outer s H E) :=
      ⟨⟨rfl, rfl, h4.nd, by have := hr.un; show (A.deeper _).units + 200 < _; omega, fun _ => gd, fun _ _ => rfl, hB, hG, hC.fl, hX⟩, rfl, hr, fun f F hf => by
        obtain ⟨fa, fd, st, h1, h2, h3, h4, h5⟩ := hF _ (lookup_mem hf)
        exact ⟨fa, fd, h1, h2.kp, h3, (ih f f f F fa fd st (T.fn_df hf) h2 h4 h5).1⟩, hD, L2N.takes_of rfl rfl rfl rfl, fun c m g C hg hc => by
        obtain ⟨fa, fd, F, st, nm, qn, k1, k2, k3, k4, k5, k6, k7⟩ := hC.ms c m g C hg hc
        exact ⟨fa, fd, F, k1, k2, k3, k5, (ih g nm qn F fa fd st k3 k4 k6 k7).1, fnH_all hB hG hC hX g nm qn F fa fd st k3 k4 k6 k7⟩, fun c g hg => by
        obtain ⟨hini, C, fa', e1, e2, M⟩ := hC.mks c g hg
        obtain ⟨fa, fd, F, st, nm, qn, k1, k2, k3, k4, k5, k6, k7⟩ := hC.ms c "__init__" g C hg e1
        have ee : fa' = fa := by have := M.init.symm.trans k2.at_; cases this; rfl
        rw [ee] at M
        exact ⟨C, fa, fd, F, e1, e2, M, k3, k5, (ih g nm qn F fa fd st k3 k4 k6 k7).2 hini⟩⟩
    refine ⟨_, sndSs F.body ct h4.kind (passes_of rfl) ⟨rfl, rfl, rfl⟩ h5, ?_⟩
    refine ⟨m, _, h, _, S, Er.start rs F.ns, q, fun m' σ' H' e' h' x S' _ q => p m' .non H' .non h' x S' .non q, p, fun _ _ _ _ _ _ _ _ z => z, fun _ _ _ _ _ _ _ _ z => z, fun _ _ m' H' h' c p' cls d x S' _ r q => xp m' H' h' c p' cls d S' r q⟩
  have both : ∀ k, (∀ (f nm qn : Str) (F : Fn) (fa : Addr) (fd : FuncData) (st : Stmt), T.df f = some F → Fun K nm qn st fa fd → FnScope F.ns F.ps (defScope st) → ckSs F.body F.ns (defScope st) (defBody st) = true →
      FnG P w K mg base (CXN P w) (k + 2) fa fd F.ps (spF K ca T k f) ∧ (isIni f = true → FnG P w K mg base (CXN P w) (k + 1) fa fd F.ps (spF K ca T k f))) ∧
      (∀ (f nm qn : Str) (F : Fn) (fa : Addr) (fd : FuncData) (st : Stmt), T.df f = some F → Fun K nm qn st fa fd → FnScope F.ns F.ps (defScope st) → ckSs F.body F.ns (defScope st) (defBody st) = true →
      FnG P w K mg base (CXN P w) (k + 3) fa fd F.ps (spF K ca T (k + 1) f) ∧ (isIni f = true → FnG P w K mg base (CXN P w) (k + 2) fa fd F.ps (spF K ca T (k + 1) f))) := by
    intro k
    induction k with
    | zero =>
      have z0 : ∀ (f nm qn : Str) (F : Fn) (fa : Addr) (fd : FuncData) (st : Stmt), T.df f = some F → Fun K nm qn st fa fd → FnScope F.ns F.ps (defScope st) → ckSs F.body F.ns (defScope st) (defBody st) = true →
          FnG P w K mg base (CXN P w) (0 + 2) fa fd F.ps (spF K ca T 0 f) ∧ (isIni f = true → FnG P w K mg base (CXN P w) (0 + 1) fa fd F.ps (spF K ca T 0 f)) := fun f nm qn F fa fd st hf h2 h4 h5 =>
        ⟨none_ _ 0 f F fa fd hf fun _ _ _ _ z => z, fun _ => none_ _ 0 f F fa fd hf fun _ _ _ _ z => z⟩
      exact ⟨z0, fun f nm qn F fa fd st hf h2 h4 h5 => ⟨body 0 z0 1 f nm qn F fa fd st hf h2 h4 h5 fun _ _ _ _ w => w.2, fun hi => none_ _ 1 f F fa fd hf fun _ _ _ _ => FS_one hi⟩⟩
    | succ k ih =>
      refine ⟨ih.2, fun f nm qn F fa fd st hf h2 h4 h5 => ?_⟩
      by_cases hi : isIni f = true
      · have b := body k ih.1 (k + 1 + 1) f nm qn F fa fd st hf h2 h4 h5 fun ds h Q X w => (FS_ini hi).mp w
        exact ⟨FnG.up b, fun _ => b⟩
      · have b := body (k + 1) ih.2 (k + 1 + 1) f nm qn F fa fd st hf h2 h4 h5 fun ds h Q X w => (FS_norm (Bool.eq_false_iff.mpr hi)).mp w
        exact ⟨b, fun z => absurd z hi⟩
  exact fun k => (both k).1
theorem law_fn {f : Str} {F : Fn} {fa : Addr} {fd : FuncData} {st : Stmt} (hF : ∀ p ∈ T.fns, FtOk K mg p.1 p.2) (hB : ∀ x ∈ bnames, mg x = none) (hG : ∀ x d, T.gls.lookup x = some d → ∃ v u, mg x = some u ∧ RelV v u ∧ ∀ H m, R K H m v d) (hD : ∀ x kvs, T.tds.lookup x = some kvs → ∃ a, mg x = some (.ref a) ∧ TabAt K w a kvs) (hC : ClOk K mg ca T) (hX : XsOk K mg ca T)
    (hf : T.fn f = some F) (h2 : Fun K f f st fa fd) (h4 : FnScope F.ns F.ps (defScope st)) (h5 : ckSs F.body F.ns (defScope st) (defBody st) = true) (k : Nat) : FnG P w K mg base (CXN P w) (k + 3) fa fd F.ps (spF K ca T (k + 1) f) :=
  (fn_all hF hB hG hD hC hX (k + 1) f f f F fa fd st (T.fn_df hf) h2 h4 h5).1
theorem xsOk_nil (h : T.exs = []) : XsOk K mg ca T := by
  have a : ∀ c, T.xk c = none := fun c => by unfold Tb.xk; rw [h]; rfl
  exact ⟨fun c k z => (by rw [a] at z; cases z), fun c k c0 k0 C C0 z => (by rw [a] at z; cases z), fun c k C z => (by rw [a] at z; cases z)⟩
/-- the class of a name, by the module -/
def caOf (K : PySem.W.Frag) (c : Str) : Option Addr := match PySem.W.nsIn K mainGlobals c with
  | some (some (.ref C)) => some C
  | _ => none
/-- the script -/
theorem sm_script {H : Hp} {a : Addr} {ns : List Int} (hO : Only H) (hS : SqL K H a (ns.map V.int)) : Sm K ⟨ca, H, [a]⟩ H [a] [.rl (ns.map D.int)] := by
  refine ⟨Ext.refl, rfl, fun n n' b o o' e1 e2 e3 e4 u1 u2 => ?_, fun n b o e1 e2 => ?_⟩
  · cases n with
    | zero => cases e3; cases u1
    | succ n => simp at e3
  · cases n with
    | zero =>
      cases e1; cases e2
      refine ⟨ns.map V.int, ?_, Rs.ints ns⟩
      rcases hS with (hS | ⟨o, hS⟩) | hS
      · rcases hO a with z | ⟨o, xs, z⟩
        · rw [z] at hS; cases hS
        · rw [z] at hS; cases hS
      · exact .inl ⟨o, hS⟩
      · exact .inr fun H' => .inr hS
    | succ n => simp at e2
/-- the law over its script -/
def LawOk (T : Tb) (k : Nat) : Prop := ∀ ns : List Int, ns.length ≤ 63 → (∀ z ∈ ns, Builtin.Int.intBits z ≤ 1048576) → FS T k "law" [.ref 0] [.rl (ns.map D.int)] (fun d _ => d = .bl true) (fun _ _ _ => False)
theorem law_sp {k : Nat} {F : Fn} (hf : T.fn "law" = some F) (h1 : F.ps.length = 1) (hl : LawOk T k) (H : Hp) (a : Addr) (ns : List Int) (hn : ns.length ≤ 63) (hb : ∀ z ∈ ns, Builtin.Int.intBits z ≤ 1048576) (hO : Only H) (hS : SqL K H a (ns.map V.int)) :
    spF K ca T k "law" [.ref a] H (fun v _ => v = .bl true) (fun _ _ _ => False) :=
  ⟨F, [a], _, [.ref 0], _, _, T.fn_df hf, h1.symm, sm_script hO hS, .cons (.ref rfl) .nil, fun _ _ _ _ _ _ _ _ _ z => z, hl ns hn hb, fun m' v H' d h' x S r q => by subst q; cases r; rfl⟩
end
end Bp

/-! ## names of slots don't matter to the semantics -/
namespace Bp
open PySem L2
def ownN (ns : List Str) (own : List (Str × Nat)) : List (Str × Nat) := own.map fun p => (ns.getD p.2 "", p.2)
theorem ownN_snd (ns : List Str) (own : List (Str × Nat)) : (ownN ns own).map (·.2) = own.map (·.2) := by
  unfold ownN; rw [List.map_map]; rfl
mutual
def E.nm (ns : List Str) : E → E
  | .var i => .var i
  | .non => .non | .bl b => .bl b | .int i => .int i | .str s => .str s
  | .glob x => .glob x
  | .bin o a b => .bin o (a.nm ns) (b.nm ns)
  | .neg a => .neg (a.nm ns)
  | .not a => .not (a.nm ns)
  | .bop k es => .bop k (es.nm ns)
  | .cmp o a b => .cmp o (a.nm ns) (b.nm ns)
  | .cmp2 o o' a b c => .cmp2 o o' (a.nm ns) (b.nm ns) (c.nm ns)
  | .ite c a b => .ite (c.nm ns) (a.nm ns) (b.nm ns)
  | .tup es => .tup (es.nm ns)
  | .lst es => .lst (es.nm ns)
  | .dct es => .dct (es.nm ns)
  | .tab x i => .tab x (i.nm ns)
  | .tabG x i d => .tabG x (i.nm ns) (d.nm ns)
  | .tabIn k x i => .tabIn k x (i.nm ns)
  | .idx a i => .idx (a.nm ns) (i.nm ns)
  | .sli a lo hi => .sli (a.nm ns) (lo.nm ns) (hi.nm ns)
  | .rev a => .rev (a.nm ns)
  | .call f es => .call f (es.nm ns)
  | .bi b es => .bi b (es.nm ns)
  | .rng k a b => .rng k (a.nm ns) (b.nm ns)
  | .mt m o es => .mt m (o.nm ns) (es.nm ns)
  | .isi a ts => .isi (a.nm ns) ts
  | .comp elt t it c own => .comp (elt.nm ns) (t.nm' ns) (it.nm ns) (c.nm ns) (ownN ns own)
  | .fld o f => .fld (o.nm ns) f
  | .meth o m es => .meth (o.nm ns) m (es.nm ns)
  | .make c es => .make c (es.nm ns)
  | .prom a => .prom (a.nm ns)
  | .nest n a => .nest n (a.nm ns)
  | .isx a cs => .isx (a.nm ns) cs
  | .xfld a => .xfld (a.nm ns)
def Es.nm (ns : List Str) : Es → Es
  | .nil => .nil
  | .cons a r => .cons (a.nm ns) (r.nm ns)
def Oe.nm (ns : List Str) : Oe → Oe
  | .none => .none
  | .some a => .some (a.nm ns)
def Iv.nm (ns : List Str) : Iv → Iv
  | .seq a => .seq (a.nm ns)
  | .rng1 a => .rng1 (a.nm ns)
  | .rng2 a b => .rng2 (a.nm ns) (b.nm ns)
  | .enu a => .enu (a.nm ns)
  | .zip a b => .zip (a.nm ns) (b.nm ns)
  | .rvs a => .rvs (a.nm ns)
  | .keys i => .keys i
  | .rngd a b => .rngd (a.nm ns) (b.nm ns)
def Tg.nm' (ns : List Str) : Tg → Tg
  | .nm i => .nm i
  | .tp ts => .tp (ts.nm ns)
  | .sub o i => .sub (o.nm ns) (i.nm ns)
def Tgs.nm (ns : List Str) : Tgs → Tgs
  | .nil => .nil
  | .cons t ts => .cons (t.nm' ns) (ts.nm ns)
end
mutual
def S.nm (ns : List Str) : S → S
  | .asg t a => .asg (t.nm' ns) (a.nm ns)
  | .setc i elt t it c own => .setc i (elt.nm ns) (t.nm' ns) (it.nm ns) (c.nm ns) (ownN ns own)
  | .par i j a b => .par i j (a.nm ns) (b.nm ns)
  | .par3 i j l a b c => .par3 i j l (a.nm ns) (b.nm ns) (c.nm ns)
  | .aug i o a => .aug i o (a.nm ns)
  | .expr a => .expr (a.nm ns)
  | .ret a => .ret (a.nm ns)
  | .ite c a b => .ite (c.nm ns) (a.nm ns) (b.nm ns)
  | .loop c b => .loop (c.nm ns) (b.nm ns)
  | .each t it b => .each (t.nm' ns) (it.nm ns) (b.nm ns)
  | .eachK t i b => .eachK (t.nm' ns) i (b.nm ns)
  | .brk => .brk | .cont => .cont | .pass => .pass
  | .setf o f a => .setf (o.nm ns) f (a.nm ns)
  | .augf o f op a => .augf (o.nm ns) f op (a.nm ns)
  | .retn => .retn | .rais => .rais
  | .tri b => .tri (b.nm ns)
  | .augs o i op a => .augs (o.nm ns) (i.nm ns) op (a.nm ns)
  | .rais0 c => .rais0 c
  | .raisR c a => .raisR c (a.nm ns)
  | .tryA b c i su => .tryA (b.nm ns) c i su
  | .tryM b hs => .tryM (b.nm ns) hs
def Ss.nm (ns : List Str) : Ss → Ss
  | .nil => .nil
  | .cons s r => .cons (s.nm ns) (r.nm ns)
end
theorem tgsLen_nm (ns : List Str) : ∀ ts : Tgs, tgsLen (ts.nm ns) = tgsLen ts
  | .nil => rfl
  | .cons t ts => by rw [Tgs.nm, tgsLen, tgsLen, tgsLen_nm ns ts]
section
variable {C : Cn} {ns : List Str}
mutual
theorem nmE : ∀ (a : E) (X : Xq) (e : En) (h : Hh) (Q : Qd), wpE C (a.nm ns) X e h Q = wpE C a X e h Q := by
  intro a X e h Q
  cases a with
  | var i => rfl
  | non => rfl
  | bl b => rfl
  | int i => rfl
  | str s => rfl
  | glob x => rfl
  | bin o a b => simp only [E.nm, wpE, nmE a, nmE b]
  | neg a => simp only [E.nm, wpE, nmE a]
  | not a => simp only [E.nm, wpE, nmE a]
  | bop k es => simp only [E.nm, wpE, nmB es]
  | cmp o a b => simp only [E.nm, wpE, nmE a, nmE b]
  | cmp2 o o' a b c => simp only [E.nm, wpE, nmE a, nmE b, nmE c]
  | ite c a b => simp only [E.nm, wpE, nmE a, nmE b, nmE c]
  | tup es => simp only [E.nm, wpE, nmEs es]
  | lst es => simp only [E.nm, wpE, nmEs es]
  | dct es => simp only [E.nm, wpE, nmEs es]
  | tab x i => simp only [E.nm, wpE, nmE i]
  | tabG x i d => simp only [E.nm, wpE, nmE i, nmE d]
  | tabIn k x i => simp only [E.nm, wpE, nmE i]
  | idx a i => simp only [E.nm, wpE, nmE a, nmE i]
  | sli a lo hi => simp only [E.nm, wpE, nmE a, nmO lo, nmO hi]
  | rev a => simp only [E.nm, wpE, nmE a]
  | call f es => simp only [E.nm, wpE, nmEs es]
  | bi b es => simp only [E.nm, wpE, nmEs es]
  | rng k a b => simp only [E.nm, wpE, nmE a, nmE b]
  | mt m o es => simp only [E.nm, wpE, nmE o, nmEs es]
  | isi a ts => simp only [E.nm, wpE, nmE a]
  | comp elt t it c own => simp only [E.nm, wpE, nmE elt, nmG t, nmI it, nmC c, ownN_snd]
  | fld o f => simp only [E.nm, wpE, nmE o]
  | meth o m es => simp only [E.nm, wpE, nmE o, nmEs es]
  | make c es => simp only [E.nm, wpE, nmEs es]
  | prom a => simp only [E.nm, wpE, nmE a]
  | nest n a => simp only [E.nm, wpE, nmE a]
  | isx a cs => simp only [E.nm, wpE, nmE a]
  | xfld a => simp only [E.nm, wpE, nmE a]
theorem nmB : ∀ (es : Es) (k : Bool) (X : Xq) (e : En) (h : Hh) (Q : Qd), wpB C k (es.nm ns) X e h Q = wpB C k es X e h Q
  | .nil, k, X, e, h, Q => rfl
  | .cons a .nil, k, X, e, h, Q => by simp only [Es.nm, wpB, nmE a]
  | .cons a (.cons b r), k, X, e, h, Q => by
    have ih := nmB (.cons b r) k
    simp only [Es.nm] at ih
    simp only [Es.nm, wpB, nmE a, ih]
theorem nmEs : ∀ (es : Es) (X : Xq) (e : En) (h : Hh) (Q : List D → Hh → Prop), wpEs C (es.nm ns) X e h Q = wpEs C es X e h Q
  | .nil, X, e, h, Q => rfl
  | .cons a r, X, e, h, Q => by simp only [Es.nm, wpEs, nmE a, nmEs r]
theorem nmO : ∀ (a : Oe) (X : Xq) (e : En) (h : Hh) (Q : Option Int → Hh → Prop), wpO C (a.nm ns) X e h Q = wpO C a X e h Q
  | .none, X, e, h, Q => rfl
  | .some a, X, e, h, Q => by simp only [Oe.nm, wpO, nmE a]
theorem nmC : ∀ (a : Oe) (X : Xq) (e : En) (h : Hh) (Q : Bool → Hh → Prop), wpC C (a.nm ns) X e h Q = wpC C a X e h Q
  | .none, X, e, h, Q => rfl
  | .some a, X, e, h, Q => by simp only [Oe.nm, wpC, nmE a]
theorem nmI : ∀ (a : Iv) (X : Xq) (e : En) (h : Hh) (Q : Src → Hh → Prop), wpI C (a.nm ns) X e h Q = wpI C a X e h Q
  | .seq a, X, e, h, Q => by simp only [Iv.nm, wpI, nmE a]
  | .rng1 a, X, e, h, Q => by simp only [Iv.nm, wpI, nmE a]
  | .rng2 a b, X, e, h, Q => by simp only [Iv.nm, wpI, nmE a, nmE b]
  | .enu a, X, e, h, Q => by simp only [Iv.nm, wpI, nmE a]
  | .zip a b, X, e, h, Q => by simp only [Iv.nm, wpI, nmE a, nmE b]
  | .rvs a, X, e, h, Q => by simp only [Iv.nm, wpI, nmE a]
  | .keys i, X, e, h, Q => rfl
  | .rngd a b, X, e, h, Q => by simp only [Iv.nm, wpI, nmE a, nmE b]
theorem nmG : ∀ (a : Tg) (X : Xq) (d : D) (e : En) (h : Hh) (Q : En → Hh → Prop), wpG C (a.nm' ns) X d e h Q = wpG C a X d e h Q
  | .nm i, X, d, e, h, Q => rfl
  | .tp ts, X, d, e, h, Q => by simp only [Tg.nm', wpG, nmGs ts, tgsLen_nm]
  | .sub o i, X, d, e, h, Q => by simp only [Tg.nm', wpG, nmE o, nmE i]
theorem nmGs : ∀ (a : Tgs) (X : Xq) (d : List D) (e : En) (h : Hh) (Q : En → Hh → Prop), wpGs C (a.nm ns) X d e h Q = wpGs C a X d e h Q
  | .nil, X, d, e, h, Q => rfl
  | .cons t ts, X, d, e, h, Q => by simp only [Tgs.nm, wpGs, nmG t, nmGs ts]
end
theorem nmT (a : E) (X : Xq) (e : En) (h : Hh) (Q : Bool → Hh → Prop) : wpT C X (a.nm ns) e h Q = wpT C X a e h Q := by simp only [wpT, nmE a]
mutual
theorem nmS : ∀ (a : S) (e : En) (h : Hh) (P : Po), wpS C (a.nm ns) e h P = wpS C a e h P
  | .asg t a, e, h, P => by simp only [S.nm, wpS, nmE a, nmG t]
  | .setc i elt t it c own, e, h, P => by
    have := fun X e h Q => nmE (C := C) (ns := ns) (.comp elt t it c own) X e h Q
    simp only [E.nm] at this
    simp only [S.nm, wpS, this]
  | .par i j a b, e, h, P => by simp only [S.nm, wpS, nmE a, nmE b]
  | .par3 i j l a b c, e, h, P => by simp only [S.nm, wpS, nmE a, nmE b, nmE c]
  | .aug i o a, e, h, P => by simp only [S.nm, wpS, nmE a]
  | .expr a, e, h, P => by simp only [S.nm, wpS, nmE a]
  | .ret a, e, h, P => by simp only [S.nm, wpS, nmE a]
  | .ite c a b, e, h, P => by simp only [S.nm, wpS, nmT c, nmSs a, nmSs b]
  | .loop c b, e, h, P => by simp only [S.nm, wpS, nmT c, nmSs b]
  | .each t it b, e, h, P => by simp only [S.nm, wpS, nmG t, nmI it, nmSs b]
  | .eachK t i b, e, h, P => rfl
  | .brk, e, h, P => rfl
  | .cont, e, h, P => rfl
  | .pass, e, h, P => rfl
  | .setf o f a, e, h, P => by simp only [S.nm, wpS, nmE o, nmE a]
  | .augf o f op a, e, h, P => by simp only [S.nm, wpS, nmE o, nmE a]
  | .retn, e, h, P => rfl
  | .rais, e, h, P => rfl
  | .tri b, e, h, P => rfl
  | .augs o i op a, e, h, P => by simp only [S.nm, wpS, nmE o, nmE i, nmE a]
  | .rais0 c, e, h, P => rfl
  | .raisR c a, e, h, P => by simp only [S.nm, wpS, nmE a]
  | .tryA b c i su, e, h, P => by simp only [S.nm, wpS, nmSs b]
  | .tryM b hs, e, h, P => by simp only [S.nm, wpS, nmSs b]
theorem nmSs : ∀ (a : Ss) (e : En) (h : Hh) (P : Po), wpSs C (a.nm ns) e h P = wpSs C a e h P
  | .nil, e, h, P => rfl
  | .cons s r, e, h, P => by simp only [Ss.nm, wpSs, nmS s, nmSs r]
end
end
def Fn.nm (F : Fn) (ps ns : List Str) : Fn := ⟨ps, ns, F.body.nm ns⟩
/-- tables alike but for the names of slots -/
inductive FnN : List (Str × Fn) → List (Str × Fn) → Prop where
  | nil : FnN [] []
  | cons {f : Str} {F : Fn} {ps ns : List Str} {r r' : List (Str × Fn)} : ps.length = F.ps.length → ns.length = F.ns.length → FnN r r' → FnN ((f, F.nm ps ns) :: r) ((f, F) :: r')
theorem FnN.lookup {l l' : List (Str × Fn)} (h : FnN l l') (f : Str) : (l'.lookup f = none ∧ l.lookup f = none) ∨ ∃ F ps ns, l'.lookup f = some F ∧ l.lookup f = some (F.nm ps ns) ∧ ps.length = F.ps.length ∧ ns.length = F.ns.length := by
  induction h with
  | nil => exact .inl ⟨rfl, rfl⟩
  | @cons g F ps ns r r' h1 h2 t ih =>
    by_cases e : (f == g) = true
    · exact .inr ⟨F, ps, ns, by rw [List.lookup_cons, e], by rw [List.lookup_cons, e], h1, h2⟩
    · rw [Bool.not_eq_true] at e
      rw [List.lookup_cons, List.lookup_cons, e]
      exact ih
structure TbN (T T' : Tb) : Prop where
  fns : FnN T.fns T'.fns
  mts : FnN T.mts T'.mts
  gls : T.gls = T'.gls
  tds : T.tds = T'.tds
  cls : T.cls = T'.cls
  exs : T.exs = T'.exs
theorem TbN.df {T T' : Tb} (h : TbN T T') (f : Str) : (T'.df f = none ∧ T.df f = none) ∨ ∃ F ps ns, T'.df f = some F ∧ T.df f = some (F.nm ps ns) ∧ ps.length = F.ps.length ∧ ns.length = F.ns.length := by
  unfold Tb.df
  rcases h.fns.lookup f with ⟨a, b⟩ | ⟨F, ps, ns, a, b, c, d⟩
  · rw [a, b]; exact h.mts.lookup f
  · rw [a, b]; exact .inr ⟨F, ps, ns, rfl, rfl, c, d⟩
theorem TbN.isf {T T' : Tb} (h : TbN T T') (f : Str) : (T.fn f).isSome = (T'.fn f).isSome := by
  unfold Tb.fn
  rcases h.fns.lookup f with ⟨a, b⟩ | ⟨F, ps, ns, a, b, c, d⟩
  · rw [a, b]
  · rw [a, b]; rfl
mutual
theorem tameE_nm (g : Bool) (ns : List Str) : ∀ a : E, tameE g (a.nm ns) = tameE g a := by
  intro a
  cases a with
  | bin o a b => cases o <;> simp only [E.nm, tameE, tameE_nm g ns a, tameE_nm g ns b]
  | neg a => simp only [E.nm, tameE, tameE_nm g ns a]
  | not a => simp only [E.nm, tameE, tameE_nm g ns a]
  | bop k es => simp only [E.nm, tameE, tameEs_nm g ns es]
  | ite c a b => simp only [E.nm, tameE, tameE_nm g ns a, tameE_nm g ns b, tameE_nm g ns c]
  | tup es => simp only [E.nm, tameE, tameEs_nm g ns es]
  | idx a b => simp only [E.nm, tameE, tameE_nm g ns a, tameE_nm g ns b]
  | fld a f => simp only [E.nm, tameE, tameE_nm g ns a]
  | isx a cs => simp only [E.nm, tameE, tameE_nm g ns a]
  | xfld a => simp only [E.nm, tameE, tameE_nm g ns a]
  | bi b es =>
    cases b <;> first | rfl | skip
    cases es with
    | nil => rfl
    | cons a r => cases r with
      | nil => simp only [E.nm, Es.nm, tameE, tameE_nm g ns a]
      | cons b r => rfl
  | _ => rfl
theorem tameEs_nm (g : Bool) (ns : List Str) : ∀ a : Es, tameEs g (a.nm ns) = tameEs g a
  | .nil => rfl
  | .cons a r => by simp only [Es.nm, tameEs, tameE_nm g ns a, tameEs_nm g ns r]
end
theorem tameF_nm (ns : List Str) (b : Ss) : tameF (b.nm ns) = tameF b := by
  cases b with
  | nil => rfl
  | cons s r =>
    cases r with
    | nil => cases s <;> first | rfl | simp only [Ss.nm, S.nm, tameF, tameE_nm]
    | cons t r => cases s <;> rfl
theorem cn0_nm {T T' : Tb} (h : TbN T T') : cn0 T = cn0 T' := by
  have e1 : T.fl = T'.fl := by funext c f; unfold Tb.fl; rw [h.cls]
  have e3 : T.sb = T'.sb := by funext c f; unfold Tb.sb; rw [h.exs]
  have e4 : T.xk = T'.xk := by funext c; unfold Tb.xk; rw [h.exs]
  unfold cn0
  rw [h.gls, h.tds, e1, e3, e4]
theorem fsH_nm {T T' : Tb} (h : TbN T T') : fsH T = fsH T' := by
  funext f ds hh Q
  apply propext
  constructor
  · rintro ⟨F, hf, hl, ht, w⟩
    rcases h.df f with ⟨a, b⟩ | ⟨F', ps, ns, a, b, c, d⟩
    · rw [b] at hf; cases hf
    · rw [b] at hf
      cases hf
      refine ⟨_, a, by rw [hl]; exact c, by rw [← tameF_nm ns]; exact ht, ?_⟩
      rw [cn0_nm h] at w
      have w : wpSs _ (F'.body.nm ns) (ds.map some ++ List.replicate (ns.length - ds.length) none) hh _ := w
      rw [nmSs, d] at w
      exact w
  · rintro ⟨F, hf, hl, ht, w⟩
    rcases h.df f with ⟨a, b⟩ | ⟨F', ps, ns, a, b, c, d⟩
    · rw [a] at hf; cases hf
    · rw [a] at hf
      cases hf
      refine ⟨_, b, by rw [hl]; exact c.symm, by show tameF (F.body.nm ns) = true; rw [tameF_nm ns]; exact ht, ?_⟩
      rw [cn0_nm h]
      show wpSs _ (F.body.nm ns) (ds.map some ++ List.replicate (ns.length - ds.length) none) hh _
      rw [nmSs, d]
      exact w
def cnB (T : Tb) (fs : Fsp) : Cn := ⟨fs, fun x => T.gls.lookup x, fun x => (T.fn x).isSome, fun x => T.tds.lookup x, T.fl, T.mtk, fsH T, T.sb, T.xk⟩
theorem cnB_nm {T T' : Tb} (h : TbN T T') (fs : Fsp) : cnB T fs = cnB T' fs := by
  have e1 : T.fl = T'.fl := by funext c f; unfold Tb.fl; rw [h.cls]
  have e2 : T.mtk = T'.mtk := by funext c f; unfold Tb.mtk; rw [h.cls]
  have e3 : T.sb = T'.sb := by funext c f; unfold Tb.sb; rw [h.exs]
  have e4 : T.xk = T'.xk := by funext c; unfold Tb.xk; rw [h.exs]
  unfold cnB
  rw [h.gls, h.tds, e1, e2, e3, e4, funext h.isf, fsH_nm h]
theorem fsB_nm {T T' : Tb} (h : TbN T T') {fs : Fsp} {f : Str} {ds : List D} {hh : Hh} {Q : Qd} {X : Xq} (w : fsB T' fs f ds hh Q X) : fsB T fs f ds hh Q X := by
  obtain ⟨F, hf, hl, w⟩ := w
  rcases h.df f with ⟨a, b⟩ | ⟨F', ps, ns, a, b, c, d⟩
  · rw [a] at hf; cases hf
  · rw [a] at hf
    cases hf
    refine ⟨_, b, by rw [hl]; exact c.symm, ?_⟩
    show wpSs (cnB T fs) (F.body.nm ns) (ds.map some ++ List.replicate (ns.length - ds.length) none) hh _
    rw [cnB_nm h, nmSs, d]
    exact w
theorem FS_nm {T T' : Tb} (h : TbN T T') : ∀ k, FS T' k = FS T k ∧ FS T' (k + 1) = FS T (k + 1) := by
  have sym : ∀ {fs : Fsp} {f : Str} {ds : List D} {hh : Hh} {Q : Qd} {X : Xq}, fsB T fs f ds hh Q X → fsB T' fs f ds hh Q X := by
    intro fs f ds hh Q X w
    obtain ⟨F, hf, hl, w⟩ := w
    rcases h.df f with ⟨a, b⟩ | ⟨F', ps, ns, a, b, c, d⟩
    · rw [b] at hf; cases hf
    · rw [b] at hf
      cases hf
      refine ⟨_, a, by rw [hl]; exact c, ?_⟩
      have w : wpSs (cnB T fs) (F'.body.nm ns) (ds.map some ++ List.replicate (ns.length - ds.length) none) hh _ := w
      rw [cnB_nm h, nmSs, d] at w
      exact w
  have hB : ∀ fs, fsB T' fs = fsB T fs := fun fs => by
    funext f ds hh Q X
    exact propext ⟨fsB_nm h, sym⟩
  intro k
  induction k with
  | zero => exact ⟨rfl, by unfold FS; rw [hB]; rfl⟩
  | succ k ih => exact ⟨ih.2, by
      have e1 : FS T' (k + 2) = fun f ds h Q X => if isIni f = true then fsB T' (FS T' k) f ds h Q X else fsB T' (FS T' (k + 1)) f ds h Q X := rfl
      have e2 : FS T (k + 2) = fun f ds h Q X => if isIni f = true then fsB T (FS T k) f ds h Q X else fsB T (FS T (k + 1)) f ds h Q X := rfl
      rw [e1, e2, hB, hB, ih.1, ih.2]⟩
theorem law_nm {T T' : Tb} (h : TbN T T') {k : Nat} (l : LawOk T' k) : LawOk T k := fun ns h1 h2 => by rw [← (FS_nm h k).1]; exact l ns h1 h2
end Bp

/-! ## the classes of exceptions of a law, from facts of the written part -/
namespace Bp
open PySem L2 PySem.Spec PyProof.Rows
/-- what's told of one class -/
structure XF (K : PySem.W.Frag) (T : Tb) (c : Str) (k : Bool) (C : Addr) : Prop where
  at_ : PySem.W.nsIn K mainGlobals c = some (some (.ref C))
  ex : ExC K C
  ve : PySem.W.subIn K (.ref C) (.type "ValueError") = some (T.sb c "ValueError")
  no : k = false → PySem.W.excIn K C veB "ValueError.__new__" = true
  ini : k = true → InitOk K C
theorem oexc_mk {K : PySem.W.Frag} {C N : Addr} {nm q : Str} {bs bm : List Value} {sn : List Str} {sub : List Value} {ab : Bool} {col : Option Bool} {dd : Option Addr} {k0 k1 k2 k3 k5 : Option Value} (l : K.lookup C = some (excClassObj nm q C N bs bm true sn sub ab col dd k0 k1 k2 k3 k5 "ValueError.__new__")) (r : PySem.HandSPX.refsVE bm = true) (sa : PySem.W.findIn K (.ref C) "__setattr__" = some (some (.builtin "object.__setattr__")))
    (ex : PySem.W.subIn K (.ref C) (.type "BaseException") = some true) (ty : PySem.W.typeIn K (.ref C) = some (.type "type")) (kp : PySem.W.keepIn K (.ref C) = true) : OexC K C := ⟨⟨nm, q, N, bs, bm, sn, sub, ab, col, dd, k0, k1, k2, k3, k5, l, r⟩, sa, ex, ty, kp⟩
theorem initOk_mk {K : PySem.W.Frag} {C fI : Addr} {st : Stmt} {nm qn : Str} {oc : Value} {od an : Option Addr} {osl : Array (Option Value)} {kV doc pm cdv ct : Value} {p1 p2 p3 p4 : Pos} (T : OexC K C) (a : PySem.W.findIn K (.ref C) "__init__" = some (some (.ref fI))) (t : PySem.W.typeIn K (.ref fI) = some (.type "function"))
    (l : K.lookup fI = some ⟨oc, od, .func (PySem.W.fnOf nm qn (defArgs st) (defBody st) (defScope st) .none kV doc pm an cdv ct), osl⟩) (c : PySem.W.codeIn K cdv qn = true) (k : PySem.W.keepIn K (.ref fI) = true) (S : FnScope ["self", "row"] ["self", "row"] (defScope st))
    (hb : ∀ (kV doc pm : Value) (an : Option Addr) (cdv ct : Value) (us : List Value), us.length = (["self", "row"] : List Str).length → bindArgs (PySem.W.fnOf nm qn (defArgs st) (defBody st) (defScope st) .none kV doc pm an cdv ct) ⟨us, []⟩ = pure ((["self", "row"] : List Str).zip us)) (b : defBody st = [.Assign [.Attribute (.Name "self" p1) "row" p2] (.Name "row" p3) p4]) : InitOk K C :=
  ⟨T, fI, _, st, nm, qn, ["self", "row"], p1, p2, p3, p4, a, t, fun_mk l c k, (fun_mk l c k).binds hb, S, b⟩
theorem kit_own {K : PySem.W.Frag} {A B : Addr} {b : Bool} (E : ExC K B) (h : PySem.W.subIn K (.ref A) (.ref B) = some b) (hs : PySem.W.subIn K (.ref B) (.ref B) = some true) : PySem.W.kitOne K (.ref A) (.ref B) = some b := by
  unfold PySem.W.kitOne
  split
  · rename_i e
    have : A = B := Value.ref.inj (beq_iff_eq.mp e)
    subst this
    rw [hs] at h
    exact h
  · unfold PySem.W.kitCls
    dsimp only
    rw [E.cl, E.ty, if_pos (by rfl)]
    exact h
theorem kit_ve {K : PySem.W.Frag} {A : Addr} {b : Bool} (h : PySem.W.subIn K (.ref A) (.type "ValueError") = some b) : PySem.W.kitOne K (.ref A) (.type "ValueError") = some b := by
  unfold PySem.W.kitOne
  rw [if_neg (by simp)]
  unfold PySem.W.kitCls
  dsimp only
  rw [if_pos (by decide +kernel)]
  exact h
theorem xs_ok {K : PySem.W.Frag} {h : Heap} {mg : Str → Option Value} {T : Tb} (X : K.In h) (G : h.Ns mainGlobals mg) (L : List (Str × Bool × Addr)) (hT : ∀ c k, T.xk c = some k → ∃ C, (c, k, C) ∈ L) (hf : ∀ p ∈ L, XF K T p.1 p.2.1 p.2.2)
    (hp : ∀ p ∈ L, ∀ q ∈ L, PySem.W.subIn K (.ref p.2.2) (.ref q.2.2) = some (T.sb p.1 q.1)) (hr : ∀ q ∈ L, T.sb q.1 q.1 = true) (hv : PySem.W.nsIn K mainGlobals "ValueError" = some none) (hk : T.xk "ValueError" = none) : XsOk K mg (caOf K) T := by
  have ce : ∀ p ∈ L, caOf K p.1 = some p.2.2 := fun p m => by unfold caOf; rw [(hf p m).at_]
  refine ⟨fun c k z => ?_, fun c k c0 k0 C C0 z z0 e e0 => ?_, fun c k C z e => ?_⟩
  · obtain ⟨C, m⟩ := hT c k z
    have F := hf _ m
    exact ⟨C, ce _ m, PySem.W.mg_of X G F.at_, F.ex, F.no, F.ini⟩
  · obtain ⟨C', m⟩ := hT c k z
    obtain ⟨C0', m0⟩ := hT c0 k0 z0
    rw [ce _ m] at e
    rw [ce _ m0] at e0
    cases e; cases e0
    have s := hp _ m _ m0
    have F := hf _ m
    have F0 := hf _ m0
    exact ⟨PySem.W.exm_ref F0.ex.ex F0.ex.hd F0.ex.ty s, kit_own F0.ex s (by have := hp _ m0 _ m0; rw [hr _ m0] at this; exact this)⟩
  · obtain ⟨C', m⟩ := hT c k z
    rw [ce _ m] at e
    cases e
    exact ⟨kit_ve (hf _ m).ve, PySem.W.mg_none_of X G hv, hk⟩
end Bp

namespace Bp
open PySem L2

/-! ### rules for simp -/
section
variable {h : Hh} {Q : Qd} {i j : Int} {s z : Str} {a b : List D} {n m : Nat} {B : Bool → Prop} {d : D}
theorem b_add : wBo .add (.int i) (.int j) h Q = Q (.int (i + j)) h := rfl
theorem b_adds : wBo .add (.str s) (.str z) h Q = (s.length + z.length ≤ 100000 ∧ Q (.str (s ++ z)) h) := rfl
theorem b_addt : wBo .add (.tup a) (.tup b) h Q = (a.length + b.length ≤ 100000 ∧ Q (.tup (a ++ b)) h) := rfl
theorem b_addl : wBo .add (.ref n) (.ref m) h Q = (∃ xs ys, h[n]? = some (.lst xs) ∧ h[m]? = some (.lst ys) ∧ xs.length + ys.length ≤ 100000 ∧ Q (.ref h.length) (h ++ [.lst (xs ++ ys)])) := rfl
theorem b_sub : wBo .sub (.int i) (.int j) h Q = Q (.int (i - j)) h := rfl
theorem b_mul : wBo .mul (.int i) (.int j) h Q = ((CMul i j ∨ CMulW i j) ∧ Q (.int (i * j)) h) := rfl
theorem b_mull : wBo .mul (.ref n) (.int j) h Q = (∃ xs, h[n]? = some (.lst xs) ∧ -1000000 ≤ j ∧ j ≤ 1000000 ∧ xs.length * j.toNat ≤ 100000 ∧ Q (.ref h.length) (h ++ [.lst (List.replicate j.toNat xs).flatten])) := rfl
theorem b_fdiv : wBo .fdiv (.int i) (.int j) h Q = ((CDiv i j ∨ CDivW i j) ∧ Q (.int (i / j)) h) := rfl
theorem b_mod : wBo .mod (.int i) (.int j) h Q = (0 < j ∧ Q (.int (i % j)) h) := rfl
theorem b_pow : wBo .pow (.int i) (.int j) h Q = ((CPow i j ∨ CPowW i j) ∧ Q (.int (i ^ j.toNat)) h) := rfl
theorem b_xor : wBo .xor (.int i) (.int j) h Q = Q (.int (Builtin.bitXor i j)) h := rfl
theorem a_add : wAug .add (.int i) (.int j) h Q = Q (.int (i + j)) h := rfl
theorem a_adds : wAug .add (.str s) (.str z) h Q = (s.length + z.length ≤ 100000 ∧ Q (.str (s ++ z)) h) := rfl
theorem a_sub : wAug .sub (.int i) (.int j) h Q = Q (.int (i - j)) h := rfl
theorem e_ii : wEq (.int i) (.int j) h B = B (decide (i = j)) := rfl
theorem e_ss : wEq (.str s) (.str z) h B = B (decide (s = z)) := rfl
theorem e_bb {p q : Bool} : wEq (.bl p) (.bl q) h B = B (decide (p = q)) := rfl
theorem e_nn : wEq .non .non h B = B true := rfl
theorem e_ni : wEq .non (.int i) h B = B false := rfl
theorem e_in : wEq (.int i) .non h B = B false := rfl
theorem e_ns : wEq .non (.str s) h B = B false := rfl
theorem e_sn : wEq (.str s) .non h B = B false := rfl
theorem e_is : wEq (.int i) (.str s) h B = B false := rfl
theorem e_si : wEq (.str s) (.int i) h B = B false := rfl
theorem e_rr : wEq (.ref n) (.ref m) h B = (∃ p q, Pd h (.ref n) p ∧ Pd h (.ref m) q ∧ SeqAt.shaped p = true ∧ SeqAt.shaped q = true ∧ B (PyData.eqv p q)) := rfl
theorem e_tt : wEq (.tup a) (.tup b) h B = (∃ p q, Pd h (.tup a) p ∧ Pd h (.tup b) q ∧ SeqAt.shaped p = true ∧ SeqAt.shaped q = true ∧ B (PyData.eqv p q)) := rfl
theorem c_eq {e : D} : wCo .eq d e h B = wEq d e h B := rfl
theorem c_ne {e : D} : wCo .ne d e h B = wEq d e h fun b => B (!b) := rfl
theorem c_lt : wCo .lt (.int i) (.int j) h B = B (decide (i < j)) := rfl
theorem c_le : wCo .le (.int i) (.int j) h B = B (decide (i ≤ j)) := rfl
theorem c_gt : wCo .gt (.int i) (.int j) h B = B (decide (j < i)) := rfl
theorem c_ge : wCo .ge (.int i) (.int j) h B = B (decide (j ≤ i)) := rfl
theorem c_is0 : wCo .is .non .non h B = B true := rfl
theorem c_is1 : wCo .is (.int i) .non h B = B false := rfl
theorem c_is2 : wCo .is (.str s) .non h B = B false := rfl
theorem c_is3 : wCo .is (.tup a) .non h B = B false := rfl
theorem c_is4 : wCo .is (.ref n) .non h B = B false := rfl
theorem c_isn0 : wCo .isnot .non .non h B = B false := rfl
theorem c_isn1 : wCo .isnot (.int i) .non h B = B true := rfl
theorem c_isn2 : wCo .isnot (.str s) .non h B = B true := rfl
theorem c_isn3 : wCo .isnot (.tup a) .non h B = B true := rfl
theorem c_isn4 : wCo .isnot (.ref n) .non h B = B true := rfl
theorem c_in {e : D} : wCo .isin d e h B = wIn d e h B := rfl
theorem c_notin {e : D} : wCo .notin d e h B = wIn d e h fun b => B (!b) := rfl
theorem t_non : tru h .non B = B false := rfl
theorem t_bl {p : Bool} : tru h (.bl p) B = B p := rfl
theorem t_int : tru h (.int i) B = B (i != 0) := rfl
theorem t_str : tru h (.str s) B = (s.length ≤ 100000 ∧ B (s.length != 0)) := rfl
theorem t_tup : tru h (.tup a) B = B (!a.isEmpty) := rfl
theorem i_str : wIdx (.str s) d h Q = ∃ k c, d = .int k ∧ s.length ≤ 100000 ∧ atI s.cps.toList k = some c ∧ Q (.str ⟨#[c]⟩) h := rfl
theorem i_tup : wIdx (.tup a) d h Q = ∃ k v, d = .int k ∧ atI a k = some v ∧ Q v h := rfl
/-- by what stands at the address -/
def idxO (d : D) (h : Hh) (Q : Qd) : Option O → Prop
  | some (.lst ds) => ∃ k v, d = .int k ∧ atI ds k = some v ∧ Q v h
  | some (.rl ds) => ∃ k v, d = .int k ∧ atI ds k = some v ∧ Q v h
  | some (.dK kvs) => ∃ k v, keyOf d = some k ∧ getK kvs k = some v ∧ Q v h
  | some (.rd kvs) => ∃ k v, keyOf d = some k ∧ getK kvs k = some v ∧ Q v h
  | _ => False
theorem i_ref : wIdx (.ref n) d h Q = idxO d h Q h[n]? := by
  unfold wIdx idxO
  apply propext
  cases e : h[n]? with
  | none => simp [e]
  | some o => cases o <;> simp [e]
theorem io_lst : idxO d h Q (some (.lst a)) = ∃ k v, d = .int k ∧ atI a k = some v ∧ Q v h := rfl
theorem io_rl : idxO d h Q (some (.rl a)) = ∃ k v, d = .int k ∧ atI a k = some v ∧ Q v h := rfl
theorem io_dK {kvs : List (Key × D)} : idxO d h Q (some (.dK kvs)) = ∃ k v, keyOf d = some k ∧ getK kvs k = some v ∧ Q v h := rfl
def sliO (lo hi : Option Int) (h : Hh) (Q : Qd) : Option O → Prop
  | some (.lst ds) => Q (.ref h.length) (h ++ [.lst (cutD ds lo hi)])
  | some (.rl ds) => Q (.ref h.length) (h ++ [.lst (cutD ds lo hi)])
  | _ => False
theorem s_str {lo hi : Option Int} : wSli (.str s) lo hi h Q = (s.length ≤ 100000 ∧ Q (.str (cutS s lo hi)) h) := rfl
theorem s_tup {lo hi : Option Int} : wSli (.tup a) lo hi h Q = Q (.tup (cutD a lo hi)) h := rfl
theorem s_ref {lo hi : Option Int} : wSli (.ref n) lo hi h Q = sliO lo hi h Q h[n]? := by
  unfold wSli sliO
  apply propext
  cases e : h[n]? with
  | none => simp [e]
  | some o => cases o <;> simp [e]
theorem so_lst {lo hi : Option Int} : sliO lo hi h Q (some (.lst a)) = Q (.ref h.length) (h ++ [.lst (cutD a lo hi)]) := rfl
theorem so_rl {lo hi : Option Int} : sliO lo hi h Q (some (.rl a)) = Q (.ref h.length) (h ++ [.lst (cutD a lo hi)]) := rfl
theorem r_ref : wRev (.ref n) h Q = ∃ ds, h[n]? = some (.lst ds) ∧ Q (.ref h.length) (h ++ [.lst ds.reverse]) := rfl
theorem el_tup : elems h (.tup a) = some a := rfl
def elO : Option O → Option (List D)
  | some (.lst ds) => some ds
  | some (.rl ds) => some ds
  | _ => none
theorem el_ref : elems h (.ref n) = elO h[n]? := by
  cases e : h[n]? with
  | none => simp [elems, elO, e]
  | some o => cases o <;> simp [elems, elO, e]
theorem elo_lst : elO (some (.lst a)) = some a := rfl
theorem elo_rl : elO (some (.rl a)) = some a := rfl
theorem f_lens : wBi .len [.str s] h Q = (s.length ≤ 100000 ∧ Q (.int s.length) h) := rfl
theorem f_lent : wBi .len [.tup a] h Q = Q (.int a.length) h := by
  apply propext
  constructor
  · rintro (⟨ds, e, q⟩ | ⟨n, kvs, e, _⟩)
    · cases e; exact q
    · cases e
  · intro q; exact .inl ⟨a, rfl, q⟩
def lenO (h : Hh) (Q : Qd) : Option O → Prop
  | some (.lst ds) => Q (.int ds.length) h
  | some (.rl ds) => Q (.int ds.length) h
  | some (.dK kvs) => Q (.int kvs.length) h
  | _ => False
theorem f_lenr : wBi .len [.ref n] h Q = lenO h Q h[n]? := by
  show ((∃ ds, elems h (.ref n) = some ds ∧ Q (.int ds.length) h) ∨ ∃ m kvs, D.ref n = .ref m ∧ h[m]? = some (.dK kvs) ∧ Q (.int kvs.length) h) = _
  apply propext
  rw [el_ref]
  cases e : h[n]? with
  | none => simp [e, elO, lenO]
  | some o => cases o <;> simp [e, elO, lenO]
theorem lo_lst : lenO h Q (some (.lst a)) = Q (.int a.length) h := rfl
theorem lo_rl : lenO h Q (some (.rl a)) = Q (.int a.length) h := rfl
theorem lo_dK {kvs : List (Key × D)} : lenO h Q (some (.dK kvs)) = Q (.int kvs.length) h := rfl
theorem f_list : wBi .list [d] h Q = ∃ ds, elems h d = some ds ∧ Q (.ref h.length) (h ++ [.lst ds]) := rfl
theorem f_tuple : wBi .tuple [d] h Q = ∃ ds, elems h d = some ds ∧ Q (.tup ds) h := rfl
theorem f_divmod : wBi .divmod [.int i, .int j] h Q = ((CDiv i j ∨ CDivW i j) ∧ Q (.tup [.int (i / j), .int (i % j)]) h) := rfl
theorem f_abs : wBi .abs [.int i] h Q = Q (.int (if i < 0 then -i else i)) h := rfl
theorem f_inti : wBi .int [.int i] h Q = Q (.int i) h := rfl
theorem f_intb {p : Bool} : wBi .int [.bl p] h Q = Q (.int (if p then 1 else 0)) h := rfl
theorem f_booli : wBi .bool [.int i] h Q = Q (.bl (i != 0)) h := rfl
theorem f_boolb {p : Bool} : wBi .bool [.bl p] h Q = Q (.bl p) h := rfl
theorem f_max2 : wBi .max2 [.int i, .int j] h Q = Q (.int (if j > i then j else i)) h := rfl
theorem f_min2 : wBi .min2 [.int i, .int j] h Q = Q (.int (if j < i then j else i)) h := rfl
theorem f_all : wBi .all [.ref n] h Q = ∃ bs : List Bool, h[n]? = some (.lst (bs.map D.bl)) ∧ Q (.bl (bs.all id)) h := rfl
theorem f_any : wBi .any [.ref n] h Q = ∃ bs : List Bool, h[n]? = some (.lst (bs.map D.bl)) ∧ Q (.bl (bs.any id)) h := rfl
theorem f_sum : wBi .sum [.ref n] h Q = ∃ is : List Int, h[n]? = some (.lst (is.map D.int)) ∧ Q (.int is.sum) h := rfl
theorem f_str : wBi .str [.int i] h Q = (i.natAbs.log2 < 1920 ∧ Q (.str (toString i)) h) := rfl
theorem m_ty {mt : Mt} (hm : (match mt with | .get2 => false | .get1 => false | .dpop2 => false | .setdef => false | .update => false | .join => false | _ => true) = true) : mtTy mt (.ref n) h = ∃ ds, h[n]? = some (.lst ds) := by cases mt <;> first | rfl | cases hm
theorem m_tyg : mtTy .get2 (.ref n) h = ∃ kvs, h[n]? = some (.dK kvs) := rfl
theorem m_append : wMt .append (.ref n) [d] h Q = ∃ xs, h[n]? = some (.lst xs) ∧ xs.length < 100000 ∧ Q .non (h.set n (.lst (xs ++ [d]))) := rfl
theorem m_extend : wMt .extend (.ref n) [.ref m] h Q = ∃ xs ys, h[n]? = some (.lst xs) ∧ h[m]? = some (.lst ys) ∧ xs.length + ys.length ≤ 100000 ∧ Q .non (h.set n (.lst (xs ++ ys))) := rfl
theorem m_pop : wMt .pop (.ref n) [] h Q = ∃ xs y, h[n]? = some (.lst xs) ∧ xs[xs.length - 1]? = some y ∧ Q y (h.set n (.lst xs.dropLast)) := rfl
theorem m_reverse : wMt .reverse (.ref n) [] h Q = ∃ xs, h[n]? = some (.lst xs) ∧ Q .non (h.set n (.lst xs.reverse)) := rfl
theorem m_clear : wMt .clear (.ref n) [] h Q = ∃ xs, h[n]? = some (.lst xs) ∧ Q .non (h.set n (.lst [])) := rfl
theorem m_insert : wMt .insert (.ref n) [.int i, d] h Q = ∃ xs, h[n]? = some (.lst xs) ∧ 0 ≤ i ∧ i ≤ xs.length ∧ xs.length < 100000 ∧ Q .non (h.set n (.lst (xs.take i.toNat ++ d :: xs.drop i.toNat))) := rfl
def srcO (n : Nat) (h : Hh) (R : Src → Hh → Prop) : Option O → Prop
  | some (.lst ds) => R ⟨ds, [(n, .lst ds)]⟩ h
  | some (.rl ds) => R ⟨ds, [(n, .rl ds)]⟩ h
  | _ => False
variable {R : Src → Hh → Prop}
theorem sr_tup : srcOf (.tup a) h R = R ⟨a, []⟩ h := rfl
theorem sr_str : srcOf (.str s) h R = R ⟨s.cps.toList.map fun c => D.str ⟨#[c]⟩, []⟩ h := rfl
theorem sr_ref : srcOf (.ref n) h R = srcO n h R h[n]? := by
  unfold srcOf srcO
  apply propext
  cases e : h[n]? with
  | none => simp [e]
  | some o => cases o <;> simp [e]
theorem sl_ref : srcL (.ref n) h R = srcO n h R h[n]? := by
  unfold srcL srcO
  apply propext
  cases e : h[n]? with
  | none => simp [e]
  | some o => cases o <;> simp [e]
theorem sro_lst : srcO n h R (some (.lst a)) = R ⟨a, [(n, .lst a)]⟩ h := rfl
theorem sro_rl : srcO n h R (some (.rl a)) = R ⟨a, [(n, .rl a)]⟩ h := rfl
theorem st_tup : srcT (.tup a) h R = R ⟨a, []⟩ h := rfl
theorem st_ref : srcT (.ref n) h R = False := rfl
theorem sl_tup : srcL (.tup a) h R = False := rfl
theorem ok_nil : Src.ok ⟨a, []⟩ h = True := by
  apply propext
  constructor
  · intro _; trivial
  · intro _ p hp; cases hp
theorem ok_one {o : O} : Src.ok ⟨a, [(n, o)]⟩ h = (h[n]? = some o) := by
  apply propext
  constructor
  · intro k; exact k (n, o) (by simp)
  · intro k p hp
    rw [List.mem_singleton.mp hp]
    exact k
theorem ok_two {o o' : O} : Src.ok ⟨a, [(n, o)] ++ [(m, o')]⟩ h = (h[n]? = some o ∧ h[m]? = some o') := by
  apply propext
  constructor
  · intro k; exact ⟨k (n, o) (by simp), k (m, o') (by simp)⟩
  · rintro ⟨k1, k2⟩ p hp
    simp at hp
    rcases hp with rfl | rfl
    · exact k1
    · exact k2
theorem ty_int : tyD h (.int i) = some .int := rfl
theorem ty_bl {p : Bool} : tyD h (.bl p) = some .bool := rfl
theorem ty_str : tyD h (.str s) = some .str := rfl
theorem ty_non : tyD h .non = some .non := rfl
theorem ty_tup : tyD h (.tup a) = some .tuple := rfl
theorem at_nat {α : Type} {xs : List α} {k : Nat} : atI xs (k : Int) = xs[k]? := by
  unfold atI ixN
  by_cases hk : k < xs.length
  · rw [if_pos (by omega), if_pos (by omega)]
    rfl
  · rw [if_pos (by omega), if_neg (by omega), List.getElem?_eq_none (by omega)]
    rfl
theorem at_lit {α : Type} {xs : List α} {k : Nat} : atI xs (no_index (@OfNat.ofNat Int k _)) = xs[k]? := at_nat
theorem ix_n {k : Nat} : ixN n (k : Int) = if k < n then some k else none := by
  unfold ixN
  by_cases hk : k < n
  · rw [if_pos (by omega), if_pos (by omega), if_pos hk]; rfl
  · rw [if_pos (by omega), if_neg (by omega), if_neg hk]
theorem ix_lit {k : Nat} : ixN n (no_index (@OfNat.ofNat Int k _)) = if k < n then some k else none := ix_n
def setO (n : Nat) (y d : D) (e : En) (h : Hh) (Q : En → Hh → Prop) : Option O → Prop
  | some (.lst xs) => ∃ k j, y = .int k ∧ ixN xs.length k = some j ∧ Q e (h.set n (.lst (xs.set j d)))
  | some (.dK kvs) => ∃ k, keyOf y = some k ∧ kvs.length < 100000 ∧ Q e (h.set n (.dK (putD kvs k d)))
  | _ => False
def subW (x y d : D) (e : En) (h : Hh) (Q : En → Hh → Prop) : Prop := ∃ n, x = .ref n ∧ setO n y d e h Q h[n]?
theorem g_sub {C : Cn} {o i : E} {X : Xq} {e : En} {Q : En → Hh → Prop} : wpG C (.sub o i) X d e h Q = wpE C o X e h fun x h1 => wpE C i X e h1 fun y h2 => subW x y d e h2 Q := by
  rw [wpG]
  congr 1
  funext x h1
  congr 1
  funext y h2
  unfold subW setO
  apply propext
  constructor
  · rintro ⟨n, rfl, ⟨xs, k, j, e1, e2, e3, q⟩ | ⟨kvs, k, e1, e2, e3, q⟩⟩
    · exact ⟨n, rfl, by rw [e1]; exact ⟨k, j, e2, e3, q⟩⟩
    · exact ⟨n, rfl, by rw [e1]; exact ⟨k, e2, e3, q⟩⟩
  · rintro ⟨n, rfl, q⟩
    refine ⟨n, rfl, ?_⟩
    cases e1 : h2[n]? with
    | none => rw [e1] at q; exact q.elim
    | some ob =>
      rw [e1] at q
      cases ob with
      | lst xs => obtain ⟨k, j, e2, e3, q⟩ := q; exact .inl ⟨xs, k, j, rfl, e2, e3, q⟩
      | dK kvs => obtain ⟨k, e2, e3, q⟩ := q; exact .inr ⟨kvs, k, rfl, e2, e3, q⟩
      | _ => exact q.elim
theorem sw_ref {y : D} {e : En} {Q : En → Hh → Prop} : subW (.ref n) y d e h Q = setO n y d e h Q h[n]? := by
  unfold subW
  apply propext
  constructor
  · rintro ⟨m, e, q⟩; cases e; exact q
  · intro q; exact ⟨n, rfl, q⟩
theorem se_lst {y : D} {e : En} {Q : En → Hh → Prop} : setO n y d e h Q (some (.lst a)) = ∃ k j, y = .int k ∧ ixN a.length k = some j ∧ Q e (h.set n (.lst (a.set j d))) := rfl
theorem se_dK {y : D} {e : En} {Q : En → Hh → Prop} {kvs : List (Key × D)} : setO n y d e h Q (some (.dK kvs)) = ∃ k, keyOf y = some k ∧ kvs.length < 100000 ∧ Q e (h.set n (.dK (putD kvs k d))) := rfl
theorem g_nm {C : Cn} {X : Xq} {e : En} {Q : En → Hh → Prop} : wpG C (.nm n) X d e h Q = Q (e.set n (some d)) h := by rw [wpG]
theorem g_tp {C : Cn} {X : Xq} {e : En} {Q : En → Hh → Prop} {ts : Tgs} : wpG C (.tp ts) X d e h Q = ∃ ds, elems h d = some ds ∧ ds.length = tgsLen ts ∧ wpGs C ts X ds e h Q := by rw [wpG]
theorem ss_cons {C : Cn} {s : S} {r : Ss} {e : En} {P : Po} : wpSs C (.cons s r) e h P = wpS C s e h { P with nx := fun e1 h1 => wpSs C r e1 h1 P } := by rw [wpSs]
theorem ss_nil {C : Cn} {e : En} {P : Po} : wpSs C .nil e h P = P.nx e h := by rw [wpSs]
theorem cn_fs {T : Tb} {k : Nat} : (cnOf T k).fs = FS T k := rfl
theorem cn_isf {T : Tb} {k : Nat} {f : Str} {F : Fn} (hT : T.fn f = some F) : (cnOf T k).isf f = true := by
  show (T.fn f).isSome = true
  rw [hT]; rfl
end
end Bp

namespace Bp
open PySem L2
/-! ### loops, shut -/
def forS (C : Cn) (t : Tg) (b : Ss) (P : Po) (s : Src) (e : En) (h : Hh) : Prop :=
  forW s.ok (fun d e2 h2 kk => wpG C t (fun _ _ _ => False) d e2 h2 fun e3 h3 => wpSs C b e3 h3 { P with nx := kk, ct := kk, bk := P.nx }) P.nx s.items e h
def compS (C : Cn) (elt : E) (t : Tg) (c : Oe) (own : List (Str × Nat)) (en : En) (p : Nat) (Qd : Hh → Prop) (s : Src) (h : Hh) : Prop :=
  compW s.ok p (fun d h2 kk => wpG C t (fun _ _ _ => False) d (wipeE en (own.map (·.2))) h2 fun e3 h3 => wpC C c (fun _ _ _ => False) e3 h3 fun r h4 => if r = true then wpE C elt (fun _ _ _ => False) e3 h4 fun y h5 => kk (some y) h5 else kk none h4) Qd s.items h
def loopS (C : Cn) (c : E) (b : Ss) (P : Po) (e : En) (h : Hh) : Prop := ∃ W : Nat → En → Hh → Prop, (∃ m, W m e h) ∧ ∀ m e h, W m e h → wpT C (P.ex e) c e h fun r h1 =>
      if r = true then wpSs C b e h1 { P with nx := fun e' h' => ∃ m', m' < m ∧ W m' e' h', ct := fun e' h' => ∃ m', m' < m ∧ W m' e' h', bk := P.nx } else P.nx e h1
section
variable {C : Cn} {X : Xq} {e : En} {h : Hh} {Q : Qd} {P : Po} {a b c : E} {es : Es} {t : Tg} {it : Iv} {o : Bo} {i j : Nat} {sa sb : Ss}
theorem x_var : wpE C (.var i) X e h Q = ∃ d, e[i]? = some (some d) ∧ Q d h := by rw [wpE]
theorem x_non : wpE C .non X e h Q = Q .non h := by rw [wpE]
theorem x_bl {p : Bool} : wpE C (.bl p) X e h Q = Q (.bl p) h := by rw [wpE]
theorem x_int {n : Int} : wpE C (.int n) X e h Q = Q (.int n) h := by rw [wpE]
theorem x_str {s : Str} : wpE C (.str s) X e h Q = Q (.str s) h := by rw [wpE]
theorem x_glob {s : Str} : wpE C (.glob s) X e h Q = ∃ d, C.gl s = some d ∧ Q d h := by rw [wpE]
theorem x_bin : wpE C (.bin o a b) X e h Q = wpE C a X e h fun x h1 => wpE C b X e h1 fun y h2 => wBo o x y h2 Q := by rw [wpE]
theorem x_neg : wpE C (.neg a) X e h Q = wpE C a X e h fun x h1 => ∃ i, x = .int i ∧ Q (.int (-i)) h1 := by rw [wpE]
theorem x_not : wpE C (.not a) X e h Q = wpE C a X e h fun x h1 => tru h1 x fun b => Q (.bl (!b)) h1 := by rw [wpE]
theorem x_bop {k : Bool} : wpE C (.bop k es) X e h Q = wpB C k es X e h Q := by rw [wpE]
theorem x_cmp {o : Co} : wpE C (.cmp o a b) X e h Q = wpE C a X e h fun x h1 => wpE C b X e h1 fun y h2 => wCo o x y h2 fun r => Q (.bl r) h2 := by rw [wpE]
theorem x_cmp2 {o o' : Co} : wpE C (.cmp2 o o' a b c) X e h Q = wpE C a X e h fun x h1 => wpE C b X e h1 fun y h2 => wCo o x y h2 fun r => if r = true then wpE C c X e h2 fun z h3 => wCo o' y z h3 fun r' => Q (.bl r') h3 else Q (.bl false) h2 := by rw [wpE]
theorem x_ite : wpE C (.ite c a b) X e h Q = wpE C c X e h fun x h1 => tru h1 x fun r => if r = true then wpE C a X e h1 Q else wpE C b X e h1 Q := by rw [wpE]
theorem x_tup : wpE C (.tup es) X e h Q = wpEs C es X e h fun ds h1 => ds.length ≤ 100000 ∧ Q (.tup ds) h1 := by rw [wpE]
theorem x_lst : wpE C (.lst es) X e h Q = wpEs C es X e h fun ds h1 => ds.length ≤ 100000 ∧ Q (.ref h1.length) (h1 ++ [.lst ds]) := by rw [wpE]
theorem x_dct {kvs : Es} : wpE C (.dct kvs) X e h Q = wpEs C kvs X e (h ++ [.dK []]) fun ds h2 => h2[h.length]? = some (.dK []) ∧ ∃ ps, pairUp ds = some ps ∧ ps.length ≤ 15 ∧ Q (.ref h.length) (h2.set h.length (.dK (mergeD [] ps))) := by rw [wpE]
theorem x_tab {x : Str} : wpE C (.tab x a) X e h Q = ∃ kvs, C.td x = some kvs ∧ wpE C a X e h fun y h1 => ∃ z v, y = .str z ∧ kvs.lookup z = some v ∧ Q v h1 := by rw [wpE]
theorem x_tabG {x : Str} : wpE C (.tabG x a b) X e h Q = ∃ kvs, C.td x = some kvs ∧ wpE C a X e h fun y h1 => wpE C b X e h1 fun u h2 => ∃ z, y = .str z ∧ Q ((kvs.lookup z).getD u) h2 := by rw [wpE]
theorem x_tabIn {x : Str} {neg : Bool} : wpE C (.tabIn neg x a) X e h Q = ∃ kvs, C.td x = some kvs ∧ wpE C a X e h fun y h1 => ∃ z, y = .str z ∧ Q (.bl (if neg = true then !(kvs.lookup z).isSome else (kvs.lookup z).isSome)) h1 := by rw [wpE]
theorem x_idx : wpE C (.idx a b) X e h Q = wpE C a X e h fun x h1 => wpE C b X e h1 fun y h2 => wIdx x y h2 Q := by rw [wpE]
theorem x_sli {lo hi : Oe} : wpE C (.sli a lo hi) X e h Q = wpE C a X e h fun x h1 => wpO C lo X e h1 fun l h2 => wpO C hi X e h2 fun u h3 => wSli x l u h3 Q := by rw [wpE]
theorem x_rev : wpE C (.rev a) X e h Q = wpE C a X e h fun x h1 => wRev x h1 Q := by rw [wpE]
theorem x_call {f : Str} : wpE C (.call f es) X e h Q = (C.isf f = true ∧ wpEs C es X e h fun ds h1 => C.fs f ds h1 Q X) := by rw [wpE]
theorem x_bi {b : Bi} : wpE C (.bi b es) X e h Q = wpEs C es X e h fun ds h1 => wBi b ds h1 Q := by rw [wpE]
theorem x_rng {k : Bool} : wpE C (.rng k a b) X e h Q = wpE C a X e h fun x h1 => wpE C b X e h1 fun y h2 => ∃ i j, x = .int i ∧ y = .int j ∧ (-1000000 ≤ i ∧ i ≤ 1000000 ∧ -1000000 ≤ j ∧ j ≤ 1000000) ∧
      if k = true then Q (.tup ((List.range (j - i).toNat).map fun n : Nat => D.int (i + n))) h2 else Q (.ref h2.length) (h2 ++ [.lst ((List.range (j - i).toNat).map fun n : Nat => D.int (i + n))]) := by rw [wpE]
theorem x_mt {m : Mt} : wpE C (.mt m a es) X e h Q = wpE C a X e h fun x h1 => mtTy m x h1 ∧ wpEs C es X e h1 fun ds h2 => wMt m x ds h2 Q := by rw [wpE]
theorem x_isi {ts : List Tn} : wpE C (.isi a ts) X e h Q = wpE C a X e h fun x h1 => ∃ t, tyD h1 x = some t ∧ Q (.bl (ts.any (isT t))) h1 := by rw [wpE]
theorem x_comp {cc : Oe} {own : List (Str × Nat)} : wpE C (.comp a t it cc own) X e h Q = wpI C it X e h fun s h1 => compS C a t cc own e h1.length (Q (.ref h1.length)) s (h1 ++ [.lst []]) := by rw [wpE]; rfl
theorem y_asg : wpS C (.asg t a) e h P = wpE C a (P.ex e) e h fun x h1 => wpG C t (fun _ _ _ => False) x e h1 P.nx := by rw [wpS]
theorem y_setc {cc : Oe} {own : List (Str × Nat)} : wpS C (.setc i a t it cc own) e h P = wpI C it (P.ex e) e h fun s h1 => compS C a t cc own e h1.length (fun h2 => P.nx (e.set i (some (.ref h1.length))) h2) s (h1 ++ [.lst []]) := by rw [wpS, x_comp]
theorem y_par : wpS C (.par i j a b) e h P = wpE C a (P.ex e) e h fun x h1 => wpE C b (P.ex e) e h1 fun y h2 => P.nx ((e.set i (some x)).set j (some y)) h2 := by rw [wpS]
theorem y_par3 {l : Nat} {c : E} : wpS C (.par3 i j l a b c) e h P = wpE C a (P.ex e) e h fun x h1 => wpE C b (P.ex e) e h1 fun y h2 => wpE C c (P.ex e) e h2 fun z h3 => P.nx (((e.set i (some x)).set j (some y)).set l (some z)) h3 := by rw [wpS]
theorem y_aug : wpS C (.aug i o a) e h P = ∃ x, e[i]? = some (some x) ∧ wpE C a (P.ex e) e h fun y h1 => wAug o x y h1 fun z h2 => P.nx (e.set i (some z)) h2 := by rw [wpS]
theorem y_expr : wpS C (.expr a) e h P = wpE C a (P.ex e) e h fun _ h1 => P.nx e h1 := by rw [wpS]
theorem y_ret : wpS C (.ret a) e h P = wpE C a (P.ex e) e h P.rt := by rw [wpS]
theorem y_ite : wpS C (.ite c sa sb) e h P = wpE C c (P.ex e) e h fun x h1 => tru h1 x fun r => if r = true then wpSs C sa e h1 P else wpSs C sb e h1 P := by rw [wpS]; rfl
theorem y_loop : wpS C (.loop c sb) e h P = loopS C c sb P e h := by rw [wpS]; rfl
theorem y_each : wpS C (.each t it sb) e h P = wpI C it (P.ex e) e h fun s h1 => forS C t sb P s e h1 := by rw [wpS]; rfl
theorem y_brk : wpS C .brk e h P = P.bk e h := by rw [wpS]
theorem y_cont : wpS C .cont e h P = P.ct e h := by rw [wpS]
theorem y_pass : wpS C .pass e h P = P.nx e h := by rw [wpS]
end

end Bp

namespace Bp
open PySem L2
local macro_rules | `(tactic| walk_at "e") => `(tactic| simp only [x_var, x_non, x_bl, x_int, x_str, x_glob, x_bin, x_neg, x_not, x_bop, x_cmp, x_cmp2, x_ite, x_tup, x_lst, x_idx, x_sli, x_rev, x_call, x_bi, x_rng, x_mt, x_isi, x_comp, y_asg, y_setc, y_par, y_aug, y_expr, y_ret, y_ite, y_loop, y_each, y_brk, y_cont, y_pass, wpEs, wpB, wpO, wpC, wpI, g_nm, g_tp, g_sub, sw_ref, se_lst, se_dK, wpGs, ss_nil, tgsLen, b_add, b_adds, b_addt, b_addl, b_sub, b_mul, b_mull, b_fdiv, b_mod, b_pow, b_xor, a_add, a_adds, a_sub, e_ii, e_ss, e_bb, e_nn, e_ni, e_in, e_ns, e_sn, e_is, e_si, c_eq, c_ne, c_lt, c_le, c_gt, c_ge, c_is0, c_is1, c_is2, c_is3, c_is4, c_isn0, c_isn1, c_isn2, c_isn3, c_isn4, c_in, c_notin, t_non, t_bl, t_int, t_str, t_tup, i_str, i_tup, i_ref, io_lst, io_rl, io_dK, s_str, s_tup, s_ref, so_lst, so_rl, r_ref, el_tup, el_ref, elo_lst, elo_rl, f_lens, f_lent, f_lenr, lo_lst, lo_rl, lo_dK, reduceCtorEq, at_nat, List.length_map, f_list, f_tuple, f_divmod, f_abs, f_inti, f_intb, f_booli, f_boolb, f_max2, f_min2, f_all, f_any, f_sum, f_str, m_tyg, m_append, m_extend, m_pop, m_reverse, m_clear, m_insert, sr_tup, sr_str, sr_ref, sl_ref, sro_lst, sro_rl, st_tup, st_ref, sl_tup, ok_nil, ok_one, ok_two, ty_int, ty_bl, ty_str, ty_non, ty_tup, at_lit, ix_lit, cn_fs, List.getElem?_cons_zero, List.getElem?_cons_succ, List.set_cons_zero, List.set_cons_succ, List.map_cons, List.map_nil, List.cons_append, List.nil_append, List.length_cons, List.length_nil, List.replicate_succ, List.replicate_zero, Option.some.injEq, Nat.reduceAdd, Nat.reduceLT, Nat.reduceSub, Nat.zero_add, Nat.reduceLeDiff, Int.reduceToNat, Nat.sub_zero, List.length_append, List.length_set, Nat.reduceMul, Int.reduceNeg, exists_eq_left', exists_eq_left, exists_eq_right, D.int.injEq, O.lst.injEq, O.rl.injEq, O.dK.injEq, D.tup.injEq, D.ref.injEq, D.str.injEq, D.bl.injEq, List.cons.injEq, and_assoc, true_and, and_true, decide_eq_true_eq, List.any_cons, List.any_nil, isT, Bool.or_false, Bool.not_true, Bool.not_false, if_true, if_false, reduceIte, Bool.false_eq_true, and_imp, exists_and_left, exists_const])
local macro_rules | `(tactic| walk_at "h") => `(tactic| simp only [*, x_var, x_non, x_bl, x_int, x_str, x_glob, x_bin, x_neg, x_not, x_bop, x_cmp, x_cmp2, x_ite, x_tup, x_lst, x_idx, x_sli, x_rev, x_call, x_bi, x_rng, x_mt, x_isi, x_comp, y_asg, y_setc, y_par, y_aug, y_expr, y_ret, y_ite, y_loop, y_each, y_brk, y_cont, y_pass, wpEs, wpB, wpO, wpC, wpI, g_nm, g_tp, g_sub, sw_ref, se_lst, se_dK, wpGs, ss_nil, tgsLen, b_add, b_adds, b_addt, b_addl, b_sub, b_mul, b_mull, b_fdiv, b_mod, b_pow, b_xor, a_add, a_adds, a_sub, e_ii, e_ss, e_bb, e_nn, e_ni, e_in, e_ns, e_sn, e_is, e_si, c_eq, c_ne, c_lt, c_le, c_gt, c_ge, c_is0, c_is1, c_is2, c_is3, c_is4, c_isn0, c_isn1, c_isn2, c_isn3, c_isn4, c_in, c_notin, t_non, t_bl, t_int, t_str, t_tup, i_str, i_tup, i_ref, io_lst, io_rl, io_dK, s_str, s_tup, s_ref, so_lst, so_rl, r_ref, el_tup, el_ref, elo_lst, elo_rl, f_lens, f_lent, f_lenr, lo_lst, lo_rl, lo_dK, reduceCtorEq, at_nat, List.length_map, f_list, f_tuple, f_divmod, f_abs, f_inti, f_intb, f_booli, f_boolb, f_max2, f_min2, f_all, f_any, f_sum, f_str, m_tyg, m_append, m_extend, m_pop, m_reverse, m_clear, m_insert, sr_tup, sr_str, sr_ref, sl_ref, sro_lst, sro_rl, st_tup, st_ref, sl_tup, ok_nil, ok_one, ok_two, ty_int, ty_bl, ty_str, ty_non, ty_tup, at_lit, ix_lit, cn_fs, List.getElem?_cons_zero, List.getElem?_cons_succ, List.set_cons_zero, List.set_cons_succ, List.map_cons, List.map_nil, List.cons_append, List.nil_append, List.length_cons, List.length_nil, List.replicate_succ, List.replicate_zero, Option.some.injEq, Nat.reduceAdd, Nat.reduceLT, Nat.reduceSub, Nat.zero_add, Nat.reduceLeDiff, Int.reduceToNat, Nat.sub_zero, List.length_append, List.length_set, Nat.reduceMul, Int.reduceNeg, exists_eq_left', exists_eq_left, exists_eq_right, D.int.injEq, O.lst.injEq, O.rl.injEq, O.dK.injEq, D.tup.injEq, D.ref.injEq, D.str.injEq, D.bl.injEq, List.cons.injEq, and_assoc, true_and, and_true, decide_eq_true_eq, List.any_cons, List.any_nil, isT, Bool.or_false, Bool.not_true, Bool.not_false, if_true, if_false, reduceIte, Bool.false_eq_true, and_imp, exists_and_left, exists_const])
/-- old things stay, but for those in p -/
structure Fr (p : Nat → Prop) (h h' : Hh) : Prop where
  le : h.length ≤ h'.length
  at_ : ∀ i, i < h.length → ¬ p i → h'[i]? = h[i]?
theorem Fr.refl {p : Nat → Prop} {h : Hh} : Fr p h h := ⟨Nat.le_refl _, fun _ _ _ => rfl⟩
theorem Fr.trans {p : Nat → Prop} {h h1 h2 : Hh} (a : Fr p h h1) (b : Fr p h1 h2) : Fr p h h2 := ⟨Nat.le_trans a.le b.le, fun i hi hp => (b.at_ i (Nat.lt_of_lt_of_le hi a.le) hp).trans (a.at_ i hi hp)⟩
theorem Fr.new {p : Nat → Prop} {h : Hh} {o : O} : Fr p h (h ++ [o]) := ⟨by simp, fun i hi _ => List.getElem?_append_left hi⟩
theorem Fr.set {p : Nat → Prop} {h : Hh} {n : Nat} {o : O} (hp : p n) : Fr p h (h.set n o) := ⟨by simp, fun i hi hn => List.getElem?_set_ne (fun e => hn (by rw [← e]; exact hp))⟩
theorem Fr.put {p : Nat → Prop} {h h' : Hh} {n : Nat} {o : O} (f : Fr p h h') (hn : h.length ≤ n) : Fr p h (h'.set n o) := ⟨by rw [List.length_set]; exact f.le, fun i hi hp => by rw [List.getElem?_set_ne (by omega)]; exact f.at_ i hi hp⟩
theorem Fr.add {p : Nat → Prop} {h h' : Hh} {o : O} (f : Fr p h h') : Fr p h (h' ++ [o]) := f.trans Fr.new
theorem Fr.mono {p q : Nat → Prop} {h h' : Hh} (f : Fr p h h') (i : ∀ n, n < h.length → p n → q n) : Fr q h h' := ⟨f.le, fun n hn hq => f.at_ n hn fun z => hq (i n hn z)⟩
theorem Fr.get {p : Nat → Prop} {h h' : Hh} (f : Fr p h h') {n : Nat} {o : O} (e : h[n]? = some o) (hp : ¬ p n) : h'[n]? = some o := (f.at_ n (List.getElem?_eq_some_iff.mp e).1 hp).trans e
theorem lt_of {h : Hh} {n : Nat} {o : O} (e : h[n]? = some o) : n < h.length := (List.getElem?_eq_some_iff.mp e).1
theorem get_new {h : Hh} {o : O} : (h ++ [o])[h.length]? = some o := by simp
theorem get_old {h : Hh} {n : Nat} {o o' : O} (e : h[n]? = some o) : (h ++ [o'])[n]? = some o := by rw [List.getElem?_append_left (lt_of e)]; exact e
theorem get_set {h : Hh} {n : Nat} {o o' : O} (e : h[n]? = some o) : (h.set n o')[n]? = some o' := List.getElem?_set_self (lt_of e)
theorem get_set_ne {h : Hh} {n m : Nat} {o' : O} (hn : n ≠ m) : (h.set n o')[m]? = h[m]? := List.getElem?_set_ne hn

/-- one step into a def of the table -/
theorem fs_in {T : Tb} {k : Nat} {f : Str} {F : Fn} {ds : List D} {h : Hh} {Q : Qd} {X : Xq} (hf : T.fn f = some F) (hl : ds.length = F.ps.length)
    (w : wpSs (cnOf T k) F.body (ds.map some ++ List.replicate (F.ns.length - ds.length) none) h { nx := fun _ h' => Q .non h', rt := Q, ex := fun _ => X }) (hi : isIni f = false := by decide) : FS T (k + 1) f ds h Q X := (FS_norm hi).mpr ⟨F, T.fn_df hf, hl, w⟩

/-! ### the law's box of draws -/
def Box (h : Hh) (b n : Nat) : Prop := ∃ a x c : Int, h[b]? = some (.lst [.int a, .int x, .int c]) ∧ 0 ≤ a ∧ 0 ≤ x ∧ x < 2147483647 ∧ 0 ≤ c ∧ c ≤ n
theorem Box.mono {h : Hh} {b n n' : Nat} (B : Box h b n) (l : n ≤ n') : Box h b n' := by
  obtain ⟨a, x, c, e, h1, h2, h3, h4, h5⟩ := B
  exact ⟨a, x, c, e, h1, h2, h3, h4, by omega⟩
theorem Box.fr {p : Nat → Prop} {h h' : Hh} {b n : Nat} (B : Box h b n) (f : Fr p h h') (hp : ¬ p b) : Box h' b n := by
  obtain ⟨a, x, c, e, r⟩ := B
  exact ⟨a, x, c, f.get e hp, r⟩
theorem Box.lt {h : Hh} {b n : Nat} (B : Box h b n) : b < h.length := by
  obtain ⟨a, x, c, e, r⟩ := B
  exact lt_of e
def fn__law_take : Fn := ⟨["", ""], ["", "", "", ""],
  (.cons (.ite (.cmp .gt (.idx (.var 0) (.int 0)) (.int 0))
    (.cons (.asg (.tp (.cons (.sub (.var 0) (.int 0)) (.cons (.nm 2) .nil))) (.bi .divmod (.cons (.idx (.var 0) (.int 0)) (.cons (.var 1) .nil))))
      (.cons (.ret (.var 2))
      .nil))
    .nil)
  (.cons (.asg (.sub (.var 0) (.int 2)) (.bin .add (.idx (.var 0) (.int 2)) (.int 1)))
  (.cons (.asg (.nm 3) (.bin .mod (.bin .pow (.bin .add (.idx (.var 0) (.int 1)) (.bin .mul (.int 39373) (.idx (.var 0) (.int 2)))) (.int 5)) (.int 2147483647)))
  (.cons (.ret (.bin .mod (.bin .fdiv (.bin .mod (.bin .add (.bin .mul (.var 3) (.int 48271)) (.bin .mul (.bin .mul (.idx (.var 0) (.int 2)) (.idx (.var 0) (.int 2))) (.int 7919))) (.int 2147483629)) (.int 64)) (.var 1)))
  .nil))))⟩
theorem take_ok {T : Tb} {k : Nat} (hT : T.fn "_law_take" = some fn__law_take) {h : Hh} {b n : Nat} {many : Int} {Q : Qd} {X : Xq} (B : Box h b n) (hn : n < 1000000000) (h0 : 0 < many) (h1 : many < 1073741824)
    (q : ∀ r h', 0 ≤ r → r < many → Box h' b (n + 1) → Fr (· = b) h h' → h'.length = h.length → Q (.int r) h') : FS T (k + 1) "_law_take" [.ref b, .int many] h Q X := by
  obtain ⟨a, x, c, e, ha, hx, hx2, hc, hcn⟩ := B
  have hb := lt_of e
  have g2 : ∀ o, (h.set b o)[b]? = some o := fun o => List.getElem?_set_self hb
  refine fs_in hT rfl ?_
  unfold fn__law_take
  rw [ss_cons]
  walk_at "h"
  split
  · rename_i hpos
    rw [ss_cons]
    walk_at "h"
    refine ⟨.inl ⟨h0, h1⟩, ?_⟩
    rw [ss_cons]
    walk_at "h"
    refine q _ _ (Int.emod_nonneg _ (by omega)) (Int.emod_lt_of_pos _ h0) ?_ (Fr.set rfl) (by simp)
    exact ⟨_, x, c, get_set e, Int.ediv_nonneg ha (by omega), hx, hx2, hc, by omega⟩
  · rename_i hpos
    have ha0 : a = 0 := by omega
    subst ha0
    rw [ss_cons]
    walk_at "h"
    rw [ss_cons]
    walk_at "h"
    refine ⟨.inl (.inl ⟨by decide, by decide⟩), .inl ⟨by decide, by decide, by omega⟩, by decide, ?_⟩
    rw [ss_cons]
    walk_at "h"
    have r0 : 0 ≤ (x + 39373 * (c + 1)) ^ 5 % 2147483647 := Int.emod_nonneg _ (by decide)
    have r1 : (x + 39373 * (c + 1)) ^ 5 % 2147483647 < 2147483647 := Int.emod_lt_of_pos _ (by decide)
    refine ⟨.inl (.inl ⟨by omega, by omega⟩), .inl (.inl ⟨by omega, by omega⟩), .inl (.inr ⟨by decide, by decide⟩), by decide, .inl ⟨by decide, by decide⟩, ?_⟩
    refine q _ _ (Int.emod_nonneg _ (by omega)) (Int.emod_lt_of_pos _ h0) ?_ (Fr.set rfl) (by simp)
    exact ⟨0, x, c + 1, get_set e, by omega, hx, hx2, by omega, by omega⟩
theorem bits_le {z : Int} {n : Nat} (h : z.natAbs < 2 ^ n) : Builtin.Int.intBits z ≤ n := by
  unfold Builtin.Int.intBits
  split
  · omega
  · rename_i hz
    have hz : z.natAbs ≠ 0 := by simpa using hz
    have := (Nat.log2_lt hz).mpr h
    omega
theorem log_le {z : Int} {n : Nat} (hn : 0 < n) (h : z.natAbs < 2 ^ n) : z.natAbs.log2 < n := by
  by_cases hz : z.natAbs = 0
  · rw [hz]; simpa using hn
  · exact (Nat.log2_lt hz).mpr h
theorem take_big {T : Tb} {k : Nat} (hT : T.fn "_law_take" = some fn__law_take) {h : Hh} {b n : Nat} {many : Int} {Q : Qd} {X : Xq} (B : Box h b n) (hn : n + 1 ≤ 2 ^ 100000) (h0 : 0 < many) (h1 : many < 4611686018427387904)
    (q : ∀ r h', 0 ≤ r → r < many → Box h' b (n + 1) → Fr (· = b) h h' → h'.length = h.length → Q (.int r) h') : FS T (k + 1) "_law_take" [.ref b, .int many] h Q X := by
  obtain ⟨a, x, c, e, ha, hx, hx2, hc, hcn⟩ := B
  have hb := lt_of e
  have g2 : ∀ o, (h.set b o)[b]? = some o := fun o => List.getElem?_set_self hb
  refine fs_in hT rfl ?_
  unfold fn__law_take
  rw [ss_cons]
  walk_at "h"
  split
  · rename_i hpos
    rw [ss_cons]
    walk_at "h"
    have hlg : many.natAbs.log2 < 62 := PySem.Flt.log2_lt_of (by decide) (by rw [show (2 : Nat) ^ 62 = 4611686018427387904 from by decide]; omega)
    refine ⟨.inr ⟨h0, by omega⟩, ?_⟩
    rw [ss_cons]
    walk_at "h"
    refine q _ _ (Int.emod_nonneg _ (by omega)) (Int.emod_lt_of_pos _ h0) ?_ (Fr.set rfl) (by simp)
    exact ⟨_, x, c, get_set e, Int.ediv_nonneg ha (by omega), hx, hx2, hc, by omega⟩
  · rename_i hpos
    have ha0 : a = 0 := by omega
    subst ha0
    have hcN : (c + 1).natAbs ≤ 2 ^ 100000 := by
      have : (c + 1).natAbs ≤ n + 1 := by omega
      exact Nat.le_trans this hn
    generalize hc1 : c + 1 = c1 at *
    have hc0 : 0 ≤ c1 := by omega
    have hc2 : c1 ≤ (n : Int) + 1 := by omega
    have hX : (x + 39373 * c1).natAbs < 2 ^ 100020 := by
      have e20 : (2 : Nat) ^ 100020 = 2 ^ 100000 * 1048576 := by rw [Nat.pow_add 2 100000 20]
      have e0 : (x + 39373 * c1).natAbs ≤ 2147483647 + 39373 * c1.natAbs := by omega
      have e1 : 2147483647 < 2 ^ 100000 := Nat.lt_of_lt_of_le (by decide : 2147483647 < 2 ^ 31) (Nat.pow_le_pow_right (by decide) (by decide))
      rw [e20]
      generalize (2 : Nat) ^ 100000 = M at *
      omega
    have hC : c1.natAbs < 2 ^ 100001 := by
      have e20 : (2 : Nat) ^ 100001 = 2 ^ 100000 * 2 := by rw [Nat.pow_add 2 100000 1]
      have e1 : 0 < 2 ^ 100000 := Nat.pow_pos (by decide)
      rw [e20]
      generalize (2 : Nat) ^ 100000 = M at *
      omega
    clear hn hcN
    rw [ss_cons]
    walk_at "h"
    rw [ss_cons]
    walk_at "h"
    refine ⟨.inl (.inl ⟨by decide, by decide⟩), .inr ⟨by decide, ?_⟩, by decide, ?_⟩
    · have := bits_le hX
      have e27 : (2 : Int) ^ 27 = 134217728 := by decide
      rw [e27]
      omega
    rw [ss_cons]
    walk_at "h"
    have r0 : 0 ≤ (x + 39373 * c1) ^ 5 % 2147483647 := Int.emod_nonneg _ (by decide)
    have r1 : (x + 39373 * c1) ^ 5 % 2147483647 < 2147483647 := Int.emod_lt_of_pos _ (by decide)
    have lC := log_le (by decide) hC
    refine ⟨.inl (.inl ⟨by omega, by omega⟩), .inr ?_, .inl (.inr ⟨by decide, by decide⟩), by decide, .inl ⟨by decide, by decide⟩, ?_⟩
    · show c1.natAbs.log2 + c1.natAbs.log2 < 1000000
      omega
    refine q _ _ (Int.emod_nonneg _ (by omega)) (Int.emod_lt_of_pos _ h0) ?_ (Fr.set rfl) (by simp)
    exact ⟨0, x, c1, get_set e, by omega, hx, hx2, by omega, by omega⟩
def fn__law_box : Fn := ⟨["", ""], ["", "", ""],
  (.cons (.asg (.nm 2) (.int 0))
  (.cons (.ite (.cmp .lt (.var 1) (.bi .len (.cons (.var 0) .nil)))
    (.cons (.asg (.nm 2) (.idx (.var 0) (.var 1)))
      .nil)
    .nil)
  (.cons (.ret (.lst (.cons (.bin .mul (.bi .abs (.cons (.var 2) .nil)) (.bi .int (.cons (.cmp .ge (.bi .abs (.cons (.var 2) .nil)) (.bin .pow (.int 10) (.int 18))) .nil))) (.cons (.bin .mod (.bin .add (.var 2) (.bin .mul (.bin .mul (.int 7919) (.var 1)) (.var 1))) (.int 2147483647)) (.cons (.int 0) .nil)))))
  .nil)))⟩
theorem box_ok {T : Tb} {k : Nat} (hT : T.fn "_law_box" = some fn__law_box) {h : Hh} {c : Nat} {cs : List Int} {i : Nat} {Q : Qd} {X : Xq} (e : h[c]? = some (.lst (cs.map D.int))) (hi : i < cs.length) (hc : cs.length ≤ 1000)
    (q : ∀ h', Box h' h.length 0 → Fr (fun _ => False) h h' → h'.length = h.length + 1 → Q (.ref h.length) h') : FS T (k + 1) "_law_box" [.ref c, .int i] h Q X := by
  refine fs_in hT rfl ?_
  unfold fn__law_box
  have gi : (cs.map D.int)[i]? = some (.int cs[i]) := by rw [List.getElem?_map, List.getElem?_eq_getElem hi]; rfl
  have hi' : ((i : Int) < (cs.length : Int)) = True := by simp; omega
  rw [ss_cons]
  walk_at "h"
  rw [ss_cons]
  walk_at "h"
  rw [ss_cons]
  walk_at "h"
  rw [ss_cons]
  walk_at "h"
  have key : ∀ z : Int, 0 ≤ (if z < 0 then -z else z) := by intro z; split <;> omega
  have k01 : ∀ (p : Prop) [Decidable p], (0 : Int) ≤ (if p then 1 else 0) ∧ (if p then (1 : Int) else 0) ≤ 1 := by intro p _; split <;> decide
  refine ⟨.inl ⟨by decide, by decide, by decide⟩, .inl (.inr ?_), .inl (.inl ⟨by decide, by decide⟩), .inl (.inr ⟨by omega, by omega⟩), by decide, ?_⟩
  · have := k01 (10 ^ 18 ≤ if cs[i] < 0 then -cs[i] else cs[i])
    constructor <;> omega
  refine q _ ⟨_, _, _, get_new, ?_, Int.emod_nonneg _ (by decide), Int.emod_lt_of_pos _ (by decide), by decide, by decide⟩ Fr.new (by simp)
  exact Int.mul_nonneg (key _) (k01 _).1
def sdrop : Nat → Ss → Ss
  | 0, s => s
  | _ + 1, .nil => .nil
  | n + 1, .cons _ r => sdrop n r
end Bp

/-! ## the second semantics: lists and dicts by value, names that own a list, objects in a store -/
namespace Bp
open PySem L2

inductive U where
  | non | bl (b : Bool) | int (i : Int) | str (s : Str) | tup (us : List U) | vl (us : List U) | vd (kvs : List (Key × U)) | ref (n : Nat) | box | scr (ns : List Int)
/-- what a name holds, or what an expression comes to: a value, or a list or dict of its own that may still be changed -/
inductive W where
  | v (u : U) | own (us : List U) | ownD (kvs : List (Key × U))
inductive Uo where
  | lst (us : List U) | dK (kvs : List (Key × U)) | ins (c : Str) (fs : List (Str × W)) | exc (c : Str) (p : Option U)
abbrev Us := List Uo
abbrev Ev := List (Option W)
abbrev Qw := W → Ev → Us → Prop
abbrev Xu := Str → Option U → Ev → Us → Prop

def frzU : W → U
  | .v u => u
  | .own us => .vl us
  | .ownD kvs => .vd kvs
/-- an operand: a name, read when it's used, or a thing -/
inductive Od where
  | at (i : Nat) | w (x : W)
def evGet (ev : Ev) (i : Nat) : Option W := match ev[i]? with
  | some (some w) => some w
  | _ => none
def Od.get (ev : Ev) : Od → Option W
  | .at i => evGet ev i
  | .w x => some x
def getAll (ev : Ev) : List Od → Option (List W)
  | [] => some []
  | o :: r => match o.get ev, getAll ev r with
    | some w, some ws => some (w :: ws)
    | _, _ => none
def stL (σ : Us) (n : Nat) : Option (List U) := match σ[n]? with
  | some (.lst us) => some us
  | _ => none
def stD (σ : Us) (n : Nat) : Option (List (Key × U)) := match σ[n]? with
  | some (.dK us) => some us
  | _ => none
/-- the items of a list -/
def wlst (σ : Us) : W → Option (List U)
  | .own us => some us
  | .v (.vl us) => some us
  | .v (.ref n) => stL σ n
  | _ => none
/-- the items of a list or a tuple -/
def wels (σ : Us) : W → Option (List U)
  | .own us => some us
  | .v (.vl us) => some us
  | .v (.tup us) => some us
  | .v (.scr ns) => some (ns.map U.int)
  | .v (.ref n) => stL σ n
  | _ => none
def wdct (σ : Us) : W → Option (List (Key × U))
  | .ownD kvs => some kvs
  | .v (.vd kvs) => some kvs
  | .v (.ref n) => stD σ n
  | _ => none
/-- a list or a dict that may be changed -/
def mutL (ev : Ev) (σ : Us) : Od → Option (List U)
  | .at i => match evGet ev i with
    | some (.own us) => some us
    | some (.v (.ref n)) => stL σ n
    | _ => none
  | .w (.v (.ref n)) => stL σ n
  | _ => none
def mutD (ev : Ev) (σ : Us) : Od → Option (List (Key × U))
  | .at i => match evGet ev i with
    | some (.ownD us) => some us
    | some (.v (.ref n)) => stD σ n
    | _ => none
  | .w (.v (.ref n)) => stD σ n
  | _ => none
def putL (us : List U) (ev : Ev) (σ : Us) (Q : Ev → Us → Prop) : Od → Prop
  | .at i => match evGet ev i with
    | some (.own _) => Q (ev.set i (some (.own us))) σ
    | some (.v (.ref n)) => Q ev (σ.set n (.lst us))
    | _ => False
  | .w (.v (.ref n)) => Q ev (σ.set n (.lst us))
  | _ => False
def putK (us : List (Key × U)) (ev : Ev) (σ : Us) (Q : Ev → Us → Prop) : Od → Prop
  | .at i => match evGet ev i with
    | some (.ownD _) => Q (ev.set i (some (.ownD us))) σ
    | some (.v (.ref n)) => Q ev (σ.set n (.dK us))
    | _ => False
  | .w (.v (.ref n)) => Q ev (σ.set n (.dK us))
  | _ => False

def truW (σ : Us) (Q : Bool → Prop) : W → Prop
  | .v .non => Q false
  | .v (.bl b) => Q b
  | .v (.int i) => Q (i != 0)
  | .v (.str s) => s.length ≤ 100000 ∧ Q (s.length != 0)
  | .v (.tup us) => Q (!us.isEmpty)
  | .v (.vl us) => Q (!us.isEmpty)
  | .own us => Q (!us.isEmpty)
  | .ownD us => Q (!us.isEmpty)
  | .v (.ref n) => (∃ us, stL σ n = some us ∧ Q (!us.isEmpty)) ∨ ∃ us, stD σ n = some us ∧ Q (!us.isEmpty)
  | _ => False

mutual
def toP : U → Option PyData
  | .non => some .none
  | .bl b => some (.bool b)
  | .int i => some (.int i)
  | .str s => some (.str s)
  | .tup us => (toPs us).map PyData.tuple
  | .vl us => (toPs us).map PyData.list
  | .vd _ => none
  | .ref _ => none
  | .box => none
  | .scr _ => none
def toPs : List U → Option (List PyData)
  | [] => some []
  | u :: us => match toP u, toPs us with
    | some p, some ps => some (p :: ps)
    | _, _ => none
end
def flatU : U → Bool
  | .non => true | .bl _ => true | .int _ => true | .str _ => true | _ => false
def eqU : U → U → Bool
  | .non, .non => true
  | .bl a, .bl b => a == b
  | .bl a, .int b => (if a then 1 else 0) == b
  | .int a, .bl b => a == (if b then 1 else 0)
  | .int a, .int b => a == b
  | .str a, .str b => a == b
  | _, _ => false
def keyU : U → Option Key
  | .int i => some (.inl i)
  | .str s => some (.inr s)
  | _ => none
def getU {κ : Type} [DecidableEq κ] (kvs : List (κ × U)) (k : κ) : Option U := (kvs.find? fun kv => decide (kv.1 = k)).map (·.2)
def putU {κ : Type} [DecidableEq κ] (kvs : List (κ × U)) (k : κ) (v : U) : List (κ × U) :=
  if kvs.any (fun kv => decide (kv.1 = k)) then kvs.map (fun kv => if kv.1 = k then (kv.1, v) else kv) else kvs ++ [(k, v)]
def mergeU (kvs more : List (Key × U)) : List (Key × U) := more.foldl (fun acc kv => putU acc kv.1 kv.2) kvs
def pairU : List U → Option (List (Key × U))
  | [] => some []
  | [_] => none
  | a :: b :: r => match keyU a, pairU r with
    | some k, some ps => some ((k, b) :: ps)
    | _, _ => none
def pr2U : U → Option (Key × U)
  | .tup [k, v] => match keyU k with
    | some q => some (q, v)
    | none => none
  | _ => none
def prsU : List U → Option (List (Key × U))
  | [] => some []
  | u :: r => match pr2U u, prsU r with
    | some p, some ps => some (p :: ps)
    | _, _ => none
def dropU {κ : Type} [DecidableEq κ] (kvs : List (κ × U)) (k : κ) : List (κ × U) := kvs.filter fun kv => decide (kv.1 ≠ k)
def ukey : Key → U
  | .inl i => .int i
  | .inr s => .str s
def cutU (xs : List U) (lo hi : Option Int) : List U := (xs.drop (HT.sIx xs.length 0 lo)).take (HT.sIx xs.length xs.length hi - HT.sIx xs.length 0 lo)
mutual
def dU : D → Option U
  | .non => some .non
  | .bl b => some (.bl b)
  | .int i => some (.int i)
  | .str s => some (.str s)
  | .tup ds => if ds.length ≤ 1000 then (dUs ds).map U.tup else none
  | .ref _ => none
def dUs : List D → Option (List U)
  | [] => some []
  | d :: ds => match dU d, dUs ds with
    | some u, some us => some (u :: us)
    | _, _ => none
end
/-- a thing as data: a list of its own, or one of the store, by its items -/
def wU (σ : Us) : W → U
  | .own us => .vl us
  | .ownD kvs => .vd kvs
  | .v (.ref n) => match stL σ n with
    | some us => .vl us
    | none => .ref n
  | .v u => u

def uBo : Bo → W → W → Us → (W → Prop) → Prop
  | .add, .v (.int i), .v (.int j), _, Q => Q (.v (.int (i + j)))
  | .add, .v (.str i), .v (.str j), _, Q => i.length + j.length ≤ 100000 ∧ Q (.v (.str (i ++ j)))
  | .add, .v (.tup a), .v (.tup b), _, Q => a.length + b.length ≤ 100000 ∧ Q (.v (.tup (a ++ b)))
  | .add, x, y, σ, Q => ∃ xs ys, wlst σ x = some xs ∧ wlst σ y = some ys ∧ xs.length + ys.length ≤ 100000 ∧ Q (.own (xs ++ ys))
  | .sub, .v (.int i), .v (.int j), _, Q => Q (.v (.int (i - j)))
  | .mul, .v (.int i), .v (.int j), _, Q => (CMul i j ∨ CMulW i j) ∧ Q (.v (.int (i * j)))
  | .mul, x, .v (.int k), σ, Q => ∃ xs, wlst σ x = some xs ∧ -1000000 ≤ k ∧ k ≤ 1000000 ∧ xs.length * k.toNat ≤ 100000 ∧ Q (.own (List.replicate k.toNat xs).flatten)
  | .fdiv, .v (.int i), .v (.int j), _, Q => (CDiv i j ∨ CDivW i j) ∧ Q (.v (.int (i / j)))
  | .mod, .v (.int i), .v (.int j), _, Q => 0 < j ∧ Q (.v (.int (i % j)))
  | .pow, .v (.int i), .v (.int j), _, Q => (CPow i j ∨ CPowW i j) ∧ Q (.v (.int (i ^ j.toNat)))
  | .xor, .v (.int i), .v (.int j), _, Q => Q (.v (.int (Builtin.bitXor i j)))
  | _, _, _, _, _ => False
def uAug : Bo → U → W → (U → Prop) → Prop
  | .add, .int i, .v (.int j), Q => Q (.int (i + j))
  | .add, .str i, .v (.str j), Q => i.length + j.length ≤ 100000 ∧ Q (.str (i ++ j))
  | .sub, .int i, .v (.int j), Q => Q (.int (i - j))
  | .mul, .int i, .v (.int j), Q => CMul i j ∧ Q (.int (i * j))
  | .fdiv, .int i, .v (.int j), Q => CDiv i j ∧ Q (.int (i / j))
  | .mod, .int i, .v (.int j), Q => 0 < j ∧ Q (.int (i % j))
  | _, _, _, _ => False
def uEq (d e : U) (Q : Bool → Prop) : Prop :=
  match d, e with
  | .int i, .int j => Q (decide (i = j))
  | .str i, .str j => Q (decide (i = j))
  | .bl i, .bl j => Q (decide (i = j))
  | .non, .non => Q true
  | .non, .int _ => Q false
  | .int _, .non => Q false
  | .non, .str _ => Q false
  | .str _, .non => Q false
  | .non, .bl _ => Q false
  | .bl _, .non => Q false
  | .int _, .str _ => Q false
  | .str _, .int _ => Q false
  | .bl _, .str _ => Q false
  | .str _, .bl _ => Q false
  | d, e => ∃ p q, toP d = some p ∧ toP e = some q ∧ SeqAt.shaped p = true ∧ SeqAt.shaped q = true ∧ Q (PyData.eqv p q)
/-- x in xs, by the data -/
def uInD (x : U) (c : W) (σ : Us) (Q : Bool → Prop) : Prop :=
  ∃ us p ps, wlst σ c = some us ∧ toP x = some p ∧ toPs us = some ps ∧ SeqAt.shaped p = true ∧ SeqAt.shaped (.list ps) = true ∧ Q (ps.any fun z => PyData.eqv z p)
def uIn (x : U) (c : W) (σ : Us) (Q : Bool → Prop) : Prop :=
  match c with
  | .v (.str z) => ∃ s, x = .str ⟨#[s]⟩ ∧ Q (decide (s ∈ z.cps.toList))
  | c => (∃ us, wels σ c = some us ∧ flatU x = true ∧ us.all flatU = true ∧ Q (us.any fun y => eqU y x)) ∨
      (∃ kvs k, wdct σ c = some kvs ∧ keyU x = some k ∧ Q (getU kvs k).isSome) ∨ uInD x c σ Q
/-- a value, lists of the store within a tuple read -/
def resU (σ : Us) : U → U
  | .ref n => match stL σ n with
    | some us => .vl us
    | none => .ref n
  | u => u
def dpU (σ : Us) : W → U
  | .v (.tup us) => .tup (us.map (resU σ))
  | w => wU σ w
def uCo : Co → W → W → Us → (Bool → Prop) → Prop
  | .eq, d, e, σ, Q => uEq (wU σ d) (wU σ e) Q
  | .ne, d, e, σ, Q => uEq (wU σ d) (wU σ e) fun b => Q (!b)
  | .lt, .v (.int i), .v (.int j), _, Q => Q (decide (i < j))
  | .le, .v (.int i), .v (.int j), _, Q => Q (decide (i ≤ j))
  | .gt, .v (.int i), .v (.int j), _, Q => Q (decide (j < i))
  | .ge, .v (.int i), .v (.int j), _, Q => Q (decide (j ≤ i))
  | .lt, .v (.str i), .v (.str j), _, Q => Q (decide (i.cps.toList < j.cps.toList))
  | .lt, .v (.tup a), .v (.tup b), _, Q => ∃ p q, toP (.tup a) = some p ∧ toP (.tup b) = some q ∧ SeqAt.shaped p = true ∧ SeqAt.shaped q = true ∧ PySem.W.alike p q = true ∧ Q (PySem.W.dataLt p q)
  | .is, d, .v .non, _, Q => Q (match d with | .v .non => true | _ => false)
  | .isnot, d, .v .non, _, Q => Q (match d with | .v .non => false | _ => true)
  | .isin, .v x, c, σ, Q => uIn x c σ Q
  | .notin, .v x, c, σ, Q => uIn x c σ fun b => Q (!b)
  | .deq, d, e, σ, Q => ∃ p q, toP (dpU σ d) = some p ∧ toP (dpU σ e) = some q ∧ SeqAt.shaped p = true ∧ SeqAt.shaped q = true ∧ Q (PyData.eqv p q)
  | .dne, d, e, σ, Q => ∃ p q, toP (dpU σ d) = some p ∧ toP (dpU σ e) = some q ∧ SeqAt.shaped p = true ∧ SeqAt.shaped q = true ∧ Q (!PyData.eqv p q)
  | .isin, .own us, c, σ, Q => uInD (.vl us) c σ Q
  | .notin, .own us, c, σ, Q => uInD (.vl us) c σ fun b => Q (!b)
  | _, _, _, _, _ => False
def uIdx (a i : W) (σ : Us) (Q : U → Prop) : Prop :=
  match a with
  | .v (.str z) => ∃ k c, i = .v (.int k) ∧ z.length ≤ 100000 ∧ atI z.cps.toList k = some c ∧ Q (.str ⟨#[c]⟩)
  | a => (∃ us k u, wels σ a = some us ∧ i = .v (.int k) ∧ atI us k = some u ∧ Q u) ∨
      (∃ kvs x k u, wdct σ a = some kvs ∧ i = .v x ∧ keyU x = some k ∧ getU kvs k = some u ∧ Q u)
def uSli (a : W) (lo hi : Option Int) (σ : Us) (Q : W → Prop) : Prop :=
  match a with
  | .v (.str z) => z.length ≤ 100000 ∧ Q (.v (.str (cutS z lo hi)))
  | .v (.tup us) => Q (.v (.tup (cutU us lo hi)))
  | .v (.scr ns) => Q (.own (cutU (ns.map U.int) lo hi))
  | a => ∃ us, wlst σ a = some us ∧ Q (.own (cutU us lo hi))
def contU : U → Bool
  | .tup _ => true | .vl _ => true | _ => false
def uBi : Bi → List W → Us → (W → Prop) → Prop
  | .len, [.v (.str s)], _, Q => s.length ≤ 100000 ∧ Q (.v (.int s.length))
  | .len, [x], σ, Q => (∃ us, wels σ x = some us ∧ Q (.v (.int us.length))) ∨ ∃ kvs, wdct σ x = some kvs ∧ Q (.v (.int kvs.length))
  | .list, [x], σ, Q => ∃ us, wels σ x = some us ∧ Q (.own us)
  | .tuple, [x], σ, Q => ∃ us, wels σ x = some us ∧ Q (.v (.tup us))
  | .divmod, [.v (.int i), .v (.int j)], _, Q => (CDiv i j ∨ CDivW i j) ∧ Q (.v (.tup [.int (i / j), .int (i % j)]))
  | .abs, [.v (.int i)], _, Q => Q (.v (.int (if i < 0 then -i else i)))
  | .int, [.v (.int i)], _, Q => Q (.v (.int i))
  | .int, [.v (.bl b)], _, Q => Q (.v (.int (if b then 1 else 0)))
  | .bool, [.v (.int i)], _, Q => Q (.v (.bl (i != 0)))
  | .bool, [.v (.bl b)], _, Q => Q (.v (.bl b))
  | .max2, [.v (.int i), .v (.int j)], _, Q => Q (.v (.int (if j > i then j else i)))
  | .min2, [.v (.int i), .v (.int j)], _, Q => Q (.v (.int (if j < i then j else i)))
  | .all, [x], σ, Q => ∃ bs : List Bool, wlst σ x = some (bs.map U.bl) ∧ Q (.v (.bl (bs.all id)))
  | .any, [x], σ, Q => ∃ bs : List Bool, wlst σ x = some (bs.map U.bl) ∧ Q (.v (.bl (bs.any id)))
  | .sum, [x], σ, Q => ∃ is : List Int, wlst σ x = some (is.map U.int) ∧ Q (.v (.int is.sum))
  | .max1, [x], σ, Q => ∃ is : List Int, wlst σ x = some (is.map U.int) ∧ 0 < is.length ∧ ∀ m, m ∈ is → (∀ y ∈ is, y ≤ m) → Q (.v (.int m))
  | .min1, [x], σ, Q => ∃ is : List Int, wlst σ x = some (is.map U.int) ∧ 0 < is.length ∧ ∀ m, m ∈ is → (∀ y ∈ is, m ≤ y) → Q (.v (.int m))
  | .str, [.v (.int i)], _, Q => i.natAbs.log2 < 1920 ∧ Q (.v (.str (toString i)))
  | .str, [x], σ, Q => contU (wU σ x) = true ∧ ∃ p, toP (wU σ x) = some p ∧ Shows p ∧ Q (.v (.str p.shown))
  | .repr, [.v (.int i)], _, Q => i.natAbs.log2 < 1920 ∧ Q (.v (.str (toString i)))
  | .repr, [x], σ, Q => contU (wU σ x) = true ∧ ∃ p, toP (wU σ x) = some p ∧ Shows p ∧ Q (.v (.str p.shown))
  | .sorted, [x], σ, Q => (∃ ss : List Str, wlst σ x = some (ss.map U.str) ∧ ss.length < 64 ∧ ∀ ys : List Str, ys.Perm ss → PyProof.Rows.sortedS ys = true → Q (.own (ys.map U.str))) ∨
      (∃ is : List Int, wlst σ x = some (is.map U.int) ∧ is.length ≤ 2000000 ∧ ∀ ys : List Int, ys.Perm is → ys.Pairwise (· ≤ ·) → Q (.own (ys.map U.int)))
  | .listS, [.v (.str z)], _, Q => z.length ≤ 100000 ∧ Q (.own (z.cps.toList.map fun c => .str ⟨#[c]⟩))
  | .listK, [x], σ, Q => ∃ kvs, wdct σ x = some kvs ∧ kvs.length ≤ 100000 ∧ Q (.own (kvs.map fun kv => ukey kv.1))
  | .sortK, [x], σ, Q => ∃ kvs, ∃ ks : List Str, wdct σ x = some kvs ∧ kvs.map (·.1) = ks.map Sum.inr ∧ ks.length < 64 ∧ ∀ ys : List Str, ys.Perm ks → PyProof.Rows.sortedS ys = true → Q (.own (ys.map U.str))
  | .dict, [x], σ, Q => (∃ us ps, wlst σ x = some us ∧ prsU us = some ps ∧ Q (.ownD (mergeU [] ps))) ∨ ∃ kvs, wdct σ x = some kvs ∧ Q (.ownD kvs)
  | _, _, _, _ => False
def uNe : Ne → W → Us → (W → Prop) → Prop
  | .litems, x, σ, Q => ∃ kvs, wdct σ x = some kvs ∧ kvs.length ≤ 100000 ∧ Q (.own (kvs.map fun kv => .tup [ukey kv.1, kv.2]))
  | .svals, x, σ, Q => ∃ kvs, ∃ is : List Int, wdct σ x = some kvs ∧ kvs.map (·.2) = is.map U.int ∧ (∀ j, j ≤ is.length → InLong ((is.take j).sum)) ∧ (∀ i ∈ is, InLong i) ∧ Q (.v (.int is.sum))
  | .lrev, x, σ, Q => ∃ us, wlst σ x = some us ∧ Q (.own us.reverse)
  | .dne, x, σ, Q => ∃ kvs, wdct σ x = some kvs ∧ Q (.v (.bl (!kvs.isEmpty)))
/-- a list's or a tuple's items -/
def welx (σ : Us) : U → Option (List U)
  | .tup us => some us
  | u => wlst σ (.v u)
/-- a method: of a list or a dict that may be changed -/
def uMt : Mt → Od → List U → Ev → Us → Qw → Prop
  | .append, o, [u], ev, σ, Q => ∃ us, mutL ev σ o = some us ∧ us.length < 100000 ∧ putL (us ++ [u]) ev σ (Q (.v .non)) o
  | .extend, o, [u], ev, σ, Q => ∃ us vs, mutL ev σ o = some us ∧ welx σ u = some vs ∧ us.length + vs.length ≤ 100000 ∧ putL (us ++ vs) ev σ (Q (.v .non)) o
  | .pop, o, [], ev, σ, Q => ∃ us u, mutL ev σ o = some us ∧ us[us.length - 1]? = some u ∧ putL us.dropLast ev σ (Q (.v u)) o
  | .popAt, o, [.int i], ev, σ, Q => ∃ us k u, mutL ev σ o = some us ∧ -100000 ≤ i ∧ i ≤ 100000 ∧ seqIndex? i us.length = some k ∧ us[k]? = some u ∧ putL (us.eraseIdx k) ev σ (Q (.v u)) o
  | .reverse, o, [], ev, σ, Q => ∃ us, mutL ev σ o = some us ∧ putL us.reverse ev σ (Q (.v .non)) o
  | .clear, o, [], ev, σ, Q => ∃ us, mutL ev σ o = some us ∧ putL [] ev σ (Q (.v .non)) o
  | .insert, o, [.int i, u], ev, σ, Q => ∃ us, mutL ev σ o = some us ∧ 0 ≤ i ∧ i ≤ us.length ∧ us.length < 100000 ∧ putL (us.take i.toNat ++ u :: us.drop i.toNat) ev σ (Q (.v .non)) o
  | .index, o, [x], ev, σ, Q => ∃ w us j y, o.get ev = some w ∧ wlst σ w = some us ∧ flatU x = true ∧ us.all flatU = true ∧ us[j]? = some y ∧ eqU y x = true ∧ (∀ (m : Nat) z, m < j → us[m]? = some z → eqU z x = false) ∧ Q (.v (.int (j : Nat))) ev σ
  | .remove, o, [x], ev, σ, Q => ∃ us j y, mutL ev σ o = some us ∧ flatU x = true ∧ us.all flatU = true ∧ us[j]? = some y ∧ eqU y x = true ∧ (∀ (m : Nat) z, m < j → us[m]? = some z → eqU z x = false) ∧ putL (us.eraseIdx j) ev σ (Q (.v .non)) o
  | .join, o, [x], ev, σ, Q => ∃ a, o.get ev = some (.v (.str a)) ∧ ∃ ss : List Str, wlst σ (.v x) = some (ss.map U.str) ∧ (ss.map (·.length)).sum + ss.length * a.length ≤ 100000 ∧ Q (.v (.str (Txt.join a ss))) ev σ
  | .get2, o, [k, x], ev, σ, Q => ∃ w kvs key, o.get ev = some w ∧ wdct σ w = some kvs ∧ keyU k = some key ∧ Q (.v ((getU kvs key).getD x)) ev σ
  | .get1, o, [k], ev, σ, Q => ∃ w kvs key, o.get ev = some w ∧ wdct σ w = some kvs ∧ keyU k = some key ∧ Q (.v ((getU kvs key).getD .non)) ev σ
  | .dpop2, o, [k, x], ev, σ, Q => ∃ kvs key, mutD ev σ o = some kvs ∧ keyU k = some key ∧ (∀ v, getU kvs key = some v → putK (dropU kvs key) ev σ (Q (.v v)) o) ∧ (getU kvs key = none → Q (.v x) ev σ)
  | .setdef, o, [k, x], ev, σ, Q => ∃ kvs key, mutD ev σ o = some kvs ∧ keyU k = some key ∧ kvs.length < 100000 ∧ (∀ v, getU kvs key = some v → Q (.v v) ev σ) ∧ (getU kvs key = none → putK (putU kvs key x) ev σ (Q (.v x)) o)
  | .update, o, [.vd more], ev, σ, Q => ∃ kvs, mutD ev σ o = some kvs ∧ kvs.length + more.length ≤ 100000 ∧ putK (mergeU kvs more) ev σ (Q (.v .non)) o
  | _, _, _, _, _, _ => False
def umTy (m : Mt) (o : Od) (ev : Ev) (σ : Us) : Prop :=
  match m with
  | .get2 => ∃ w kvs, o.get ev = some w ∧ wdct σ w = some kvs
  | .get1 => ∃ w kvs, o.get ev = some w ∧ wdct σ w = some kvs
  | .dpop2 => ∃ kvs, mutD ev σ o = some kvs
  | .setdef => ∃ kvs, mutD ev σ o = some kvs
  | .update => ∃ kvs, mutD ev σ o = some kvs
  | .index => ∃ w us, o.get ev = some w ∧ wlst σ w = some us
  | .join => ∃ a, o.get ev = some (.v (.str a))
  | _ => ∃ us, mutL ev σ o = some us
def tyU (σ : Us) : W → Option Tn
  | .v .non => some .non
  | .v (.bl _) => some .bool
  | .v (.int _) => some .int
  | .v (.str _) => some .str
  | .v (.tup _) => some .tuple
  | .v (.vl _) => some .list
  | .v (.vd _) => some .dict
  | .own _ => some .list
  | .ownD _ => some .dict
  | .v (.ref n) => match σ[n]? with
    | some (.lst _) => some .list
    | some (.dK _) => some .dict
    | _ => none
  | _ => none

/-- what is walked -/
structure Sr where
  items : List U
  still : List (Nat × List U) := []
def Sr.ok (s : Sr) (σ : Us) : Prop := ∀ p ∈ s.still, stL σ p.1 = some p.2
mutual
/-- a value that has just one thing beside it -/
def detU : U → Bool
  | .tup us => detUs us
  | .vl _ => false | .vd _ => false | .box => false | .scr _ => false
  | _ => true
def detUs : List U → Bool
  | [] => true
  | u :: us => detU u && detUs us
end
def uSrcL (σ : Us) (Q : Sr → Prop) : U → Prop
  | .vl us => Q ⟨us, []⟩
  | .scr ns => Q ⟨ns.map U.int, []⟩
  | .ref n => ∃ us, stL σ n = some us ∧ detUs us = true ∧ Q ⟨us, [(n, us)]⟩
  | _ => False
def uSrcT (Q : Sr → Prop) : U → Prop
  | .tup us => Q ⟨us, []⟩
  | _ => False
def uSrc (σ : Us) (Q : Sr → Prop) : U → Prop
  | .tup us => Q ⟨us, []⟩
  | .scr ns => Q ⟨ns.map U.int, []⟩
  | .vl us => Q ⟨us, []⟩
  | .str z => z.length ≤ 100000 ∧ Q ⟨z.cps.toList.map fun c => U.str ⟨#[c]⟩, []⟩
  | .ref n => ∃ us, stL σ n = some us ∧ detUs us = true ∧ Q ⟨us, [(n, us)]⟩
  | _ => False
def uSrcZ (σ : Us) (x y : U) (Q : Sr → Prop) : Prop :=
  uSrcL σ (fun s => uSrcL σ (fun s' => Q ⟨(s.items.zip s'.items).map fun p => .tup [p.1, p.2], s.still ++ s'.still⟩) y) x ∨
  uSrcT (fun s => uSrcT (fun s' => Q ⟨(s.items.zip s'.items).map fun p => .tup [p.1, p.2], []⟩) y) x ∨
  uSrcT (fun s => uSrcL σ (fun s' => Q ⟨(s.items.zip s'.items).map fun p => .tup [p.1, p.2], s'.still⟩) y) x ∨
  uSrcL σ (fun s => uSrcT (fun s' => Q ⟨(s.items.zip s'.items).map fun p => .tup [p.1, p.2], s.still⟩) y) x
def uSrcE (σ : Us) (Q : Sr → Prop) (u : U) : Prop :=
  uSrcL σ (fun s => Q ⟨s.items.zipIdx.map fun p => .tup [.int (p.2 : Nat), p.1], s.still⟩) u ∨ uSrcT (fun s => Q ⟨s.items.zipIdx.map fun p => .tup [.int (p.2 : Nat), p.1], []⟩) u
def uSrcR (σ : Us) (x : U) (Q : Sr → Prop) : Prop :=
  uSrcL σ (fun s => Q ⟨s.items.reverse, s.still⟩) x ∨ uSrcT (fun s => Q ⟨s.items.reverse, []⟩) x

def forU (G : Us → Prop) (turn : U → Ev → Us → (Ev → Us → Prop) → Prop) (done : Ev → Us → Prop) : List U → Ev → Us → Prop
  | [], e, h => G h ∧ done e h
  | d :: ds, e, h => G h ∧ turn d e h (fun e' h' => forU G turn done ds e' h')
def compU (G : Ev → Us → Prop) (turn : U → Ev → Us → (Option U → Ev → Us → Prop) → Prop) (done : List U → Ev → Us → Prop) : List U → List U → Ev → Us → Prop
  | [], acc, e, h => G e h ∧ done acc e h
  | d :: ds, acc, e, h => G e h ∧ turn d e h fun r e' h' => match r with
    | none => compU G turn done ds acc e' h'
    | some y => acc.length < 100000 ∧ compU G turn done ds (acc ++ [y]) e' h'
mutual
def tgSl : Tg → List Nat
  | .nm i => [i]
  | .tp ts => tgsSl ts
  | .sub _ _ => []
def tgsSl : Tgs → List Nat
  | .nil => []
  | .cons t ts => tgSl t ++ tgsSl ts
end
def memN (i : Nat) : List Nat → Bool
  | [] => false
  | j :: r => i == j || memN i r
def subN : List Nat → List Nat → Bool
  | [], _ => true
  | i :: r, l => memN i l && subN r l
/-- the slots of a comprehension's own names: hidden while it goes, and laid back -/
def hide (ev : Ev) : List Nat → Ev
  | [] => ev
  | v :: vs => (hide ev vs).set v none
def kept : Option W → Option W
  | some (.v u) => some (.v u)
  | _ => none
def unhide (ev0 ev : Ev) : List Nat → Ev
  | [] => ev
  | v :: vs => (unhide ev0 ev vs).set v (kept (evGet ev0 v))

structure Cu where
  fs : Str → List U → Us → (W → Us → Prop) → (Str → Option U → Us → Prop) → Prop
  gl : Str → Option D
  isf : Str → Bool
  td : Str → Option (List (Str × D)) := fun _ => none
  fl : Str → Str → Bool := fun _ _ => false
  mtk : Str → Str → Option Str := fun _ _ => none
  fh : Str → List U → Us → (W → Us → Prop) → Prop := fun _ _ _ _ => False
  sb : Str → Str → Bool := fun _ _ => false
  xk : Str → Option Bool := fun _ => none
/-- within an except suite -/
def Cu.hot (C : Cu) : Cu := ⟨fun f us σ Q _ => C.fh f us σ Q, C.gl, fun _ => false, C.td, C.fl, C.mtk, fun _ _ _ _ => False, C.sb, C.xk⟩
/-- a field set -/
def putFU (f : Str) (v : W) : List (Str × W) → List (Str × W)
  | [] => [(f, v)]
  | (g, x) :: r => if g = f then (g, v) :: r else (g, x) :: putFU f v r

def isVar : E → Option Nat
  | .var i => some i
  | _ => none
/-- a name with a list of its own that a comprehension walks -/
def keepI (ev : Ev) : Iv → Option (Nat × List U)
  | .seq (.var i) => match evGet ev i with
    | some (.own us) => some (i, us)
    | _ => none
  | _ => none
/-- an operand -/
def opd (a : E) (ev : Ev) (σ : Us) (full : Qw → Prop) (k : Od → Ev → Us → Prop) : Prop := match isVar a with
  | some i => ∃ w, evGet ev i = some w ∧ k (.at i) ev σ
  | none => full fun w e1 s1 => k (.w w) e1 s1
section
variable (C : Cu)
mutual
def vpE : E → Xu → Ev → Us → Qw → Prop
  | .var i, X, ev, σ, Q => ∃ w, evGet ev i = some w ∧ Q (.v (frzU w)) (ev.set i (some (.v (frzU w)))) σ
  | .non, X, ev, σ, Q => Q (.v .non) ev σ
  | .bl b, X, ev, σ, Q => Q (.v (.bl b)) ev σ
  | .int i, X, ev, σ, Q => Q (.v (.int i)) ev σ
  | .str s, X, ev, σ, Q => Q (.v (.str s)) ev σ
  | .glob x, X, ev, σ, Q => ∃ d u, C.gl x = some d ∧ dU d = some u ∧ Q (.v u) ev σ
  | .bin o a b, X, ev, σ, Q => opd a ev σ (vpE a X ev σ) fun x e1 s1 => opd b e1 s1 (vpE b X e1 s1) fun y e2 s2 => ∃ p q, x.get e2 = some p ∧ y.get e2 = some q ∧ uBo o p q s2 fun r => Q r e2 s2
  | .neg a, X, ev, σ, Q => vpE a X ev σ fun x e1 s1 => ∃ i, x = .v (.int i) ∧ Q (.v (.int (-i))) e1 s1
  | .not a, X, ev, σ, Q => opd a ev σ (vpE a X ev σ) fun x e1 s1 => ∃ p, x.get e1 = some p ∧ truW s1 (fun b => Q (.v (.bl (!b))) e1 s1) p
  | .bop k es, X, ev, σ, Q => vpB k es X ev σ Q
  | .cmp o a b, X, ev, σ, Q => opd a ev σ (vpE a X ev σ) fun x e1 s1 => opd b e1 s1 (vpE b X e1 s1) fun y e2 s2 => ∃ p q, x.get e2 = some p ∧ y.get e2 = some q ∧ uCo o p q s2 fun r => Q (.v (.bl r)) e2 s2
  | .cmp2 o o' a b c, X, ev, σ, Q => vpE a X ev σ fun x e1 s1 => vpE b X e1 s1 fun y e2 s2 => uCo o x y s2 fun r => if r = true then vpE c X e2 s2 fun z e3 s3 => uCo o' y z s3 fun r' => Q (.v (.bl r')) e3 s3 else Q (.v (.bl false)) e2 s2
  | .ite c a b, X, ev, σ, Q => opd c ev σ (vpE c X ev σ) fun x e1 s1 => ∃ p, x.get e1 = some p ∧ truW s1 (fun r => if r = true then vpE a X e1 s1 Q else vpE b X e1 s1 Q) p
  | .tup es, X, ev, σ, Q => vpLs es X ev σ fun us e1 s1 => us.length ≤ 100000 ∧ Q (.v (.tup us)) e1 s1
  | .lst es, X, ev, σ, Q => vpLs es X ev σ fun us e1 s1 => us.length ≤ 100000 ∧ Q (.own us) e1 s1
  | .dct kvs, X, ev, σ, Q => vpLs kvs X ev σ fun us e1 s1 => ∃ ps, pairU us = some ps ∧ ps.length ≤ 15 ∧ Q (.ownD (mergeU [] ps)) e1 s1
  | .tab x i, X, ev, σ, Q => ∃ kvs, C.td x = some kvs ∧ vpE i X ev σ fun y e1 s1 => ∃ z d u, y = .v (.str z) ∧ kvs.lookup z = some d ∧ dU d = some u ∧ Q (.v u) e1 s1
  | .tabG x i d, X, ev, σ, Q => ∃ kvs, C.td x = some kvs ∧ vpE i X ev σ fun y e1 s1 => vpE d X e1 s1 fun w e2 s2 => ∃ z, y = .v (.str z) ∧ (match kvs.lookup z with | some d => ∃ u, dU d = some u ∧ Q (.v u) e2 s2 | none => Q w e2 s2)
  | .tabIn neg x i, X, ev, σ, Q => ∃ kvs, C.td x = some kvs ∧ vpE i X ev σ fun y e1 s1 => ∃ z, y = .v (.str z) ∧ Q (.v (.bl (if neg = true then !(kvs.lookup z).isSome else (kvs.lookup z).isSome))) e1 s1
  | .idx a i, X, ev, σ, Q => opd a ev σ (vpE a X ev σ) fun x e1 s1 => opd i e1 s1 (vpE i X e1 s1) fun y e2 s2 => ∃ p q, x.get e2 = some p ∧ y.get e2 = some q ∧ uIdx p q s2 fun u => Q (.v u) e2 s2
  | .sli a lo hi, X, ev, σ, Q => opd a ev σ (vpE a X ev σ) fun x e1 s1 => vpO lo X e1 s1 fun l e2 s2 => vpO hi X e2 s2 fun u e3 s3 => ∃ p, x.get e3 = some p ∧ uSli p l u s3 fun r => Q r e3 s3
  | .rev a, X, ev, σ, Q => opd a ev σ (vpE a X ev σ) fun x e1 s1 => ∃ p us, x.get e1 = some p ∧ wlst s1 p = some us ∧ Q (.own us.reverse) e1 s1
  | .call f es, X, ev, σ, Q => C.isf f = true ∧ vpLs es X ev σ fun us e1 s1 => C.fs f us s1 (fun w s2 => Q w e1 s2) (fun c r s2 => X c r e1 s2)
  | .bi b es, X, ev, σ, Q => vpDs es X ev σ fun os e1 s1 => ∃ ws, getAll e1 os = some ws ∧ uBi b ws s1 fun r => Q r e1 s1
  | .rng k a b, X, ev, σ, Q => vpE a X ev σ fun x e1 s1 => vpE b X e1 s1 fun y e2 s2 => ∃ i j, x = .v (.int i) ∧ y = .v (.int j) ∧ (-1000000 ≤ i ∧ i ≤ 1000000 ∧ -1000000 ≤ j ∧ j ≤ 1000000) ∧
      if k = true then Q (.v (.tup ((List.range (j - i).toNat).map fun n : Nat => U.int (i + n)))) e2 s2 else Q (.own ((List.range (j - i).toNat).map fun n : Nat => U.int (i + n))) e2 s2
  | .mt m o es, X, ev, σ, Q => opd o ev σ (vpE o X ev σ) fun x e1 s1 => umTy m x e1 s1 ∧ vpLs es X e1 s1 fun us e2 s2 => uMt m x us e2 s2 Q
  | .isi a ts, X, ev, σ, Q => opd a ev σ (vpE a X ev σ) fun x e1 s1 => ∃ p t, x.get e1 = some p ∧ tyU s1 p = some t ∧ Q (.v (.bl (ts.any (isT t)))) e1 s1
  | .comp elt t it c own, X, ev, σ, Q => subN (tgSl t) (own.map (·.2)) = true ∧
      ((vpI it X ev σ fun s e1 s1 =>
        compU (fun _ s' => s.ok s') (fun d e2 s2 k => vpG t (fun _ _ _ _ => False) (.v d) (hide e2 (own.map (·.2))) s2 fun e3 s3 => vpC c (fun _ _ _ _ => False) e3 s3 fun r e4 s4 => if r = true then vpE elt (fun _ _ _ _ => False) e4 s4 fun y e5 s5 => k (some (frzU y)) (unhide e2 e5 (own.map (·.2))) s5 else k none (unhide e2 e4 (own.map (·.2))) s4)
        (fun acc e2 s2 => Q (.own acc) e2 s2) s.items [] e1 s1) ∨
       ∃ i us, keepI ev it = some (i, us) ∧ detUs us = true ∧
        compU (fun e' _ => evGet e' i = some (.own us)) (fun d e2 s2 k => vpG t (fun _ _ _ _ => False) (.v d) (hide e2 (own.map (·.2))) s2 fun e3 s3 => vpC c (fun _ _ _ _ => False) e3 s3 fun r e4 s4 => if r = true then vpE elt (fun _ _ _ _ => False) e4 s4 fun y e5 s5 => k (some (frzU y)) (unhide e2 e5 (own.map (·.2))) s5 else k none (unhide e2 e4 (own.map (·.2))) s4)
        (fun acc e2 s2 => Q (.own acc) e2 s2) us [] ev σ)
  | .fld o f, X, ev, σ, Q => vpE o X ev σ fun x e1 s1 => ∃ n c fs u, x = .v (.ref n) ∧ s1[n]? = some (.ins c fs) ∧ C.fl c f = true ∧ fs.lookup f = some (.v u) ∧ Q (.v u) e1 s1
  | .meth o m es, X, ev, σ, Q => vpE o X ev σ fun x e1 s1 => ∃ n c fs g, x = .v (.ref n) ∧ s1[n]? = some (.ins c fs) ∧ C.mtk c m = some g ∧ fs.lookup m = none ∧ vpLs es X e1 s1 fun us e2 s2 => C.fs g (.ref n :: us) s2 (fun w s3 => Q w e2 s3) (fun c r s3 => X c r e2 s3)
  | .make c es, X, ev, σ, Q => ∃ g, C.mtk c "__init__" = some g ∧ vpLs es X ev σ fun us e1 s1 => C.fs g (.ref s1.length :: us) (s1 ++ [.ins c []]) (fun w s2 => w = .v .non ∧ Q (.v (.ref s1.length)) e1 s2) (fun c r s2 => X c r e1 s2)
  | .prom a, X, ev, σ, Q => vpE a X ev σ fun x e1 s1 => (∃ us, x = .own us ∧ Q (.v (.ref s1.length)) e1 (s1 ++ [.lst us])) ∨ ∃ kvs, x = .ownD kvs ∧ Q (.v (.ref s1.length)) e1 (s1 ++ [.dK kvs])
  | .nest n a, X, ev, σ, Q => opd a ev σ (vpE a X ev σ) fun x e1 s1 => ∃ p, x.get e1 = some p ∧ uNe n p s1 fun r => Q r e1 s1
  | .isx a cs, X, ev, σ, Q => vpE a X ev σ fun x e1 s1 => ∃ n c p, x = .v (.ref n) ∧ s1[n]? = some (.exc c p) ∧ (C.xk c).isSome = true ∧ cs.all (fun y => (C.xk y).isSome || y == "ValueError") = true ∧ Q (.v (.bl (cs.any (C.sb c)))) e1 s1
  | .xfld a, X, ev, σ, Q => vpE a X ev σ fun x e1 s1 => ∃ n c v, x = .v (.ref n) ∧ s1[n]? = some (.exc c (some v)) ∧ (C.xk c).isSome = true ∧ Q (.v v) e1 s1
def vpB : Bool → Es → Xu → Ev → Us → Qw → Prop
  | _, .nil, X, _, _, _ => False
  | _, .cons a .nil, X, ev, σ, Q => vpE a X ev σ Q
  | k, .cons a (.cons b r), X, ev, σ, Q => vpE a X ev σ fun x e1 s1 => truW s1 (fun t => if t = k then vpB k (.cons b r) X e1 s1 Q else Q x e1 s1) x
def vpLs : Es → Xu → Ev → Us → (List U → Ev → Us → Prop) → Prop
  | .nil, X, ev, σ, Q => Q [] ev σ
  | .cons a r, X, ev, σ, Q => vpE a X ev σ fun x e1 s1 => vpLs r X e1 s1 fun xs e2 s2 => Q (frzU x :: xs) e2 s2
def vpDs : Es → Xu → Ev → Us → (List Od → Ev → Us → Prop) → Prop
  | .nil, X, ev, σ, Q => Q [] ev σ
  | .cons a r, X, ev, σ, Q => opd a ev σ (vpE a X ev σ) fun x e1 s1 => vpDs r X e1 s1 fun xs e2 s2 => Q (x :: xs) e2 s2
def vpO : Oe → Xu → Ev → Us → (Option Int → Ev → Us → Prop) → Prop
  | .none, X, ev, σ, Q => Q none ev σ
  | .some a, X, ev, σ, Q => vpE a X ev σ fun x e1 s1 => ∃ i, x = .v (.int i) ∧ Q (some i) e1 s1
def vpC : Oe → Xu → Ev → Us → (Bool → Ev → Us → Prop) → Prop
  | .none, X, ev, σ, Q => Q true ev σ
  | .some a, X, ev, σ, Q => opd a ev σ (vpE a X ev σ) fun x e1 s1 => ∃ p, x.get e1 = some p ∧ truW s1 (fun r => Q r e1 s1) p
def vpI : Iv → Xu → Ev → Us → (Sr → Ev → Us → Prop) → Prop
  | .seq a, X, ev, σ, Q => vpE a X ev σ fun x e1 s1 => uSrc s1 (fun s => Q s e1 s1) (frzU x)
  | .rng1 a, X, ev, σ, Q => vpE a X ev σ fun x e1 s1 => ∃ j, x = .v (.int j) ∧ -1000000 ≤ j ∧ j ≤ 1000000 ∧ Q ⟨(List.range j.toNat).map fun i : Nat => U.int i, []⟩ e1 s1
  | .rng2 a b, X, ev, σ, Q => vpE a X ev σ fun x e1 s1 => vpE b X e1 s1 fun y e2 s2 => ∃ i j, x = .v (.int i) ∧ y = .v (.int j) ∧ (-1000000 ≤ i ∧ i ≤ 1000000 ∧ -1000000 ≤ j ∧ j ≤ 1000000) ∧ Q ⟨(List.range (j - i).toNat).map fun k : Nat => U.int (i + k), []⟩ e2 s2
  | .rngd a b, X, ev, σ, Q => vpE a X ev σ fun x e1 s1 => vpE b X e1 s1 fun y e2 s2 => ∃ i j, x = .v (.int i) ∧ y = .v (.int j) ∧ (-1000000 ≤ i ∧ i ≤ 1000000 ∧ -1000000 ≤ j ∧ j ≤ 1000000) ∧ Q ⟨(List.range (i - j).toNat).map fun k : Nat => U.int (i - k), []⟩ e2 s2
  | .enu a, X, ev, σ, Q => vpE a X ev σ fun x e1 s1 => uSrcE s1 (fun s => Q s e1 s1) (frzU x)
  | .zip a b, X, ev, σ, Q => vpE a X ev σ fun x e1 s1 => vpE b X e1 s1 fun y e2 s2 => uSrcZ s2 (frzU x) (frzU y) fun s => Q s e2 s2
  | .rvs a, X, ev, σ, Q => vpE a X ev σ fun x e1 s1 => uSrcR s1 (frzU x) fun s => Q s e1 s1
  | .keys i, X, ev, σ, Q => False
def vpG : Tg → Xu → W → Ev → Us → (Ev → Us → Prop) → Prop
  | .nm i, X, w, ev, σ, Q => Q (ev.set i (some w)) σ
  | .tp ts, X, w, ev, σ, Q => ∃ us, wels σ w = some us ∧ us.length = tgsLen ts ∧ vpGs ts X us ev σ Q
  | .sub o i, X, w, ev, σ, Q => opd o ev σ (vpE o X ev σ) fun x e1 s1 => vpE i X e1 s1 fun y e2 s2 =>
      (∃ us k j, mutL e2 s2 x = some us ∧ y = .v (.int k) ∧ ixN us.length k = some j ∧ putL (us.set j (frzU w)) e2 s2 Q x) ∨
      (∃ kvs q k, mutD e2 s2 x = some kvs ∧ y = .v q ∧ keyU q = some k ∧ kvs.length < 100000 ∧ putK (putU kvs k (frzU w)) e2 s2 Q x)
def vpGs : Tgs → Xu → List U → Ev → Us → (Ev → Us → Prop) → Prop
  | .nil, X, us, ev, σ, Q => us = [] ∧ Q ev σ
  | .cons t ts, X, us, ev, σ, Q => ∃ u r, us = u :: r ∧ vpG t X (.v u) ev σ fun e1 s1 => vpGs ts X r e1 s1 Q
end
end

structure Pu where
  nx : Ev → Us → Prop
  rt : W → Us → Prop
  bk : Ev → Us → Prop := fun _ _ => False
  ct : Ev → Us → Prop := fun _ _ => False
  ex : Xu := fun _ _ _ _ => False
/-- the name of an except clause goes -/
def Pu.unset (P : Pu) (i : Nat) : Pu := ⟨fun e h => P.nx (e.set i none) h, P.rt, fun e h => P.bk (e.set i none) h, fun e h => P.ct (e.set i none) h, fun _ _ _ _ => False⟩
/-- a suite -/
def vpTh (C : Cu) : List Th → Ev → Us → Pu → Prop
  | [], e, σ, P => P.nx e σ
  | .asg j a :: r, e, σ, P => vpE C a (fun _ _ _ _ => False) e σ fun x e1 s1 => vpTh C r (e1.set j (some x)) s1 P
  | .ret a :: _, e, σ, P => opd a e σ (vpE C a (fun _ _ _ _ => False) e σ) fun x e1 s1 => ∃ p, x.get e1 = some p ∧ P.rt p s1
  | .retn :: _, e, σ, P => P.rt (.v .non) σ
  | .expr a :: r, e, σ, P => vpE C a (fun _ _ _ _ => False) e σ fun _ e1 s1 => vpTh C r e1 s1 P
/-- the clauses, one after the other -/
def vpHs (C : Cu) (P : Pu) (c : Str) (p : Option U) (e : Ev) (σ : Us) : List (Str × List Th) → Prop
  | [] => P.ex c p e σ
  | (c0, su) :: r => (C.xk c).isSome = true ∧ if C.sb c c0 = true then vpTh C.hot su e σ { P with ex := fun _ _ _ _ => False } else vpHs C P c p e σ r

section
variable (C : Cu)
mutual
def vpS : S → Ev → Us → Pu → Prop
  | .asg t a, ev, σ, P => vpE C a P.ex ev σ fun x e1 s1 => vpG C t (fun _ _ _ _ => False) x e1 s1 P.nx
  | .setc i elt t it c own, ev, σ, P => vpE C (.comp elt t it c own) P.ex ev σ fun x e1 s1 => P.nx (e1.set i (some x)) s1
  | .par i j a b, ev, σ, P => vpE C a P.ex ev σ fun x e1 s1 => vpE C b P.ex e1 s1 fun y e2 s2 => i ≠ j ∧ P.nx ((e2.set i (some x)).set j (some y)) s2
  | .par3 i j l a b c, ev, σ, P => vpE C a P.ex ev σ fun x e1 s1 => vpE C b P.ex e1 s1 fun y e2 s2 => vpE C c P.ex e2 s2 fun z e3 s3 => (i ≠ j ∧ i ≠ l ∧ j ≠ l) ∧ P.nx (((e3.set i (some x)).set j (some y)).set l (some z)) s3
  | .aug i o a, ev, σ, P => ∃ x, evGet ev i = some (.v x) ∧ flatU x = true ∧ vpE C a P.ex ev σ fun y e1 s1 => uAug o x y fun z => P.nx (e1.set i (some (.v z))) s1
  | .expr a, ev, σ, P => vpE C a P.ex ev σ fun _ e1 s1 => P.nx e1 s1
  | .ret a, ev, σ, P => opd a ev σ (vpE C a P.ex ev σ) fun x e1 s1 => ∃ p, x.get e1 = some p ∧ P.rt p s1
  | .ite c a b, ev, σ, P => opd c ev σ (vpE C c P.ex ev σ) fun x e1 s1 => ∃ p, x.get e1 = some p ∧ truW s1 (fun r => if r = true then vpSs a e1 s1 P else vpSs b e1 s1 P) p
  | .loop c b, ev, σ, P => ∃ I : Nat → Ev → Us → Prop, (∃ m, m ≤ 1000000 ∧ I m ev σ) ∧ ∀ m ev σ, I m ev σ → opd c ev σ (vpE C c P.ex ev σ) fun x e1 s1 => ∃ p, x.get e1 = some p ∧ truW s1 (fun r =>
      if r = true then vpSs b e1 s1 { P with nx := fun e' s' => ∃ m', m' < m ∧ I m' e' s', ct := fun e' s' => ∃ m', m' < m ∧ I m' e' s', bk := P.nx } else P.nx e1 s1) p
  | .each t it b, ev, σ, P => vpI C it P.ex ev σ fun s e1 s1 => forU s.ok (fun d e2 s2 k => vpG C t (fun _ _ _ _ => False) (.v d) e2 s2 fun e3 s3 => vpSs b e3 s3 { P with nx := k, ct := k, bk := P.nx }) P.nx s.items e1 s1
  | .eachK t i b, ev, σ, P => False
  | .brk, ev, σ, P => P.bk ev σ
  | .cont, ev, σ, P => P.ct ev σ
  | .pass, ev, σ, P => P.nx ev σ
  | .setf o f a, ev, σ, P => vpE C a P.ex ev σ fun x e1 s1 => vpE C o P.ex e1 s1 fun y e2 s2 => ∃ n c fs, y = .v (.ref n) ∧ s2[n]? = some (.ins c fs) ∧ C.fl c f = true ∧ fs.length < 1000 ∧ P.nx e2 (s2.set n (.ins c (putFU f (.v (frzU x)) fs)))
  | .augf o f op a, ev, σ, P => vpE C o P.ex ev σ fun x e1 s1 => ∃ n c fs u, x = .v (.ref n) ∧ s1[n]? = some (.ins c fs) ∧ C.fl c f = true ∧ fs.lookup f = some (.v u) ∧ flatU u = true ∧
      vpE C a P.ex e1 s1 fun y e2 s2 => uAug op u y fun z => ∃ fs', s2[n]? = some (.ins c fs') ∧ fs'.length < 1000 ∧ P.nx e2 (s2.set n (.ins c (putFU f (.v z) fs')))
  | .retn, ev, σ, P => P.rt (.v .non) σ
  | .rais, ev, σ, P => False
  | .tri b, ev, σ, P => False
  | .rais0 c, ev, σ, P => C.xk c = some false ∧ P.ex c none ev σ
  | .raisR c a, ev, σ, P => C.xk c = some true ∧ vpE C a P.ex ev σ fun x e1 s1 => P.ex c (some (frzU x)) e1 s1
  | .tryA b c0 i su, ev, σ, P => (C.xk c0).isSome = true ∧ vpSs b ev σ { P with ex := fun c p e' s' => (C.xk c).isSome = true ∧ if C.sb c c0 = true then vpTh C.hot su (e'.set i (some (.v (.ref s'.length)))) (s' ++ [.exc c p]) (P.unset i) else P.ex c p e' s' }
  | .tryM b hs, ev, σ, P => (hs.all fun x => (C.xk x.1).isSome) = true ∧ vpSs b ev σ { P with ex := fun c p e' s' => vpHs C P c p e' s' hs }
  | .augs o i op a, ev, σ, P => opd o ev σ (vpE C o P.ex ev σ) fun x e1 s1 => opd i e1 s1 (vpE C i P.ex e1 s1) fun y e2 s2 => ∃ us k u, mutL e2 s2 x = some us ∧ y.get e2 = some (.v (.int k)) ∧ 0 ≤ k ∧ atI us k = some u ∧ flatU u = true ∧
      vpE C a P.ex e2 s2 fun z e3 s3 => uAug op u z fun r => ∃ us' j, mutL e3 s3 x = some us' ∧ ixN us'.length k = some j ∧ putL (us'.set j r) e3 s3 P.nx x
def vpSs : Ss → Ev → Us → Pu → Prop
  | .nil, ev, σ, P => P.nx ev σ
  | .cons s r, ev, σ, P => vpS s ev σ { P with nx := fun e1 s1 => vpSs r e1 s1 P }
end
end

/-- a def whose meaning is told by hand -/
abbrev Prim := List U → Us → (W → Us → Prop) → Prop
structure Tu where
  T : Tb
  pr : List (Str × Prim)
def cu0 (T : Tu) : Cu := ⟨fun _ _ _ _ _ => False, fun x => T.T.gls.lookup x, fun _ => false, fun x => T.T.tds.lookup x, T.T.fl, fun _ _ => none, fun _ _ _ _ => False, T.T.sb, T.T.xk⟩
/-- a def asked within an except suite -/
def ufH (T : Tu) : Str → List U → Us → (W → Us → Prop) → Prop := fun f us σ Q => ∃ F, T.T.df f = some F ∧ us.length = F.ps.length ∧ tameF F.body = true ∧
        vpSs (cu0 T) F.body (us.map (fun u => some (.v u)) ++ List.replicate (F.ns.length - us.length) none) σ { nx := fun _ s' => Q (.v .non) s', rt := Q }
def cuOf (T : Tu) (fs : Str → List U → Us → (W → Us → Prop) → (Str → Option U → Us → Prop) → Prop) : Cu :=
  ⟨fs, fun x => T.T.gls.lookup x, fun x => (T.T.fn x).isSome, fun x => T.T.tds.lookup x, T.T.fl, T.T.mtk, ufH T, T.T.sb, T.T.xk⟩
abbrev Ufp := Str → List U → Us → (W → Us → Prop) → (Str → Option U → Us → Prop) → Prop
def ufB (T : Tu) (fs : Ufp) : Ufp := fun f us σ Q X => ∃ F, T.T.df f = some F ∧ us.length = F.ps.length ∧
        vpSs (cuOf T fs) F.body (us.map (fun u => some (.v u)) ++ List.replicate (F.ns.length - us.length) none) σ { nx := fun _ s' => Q (.v .non) s', rt := Q, ex := fun c r _ s' => X c r s' }
/-- a call; an __init__ takes two levels -/
def UF (T : Tu) : Nat → Ufp
  | 0 => fun _ _ _ _ _ => False
  | 1 => fun f us σ Q X => T.pr.lookup f = none ∧ isIni f = false ∧ ufB T (UF T 0) f us σ Q X
  | k + 2 => fun f us σ Q X => match T.pr.lookup f with
    | some p => 1 ≤ k ∧ p us σ Q
    | none => if isIni f = true then ufB T (UF T k) f us σ Q X else ufB T (UF T (k + 1)) f us σ Q X
end Bp

/-! ## the second semantics beside the first: which cell of the heap is whose -/
namespace Bp
open PySem L2

inductive Al {α β : Type} (R : α → β → Prop) : List α → List β → Prop
  | nil : Al R [] []
  | cons {a : α} {b : β} {as : List α} {bs : List β} : R a b → Al R as bs → Al R (a :: as) (b :: bs)
section
variable {α β : Type} {R S : α → β → Prop}
theorem Al.mono (i : ∀ a b, R a b → S a b) : ∀ {as : List α} {bs : List β}, Al R as bs → Al S as bs
  | _, _, .nil => .nil
  | _, _, .cons r t => .cons (i _ _ r) (t.mono i)
theorem Al.len : ∀ {vs : List α} {ds : List β}, Al R vs ds → vs.length = ds.length
  | _, _, .nil => rfl
  | _, _, .cons _ t => by rw [List.length_cons, List.length_cons, t.len]
theorem Al.get : ∀ {vs : List α} {ds : List β} {i : Nat} {d : β}, Al R vs ds → ds[i]? = some d → ∃ v, vs[i]? = some v ∧ R v d
  | _, _, _, _, .nil, e => by simp at e
  | _, _, 0, _, .cons r _, e => by simp at e; subst e; exact ⟨_, rfl, r⟩
  | _, _, i + 1, d, .cons _ t, e => by
    obtain ⟨v, h1, h2⟩ := Al.get (i := i) (d := d) t (by simpa using e)
    exact ⟨v, by simpa using h1, h2⟩
theorem Al.get2 : ∀ {vs : List α} {ds : List β} {i : Nat} {v : α}, Al R vs ds → vs[i]? = some v → ∃ d, ds[i]? = some d ∧ R v d
  | _, _, _, _, .nil, e => by simp at e
  | _, _, 0, _, .cons r _, e => by simp at e; subst e; exact ⟨_, rfl, r⟩
  | _, _, i + 1, v, .cons _ t, e => by
    obtain ⟨d, h1, h2⟩ := Al.get2 (i := i) (v := v) t (by simpa using e)
    exact ⟨d, by simpa using h1, h2⟩
theorem Al.append : ∀ {vs ws : List α} {ds es : List β}, Al R vs ds → Al R ws es → Al R (vs ++ ws) (ds ++ es)
  | _, _, _, _, .nil, s => s
  | _, _, _, _, .cons r t, s => .cons r (Al.append t s)
theorem Al.one {v : α} {d : β} (r : R v d) : Al R [v] [d] := .cons r .nil
theorem Al.take : ∀ {vs : List α} {ds : List β} (n : Nat), Al R vs ds → Al R (vs.take n) (ds.take n)
  | _, _, 0, _ => .nil
  | _, _, _ + 1, .nil => .nil
  | _, _, n + 1, .cons r t => .cons r (Al.take n t)
theorem Al.drop : ∀ {vs : List α} {ds : List β} (n : Nat), Al R vs ds → Al R (vs.drop n) (ds.drop n)
  | _, _, 0, r => r
  | _, _, _ + 1, .nil => .nil
  | _, _, n + 1, .cons _ t => Al.drop n t
theorem Al.set {v : α} {d : β} (r : R v d) : ∀ {vs : List α} {ds : List β} (i : Nat), Al R vs ds → Al R (vs.set i v) (ds.set i d)
  | _, _, _, .nil => .nil
  | _, _, 0, .cons _ t => .cons r t
  | _, _, i + 1, .cons q t => .cons q (Al.set r i t)
theorem Al.reverse : ∀ {vs : List α} {ds : List β}, Al R vs ds → Al R vs.reverse ds.reverse
  | _, _, .nil => .nil
  | _, _, .cons r t => by
    rw [List.reverse_cons, List.reverse_cons]
    exact (Al.reverse t).append (.one r)
theorem Al.rep {vs : List α} {ds : List β} (r : Al R vs ds) : ∀ k : Nat, Al R (List.replicate k vs).flatten (List.replicate k ds).flatten
  | 0 => .nil
  | k + 1 => by
    rw [List.replicate_succ, List.replicate_succ, List.flatten_cons, List.flatten_cons]
    exact r.append (Al.rep r k)
theorem Al.erase : ∀ {vs : List α} {ds : List β} (i : Nat), Al R vs ds → Al R (vs.eraseIdx i) (ds.eraseIdx i)
  | _, _, _, .nil => .nil
  | _, _, 0, .cons _ t => t
  | _, _, i + 1, .cons r t => .cons r (Al.erase i t)
theorem Al.dropLast {vs : List α} {ds : List β} (r : Al R vs ds) : Al R vs.dropLast ds.dropLast := by
  rw [List.dropLast_eq_take, List.dropLast_eq_take, r.len]
  exact r.take _
theorem Al.zip {γ δ : Type} {S : γ → δ → Prop} : ∀ {as : List α} {bs : List β} {cs : List γ} {ds : List δ}, Al R as bs → Al S cs ds → Al (fun (p : α × γ) (q : β × δ) => R p.1 q.1 ∧ S p.2 q.2) (as.zip cs) (bs.zip ds)
  | _, _, _, _, .nil, _ => .nil
  | _, _, _, _, .cons _ _, .nil => .nil
  | _, _, _, _, .cons r t, .cons s u => .cons ⟨r, s⟩ (t.zip u)
theorem Al.zipIdx : ∀ {as : List α} {bs : List β} (k : Nat), Al R as bs → Al (fun (p : α × Nat) (q : β × Nat) => R p.1 q.1 ∧ p.2 = q.2) (as.zipIdx k) (bs.zipIdx k)
  | _, _, _, .nil => .nil
  | _, _, k, .cons r t => .cons ⟨r, rfl⟩ (t.zipIdx (k + 1))
theorem Al.map {γ δ : Type} {S : γ → δ → Prop} {f : α → γ} {g : β → δ} (i : ∀ a b, R a b → S (f a) (g b)) : ∀ {as : List α} {bs : List β}, Al R as bs → Al S (as.map f) (bs.map g)
  | _, _, .nil => .nil
  | _, _, .cons r t => .cons (i _ _ r) (t.map i)
end

/-- whose a cell is: nobody's (or just made), frozen, a box, of the store, of a name, of a field -/
inductive Kd where
  | free | frz | box | st (m : Nat) | own (i : Nat) | fld (m : Nat) (f : Str)
abbrev Km := Nat → Kd
def kset (kd : Km) (n : Nat) (t : Kd) : Km := fun m => if m = n then t else kd m
theorem kset_self {kd : Km} {n : Nat} {t : Kd} : kset kd n t n = t := if_pos rfl
theorem kset_ne {kd : Km} {n m : Nat} {t : Kd} (h : m ≠ n) : kset kd n t m = kd m := if_neg h
abbrev LB : Nat := 2000000

mutual
inductive RV (kd : Km) (h : Hh) : D → U → Prop
  | non : RV kd h .non .non
  | bl (b : Bool) : RV kd h (.bl b) (.bl b)
  | int (i : Int) : RV kd h (.int i) (.int i)
  | str (s : Str) : RV kd h (.str s) (.str s)
  | tup {ds : List D} {us : List U} : ds.length ≤ LB → RVs kd h ds us → RV kd h (.tup ds) (.tup us)
  | vl {n : Nat} {ds : List D} {us : List U} : kd n = .frz → h[n]? = some (.lst ds) → ds.length ≤ LB → RVs kd h ds us → RV kd h (.ref n) (.vl us)
  | vd {n : Nat} {kvs : List (Key × D)} {us : List (Key × U)} : kd n = .frz → h[n]? = some (.dK kvs) → RK kd h kvs us → RV kd h (.ref n) (.vd us)
  | ref {n m : Nat} : kd n = .st m → RV kd h (.ref n) (.ref m)
  | box {n : Nat} : kd n = .box → RV kd h (.ref n) .box
  | scr {n : Nat} {ns : List Int} : kd n = .frz → h[n]? = some (.rl (ns.map D.int)) → ns.length ≤ LB → RV kd h (.ref n) (.scr ns)
inductive RVs (kd : Km) (h : Hh) : List D → List U → Prop
  | nil : RVs kd h [] []
  | cons {d : D} {u : U} {ds : List D} {us : List U} : RV kd h d u → RVs kd h ds us → RVs kd h (d :: ds) (u :: us)
inductive RK (kd : Km) (h : Hh) : List (Key × D) → List (Key × U) → Prop
  | nil : RK kd h [] []
  | cons {k : Key} {d : D} {u : U} {ds : List (Key × D)} {us : List (Key × U)} : RV kd h d u → RK kd h ds us → RK kd h ((k, d) :: ds) ((k, u) :: us)
end
abbrev KR (kd : Km) (h : Hh) (p : Key × D) (q : Key × U) : Prop := p.1 = q.1 ∧ RV kd h p.2 q.2
section
variable {kd kd' kd2 : Km} {h h' h2 : Hh}
theorem RVs.al : ∀ {ds : List D} {us : List U}, RVs kd h ds us → Al (RV kd h) ds us
  | _, _, .nil => .nil
  | _, _, .cons r t => .cons r t.al
theorem Al.rv : ∀ {ds : List D} {us : List U}, Al (RV kd h) ds us → RVs kd h ds us
  | _, _, .nil => .nil
  | _, _, .cons r t => .cons r t.rv
theorem RK.al : ∀ {ds : List (Key × D)} {us : List (Key × U)}, RK kd h ds us → Al (KR kd h) ds us
  | _, _, .nil => .nil
  | _, _, .cons r t => .cons ⟨rfl, r⟩ t.al
theorem Al.rk : ∀ {ds : List (Key × D)} {us : List (Key × U)}, Al (KR kd h) ds us → RK kd h ds us
  | _, _, .nil => .nil
  | (_, _) :: _, (_, _) :: _, .cons ⟨rfl, r⟩ t => .cons r t.rk

/-- what values lean on stays -/
structure Kp (kd : Km) (h : Hh) (kd' : Km) (h' : Hh) : Prop where
  fz : ∀ n, kd n = .frz → kd' n = .frz ∧ h'[n]? = h[n]?
  bx : ∀ n, kd n = .box → kd' n = .box
  st : ∀ n m, kd n = .st m → kd' n = .st m
mutual
theorem RV.keep (k : Kp kd h kd' h') : ∀ {d : D} {u : U}, RV kd h d u → RV kd' h' d u
  | _, _, .non => .non
  | _, _, .bl b => .bl b
  | _, _, .int i => .int i
  | _, _, .str s => .str s
  | _, _, .tup l t => .tup l (RVs.keep k t)
  | _, _, .vl a b l t => .vl (k.fz _ a).1 ((k.fz _ a).2.trans b) l (RVs.keep k t)
  | _, _, .vd a b t => .vd (k.fz _ a).1 ((k.fz _ a).2.trans b) (RK.keep k t)
  | _, _, .ref a => .ref (k.st _ _ a)
  | _, _, .box a => .box (k.bx _ a)
  | _, _, .scr a b c => .scr (k.fz _ a).1 ((k.fz _ a).2.trans b) c
theorem RVs.keep (k : Kp kd h kd' h') : ∀ {d : List D} {u : List U}, RVs kd h d u → RVs kd' h' d u
  | _, _, .nil => .nil
  | _, _, .cons r t => .cons (RV.keep k r) (RVs.keep k t)
theorem RK.keep (k : Kp kd h kd' h') : ∀ {d : List (Key × D)} {u : List (Key × U)}, RK kd h d u → RK kd' h' d u
  | _, _, .nil => .nil
  | _, _, .cons r t => .cons (RV.keep k r) (RK.keep k t)
end
theorem Kp.refl : Kp kd h kd h := ⟨fun _ e => ⟨e, rfl⟩, fun _ e => e, fun _ _ e => e⟩
theorem Kp.trans (a : Kp kd h kd' h') (b : Kp kd' h' kd2 h2) : Kp kd h kd2 h2 :=
  ⟨fun n e => ⟨(b.fz n (a.fz n e).1).1, (b.fz n (a.fz n e).1).2.trans (a.fz n e).2⟩, fun n e => b.bx n (a.bx n e), fun n m e => b.st n m (a.st n m e)⟩
/-- a step of the program: beside that, free cells stay as they are -/
structure Step (kd : Km) (h : Hh) (kd' : Km) (h' : Hh) : Prop extends Kp kd h kd' h' where
  len : h.length ≤ h'.length
  fr : ∀ n, n < h.length → kd n = .free → kd' n = .free ∧ h'[n]? = h[n]?
  out : ∀ n, h.length ≤ n → kd n = .free
theorem Step.refl (o : ∀ n, h.length ≤ n → kd n = .free) : Step kd h kd h := ⟨Kp.refl, Nat.le_refl _, fun _ _ e => ⟨e, rfl⟩, o⟩
theorem Step.trans (a : Step kd h kd' h') (b : Step kd' h' kd2 h2) : Step kd h kd2 h2 :=
  ⟨a.toKp.trans b.toKp, Nat.le_trans a.len b.len, fun n l e =>
    have q := a.fr n l e
    have q2 := b.fr n (Nat.lt_of_lt_of_le l a.len) q.1
    ⟨q2.1, q2.2.trans q.2⟩, a.out⟩

/-- a thing beside its value; t: whose its cell is, where it has one of its own; lo: which cells are young enough -/
def RW (kd : Km) (h : Hh) (t : Kd) (lo : Nat) : W → D → Prop
  | .v u, d => RV kd h d u
  | .own us, d => ∃ n ds, d = .ref n ∧ kd n = t ∧ lo ≤ n ∧ h[n]? = some (.lst ds) ∧ ds.length ≤ LB ∧ RVs kd h ds us
  | .ownD us, d => ∃ n kvs, d = .ref n ∧ kd n = t ∧ lo ≤ n ∧ h[n]? = some (.dK kvs) ∧ RK kd h kvs us
/-- the same for reading -/
def RR (kd : Km) (h : Hh) : W → D → Prop
  | .v u, d => RV kd h d u
  | .own us, d => ∃ n ds, d = .ref n ∧ h[n]? = some (.lst ds) ∧ ds.length ≤ LB ∧ RVs kd h ds us
  | .ownD us, d => ∃ n kvs, d = .ref n ∧ h[n]? = some (.dK kvs) ∧ RK kd h kvs us
theorem RW.rr {t : Kd} {lo : Nat} : ∀ {w : W} {d : D}, RW kd h t lo w d → RR kd h w d
  | .v _, _, r => r
  | .own _, _, ⟨n, ds, a, _, _, b, c, e⟩ => ⟨n, ds, a, b, c, e⟩
  | .ownD _, _, ⟨n, ds, a, _, _, b, c⟩ => ⟨n, ds, a, b, c⟩
theorem RW.lower {t : Kd} {lo lo' : Nat} (hl : lo' ≤ lo) : ∀ {w : W} {d : D}, RW kd h t lo w d → RW kd h t lo' w d
  | .v _, _, r => r
  | .own _, _, ⟨n, ds, a, b, c, e⟩ => ⟨n, ds, a, b, Nat.le_trans hl c, e⟩
  | .ownD _, _, ⟨n, ds, a, b, c, e⟩ => ⟨n, ds, a, b, Nat.le_trans hl c, e⟩
theorem RW.step (s : Step kd h kd' h') {lo : Nat} : ∀ {w : W} {d : D}, RW kd h .free lo w d → RW kd' h' .free lo w d
  | .v _, _, r => RV.keep s.toKp r
  | .own _, _, ⟨n, ds, a, b, l, c, e, f⟩ =>
    have q := s.fr n (lt_of c) b
    ⟨n, ds, a, q.1, l, q.2.trans c, e, RVs.keep s.toKp f⟩
  | .ownD _, _, ⟨n, ds, a, b, l, c, e⟩ =>
    have q := s.fr n (lt_of c) b
    ⟨n, ds, a, q.1, l, q.2.trans c, RK.keep s.toKp e⟩
inductive RF (kd : Km) (h : Hh) (m : Nat) : List (Str × D) → List (Str × W) → Prop
  | nil : RF kd h m [] []
  | cons {f : Str} {d : D} {w : W} {ds : List (Str × D)} {ws : List (Str × W)} : RW kd h (.fld m f) 0 w d → RF kd h m ds ws → RF kd h m ((f, d) :: ds) ((f, w) :: ws)
/-- an error's own thing -/
def RX (kd : Km) (h : Hh) : Option D → Option U → Prop
  | none, none => True
  | some d, some u => RV kd h d u
  | _, _ => False
theorem RX.keep (k : Kp kd h kd' h') : ∀ {d : Option D} {u : Option U}, RX kd h d u → RX kd' h' d u
  | none, none, _ => trivial
  | some _, some _, r => RV.keep k r
  | none, some _, r => r.elim
  | some _, none, r => r.elim
inductive RO (kd : Km) (h : Hh) (m : Nat) : Uo → O → Prop
  | lst {ds : List D} {us : List U} : ds.length ≤ LB → RVs kd h ds us → RO kd h m (.lst us) (.lst ds)
  | dK {ds : List (Key × D)} {us : List (Key × U)} : RK kd h ds us → RO kd h m (.dK us) (.dK ds)
  | ins {c : Str} {ds : List (Str × D)} {us : List (Str × W)} : RF kd h m ds us → RO kd h m (.ins c us) (.ins c ds)
  | exc {c : Str} {p : Option D} {q : Option U} : RX kd h p q → RO kd h m (.exc c q) (.exc c p)
structure Glob (kd : Km) (h : Hh) (σ : Us) (B : Nat) : Prop where
  out : ∀ n, h.length ≤ n → kd n = .free
  box : ∀ n, kd n = .box → Box h n B
  st : ∀ n m, kd n = .st m → ∃ uo o, σ[m]? = some uo ∧ h[n]? = some o ∧ RO kd h m uo o
  inj : ∀ n n' m, kd n = .st m → kd n' = .st m → n = n'
structure Inv (kd : Km) (h : Hh) (b0 : Nat) (en : En) (ev : Ev) (σ : Us) (B : Nat) : Prop where
  len : en.length = ev.length
  sl : ∀ i w, evGet ev i = some w → ∃ d, en[i]? = some (some d) ∧ RW kd h (.own i) b0 w d
  gl : Glob kd h σ B
  bs : b0 ≤ h.length
/-- what objects lean on beside values: the cells of fields -/
structure KpO (kd : Km) (h : Hh) (kd' : Km) (h' : Hh) : Prop extends Kp kd h kd' h' where
  fl : ∀ n m f, kd n = .fld m f → kd' n = .fld m f ∧ h'[n]? = h[n]?
theorem RF.keep {m : Nat} (k : KpO kd h kd' h') : ∀ {ds : List (Str × D)} {ws : List (Str × W)}, RF kd h m ds ws → RF kd' h' m ds ws
  | _, _, .nil => .nil
  | _, _, @RF.cons _ _ _ f d (.v u) _ _ r t => .cons (w := .v u) (RV.keep k.toKp r) (t.keep k)
  | _, _, @RF.cons _ _ _ f d (.own u) _ _ r t => by
    obtain ⟨n, ds, a, b, l, c, e, g⟩ := r
    exact .cons ⟨n, ds, a, (k.fl _ _ _ b).1, l, (k.fl _ _ _ b).2.trans c, e, RVs.keep k.toKp g⟩ (t.keep k)
  | _, _, @RF.cons _ _ _ f d (.ownD u) _ _ r t => by
    obtain ⟨n, ds, a, b, l, c, g⟩ := r
    exact .cons ⟨n, ds, a, (k.fl _ _ _ b).1, l, (k.fl _ _ _ b).2.trans c, RK.keep k.toKp g⟩ (t.keep k)
theorem RO.keep {m : Nat} (k : KpO kd h kd' h') : ∀ {uo : Uo} {o : O}, RO kd h m uo o → RO kd' h' m uo o
  | _, _, .lst l r => .lst l (RVs.keep k.toKp r)
  | _, _, .dK r => .dK (RK.keep k.toKp r)
  | _, _, .ins r => .ins (r.keep k)
  | _, _, .exc r => .exc (r.keep k.toKp)
theorem evGet_set {ev : Ev} {i j : Nat} {x : Option W} {w : W} (e : evGet (ev.set i x) j = some w) : (j = i ∧ x = some w ∧ i < ev.length) ∨ (j ≠ i ∧ evGet ev j = some w) := by
  unfold evGet at e ⊢
  by_cases hj : j = i
  · subst hj
    left
    by_cases hl : j < ev.length
    · rw [List.getElem?_set_self hl] at e
      cases x with
      | none => cases e
      | some y => exact ⟨rfl, e, hl⟩
    · rw [List.getElem?_eq_none (by rw [List.length_set]; omega)] at e; cases e
  · right
    rw [List.getElem?_set_ne (fun z => hj z.symm)] at e
    exact ⟨hj, e⟩
end
end Bp

namespace Bp
open PySem L2
/-! ### how often a box may be asked -/
mutual
def cE (κ : Nat) : E → Nat
  | .var _ => 0 | .non => 0 | .bl _ => 0 | .int _ => 0 | .str _ => 0 | .glob _ => 0
  | .bin _ a b => cE κ a + cE κ b
  | .neg a => cE κ a
  | .not a => cE κ a
  | .bop _ es => cEs κ es
  | .cmp _ a b => cE κ a + cE κ b
  | .cmp2 _ _ a b c => cE κ a + cE κ b + cE κ c
  | .ite c a b => cE κ c + (cE κ a + cE κ b)
  | .tup es => cEs κ es
  | .lst es => cEs κ es
  | .dct es => cEs κ es
  | .tab _ i => cE κ i
  | .tabG _ i d => cE κ i + cE κ d
  | .tabIn _ _ i => cE κ i
  | .idx a i => cE κ a + cE κ i
  | .sli a lo hi => cE κ a + cO κ lo + cO κ hi
  | .rev a => cE κ a
  | .call _ es => cEs κ es + κ
  | .bi _ es => cEs κ es
  | .rng _ a b => cE κ a + cE κ b
  | .mt _ o es => cE κ o + cEs κ es
  | .isi a _ => cE κ a
  | .comp elt t it c _ => cI κ it + LB * (cG κ t + cO κ c + cE κ elt)
  | .fld o _ => cE κ o
  | .meth o _ es => cE κ o + cEs κ es + κ
  | .make _ es => cEs κ es + κ
  | .prom a => cE κ a
  | .nest _ a => cE κ a
  | .isx a _ => cE κ a
  | .xfld a => cE κ a
def cEs (κ : Nat) : Es → Nat
  | .nil => 0
  | .cons a r => cE κ a + cEs κ r
def cO (κ : Nat) : Oe → Nat
  | .none => 0
  | .some a => cE κ a
def cI (κ : Nat) : Iv → Nat
  | .seq a => cE κ a
  | .rng1 a => cE κ a
  | .rng2 a b => cE κ a + cE κ b
  | .rngd a b => cE κ a + cE κ b
  | .enu a => cE κ a
  | .zip a b => cE κ a + cE κ b
  | .rvs a => cE κ a
  | .keys _ => 0
def cG (κ : Nat) : Tg → Nat
  | .nm _ => 0
  | .tp ts => cGs κ ts
  | .sub o i => cE κ o + cE κ i
def cGs (κ : Nat) : Tgs → Nat
  | .nil => 0
  | .cons t ts => cG κ t + cGs κ ts
end
def cTh (κ : Nat) : List Th → Nat
  | [] => 0
  | .asg _ a :: r => cE κ a + cTh κ r
  | .ret a :: r => cE κ a + cTh κ r
  | .retn :: r => cTh κ r
  | .expr a :: r => cE κ a + cTh κ r
def cHs (κ : Nat) : List (Str × List Th) → Nat
  | [] => 0
  | p :: r => cTh κ p.2 + cHs κ r
mutual
def cS (κ : Nat) : S → Nat
  | .asg t a => cE κ a + cG κ t
  | .setc _ elt t it c _ => cI κ it + LB * (cG κ t + cO κ c + cE κ elt)
  | .par _ _ a b => cE κ a + cE κ b
  | .par3 _ _ _ a b c => cE κ a + cE κ b + cE κ c
  | .aug _ _ a => cE κ a
  | .expr a => cE κ a
  | .ret a => cE κ a
  | .ite c a b => cE κ c + (cSs κ a + cSs κ b)
  | .loop c b => 1000001 * (cE κ c + cSs κ b)
  | .each t it b => cI κ it + LB * (cG κ t + cSs κ b)
  | .eachK _ _ _ => 0
  | .brk => 0 | .cont => 0 | .pass => 0
  | .setf o _ a => cE κ a + cE κ o
  | .augf o _ _ a => cE κ o + cE κ a
  | .retn => 0 | .rais => 0
  | .tri b => cSs κ b
  | .rais0 _ => 0
  | .raisR _ a => cE κ a
  | .tryA b _ _ su => cSs κ b + cTh κ su
  | .tryM b hs => cSs κ b + cHs κ hs
  | .augs o i _ a => cE κ o + cE κ i + cE κ a
def cSs (κ : Nat) : Ss → Nat
  | .nil => 0
  | .cons s r => cS κ s + cSs κ r
end

section
variable {kd kd0 kd' kd1 : Km} {h h0 h' h1 : Hh} {σ σ' : Us} {B B' b0 : Nat} {en : En} {ev : Ev}
theorem Box.up {n : Nat} (b : Box h n B) (l : B ≤ B') : Box h n B' := b.mono l
theorem Glob.up (g : Glob kd h σ B) (l : B ≤ B') : Glob kd h σ B' := ⟨g.out, fun n e => (g.box n e).mono l, g.st, g.inj⟩
theorem Inv.up (i : Inv kd h b0 en ev σ B) (l : B ≤ B') : Inv kd h b0 en ev σ B' := ⟨i.len, i.sl, i.gl.up l, i.bs⟩
theorem Glob.lt (g : Glob kd h σ B) {n : Nat} (e : kd n ≠ .free) : n < h.length := Nat.lt_of_not_le fun l => e (g.out n l)
theorem Step.lt (s : Step kd h kd' h') {n : Nat} (e : kd n ≠ .free) : n < h.length := Nat.lt_of_not_le fun l => e (s.out n l)
theorem get_app {o : O} {n : Nat} (l : n < h.length) : (h ++ [o])[n]? = h[n]? := List.getElem?_append_left l

/-! a cell more -/
theorem Glob.kp_new (g : Glob kd h σ B) {o : O} : KpO kd h kd (h ++ [o]) :=
  ⟨⟨fun n e => ⟨e, get_app (g.lt (by rw [e]; simp))⟩, fun _ e => e, fun _ _ e => e⟩, fun n m f e => ⟨e, get_app (g.lt (by rw [e]; simp))⟩⟩
theorem Glob.new (g : Glob kd h σ B) {o : O} : Glob kd (h ++ [o]) σ B where
  out n l := g.out n (by simp at l; omega)
  box n e := by
    obtain ⟨a, x, c, h1, h2⟩ := g.box n e
    exact ⟨a, x, c, by rw [get_app (lt_of h1)]; exact h1, h2⟩
  st n m e := by
    obtain ⟨uo, ob, h1, h2, h3⟩ := g.st n m e
    exact ⟨uo, ob, h1, by rw [get_app (lt_of h2)]; exact h2, h3.keep g.kp_new⟩
  inj := g.inj
theorem RW.keep {t : Kd} {lo : Nat} (k : Kp kd h kd' h') (ho : ∀ n, kd n = t → n < h.length → kd' n = t ∧ h'[n]? = h[n]?) : ∀ {w : W} {d : D}, RW kd h t lo w d → RW kd' h' t lo w d
  | .v _, _, r => RV.keep k r
  | .own _, _, ⟨n, ds, a, b, l, c, e, f⟩ => ⟨n, ds, a, (ho n b (lt_of c)).1, l, (ho n b (lt_of c)).2.trans c, e, RVs.keep k f⟩
  | .ownD _, _, ⟨n, ds, a, b, l, c, e⟩ => ⟨n, ds, a, (ho n b (lt_of c)).1, l, (ho n b (lt_of c)).2.trans c, RK.keep k e⟩
theorem RW.keepLo {t : Kd} {lo : Nat} (k : Kp kd h kd' h') (ho : ∀ n, kd n = t → lo ≤ n → n < h.length → kd' n = t ∧ h'[n]? = h[n]?) : ∀ {w : W} {d : D}, RW kd h t lo w d → RW kd' h' t lo w d
  | .v _, _, r => RV.keep k r
  | .own _, _, ⟨n, ds, a, b, l, c, e, f⟩ => ⟨n, ds, a, (ho n b l (lt_of c)).1, l, (ho n b l (lt_of c)).2.trans c, e, RVs.keep k f⟩
  | .ownD _, _, ⟨n, ds, a, b, l, c, e⟩ => ⟨n, ds, a, (ho n b l (lt_of c)).1, l, (ho n b l (lt_of c)).2.trans c, RK.keep k e⟩
def isOwn : W → Bool
  | .v _ => false
  | _ => true
theorem RW.lt {t : Kd} {lo m : Nat} : ∀ {w : W}, RW kd h t lo w (.ref m) → isOwn w = true → m < h.length
  | .v _, _, e => by cases e
  | .own _, ⟨n, ds, a, b, l, c, _⟩, _ => by cases a; exact lt_of c
  | .ownD _, ⟨n, ds, a, b, l, c, _⟩, _ => by cases a; exact lt_of c
theorem Inv.new (i : Inv kd h b0 en ev σ B) {o : O} : Inv kd (h ++ [o]) b0 en ev σ B where
  len := i.len
  sl j w e := by
    obtain ⟨d, h1, h2⟩ := i.sl j w e
    exact ⟨d, h1, h2.keep i.gl.kp_new.toKp fun n e l => ⟨e, get_app l⟩⟩
  gl := i.gl.new
  bs := by have := i.bs; simp; omega
theorem Step.new (s : Step kd0 h0 kd h) {o : O} : Step kd0 h0 kd (h ++ [o]) where
  fz n e := ⟨(s.fz n e).1, by rw [get_app (Nat.lt_of_lt_of_le (s.lt (by rw [e]; simp)) s.len)]; exact (s.fz n e).2⟩
  bx := s.bx
  st := s.st
  len := by have := s.len; simp; omega
  fr n l e := ⟨(s.fr n l e).1, by rw [get_app (Nat.lt_of_lt_of_le l s.len)]; exact (s.fr n l e).2⟩
  out := s.out

/-! a free cell is put otherwise -/
theorem Glob.kp_put (g : Glob kd h σ B) {p : Nat} (hp : kd p = .free) {o : O} : KpO kd h kd (h.set p o) :=
  ⟨⟨fun n e => ⟨e, get_set_ne fun z => by rw [z, e] at hp; cases hp⟩, fun _ e => e, fun _ _ e => e⟩, fun n m f e => ⟨e, get_set_ne fun z => by rw [z, e] at hp; cases hp⟩⟩
theorem Glob.put (g : Glob kd h σ B) {p : Nat} (hp : kd p = .free) {o : O} : Glob kd (h.set p o) σ B where
  out n l := g.out n (by simpa using l)
  box n e := by
    obtain ⟨a, x, c, h1, h2⟩ := g.box n e
    exact ⟨a, x, c, by rw [get_set_ne fun z => by rw [z, e] at hp; cases hp]; exact h1, h2⟩
  st n m e := by
    obtain ⟨uo, ob, h1, h2, h3⟩ := g.st n m e
    exact ⟨uo, ob, h1, by rw [get_set_ne fun z => by rw [z, e] at hp; cases hp]; exact h2, h3.keep (g.kp_put hp)⟩
  inj := g.inj
theorem Inv.put (i : Inv kd h b0 en ev σ B) {p : Nat} (hp : kd p = .free) {o : O} : Inv kd (h.set p o) b0 en ev σ B where
  len := i.len
  sl j w e := by
    obtain ⟨d, h1, h2⟩ := i.sl j w e
    exact ⟨d, h1, h2.keep (i.gl.kp_put hp).toKp fun n e l => ⟨e, get_set_ne fun z => by rw [z, e] at hp; cases hp⟩⟩
  gl := i.gl.put hp
  bs := by have := i.bs; simpa using this
theorem Step.put (s : Step kd0 h0 kd h) {p : Nat} (hp : h0.length ≤ p) {o : O} : Step kd0 h0 kd (h.set p o) where
  fz n e := ⟨(s.fz n e).1, by rw [get_set_ne (by have := s.lt (n := n) (by rw [e]; simp); omega)]; exact (s.fz n e).2⟩
  bx := s.bx
  st := s.st
  len := by have := s.len; simpa using this
  fr n l e := ⟨(s.fr n l e).1, by rw [get_set_ne (by omega)]; exact (s.fr n l e).2⟩
  out := s.out

/-! a cell's owner becomes another one -/
def Loose (k : Kd) : Prop := k = .free ∨ ∃ i, k = .own i
theorem kp_tag {n : Nat} (hn : Loose (kd n)) {t : Kd} : KpO kd h (kset kd n t) h := by
  have ne : ∀ m, ¬ Loose (kd m) → m ≠ n := fun m hm z => hm (z ▸ hn)
  refine ⟨⟨fun m e => ⟨(kset_ne (ne m ?_)).trans e, rfl⟩, fun m e => (kset_ne (ne m ?_)).trans e, fun m q e => (kset_ne (ne m ?_)).trans e⟩, fun m q f e => ⟨(kset_ne (ne m ?_)).trans e, rfl⟩⟩
  all_goals (rw [e]; rintro (z | ⟨_, z⟩) <;> cases z)
theorem Glob.tag (g : Glob kd h σ B) {n : Nat} (hn : Loose (kd n)) (hl : n < h.length) {t : Kd} (ht : t = .frz ∨ ∃ i, t = .own i) : Glob (kset kd n t) h σ B where
  out m l := (kset_ne (by omega)).trans (g.out m l)
  box m e := by
    by_cases z : m = n
    · subst z; rw [kset_self] at e; rcases ht with rfl | ⟨_, rfl⟩ <;> cases e
    · rw [kset_ne z] at e; exact g.box m e
  st m q e := by
    by_cases z : m = n
    · subst z; rw [kset_self] at e; rcases ht with rfl | ⟨_, rfl⟩ <;> cases e
    · rw [kset_ne z] at e
      obtain ⟨uo, ob, h1, h2, h3⟩ := g.st m q e
      exact ⟨uo, ob, h1, h2, h3.keep (kp_tag hn)⟩
  inj a b q e1 e2 := by
    have f : ∀ x, kset kd n t x = .st q → kd x = .st q := by
      intro x e
      by_cases z : x = n
      · subst z; rw [kset_self] at e; rcases ht with rfl | ⟨_, rfl⟩ <;> cases e
      · rw [kset_ne z] at e; exact e
    exact g.inj a b q (f a e1) (f b e2)
theorem Step.tag (s : Step kd0 h0 kd h) {n : Nat} (hn : Loose (kd n)) (hl : h0.length ≤ n ∨ ∃ i, kd n = .own i) {t : Kd} : Step kd0 h0 (kset kd n t) h where
  toKp := s.toKp.trans (kp_tag hn).toKp
  len := s.len
  fr m l e := by
    have q := s.fr m l e
    refine ⟨(kset_ne fun z => ?_).trans q.1, q.2⟩
    subst z
    rcases hl with hl | ⟨i, hl⟩
    · omega
    · rw [q.1] at hl; cases hl
  out := s.out
/-- a thing just made becomes a name's -/
theorem Inv.assign (i : Inv kd h b0 en ev σ B) {lo : Nat} {w : W} {d : D} (r : RW kd h .free lo w d) (hb : b0 ≤ lo) (s : Step kd0 h0 kd h) (hl : h0.length ≤ lo) (j : Nat) :
    ∃ kd', Inv kd' h b0 (en.set j (some d)) (ev.set j (some w)) σ B ∧ Step kd0 h0 kd' h ∧ Kp kd h kd' h ∧ (∀ m, m < lo → kd' m = kd m) ∧ (∀ m, kd' m = kd m ∨ (d = .ref m ∧ isOwn w = true)) := by
  have key : ∀ n t, Loose (kd n) → t = .own j → kd n = .free → n < h.length → lo ≤ n → RW (kset kd n t) h (.own j) b0 w d → d = .ref n → isOwn w = true →
      ∃ kd', Inv kd' h b0 (en.set j (some d)) (ev.set j (some w)) σ B ∧ Step kd0 h0 kd' h ∧ Kp kd h kd' h ∧ (∀ m, m < lo → kd' m = kd m) ∧ (∀ m, kd' m = kd m ∨ (d = .ref m ∧ isOwn w = true)) := by
    intro n t hn ht hf hlt hlo hr hd how
    subst ht
    refine ⟨kset kd n (.own j), ⟨by simp [i.len], fun q x e => ?_, i.gl.tag hn hlt (.inr ⟨j, rfl⟩), i.bs⟩, s.tag hn (.inl (by omega)), (kp_tag (h := h) hn).toKp, fun m hm => kset_ne (by omega), fun m => ?_⟩
    rcases evGet_set e with ⟨rfl, e1, e2⟩ | ⟨hq, e1⟩
    · cases e1
      exact ⟨d, List.getElem?_set_self (by rw [i.len]; exact e2), hr⟩
    · obtain ⟨d', g1, g2⟩ := i.sl q x e1
      refine ⟨d', (List.getElem?_set_ne (fun z => hq z.symm)).trans g1, g2.keep (kp_tag hn).toKp fun m em lm => ⟨(kset_ne fun z => ?_).trans em, rfl⟩⟩
      rw [z, hf] at em; cases em
    · by_cases z : m = n
      · rw [z]; exact .inr ⟨hd, how⟩
      · exact .inl (kset_ne z)
  match w, r with
  | .v u, r =>
    refine ⟨kd, ⟨by simp [i.len], fun q x e => ?_, i.gl, i.bs⟩, s, Kp.refl, fun _ _ => rfl, fun m => .inl rfl⟩
    rcases evGet_set e with ⟨rfl, e1, e2⟩ | ⟨hq, e1⟩
    · cases e1
      exact ⟨d, List.getElem?_set_self (by rw [i.len]; exact e2), r⟩
    · obtain ⟨d', g1, g2⟩ := i.sl q x e1
      exact ⟨d', (List.getElem?_set_ne (fun z => hq z.symm)).trans g1, g2⟩
  | .own us, ⟨n, ds, e1, e2, e3, e4, e5, e6⟩ =>
    exact key n _ (.inl e2) rfl e2 (lt_of e4) e3 ⟨n, ds, e1, kset_self, Nat.le_trans hb e3, e4, e5, RVs.keep (kp_tag (.inl e2)).toKp e6⟩ e1 rfl
  | .ownD us, ⟨n, ds, e1, e2, e3, e4, e5⟩ =>
    exact key n _ (.inl e2) rfl e2 (lt_of e4) e3 ⟨n, ds, e1, kset_self, Nat.le_trans hb e3, e4, RK.keep (kp_tag (.inl e2)).toKp e5⟩ e1 rfl
theorem Inv.tagged (i : Inv kd h b0 en ev σ B) {n : Nat} (hn : kd n = .free) (hl : n < h.length) {t : Kd} (ht : t = .frz ∨ ∃ i, t = .own i) : Inv (kset kd n t) h b0 en ev σ B := by
  refine ⟨i.len, fun q x e => ?_, i.gl.tag (.inl hn) hl ht, i.bs⟩
  obtain ⟨d', g1, g2⟩ := i.sl q x e
  refine ⟨d', g1, g2.keep (kp_tag (.inl hn)).toKp fun m em lm => ⟨(kset_ne fun z => ?_).trans em, rfl⟩⟩
  rw [z, hn] at em; cases em
/-- a thing just made is frozen -/
theorem Inv.freeze (i : Inv kd h b0 en ev σ B) {lo : Nat} {w : W} {d : D} (r : RW kd h .free lo w d) (s : Step kd0 h0 kd h) (hl : h0.length ≤ lo) :
    ∃ kd', Inv kd' h b0 en ev σ B ∧ Step kd0 h0 kd' h ∧ RV kd' h d (frzU w) ∧ Kp kd h kd' h ∧ (∀ m, m < lo → kd' m = kd m) := by
  match w, r with
  | .v u, r => exact ⟨kd, i, s, r, Kp.refl, fun _ _ => rfl⟩
  | .own us, ⟨n, ds, e1, e2, e3, e4, e5, e6⟩ =>
    subst e1
    exact ⟨kset kd n .frz, i.tagged e2 (lt_of e4) (.inl rfl), s.tag (.inl e2) (.inl (by omega)), .vl kset_self e4 e5 (RVs.keep (kp_tag (.inl e2)).toKp e6), (kp_tag (.inl e2)).toKp, fun m hm => kset_ne (by omega)⟩
  | .ownD us, ⟨n, ds, e1, e2, e3, e4, e5⟩ =>
    subst e1
    exact ⟨kset kd n .frz, i.tagged e2 (lt_of e4) (.inl rfl), s.tag (.inl e2) (.inl (by omega)), .vd kset_self e4 (RK.keep (kp_tag (.inl e2)).toKp e5), (kp_tag (.inl e2)).toKp, fun m hm => kset_ne (by omega)⟩
/-- what a name has is frozen -/
theorem Inv.frzSlot (i : Inv kd h b0 en ev σ B) {j : Nat} {w : W} (e : evGet ev j = some w) :
    ∃ kd' d, en[j]? = some (some d) ∧ Inv kd' h b0 en (ev.set j (some (.v (frzU w)))) σ B ∧ Step kd h kd' h ∧ RV kd' h d (frzU w) := by
  obtain ⟨d, g1, g2⟩ := i.sl j w e
  have hjl : j < ev.length := by
    unfold evGet at e
    cases hq : ev[j]? with
    | none => rw [hq] at e; cases e
    | some x => exact (List.getElem?_eq_some_iff.mp hq).1
  have key : ∀ n, d = .ref n → kd n = .own j → n < h.length → RV (kset kd n .frz) h d (frzU w) →
      ∃ kd' d, en[j]? = some (some d) ∧ Inv kd' h b0 en (ev.set j (some (.v (frzU w)))) σ B ∧ Step kd h kd' h ∧ RV kd' h d (frzU w) := by
    intro n hd hk hlt hr
    refine ⟨kset kd n .frz, d, g1, ⟨by simp [i.len], fun q x e' => ?_, i.gl.tag (.inr ⟨j, hk⟩) hlt (.inl rfl), i.bs⟩, (Step.refl i.gl.out).tag (.inr ⟨j, hk⟩) (.inr ⟨j, hk⟩), hr⟩
    rcases evGet_set e' with ⟨rfl, e1, e2⟩ | ⟨hq, e1⟩
    · cases e1; exact ⟨d, g1, hr⟩
    · obtain ⟨d', f1, f2⟩ := i.sl q x e1
      refine ⟨d', f1, f2.keep (kp_tag (.inr ⟨j, hk⟩)).toKp fun m em lm => ⟨(kset_ne fun z => ?_).trans em, rfl⟩⟩
      rw [z, hk] at em; cases em; exact hq rfl
  match w, g2 with
  | .v u, r =>
    refine ⟨kd, d, g1, ⟨by simp [i.len], fun q x e' => ?_, i.gl, i.bs⟩, Step.refl i.gl.out, r⟩
    rcases evGet_set e' with ⟨rfl, e1, e2⟩ | ⟨hq, e1⟩
    · cases e1; exact ⟨d, g1, r⟩
    · exact i.sl q x e1
  | .own us, ⟨n, ds, e1, e2, e3, e4, e5, e6⟩ =>
    exact key n e1 e2 (lt_of e4) (by rw [e1]; exact .vl kset_self e4 e5 (RVs.keep (kp_tag (.inr ⟨j, e2⟩)).toKp e6))
  | .ownD us, ⟨n, ds, e1, e2, e3, e4, e5⟩ =>
    exact key n e1 e2 (lt_of e4) (by rw [e1]; exact .vd kset_self e4 (RK.keep (kp_tag (.inr ⟨j, e2⟩)).toKp e5))
end
end Bp

namespace Bp
open PySem L2
section
variable {kd : Km} {h : Hh} {σ : Us} {B : Nat}
theorem RVs.len {ds : List D} {us : List U} (r : RVs kd h ds us) : ds.length = us.length := r.al.len
theorem RVs.append {a b : List D} {c e : List U} (r : RVs kd h a c) (s : RVs kd h b e) : RVs kd h (a ++ b) (c ++ e) := (r.al.append s.al).rv
theorem RVs.cut {ds : List D} {us : List U} (r : RVs kd h ds us) (lo hi : Option Int) : RVs kd h (cutD ds lo hi) (cutU us lo hi) := by
  unfold cutD cutU
  rw [r.len]
  exact ((r.al.drop _).take _).rv
theorem cutD_len (ds : List D) (lo hi : Option Int) : (cutD ds lo hi).length ≤ ds.length := by
  unfold cutD
  simp; omega
theorem RVs.at {ds : List D} {us : List U} (r : RVs kd h ds us) {i : Int} {u : U} (e : atI us i = some u) : ∃ d, atI ds i = some d ∧ RV kd h d u := by
  unfold atI at e ⊢
  rw [r.len]
  cases hx : ixN us.length i with
  | none => rw [hx] at e; cases e
  | some j =>
    rw [hx] at e
    exact r.al.get e
theorem RVs.bls_of : ∀ {bs : List Bool} {ds : List D}, RVs kd h ds (bs.map U.bl) → ds = bs.map D.bl
  | [], _, .nil => rfl
  | b :: bs, _, .cons r t => by cases r; rw [List.map_cons, RVs.bls_of t]
theorem RVs.ints_of : ∀ {bs : List Int} {ds : List D}, RVs kd h ds (bs.map U.int) → ds = bs.map D.int
  | [], _, .nil => rfl
  | b :: bs, _, .cons r t => by cases r; rw [List.map_cons, RVs.ints_of t]
theorem RVs.ints : ∀ (l : List Int), RVs kd h (l.map D.int) (l.map U.int)
  | [] => .nil
  | n :: r => .cons (.int _) (RVs.ints r)
theorem RVs.strs : ∀ (l : List Str), RVs kd h (l.map D.str) (l.map U.str)
  | [] => .nil
  | n :: r => .cons (.str _) (RVs.strs r)
theorem RVs.strs_of : ∀ {bs : List Str} {ds : List D}, RVs kd h ds (bs.map U.str) → ds = bs.map D.str
  | [], _, .nil => rfl
  | b :: bs, _, .cons r t => by cases r; rw [List.map_cons, RVs.strs_of t]
theorem RVs.nats (f : Nat → Int) : ∀ (l : List Nat), RVs kd h (l.map fun i => D.int (f i)) (l.map fun i => U.int (f i))
  | [] => .nil
  | n :: r => .cons (.int _) (RVs.nats f r)
theorem RVs.chars : ∀ (l : List Nat), RVs kd h (l.map fun c => D.str ⟨#[c]⟩) (l.map fun c => U.str ⟨#[c]⟩)
  | [] => .nil
  | n :: r => .cons (.str _) (RVs.chars r)
mutual
theorem RV.pd : ∀ {d : D} {u : U} {p : PyData}, RV kd h d u → toP u = some p → Pd h d p
  | _, _, _, .non, e => by simp only [toP] at e; cases e; exact .non
  | _, _, _, .bl b, e => by simp only [toP] at e; cases e; exact .bl b
  | _, _, _, .int b, e => by simp only [toP] at e; cases e; exact .int b
  | _, _, _, .str b, e => by simp only [toP] at e; cases e; exact .str b
  | _, _, _, .tup l t, e => by
    simp only [toP, Option.map_eq_some_iff] at e
    obtain ⟨ps, e1, rfl⟩ := e
    exact .tup (RVs.pds t e1)
  | _, _, _, .vl a b l t, e => by
    simp only [toP, Option.map_eq_some_iff] at e
    obtain ⟨ps, e1, rfl⟩ := e
    exact .lst b (RVs.pds t e1)
  | _, _, _, .vd _ _ _, e => by simp only [toP] at e; cases e
  | _, _, _, .ref _, e => by simp only [toP] at e; cases e
  | _, _, _, .box _, e => by simp only [toP] at e; cases e
  | _, _, _, .scr _ _ _, e => by simp only [toP] at e; cases e
theorem RVs.pds : ∀ {d : List D} {u : List U} {p : List PyData}, RVs kd h d u → toPs u = some p → Pds h d p
  | _, _, _, .nil, e => by simp only [toPs] at e; cases e; exact .nil
  | _, u :: us, _, .cons r t, e => by
    simp only [toPs] at e
    cases h1 : toP u with
    | none => rw [h1] at e; cases e
    | some p =>
      cases h2 : toPs us with
      | none => rw [h1, h2] at e; cases e
      | some ps =>
        rw [h1, h2] at e; cases e
        exact .cons (RV.pd r h1) (RVs.pds t h2)
end
/-! a thing's items -/
theorem RR.lst (g : Glob kd h σ B) : ∀ {w : W} {d : D} {us : List U}, RR kd h w d → wlst σ w = some us → ∃ n ds, d = .ref n ∧ h[n]? = some (.lst ds) ∧ ds.length ≤ LB ∧ RVs kd h ds us
  | .own _, _, _, r, e => by simp only [wlst] at e; cases e; exact r
  | .v (.vl _), _, _, r, e => by
    simp only [wlst] at e; cases e
    cases r with
    | vl a b l t => exact ⟨_, _, rfl, b, l, t⟩
  | .v (.ref m), _, _, r, e => by
    cases r with
    | ref a =>
      obtain ⟨uo, o, h1, h2, h3⟩ := g.st _ _ a
      simp only [wlst, stL, h1] at e
      cases h3 with
      | lst l t => cases e; exact ⟨_, _, rfl, h2, l, t⟩
      | dK t => cases e
      | ins t => cases e
      | exc t => cases e
  | .v .non, _, _, _, e => by cases e
  | .v (.bl _), _, _, _, e => by cases e
  | .v (.int _), _, _, _, e => by cases e
  | .v (.str _), _, _, _, e => by cases e
  | .v (.tup _), _, _, _, e => by cases e
  | .v (.vd _), _, _, _, e => by cases e
  | .v .box, _, _, _, e => by cases e
  | .v (.scr _), _, _, _, e => by cases e
  | .ownD _, _, _, _, e => by cases e
theorem RR.els (g : Glob kd h σ B) {w : W} {d : D} {us : List U} (r : RR kd h w d) (e : wels σ w = some us) : ∃ ds, elems h d = some ds ∧ ds.length ≤ LB ∧ RVs kd h ds us := by
  by_cases ht : ∃ ts, w = .v (.tup ts)
  · obtain ⟨ts, rfl⟩ := ht
    simp only [wels] at e; cases e
    cases r with
    | tup l t => exact ⟨_, rfl, l, t⟩
  by_cases hs : ∃ ns, w = .v (.scr ns)
  · obtain ⟨ns, rfl⟩ := hs
    simp only [wels] at e; cases e
    cases r with
    | scr a b c => exact ⟨_, by simp only [elems, b], by simpa using c, RVs.ints ns⟩
  · have : wlst σ w = some us := by
      rw [← e]
      unfold wlst wels
      match w, ht, hs with
      | .v (.tup ts), ht, _ => exact absurd ⟨ts, rfl⟩ ht
      | .v (.scr ts), _, hs => exact absurd ⟨ts, rfl⟩ hs
      | .own _, _, _ => rfl
      | .ownD _, _, _ => rfl
      | .v .non, _, _ => rfl
      | .v (.bl _), _, _ => rfl
      | .v (.int _), _, _ => rfl
      | .v (.str _), _, _ => rfl
      | .v (.vl _), _, _ => rfl
      | .v (.vd _), _, _ => rfl
      | .v (.ref _), _, _ => rfl
      | .v .box, _, _ => rfl
    obtain ⟨n, ds, rfl, h1, l, t⟩ := r.lst g this
    exact ⟨ds, by simp only [elems, h1], l, t⟩
theorem RR.dct (g : Glob kd h σ B) : ∀ {w : W} {d : D} {us : List (Key × U)}, RR kd h w d → wdct σ w = some us → ∃ n kvs, d = .ref n ∧ h[n]? = some (.dK kvs) ∧ RK kd h kvs us
  | .ownD _, _, _, r, e => by simp only [wdct] at e; cases e; exact r
  | .v (.vd _), _, _, r, e => by
    simp only [wdct] at e; cases e
    cases r with
    | vd a b t => exact ⟨_, _, rfl, b, t⟩
  | .v (.ref m), _, _, r, e => by
    cases r with
    | ref a =>
      obtain ⟨uo, o, h1, h2, h3⟩ := g.st _ _ a
      simp only [wdct, stD, h1] at e
      cases h3 with
      | lst l t => cases e
      | dK t => cases e; exact ⟨_, _, rfl, h2, t⟩
      | ins t => cases e
      | exc t => cases e
  | .v .non, _, _, _, e => by cases e
  | .v (.bl _), _, _, _, e => by cases e
  | .v (.int _), _, _, _, e => by cases e
  | .v (.str _), _, _, _, e => by cases e
  | .v (.tup _), _, _, _, e => by cases e
  | .v (.vl _), _, _, _, e => by cases e
  | .v .box, _, _, _, e => by cases e
  | .v (.scr _), _, _, _, e => by cases e
  | .own _, _, _, _, e => by cases e
theorem RK.get : ∀ {kvs : List (Key × D)} {us : List (Key × U)} (k : Key), RK kd h kvs us → (∃ d u, getK kvs k = some d ∧ getU us k = some u ∧ RV kd h d u) ∨ (getK kvs k = none ∧ getU us k = none)
  | _, _, _, .nil => .inr ⟨rfl, rfl⟩
  | _, _, k, @RK.cons _ _ k' d u ds us r t => by
    by_cases e : k' = k
    · exact .inl ⟨d, u, by simp [getK, e], by simp [getU, e], r⟩
    · rcases RK.get k t with ⟨d', u', h1, h2, h3⟩ | ⟨h1, h2⟩
      · exact .inl ⟨d', u', by simpa [getK, List.find?, e] using h1, by simpa [getU, List.find?, e] using h2, h3⟩
      · exact .inr ⟨by simpa [getK, List.find?, e] using h1, by simpa [getU, List.find?, e] using h2⟩
theorem RK.put {k : Key} {d : D} {u : U} (r : RV kd h d u) {kvs : List (Key × D)} {us : List (Key × U)} (t : RK kd h kvs us) : RK kd h (putD kvs k d) (putU us k u) := by
  have ha : kvs.any (fun kv => decide (kv.1 = k)) = us.any (fun kv => decide (kv.1 = k)) := by
    have := t.al
    clear t
    induction this with
    | nil => rfl
    | cons p _ ih => rw [List.any_cons, List.any_cons, ih, p.1]
  unfold putD putU
  rw [ha]
  split
  · refine (t.al.map (S := KR kd h) fun p q e => ?_).rk
    obtain ⟨e1, e2⟩ := e
    show (if p.1 = k then (p.1, d) else p).1 = (if q.1 = k then (q.1, u) else q).1 ∧ RV kd h (if p.1 = k then (p.1, d) else p).2 (if q.1 = k then (q.1, u) else q).2
    rw [e1]
    by_cases z : q.1 = k
    · rw [if_pos z, if_pos z]; exact ⟨rfl, r⟩
    · rw [if_neg z, if_neg z]; exact ⟨e1, e2⟩
  · exact (t.al.append (.one ⟨rfl, r⟩)).rk
theorem RV.key {d : D} {u : U} (r : RV kd h d u) : keyOf d = keyU u := by
  cases r <;> rfl
theorem RK.merge : ∀ {more : List (Key × D)} {more' : List (Key × U)} {kvs : List (Key × D)} {us : List (Key × U)}, RK kd h kvs us → RK kd h more more' → RK kd h (mergeD kvs more) (mergeU us more')
  | _, _, _, _, t, .nil => t
  | _, _, _, _, t, .cons r m => by
    unfold mergeD mergeU
    rw [List.foldl_cons, List.foldl_cons]
    exact RK.merge (t.put r) m
theorem RVs.pair : ∀ {ds : List D} {us : List U} {ps : List (Key × U)}, RVs kd h ds us → pairU us = some ps → ∃ qs, pairUp ds = some qs ∧ RK kd h qs ps ∧ qs.length = ps.length
  | _, _, _, .nil, e => by simp only [pairU] at e; cases e; exact ⟨[], rfl, .nil, rfl⟩
  | _, _, _, .cons r .nil, e => by simp only [pairU] at e; cases e
  | _, u1 :: _ :: us, _, .cons r (.cons s t), e => by
    simp only [pairU] at e
    cases h1 : keyU u1 with
    | none => rw [h1] at e; cases e
    | some k =>
      cases h2 : pairU us with
      | none => rw [h1, h2] at e; cases e
      | some q =>
        rw [h1, h2] at e; cases e
        obtain ⟨qs, g1, g2, g3⟩ := RVs.pair t h2
        exact ⟨_, by simp only [pairUp, r.key, h1, g1], .cons s g2, by simp [g3]⟩
/-! truth, equality -/
theorem tru_snd (g : Glob kd h σ B) {w : W} {d : D} {Q : Bool → Prop} (r : RR kd h w d) (q : truW σ Q w) : tru h d Q := by
  match w, r, q with
  | .own us, ⟨n, ds, e, h1, _, t⟩, q =>
    subst e
    have : ds.isEmpty = us.isEmpty := by cases t <;> rfl
    exact .inl ⟨ds, h1, by rw [this]; exact q⟩
  | .ownD us, ⟨n, ds, e, h1, t⟩, q =>
    subst e
    have : ds.isEmpty = us.isEmpty := by cases t <;> rfl
    exact .inr (.inr ⟨ds, h1, by rw [this]; exact q⟩)
  | .v .non, r, q => cases r; exact q
  | .v (.bl _), r, q => cases r; exact q
  | .v (.int _), r, q => cases r; exact q
  | .v (.str _), r, q => cases r; exact q
  | .v (.tup us), r, q =>
    cases r with
    | @tup ds _ l t =>
      have : ds.isEmpty = us.isEmpty := by cases t <;> rfl
      show Q (!ds.isEmpty)
      rw [this]; exact q
  | .v (.vl us), r, q =>
    cases r with
    | @vl n ds _ a b l t =>
      have : ds.isEmpty = us.isEmpty := by cases t <;> rfl
      exact .inl ⟨ds, b, by rw [this]; exact q⟩
  | .v (.vd _), _, q => cases q
  | .v .box, _, q => cases q
  | .v (.scr _), _, q => cases q
  | .v (.ref m), r, q =>
    rcases q with ⟨us, e, q⟩ | ⟨us, e, q⟩
    · obtain ⟨n, ds, rfl, h1, l, t⟩ := RR.lst g r (show wlst σ (.v (.ref m)) = some us from e)
      have : ds.isEmpty = us.isEmpty := by cases t <;> rfl
      exact .inl ⟨ds, h1, by rw [this]; exact q⟩
    · obtain ⟨n, ds, rfl, h1, t⟩ := RR.dct g r (show wdct σ (.v (.ref m)) = some us from e)
      have : ds.isEmpty = us.isEmpty := by cases t <;> rfl
      exact .inr (.inr ⟨ds, h1, by rw [this]; exact q⟩)
theorem wEq_gen {d e : D} {Q : Bool → Prop} (x : ∃ p q, Pd h d p ∧ Pd h e q ∧ SeqAt.shaped p = true ∧ SeqAt.shaped q = true ∧ Q (PyData.eqv p q)) : wEq d e h Q := by
  cases d <;> cases e <;> first | exact x | (
    obtain ⟨p, q, h1, h2, _, _, h3⟩ := x
    cases h1; cases h2
    simp only [PyData.eqv] at h3
    first | exact h3 | (simp only [wEq]; simpa using h3) | (simp only [wEq]; rw [beq_eq_decide] at h3; exact h3))
/-- a thing as data -/
inductive RE (kd : Km) (h : Hh) : D → U → Prop
  | v {d : D} {u : U} : RV kd h d u → RE kd h d u
  | l {n : Nat} {ds : List D} {us : List U} : h[n]? = some (.lst ds) → RVs kd h ds us → RE kd h (.ref n) (.vl us)
  | k {d : D} {us : List (Key × U)} : RE kd h d (.vd us)
theorem RR.re (g : Glob kd h σ B) {w : W} {d : D} (r : RR kd h w d) : RE kd h d (wU σ w) := by
  match w, r with
  | .own us, ⟨n, ds, e, h1, _, t⟩ => subst e; exact .l h1 t
  | .ownD us, _ => exact .k
  | .v (.ref m), r =>
    simp only [wU]
    cases hs : stL σ m with
    | none => exact .v r
    | some us =>
      obtain ⟨n, ds, rfl, h1, l, t⟩ := RR.lst g r (show wlst σ (.v (.ref m)) = some us from hs)
      exact .l h1 t
  | .v .non, r => exact .v r
  | .v (.bl _), r => exact .v r
  | .v (.int _), r => exact .v r
  | .v (.str _), r => exact .v r
  | .v (.tup _), r => exact .v r
  | .v (.vl _), r => exact .v r
  | .v (.vd _), r => exact .v r
  | .v .box, r => exact .v r
  | .v (.scr _), r => exact .v r
theorem RE.pd {d : D} {u : U} {p : PyData} (r : RE kd h d u) (e : toP u = some p) : Pd h d p := by
  cases r with
  | v r => exact r.pd e
  | l a t =>
    simp only [toP, Option.map_eq_some_iff] at e
    obtain ⟨ps, e1, rfl⟩ := e
    exact .lst a (RVs.pds t e1)
  | k => simp only [toP] at e; cases e
theorem uEq_snd {d e : D} {u v : U} {Q : Bool → Prop} (r : RE kd h d u) (s : RE kd h e v) (q : uEq u v Q) : wEq d e h Q := by
  have key : (∃ p q, toP u = some p ∧ toP v = some q ∧ SeqAt.shaped p = true ∧ SeqAt.shaped q = true ∧ Q (PyData.eqv p q)) → wEq d e h Q := by
    rintro ⟨p, q, h1, h2, h3, h4, h5⟩
    exact wEq_gen ⟨p, q, r.pd h1, s.pd h2, h3, h4, h5⟩
  cases u <;> cases v <;> first | exact key q | (
    cases r with | v r => cases s with | v s => cases r; cases s; exact q)
theorem RV.flat {d : D} {u : U} (r : RV kd h d u) : flat d = flatU u := by
  cases r <;> rfl
theorem RV.eqd {d e : D} {u v : U} (r : RV kd h d u) (s : RV kd h e v) (f : flatU u = true) (f' : flatU v = true) : eqD d e = eqU u v := by
  cases r <;> cases s <;> first | rfl | (exact absurd f (by simp [flatU])) | (exact absurd f' (by simp [flatU]))
theorem RVs.allFlat : ∀ {ds : List D} {us : List U}, RVs kd h ds us → ds.all Bp.flat = us.all flatU
  | _, _, .nil => rfl
  | _, _, .cons r t => by rw [List.all_cons, List.all_cons, r.flat, RVs.allFlat t]
theorem RVs.anyEq {x : D} {u : U} (r : RV kd h x u) (f : flatU u = true) : ∀ {ds : List D} {us : List U}, RVs kd h ds us → us.all flatU = true → (ds.any fun y => eqD y x) = us.any fun y => eqU y u
  | _, _, .nil, _ => rfl
  | _, _, .cons s t, a => by
    rw [List.all_cons, Bool.and_eq_true] at a
    rw [List.any_cons, List.any_cons, s.eqd r a.1 f, RVs.anyEq r f t a.2]
theorem uInD_snd (g : Glob kd h σ B) {x : D} {u : U} {c : W} {d : D} {Q : Bool → Prop} (r : RE kd h x u) (s : RR kd h c d) (q : uInD u c σ Q) : wIn x d h Q := by
  obtain ⟨us, p, ps, e, e1, e2, s1, s2, q⟩ := q
  obtain ⟨n, ds, rfl, h1, l, t⟩ := RR.lst g s e
  exact .inr (.inr ⟨p, ps, r.pd e1, .lst h1 (RVs.pds t e2), s1, s2, q⟩)
theorem uIn_snd (g : Glob kd h σ B) {x : D} {u : U} {c : W} {d : D} {Q : Bool → Prop} (r : RV kd h x u) (s : RR kd h c d) (q : uIn u c σ Q) : wIn x d h Q := by
  by_cases hz : ∃ z, c = .v (.str z)
  · obtain ⟨z, rfl⟩ := hz
    obtain ⟨ch, rfl, q⟩ := q
    cases r; cases s
    exact ⟨ch, rfl, q⟩
  · have q : (∃ us, wels σ c = some us ∧ flatU u = true ∧ us.all flatU = true ∧ Q (us.any fun y => eqU y u)) ∨ (∃ kvs k, wdct σ c = some kvs ∧ keyU u = some k ∧ Q (getU kvs k).isSome) ∨ uInD u c σ Q := by
      unfold uIn at q
      split at q
      · exact absurd ⟨_, rfl⟩ hz
      · exact q
    rcases q with ⟨us, e, f, a, q⟩ | ⟨kvs, k, e, ke, q⟩ | q
    · obtain ⟨ds, e1, l, t⟩ := s.els g e
      have q' : Bp.flat x = true ∧ ds.all Bp.flat = true ∧ Q (ds.any fun y => eqD y x) := ⟨r.flat.trans f, (RVs.allFlat t).trans a, by rw [RVs.anyEq r f t a]; exact q⟩
      cases d with
      | tup ts => simp only [elems] at e1; cases e1; exact q'
      | ref n =>
        simp only [elems] at e1
        cases hn : h[n]? with
        | none => rw [hn] at e1; cases e1
        | some o =>
          rw [hn] at e1
          cases o with
          | lst xs => cases e1; exact .inl ⟨_, .inl hn, q'⟩
          | rl xs => cases e1; exact .inl ⟨_, .inr hn, q'⟩
          | dK _ => cases e1
          | ins _ _ => cases e1
          | exc _ _ => cases e1
          | rd _ => cases e1
      | non => cases e1
      | bl _ => cases e1
      | int _ => cases e1
      | str _ => cases e1
    · obtain ⟨n, ks, rfl, h1, t⟩ := s.dct g e
      refine .inr (.inl ⟨ks, k, .inl h1, r.key.trans ke, ?_⟩)
      rcases RK.get k t with ⟨d', u', e1, e2, _⟩ | ⟨e1, e2⟩
      · rw [e1]; rw [e2] at q; exact q
      · rw [e1]; rw [e2] at q; exact q
    · exact uInD_snd g (.v r) s q
theorem RV.res (g : Glob kd h σ B) {d : D} {u : U} (r : RV kd h d u) : RE kd h d (resU σ u) := by
  cases u with
  | ref n =>
    have := RR.re g (w := .v (.ref n)) r
    simp only [wU] at this
    unfold resU
    exact this
  | _ => exact .v r
theorem RVs.res (g : Glob kd h σ B) : ∀ {ds : List D} {us : List U} {ps : List PyData}, RVs kd h ds us → toPs (us.map (resU σ)) = some ps → Pds h ds ps
  | _, _, _, .nil, e => by simp only [List.map_nil, toPs] at e; cases e; exact .nil
  | _, _, _, .cons r t, e => by
    rw [List.map_cons] at e
    simp only [toPs] at e
    split at e
    · rename_i a b h1 h2
      cases e
      exact .cons ((RV.res g r).pd h1) (RVs.res g t h2)
    · cases e
theorem RR.dpd (g : Glob kd h σ B) {w : W} {d : D} {p : PyData} (r : RR kd h w d) (e : toP (dpU σ w) = some p) : Pd h d p := by
  by_cases hz : ∃ us, w = .v (.tup us)
  · obtain ⟨us, rfl⟩ := hz
    cases r with
    | tup l t =>
      simp only [dpU, toP, Option.map_eq_some_iff] at e
      obtain ⟨ps, e1, rfl⟩ := e
      exact .tup (RVs.res g t e1)
  · have : dpU σ w = wU σ w := by
      unfold dpU
      split
      · exact absurd ⟨_, rfl⟩ hz
      · rfl
    rw [this] at e
    exact (r.re g).pd e
theorem uCo_snd (g : Glob kd h σ B) {o : Co} {p q : W} {d e : D} {Q : Bool → Prop} (r : RR kd h p d) (s : RR kd h q e) (x : uCo o p q σ Q) : wCo o d e h Q := by
  cases o with
  | eq => exact uEq_snd (r.re g) (s.re g) x
  | ne => exact uEq_snd (Q := fun b => Q (!b)) (r.re g) (s.re g) x
  | lt =>
    unfold uCo at x
    split at x <;> first | exact x.elim | (cases r; cases s; exact x) | contradiction | skip
    obtain ⟨p, q, e1, e2, s1, s2, al, x⟩ := x
    have p1 := RV.pd r e1
    have p2 := RV.pd s e2
    cases r; cases s
    exact ⟨p, q, p1, p2, s1, s2, al, x⟩
  | le =>
    unfold uCo at x
    split at x <;> first | exact x.elim | (cases r; cases s; exact x) | contradiction
  | gt =>
    unfold uCo at x
    split at x <;> first | exact x.elim | (cases r; cases s; exact x) | contradiction
  | ge =>
    unfold uCo at x
    split at x <;> first | exact x.elim | (cases r; cases s; exact x) | contradiction
  | is =>
    match q, s, x with
    | .v .non, s, x =>
      cases s
      match p, r, x with
      | .v u, r, x => cases r <;> exact x
      | .own us, ⟨n, ds, e, _⟩, x => subst e; exact x
      | .ownD us, ⟨n, ds, e, _⟩, x => subst e; exact x
  | isnot =>
    match q, s, x with
    | .v .non, s, x =>
      cases s
      match p, r, x with
      | .v u, r, x => cases r <;> exact x
      | .own us, ⟨n, ds, e, _⟩, x => subst e; exact x
      | .ownD us, ⟨n, ds, e, _⟩, x => subst e; exact x
  | deq =>
    obtain ⟨a, b, e1, e2, s1, s2, x⟩ := x
    exact ⟨a, b, RR.dpd g r e1, RR.dpd g s e2, s1, s2, x⟩
  | dne =>
    obtain ⟨a, b, e1, e2, s1, s2, x⟩ := x
    exact ⟨a, b, RR.dpd g r e1, RR.dpd g s e2, s1, s2, x⟩
  | isin =>
    match p, r, x with
    | .v u, r, x => exact uIn_snd g r s x
    | .own us, r, x => exact uInD_snd g (RR.re g (w := .own us) r) s x
  | notin =>
    match p, r, x with
    | .v u, r, x => exact uIn_snd (Q := fun b => Q (!b)) g r s x
    | .own us, r, x => exact uInD_snd (Q := fun b => Q (!b)) g (RR.re g (w := .own us) r) s x
/-- what an operation comes to -/
abbrev OpK (kd : Km) (h : Hh) (R : W → Prop) (Q : Qd) : Prop := ∀ r h' w, R w → (h' = h ∨ ∃ o, h' = h ++ [o]) → RW kd h' .free h.length w r → Q r h'
theorem new_own (g : Glob kd h σ B) {ds : List D} {us : List U} (l : ds.length ≤ LB) (t : RVs kd h ds us) : RW kd (h ++ [.lst ds]) .free h.length (.own us) (.ref h.length) :=
  ⟨_, ds, rfl, g.out _ (Nat.le_refl _), Nat.le_refl _, get_new, l, RVs.keep g.kp_new.toKp t⟩
theorem uBo_snd (g : Glob kd h σ B) {o : Bo} {p q : W} {d e : D} {R : W → Prop} {Q : Qd} (r : RR kd h p d) (s : RR kd h q e) (x : uBo o p q σ R) (k : OpK kd h R Q) : wBo o d e h Q := by
  have lists : (∃ xs ys, wlst σ p = some xs ∧ wlst σ q = some ys ∧ xs.length + ys.length ≤ 100000 ∧ R (.own (xs ++ ys))) → wBo .add d e h Q := by
    rintro ⟨xs, ys, e1, e2, l, x⟩
    obtain ⟨n, ds, rfl, h1, l1, t1⟩ := r.lst g e1
    obtain ⟨m, es, rfl, h2, l2, t2⟩ := s.lst g e2
    refine ⟨ds, es, h1, h2, by rw [t1.len, t2.len]; exact l, k _ _ _ x (.inr ⟨_, rfl⟩) (new_own g ?_ (t1.append t2))⟩
    rw [List.length_append, t1.len, t2.len]; unfold LB; omega
  have muls : ∀ i, q = .v (.int i) → (∃ xs, wlst σ p = some xs ∧ -1000000 ≤ i ∧ i ≤ 1000000 ∧ xs.length * i.toNat ≤ 100000 ∧ R (.own (List.replicate i.toNat xs).flatten)) → wBo .mul d e h Q := by
    rintro i rfl ⟨xs, e1, l1, l2, l3, x⟩
    obtain ⟨n, ds, rfl, h1, l4, t1⟩ := r.lst g e1
    cases s
    refine ⟨ds, h1, l1, l2, by rw [t1.len]; exact l3, k _ _ _ x (.inr ⟨_, rfl⟩) (new_own g ?_ (t1.al.rep _).rv)⟩
    rw [List.length_flatten, List.map_replicate, List.sum_replicate_nat, t1.len, Nat.mul_comm]
    unfold LB; omega
  have sc : ∀ {u : U} {d : D}, RV kd h d u → R (.v u) → Q d h := fun r x => k _ _ _ x (.inl rfl) r
  unfold uBo at x
  split at x
  all_goals first
    | exact x.elim
    | exact lists x
    | exact muls _ rfl x
    | (cases r; cases s; exact sc (.int _) x)
    | (cases r; cases s; exact ⟨x.1, sc (.int _) x.2⟩)
    | (cases r; cases s; exact ⟨x.1, sc (.str _) x.2⟩)
    | (cases r with
       | tup l1 t1 => cases s with
         | tup l2 t2 => exact ⟨by rw [t1.len, t2.len]; exact x.1, sc (.tup (by have := x.1; rw [List.length_append, t1.len, t2.len]; unfold LB; omega) (t1.append t2)) x.2⟩)
theorem uAug_snd {o : Bo} {u : U} {q : W} {d e : D} {R : U → Prop} {Q : Qd} (r : RV kd h d u) (s : RR kd h q e) (x : uAug o u q R) (k : ∀ r w, R w → RV kd h r w → Q r h) : wAug o d e h Q := by
  unfold uAug at x
  split at x
  all_goals first
    | exact x.elim
    | (cases r; cases s; exact k _ _ x (.int _))
    | (cases r; cases s; exact ⟨x.1, k _ _ x.2 (.int _)⟩)
    | (cases r; cases s; exact ⟨x.1, k _ _ x.2 (.str _)⟩)
theorem uIdx_snd (g : Glob kd h σ B) {p q : W} {d e : D} {R : U → Prop} {Q : Qd} (r : RR kd h p d) (s : RR kd h q e) (x : uIdx p q σ R) (k : ∀ r w, R w → RV kd h r w → Q r h) : wIdx d e h Q := by
  by_cases hz : ∃ z, p = .v (.str z)
  · obtain ⟨z, rfl⟩ := hz
    obtain ⟨i, c, rfl, l, e1, x⟩ := x
    cases r; cases s
    exact ⟨i, c, rfl, l, e1, k _ _ x (.str _)⟩
  · have x : (∃ us k u, wels σ p = some us ∧ q = .v (.int k) ∧ atI us k = some u ∧ R u) ∨ (∃ kvs x k u, wdct σ p = some kvs ∧ q = .v x ∧ keyU x = some k ∧ getU kvs k = some u ∧ R u) := by
      unfold uIdx at x
      split at x
      · exact absurd ⟨_, rfl⟩ hz
      · exact x
    rcases x with ⟨us, i, u, e1, rfl, e2, x⟩ | ⟨kvs, y, ky, u, e1, rfl, e2, e3, x⟩
    · obtain ⟨ds, e4, l, t⟩ := r.els g e1
      obtain ⟨v, e5, rv⟩ := t.at e2
      cases s
      cases d with
      | tup ts => simp only [elems] at e4; cases e4; exact ⟨i, v, rfl, e5, k _ _ x rv⟩
      | ref n =>
        simp only [elems] at e4
        cases hn : h[n]? with
        | none => rw [hn] at e4; cases e4
        | some o =>
          rw [hn] at e4
          cases o with
          | lst xs => cases e4; exact .inl ⟨_, i, v, .inl hn, rfl, e5, k _ _ x rv⟩
          | rl xs => cases e4; exact .inl ⟨_, i, v, .inr hn, rfl, e5, k _ _ x rv⟩
          | dK _ => cases e4
          | ins _ _ => cases e4
          | exc _ _ => cases e4
          | rd _ => cases e4
      | non => cases e4
      | bl _ => cases e4
      | int _ => cases e4
      | str _ => cases e4
    · obtain ⟨n, ks, rfl, h1, t⟩ := r.dct g e1
      have hk : keyOf e = some ky := (RV.key s).trans e2
      rcases RK.get ky t with ⟨d', u', f1, f2, rv⟩ | ⟨f1, f2⟩
      · rw [e3] at f2; cases f2
        exact .inr ⟨ks, ky, d', .inl h1, hk, f1, k _ _ x rv⟩
      · rw [e3] at f2; cases f2
theorem uSli_snd (g : Glob kd h σ B) {p : W} {d : D} {lo hi : Option Int} {R : W → Prop} {Q : Qd} (r : RR kd h p d) (x : uSli p lo hi σ R) (k : OpK kd h R Q) : wSli d lo hi h Q := by
  unfold uSli at x
  split at x
  · cases r; exact ⟨x.1, k _ _ _ x.2 (.inl rfl) (.str _)⟩
  · cases r with
    | tup l t => exact k _ _ _ x (.inl rfl) (.tup (Nat.le_trans (cutD_len _ _ _) l) (t.cut lo hi))
  · cases r with
    | scr a b c => exact ⟨_, .inr b, k _ _ _ x (.inr ⟨_, rfl⟩) (new_own g (Nat.le_trans (cutD_len _ _ _) (by simpa using c)) ((RVs.ints _).cut lo hi))⟩
  · obtain ⟨us, e1, x⟩ := x
    obtain ⟨n, ds, rfl, h1, l, t⟩ := r.lst g e1
    exact ⟨ds, .inl h1, k _ _ _ x (.inr ⟨_, rfl⟩) (new_own g (Nat.le_trans (cutD_len _ _ _) l) (t.cut lo hi))⟩
theorem uTy_snd (g : Glob kd h σ B) {p : W} {d : D} {t : Tn} (r : RR kd h p d) (x : tyU σ p = some t) : tyD h d = some t := by
  match p, r, x with
  | .own us, ⟨n, ds, e, h1, _⟩, x => subst e; simp only [tyD, h1]; exact x
  | .ownD us, ⟨n, ds, e, h1, _⟩, x => subst e; simp only [tyD, h1]; exact x
  | .v .non, r, x => cases r; exact x
  | .v (.bl _), r, x => cases r; exact x
  | .v (.int _), r, x => cases r; exact x
  | .v (.str _), r, x => cases r; exact x
  | .v (.tup _), r, x => cases r; exact x
  | .v (.vl _), r, x => cases r with | vl a b l t => simp only [tyD, b]; exact x
  | .v (.vd _), r, x => cases r with | vd a b t => simp only [tyD, b]; exact x
  | .v (.ref m), r, x =>
    cases r with
    | ref a =>
      obtain ⟨uo, o, h1, h2, h3⟩ := g.st _ _ a
      simp only [tyU, h1] at x
      simp only [tyD, h2]
      cases h3 with
      | lst l t => exact x
      | dK t => exact x
      | ins t => cases x
      | exc t => cases x
  | .v .box, _, x => cases x
  | .v (.scr _), _, x => cases x
end
end Bp

namespace Bp
open PySem L2
section
variable {kd kd' : Km} {h h' : Hh} {σ : Us} {B b0 : Nat} {en : En} {ev : Ev}
/-- an operand beside its value -/
def ROd (kd : Km) (h : Hh) (en : En) (lo : Nat) : Od → D → Prop
  | .at i, d => en[i]? = some (some d)
  | .w w, d => RW kd h .free lo w d
theorem ROd.step {lo : Nat} (s : Step kd h kd' h') : ∀ {o : Od} {d : D}, ROd kd h en lo o d → ROd kd' h' en lo o d
  | .at _, _, r => r
  | .w _, _, r => RW.step s r
theorem ROd.rr {lo : Nat} (i : Inv kd h b0 en ev σ B) : ∀ {o : Od} {d : D} {p : W}, ROd kd h en lo o d → o.get ev = some p → RR kd h p d
  | .at j, d, p, r, e => by
    obtain ⟨d', g1, g2⟩ := i.sl j p e
    have : d = d' := by have := (show en[j]? = some (some d) from r).symm.trans g1; cases this; rfl
    subst this
    exact g2.rr
  | .w w, d, p, r, e => by cases e; exact RW.rr r
inductive ROds (kd : Km) (h : Hh) (en : En) (lo : Nat) : List Od → List D → Prop
  | nil : ROds kd h en lo [] []
  | cons {o : Od} {d : D} {os : List Od} {ds : List D} : ROd kd h en lo o d → ROds kd h en lo os ds → ROds kd h en lo (o :: os) (d :: ds)
theorem ROds.lower {lo lo' : Nat} (l : lo' ≤ lo) : ∀ {os : List Od} {ds : List D}, ROds kd h en lo os ds → ROds kd h en lo' os ds
  | _, _, .nil => .nil
  | _, _, @ROds.cons _ _ _ _ (.at _) _ _ _ r t => .cons r (t.lower l)
  | _, _, @ROds.cons _ _ _ _ (.w _) _ _ _ r t => .cons (RW.lower l r) (t.lower l)
theorem ROds.rrs {lo : Nat} (i : Inv kd h b0 en ev σ B) : ∀ {os : List Od} {ds : List D} {ps : List W}, ROds kd h en lo os ds → getAll ev os = some ps → Al (RR kd h) ps ds
  | _, _, _, .nil, e => by simp only [getAll] at e; cases e; exact .nil
  | o :: os, _, _, .cons r t, e => by
    simp only [getAll] at e
    cases h1 : o.get ev with
    | none => rw [h1] at e; cases e
    | some w =>
      cases h2 : getAll ev os with
      | none => rw [h1, h2] at e; cases e
      | some ws =>
        rw [h1, h2] at e; cases e
        exact .cons (r.rr i h1) (t.rrs i h2)
theorem cont_d {d : D} {u : U} (r : RE kd h d u) (c : contU u = true) : (∃ ds, d = .tup ds) ∨ ∃ n, d = .ref n := by
  cases r with
  | v r => cases r <;> first | exact .inl ⟨_, rfl⟩ | exact .inr ⟨_, rfl⟩ | (simp [contU] at c)
  | l a t => exact .inr ⟨_, rfl⟩
  | k => simp [contU] at c
theorem new_ownD (g : Glob kd h σ B) {ds : List (Key × D)} {us : List (Key × U)} (t : RK kd h ds us) : RW kd (h ++ [.dK ds]) .free h.length (.ownD us) (.ref h.length) :=
  ⟨_, ds, rfl, g.out _ (Nat.le_refl _), Nat.le_refl _, get_new, RK.keep g.kp_new.toKp t⟩
theorem key_rv {d : D} {u : U} {q : Key} (r : RV kd h d u) (e : keyU u = some q) : keyOf d = some q := by
  cases r <;> first | exact e | cases e
theorem prs_snd : ∀ {ds : List D} {us : List U} {ps : List (Key × U)}, RVs kd h ds us → prsU us = some ps → ∃ qs, pairsD ds = some qs ∧ RK kd h qs ps
  | _, _, _, .nil, e => by cases e; exact ⟨[], rfl, .nil⟩
  | _, _, _, .cons (d := d) r t, e => by
    unfold prsU at e
    split at e
    · rename_i p ps hp hps
      cases e
      obtain ⟨qs, e1, e2⟩ := prs_snd t hps
      unfold pr2U at hp
      split at hp
      · rename_i ku vu
        split at hp
        · rename_i q hq
          cases hp
          cases r with
          | tup l rs =>
            cases rs with
            | cons r1 rs => cases rs with
              | cons r2 rs =>
                cases rs
                refine ⟨(q, _) :: qs, ?_, .cons r2 e2⟩
                unfold pairsD pairD
                dsimp only
                rw [key_rv r1 hq, e1]
        · cases hp
      · cases hp
    · cases e
theorem RK.items : ∀ {ds : List (Key × D)} {us : List (Key × U)}, RK kd h ds us → RVs kd h (ds.map fun kv => .tup [keyD kv.1, kv.2]) (us.map fun kv => .tup [ukey kv.1, kv.2])
  | _, _, .nil => .nil
  | _, _, .cons (k := k) r t => .cons (.tup (by simp; unfold LB; omega) (.cons (by cases k <;> constructor) (.cons r .nil))) (RK.items t)
theorem RK.ints : ∀ {ds : List (Key × D)} {us : List (Key × U)} {is : List Int}, RK kd h ds us → us.map (·.2) = is.map U.int → ds.map (·.2) = is.map D.int
  | _, _, [], .nil, _ => rfl
  | _, _, _ :: _, .nil, e => by cases e
  | _, _, [], .cons _ _, e => by cases e
  | _, _, i :: is, .cons r t, e => by
    rw [List.map_cons, List.map_cons, List.cons.injEq] at e
    obtain ⟨e1, e2⟩ := e
    dsimp only at e1
    subst e1
    cases r
    rw [List.map_cons, List.map_cons, RK.ints t e2]
theorem RK.keys : ∀ {ds : List (Key × D)} {us : List (Key × U)}, RK kd h ds us → RVs kd h (ds.map fun kv => keyD kv.1) (us.map fun kv => ukey kv.1)
  | _, _, .nil => .nil
  | _, _, .cons (k := k) r t => .cons (by cases k <;> constructor) (RK.keys t)
theorem RK.names : ∀ {ds : List (Key × D)} {us : List (Key × U)}, RK kd h ds us → ds.map (·.1) = us.map (·.1)
  | _, _, .nil => rfl
  | _, _, .cons r t => by rw [List.map_cons, List.map_cons, RK.names t]
theorem RK.drop {k : Key} : ∀ {ds : List (Key × D)} {us : List (Key × U)}, RK kd h ds us → RK kd h (dropD ds k) (dropU us k)
  | _, _, .nil => .nil
  | _, _, .cons (k := k') r t => by
    have ih := RK.drop (k := k) t
    unfold dropD dropU at ih ⊢
    by_cases e : k' = k
    · rw [List.filter_cons_of_neg (by simp [e]), List.filter_cons_of_neg (by simp [e])]; exact ih
    · rw [List.filter_cons_of_pos (by simp [e]), List.filter_cons_of_pos (by simp [e])]; exact .cons r ih
theorem uBi_snd (g : Glob kd h σ B) {b : Bi} {ps : List W} {ds : List D} {R : W → Prop} {Q : Qd} (r : Al (RR kd h) ps ds) (x : uBi b ps σ R) (k : OpK kd h R Q) : wBi b ds h Q := by
  have sc : ∀ {u : U} {d : D}, RV kd h d u → R (.v u) → Q d h := fun r x => k _ _ _ x (.inl rfl) r
  have one : ∀ {p : W}, ps = [p] → ∃ d, ds = [d] ∧ RR kd h p d := by
    rintro p rfl
    cases r with
    | cons r t => cases t; exact ⟨_, rfl, r⟩
  have two : ∀ {p q : W}, ps = [p, q] → ∃ d e, ds = [d, e] ∧ RR kd h p d ∧ RR kd h q e := by
    rintro p q rfl
    cases r with
    | cons r t => cases t with
      | cons s t => cases t; exact ⟨_, _, rfl, r, s⟩
  unfold uBi at x
  split at x
  · obtain ⟨d, rfl, r1⟩ := one rfl
    cases r1; exact ⟨x.1, sc (.int _) x.2⟩
  · obtain ⟨d, rfl, r1⟩ := one rfl
    rcases x with ⟨us, e, x⟩ | ⟨kvs, e, x⟩
    · obtain ⟨xs, e1, l, t⟩ := r1.els g e
      have q : Q (.int xs.length) h := by rw [t.len]; exact sc (.int _) x
      cases d <;> first | exact .inl ⟨xs, e1, q⟩ | cases e1
    · obtain ⟨n, ks, rfl, h1, t⟩ := r1.dct g e
      exact .inr ⟨n, ks, rfl, h1, by rw [t.al.len]; exact sc (.int _) x⟩
  · obtain ⟨d, rfl, r1⟩ := one rfl
    obtain ⟨us, e, x⟩ := x
    obtain ⟨xs, e1, l, t⟩ := r1.els g e
    exact ⟨xs, e1, k _ _ _ x (.inr ⟨_, rfl⟩) (new_own g l t)⟩
  · obtain ⟨d, rfl, r1⟩ := one rfl
    obtain ⟨us, e, x⟩ := x
    obtain ⟨xs, e1, l, t⟩ := r1.els g e
    exact ⟨xs, e1, sc (.tup l t) x⟩
  · obtain ⟨d, e, rfl, r1, s1⟩ := two rfl
    cases r1; cases s1
    exact ⟨x.1, sc (.tup (by show 2 ≤ 2000000; decide) (.cons (.int _) (.cons (.int _) .nil))) x.2⟩
  · obtain ⟨d, rfl, r1⟩ := one rfl
    cases r1; exact sc (.int _) x
  · obtain ⟨d, rfl, r1⟩ := one rfl
    cases r1; exact sc (.int _) x
  · obtain ⟨d, rfl, r1⟩ := one rfl
    cases r1; exact sc (.int _) x
  · obtain ⟨d, rfl, r1⟩ := one rfl
    cases r1; exact sc (.bl _) x
  · obtain ⟨d, rfl, r1⟩ := one rfl
    cases r1; exact sc (.bl _) x
  · obtain ⟨d, e, rfl, r1, s1⟩ := two rfl
    cases r1; cases s1; exact sc (.int _) x
  · obtain ⟨d, e, rfl, r1, s1⟩ := two rfl
    cases r1; cases s1; exact sc (.int _) x
  · obtain ⟨d, rfl, r1⟩ := one rfl
    obtain ⟨bs, e, x⟩ := x
    obtain ⟨n, xs, rfl, h1, l, t⟩ := r1.lst g e
    exact ⟨bs, by rw [h1, RVs.bls_of t], sc (.bl _) x⟩
  · obtain ⟨d, rfl, r1⟩ := one rfl
    obtain ⟨bs, e, x⟩ := x
    obtain ⟨n, xs, rfl, h1, l, t⟩ := r1.lst g e
    exact ⟨bs, by rw [h1, RVs.bls_of t], sc (.bl _) x⟩
  · obtain ⟨d, rfl, r1⟩ := one rfl
    obtain ⟨bs, e, x⟩ := x
    obtain ⟨n, xs, rfl, h1, l, t⟩ := r1.lst g e
    exact ⟨bs, by rw [h1, RVs.ints_of t], sc (.int _) x⟩
  · obtain ⟨d, rfl, r1⟩ := one rfl
    obtain ⟨bs, e, hl, x⟩ := x
    obtain ⟨n, xs, rfl, h1, l, t⟩ := r1.lst g e
    exact ⟨bs, by rw [h1, RVs.ints_of t], hl, fun m hm hy => sc (.int _) (x m hm hy)⟩
  · obtain ⟨d, rfl, r1⟩ := one rfl
    obtain ⟨bs, e, hl, x⟩ := x
    obtain ⟨n, xs, rfl, h1, l, t⟩ := r1.lst g e
    exact ⟨bs, by rw [h1, RVs.ints_of t], hl, fun m hm hy => sc (.int _) (x m hm hy)⟩
  · obtain ⟨d, rfl, r1⟩ := one rfl
    cases r1; exact ⟨x.1, sc (.str _) x.2⟩
  · obtain ⟨d, rfl, r1⟩ := one rfl
    obtain ⟨hc, p, hp, hs, x⟩ := x
    have rp := (r1.re g).pd hp
    rcases cont_d (r1.re g) hc with ⟨ds, rfl⟩ | ⟨n, rfl⟩
    · exact ⟨p, rp, hs, sc (.str _) x⟩
    · exact ⟨p, rp, hs, sc (.str _) x⟩
  · obtain ⟨d, rfl, r1⟩ := one rfl
    cases r1; exact ⟨x.1, sc (.str _) x.2⟩
  · obtain ⟨d, rfl, r1⟩ := one rfl
    obtain ⟨hc, p, hp, hs, x⟩ := x
    have rp := (r1.re g).pd hp
    rcases cont_d (r1.re g) hc with ⟨ds, rfl⟩ | ⟨n, rfl⟩
    · exact ⟨p, rp, hs, sc (.str _) x⟩
    · exact ⟨p, rp, hs, sc (.str _) x⟩
  · obtain ⟨d, rfl, r1⟩ := one rfl
    rcases x with ⟨ss, e, hl, x⟩ | ⟨is, e, hl, x⟩
    · obtain ⟨n, xs, rfl, h1, l, t⟩ := r1.lst g e
      rw [RVs.strs_of t] at h1
      refine .inl ⟨ss, h1, hl, fun ys hp hs => k _ _ _ (x ys hp hs) (.inr ⟨_, rfl⟩) (new_own g ?_ (RVs.strs ys))⟩
      rw [List.length_map, hp.length_eq]; unfold LB; omega
    · obtain ⟨n, xs, rfl, h1, l, t⟩ := r1.lst g e
      rw [RVs.ints_of t] at h1
      refine .inr ⟨is, h1, fun ys hp hs => k _ _ _ (x ys hp hs) (.inr ⟨_, rfl⟩) (new_own g ?_ (RVs.ints ys))⟩
      rw [List.length_map, hp.length_eq]; exact hl
  · obtain ⟨d, rfl, r1⟩ := one rfl
    cases r1
    refine ⟨x.1, k _ _ _ x.2 (.inr ⟨_, rfl⟩) (new_own g ?_ (RVs.chars _))⟩
    have := x.1
    rw [List.length_map, Array.length_toList]; unfold LB; unfold Str.length at this; omega
  · obtain ⟨d, rfl, r1⟩ := one rfl
    obtain ⟨kvs, e, hl, x⟩ := x
    obtain ⟨n, ks, rfl, h1, t⟩ := r1.dct g e
    refine ⟨ks, h1, k _ _ _ x (.inr ⟨_, rfl⟩) (new_own g ?_ (RK.keys t))⟩
    rw [List.length_map, t.al.len]; unfold LB; omega
  · obtain ⟨d, rfl, r1⟩ := one rfl
    obtain ⟨kvs, ks, e, hk, hl, x⟩ := x
    obtain ⟨n, qs, rfl, h1, t⟩ := r1.dct g e
    refine ⟨qs, ks, h1, (RK.names t).trans hk, hl, fun ys hp hs => k _ _ _ (x ys hp hs) (.inr ⟨_, rfl⟩) (new_own g ?_ (RVs.strs ys))⟩
    rw [List.length_map, hp.length_eq]; unfold LB; omega
  · obtain ⟨d, rfl, r1⟩ := one rfl
    rcases x with ⟨us, ps, e, hp, x⟩ | ⟨kvs, e, x⟩
    · obtain ⟨n, xs, rfl, h1, l, t⟩ := r1.lst g e
      obtain ⟨qs, hq, tk⟩ := prs_snd t hp
      exact .inl ⟨xs, qs, h1, hq, k _ _ _ x (.inr ⟨_, rfl⟩) (new_ownD g (RK.merge .nil tk))⟩
    · obtain ⟨n, ks, rfl, h1, t⟩ := r1.dct g e
      exact .inr ⟨ks, h1, k _ _ _ x (.inr ⟨_, rfl⟩) (new_ownD g t)⟩
  · exact x.elim
theorem uNe_snd (g : Glob kd h σ B) {b : Ne} {p : W} {d : D} {R : W → Prop} {Q : Qd} (r : RR kd h p d) (x : uNe b p σ R) (k : OpK kd h R Q) : wNe b d h Q := by
  cases b with
  | litems =>
    obtain ⟨kvs, e, hl, x⟩ := x
    obtain ⟨n, ks, rfl, h1, t⟩ := r.dct g e
    refine ⟨ks, h1, k _ _ _ x (.inr ⟨_, rfl⟩) (new_own g ?_ (RK.items t))⟩
    rw [List.length_map, t.al.len]; unfold LB; omega
  | svals =>
    obtain ⟨kvs, is, e, hv, b1, b2, x⟩ := x
    obtain ⟨n, ks, rfl, h1, t⟩ := r.dct g e
    exact ⟨ks, is, h1, RK.ints t hv, b1, b2, k _ _ _ x (.inl rfl) (.int _)⟩
  | lrev =>
    obtain ⟨us, e, x⟩ := x
    obtain ⟨n, xs, rfl, h1, l, t⟩ := r.lst g e
    exact ⟨xs, .inl h1, k _ _ _ x (.inr ⟨_, rfl⟩) (new_own g (by simpa using l) t.al.reverse.rv)⟩
  | dne =>
    obtain ⟨kvs, e, x⟩ := x
    obtain ⟨n, ks, rfl, h1, t⟩ := r.dct g e
    have hl := t.al.len
    have he : ks.isEmpty = kvs.isEmpty := by
      cases ks <;> cases kvs <;> first | rfl | (simp at hl)
    refine ⟨ks, h1, ?_⟩
    rw [he]
    exact k _ _ _ x (.inl rfl) (.bl _)
/-! a list or a dict is changed -/
def Hit (k : Kd) : Prop := (∃ i, k = .own i) ∨ ∃ m, k = .st m
theorem Hit.ne {n m : Nat} {t : Kd} (hn : Hit (kd n)) (e : kd m = t) (ht : ¬ Hit t) : n ≠ m := fun z => ht (by rw [← e, ← z]; exact hn)
theorem nh_frz : ¬ Hit .frz := by rintro (⟨_, z⟩ | ⟨_, z⟩) <;> cases z
theorem nh_free : ¬ Hit .free := by rintro (⟨_, z⟩ | ⟨_, z⟩) <;> cases z
theorem nh_box : ¬ Hit .box := by rintro (⟨_, z⟩ | ⟨_, z⟩) <;> cases z
theorem nh_fld {m : Nat} {f : Str} : ¬ Hit (.fld m f) := by rintro (⟨_, z⟩ | ⟨_, z⟩) <;> cases z
theorem kp_hit {n : Nat} (hn : Hit (kd n)) {o : O} : KpO kd h kd (h.set n o) :=
  ⟨⟨fun m e => ⟨e, get_set_ne (hn.ne e nh_frz)⟩, fun _ e => e, fun _ _ e => e⟩, fun m q f e => ⟨e, get_set_ne (hn.ne e nh_fld)⟩⟩
theorem step_hit (out : ∀ n, h.length ≤ n → kd n = .free) {n : Nat} (hn : Hit (kd n)) {o : O} : Step kd h kd (h.set n o) :=
  ⟨(kp_hit hn).toKp, by simp, fun m l e => ⟨e, get_set_ne (hn.ne e nh_free)⟩, out⟩
theorem Glob.hitOwn (g : Glob kd h σ B) {n i : Nat} (hn : kd n = .own i) {o : O} : Glob kd (h.set n o) σ B where
  out m l := g.out m (by simpa using l)
  box m e := by
    obtain ⟨a, x, c, h1, h2⟩ := g.box m e
    exact ⟨a, x, c, by rw [get_set_ne (Hit.ne (.inl ⟨i, hn⟩) e nh_box)]; exact h1, h2⟩
  st m q e := by
    obtain ⟨uo, ob, h1, h2, h3⟩ := g.st m q e
    exact ⟨uo, ob, h1, by rw [get_set_ne fun z => by rw [← z, hn] at e; cases e]; exact h2, h3.keep (kp_hit (.inl ⟨i, hn⟩))⟩
  inj := g.inj
theorem Glob.hitSt (g : Glob kd h σ B) {n m : Nat} (hn : kd n = .st m) {o o' : O} {uo : Uo} (hg : h[n]? = some o') (r : RO kd h m uo o) : Glob kd (h.set n o) (σ.set m uo) B where
  out q l := g.out q (by simpa using l)
  box q e := by
    obtain ⟨a, x, c, h1, h2⟩ := g.box q e
    exact ⟨a, x, c, by rw [get_set_ne (Hit.ne (.inr ⟨m, hn⟩) e nh_box)]; exact h1, h2⟩
  st q p e := by
    obtain ⟨u1, o1, g1, g2, g3⟩ := g.st q p e
    by_cases z : p = m
    · subst z
      have := g.inj q n p e hn
      subst this
      exact ⟨uo, o, List.getElem?_set_self (List.getElem?_eq_some_iff.mp g1).1, get_set hg, r.keep (kp_hit (.inr ⟨p, hn⟩))⟩
    · exact ⟨u1, o1, (List.getElem?_set_ne fun y => z y.symm).trans g1, by rw [get_set_ne fun y => z (by rw [← y, hn] at e; cases e; rfl)]; exact g2, g3.keep (kp_hit (.inr ⟨m, hn⟩))⟩
  inj := g.inj
theorem evGet_lt {i : Nat} {w : W} (e : evGet ev i = some w) : i < ev.length := by
  unfold evGet at e
  cases hq : ev[i]? with
  | none => rw [hq] at e; cases e
  | some x => exact (List.getElem?_eq_some_iff.mp hq).1
theorem Inv.hitOwn (i : Inv kd h b0 en ev σ B) {j n : Nat} {w w' : W} {o : O} (e : evGet ev j = some w) (hd : en[j]? = some (some (.ref n))) (hk : kd n = .own j) (r : RW kd (h.set n o) (.own j) b0 w' (.ref n)) :
    Inv kd (h.set n o) b0 en (ev.set j (some w')) σ B where
  len := by simp [i.len]
  sl q x e' := by
    rcases evGet_set e' with ⟨rfl, e1, e2⟩ | ⟨hq, e1⟩
    · cases e1; exact ⟨_, hd, r⟩
    · obtain ⟨d', g1, g2⟩ := i.sl q x e1
      exact ⟨d', g1, g2.keep (kp_hit (.inl ⟨j, hk⟩)).toKp fun m em lm => ⟨em, get_set_ne fun z => hq (by rw [← z, hk] at em; cases em; rfl)⟩⟩
  gl := i.gl.hitOwn hk
  bs := by have := i.bs; simpa using this
theorem Inv.hitSt (i : Inv kd h b0 en ev σ B) {n m : Nat} (hn : kd n = .st m) {o o' : O} {uo : Uo} (hg : h[n]? = some o') (r : RO kd h m uo o) : Inv kd (h.set n o) b0 en ev (σ.set m uo) B where
  len := i.len
  sl q x e := by
    obtain ⟨d', g1, g2⟩ := i.sl q x e
    exact ⟨d', g1, g2.keep (kp_hit (.inr ⟨m, hn⟩)).toKp fun p em lm => ⟨em, get_set_ne fun z => by rw [← z, hn] at em; cases em⟩⟩
  gl := i.gl.hitSt hn hg r
  bs := by have := i.bs; simpa using this
theorem mutL_snd (i : Inv kd h b0 en ev σ B) {lo : Nat} {o : Od} {d : D} {us : List U} (r : ROd kd h en lo o d) (e : mutL ev σ o = some us) :
    ∃ n ds, d = .ref n ∧ h[n]? = some (.lst ds) ∧ ds.length ≤ LB ∧ RVs kd h ds us ∧ ∀ us' ds' Q, RVs kd h ds' us' → ds'.length ≤ LB → putL us' ev σ Q o →
      ∃ ev' σ', Q ev' σ' ∧ Inv kd (h.set n (.lst ds')) b0 en ev' σ' B ∧ Step kd h kd (h.set n (.lst ds')) ∧ Kp kd h kd (h.set n (.lst ds')) := by
  have store : ∀ m, RV kd h d (.ref m) → stL σ m = some us → ∃ n ds, d = .ref n ∧ h[n]? = some (.lst ds) ∧ ds.length ≤ LB ∧ RVs kd h ds us ∧ ∀ us' ds', RVs kd h ds' us' → ds'.length ≤ LB →
      Inv kd (h.set n (.lst ds')) b0 en ev (σ.set m (.lst us')) B ∧ Step kd h kd (h.set n (.lst ds')) ∧ Kp kd h kd (h.set n (.lst ds')) := by
    intro m rv e
    obtain ⟨n, ds, rfl, h1, l, t⟩ := RR.lst i.gl (w := .v (.ref m)) rv e
    cases rv with
    | ref hn =>
      exact ⟨n, ds, rfl, h1, l, t, fun us' ds' t' l' => ⟨i.hitSt hn h1 (.lst l' t'), step_hit i.gl.out (.inr ⟨m, hn⟩), (kp_hit (.inr ⟨m, hn⟩)).toKp⟩⟩
  match o, r, e with
  | .at j, r, e =>
    simp only [mutL] at e
    cases hw : evGet ev j with
    | none => rw [hw] at e; cases e
    | some w =>
      rw [hw] at e
      obtain ⟨d', g1, g2⟩ := i.sl j w hw
      have : d = d' := by have := (show en[j]? = some (some d) from r).symm.trans g1; cases this; rfl
      subst this
      match w, hw, g2, e with
      | .own xs, hw, ⟨n, ds, e1, e2, e3, e4, e5, e6⟩, e =>
        cases e
        subst e1
        refine ⟨n, ds, rfl, e4, e5, e6, fun us' ds' Q t' l' p => ?_⟩
        simp only [putL, hw] at p
        exact ⟨_, _, p, i.hitOwn hw g1 e2 ⟨n, ds', rfl, e2, e3, get_set e4, l', RVs.keep (kp_hit (.inl ⟨j, e2⟩)).toKp t'⟩, step_hit i.gl.out (.inl ⟨j, e2⟩), (kp_hit (.inl ⟨j, e2⟩)).toKp⟩
      | .v (.ref m), hw, rv, e =>
        obtain ⟨n, ds, a1, a2, a3, a4, a5⟩ := store m rv e
        refine ⟨n, ds, a1, a2, a3, a4, fun us' ds' Q t' l' p => ?_⟩
        simp only [putL, hw] at p
        exact ⟨_, _, p, a5 us' ds' t' l'⟩
  | .w (.v (.ref m)), r, e =>
    obtain ⟨n, ds, a1, a2, a3, a4, a5⟩ := store m r e
    exact ⟨n, ds, a1, a2, a3, a4, fun us' ds' Q t' l' p => ⟨_, _, p, a5 us' ds' t' l'⟩⟩
theorem mutD_sndH (i : Inv kd h b0 en ev σ B) {lo : Nat} {o : Od} {d : D} {us : List (Key × U)} (r : ROd kd h en lo o d) (e : mutD ev σ o = some us) :
    ∃ n ds, d = .ref n ∧ h[n]? = some (.dK ds) ∧ RK kd h ds us ∧ Hit (kd n) ∧ ∀ us' ds' Q, RK kd h ds' us' → putK us' ev σ Q o →
      ∃ ev' σ', Q ev' σ' ∧ Inv kd (h.set n (.dK ds')) b0 en ev' σ' B ∧ Step kd h kd (h.set n (.dK ds')) ∧ Kp kd h kd (h.set n (.dK ds')) := by
  have store : ∀ m, RV kd h d (.ref m) → stD σ m = some us → ∃ n ds, d = .ref n ∧ h[n]? = some (.dK ds) ∧ RK kd h ds us ∧ Hit (kd n) ∧ ∀ us' ds', RK kd h ds' us' →
      Inv kd (h.set n (.dK ds')) b0 en ev (σ.set m (.dK us')) B ∧ Step kd h kd (h.set n (.dK ds')) ∧ Kp kd h kd (h.set n (.dK ds')) := by
    intro m rv e
    obtain ⟨n, ds, rfl, h1, t⟩ := RR.dct i.gl (w := .v (.ref m)) rv e
    cases rv with
    | ref hn =>
      exact ⟨n, ds, rfl, h1, t, .inr ⟨m, hn⟩, fun us' ds' t' => ⟨i.hitSt hn h1 (.dK t'), step_hit i.gl.out (.inr ⟨m, hn⟩), (kp_hit (.inr ⟨m, hn⟩)).toKp⟩⟩
  match o, r, e with
  | .at j, r, e =>
    simp only [mutD] at e
    cases hw : evGet ev j with
    | none => rw [hw] at e; cases e
    | some w =>
      rw [hw] at e
      obtain ⟨d', g1, g2⟩ := i.sl j w hw
      have : d = d' := by have := (show en[j]? = some (some d) from r).symm.trans g1; cases this; rfl
      subst this
      match w, hw, g2, e with
      | .ownD xs, hw, ⟨n, ds, e1, e2, e3, e4, e6⟩, e =>
        cases e
        subst e1
        refine ⟨n, ds, rfl, e4, e6, .inl ⟨j, e2⟩, fun us' ds' Q t' p => ?_⟩
        simp only [putK, hw] at p
        exact ⟨_, _, p, i.hitOwn hw g1 e2 ⟨n, ds', rfl, e2, e3, get_set e4, RK.keep (kp_hit (.inl ⟨j, e2⟩)).toKp t'⟩, step_hit i.gl.out (.inl ⟨j, e2⟩), (kp_hit (.inl ⟨j, e2⟩)).toKp⟩
      | .v (.ref m), hw, rv, e =>
        obtain ⟨n, ds, a1, a2, a4, ah, a5⟩ := store m rv e
        refine ⟨n, ds, a1, a2, a4, ah, fun us' ds' Q t' p => ?_⟩
        simp only [putK, hw] at p
        exact ⟨_, _, p, a5 us' ds' t'⟩
  | .w (.v (.ref m)), r, e =>
    obtain ⟨n, ds, a1, a2, a4, ah, a5⟩ := store m r e
    exact ⟨n, ds, a1, a2, a4, ah, fun us' ds' Q t' p => ⟨_, _, p, a5 us' ds' t'⟩⟩
theorem mutD_snd (i : Inv kd h b0 en ev σ B) {lo : Nat} {o : Od} {d : D} {us : List (Key × U)} (r : ROd kd h en lo o d) (e : mutD ev σ o = some us) :
    ∃ n ds, d = .ref n ∧ h[n]? = some (.dK ds) ∧ RK kd h ds us ∧ ∀ us' ds' Q, RK kd h ds' us' → putK us' ev σ Q o →
      ∃ ev' σ', Q ev' σ' ∧ Inv kd (h.set n (.dK ds')) b0 en ev' σ' B ∧ Step kd h kd (h.set n (.dK ds')) ∧ Kp kd h kd (h.set n (.dK ds')) := by
  obtain ⟨n, ds, a, b, c, _, q⟩ := mutD_sndH i r e
  exact ⟨n, ds, a, b, c, q⟩
theorem umTy_snd (i : Inv kd h b0 en ev σ B) {lo : Nat} {m : Mt} {o : Od} {d : D} (r : ROd kd h en lo o d) (x : umTy m o ev σ) : mtTy m d h := by
  cases m with
  | get2 =>
    obtain ⟨w, kvs, e1, e2⟩ := x
    obtain ⟨n, ks, rfl, h1, t⟩ := (r.rr i e1).dct i.gl e2
    exact ⟨ks, h1⟩
  | get1 =>
    obtain ⟨w, kvs, e1, e2⟩ := x
    obtain ⟨n, ks, rfl, h1, t⟩ := (r.rr i e1).dct i.gl e2
    exact ⟨ks, h1⟩
  | dpop2 =>
    obtain ⟨kvs, e⟩ := x
    obtain ⟨n, ds, rfl, h1, _⟩ := mutD_snd i r e
    exact ⟨ds, h1⟩
  | setdef =>
    obtain ⟨kvs, e⟩ := x
    obtain ⟨n, ds, rfl, h1, _⟩ := mutD_snd i r e
    exact ⟨ds, h1⟩
  | update =>
    obtain ⟨kvs, e⟩ := x
    obtain ⟨n, ds, rfl, h1, _⟩ := mutD_snd i r e
    exact ⟨ds, h1⟩
  | index =>
    obtain ⟨w, us, e1, e2⟩ := x
    obtain ⟨n, ds, rfl, h1, _⟩ := (r.rr i e1).lst i.gl e2
    exact ⟨ds, h1⟩
  | join =>
    obtain ⟨a, e1⟩ := x
    have := r.rr i e1
    cases this; trivial
  | _ =>
    obtain ⟨us, e⟩ := x
    obtain ⟨n, ds, rfl, h1, _⟩ := mutL_snd i r e
    exact ⟨ds, h1⟩
/-- what a method comes to -/
abbrev MtK (kd : Km) (h : Hh) (b0 : Nat) (en : En) (B : Nat) (R : Qw) (Q : Qd) : Prop := ∀ r h' w ev' σ', R w ev' σ' → Inv kd h' b0 en ev' σ' B → Step kd h kd h' → RW kd h' .free h.length w r → Q r h'
theorem uMt_snd (i : Inv kd h b0 en ev σ B) {lo : Nat} {m : Mt} {o : Od} {d : D} {us : List U} {ds : List D} {R : Qw} {Q : Qd} (r : ROd kd h en lo o d) (rs : RVs kd h ds us) (x : uMt m o us ev σ R) (k : MtK kd h b0 en B R Q) : wMt m d ds h Q := by
  have one : ∀ {u : U}, us = [u] → ∃ y, ds = [y] ∧ RV kd h y u := by
    rintro u rfl
    cases rs with
    | cons r t => cases t; exact ⟨_, rfl, r⟩
  have two : ∀ {u v : U}, us = [u, v] → ∃ y z, ds = [y, z] ∧ RV kd h y u ∧ RV kd h z v := by
    rintro u v rfl
    cases rs with
    | cons r t => cases t with
      | cons s t => cases t; exact ⟨_, _, rfl, r, s⟩
  have nil : us = [] → ds = [] := by
    rintro rfl; cases rs; rfl
  have ext : ∀ {u : U} {y : D}, RV kd h y u → uMt .extend o [u] ev σ R → wMt .extend d [y] h Q := by
    intro u y ry x
    obtain ⟨xs, vs, e, e2, l, x⟩ := x
    obtain ⟨n, zs, rfl, h1, l1, t, kk⟩ := mutL_snd i r e
    have lt := t.len
    have nont : (∀ us, u ≠ .tup us) → wMt .extend (.ref n) [y] h Q := fun hnt => by
      have e3 : wlst σ (.v u) = some vs := by
        cases u <;> first | exact e2 | exact absurd rfl (hnt _)
      obtain ⟨n2, ws, rfl, h2, l2, t2⟩ := RR.lst i.gl (w := .v _) ry e3
      have lt2 := t2.len
      obtain ⟨ev', σ', q, i', s', _⟩ := kk _ (zs ++ ws) _ (t.append t2) (by simp [lt, lt2]; unfold LB; omega) x
      exact ⟨zs, ws, h1, h2, by omega, k _ _ _ _ _ q i' s' .non⟩
    cases u with
    | tup us2 =>
      cases e2
      cases ry with
      | tup _ t2 =>
        have lt2 := t2.len
        obtain ⟨ev', σ', q, i', s', _⟩ := kk _ (zs ++ _) _ (t.append t2) (by simp [lt, lt2]; unfold LB; omega) x
        exact ⟨zs, h1, by omega, k _ _ _ _ _ q i' s' .non⟩
    | _ => exact nont fun _ => nofun
  unfold uMt at x
  split at x
  · obtain ⟨y, rfl, ry⟩ := one rfl
    obtain ⟨xs, e, l, x⟩ := x
    obtain ⟨n, zs, rfl, h1, l1, t, kk⟩ := mutL_snd i r e
    have lt := t.len
    obtain ⟨ev', σ', q, i', s', _⟩ := kk _ (zs ++ [y]) _ (t.append (.cons ry .nil)) (by simp [lt]; unfold LB; omega) x
    exact ⟨zs, h1, by omega, k _ _ _ _ _ q i' s' .non⟩
  · obtain ⟨y, rfl, ry⟩ := one rfl
    exact ext ry x
  · have := nil rfl
    subst this
    obtain ⟨xs, u, e, e2, x⟩ := x
    obtain ⟨n, zs, rfl, h1, l1, t, kk⟩ := mutL_snd i r e
    obtain ⟨y, g1, g2⟩ := t.al.get e2
    obtain ⟨ev', σ', q, i', s', k'⟩ := kk _ zs.dropLast _ t.al.dropLast.rv (by simp; omega) x
    exact ⟨zs, y, h1, by rw [t.len]; exact g1, k _ _ _ _ _ q i' s' (RV.keep k' g2)⟩
  · obtain ⟨y, rfl, ry⟩ := one rfl
    cases ry
    obtain ⟨xs, j, u, e, l, l', e2, e3, x⟩ := x
    obtain ⟨n, zs, rfl, h1, l1, t, kk⟩ := mutL_snd i r e
    obtain ⟨y, g1, g2⟩ := t.al.get e3
    obtain ⟨ev', σ', q, i', s', k'⟩ := kk _ (zs.eraseIdx j) _ (t.al.erase j).rv (by have := List.length_eraseIdx_le zs j; omega) x
    exact ⟨zs, j, y, h1, l, l', by rw [t.len]; exact e2, g1, k _ _ _ _ _ q i' s' (RV.keep k' g2)⟩
  · have := nil rfl
    subst this
    obtain ⟨xs, e, x⟩ := x
    obtain ⟨n, zs, rfl, h1, l1, t, kk⟩ := mutL_snd i r e
    obtain ⟨ev', σ', q, i', s', k'⟩ := kk _ zs.reverse _ t.al.reverse.rv (by simpa using l1) x
    exact ⟨zs, h1, k _ _ _ _ _ q i' s' .non⟩
  · have := nil rfl
    subst this
    obtain ⟨xs, e, x⟩ := x
    obtain ⟨n, zs, rfl, h1, l1, t, kk⟩ := mutL_snd i r e
    obtain ⟨ev', σ', q, i', s', k'⟩ := kk _ [] _ .nil (by simp) x
    exact ⟨zs, h1, k _ _ _ _ _ q i' s' .non⟩
  · obtain ⟨y, z, rfl, ry, rz⟩ := two rfl
    cases ry
    rename_i j u
    obtain ⟨xs, e, l, l', l2, x⟩ := x
    obtain ⟨n, zs, rfl, h1, l1, t, kk⟩ := mutL_snd i r e
    have lt := t.len
    obtain ⟨ev', σ', q, i', s', k'⟩ := kk _ (zs.take j.toNat ++ z :: zs.drop j.toNat) _ ((t.al.take _).append (.cons rz (t.al.drop _))).rv (by simp; unfold LB; omega) x
    exact ⟨zs, h1, l, by omega, by omega, k _ _ _ _ _ q i' s' .non⟩
  · obtain ⟨y, rfl, ry⟩ := one rfl
    obtain ⟨w, xs, j, y', e1, e2, fx, fxs, hy, hyx, hno, x⟩ := x
    obtain ⟨n, zs, rfl, h1, l1, t⟩ := (r.rr i e1).lst i.gl e2
    obtain ⟨z, g1, g2⟩ := t.al.get hy
    refine ⟨zs, j, z, .inl h1, ry.flat.trans fx, (RVs.allFlat t).trans fxs, g1, (g2.eqd ry (List.all_eq_true.mp fxs _ (List.mem_of_getElem? hy)) fx).trans hyx, fun m d' hm hd' => ?_, k _ _ _ _ _ x i (Step.refl i.gl.out) (.int _)⟩
    obtain ⟨u', hu', ru'⟩ := t.al.get2 hd'
    exact (ru'.eqd ry (List.all_eq_true.mp fxs _ (List.mem_of_getElem? hu')) fx).trans (hno m u' hm hu')
  · obtain ⟨y, rfl, ry⟩ := one rfl
    obtain ⟨xs, j, y', e, fx, fxs, hy, hyx, hno, x⟩ := x
    obtain ⟨n, zs, rfl, h1, l1, t, kk⟩ := mutL_snd i r e
    obtain ⟨z, g1, g2⟩ := t.al.get hy
    obtain ⟨ev', σ', q, i', s', k'⟩ := kk _ (zs.eraseIdx j) _ (t.al.erase j).rv (by have := List.length_eraseIdx_le zs j; omega) x
    refine ⟨zs, j, z, h1, ry.flat.trans fx, (RVs.allFlat t).trans fxs, g1, (g2.eqd ry (List.all_eq_true.mp fxs _ (List.mem_of_getElem? hy)) fx).trans hyx, fun m d' hm hd' => ?_, k _ _ _ _ _ q i' s' .non⟩
    obtain ⟨u', hu', ru'⟩ := t.al.get2 hd'
    exact (ru'.eqd ry (List.all_eq_true.mp fxs _ (List.mem_of_getElem? hu')) fx).trans (hno m u' hm hu')
  · obtain ⟨y, rfl, ry⟩ := one rfl
    obtain ⟨a, e1, ss, e2, hl, x⟩ := x
    have ra := r.rr i e1
    obtain ⟨n, zs, rfl, h1, l1, t⟩ := RR.lst i.gl (w := .v _) ry e2
    cases ra
    rw [RVs.strs_of t] at h1
    exact ⟨ss, h1, hl, k _ _ _ _ _ x i (Step.refl i.gl.out) (.str _)⟩
  · obtain ⟨y, z, rfl, ry, rz⟩ := two rfl
    obtain ⟨w, kvs, key, e1, e2, e3, x⟩ := x
    obtain ⟨n, ks, rfl, h1, t⟩ := (r.rr i e1).dct i.gl e2
    refine ⟨ks, key, .inl h1, ry.key.trans e3, k _ _ _ _ _ x i (Step.refl i.gl.out) ?_⟩
    rcases RK.get key t with ⟨d', u', f1, f2, rv⟩ | ⟨f1, f2⟩
    · rw [f1, f2]; exact rv
    · rw [f1, f2]; exact rz
  · obtain ⟨y, rfl, ry⟩ := one rfl
    obtain ⟨w, kvs, key, e1, e2, e3, x⟩ := x
    obtain ⟨n, ks, rfl, h1, t⟩ := (r.rr i e1).dct i.gl e2
    refine ⟨ks, key, .inl h1, ry.key.trans e3, k _ _ _ _ _ x i (Step.refl i.gl.out) ?_⟩
    rcases RK.get key t with ⟨d', u', f1, f2, rv⟩ | ⟨f1, f2⟩
    · rw [f1, f2]; exact rv
    · rw [f1, f2]; exact .non
  · obtain ⟨y, z, rfl, ry, rz⟩ := two rfl
    obtain ⟨kvs, key, e, e3, x1, x2⟩ := x
    obtain ⟨n, ks, rfl, h1, t, kk⟩ := mutD_snd i r e
    refine ⟨ks, key, h1, ry.key.trans e3, fun v hv => ?_, fun hn => ?_⟩
    · rcases RK.get key t with ⟨d', u', f1, f2, rv⟩ | ⟨f1, f2⟩
      · rw [hv] at f1; cases f1
        obtain ⟨ev', σ', q, i', s', k'⟩ := kk _ (dropD ks key) _ t.drop (x1 u' f2)
        exact k _ _ _ _ _ q i' s' (RV.keep k' rv)
      · rw [hv] at f1; cases f1
    · rcases RK.get key t with ⟨d', u', f1, f2, rv⟩ | ⟨f1, f2⟩
      · rw [hn] at f1; cases f1
      · exact k _ _ _ _ _ (x2 f2) i (Step.refl i.gl.out) rz
  · obtain ⟨y, z, rfl, ry, rz⟩ := two rfl
    obtain ⟨kvs, key, e, e3, hl, x1, x2⟩ := x
    obtain ⟨n, ks, rfl, h1, t, kk⟩ := mutD_snd i r e
    refine ⟨ks, key, h1, ry.key.trans e3, by rw [t.al.len]; exact hl, fun v hv => ?_, fun hn => ?_⟩
    · rcases RK.get key t with ⟨d', u', f1, f2, rv⟩ | ⟨f1, f2⟩
      · rw [hv] at f1; cases f1
        exact k _ _ _ _ _ (x1 u' f2) i (Step.refl i.gl.out) rv
      · rw [hv] at f1; cases f1
    · rcases RK.get key t with ⟨d', u', f1, f2, rv⟩ | ⟨f1, f2⟩
      · rw [hn] at f1; cases f1
      · obtain ⟨ev', σ', q, i', s', k'⟩ := kk _ (putD ks key z) _ (t.put rz) (x2 f2)
        exact k _ _ _ _ _ q i' s' (RV.keep k' rz)
  · obtain ⟨y, rfl, ry⟩ := one rfl
    obtain ⟨kvs, e, hl, x⟩ := x
    obtain ⟨n, ks, rfl, h1, t, hit, kk⟩ := mutD_sndH i r e
    cases ry with
    | vd fz h2 t2 =>
      obtain ⟨ev', σ', q, i', s', _⟩ := kk _ (mergeD ks _) _ (RK.merge t t2) x
      exact ⟨ks, _, hit.ne fz nh_frz, h1, h2, by rw [t.al.len, t2.al.len]; exact hl, k _ _ _ _ _ q i' s' .non⟩
  · exact x.elim
end
end Bp

namespace Bp
open PySem L2
def LIM : Nat := 2 ^ 100000
section
variable {kd kd' kd1 : Km} {h h' h1 : Hh} {σ : Us} {B B1 b0 : Nat} {en : En} {ev : Ev}
def KE (kd : Km) (h : Hh) (b0 : Nat) (en : En) (B : Nat) (Q : Qw) (Q' : Qd) : Prop :=
  ∀ kd' h' d w ev' σ', Inv kd' h' b0 en ev' σ' B → RW kd' h' .free h.length w d → Step kd h kd' h' → Q w ev' σ' → Q' d h'
def KX (kd : Km) (h : Hh) (b0 : Nat) (en : En) (B : Nat) (X : Xu) (X' : Xq) : Prop :=
  ∀ kd' h' c r ru ev' σ', Inv kd' h' b0 en ev' σ' B → Step kd h kd' h' → RX kd' h' r ru → X c ru ev' σ' → X' c r h'
theorem KX.step {X : Xu} {X' : Xq} (k : KX kd h b0 en B X X') (s : Step kd h kd1 h1) (l : B1 ≤ B) : KX kd1 h1 b0 en B1 X X' :=
  fun kd' h' c r ru ev' σ' i s' rx x => k kd' h' c r ru ev' σ' (i.up l) (s.trans s') rx x
theorem KX.none {X : Xu} {X' : Xq} (n : ∀ c r e s, ¬ X c r e s) : KX kd h b0 en B X X' :=
  fun kd' h' c r ru ev' σ' i s' rx x => absurd x (n _ _ _ _)

/-- calls beside one another -/
structure FsOk (C : Cn) (Cu : Cu) (κ : Nat) : Prop where
  gl : C.gl = Cu.gl
  isf : C.isf = Cu.isf
  td : C.td = Cu.td
  fl : C.fl = Cu.fl
  mtk : C.mtk = Cu.mtk
  sb : C.sb = Cu.sb
  xk : C.xk = Cu.xk
  fh : ∀ f us σ Q kd h ds B Q', Cu.fh f us σ Q → Glob kd h σ B → RVs kd h ds us → B + κ ≤ LIM →
    (∀ kd' h' d w σ', Glob kd' h' σ' (B + κ) → RW kd' h' .free h.length w d → Step kd h kd' h' → Q w σ' → Q' d h') → C.fh f ds h Q'
  fs : ∀ f us σ Q X kd h ds B Q' X', Cu.fs f us σ Q X → Glob kd h σ B → RVs kd h ds us → B + κ ≤ LIM →
    (∀ kd' h' d w σ', Glob kd' h' σ' (B + κ) → RW kd' h' .free h.length w d → Step kd h kd' h' → Q w σ' → Q' d h') →
    (∀ kd' h' c r ru σ', Glob kd' h' σ' (B + κ) → Step kd h kd' h' → RX kd' h' r ru → X c ru σ' → X' c r h') → C.fs f ds h Q' X'
end
section
variable (C : Cn) (Cu : Cu) (κ : Nat)
def SE (a : E) : Prop := ∀ X ev σ Q kd h b0 en B X' Q', vpE Cu a X ev σ Q → Inv kd h b0 en ev σ B → B + cE κ a ≤ LIM → KE kd h b0 en (B + cE κ a) Q Q' → KX kd h b0 en (B + cE κ a) X X' → wpE C a X' en h Q'
def SD (a : E) : Prop := ∀ X ev σ k kd h b0 en B X' Q', opd a ev σ (vpE Cu a X ev σ) k → Inv kd h b0 en ev σ B → B + cE κ a ≤ LIM →
  (∀ kd' h' d o ev' σ', Inv kd' h' b0 en ev' σ' (B + cE κ a) → ROd kd' h' en h.length o d → Step kd h kd' h' → k o ev' σ' → Q' d h') → KX kd h b0 en (B + cE κ a) X X' → wpE C a X' en h Q'
/-- a thing, frozen at once -/
def SL (a : E) : Prop := ∀ X ev σ (k : U → Ev → Us → Prop) kd h b0 en B X' Q', vpE Cu a X ev σ (fun w => k (frzU w)) → Inv kd h b0 en ev σ B → B + cE κ a ≤ LIM →
  (∀ kd' h' d u ev' σ', Inv kd' h' b0 en ev' σ' (B + cE κ a) → RV kd' h' d u → Step kd h kd' h' → k u ev' σ' → Q' d h') → KX kd h b0 en (B + cE κ a) X X' → wpE C a X' en h Q'
def SLs (es : Es) : Prop := ∀ X ev σ k kd h b0 en B X' Q', vpLs Cu es X ev σ k → Inv kd h b0 en ev σ B → B + cEs κ es ≤ LIM →
  (∀ kd' h' ds us ev' σ', Inv kd' h' b0 en ev' σ' (B + cEs κ es) → RVs kd' h' ds us → Step kd h kd' h' → k us ev' σ' → Q' ds h') → KX kd h b0 en (B + cEs κ es) X X' → wpEs C es X' en h Q'
def SDs (es : Es) : Prop := ∀ X ev σ k kd h b0 en B X' Q', vpDs Cu es X ev σ k → Inv kd h b0 en ev σ B → B + cEs κ es ≤ LIM →
  (∀ kd' h' ds os ev' σ', Inv kd' h' b0 en ev' σ' (B + cEs κ es) → ROds kd' h' en h.length os ds → Step kd h kd' h' → k os ev' σ' → Q' ds h') → KX kd h b0 en (B + cEs κ es) X X' → wpEs C es X' en h Q'
def SB (es : Es) : Prop := ∀ b X ev σ Q kd h b0 en B X' Q', vpB Cu b es X ev σ Q → Inv kd h b0 en ev σ B → B + cEs κ es ≤ LIM → KE kd h b0 en (B + cEs κ es) Q Q' → KX kd h b0 en (B + cEs κ es) X X' → wpB C b es X' en h Q'
def SOe (a : Oe) : Prop := ∀ X ev σ k kd h b0 en B X' Q', vpO Cu a X ev σ k → Inv kd h b0 en ev σ B → B + cO κ a ≤ LIM →
  (∀ kd' h' i ev' σ', Inv kd' h' b0 en ev' σ' (B + cO κ a) → Step kd h kd' h' → k i ev' σ' → Q' i h') → KX kd h b0 en (B + cO κ a) X X' → wpO C a X' en h Q'
def SC (a : Oe) : Prop := ∀ X ev σ k kd h b0 en B X' Q', vpC Cu a X ev σ k → Inv kd h b0 en ev σ B → B + cO κ a ≤ LIM →
  (∀ kd' h' i ev' σ', Inv kd' h' b0 en ev' σ' (B + cO κ a) → Step kd h kd' h' → k i ev' σ' → Q' i h') → KX kd h b0 en (B + cO κ a) X X' → wpC C a X' en h Q'
/-- what is walked beside one another -/
structure RS (kd : Km) (h : Hh) (s : Src) (u : Sr) : Prop where
  items : RVs kd h s.items u.items
  len : s.items.length ≤ LB
  ok : ∀ kd' h' σ' B', Step kd h kd' h' → Glob kd' h' σ' B' → u.ok σ' → s.ok h'
def SIv (a : Iv) : Prop := ∀ X ev σ k kd h b0 en B X' Q', vpI Cu a X ev σ k → Inv kd h b0 en ev σ B → B + cI κ a ≤ LIM →
  (∀ kd' h' s u ev' σ', Inv kd' h' b0 en ev' σ' (B + cI κ a) → RS kd' h' s u → Step kd h kd' h' → k u ev' σ' → Q' s h') → KX kd h b0 en (B + cI κ a) X X' → wpI C a X' en h Q'
def SG (t : Tg) : Prop := ∀ ev σ Q kd0 h0 kd h b0 en B X' Q' w d lo, vpG Cu t (fun _ _ _ _ => False) w ev σ Q → Inv kd h b0 en ev σ B → RW kd h .free lo w d → b0 ≤ lo → h0.length ≤ lo → lo ≤ h.length → Step kd0 h0 kd h → B + cG κ t ≤ LIM →
  (∀ kd' h' en' ev' σ', Inv kd' h' b0 en' ev' σ' (B + cG κ t) → Step kd0 h0 kd' h' → en'.length = en.length → (∀ j, memN j (tgSl t) = false → en'[j]? = en[j]?) → Q ev' σ' → Q' en' h') → wpG C t X' d en h Q'
def SGs (ts : Tgs) : Prop := ∀ ev σ Q kd0 h0 kd h b0 en B X' Q' us ds, vpGs Cu ts (fun _ _ _ _ => False) us ev σ Q → Inv kd h b0 en ev σ B → RVs kd h ds us → b0 ≤ h.length → h0.length ≤ h.length → Step kd0 h0 kd h → B + cGs κ ts ≤ LIM →
  (∀ kd' h' en' ev' σ', Inv kd' h' b0 en' ev' σ' (B + cGs κ ts) → Step kd0 h0 kd' h' → en'.length = en.length → (∀ j, memN j (tgsSl ts) = false → en'[j]? = en[j]?) → Q ev' σ' → Q' en' h') → wpGs C ts X' ds en h Q'
end
section
variable {C : Cn} {Cu : Cu} {κ : Nat}
theorem KE.step {kd kd1 : Km} {h h1 : Hh} {b0 B B1 : Nat} {en : En} {Q : Qw} {Q' : Qd} (k : KE kd h b0 en B Q Q') (s : Step kd h kd1 h1) (l : B1 ≤ B) : KE kd1 h1 b0 en B1 Q Q' :=
  fun kd' h' d w ev' σ' i r s' q => k kd' h' d w ev' σ' (i.up l) (r.lower s.len) (s.trans s') q
/-- a plain value, told at once -/
theorem KE.now {kd : Km} {h : Hh} {b0 B B1 : Nat} {en : En} {ev : Ev} {σ : Us} {Q : Qw} {Q' : Qd} (k : KE kd h b0 en B Q Q') (i : Inv kd h b0 en ev σ B1) (l : B1 ≤ B) {d : D} {u : U} (r : RV kd h d u) (q : Q (.v u) ev σ) : Q' d h :=
  k kd h d (.v u) ev σ (i.up l) r (Step.refl i.gl.out) q
/-- what an operation comes to, told -/
theorem KE.op {kd : Km} {h : Hh} {b0 B B1 : Nat} {en : En} {ev : Ev} {σ : Us} {Q : Qw} {Q' : Qd} (k : KE kd h b0 en B Q Q') (i : Inv kd h b0 en ev σ B1) (l : B1 ≤ B) : OpK kd h (fun w => Q w ev σ) Q' := by
  rintro r h' w q (rfl | ⟨o, rfl⟩) rw
  · exact k kd _ r w ev σ (i.up l) rw (Step.refl i.gl.out) q
  · exact k kd _ r w ev σ (i.new.up l) rw (Step.refl i.gl.out).new q
theorem sd {a : E} (ha : SE C Cu κ a) : SD C Cu κ a := by
  intro X ev σ k kd h b0 en B X' Q' v i l kk kx
  unfold opd at v
  cases hv : isVar a with
  | none =>
    rw [hv] at v
    exact ha _ _ _ _ _ _ _ _ _ _ _ v i l (fun kd' h' d w ev' σ' i' r s q => kk kd' h' d (.w w) ev' σ' i' r s q) kx
  | some j =>
    rw [hv] at v
    obtain ⟨w, e, q⟩ := v
    cases a with
    | var j' =>
      cases hv
      obtain ⟨d, g1, g2⟩ := i.sl j w e
      exact ⟨d, g1, kk kd h d (.at j) ev σ (i.up (Nat.le_add_right _ _)) g1 (Step.refl i.gl.out) q⟩
    | _ => cases hv
theorem sl {a : E} (ha : SE C Cu κ a) : SL C Cu κ a := by
  intro X ev σ k kd h b0 en B X' Q' v i l kk kx
  refine ha _ _ _ _ _ _ _ _ _ _ _ v i l (fun kd' h' d w ev' σ' i' r s q => ?_) kx
  obtain ⟨kd2, i2, s2, r2, _, _⟩ := i'.freeze r s (Nat.le_refl _)
  exact kk kd2 h' d _ ev' σ' i2 r2 s2 q
end
end Bp

namespace Bp
open PySem L2
mutual
theorem dU_rv {kd : Km} {h : Hh} : ∀ (d : D) {u : U}, dU d = some u → RV kd h d u
  | .non, _, e => by simp only [dU] at e; cases e; exact .non
  | .bl _, _, e => by simp only [dU] at e; cases e; exact .bl _
  | .int _, _, e => by simp only [dU] at e; cases e; exact .int _
  | .str _, _, e => by simp only [dU] at e; cases e; exact .str _
  | .tup ds, _, e => by
    simp only [dU] at e
    split at e
    · rename_i hl
      rw [Option.map_eq_some_iff] at e
      obtain ⟨us, e1, rfl⟩ := e
      exact .tup (by unfold LB; omega) (dUs_rv ds e1)
    · cases e
  | .ref _, _, e => by simp only [dU] at e; cases e
theorem dUs_rv {kd : Km} {h : Hh} : ∀ (ds : List D) {us : List U}, dUs ds = some us → RVs kd h ds us
  | [], _, e => by simp only [dUs] at e; cases e; exact .nil
  | d :: ds, _, e => by
    simp only [dUs] at e
    cases h1 : dU d with
    | none => rw [h1] at e; cases e
    | some u =>
      cases h2 : dUs ds with
      | none => rw [h1, h2] at e; cases e
      | some us =>
        rw [h1, h2] at e; cases e
        exact .cons (dU_rv d h1) (dUs_rv ds h2)
end
section
variable {C : Cn} {Cu : Cu} {κ : Nat} (F : FsOk C Cu κ)
theorem KX.less {kd : Km} {h : Hh} {b0 B B1 : Nat} {en : En} {X : Xu} {X' : Xq} (k : KX kd h b0 en B X X') (l : B1 ≤ B) : KX kd h b0 en B1 X X' :=
  fun kd' h' c r ru ev' σ' i s' rx x => k kd' h' c r ru ev' σ' (i.up l) s' rx x
theorem truM {σ : Us} {p : W} {R R' : Bool → Prop} (im : ∀ b, R b → R' b) (x : truW σ R p) : truW σ R' p := by
  rcases p with u | us | us
  · cases u <;> first | exact im _ x | exact ⟨x.1, im _ x.2⟩ | exact x.elim | (
      rcases x with ⟨us, a, b⟩ | ⟨us, a, b⟩
      · exact .inl ⟨us, a, im _ b⟩
      · exact .inr ⟨us, a, im _ b⟩)
  · exact im _ x
  · exact im _ x
theorem uEqM {d e : U} {R R' : Bool → Prop} (im : ∀ b, R b → R' b) (x : uEq d e R) : uEq d e R' := by
  cases d <;> cases e <;> first | exact im _ x | (obtain ⟨p, q, a1, a2, a3, a4, a5⟩ := x; exact ⟨p, q, a1, a2, a3, a4, im _ a5⟩)
theorem uInDM {d : U} {e : W} {σ : Us} {R R' : Bool → Prop} (im : ∀ b, R b → R' b) (x : uInD d e σ R) : uInD d e σ R' := by
  obtain ⟨us, p, ps, a1, a2, a3, a4, a5, a6⟩ := x
  exact ⟨us, p, ps, a1, a2, a3, a4, a5, im _ a6⟩
theorem uInM {d : U} {e : W} {σ : Us} {R R' : Bool → Prop} (im : ∀ b, R b → R' b) (x : uIn d e σ R) : uIn d e σ R' := by
  by_cases hz : ∃ z, e = .v (.str z)
  · obtain ⟨z, rfl⟩ := hz
    obtain ⟨s, a1, a2⟩ := x; exact ⟨s, a1, im _ a2⟩
  · have q : (∃ us, wels σ e = some us ∧ flatU d = true ∧ us.all flatU = true ∧ R (us.any fun y => eqU y d)) ∨ (∃ kvs k, wdct σ e = some kvs ∧ keyU d = some k ∧ R (getU kvs k).isSome) ∨ uInD d e σ R := by
      unfold uIn at x
      split at x
      · exact absurd ⟨_, rfl⟩ hz
      · exact x
    unfold uIn
    split
    · exact absurd ⟨_, rfl⟩ hz
    · rcases q with ⟨us, a1, a2, a3, a4⟩ | ⟨kvs, kk, a1, a2, a3⟩ | q
      · exact .inl ⟨us, a1, a2, a3, im _ a4⟩
      · exact .inr (.inl ⟨kvs, kk, a1, a2, im _ a3⟩)
      · exact .inr (.inr (uInDM im q))
theorem uCoM {o : Co} {p q : W} {s2 : Us} {R R' : Bool → Prop} (im : ∀ b, R b → R' b) (x : uCo o p q s2 R) : uCo o p q s2 R' := by
  cases o with
  | eq => exact uEqM im x
  | ne => exact uEqM (R := fun b => R (!b)) (R' := fun b => R' (!b)) (fun b => im _) x
  | deq => obtain ⟨a, b, a1, a2, a3, a4, a5⟩ := x; exact ⟨a, b, a1, a2, a3, a4, im _ a5⟩
  | dne => obtain ⟨a, b, a1, a2, a3, a4, a5⟩ := x; exact ⟨a, b, a1, a2, a3, a4, im _ a5⟩
  | isin => rcases p with u | us | us <;> first | exact uInM im x | exact uInDM im x | exact x.elim
  | notin => rcases p with u | us | us <;> first | exact uInM (R := fun b => R (!b)) (R' := fun b => R' (!b)) (fun b => im _) x | exact uInDM (R := fun b => R (!b)) (R' := fun b => R' (!b)) (fun b => im _) x | exact x.elim
  | is => rcases q with v | _ | _ <;> first | exact x.elim | (cases v <;> first | exact im _ x | exact x.elim)
  | isnot => rcases q with v | _ | _ <;> first | exact x.elim | (cases v <;> first | exact im _ x | exact x.elim)
  | lt => rcases p with u | _ | _ <;> rcases q with v | _ | _ <;> first | exact x.elim | (cases u <;> cases v <;> first | exact im _ x | exact x.elim | (obtain ⟨p, q, a1, a2, a3, a4, a5, a6⟩ := x; exact ⟨p, q, a1, a2, a3, a4, a5, im _ a6⟩)) | (cases u <;> exact x.elim)
  | le => rcases p with u | _ | _ <;> rcases q with v | _ | _ <;> first | exact x.elim | (cases u <;> cases v <;> first | exact im _ x | exact x.elim) | (cases u <;> exact x.elim)
  | gt => rcases p with u | _ | _ <;> rcases q with v | _ | _ <;> first | exact x.elim | (cases u <;> cases v <;> first | exact im _ x | exact x.elim) | (cases u <;> exact x.elim)
  | ge => rcases p with u | _ | _ <;> rcases q with v | _ | _ <;> first | exact x.elim | (cases u <;> cases v <;> first | exact im _ x | exact x.elim) | (cases u <;> exact x.elim)
theorem se_var {j : Nat} : SE C Cu κ (.var j) := by
  intro X ev σ Q kd h b0 en B X' Q' v i l k kx
  obtain ⟨w, e, q⟩ := v
  obtain ⟨kd', d, g1, i', s', r⟩ := i.frzSlot e
  exact ⟨d, g1, k kd' h d (.v (frzU w)) _ σ (i'.up (Nat.le_add_right _ _)) r s' q⟩
theorem se_non : SE C Cu κ .non := fun X ev σ Q kd h b0 en B X' Q' v i l k kx => k.now i (Nat.le_add_right _ _) .non v
theorem se_bl {b : Bool} : SE C Cu κ (.bl b) := fun X ev σ Q kd h b0 en B X' Q' v i l k kx => k.now i (Nat.le_add_right _ _) (.bl b) v
theorem se_int {b : Int} : SE C Cu κ (.int b) := fun X ev σ Q kd h b0 en B X' Q' v i l k kx => k.now i (Nat.le_add_right _ _) (.int b) v
theorem se_str {b : Str} : SE C Cu κ (.str b) := fun X ev σ Q kd h b0 en B X' Q' v i l k kx => k.now i (Nat.le_add_right _ _) (.str b) v
include F in
theorem se_glob {x : Str} : SE C Cu κ (.glob x) := by
  intro X ev σ Q kd h b0 en B X' Q' v i l k kx
  obtain ⟨d, u, e1, e2, q⟩ := v
  exact ⟨d, by rw [F.gl]; exact e1, k.now i (Nat.le_add_right _ _) (dU_rv d e2) q⟩
theorem se_bin {o : Bo} {a b : E} (ha : SE C Cu κ a) (hb : SE C Cu κ b) : SE C Cu κ (.bin o a b) := by
  intro X ev σ Q kd h b0 en B X' Q' v i l k kx
  have hc : cE κ (.bin o a b) = cE κ a + cE κ b := rfl
  rw [hc] at l k kx
  refine sd ha _ _ _ _ _ _ _ _ _ _ _ v i (by omega) (fun kd1 h1 d1 x e1 s1 i1 r1 t1 v1 => ?_) (kx.less (by omega))
  refine sd hb _ _ _ _ _ _ _ _ _ _ _ v1 i1 (by omega) (fun kd2 h2 d2 y e2 s2 i2 r2 t2 v2 => ?_) (kx.step t1 (by omega))
  obtain ⟨p, q, g1, g2, v3⟩ := v2
  exact uBo_snd i2.gl ((r1.step t2).rr i2 g1) (r2.rr i2 g2) v3 ((k.step (t1.trans t2) (Nat.le_refl _)).op i2 (by omega))
theorem se_cmp {o : Co} {a b : E} (ha : SE C Cu κ a) (hb : SE C Cu κ b) : SE C Cu κ (.cmp o a b) := by
  intro X ev σ Q kd h b0 en B X' Q' v i l k kx
  have hc : cE κ (.cmp o a b) = cE κ a + cE κ b := rfl
  rw [hc] at l k kx
  refine sd ha _ _ _ _ _ _ _ _ _ _ _ v i (by omega) (fun kd1 h1 d1 x e1 s1 i1 r1 t1 v1 => ?_) (kx.less (by omega))
  refine sd hb _ _ _ _ _ _ _ _ _ _ _ v1 i1 (by omega) (fun kd2 h2 d2 y e2 s2 i2 r2 t2 v2 => ?_) (kx.step t1 (by omega))
  obtain ⟨p, q, g1, g2, v3⟩ := v2
  refine uCo_snd (Q := fun r => Q' (.bl r) h2) i2.gl ((r1.step t2).rr i2 g1) (r2.rr i2 g2) ?_
  exact uCoM (fun r q => (k.step (t1.trans t2) (Nat.le_refl _)).now i2 (by omega) (.bl r) q) v3
theorem se_neg {a : E} (ha : SE C Cu κ a) : SE C Cu κ (.neg a) := by
  intro X ev σ Q kd h b0 en B X' Q' v i l k kx
  refine ha _ _ _ _ _ _ _ _ _ _ _ v i l (fun kd1 h1 d1 x e1 s1 i1 r1 t1 v1 => ?_) kx
  obtain ⟨j, rfl, q⟩ := v1
  cases r1
  exact ⟨j, rfl, (k.step t1 (Nat.le_refl _)).now i1 (Nat.le_refl _) (.int _) q⟩
theorem se_not {a : E} (ha : SE C Cu κ a) : SE C Cu κ (.not a) := by
  intro X ev σ Q kd h b0 en B X' Q' v i l k kx
  refine sd ha _ _ _ _ _ _ _ _ _ _ _ v i l (fun kd1 h1 d1 x e1 s1 i1 r1 t1 v1 => ?_) kx
  obtain ⟨p, g1, v2⟩ := v1
  refine tru_snd i1.gl (r1.rr i1 g1) (truM (fun b q => ?_) v2)
  exact (k.step t1 (Nat.le_refl _)).now i1 (Nat.le_refl _) (.bl _) q
theorem se_ite {c a b : E} (hc : SE C Cu κ c) (ha : SE C Cu κ a) (hb : SE C Cu κ b) : SE C Cu κ (.ite c a b) := by
  intro X ev σ Q kd h b0 en B X' Q' v i l k kx
  have he : cE κ (.ite c a b) = cE κ c + (cE κ a + cE κ b) := rfl
  rw [he] at l k kx
  refine sd hc _ _ _ _ _ _ _ _ _ _ _ v i (by omega) (fun kd1 h1 d1 x e1 s1 i1 r1 t1 v1 => ?_) (kx.less (by omega))
  obtain ⟨p, g1, v2⟩ := v1
  refine tru_snd i1.gl (r1.rr i1 g1) (truM (fun b q => ?_) v2)
  by_cases hb' : b = true
  · rw [if_pos hb'] at q ⊢
    exact ha _ _ _ _ _ _ _ _ _ _ _ q i1 (by omega) (k.step t1 (by omega)) (kx.step t1 (by omega))
  · rw [if_neg hb'] at q ⊢
    exact hb _ _ _ _ _ _ _ _ _ _ _ q i1 (by omega) (k.step t1 (by omega)) (kx.step t1 (by omega))
theorem se_cmp2 {o o' : Co} {a b c : E} (ha : SE C Cu κ a) (hb : SE C Cu κ b) (hc : SE C Cu κ c) : SE C Cu κ (.cmp2 o o' a b c) := by
  intro X ev σ Q kd h b0 en B X' Q' v i l k kx
  have he : cE κ (.cmp2 o o' a b c) = cE κ a + cE κ b + cE κ c := rfl
  rw [he] at l k kx
  refine ha _ _ _ _ _ _ _ _ _ _ _ v i (by omega) (fun kd1 h1 d1 x e1 s1 i1 r1 t1 v1 => ?_) (kx.less (by omega))
  refine hb _ _ _ _ _ _ _ _ _ _ _ v1 i1 (by omega) (fun kd2 h2 d2 y e2 s2 i2 r2 t2 v2 => ?_) (kx.step t1 (by omega))
  refine uCo_snd (Q := _) i2.gl (r1.step t2).rr r2.rr (uCoM (fun r q => ?_) v2)
  by_cases hr : r = true
  · rw [if_pos hr] at q ⊢
    refine hc _ _ _ _ _ _ _ _ _ _ _ q i2 (by omega) (fun kd3 h3 d3 z e3 s3 i3 r3 t3 v3 => ?_) (kx.step (t1.trans t2) (by omega))
    exact uCo_snd (Q := _) i3.gl (r2.step t3).rr r3.rr (uCoM (fun r q => (k.step ((t1.trans t2).trans t3) (Nat.le_refl _)).now i3 (by omega) (.bl r) q) v3)
  · rw [if_neg hr] at q ⊢
    exact (k.step (t1.trans t2) (Nat.le_refl _)).now i2 (by omega) (.bl _) q
theorem se_tup {es : Es} (hs : SLs C Cu κ es) : SE C Cu κ (.tup es) := by
  intro X ev σ Q kd h b0 en B X' Q' v i l k kx
  refine hs _ _ _ _ _ _ _ _ _ _ _ v i l (fun kd1 h1 ds us e1 s1 i1 r1 t1 v1 => ?_) kx
  exact ⟨by rw [r1.len]; exact v1.1, (k.step t1 (Nat.le_refl _)).now i1 (Nat.le_refl _) (.tup (by have := v1.1; rw [r1.len]; unfold LB; omega) r1) v1.2⟩
theorem se_list {es : Es} (hs : SLs C Cu κ es) : SE C Cu κ (.lst es) := by
  intro X ev σ Q kd h b0 en B X' Q' v i l k kx
  refine hs _ _ _ _ _ _ _ _ _ _ _ v i l (fun kd1 h1 ds us e1 s1 i1 r1 t1 v1 => ?_) kx
  exact ⟨by rw [r1.len]; exact v1.1, (k.step t1 (Nat.le_refl _)).op i1 (Nat.le_refl _) _ _ _ v1.2 (.inr ⟨_, rfl⟩) (new_own i1.gl (by have := v1.1; rw [r1.len]; unfold LB; omega) r1)⟩
theorem se_dct {es : Es} (hs : SLs C Cu κ es) : SE C Cu κ (.dct es) := by
  intro X ev σ Q kd h b0 en B X' Q' v i l k kx
  have t0 : Step kd h kd (h ++ [.dK []]) := (Step.refl i.gl.out).new
  refine hs _ _ _ _ kd (h ++ [.dK []]) _ _ _ _ _ v i.new l (fun kd1 h1 ds us e1 s1 i1 r1 t1 v1 => ?_) (kx.step t0 (Nat.le_refl _))
  obtain ⟨ps, e, hl, q⟩ := v1
  obtain ⟨qs, g1, g2, g3⟩ := r1.pair e
  have q1 := t1.fr h.length (by simp) (i.gl.out _ (Nat.le_refl _))
  rw [get_new] at q1
  refine ⟨q1.2, qs, g1, by omega, ?_⟩
  refine k kd1 _ _ (.ownD _) _ _ (i1.put q1.1) ⟨_, _, rfl, q1.1, Nat.le_refl _, get_set q1.2, ?_⟩ ((t0.trans t1).put (Nat.le_refl _)) q
  exact RK.keep (i1.gl.kp_put q1.1).toKp (RK.merge .nil g2)
include F in
theorem se_tab {x : Str} {a : E} (ha : SE C Cu κ a) : SE C Cu κ (.tab x a) := by
  intro X ev σ Q kd h b0 en B X' Q' v i l k kx
  obtain ⟨kvs, e, v⟩ := v
  refine ⟨kvs, by rw [F.td]; exact e, ?_⟩
  refine ha _ _ _ _ _ _ _ _ _ _ _ v i l (fun kd1 h1 d1 x e1 s1 i1 r1 t1 v1 => ?_) kx
  obtain ⟨z, d, u, rfl, e2, e3, q⟩ := v1
  cases r1
  exact ⟨z, d, rfl, e2, (k.step t1 (Nat.le_refl _)).now i1 (Nat.le_refl _) (dU_rv d e3) q⟩
include F in
theorem se_tabIn {n : Bool} {x : Str} {a : E} (ha : SE C Cu κ a) : SE C Cu κ (.tabIn n x a) := by
  intro X ev σ Q kd h b0 en B X' Q' v i l k kx
  obtain ⟨kvs, e, v⟩ := v
  refine ⟨kvs, by rw [F.td]; exact e, ?_⟩
  refine ha _ _ _ _ _ _ _ _ _ _ _ v i l (fun kd1 h1 d1 x e1 s1 i1 r1 t1 v1 => ?_) kx
  obtain ⟨z, rfl, q⟩ := v1
  cases r1
  exact ⟨z, rfl, (k.step t1 (Nat.le_refl _)).now i1 (Nat.le_refl _) (.bl _) q⟩
include F in
theorem se_tabG {x : Str} {a b : E} (ha : SE C Cu κ a) (hb : SE C Cu κ b) : SE C Cu κ (.tabG x a b) := by
  intro X ev σ Q kd h b0 en B X' Q' v i l k kx
  have he : cE κ (.tabG x a b) = cE κ a + cE κ b := rfl
  rw [he] at l k kx
  obtain ⟨kvs, e, v⟩ := v
  refine ⟨kvs, by rw [F.td]; exact e, ?_⟩
  refine ha _ _ _ _ _ _ _ _ _ _ _ v i (by omega) (fun kd1 h1 d1 x e1 s1 i1 r1 t1 v1 => ?_) (kx.less (by omega))
  refine hb _ _ _ _ _ _ _ _ _ _ _ v1 i1 (by omega) (fun kd2 h2 d2 y e2 s2 i2 r2 t2 v2 => ?_) (kx.step t1 (by omega))
  obtain ⟨z, rfl, q⟩ := v2
  cases r1
  refine ⟨z, rfl, ?_⟩
  cases hk : kvs.lookup z with
  | none =>
    rw [hk] at q
    exact k _ _ _ _ _ _ (i2.up (by omega)) (r2.lower t1.len) (t1.trans t2) q
  | some d =>
    rw [hk] at q
    obtain ⟨u, e3, q⟩ := q
    exact (k.step (t1.trans t2) (Nat.le_refl _)).now i2 (by omega) (dU_rv d e3) q
theorem se_idx {a b : E} (ha : SE C Cu κ a) (hb : SE C Cu κ b) : SE C Cu κ (.idx a b) := by
  intro X ev σ Q kd h b0 en B X' Q' v i l k kx
  have hc : cE κ (.idx a b) = cE κ a + cE κ b := rfl
  rw [hc] at l k kx
  refine sd ha _ _ _ _ _ _ _ _ _ _ _ v i (by omega) (fun kd1 h1 d1 x e1 s1 i1 r1 t1 v1 => ?_) (kx.less (by omega))
  refine sd hb _ _ _ _ _ _ _ _ _ _ _ v1 i1 (by omega) (fun kd2 h2 d2 y e2 s2 i2 r2 t2 v2 => ?_) (kx.step t1 (by omega))
  obtain ⟨p, q, g1, g2, v3⟩ := v2
  exact uIdx_snd i2.gl ((r1.step t2).rr i2 g1) (r2.rr i2 g2) v3 fun r u q rv => (k.step (t1.trans t2) (Nat.le_refl _)).now i2 (by omega) rv q
theorem se_sli {a : E} {lo hi : Oe} (ha : SE C Cu κ a) (h1 : SOe C Cu κ lo) (h2 : SOe C Cu κ hi) : SE C Cu κ (.sli a lo hi) := by
  intro X ev σ Q kd h b0 en B X' Q' v i l k kx
  have hc : cE κ (.sli a lo hi) = cE κ a + cO κ lo + cO κ hi := rfl
  rw [hc] at l k kx
  refine sd ha _ _ _ _ _ _ _ _ _ _ _ v i (by omega) (fun kd1 _ d1 x e1 s1 i1 r1 t1 v1 => ?_) (kx.less (by omega))
  refine h1 _ _ _ _ _ _ _ _ _ _ _ v1 i1 (by omega) (fun kd2 _ y e2 s2 i2 t2 v2 => ?_) (kx.step t1 (by omega))
  refine h2 _ _ _ _ _ _ _ _ _ _ _ v2 i2 (by omega) (fun kd3 _ z e3 s3 i3 t3 v3 => ?_) (kx.step (t1.trans t2) (by omega))
  obtain ⟨p, g1, v3⟩ := v3
  exact uSli_snd i3.gl ((r1.step (t2.trans t3)).rr i3 g1) v3 ((k.step ((t1.trans t2).trans t3) (Nat.le_refl _)).op i3 (by omega))
theorem se_rev {a : E} (ha : SE C Cu κ a) : SE C Cu κ (.rev a) := by
  intro X ev σ Q kd h b0 en B X' Q' v i l k kx
  refine sd ha _ _ _ _ _ _ _ _ _ _ _ v i l (fun kd1 h1 d1 x e1 s1 i1 r1 t1 v1 => ?_) kx
  obtain ⟨p, us, g1, g2, q⟩ := v1
  obtain ⟨n, ds, rfl, g3, hl, t⟩ := (r1.rr i1 g1).lst i1.gl g2
  exact ⟨ds, g3, (k.step t1 (Nat.le_refl _)).op i1 (Nat.le_refl _) _ _ _ q (.inr ⟨_, rfl⟩) (new_own i1.gl (by simpa using hl) t.al.reverse.rv)⟩
theorem se_nest {b : Ne} {a : E} (ha : SE C Cu κ a) : SE C Cu κ (.nest b a) := by
  intro X ev σ Q kd h b0 en B X' Q' v i l k kx
  refine sd ha _ _ _ _ _ _ _ _ _ _ _ v i l (fun kd1 h1 d1 x e1 s1 i1 r1 t1 v1 => ?_) kx
  obtain ⟨p, g1, v2⟩ := v1
  exact uNe_snd i1.gl (r1.rr i1 g1) v2 ((k.step t1 (Nat.le_refl _)).op i1 (Nat.le_refl _))
theorem se_bi {b : Bi} {es : Es} (hs : SDs C Cu κ es) : SE C Cu κ (.bi b es) := by
  intro X ev σ Q kd h b0 en B X' Q' v i l k kx
  refine hs _ _ _ _ _ _ _ _ _ _ _ v i l (fun kd1 h1 ds os e1 s1 i1 r1 t1 v1 => ?_) kx
  obtain ⟨ws, g1, v2⟩ := v1
  exact uBi_snd i1.gl (r1.rrs i1 g1) v2 ((k.step t1 (Nat.le_refl _)).op i1 (Nat.le_refl _))
theorem se_rng {t : Bool} {a b : E} (ha : SE C Cu κ a) (hb : SE C Cu κ b) : SE C Cu κ (.rng t a b) := by
  intro X ev σ Q kd h b0 en B X' Q' v i l k kx
  have hc : cE κ (.rng t a b) = cE κ a + cE κ b := rfl
  rw [hc] at l k kx
  refine ha _ _ _ _ _ _ _ _ _ _ _ v i (by omega) (fun kd1 h1 d1 x e1 s1 i1 r1 t1 v1 => ?_) (kx.less (by omega))
  refine hb _ _ _ _ _ _ _ _ _ _ _ v1 i1 (by omega) (fun kd2 h2 d2 y e2 s2 i2 r2 t2 v2 => ?_) (kx.step t1 (by omega))
  obtain ⟨p, q, rfl, rfl, hl, v3⟩ := v2
  cases r1; cases r2
  refine ⟨p, q, rfl, rfl, hl, ?_⟩
  have hlen : ((List.range (q - p).toNat).map fun n : Nat => D.int (p + n)).length ≤ LB := by simp; omega
  have k2 := k.step (t1.trans t2) (Nat.le_refl _)
  cases t with
  | true => exact k2.now i2 (by omega) (.tup hlen (RVs.nats (fun n => p + n) _)) v3
  | false => exact k2.op i2 (by omega) _ _ _ v3 (.inr ⟨_, rfl⟩) (new_own i2.gl hlen (RVs.nats (fun n => p + n) _))
theorem se_mt {m : Mt} {a : E} {es : Es} (ha : SE C Cu κ a) (hs : SLs C Cu κ es) : SE C Cu κ (.mt m a es) := by
  intro X ev σ Q kd h b0 en B X' Q' v i l k kx
  have hc : cE κ (.mt m a es) = cE κ a + cEs κ es := rfl
  rw [hc] at l k kx
  refine sd ha _ _ _ _ _ _ _ _ _ _ _ v i (by omega) (fun kd1 h1 d1 x e1 s1 i1 r1 t1 v1 => ?_) (kx.less (by omega))
  refine ⟨umTy_snd i1 r1 v1.1, ?_⟩
  refine hs _ _ _ _ _ _ _ _ _ _ _ v1.2 i1 (by omega) (fun kd2 h2 ds us e2 s2 i2 r2 t2 v2 => ?_) (kx.step t1 (by omega))
  exact uMt_snd i2 (r1.step t2) r2 v2 fun r h' w ev' σ' q i' s' rw' => k _ _ _ _ _ _ (i'.up (by omega)) (rw'.lower (Nat.le_trans t1.len t2.len)) ((t1.trans t2).trans s') q
theorem se_isi {a : E} {ts : List Tn} (ha : SE C Cu κ a) : SE C Cu κ (.isi a ts) := by
  intro X ev σ Q kd h b0 en B X' Q' v i l k kx
  refine sd ha _ _ _ _ _ _ _ _ _ _ _ v i l (fun kd1 h1 d1 x e1 s1 i1 r1 t1 v1 => ?_) kx
  obtain ⟨p, t, g1, g2, q⟩ := v1
  exact ⟨t, uTy_snd i1.gl (r1.rr i1 g1) g2, (k.step t1 (Nat.le_refl _)).now i1 (Nat.le_refl _) (.bl _) q⟩
theorem se_bop {b : Bool} {es : Es} (hs : SB C Cu κ es) : SE C Cu κ (.bop b es) := by
  intro X ev σ Q kd h b0 en B X' Q' v i l k kx
  exact hs _ _ _ _ _ _ _ _ _ _ _ _ v i l k kx
/-! the rows of expressions -/
theorem sls_nil : SLs C Cu κ .nil := fun X ev σ k kd h b0 en B X' Q' v i l kk kx => kk kd h [] [] ev σ i .nil (Step.refl i.gl.out) v
theorem sls_cons {a : E} {es : Es} (ha : SE C Cu κ a) (hs : SLs C Cu κ es) : SLs C Cu κ (.cons a es) := by
  intro X ev σ k kd h b0 en B X' Q' v i l kk kx
  have hc : cEs κ (.cons a es) = cE κ a + cEs κ es := rfl
  rw [hc] at l kk kx
  refine sl ha X ev σ (fun u e1 s1 => vpLs Cu es X e1 s1 fun xs e2 s2 => k (u :: xs) e2 s2) kd h b0 en B _ _ v i (by omega) (fun kd1 h1 d1 x e1 s1 i1 r1 t1 v1 => ?_) (kx.less (by omega))
  refine hs _ _ _ _ _ _ _ _ _ _ _ v1 i1 (by omega) (fun kd2 h2 ds us e2 s2 i2 r2 t2 v2 => ?_) (kx.step t1 (by omega))
  exact kk kd2 h2 _ _ e2 s2 (i2.up (by omega)) (.cons (RV.keep t2.toKp r1) r2) (t1.trans t2) v2
theorem sds_nil : SDs C Cu κ .nil := fun X ev σ k kd h b0 en B X' Q' v i l kk kx => kk kd h [] [] ev σ i .nil (Step.refl i.gl.out) v
theorem sds_cons {a : E} {es : Es} (ha : SE C Cu κ a) (hs : SDs C Cu κ es) : SDs C Cu κ (.cons a es) := by
  intro X ev σ k kd h b0 en B X' Q' v i l kk kx
  have hc : cEs κ (.cons a es) = cE κ a + cEs κ es := rfl
  rw [hc] at l kk kx
  refine sd ha _ _ _ _ _ _ _ _ _ _ _ v i (by omega) (fun kd1 h1 d1 x e1 s1 i1 r1 t1 v1 => ?_) (kx.less (by omega))
  refine hs _ _ _ _ _ _ _ _ _ _ _ v1 i1 (by omega) (fun kd2 h2 ds us e2 s2 i2 r2 t2 v2 => ?_) (kx.step t1 (by omega))
  exact kk kd2 h2 _ _ e2 s2 (i2.up (by omega)) (.cons (r1.step t2) (r2.lower t1.len)) (t1.trans t2) v2
theorem sb_one {a : E} (ha : SE C Cu κ a) : SB C Cu κ (.cons a .nil) := by
  intro b X ev σ Q kd h b0 en B X' Q' v i l k kx
  have hc : cEs κ (.cons a .nil) = cE κ a + 0 := rfl
  rw [hc] at l k kx
  exact ha _ _ _ _ _ _ _ _ _ _ _ v i l k kx
theorem sb_nil : SB C Cu κ .nil := by
  intro b X ev σ Q kd h b0 en B X' Q' v i l k kx
  cases b <;> exact v.elim
theorem sb_cons {a c : E} {es : Es} (ha : SE C Cu κ a) (hs : SB C Cu κ (.cons c es)) : SB C Cu κ (.cons a (.cons c es)) := by
  intro b X ev σ Q kd h b0 en B X' Q' v i l k kx
  have hc : cEs κ (.cons a (.cons c es)) = cE κ a + cEs κ (.cons c es) := rfl
  rw [hc] at l k kx
  refine ha _ _ _ _ _ _ _ _ _ _ _ v i (by omega) (fun kd1 h1 d1 x e1 s1 i1 r1 t1 v1 => ?_) (kx.less (by omega))
  refine tru_snd i1.gl r1.rr (truM (fun t q => ?_) v1)
  by_cases hb : t = b
  · rw [if_pos hb] at q ⊢
    exact hs _ _ _ _ _ _ _ _ _ _ _ _ q i1 (by omega) (k.step t1 (by omega)) (kx.step t1 (by omega))
  · rw [if_neg hb] at q ⊢
    exact k _ _ _ _ _ _ (i1.up (by omega)) r1 t1 q
theorem so_none : SOe C Cu κ .none := fun X ev σ k kd h b0 en B X' Q' v i l kk kx => kk kd h none ev σ i (Step.refl i.gl.out) v
theorem so_some {a : E} (ha : SE C Cu κ a) : SOe C Cu κ (.some a) := by
  intro X ev σ k kd h b0 en B X' Q' v i l kk kx
  refine ha _ _ _ _ _ _ _ _ _ _ _ v i l (fun kd1 h1 d1 x e1 s1 i1 r1 t1 v1 => ?_) kx
  obtain ⟨j, rfl, q⟩ := v1
  cases r1
  exact ⟨j, rfl, kk kd1 h1 _ e1 s1 i1 t1 q⟩
theorem sc_none : SC C Cu κ .none := fun X ev σ k kd h b0 en B X' Q' v i l kk kx => kk kd h true ev σ i (Step.refl i.gl.out) v
theorem sc_some {a : E} (ha : SE C Cu κ a) : SC C Cu κ (.some a) := by
  intro X ev σ k kd h b0 en B X' Q' v i l kk kx
  have v : opd a ev σ (vpE Cu a X ev σ) (fun x e1 s1 => ∃ p, x.get e1 = some p ∧ truW s1 (fun r => k r e1 s1) p) := v
  refine sd ha _ _ _ _ _ _ _ _ _ _ _ v i l (fun kd1 h1 d1 x e1 s1 i1 r1 t1 v1 => ?_) kx
  obtain ⟨p, g1, v2⟩ := v1
  exact tru_snd i1.gl (r1.rr i1 g1) (truM (fun t q => kk kd1 h1 t e1 s1 i1 t1 q) v2)
end
end Bp

namespace Bp
open PySem L2
/-! ### calls: the asker's own cells are nobody's to the one that is called -/
def unown (kd : Km) : Km := fun n => match kd n with
  | .own _ => .free
  | x => x
def reown (kd kd2 : Km) : Km := fun n => match kd n with
  | .own i => .own i
  | _ => match kd2 n with
    | .own _ => .free
    | x => x
section
variable {kd kd2 : Km} {h h2 : Hh} {σ σ2 : Us} {B B2 b0 : Nat} {en : En} {ev : Ev}
theorem unown_of {n : Nat} {t : Kd} (e : kd n = t) (ht : ∀ i, t ≠ .own i) : unown kd n = t := by
  unfold unown
  rw [e]
  split
  · rename_i i; exact absurd rfl (ht i)
  · rfl
theorem of_unown {n : Nat} {t : Kd} (e : unown kd n = t) (ht : t ≠ .free) : kd n = t := by
  unfold unown at e
  split at e
  · exact absurd e.symm ht
  · exact e
theorem kp_unown : KpO kd h (unown kd) h :=
  ⟨⟨fun n e => ⟨unown_of e (by intro i z; cases z), rfl⟩, fun n e => unown_of e (by intro i z; cases z), fun n m e => unown_of e (by intro i z; cases z)⟩, fun n m f e => ⟨unown_of e (by intro i z; cases z), rfl⟩⟩
theorem Glob.unown (g : Glob kd h σ B) : Glob (unown kd) h σ B where
  out n l := unown_of (g.out n l) (by intro i z; cases z)
  box n e := g.box n (of_unown e (by intro z; cases z))
  st n m e := by
    obtain ⟨uo, o, h1, h2, h3⟩ := g.st n m (of_unown e (by intro z; cases z))
    exact ⟨uo, o, h1, h2, h3.keep kp_unown⟩
  inj a b m e1 e2 := g.inj a b m (of_unown e1 (by intro z; cases z)) (of_unown e2 (by intro z; cases z))
theorem reown_own {n i : Nat} (e : kd n = .own i) : reown kd kd2 n = .own i := by unfold reown; rw [e]
theorem reown_of {n : Nat} {t : Kd} (h1 : ∀ i, kd n ≠ .own i) (e : kd2 n = t) (ht : ∀ i, t ≠ .own i) : reown kd kd2 n = t := by
  unfold reown
  split
  · rename_i i z; exact absurd z (h1 i)
  · rw [e]
    split
    · rename_i i; exact absurd rfl (ht i)
    · rfl
theorem of_reown {n : Nat} {t : Kd} (e : reown kd kd2 n = t) (h1 : ∀ i, t ≠ .own i) (ht : t ≠ .free) : kd2 n = t ∧ ∀ i, kd n ≠ .own i := by
  unfold reown at e
  split at e
  · rename_i i _; exact absurd e.symm (h1 i)
  · rename_i hn
    split at e
    · exact absurd e.symm ht
    · exact ⟨e, fun i z => hn i z⟩
theorem step_reown (g : Glob kd h σ B) (s : Step (unown kd) h kd2 h2) : Step kd h (reown kd kd2) h2 where
  fz n e := by
    have q := s.fz n (unown_of e (by intro i z; cases z))
    exact ⟨reown_of (by intro i z; rw [e] at z; cases z) q.1 (by intro i z; cases z), q.2⟩
  bx n e := reown_of (by intro i z; rw [e] at z; cases z) (s.bx n (unown_of e (by intro i z; cases z))) (by intro i z; cases z)
  st n m e := reown_of (by intro i z; rw [e] at z; cases z) (s.st n m (unown_of e (by intro i z; cases z))) (by intro i z; cases z)
  len := s.len
  fr n l e := by
    have q := s.fr n l (unown_of e (by intro i z; cases z))
    exact ⟨reown_of (by intro i z; rw [e] at z; cases z) q.1 (by intro i z; cases z), q.2⟩
  out := g.out
theorem kp_reown (g : Glob kd h σ B) (s : Step (unown kd) h kd2 h2) : KpO kd2 h2 (reown kd kd2) h2 := by
  have ne : ∀ n t, kd2 n = t → t ≠ .free → ∀ i, kd n ≠ .own i := by
    intro n t e ht i z
    have hl : n < h.length := g.lt (by rw [z]; simp)
    have q := s.fr n hl (by unfold unown; rw [z])
    rw [q.1] at e; exact ht e.symm
  exact ⟨⟨fun n e => ⟨reown_of (ne n _ e (by intro z; cases z)) e (by intro i z; cases z), rfl⟩, fun n e => reown_of (ne n _ e (by intro z; cases z)) e (by intro i z; cases z), fun n m e => reown_of (ne n _ e (by intro z; cases z)) e (by intro i z; cases z)⟩,
    fun n m f e => ⟨reown_of (ne n _ e (by intro z; cases z)) e (by intro i z; cases z), rfl⟩⟩
theorem Glob.reown (g : Glob kd h σ B) (s : Step (Bp.unown kd) h kd2 h2) (g2 : Glob kd2 h2 σ2 B2) : Glob (reown kd kd2) h2 σ2 B2 where
  out n l := by
    have e1 : kd n = .free := g.out n (Nat.le_trans s.len l)
    exact reown_of (by intro i z; rw [e1] at z; cases z) (g2.out n l) (by intro i z; cases z)
  box n e := g2.box n (of_reown e (by intro i z; cases z) (by intro z; cases z)).1
  st n m e := by
    obtain ⟨uo, o, a1, a2, a3⟩ := g2.st n m (of_reown e (by intro i z; cases z) (by intro z; cases z)).1
    exact ⟨uo, o, a1, a2, a3.keep (kp_reown g s)⟩
  inj a b m e1 e2 := g2.inj a b m (of_reown e1 (by intro i z; cases z) (by intro z; cases z)).1 (of_reown e2 (by intro i z; cases z) (by intro z; cases z)).1
theorem Inv.reown (i : Inv kd h b0 en ev σ B) (s : Step (Bp.unown kd) h kd2 h2) (g2 : Glob kd2 h2 σ2 B2) : Inv (Bp.reown kd kd2) h2 b0 en ev σ2 B2 where
  len := i.len
  sl j w e := by
    obtain ⟨d, g1, r⟩ := i.sl j w e
    refine ⟨d, g1, r.keep (step_reown i.gl s).toKp fun n en ln => ⟨reown_own en, ?_⟩⟩
    exact (s.fr n ln (by unfold unown; rw [en])).2
  gl := i.gl.reown s g2
  bs := Nat.le_trans i.bs s.len
theorem RW.reown (g : Glob kd h σ B) (s : Step (Bp.unown kd) h kd2 h2) {w : W} {d : D} (r : RW kd2 h2 .free h.length w d) : RW (Bp.reown kd kd2) h2 .free h.length w d := by
  match w, r with
  | .v u, r => exact RV.keep (kp_reown g s).toKp r
  | .own us, ⟨n, ds, e1, e2, e3, e4, e5, e6⟩ =>
    have e7 : kd n = .free := g.out n e3
    exact ⟨n, ds, e1, reown_of (by intro i z; rw [e7] at z; cases z) e2 (by intro i z; cases z), e3, e4, e5, RVs.keep (kp_reown g s).toKp e6⟩
  | .ownD us, ⟨n, ds, e1, e2, e3, e4, e5⟩ =>
    have e7 : kd n = .free := g.out n e3
    exact ⟨n, ds, e1, reown_of (by intro i z; rw [e7] at z; cases z) e2 (by intro i z; cases z), e3, e4, RK.keep (kp_reown g s).toKp e5⟩
end
section
variable {C : Cn} {Cu : Cu} {κ : Nat}
theorem se_call (F : FsOk C Cu κ) {f : Str} {es : Es} (hs : SLs C Cu κ es) : SE C Cu κ (.call f es) := by
  intro X ev σ Q kd h b0 en B X' Q' v i l k kx
  have hc : cE κ (.call f es) = cEs κ es + κ := rfl
  rw [hc] at l k kx
  refine ⟨by rw [F.isf]; exact v.1, ?_⟩
  refine hs _ _ _ _ _ _ _ _ _ _ _ v.2 i (by omega) (fun kd1 h1 ds us e1 s1 i1 r1 t1 v1 => ?_) (kx.less (by omega))
  refine F.fs _ _ _ _ _ (unown kd1) h1 ds _ _ _ v1 i1.gl.unown (RVs.keep kp_unown.toKp r1) (by omega) (fun kd2 h2 d w s2 g2 r2 t2 q => ?_) (fun kd2 h2 c r ru s2 g2 t2 rx x => ?_)
  · exact k _ _ _ _ _ _ ((i1.reown t2 g2).up (by omega)) ((RW.reown i1.gl t2 r2).lower t1.len) (t1.trans (step_reown i1.gl t2)) q
  · exact kx _ _ _ _ _ _ _ ((i1.reown t2 g2).up (by omega)) (t1.trans (step_reown i1.gl t2)) (rx.keep (kp_reown i1.gl t2).toKp) x
/-! what is walked -/
mutual
theorem RV.det {kd kd' : Km} {h h' : Hh} {σ' : Us} {B' : Nat} (s : Step kd h kd' h') (g : Glob kd' h' σ' B') : ∀ {d d' : D} {u : U}, RV kd h d u → RV kd' h' d' u → detU u = true → d' = d
  | _, _, _, .non, r, _ => by cases r; rfl
  | _, _, _, .bl _, r, _ => by cases r; rfl
  | _, _, _, .int _, r, _ => by cases r; rfl
  | _, _, _, .str _, r, _ => by cases r; rfl
  | _, _, _, .tup _ t, .tup _ t', e => by rw [RVs.det s g t t' (by simpa [detU] using e)]
  | _, _, _, .vl _ _ _ _, _, e => by simp [detU] at e
  | _, _, _, .vd _ _ _, _, e => by simp [detU] at e
  | _, _, _, .ref a, .ref b, _ => by rw [g.inj _ _ _ b (s.st _ _ a)]
  | _, _, _, .box _, _, e => by simp [detU] at e
  | _, _, _, .scr _ _ _, _, e => by simp [detU] at e
theorem RVs.det {kd kd' : Km} {h h' : Hh} {σ' : Us} {B' : Nat} (s : Step kd h kd' h') (g : Glob kd' h' σ' B') : ∀ {d d' : List D} {u : List U}, RVs kd h d u → RVs kd' h' d' u → detUs u = true → d' = d
  | _, _, _, .nil, .nil, _ => rfl
  | _, _, _, .cons r t, .cons r' t', e => by
    simp only [detUs, Bool.and_eq_true] at e
    rw [RV.det s g r r' e.1, RVs.det s g t t' e.2]
end
section
variable {kd : Km} {h : Hh} {σ : Us} {B : Nat}
/-- a list that is walked stays -/
theorem srcL_snd (g : Glob kd h σ B) {d : D} {u : U} (r : RV kd h d u) {Q : Sr → Prop} {Q' : Src → Hh → Prop} (x : uSrcL σ Q u) (k : ∀ s s', RS kd h s s' → Q s' → Q' s h) : srcL d h Q' := by
  match u, r, x with
  | .vl us, .vl a b l t, x =>
    refine .inl ⟨_, b, k _ _ ⟨t, l, fun kd' h' σ' B' st _ _ p hp => ?_⟩ x⟩
    rw [List.mem_singleton.mp hp]
    exact (st.fz _ a).2.trans b
  | .scr ns, .scr a b c, x =>
    refine .inr ⟨_, b, k _ _ ⟨RVs.ints _, by simpa using c, fun kd' h' σ' B' st _ _ p hp => ?_⟩ x⟩
    rw [List.mem_singleton.mp hp]
    exact (st.fz _ a).2.trans b
  | .ref m, .ref a, ⟨us, e, hdet, x⟩ =>
    obtain ⟨n', ds, z, h1, l, t⟩ := RR.lst g (w := .v (.ref m)) (RV.ref a) e
    cases z
    refine .inl ⟨_, h1, k _ _ ⟨t, l, fun kd' h' σ' B' st g' o p hp => ?_⟩ x⟩
    rw [List.mem_singleton.mp hp]
    have e' := o (m, us) (List.mem_singleton.mpr rfl)
    obtain ⟨n2, ds2, z, h2, l2, t2⟩ := RR.lst g' (w := .v (.ref m)) (RV.ref (st.st _ _ a)) e'
    cases z
    rw [RVs.det st g' t t2 hdet] at h2
    exact h2
theorem srcT_snd {d : D} {u : U} (r : RV kd h d u) {Q : Sr → Prop} {Q' : Src → Hh → Prop} (x : uSrcT Q u) (k : ∀ s s', RS kd h s s' → Q s' → Q' s h) : srcT d h Q' := by
  match u, r, x with
  | .tup us, .tup l t, x => exact k _ _ ⟨t, l, fun kd' h' σ' B' st _ _ p hp => by cases hp⟩ x
theorem src_snd (g : Glob kd h σ B) {d : D} {u : U} (r : RV kd h d u) {Q : Sr → Prop} {Q' : Src → Hh → Prop} (x : uSrc σ Q u) (k : ∀ s s', RS kd h s s' → Q s' → Q' s h) : srcOf d h Q' := by
  match u, r, x with
  | .tup us, .tup l t, x => exact k _ _ ⟨t, l, fun kd' h' σ' B' st _ _ p hp => by cases hp⟩ x
  | .str z, .str _, x => exact k _ _ ⟨RVs.chars _, by have := x.1; simp [Str.length] at this ⊢; show _ ≤ 2000000; omega, fun kd' h' σ' B' st _ _ p hp => by cases hp⟩ x.2
  | .vl us, .vl a b l t, x => exact srcL_snd (Q := Q) g (RV.vl a b l t) x k
  | .scr ns, .scr a b c, x => exact srcL_snd (Q := Q) g (RV.scr a b c) x k
  | .ref m, .ref a, x => exact srcL_snd (Q := Q) g (RV.ref a) x k
theorem RS.zip {kd : Km} {h : Hh} {s s2 : Src} {u u2 : Sr} (a : RS kd h s u) (b : RS kd h s2 u2) : RS kd h ⟨(s.items.zip s2.items).map fun p => .tup [p.1, p.2], s.still ++ s2.still⟩ ⟨(u.items.zip u2.items).map fun p => .tup [p.1, p.2], u.still ++ u2.still⟩ where
  items := ((a.items.al.zip b.items.al).map (S := RV kd h) fun p q e => .tup (by show 2 ≤ 2000000; decide) (.cons e.1 (.cons e.2 .nil))).rv
  len := by have := a.len; simp; omega
  ok kd' h' σ' B' st g o := by
    intro p hp
    rcases List.mem_append.mp hp with hp | hp
    · exact a.ok kd' h' σ' B' st g (fun q hq => o q (List.mem_append_left _ hq)) p hp
    · exact b.ok kd' h' σ' B' st g (fun q hq => o q (List.mem_append_right _ hq)) p hp
theorem RS.rev {s : Src} {u : Sr} (a : RS kd h s u) : RS kd h ⟨s.items.reverse, s.still⟩ ⟨u.items.reverse, u.still⟩ :=
  ⟨a.items.al.reverse.rv, by simpa using a.len, a.ok⟩
theorem RS.enu {s : Src} {u : Sr} (a : RS kd h s u) : RS kd h ⟨s.items.zipIdx.map fun p => .tup [.int (p.2 : Nat), p.1], s.still⟩ ⟨u.items.zipIdx.map fun p => .tup [.int (p.2 : Nat), p.1], u.still⟩ :=
  ⟨((a.items.al.zipIdx 0).map (S := RV kd h) fun p q e => by rw [e.2]; exact .tup (by show 2 ≤ 2000000; decide) (.cons (.int _) (.cons e.1 .nil))).rv, by simpa using a.len, a.ok⟩
theorem RS.bare {s : Src} {u : Sr} (a : RS kd h s u) (hn : s.still = []) : RS kd h ⟨s.items, []⟩ ⟨u.items, []⟩ := ⟨a.items, a.len, fun kd' h' σ' B' st _ _ p hp => by cases hp⟩
end
theorem si_seq {a : E} (ha : SE C Cu κ a) : SIv C Cu κ (.seq a) := by
  intro X ev σ k kd h b0 en B X' Q' v i l kk kx
  refine sl ha X ev σ (fun u e1 s1 => uSrc s1 (fun s => k s e1 s1) u) kd h b0 en B _ _ v i l (fun kd1 h1 d1 u e1 s1 i1 r1 t1 v1 => ?_) kx
  exact src_snd i1.gl r1 v1 fun s s' rs q => kk kd1 h1 s s' e1 s1 i1 rs t1 q
theorem si_enu {a : E} (ha : SE C Cu κ a) : SIv C Cu κ (.enu a) := by
  intro X ev σ k kd h b0 en B X' Q' v i l kk kx
  refine sl ha X ev σ (fun u e1 s1 => uSrcE s1 (fun s => k s e1 s1) u) kd h b0 en B _ _ v i l (fun kd1 h1 d1 u e1 s1 i1 r1 t1 v1 => ?_) kx
  rcases v1 with v1 | v1
  · exact .inl (srcL_snd i1.gl r1 v1 fun s s' rs q => kk kd1 h1 _ _ e1 s1 i1 rs.enu t1 q)
  · exact .inr (srcT_snd r1 v1 fun s s' rs q => kk kd1 h1 _ ⟨s'.items.zipIdx.map fun p => U.tup [.int (p.2 : Nat), p.1], []⟩ e1 s1 i1 ⟨rs.enu.items, rs.enu.len, fun kd' h' σ' B' st _ _ p hp => by cases hp⟩ t1 q)
theorem si_rvs {a : E} (ha : SE C Cu κ a) : SIv C Cu κ (.rvs a) := by
  intro X ev σ k kd h b0 en B X' Q' v i l kk kx
  refine sl ha X ev σ (fun u e1 s1 => uSrcR s1 u fun s => k s e1 s1) kd h b0 en B _ _ v i l (fun kd1 h1 d1 u e1 s1 i1 r1 t1 v1 => ?_) kx
  rcases v1 with v1 | v1
  · exact .inl (srcL_snd i1.gl r1 v1 fun s s' rs q => kk kd1 h1 _ _ e1 s1 i1 rs.rev t1 q)
  · exact .inr (srcT_snd r1 v1 fun s s' rs q => kk kd1 h1 _ ⟨s'.items.reverse, []⟩ e1 s1 i1 ⟨rs.rev.items, rs.rev.len, fun kd' h' σ' B' st _ _ p hp => by cases hp⟩ t1 q)
theorem si_zip {a b : E} (ha : SE C Cu κ a) (hb : SE C Cu κ b) : SIv C Cu κ (.zip a b) := by
  intro X ev σ k kd h b0 en B X' Q' v i l kk kx
  have hc : cI κ (.zip a b) = cE κ a + cE κ b := rfl
  rw [hc] at l kk kx
  refine sl ha X ev σ (fun u e1 s1 => vpE Cu b X e1 s1 fun y e2 s2 => uSrcZ s2 u (frzU y) fun s => k s e2 s2) kd h b0 en B _ _ v i (by omega) (fun kd1 h1 d1 u e1 s1 i1 r1 t1 v1 => ?_) (kx.less (by omega))
  refine sl hb X e1 s1 (fun u2 e2 s2 => uSrcZ s2 u u2 fun s => k s e2 s2) kd1 h1 b0 en _ _ _ v1 i1 (by omega) (fun kd2 h2 d2 u2 e2 s2 i2 r2 t2 v2 => ?_) (kx.step t1 (by omega))
  have r1' := RV.keep t2.toKp r1
  have kk2 : ∀ s s', RS kd2 h2 s s' → k s' e2 s2 → Q' s h2 := fun s s' rs q => kk kd2 h2 s s' e2 s2 (i2.up (by omega)) rs (t1.trans t2) q
  rcases v2 with v2 | v2 | v2 | v2
  · exact .inl (srcL_snd i2.gl r1' v2 fun s s' rs q => srcL_snd i2.gl r2 q fun z z' rz q => kk2 _ _ (rs.zip rz) q)
  case inr.inr.inl => exact .inr (.inr (.inl (srcT_snd r1' v2 fun s s' rs q => srcL_snd i2.gl r2 q fun z z' rz q => kk2 ⟨_, z.still⟩ ⟨(s'.items.zip z'.items).map fun p => U.tup [p.1, p.2], z'.still⟩ ⟨(rs.zip rz).items, (rs.zip rz).len, fun kd' h' σ' B' st g o => rz.ok kd' h' σ' B' st g o⟩ q)))
  case inr.inr.inr => exact .inr (.inr (.inr (srcL_snd i2.gl r1' v2 fun s s' rs q => srcT_snd r2 q fun z z' rz q => kk2 ⟨_, s.still⟩ ⟨(s'.items.zip z'.items).map fun p => U.tup [p.1, p.2], s'.still⟩ ⟨(rs.zip rz).items, (rs.zip rz).len, fun kd' h' σ' B' st g o => rs.ok kd' h' σ' B' st g o⟩ q)))
  · refine .inr (.inl <| srcT_snd r1' v2 fun s s' rs q => srcT_snd r2 q fun z z' rz q => kk2 _ ⟨(s'.items.zip z'.items).map fun p => U.tup [p.1, p.2], []⟩ ⟨(rs.zip rz).items, (rs.zip rz).len, fun kd' h' σ' B' st _ _ p hp => by cases hp⟩ q)
theorem si_rng1 {a : E} (ha : SE C Cu κ a) : SIv C Cu κ (.rng1 a) := by
  intro X ev σ k kd h b0 en B X' Q' v i l kk kx
  refine ha _ _ _ _ _ _ _ _ _ _ _ v i l (fun kd1 h1 d1 x e1 s1 i1 r1 t1 v1 => ?_) kx
  obtain ⟨j, rfl, l1, l2, q⟩ := v1
  cases r1
  exact ⟨j, rfl, l1, l2, kk kd1 h1 _ _ e1 s1 i1 ⟨RVs.nats (fun n => (n : Int)) _, by simp; omega, fun kd' h' σ' B' st _ _ p hp => by cases hp⟩ t1 q⟩
theorem si_rng2 {a b : E} (ha : SE C Cu κ a) (hb : SE C Cu κ b) : SIv C Cu κ (.rng2 a b) := by
  intro X ev σ k kd h b0 en B X' Q' v i l kk kx
  have hc : cI κ (.rng2 a b) = cE κ a + cE κ b := rfl
  rw [hc] at l kk kx
  refine ha _ _ _ _ _ _ _ _ _ _ _ v i (by omega) (fun kd1 h1 d1 x e1 s1 i1 r1 t1 v1 => ?_) (kx.less (by omega))
  refine hb _ _ _ _ _ _ _ _ _ _ _ v1 i1 (by omega) (fun kd2 h2 d2 y e2 s2 i2 r2 t2 v2 => ?_) (kx.step t1 (by omega))
  obtain ⟨p, q, rfl, rfl, hl, v3⟩ := v2
  cases r1; cases r2
  exact ⟨p, q, rfl, rfl, hl, kk kd2 h2 _ _ e2 s2 (i2.up (by omega)) ⟨RVs.nats (fun n => p + n) _, by simp; omega, fun kd' h' σ' B' st _ _ p hp => by cases hp⟩ (t1.trans t2) v3⟩
theorem si_rngd {a b : E} (ha : SE C Cu κ a) (hb : SE C Cu κ b) : SIv C Cu κ (.rngd a b) := by
  intro X ev σ k kd h b0 en B X' Q' v i l kk kx
  have hc : cI κ (.rngd a b) = cE κ a + cE κ b := rfl
  rw [hc] at l kk kx
  refine ha _ _ _ _ _ _ _ _ _ _ _ v i (by omega) (fun kd1 h1 d1 x e1 s1 i1 r1 t1 v1 => ?_) (kx.less (by omega))
  refine hb _ _ _ _ _ _ _ _ _ _ _ v1 i1 (by omega) (fun kd2 h2 d2 y e2 s2 i2 r2 t2 v2 => ?_) (kx.step t1 (by omega))
  obtain ⟨p, q, rfl, rfl, hl, v3⟩ := v2
  cases r1; cases r2
  exact ⟨p, q, rfl, rfl, hl, kk kd2 h2 _ _ e2 s2 (i2.up (by omega)) ⟨RVs.nats (fun n => p - n) _, by simp; omega, fun kd' h' σ' B' st _ _ p hp => by cases hp⟩ (t1.trans t2) v3⟩
/-! targets -/
theorem sg_nm {j : Nat} : SG C Cu κ (.nm j) := by
  intro ev σ Q kd0 h0 kd h b0 en B X' Q' w d lo v i r hb hl hlo s l kk
  obtain ⟨kd', i', s', _, _, _⟩ := i.assign r hb s hl j
  refine kk kd' h _ _ σ i' s' (by simp) (fun q hq => ?_) v
  refine List.getElem?_set_ne fun z => ?_
  subst z
  simp [tgSl, memN] at hq
theorem memN_app {j : Nat} : ∀ (a b : List Nat), memN j (a ++ b) = (memN j a || memN j b)
  | [], b => by simp [memN]
  | x :: a, b => by simp [memN, memN_app a b, Bool.or_assoc]
theorem sgs_nil : SGs C Cu κ .nil := by
  intro ev σ Q kd0 h0 kd h b0 en B X' Q' us ds v i r hb hl s l kk
  obtain ⟨rfl, q⟩ := v
  cases r
  exact ⟨rfl, kk kd h en ev σ i s rfl (fun _ _ => rfl) q⟩
theorem sgs_cons {t : Tg} {ts : Tgs} (ht : SG C Cu κ t) (hs : SGs C Cu κ ts) : SGs C Cu κ (.cons t ts) := by
  intro ev σ Q kd0 h0 kd h b0 en B X' Q' us ds v i r hb hl s l kk
  have hc : cGs κ (.cons t ts) = cG κ t + cGs κ ts := rfl
  rw [hc] at l kk
  obtain ⟨u, us', rfl, v⟩ := v
  cases r with
  | @cons d _ ds' _ r rs =>
    refine ⟨d, ds', rfl, ?_⟩
    refine ht _ _ _ kd h kd h b0 en B _ _ (.v u) d h.length v i r hb (Nat.le_refl _) (Nat.le_refl _) (Step.refl i.gl.out) (by omega) (fun kd1 h1 en1 e1 s1 i1 t1 n1 z1 v1 => ?_)
    refine hs _ _ _ kd0 h0 kd1 h1 b0 en1 _ _ _ us' ds' v1 i1 (RVs.keep t1.toKp rs) i1.bs (Nat.le_trans hl t1.len) (s.trans t1) (by omega) (fun kd2 h2 en2 e2 s2 i2 t2 n2 z2 v2 => ?_)
    refine kk kd2 h2 en2 e2 s2 (i2.up (by omega)) t2 (n2.trans n1) (fun j hj => ?_) v2
    rw [show tgsSl (.cons t ts) = tgSl t ++ tgsSl ts from rfl, memN_app, Bool.or_eq_false_iff] at hj
    exact (z2 j hj.2).trans (z1 j hj.1)
theorem sg_tp {ts : Tgs} (hs : SGs C Cu κ ts) : SG C Cu κ (.tp ts) := by
  intro ev σ Q kd0 h0 kd h b0 en B X' Q' w d lo v i r hb hl hlo s l kk
  obtain ⟨us, e, hn, v⟩ := v
  obtain ⟨ds, e1, l1, t⟩ := r.rr.els i.gl e
  exact ⟨ds, e1, by rw [t.len]; exact hn, hs _ _ _ kd0 h0 kd h b0 en B _ _ us ds v i t i.bs s.len s l kk⟩
theorem sg_sub {a b : E} (ha : SE C Cu κ a) (hb : SE C Cu κ b) : SG C Cu κ (.sub a b) := by
  intro ev σ Q kd0 h0 kd h b0 en B X' Q' w d lo v i r hb0 hl hlo s l kk
  have hc : cG κ (.sub a b) = cE κ a + cE κ b := rfl
  rw [hc] at l kk
  have kx0 : ∀ {kd : Km} {h : Hh} {B : Nat}, KX kd h b0 en B (fun _ _ _ _ => False) X' := fun kd' h' c r ru ev' σ' i s' rx x => x.elim
  have v : opd a ev σ (vpE Cu a (fun _ _ _ _ => False) ev σ) (fun x e1 s1 => vpE Cu b (fun _ _ _ _ => False) e1 s1 fun y e2 s2 =>
      (∃ us k j, mutL e2 s2 x = some us ∧ y = .v (.int k) ∧ ixN us.length k = some j ∧ putL (us.set j (frzU w)) e2 s2 Q x) ∨
      (∃ kvs q k, mutD e2 s2 x = some kvs ∧ y = .v q ∧ keyU q = some k ∧ kvs.length < 100000 ∧ putK (putU kvs k (frzU w)) e2 s2 Q x)) := v
  refine sd ha _ _ _ _ _ _ _ _ _ _ _ v i (by omega) (fun kd1 h1 d1 x e1 s1 i1 r1 t1 v1 => ?_) kx0
  refine hb _ _ _ _ _ _ _ _ _ _ _ v1 i1 (by omega) (fun kd2 h2 d2 y e2 s2 i2 r2 t2 v2 => ?_) kx0
  have t12 := t1.trans t2
  have rw2 : RW kd2 h2 .free lo w d := r.step t12
  obtain ⟨kd3, i3, s3, rv, kp3, _⟩ := i2.freeze rw2 (s.trans t12) hl
  have r1' := r1.step t2
  rcases v2 with ⟨us, q, j, e3, rfl, e4, v3⟩ | ⟨kvs, q, ky, e3, rfl, e4, hl3, v3⟩
  · have r1'' : ROd kd3 h2 en h.length x d1 := by
      match x, r1', e3 with
      | .at _, r1', _ => exact r1'
      | .w (.v u), r1', _ => exact RV.keep kp3 r1'
    obtain ⟨n, ds, rfl, g1, g2, g3, g4⟩ := mutL_snd i3 r1'' e3
    obtain ⟨ev', σ', q1, i4, s4, _⟩ := g4 _ (ds.set j d) _ (g3.al.set rv j).rv (by simpa using g2) v3
    cases r2
    exact ⟨n, rfl, .inl ⟨ds, q, j, g1, rfl, by rw [g3.len]; exact e4, kk kd3 _ en ev' σ' (i4.up (by omega)) (s3.trans s4) rfl (fun _ _ => rfl) q1⟩⟩
  · have r1'' : ROd kd3 h2 en h.length x d1 := by
      match x, r1', e3 with
      | .at _, r1', _ => exact r1'
      | .w (.v u), r1', _ => exact RV.keep kp3 r1'
    obtain ⟨n, ds, rfl, g1, g3, g4⟩ := mutD_snd i3 r1'' e3
    obtain ⟨ev', σ', q1, i4, s4, _⟩ := g4 _ (putD ds ky d) _ (g3.put rv) v3
    exact ⟨n, rfl, .inr ⟨ds, ky, g1, (RV.key r2).trans e4, by rw [g3.al.len]; exact hl3, kk kd3 _ en ev' σ' (i4.up (by omega)) (s3.trans s4) rfl (fun _ _ => rfl) q1⟩⟩
end
end Bp

namespace Bp
open PySem L2
/-! ### comprehensions -/
theorem wipe_get {e : En} {j : Nat} : ∀ {vs : List Nat}, memN j vs = false → (wipeE e vs)[j]? = e[j]?
  | [], _ => rfl
  | v :: vs, h => by
    simp only [memN, Bool.or_eq_false_iff, beq_eq_false_iff_ne] at h
    rw [show wipeE e (v :: vs) = (wipeE e vs).set v none from rfl, List.getElem?_set_ne (fun z => h.1 z.symm)]
    exact wipe_get h.2
theorem wipe_len {e : En} : ∀ {vs : List Nat}, (wipeE e vs).length = e.length
  | [] => rfl
  | v :: vs => by rw [show wipeE e (v :: vs) = (wipeE e vs).set v none from rfl, List.length_set, wipe_len]
theorem hide_len {e : Ev} : ∀ {vs : List Nat}, (hide e vs).length = e.length
  | [] => rfl
  | v :: vs => by rw [show hide e (v :: vs) = (hide e vs).set v none from rfl, List.length_set, hide_len]
theorem unhide_len {e0 e : Ev} : ∀ {vs : List Nat}, (unhide e0 e vs).length = e.length
  | [] => rfl
  | v :: vs => by rw [show unhide e0 e (v :: vs) = (unhide e0 e vs).set v (kept (evGet e0 v)) from rfl, List.length_set, unhide_len]
theorem hide_get {e : Ev} {j : Nat} {w : W} : ∀ {vs : List Nat}, evGet (hide e vs) j = some w → memN j vs = false ∧ evGet e j = some w
  | [], h => ⟨rfl, h⟩
  | v :: vs, h => by
    rw [show hide e (v :: vs) = (hide e vs).set v none from rfl] at h
    rcases evGet_set h with ⟨_, z, _⟩ | ⟨hj, h⟩
    · cases z
    · have q := hide_get h
      exact ⟨by simp [memN, hj, q.1], q.2⟩
theorem unhide_get {e0 e : Ev} {j : Nat} {w : W} : ∀ {vs : List Nat}, evGet (unhide e0 e vs) j = some w → (memN j vs = true ∧ kept (evGet e0 j) = some w) ∨ (memN j vs = false ∧ evGet e j = some w)
  | [], h => .inr ⟨rfl, h⟩
  | v :: vs, h => by
    rw [show unhide e0 e (v :: vs) = (unhide e0 e vs).set v (kept (evGet e0 v)) from rfl] at h
    rcases evGet_set h with ⟨rfl, z, _⟩ | ⟨hj, h⟩
    · exact .inl ⟨by simp [memN], z⟩
    · rcases unhide_get h with ⟨a, b⟩ | ⟨a, b⟩
      · exact .inl ⟨by simp [memN, a], b⟩
      · exact .inr ⟨by simp [memN, hj, a], b⟩
theorem subN_mem {j : Nat} : ∀ {a b : List Nat}, subN a b = true → memN j b = false → memN j a = false
  | [], _, _, _ => rfl
  | x :: a, b, h, hj => by
    simp only [subN, Bool.and_eq_true] at h
    simp only [memN, Bool.or_eq_false_iff, beq_eq_false_iff_ne]
    exact ⟨fun z => (by subst z; rw [h.1] at hj; cases hj), subN_mem h.2 hj⟩
section
variable {kd kd2 : Km} {h h2 : Hh} {σ σ2 : Us} {B B2 b0 : Nat} {en en3 : En} {ev e5 : Ev}
theorem Inv.hide (i : Inv kd h b0 en ev σ B) (vs : List Nat) : Inv kd h b0 (wipeE en vs) (Bp.hide ev vs) σ B where
  len := by rw [wipe_len, hide_len]; exact i.len
  sl j w e := by
    have q := hide_get e
    obtain ⟨d, g1, g2⟩ := i.sl j w q.2
    exact ⟨d, (wipe_get q.1).trans g1, g2⟩
  gl := i.gl
  bs := i.bs
theorem Inv.unhide (i : Inv kd h b0 en ev σ B) {vs ts : List Nat} (s : Step kd h kd2 h2) (i5 : Inv kd2 h2 b0 en3 e5 σ2 B2) (n3 : en3.length = (wipeE en vs).length) (z3 : ∀ j, memN j ts = false → en3[j]? = (wipeE en vs)[j]?) (hs : subN ts vs = true) :
    Inv kd2 h2 b0 en (Bp.unhide ev e5 vs) σ2 B2 where
  len := by rw [unhide_len, ← i5.len, n3, wipe_len]
  sl j w e := by
    rcases unhide_get e with ⟨a, b⟩ | ⟨a, b⟩
    · cases hw : evGet ev j with
      | none => rw [hw] at b; cases b
      | some w' =>
        rw [hw] at b
        match w', hw, b with
        | .v u, hw, b =>
          cases b
          obtain ⟨d, g1, g2⟩ := i.sl j _ hw
          exact ⟨d, g1, RV.keep s.toKp g2⟩
    · obtain ⟨d, g1, g2⟩ := i5.sl j w b
      refine ⟨d, ?_, g2⟩
      rw [← g1, z3 j (subN_mem hs a), wipe_get a]
  gl := i5.gl
  bs := i5.bs
end
section
variable {C : Cn} {Cu : Cu} {κ : Nat}
theorem mul_up {n m c : Nat} (h : n + 1 ≤ m) : n * c + c ≤ m * c := by
  have := Nat.mul_le_mul_right c h
  rw [Nat.succ_mul] at this
  exact this
theorem se_comp {elt : E} {t : Tg} {it : Iv} {c : Oe} {own : List (Str × Nat)} (hi : SIv C Cu κ it) (ht : SG C Cu κ t) (hc : SC C Cu κ c) (he : SE C Cu κ elt) : SE C Cu κ (.comp elt t it c own) := by
  intro X ev σ Q kd h b0 en B X' Q' v i l k kx
  obtain ⟨hsub, v⟩ := v
  have hcst : cE κ (.comp elt t it c own) = cI κ it + LB * (cG κ t + cO κ c + cE κ elt) := rfl
  rw [hcst] at l k kx
  generalize hcc : cG κ t + cO κ c + cE κ elt = cc at *
  generalize hvs : own.map (·.2) = vs at *
  have kx0 : ∀ {kd : Km} {h : Hh} {B : Nat} {en : En}, KX kd h b0 en B (fun _ _ _ _ => False) (fun _ _ _ => False) := fun kd' h' c r ru ev' σ' i s' rx x => x.elim
  -- from (kd1, h1) on, over the items
  have go : ∀ (kd1 : Km) (h1 : Hh) (e1 : Ev) (s1 : Us) (s : Src) (items : List U) (G : Ev → Us → Prop), Inv kd1 h1 b0 en e1 s1 (B + cI κ it) → Step kd h kd1 h1 → RVs kd1 h1 s.items items → s.items.length ≤ LB →
      (∀ kd2 h2 ev2 σ2 B2, Inv kd2 h2 b0 en ev2 σ2 B2 → Step kd1 h1 kd2 h2 → G ev2 σ2 → s.ok h2) →
      compU G (fun d e2 s2 k => vpG Cu t (fun _ _ _ _ => False) (.v d) (Bp.hide e2 vs) s2 fun e3 s3 => vpC Cu c (fun _ _ _ _ => False) e3 s3 fun r e4 s4 => if r = true then vpE Cu elt (fun _ _ _ _ => False) e4 s4 fun y e5 s5 => k (some (frzU y)) (Bp.unhide e2 e5 vs) s5 else k none (Bp.unhide e2 e4 vs) s4) (fun acc e2 s2 => Q (.own acc) e2 s2) items [] e1 s1 →
      compW s.ok h1.length (fun d h2 k => wpG C t (fun _ _ _ => False) d (wipeE en vs) h2 fun e3 h3 => wpC C c (fun _ _ _ => False) e3 h3 fun r h4 => if r = true then wpE C elt (fun _ _ _ => False) e3 h4 fun y h5 => k (some y) h5 else k none h4) (Q' (.ref h1.length)) s.items (h1 ++ [.lst []]) := by
    intro kd1 h1 e1 s1 s items G i1 t1 rsi rsl okD v1
    have loop : ∀ (us : List U) (ds : List D) (n : Nat) (acc : List U) (accD : List D) (ev2 : Ev) (σ2 : Us) (kd2 : Km) (h2 : Hh), RVs kd1 h1 ds us → n + us.length ≤ LB → Inv kd2 h2 b0 en ev2 σ2 (B + cI κ it + n * cc) → Step kd1 h1 kd2 h2 → kd2 h1.length = .free → h2[h1.length]? = some (.lst accD) → accD.length ≤ LB → RVs kd2 h2 accD acc →
        compU G (fun d e2 s2 k => vpG Cu t (fun _ _ _ _ => False) (.v d) (Bp.hide e2 vs) s2 fun e3 s3 => vpC Cu c (fun _ _ _ _ => False) e3 s3 fun r e4 s4 => if r = true then vpE Cu elt (fun _ _ _ _ => False) e4 s4 fun y e5 s5 => k (some (frzU y)) (Bp.unhide e2 e5 vs) s5 else k none (Bp.unhide e2 e4 vs) s4) (fun acc e2 s2 => Q (.own acc) e2 s2) us acc ev2 σ2 →
        compW s.ok h1.length (fun d h2 k => wpG C t (fun _ _ _ => False) d (wipeE en vs) h2 fun e3 h3 => wpC C c (fun _ _ _ => False) e3 h3 fun r h4 => if r = true then wpE C elt (fun _ _ _ => False) e3 h4 fun y h5 => k (some y) h5 else k none h4) (Q' (.ref h1.length)) ds h2 := by
      intro us
      induction us with
      | nil =>
        intro ds n acc accD ev2 σ2 kd2 h2 rds hn i2 t2 hf hp hl hacc v
        cases rds
        have hnc : n * cc ≤ LB * cc := Nat.mul_le_mul_right cc (by simpa using hn)
        exact ⟨okD _ _ _ _ _ i2 t2 v.1, k kd2 h2 _ (.own acc) _ _ (i2.up (by omega)) ⟨_, accD, rfl, hf, t1.len, hp, hl, hacc⟩ (t1.trans t2) v.2⟩
      | cons x us ih =>
        intro ds n acc accD ev2 σ2 kd2 h2 rds hn i2 t2 hf hp hl hacc v
        cases rds with
        | @cons d _ ds _ rd rds =>
        have hn1 : n + 1 ≤ LB := by rw [List.length_cons] at hn; omega
        have hmul : n * cc + cc ≤ LB * cc := mul_up hn1
        refine ⟨okD _ _ _ _ _ i2 t2 v.1, ?_⟩
        refine ht _ _ _ kd2 h2 kd2 h2 b0 _ _ _ _ (.v x) d h2.length v.2 (i2.hide vs) (RV.keep t2.toKp rd) i2.bs (Nat.le_refl _) (Nat.le_refl _) (Step.refl i2.gl.out) (by omega) (fun kd3 h3 en3 e3 s3 i3 t3 n3 z3 v3 => ?_)
        refine hc _ _ _ _ kd3 h3 b0 en3 _ _ _ v3 i3 (by omega) (fun kd4 h4 r e4 s4 i4 t4 v4 => ?_) kx0
        have hpl := lt_of hp
        by_cases hr : r = true
        · rw [if_pos hr] at v4 ⊢
          refine sl he _ _ _ (fun y e5 s5 => acc.length < 100000 ∧ compU G _ (fun acc e2 s2 => Q (.own acc) e2 s2) us (acc ++ [y]) (Bp.unhide ev2 e5 vs) s5) kd4 h4 b0 en3 _ _ _ v4 i4 (by omega) (fun kd5 h5 y uy e5 s5 i5 r5 t5 v5 => ?_) kx0
          have T := t3.trans (t4.trans t5)
          have q := T.fr h1.length hpl hf
          rw [hp] at q
          have i6 := (i2.unhide T i5 n3 z3 hsub).put q.1 (o := .lst (accD ++ [y]))
          have hlen := hacc.len
          refine ⟨accD, q.2, by have := v5.1; omega, ih ds (n + 1) (acc ++ [uy]) (accD ++ [y]) _ _ kd5 _ rds (by rw [List.length_cons] at hn; omega) (i6.up (by rw [Nat.succ_mul]; omega)) ((t2.trans T).put (Nat.le_refl _)) q.1 (get_set q.2) (by have := v5.1; simp [hlen]; unfold LB; omega) ?_ v5.2⟩
          refine ((RVs.keep T.toKp hacc).append (.cons r5 .nil)).keep ?_
          exact (i5.gl.kp_put q.1).toKp
        · rw [if_neg hr] at v4 ⊢
          have T := t3.trans t4
          have q := T.fr h1.length hpl hf
          rw [hp] at q
          exact ih ds (n + 1) acc accD _ _ kd4 _ rds (by rw [List.length_cons] at hn; omega) ((i2.unhide T i4 n3 z3 hsub).up (by rw [Nat.succ_mul]; omega)) (t2.trans T) q.1 q.2 hl (RVs.keep T.toKp hacc) v4
    exact loop items s.items 0 [] [] e1 s1 kd1 (h1 ++ [.lst []]) rsi (by rw [rsi.len] at rsl; omega) (i1.new.up (by omega)) (Step.refl i1.gl.out).new (i1.gl.out _ (Nat.le_refl _)) get_new (by simp) .nil v1
  subst hvs
  rcases v with v | ⟨j, us, hk, hdet, v⟩
  · refine hi _ _ _ _ _ _ _ _ _ _ _ v i (by omega) (fun kd1 h1 s u e1 s1 i1 rs t1 v1 => ?_) (kx.less (by omega))
    exact go kd1 h1 e1 s1 s u.items _ i1 t1 rs.items rs.len (fun kd2 h2 ev2 σ2 B2 i2 t2 g => rs.ok _ _ _ _ t2 i2.gl g) v1
  · obtain ⟨rfl, hw⟩ : it = .seq (.var j) ∧ evGet ev j = some (.own us) := by
      unfold keepI at hk
      split at hk
      · split at hk
        · cases hk; exact ⟨rfl, by assumption⟩
        · cases hk
      · cases hk
    obtain ⟨d, g1, n, ds, rfl, e2, e3, e4, e5, e6⟩ := i.sl j _ hw
    refine ⟨.ref n, g1, .inl ⟨ds, e4, ?_⟩⟩
    refine go kd h ev σ ⟨ds, [(n, .lst ds)]⟩ us _ (i.up (Nat.le_add_right _ _)) (Step.refl i.gl.out) e6 e5 (fun kd2 h2 ev2 σ2 B2 i2 t2 g p hp => ?_) v
    rw [List.mem_singleton.mp hp]
    obtain ⟨d', g1', n', ds', z, a2, a3, a4, a5, a6⟩ := i2.sl j _ g
    rw [g1] at g1'
    cases g1'
    cases z
    rw [RVs.det t2 i2.gl e6 a6 hdet] at a4
    exact a4
/-! ### statements -/
structure KP (kd : Km) (h : Hh) (b0 : Nat) (B : Nat) (P : Pu) (P' : Po) : Prop where
  nx : ∀ kd' h' en' ev' σ', Inv kd' h' b0 en' ev' σ' B → Step kd h kd' h' → P.nx ev' σ' → P'.nx en' h'
  rt : ∀ kd' h' d w σ', Glob kd' h' σ' B → RW kd' h' .free b0 w d → Step kd h kd' h' → P.rt w σ' → P'.rt d h'
  bk : ∀ kd' h' en' ev' σ', Inv kd' h' b0 en' ev' σ' B → Step kd h kd' h' → P.bk ev' σ' → P'.bk en' h'
  ct : ∀ kd' h' en' ev' σ', Inv kd' h' b0 en' ev' σ' B → Step kd h kd' h' → P.ct ev' σ' → P'.ct en' h'
  ex : ∀ kd' h' c r ru en' ev' σ', Inv kd' h' b0 en' ev' σ' B → Step kd h kd' h' → RX kd' h' r ru → P.ex c ru ev' σ' → P'.ex en' c r h'
theorem KP.step {kd kd1 : Km} {h h1 : Hh} {b0 B B1 : Nat} {P : Pu} {P' : Po} (k : KP kd h b0 B P P') (s : Step kd h kd1 h1) (l : B1 ≤ B) : KP kd1 h1 b0 B1 P P' :=
  ⟨fun kd' h' en' ev' σ' i t => k.nx kd' h' en' ev' σ' (i.up l) (s.trans t), fun kd' h' d w σ' g r t => k.rt kd' h' d w σ' (g.up l) r (s.trans t),
   fun kd' h' en' ev' σ' i t => k.bk kd' h' en' ev' σ' (i.up l) (s.trans t), fun kd' h' en' ev' σ' i t => k.ct kd' h' en' ev' σ' (i.up l) (s.trans t),
   fun kd' h' c r ru en' ev' σ' i t => k.ex kd' h' c r ru en' ev' σ' (i.up l) (s.trans t)⟩
theorem KP.kx {kd : Km} {h : Hh} {b0 B B1 : Nat} {P : Pu} {P' : Po} {en : En} (k : KP kd h b0 B P P') (l : B1 ≤ B) : KX kd h b0 en B1 P.ex (P'.ex en) :=
  fun kd' h' c r ru ev' σ' i s rx x => k.ex kd' h' c r ru en ev' σ' (i.up l) s rx x
variable (C Cu κ) in
def SSt (s : S) : Prop := ∀ ev σ P kd h b0 en B P', vpS Cu s ev σ P → Inv kd h b0 en ev σ B → B + cS κ s ≤ LIM → KP kd h b0 (B + cS κ s) P P' → wpS C s en h P'
variable (C Cu κ) in
def SSs (s : Ss) : Prop := ∀ ev σ P kd h b0 en B P', vpSs Cu s ev σ P → Inv kd h b0 en ev σ B → B + cSs κ s ≤ LIM → KP kd h b0 (B + cSs κ s) P P' → wpSs C s en h P'
theorem ss_asg {t : Tg} {a : E} (ht : SG C Cu κ t) (ha : SE C Cu κ a) : SSt C Cu κ (.asg t a) := by
  intro ev σ P kd h b0 en B P' v i l k
  have hc : cS κ (.asg t a) = cE κ a + cG κ t := rfl
  rw [hc] at l k
  refine ha _ _ _ _ _ _ _ _ _ _ _ v i (by omega) (fun kd1 h1 d w e1 s1 i1 r1 t1 v1 => ?_) (k.kx (by omega))
  exact ht _ _ _ kd h kd1 h1 b0 en _ _ _ w d h.length v1 i1 r1 i.bs (Nat.le_refl _) t1.len t1 (by omega) (fun kd2 h2 en2 e2 s2 i2 t2 _ _ v2 => k.nx kd2 h2 en2 e2 s2 (i2.up (by omega)) t2 v2)
theorem ss_setc {j : Nat} {elt : E} {t : Tg} {it : Iv} {c : Oe} {own : List (Str × Nat)} (ha : SE C Cu κ (.comp elt t it c own)) : SSt C Cu κ (.setc j elt t it c own) := by
  intro ev σ P kd h b0 en B P' v i l k
  have hc : cS κ (.setc j elt t it c own) = cE κ (.comp elt t it c own) := rfl
  rw [hc] at l k
  have v : vpE Cu (.comp elt t it c own) P.ex ev σ fun x e1 s1 => P.nx (e1.set j (some x)) s1 := v
  show wpE C (.comp elt t it c own) (P'.ex en) en h fun x h1 => P'.nx (en.set j (some x)) h1
  refine ha _ _ _ _ _ _ _ _ _ _ _ v i l (fun kd1 h1 d w e1 s1 i1 r1 t1 v1 => ?_) (k.kx (by omega))
  obtain ⟨kd', i', s', _, _, _⟩ := i1.assign r1 i.bs t1 (Nat.le_refl _) j
  exact k.nx kd' h1 _ _ _ i' s' v1
/-- two things that were just made become two names' -/
theorem Inv.assign2 {kd kd1 kd2 : Km} {h h1 h2 : Hh} {σ : Us} {B b0 : Nat} {en : En} {ev : Ev} {x y : W} {d1 d2 : D} (r1 : RW kd1 h1 .free h.length x d1) (t2 : Step kd1 h1 kd2 h2) (i2 : Inv kd2 h2 b0 en ev σ B) (r2 : RW kd2 h2 .free h1.length y d2) (hb : b0 ≤ h.length) (t1 : Step kd h kd1 h1) (p : Nat) :
    ∃ kd3, Inv kd3 h2 b0 (en.set p (some d1)) (ev.set p (some x)) σ B ∧ Step kd h kd3 h2 ∧ RW kd3 h2 .free h1.length y d2 ∧ Kp kd2 h2 kd3 h2 ∧ (∀ n, h1.length ≤ n → kd3 n = kd2 n) := by
  obtain ⟨kd3, i3, s3, kp3, fx3, q3⟩ := i2.assign (r1.step t2) hb (t1.trans t2) (Nat.le_refl _) p
  have far : ∀ n, h1.length ≤ n → kd3 n = kd2 n := by
    intro n hn
    rcases q3 n with q | ⟨rfl, q⟩
    · exact q
    · have := r1.lt q; omega
  exact ⟨kd3, i3, s3, r2.keepLo kp3 fun n e lo ln => ⟨(far n lo).trans e, rfl⟩, kp3, far⟩
theorem ss_par {a b : E} {p q : Nat} (ha : SE C Cu κ a) (hb : SE C Cu κ b) : SSt C Cu κ (.par p q a b) := by
  intro ev σ P kd h b0 en B P' v i l k
  have hc : cS κ (.par p q a b) = cE κ a + cE κ b := rfl
  rw [hc] at l k
  refine ha _ _ _ _ _ _ _ _ _ _ _ v i (by omega) (fun kd1 h1 d1 x e1 s1 i1 r1 t1 v1 => ?_) (k.kx (by omega))
  refine hb _ _ _ _ _ _ _ _ _ _ _ v1 i1 (by omega) (fun kd2 h2 d2 y e2 s2 i2 r2 t2 v2 => ?_) ((k.step t1 (Nat.le_refl _)).kx (by omega))
  obtain ⟨hpq, v2⟩ := v2
  obtain ⟨kd3, i3, s3, r2', _, _⟩ := Inv.assign2 r1 t2 i2 r2 i.bs t1 p
  obtain ⟨kd4, i4, s4, _⟩ := i3.assign r2' (Nat.le_trans i.bs t1.len) s3 t1.len q
  exact k.nx kd4 h2 _ _ _ (i4.up (by omega)) s4 v2
theorem ss_par3 {a b c : E} {p q m : Nat} (ha : SE C Cu κ a) (hb : SE C Cu κ b) (hc' : SE C Cu κ c) : SSt C Cu κ (.par3 p q m a b c) := by
  intro ev σ P kd h b0 en B P' v i l k
  have hc : cS κ (.par3 p q m a b c) = cE κ a + cE κ b + cE κ c := rfl
  rw [hc] at l k
  refine ha _ _ _ _ _ _ _ _ _ _ _ v i (by omega) (fun kd1 h1 d1 x e1 s1 i1 r1 t1 v1 => ?_) (k.kx (by omega))
  refine hb _ _ _ _ _ _ _ _ _ _ _ v1 i1 (by omega) (fun kd2 h2 d2 y e2 s2 i2 r2 t2 v2 => ?_) ((k.step t1 (Nat.le_refl _)).kx (by omega))
  refine hc' _ _ _ _ _ _ _ _ _ _ _ v2 i2 (by omega) (fun kd3 h3 d3 z e3 s3 i3 r3 t3 v3 => ?_) ((k.step (t1.trans t2) (Nat.le_refl _)).kx (by omega))
  obtain ⟨hpq, v3⟩ := v3
  obtain ⟨kd4, i4, s4, kp4, _, q4⟩ := i3.assign (r1.step (t2.trans t3)) i.bs ((t1.trans t2).trans t3) (Nat.le_refl _) p
  have far4 : ∀ n, h1.length ≤ n → kd4 n = kd3 n := by
    intro n hn
    rcases q4 n with q | ⟨rfl, q⟩
    · exact q
    · have := r1.lt q; omega
  have r2' : RW kd4 h3 .free h1.length y d2 := (r2.step t3).keepLo kp4 fun n e lo ln => ⟨(far4 n lo).trans e, rfl⟩
  have r3' : RW kd4 h3 .free h2.length z d3 := r3.keepLo kp4 fun n e lo ln => ⟨(far4 n (Nat.le_trans t2.len lo)).trans e, rfl⟩
  obtain ⟨kd5, i5, s5, kp5, _, q5⟩ := i4.assign r2' (Nat.le_trans i.bs t1.len) s4 t1.len q
  have far5 : ∀ n, h2.length ≤ n → kd5 n = kd4 n := by
    intro n hn
    rcases q5 n with q | ⟨rfl, q⟩
    · exact q
    · have := r2.lt q; omega
  have r3'' : RW kd5 h3 .free h2.length z d3 := r3'.keepLo kp5 fun n e lo ln => ⟨(far5 n lo).trans e, rfl⟩
  obtain ⟨kd6, i6, s6, _⟩ := i5.assign r3'' (Nat.le_trans i.bs (Nat.le_trans t1.len t2.len)) s5 (Nat.le_trans t1.len t2.len) m
  exact k.nx kd6 h3 _ _ _ (i6.up (by omega)) s6 v3
theorem RV.flatStays {kd : Km} {h : Hh} {d : D} {u : U} (r : RV kd h d u) (f : flatU u = true) {kd' : Km} {h' : Hh} : RV kd' h' d u := by
  cases r <;> first | exact .non | exact .bl _ | exact .int _ | exact .str _ | (simp [flatU] at f)
theorem ss_aug {a : E} {j : Nat} {o : Bo} (ha : SE C Cu κ a) : SSt C Cu κ (.aug j o a) := by
  intro ev σ P kd h b0 en B P' v i l k
  obtain ⟨x, e, f, v⟩ := v
  obtain ⟨d, g1, g2⟩ := i.sl j _ e
  refine ⟨d, g1, ?_⟩
  refine ha _ _ _ _ _ _ _ _ _ _ _ v i l (fun kd1 h1 d1 y e1 s1 i1 r1 t1 v1 => ?_) (k.kx (Nat.le_refl _))
  refine uAug_snd (RV.flatStays g2 f) r1.rr v1 fun r z q rv => ?_
  obtain ⟨kd', i', s', _, _, _⟩ := i1.assign (lo := h.length) (w := .v z) (d := r) rv i.bs t1 (Nat.le_refl _) j
  exact k.nx kd' h1 _ _ _ i' s' q
theorem ss_expr {a : E} (ha : SE C Cu κ a) : SSt C Cu κ (.expr a) := by
  intro ev σ P kd h b0 en B P' v i l k
  exact ha _ _ _ _ _ _ _ _ _ _ _ v i l (fun kd1 h1 d w e1 s1 i1 r1 t1 v1 => k.nx kd1 h1 en e1 s1 i1 t1 v1) (k.kx (Nat.le_refl _))
theorem ss_ret {a : E} (ha : SE C Cu κ a) : SSt C Cu κ (.ret a) := by
  intro ev σ P kd h b0 en B P' v i l k
  have v : opd a ev σ (vpE Cu a P.ex ev σ) (fun x e1 s1 => ∃ p, x.get e1 = some p ∧ P.rt p s1) := v
  refine sd ha _ _ _ _ _ _ _ _ _ _ _ v i l (fun kd1 h1 d o e1 s1 i1 r1 t1 v1 => ?_) (k.kx (Nat.le_refl _))
  obtain ⟨p, g1, v2⟩ := v1
  match o, r1, g1 with
  | .w w, r1, g1 => cases g1; exact k.rt kd1 h1 d p s1 i1.gl (r1.lower i.bs) t1 v2
  | .at j, r1, g1 =>
    obtain ⟨d', a1, a2⟩ := i1.sl j p g1
    have : d = d' := by have := (show en[j]? = some (some d) from r1).symm.trans a1; cases this; rfl
    subst this
    -- the name's own cell is nobody's again
    have key : ∀ n, kd1 n = .own j → n < h1.length → Glob (kset kd1 n .free) h1 s1 (B + cS κ (.ret a)) ∧ Step kd h (kset kd1 n .free) h1 := by
      intro n hk hn
      refine ⟨⟨fun m lm => ?_, fun m e => ?_, fun m q e => ?_, fun x y q ex ey => ?_⟩, t1.tag (.inr ⟨j, hk⟩) (.inr ⟨j, hk⟩)⟩
      · exact (kset_ne (by omega)).trans (i1.gl.out m lm)
      · by_cases z : m = n
        · subst z; rw [kset_self] at e; cases e
        · rw [kset_ne z] at e; exact i1.gl.box m e
      · by_cases z : m = n
        · subst z; rw [kset_self] at e; cases e
        · rw [kset_ne z] at e
          obtain ⟨uo, ob, b1, b2, b3⟩ := i1.gl.st m q e
          exact ⟨uo, ob, b1, b2, b3.keep (kp_tag (.inr ⟨j, hk⟩))⟩
      · have f : ∀ x, kset kd1 n .free x = .st q → kd1 x = .st q := by
          intro x e
          by_cases z : x = n
          · subst z; rw [kset_self] at e; cases e
          · rw [kset_ne z] at e; exact e
        exact i1.gl.inj x y q (f x ex) (f y ey)
    match p, a2, v2 with
    | .v u, a2, v2 => exact k.rt kd1 h1 d (.v u) s1 i1.gl a2 t1 v2
    | .own us, ⟨n, ds, b1, b2, b3, b4, b5, b6⟩, v2 =>
      obtain ⟨c1, c2⟩ := key n b2 (lt_of b4)
      exact k.rt _ h1 d (.own us) s1 c1 ⟨n, ds, b1, kset_self, b3, b4, b5, RVs.keep (kp_tag (.inr ⟨j, b2⟩)).toKp b6⟩ c2 v2
    | .ownD us, ⟨n, ds, b1, b2, b3, b4, b5⟩, v2 =>
      obtain ⟨c1, c2⟩ := key n b2 (lt_of b4)
      exact k.rt _ h1 d (.ownD us) s1 c1 ⟨n, ds, b1, kset_self, b3, b4, RK.keep (kp_tag (.inr ⟨j, b2⟩)).toKp b5⟩ c2 v2
theorem ss_ite {c : E} {a b : Ss} (hc : SE C Cu κ c) (ha : SSs C Cu κ a) (hb : SSs C Cu κ b) : SSt C Cu κ (.ite c a b) := by
  intro ev σ P kd h b0 en B P' v i l k
  have he : cS κ (.ite c a b) = cE κ c + (cSs κ a + cSs κ b) := rfl
  rw [he] at l k
  have v : opd c ev σ (vpE Cu c P.ex ev σ) (fun x e1 s1 => ∃ p, x.get e1 = some p ∧ truW s1 (fun r => if r = true then vpSs Cu a e1 s1 P else vpSs Cu b e1 s1 P) p) := v
  refine sd hc _ _ _ _ _ _ _ _ _ _ _ v i (by omega) (fun kd1 h1 d1 x e1 s1 i1 r1 t1 v1 => ?_) (k.kx (by omega))
  obtain ⟨p, g1, v2⟩ := v1
  refine tru_snd i1.gl (r1.rr i1 g1) (truM (fun b q => ?_) v2)
  by_cases hb' : b = true
  · rw [if_pos hb'] at q ⊢
    exact ha _ _ _ _ _ _ _ _ _ q i1 (by omega) (k.step t1 (by omega))
  · rw [if_neg hb'] at q ⊢
    exact hb _ _ _ _ _ _ _ _ _ q i1 (by omega) (k.step t1 (by omega))
theorem ss_loop {c : E} {b : Ss} (hc : SE C Cu κ c) (hb : SSs C Cu κ b) : SSt C Cu κ (.loop c b) := by
  intro ev σ P kd h b0 en B P' v i l k
  have he : cS κ (.loop c b) = 1000001 * (cE κ c + cSs κ b) := rfl
  rw [he] at l k
  generalize hcc : cE κ c + cSs κ b = cc at *
  obtain ⟨I, ⟨m0, hm0, w0⟩, hI⟩ := v
  refine ⟨fun m en' h' => ∃ kd' ev' σ', Inv kd' h' b0 en' ev' σ' (B + (1000000 - m) * cc) ∧ Step kd h kd' h' ∧ I m ev' σ' ∧ m ≤ 1000000, ⟨m0, kd, ev, σ, i.up (Nat.le_add_right _ _), Step.refl i.gl.out, w0, hm0⟩, ?_⟩
  rintro m en1 h1 ⟨kd1, ev1, σ1, i1, t1, w1, hm⟩
  have hmul : (1000000 - m) * cc + cc ≤ 1000001 * cc := mul_up (by omega)
  have v := hI m ev1 σ1 w1
  have kk := k.step t1 (Nat.le_refl _)
  refine sd hc _ _ _ _ _ _ _ _ _ _ _ v i1 (by omega) (fun kd2 h2 d2 x e2 s2 i2 r2 t2 v2 => ?_) (kk.kx (by omega))
  obtain ⟨p, g1, v2⟩ := v2
  refine tru_snd i2.gl (r2.rr i2 g1) (truM (fun r q => ?_) v2)
  by_cases hr : r = true
  · rw [if_pos hr] at q ⊢
    have next : ∀ kd' h' en' ev' σ', Inv kd' h' b0 en' ev' σ' (B + (1000000 - m) * cc + cE κ c + cSs κ b) → Step kd2 h2 kd' h' → (∃ m', m' < m ∧ I m' ev' σ') → ∃ m', m' < m ∧ ∃ kd' ev' σ', Inv kd' h' b0 en' ev' σ' (B + (1000000 - m') * cc) ∧ Step kd h kd' h' ∧ I m' ev' σ' ∧ m' ≤ 1000000 := by
      rintro kd' h' en' ev' σ' i' t' ⟨m', hm', w'⟩
      have : (1000000 - m) * cc + cc ≤ (1000000 - m') * cc := mul_up (by omega)
      exact ⟨m', hm', kd', ev', σ', i'.up (by omega), (t1.trans t2).trans t', w', by omega⟩
    refine hb _ _ _ _ _ _ _ _ _ q i2 (by omega) ⟨next, ?_, ?_, next, ?_⟩
    · exact fun kd' h' d w σ' g r t => k.rt kd' h' d w σ' (g.up (by omega)) r ((t1.trans t2).trans t)
    · exact fun kd' h' en' ev' σ' i' t => k.nx kd' h' en' ev' σ' (i'.up (by omega)) ((t1.trans t2).trans t)
    · exact fun kd' h' c r ru en' ev' σ' i' t => k.ex kd' h' c r ru en' ev' σ' (i'.up (by omega)) ((t1.trans t2).trans t)
  · rw [if_neg hr] at q ⊢
    exact k.nx kd2 h2 en1 e2 s2 (i2.up (by omega)) (t1.trans t2) q
theorem ss_each {t : Tg} {it : Iv} {b : Ss} (hi : SIv C Cu κ it) (ht : SG C Cu κ t) (hb : SSs C Cu κ b) : SSt C Cu κ (.each t it b) := by
  intro ev σ P kd h b0 en B P' v i l k
  have he : cS κ (.each t it b) = cI κ it + LB * (cG κ t + cSs κ b) := rfl
  rw [he] at l k
  generalize hcc : cG κ t + cSs κ b = cc at *
  refine hi _ _ _ _ _ _ _ _ _ _ _ v i (by omega) (fun kd1 h1 s u e1 s1 i1 rs t1 v1 => ?_) (k.kx (by omega))
  have loop : ∀ (us : List U) (ds : List D) (n : Nat) (ev2 : Ev) (σ2 : Us) (kd2 : Km) (h2 : Hh) (en2 : En), RVs kd1 h1 ds us → n + us.length ≤ LB → Inv kd2 h2 b0 en2 ev2 σ2 (B + cI κ it + n * cc) → Step kd1 h1 kd2 h2 →
      forU u.ok (fun d e2 s2 k => vpG Cu t (fun _ _ _ _ => False) (.v d) e2 s2 fun e3 s3 => vpSs Cu b e3 s3 { P with nx := k, ct := k, bk := P.nx }) P.nx us ev2 σ2 →
      forW s.ok (fun d e2 h2 k => wpG C t (fun _ _ _ => False) d e2 h2 fun e3 h3 => wpSs C b e3 h3 { P' with nx := k, ct := k, bk := P'.nx }) P'.nx ds en2 h2 := by
    intro us
    induction us with
    | nil =>
      intro ds n ev2 σ2 kd2 h2 en2 rds hn i2 t2 v
      cases rds
      have hnc : n * cc ≤ LB * cc := Nat.mul_le_mul_right cc (by simpa using hn)
      exact ⟨rs.ok _ _ _ _ t2 i2.gl v.1, k.nx kd2 h2 _ _ _ (i2.up (by omega)) (t1.trans t2) v.2⟩
    | cons x us ih =>
      intro ds n ev2 σ2 kd2 h2 en2 rds hn i2 t2 v
      cases rds with
      | @cons d _ ds _ rd rds =>
      have hn1 : n + 1 ≤ LB := by rw [List.length_cons] at hn; omega
      have hmul : n * cc + cc ≤ LB * cc := mul_up hn1
      refine ⟨rs.ok _ _ _ _ t2 i2.gl v.1, ?_⟩
      refine ht _ _ _ kd2 h2 kd2 h2 b0 _ _ _ _ (.v x) d h2.length v.2 i2 (RV.keep t2.toKp rd) i2.bs (Nat.le_refl _) (Nat.le_refl _) (Step.refl i2.gl.out) (by omega) (fun kd3 h3 en3 e3 s3 i3 t3 n3 z3 v3 => ?_)
      have next : ∀ kd' h' en' ev' σ', Inv kd' h' b0 en' ev' σ' (B + cI κ it + n * cc + cG κ t + cSs κ b) → Step kd3 h3 kd' h' → forU u.ok (fun d e2 s2 k => vpG Cu t (fun _ _ _ _ => False) (.v d) e2 s2 fun e3 s3 => vpSs Cu b e3 s3 { P with nx := k, ct := k, bk := P.nx }) P.nx us ev' σ' →
          forW s.ok (fun d e2 h2 k => wpG C t (fun _ _ _ => False) d e2 h2 fun e3 h3 => wpSs C b e3 h3 { P' with nx := k, ct := k, bk := P'.nx }) P'.nx ds en' h' :=
        fun kd' h' en' ev' σ' i' t' v' => ih ds (n + 1) ev' σ' kd' h' en' rds (by rw [List.length_cons] at hn; omega) (i'.up (by rw [Nat.succ_mul]; omega)) ((t2.trans t3).trans t') v'
      have T := t1.trans (t2.trans t3)
      refine hb _ _ _ _ _ _ _ _ _ v3 i3 (by omega) ⟨next, ?_, ?_, next, ?_⟩
      · exact fun kd' h' d w σ' g r t => k.rt kd' h' d w σ' (g.up (by omega)) r (T.trans t)
      · exact fun kd' h' en' ev' σ' i' t => k.nx kd' h' en' ev' σ' (i'.up (by omega)) (T.trans t)
      · exact fun kd' h' c r ru en' ev' σ' i' t => k.ex kd' h' c r ru en' ev' σ' (i'.up (by omega)) (T.trans t)
  exact loop u.items s.items 0 e1 s1 kd1 h1 en rs.items (by have := rs.len; rw [rs.items.len] at this; omega) (i1.up (by omega)) (Step.refl i1.gl.out) v1
theorem sss_nil : SSs C Cu κ .nil := fun ev σ P kd h b0 en B P' v i l k => k.nx kd h en ev σ (i.up (Nat.le_add_right _ _)) (Step.refl i.gl.out) v
theorem sss_cons {s : S} {r : Ss} (hs : SSt C Cu κ s) (hr : SSs C Cu κ r) : SSs C Cu κ (.cons s r) := by
  intro ev σ P kd h b0 en B P' v i l k
  have he : cSs κ (.cons s r) = cS κ s + cSs κ r := rfl
  rw [he] at l k
  refine hs _ _ _ kd h b0 en B _ v i (by omega) ⟨fun kd1 h1 en1 e1 s1 i1 t1 v1 => ?_, ?_, ?_, ?_, ?_⟩
  · exact hr _ _ _ _ _ _ _ _ _ v1 i1 (by omega) (k.step t1 (by omega))
  · exact fun kd' h' d w σ' g r t => k.rt kd' h' d w σ' (g.up (by omega)) r t
  · exact fun kd' h' en' ev' σ' i' t => k.bk kd' h' en' ev' σ' (i'.up (by omega)) t
  · exact fun kd' h' en' ev' σ' i' t => k.ct kd' h' en' ev' σ' (i'.up (by omega)) t
  · exact fun kd' h' c r ru en' ev' σ' i' t => k.ex kd' h' c r ru en' ev' σ' (i'.up (by omega)) t
end
end Bp

/-! ## classes in the second semantics -/
namespace Bp
open PySem L2
section
variable {kd kd0 : Km} {h h0 : Hh} {σ : Us} {B b0 : Nat} {en : En} {ev : Ev}
theorem RF.look {m : Nat} {f : Str} {u : U} : ∀ {ds : List (Str × D)} {ws : List (Str × W)}, RF kd h m ds ws → ws.lookup f = some (.v u) → ∃ d, ds.lookup f = some d ∧ RV kd h d u
  | _, _, .nil, e => by cases e
  | _, _, @RF.cons _ _ _ g d w _ _ r t, e => by
    rw [List.lookup_cons] at e ⊢
    cases hb : f == g with
    | true => rw [hb] at e; cases e; exact ⟨d, rfl, r⟩
    | false => rw [hb] at e; exact RF.look t e
theorem RF.lookN {m : Nat} {f : Str} : ∀ {ds : List (Str × D)} {ws : List (Str × W)}, RF kd h m ds ws → ws.lookup f = none → ds.lookup f = none
  | _, _, .nil, _ => rfl
  | _, _, @RF.cons _ _ _ g d w _ _ r t, e => by
    rw [List.lookup_cons] at e ⊢
    cases hb : f == g with
    | true => rw [hb] at e; cases e
    | false => rw [hb] at e; exact RF.lookN t e
theorem RF.put {m : Nat} (f : Str) {d : D} {u : U} (q : RV kd h d u) : ∀ {ds : List (Str × D)} {ws : List (Str × W)}, RF kd h m ds ws → RF kd h m (putFD f d ds) (putFU f (.v u) ws)
  | _, _, .nil => .cons (w := .v u) q .nil
  | _, _, @RF.cons _ _ _ g d' w _ _ r t => by
    unfold putFD putFU
    by_cases e : g = f
    · rw [if_pos e, if_pos e]; exact .cons (w := .v u) q t
    · rw [if_neg e, if_neg e]; exact .cons r (RF.put f q t)
theorem RF.len {m : Nat} : ∀ {ds : List (Str × D)} {ws : List (Str × W)}, RF kd h m ds ws → ds.length = ws.length
  | _, _, .nil => rfl
  | _, _, .cons _ t => by rw [List.length_cons, List.length_cons, t.len]
/-- a thing just made goes into the store -/
theorem Glob.promote (g : Glob kd h σ B) {n : Nat} (hn : kd n = .free) {o : O} (ho : h[n]? = some o) {uo : Uo} (r : RO kd h σ.length uo o) : Glob (kset kd n (.st σ.length)) h (σ ++ [uo]) B where
  out m l := (kset_ne (by have := lt_of ho; omega)).trans (g.out m l)
  box m e := by
    by_cases z : m = n
    · subst z; rw [kset_self] at e; cases e
    · rw [kset_ne z] at e; exact g.box m e
  st m q e := by
    by_cases z : m = n
    · subst z
      rw [kset_self] at e
      cases e
      exact ⟨uo, o, by simp, ho, r.keep (kp_tag (.inl hn))⟩
    · rw [kset_ne z] at e
      obtain ⟨uo', ob, h1, h2, h3⟩ := g.st m q e
      exact ⟨uo', ob, by rw [List.getElem?_append_left (List.getElem?_eq_some_iff.mp h1).1]; exact h1, h2, h3.keep (kp_tag (.inl hn))⟩
  inj a b q e1 e2 := by
    have key : ∀ x, kset kd n (.st σ.length) x = .st q → (x = n ∧ q = σ.length) ∨ (kd x = .st q ∧ q < σ.length) := by
      intro x e
      by_cases z : x = n
      · subst z; rw [kset_self] at e; cases e; exact .inl ⟨rfl, rfl⟩
      · rw [kset_ne z] at e
        obtain ⟨uo', ob, h1, _⟩ := g.st x q e
        exact .inr ⟨e, (List.getElem?_eq_some_iff.mp h1).1⟩
    rcases key a e1 with ⟨k1, k2⟩ | ⟨k1, k2⟩ <;> rcases key b e2 with ⟨k3, k4⟩ | ⟨k3, k4⟩
    · rw [k1, k3]
    · omega
    · omega
    · exact g.inj a b q k1 k3
theorem Inv.promote (i : Inv kd h b0 en ev σ B) {n : Nat} (hn : kd n = .free) {o : O} (ho : h[n]? = some o) {uo : Uo} (r : RO kd h σ.length uo o) : Inv (kset kd n (.st σ.length)) h b0 en ev (σ ++ [uo]) B := by
  refine ⟨i.len, fun q x e => ?_, i.gl.promote hn ho r, i.bs⟩
  obtain ⟨d', g1, g2⟩ := i.sl q x e
  refine ⟨d', g1, g2.keep (kp_tag (.inl hn)).toKp fun m em lm => ⟨(kset_ne fun z => ?_).trans em, rfl⟩⟩
  rw [z, hn] at em; cases em
theorem Step.hitSt (s : Step kd0 h0 kd h) {n m : Nat} (hn : kd n = .st m) {o : O} : Step kd0 h0 kd (h.set n o) where
  fz q e := ⟨(s.fz q e).1, by rw [get_set_ne fun z => by rw [z, (s.fz q e).1] at hn; cases hn]; exact (s.fz q e).2⟩
  bx := s.bx
  st := s.st
  len := by have := s.len; simpa using this
  fr q l e := ⟨(s.fr q l e).1, by rw [get_set_ne fun z => by rw [z, (s.fr q l e).1] at hn; cases hn]; exact (s.fr q l e).2⟩
  out := s.out
end
section
variable {C : Cn} {Cu : Cu} {κ : Nat}
theorem se_fld (F : FsOk C Cu κ) {o : E} {f : Str} (ho : SE C Cu κ o) : SE C Cu κ (.fld o f) := by
  intro X ev σ Q kd h b0 en B X' Q' v i l k kx
  refine ho _ _ _ _ _ _ _ _ _ _ _ v i l (fun kd1 h1 d w e1 s1 i1 r1 t1 v1 => ?_) kx
  obtain ⟨n, c, fs, u, rfl, e2, e3, e4, q⟩ := v1
  have r1 : RV kd1 h1 d (.ref n) := r1
  cases r1 with
  | ref a =>
    obtain ⟨uo, ob, g1, g2, g3⟩ := i1.gl.st _ _ a
    rw [e2] at g1
    cases g1
    cases g3 with
    | ins rf =>
      obtain ⟨d', l', rv⟩ := rf.look e4
      exact ⟨_, c, _, d', rfl, g2, by rw [F.fl]; exact e3, l', k kd1 h1 d' (.v u) e1 s1 i1 rv t1 q⟩
theorem se_prom {a : E} (ha : SE C Cu κ a) : SE C Cu κ (.prom a) := by
  intro X ev σ Q kd h b0 en B X' Q' v i l k kx
  refine ha _ _ _ _ _ _ _ _ _ _ _ v i l (fun kd1 h1 d w e1 s1 i1 r1 t1 v1 => ?_) kx
  rcases v1 with ⟨us, rfl, q⟩ | ⟨kvs, rfl, q⟩
  · obtain ⟨n, ds, rfl, e2, e3, e4, e5, e6⟩ := r1
    exact k _ h1 (.ref n) (.v (.ref s1.length)) e1 _ (i1.promote e2 e4 (.lst e5 e6)) (RV.ref kset_self) (t1.tag (.inl e2) (.inl e3)) q
  · obtain ⟨n, ds, rfl, e2, e3, e4, e5⟩ := r1
    exact k _ h1 (.ref n) (.v (.ref s1.length)) e1 _ (i1.promote e2 e4 (.dK e5)) (RV.ref kset_self) (t1.tag (.inl e2) (.inl e3)) q
theorem se_make (F : FsOk C Cu κ) {c : Str} {es : Es} (hs : SLs C Cu κ es) : SE C Cu κ (.make c es) := by
  intro X ev σ Q kd h b0 en B X' Q' v i l k kx
  have hc : cE κ (.make c es) = cEs κ es + κ := rfl
  rw [hc] at l k kx
  obtain ⟨g, eg, v⟩ := v
  refine ⟨g, by rw [F.mtk]; exact eg, ?_⟩
  refine hs _ _ _ _ _ _ _ _ _ _ _ v i (by omega) (fun kd1 h1 ds us e1 s1 i1 r1 t1 v1 => ?_) (kx.less (by omega))
  have fr : kd1 h1.length = .free := i1.gl.out _ (Nat.le_refl _)
  have i2 := (i1.new (o := O.ins c [])).promote (n := h1.length) fr (o := O.ins c []) get_new (uo := Uo.ins c []) (.ins .nil)
  have t2 := (t1.new (o := O.ins c [])).tag (n := h1.length) (.inl fr) (.inl t1.len) (t := .st s1.length)
  have kp : Kp kd1 h1 (kset kd1 h1.length (.st s1.length)) (h1 ++ [O.ins c []]) := i1.gl.kp_new.toKp.trans (kp_tag (.inl fr)).toKp
  have r2 : RVs (kset kd1 h1.length (.st s1.length)) (h1 ++ [O.ins c []]) (.ref h1.length :: ds) (.ref s1.length :: us) := .cons (.ref kset_self) (RVs.keep kp r1)
  refine F.fs _ _ _ _ _ (unown (kset kd1 h1.length (.st s1.length))) (h1 ++ [O.ins c []]) _ _ _ _ v1 i2.gl.unown (RVs.keep kp_unown.toKp r2) (by omega) (fun kd3 h3 d w s3 g3 r3 t3 q => ?_) (fun kd3 h3 c r ru s3 g3 t3 rx x => ?_)
  · obtain ⟨rfl, q⟩ := q
    have r3 : RV kd3 h3 d .non := r3
    cases r3
    exact ⟨rfl, k _ _ _ (.v (.ref s1.length)) _ _ ((i2.reown t3 g3).up (by omega)) (RV.ref ((step_reown i2.gl t3).st _ _ kset_self)) (t2.trans (step_reown i2.gl t3)) q⟩
  · exact kx _ _ _ _ _ _ _ ((i2.reown t3 g3).up (by omega)) (t2.trans (step_reown i2.gl t3)) (rx.keep (kp_reown i2.gl t3).toKp) x
theorem se_meth (F : FsOk C Cu κ) {o : E} {m : Str} {es : Es} (ho : SE C Cu κ o) (hs : SLs C Cu κ es) : SE C Cu κ (.meth o m es) := by
  intro X ev σ Q kd h b0 en B X' Q' v i l k kx
  have hc : cE κ (.meth o m es) = cE κ o + cEs κ es + κ := rfl
  rw [hc] at l k kx
  refine ho _ _ _ _ _ _ _ _ _ _ _ v i (by omega) (fun kd1 h1 d w e1 s1 i1 r1 t1 v1 => ?_) (kx.less (by omega))
  obtain ⟨n, c, fs, g, rfl, e2, e3, e4, v2⟩ := v1
  have r1 : RV kd1 h1 d (.ref n) := r1
  cases r1 with
  | ref a =>
    obtain ⟨uo, ob, g1, g2, g3⟩ := i1.gl.st _ _ a
    rw [e2] at g1
    cases g1
    cases g3 with
    | ins rf =>
      refine ⟨_, c, _, g, rfl, g2, by rw [F.mtk]; exact e3, rf.lookN e4, ?_⟩
      refine hs _ _ _ _ _ _ _ _ _ _ _ v2 i1 (by omega) (fun kd2 h2 ds us ev2 s2 i2 r2 t2 v3 => ?_) (kx.step t1 (by omega))
      have r2' := RVs.cons (RV.ref (h := h2) (t2.st _ _ a)) r2
      refine F.fs _ _ _ _ _ (unown kd2) h2 _ _ _ _ v3 i2.gl.unown (RVs.keep kp_unown.toKp r2') (by omega) (fun kd3 h3 d w s3 g3 r3 t3 q => ?_) (fun kd3 h3 c r ru s3 g3 t3 rx x => ?_)
      · exact k _ _ _ _ _ _ ((i2.reown t3 g3).up (by omega)) ((RW.reown i2.gl t3 r3).lower (Nat.le_trans t1.len t2.len)) ((t1.trans t2).trans (step_reown i2.gl t3)) q
      · exact kx _ _ _ _ _ _ _ ((i2.reown t3 g3).up (by omega)) ((t1.trans t2).trans (step_reown i2.gl t3)) (rx.keep (kp_reown i2.gl t3).toKp) x
theorem ss_setf (F : FsOk C Cu κ) {o a : E} {f : Str} (ho : SE C Cu κ o) (ha : SE C Cu κ a) : SSt C Cu κ (.setf o f a) := by
  intro ev σ P kd h b0 en B P' v i l k
  have hc : cS κ (.setf o f a) = cE κ a + cE κ o := rfl
  rw [hc] at l k
  refine ha _ _ _ _ _ _ _ _ _ _ _ v i (by omega) (fun kd1 h1 d w e1 s1 i1 r1 t1 v1 => ?_) (k.kx (by omega))
  refine ho _ _ _ _ _ _ _ _ _ _ _ v1 i1 (by omega) (fun kd2 h2 d2 w2 e2 s2 i2 r2 t2 v2 => ?_) ((k.step t1 (Nat.le_refl _)).kx (by omega))
  obtain ⟨n, c, fs, rfl, e3, e4, e5, q⟩ := v2
  obtain ⟨kd3, i3, s3, rv, kp3, _⟩ := i2.freeze (r1.step t2) (t1.trans t2) (Nat.le_refl _)
  have r2 : RV kd2 h2 d2 (.ref n) := r2
  cases r2 with
  | ref b =>
    have b3 := kp3.st _ _ b
    obtain ⟨uo, ob, g1, g2, g3⟩ := i3.gl.st _ _ b3
    rw [e3] at g1
    cases g1
    cases g3 with
    | ins rf =>
      refine ⟨_, c, _, rfl, g2, by rw [F.fl]; exact e4, by rw [rf.len]; exact e5, ?_⟩
      exact k.nx kd3 _ _ _ _ ((i3.hitSt b3 g2 (.ins (rf.put f rv))).up (by omega)) (s3.hitSt b3) q
theorem ss_augs (F : FsOk C Cu κ) {o j a : E} {op : Bo} (ho : SE C Cu κ o) (hj : SE C Cu κ j) (ha : SE C Cu κ a) : SSt C Cu κ (.augs o j op a) := by
  intro ev σ P kd h b0 en B P' v i l k
  have hc : cS κ (.augs o j op a) = cE κ o + cE κ j + cE κ a := rfl
  rw [hc] at l k
  have v : opd o ev σ (vpE Cu o P.ex ev σ) (fun x e1 s1 => opd j e1 s1 (vpE Cu j P.ex e1 s1) fun y e2 s2 => ∃ us k u, mutL e2 s2 x = some us ∧ y.get e2 = some (.v (.int k)) ∧ 0 ≤ k ∧ atI us k = some u ∧ flatU u = true ∧
      vpE Cu a P.ex e2 s2 fun z e3 s3 => uAug op u z fun r => ∃ us' j, mutL e3 s3 x = some us' ∧ ixN us'.length k = some j ∧ putL (us'.set j r) e3 s3 P.nx x) := v
  refine sd ho _ _ _ _ _ _ _ _ _ _ _ v i (by omega) (fun kd1 h1 d1 x e1 s1 i1 r1 t1 v1 => ?_) (k.kx (by omega))
  refine sd hj _ _ _ _ _ _ _ _ _ _ _ v1 i1 (by omega) (fun kd2 h2 d2 y e2 s2 i2 r2 t2 v2 => ?_) ((k.step t1 (Nat.le_refl _)).kx (by omega))
  obtain ⟨us, kk, u, g1, g2, g3, g4, g5, v3⟩ := v2
  have ry := r2.rr i2 g2
  cases ry
  obtain ⟨n, ds, rfl, f1, f2, f3, _⟩ := mutL_snd i2 (r1.step t2) g1
  obtain ⟨v', f5, rv⟩ := f3.at g4
  refine ⟨n, ds, kk, v', rfl, f1, rfl, g3, f5, ?_⟩
  refine ha _ _ _ _ _ _ _ _ _ _ _ v3 i2 (by omega) (fun kd3 h3 d3 z e3 s3 i3 r3 t3 v4 => ?_) ((k.step (t1.trans t2) (Nat.le_refl _)).kx (by omega))
  refine uAug_snd (RV.flatStays rv g5) r3.rr v4 fun r z q rz => ?_
  obtain ⟨us', jj, q1, q2, q3⟩ := q
  obtain ⟨n', ds', e', p1, p2, p3, p4⟩ := mutL_snd i3 ((r1.step t2).step t3) q1
  cases e'
  obtain ⟨ev', σ', q4, i4, s4, _⟩ := p4 _ (ds'.set jj r) _ (p3.al.set rz jj).rv (by simpa using p2) q3
  exact ⟨ds', jj, p1, by rw [p3.len]; exact q2, k.nx kd3 _ _ _ _ (i4.up (by omega)) (((t1.trans t2).trans t3).trans s4) q4⟩
theorem ss_augf (F : FsOk C Cu κ) {o a : E} {f : Str} {op : Bo} (ho : SE C Cu κ o) (ha : SE C Cu κ a) : SSt C Cu κ (.augf o f op a) := by
  intro ev σ P kd h b0 en B P' v i l k
  have hc : cS κ (.augf o f op a) = cE κ o + cE κ a := rfl
  rw [hc] at l k
  refine ho _ _ _ _ _ _ _ _ _ _ _ v i (by omega) (fun kd1 h1 d w e1 s1 i1 r1 t1 v1 => ?_) (k.kx (by omega))
  obtain ⟨n, c, fs, u, rfl, e2, e3, e4, e5, v2⟩ := v1
  have r1 : RV kd1 h1 d (.ref n) := r1
  cases r1 with
  | ref b =>
    obtain ⟨uo, ob, g1, g2, g3⟩ := i1.gl.st _ _ b
    rw [e2] at g1
    cases g1
    cases g3 with
    | ins rf =>
      obtain ⟨d', l', rv⟩ := rf.look e4
      refine ⟨_, c, _, d', rfl, g2, by rw [F.fl]; exact e3, l', ?_⟩
      refine ha _ _ _ _ _ _ _ _ _ _ _ v2 i1 (by omega) (fun kd2 h2 d2 y ev2 s2 i2 r2 t2 v3 => ?_) ((k.step t1 (Nat.le_refl _)).kx (by omega))
      refine uAug_snd (RV.flatStays rv e5) r2.rr v3 fun r z q rz => ?_
      obtain ⟨fs', e6, e7, q⟩ := q
      obtain ⟨uo, ob, p1, p2, p3⟩ := i2.gl.st _ _ (t2.st _ _ b)
      rw [e6] at p1
      cases p1
      cases p3 with
      | ins rf' =>
        refine ⟨_, p2, by rw [rf'.len]; exact e7, ?_⟩
        exact k.nx kd2 _ _ _ _ ((i2.hitSt (t2.st _ _ b) p2 (.ins (rf'.put f rz))).up (by omega)) ((t1.trans t2).hitSt (t2.st _ _ b)) q
/-! ### exceptions -/
theorem se_isx (F : FsOk C Cu κ) {a : E} {cs : List Str} (ha : SE C Cu κ a) : SE C Cu κ (.isx a cs) := by
  intro X ev σ Q kd h b0 en B X' Q' v i l k kx
  refine ha _ _ _ _ _ _ _ _ _ _ _ v i l (fun kd1 h1 d w e1 s1 i1 r1 t1 v1 => ?_) kx
  obtain ⟨n, c, p, rfl, e2, e3, e4, q⟩ := v1
  have r1 : RV kd1 h1 d (.ref n) := r1
  cases r1 with
  | ref a =>
    obtain ⟨uo, ob, g1, g2, g3⟩ := i1.gl.st _ _ a
    rw [e2] at g1
    cases g1
    cases g3 with
    | exc rx =>
      refine ⟨_, c, _, rfl, g2, by rw [F.xk]; exact e3, by rw [F.xk]; exact e4, ?_⟩
      rw [F.sb]
      exact k kd1 h1 _ (.v (.bl _)) e1 s1 i1 (.bl _) t1 q
theorem se_xfld (F : FsOk C Cu κ) {a : E} (ha : SE C Cu κ a) : SE C Cu κ (.xfld a) := by
  intro X ev σ Q kd h b0 en B X' Q' v i l k kx
  refine ha _ _ _ _ _ _ _ _ _ _ _ v i l (fun kd1 h1 d w e1 s1 i1 r1 t1 v1 => ?_) kx
  obtain ⟨n, c, p, rfl, e2, e3, q⟩ := v1
  have r1 : RV kd1 h1 d (.ref n) := r1
  cases r1 with
  | ref a =>
    obtain ⟨uo, ob, g1, g2, g3⟩ := i1.gl.st _ _ a
    rw [e2] at g1
    cases g1
    cases g3 with
    | @exc _ p' _ rx =>
      cases p' with
      | none => exact rx.elim
      | some d' => exact ⟨_, c, d', rfl, g2, by rw [F.xk]; exact e3, k kd1 h1 d' (.v p) e1 s1 i1 rx t1 q⟩
theorem Inv.unset {kd : Km} {h : Hh} {σ : Us} {B b0 : Nat} {en : En} {ev : Ev} (i : Inv kd h b0 en ev σ B) (j : Nat) : Inv kd h b0 (en.set j none) (ev.set j none) σ B where
  len := by simp [i.len]
  sl q w e := by
    rcases evGet_set e with ⟨_, z, _⟩ | ⟨hj, e⟩
    · cases z
    · obtain ⟨d, g1, g2⟩ := i.sl q w e
      exact ⟨d, by rw [List.getElem?_set_ne (Ne.symm hj)]; exact g1, g2⟩
  gl := i.gl
  bs := i.bs
variable (C Cu κ) in
def STh (a : List Th) : Prop := ∀ ev σ P kd h b0 en B P', vpTh Cu a ev σ P → Inv kd h b0 en ev σ B → B + cTh κ a ≤ LIM → KP kd h b0 (B + cTh κ a) P P' → wpTh C a en h P'
theorem kxF {kd : Km} {h : Hh} {b0 B : Nat} {en : En} : KX kd h b0 en B (fun _ _ _ _ => False) (fun _ _ _ => False) := fun _ _ _ _ _ _ _ _ _ _ x => x.elim
theorem sth (hE : ∀ a, SE C Cu κ a) : ∀ su : List Th, STh C Cu κ su
  | [], ev, σ, P, kd, h, b0, en, B, P', v, i, l, k => k.nx kd h en ev σ (i.up (Nat.le_add_right _ _)) (Step.refl i.gl.out) v
  | .asg j a :: r, ev, σ, P, kd, h, b0, en, B, P', v, i, l, k => by
    have hc : cTh κ (.asg j a :: r) = cE κ a + cTh κ r := rfl
    rw [hc] at l k
    refine hE a _ _ _ _ _ _ _ _ _ _ _ v i (by omega) (fun kd1 h1 d w e1 s1 i1 r1 t1 v1 => ?_) kxF
    obtain ⟨kd', i', s', _, _, _⟩ := i1.assign r1 i.bs t1 (Nat.le_refl _) j
    exact sth hE r _ _ _ _ _ _ _ _ _ v1 i' (by omega) (k.step s' (by omega))
  | .ret a :: r, ev, σ, P, kd, h, b0, en, B, P', v, i, l, k => by
    have hc : cTh κ (.ret a :: r) = cE κ a + cTh κ r := rfl
    rw [hc] at l k
    have hc2 : cS κ (.ret a) = cE κ a := rfl
    have z : wpS C (.ret a) en h { P' with ex := fun _ _ _ _ => False } := ss_ret (hE a) ev σ { P with ex := fun _ _ _ _ => False } kd h b0 en B _ v i (by omega) ⟨fun kd' h' en' ev' σ' i t => k.nx kd' h' en' ev' σ' (i.up (by omega)) t, fun kd' h' d w σ' g r t => k.rt kd' h' d w σ' (g.up (by omega)) r t, fun kd' h' en' ev' σ' i t => k.bk kd' h' en' ev' σ' (i.up (by omega)) t, fun kd' h' en' ev' σ' i t => k.ct kd' h' en' ev' σ' (i.up (by omega)) t, fun _ _ _ _ _ _ _ _ _ _ _ x => x.elim⟩
    exact z
  | .retn :: r, ev, σ, P, kd, h, b0, en, B, P', v, i, l, k => k.rt kd h .non (.v .non) σ (i.gl.up (Nat.le_add_right _ _)) .non (Step.refl i.gl.out) v
  | .expr a :: r, ev, σ, P, kd, h, b0, en, B, P', v, i, l, k => by
    have hc : cTh κ (.expr a :: r) = cE κ a + cTh κ r := rfl
    rw [hc] at l k
    exact hE a _ _ _ _ _ _ _ _ _ _ _ v i (by omega) (fun kd1 h1 d w e1 s1 i1 r1 t1 v1 => sth hE r _ _ _ _ _ _ _ _ _ v1 i1 (by omega) (k.step t1 (by omega))) kxF
theorem FsOk.hot (F : FsOk C Cu κ) : FsOk C.hot Cu.hot κ :=
  ⟨F.gl, rfl, F.td, F.fl, F.mtk, F.sb, F.xk, fun _ _ _ _ _ _ _ _ _ v => v.elim, fun f us σ Q X kd h ds B Q' X' v g r l kq _ => F.fh f us σ Q kd h ds B Q' v g r l kq⟩
theorem ss_rais0 (F : FsOk C Cu κ) {c : Str} : SSt C Cu κ (.rais0 c) := by
  intro ev σ P kd h b0 en B P' v i l k
  exact ⟨by rw [F.xk]; exact v.1, k.ex kd h c none none en ev σ (i.up (Nat.le_add_right _ _)) (Step.refl i.gl.out) trivial v.2⟩
theorem ss_raisR (F : FsOk C Cu κ) {c : Str} {a : E} (ha : SE C Cu κ a) : SSt C Cu κ (.raisR c a) := by
  intro ev σ P kd h b0 en B P' v i l k
  have hc : cS κ (.raisR c a) = cE κ a := rfl
  rw [hc] at l k
  refine ⟨by rw [F.xk]; exact v.1, ?_⟩
  refine sl ha _ _ _ (fun u e1 s1 => P.ex c (some u) e1 s1) _ _ _ _ _ _ _ v.2 i l (fun kd1 h1 d u e1 s1 i1 r1 t1 v1 => ?_) (k.kx (Nat.le_refl _))
  exact k.ex kd1 h1 c (some d) (some u) en e1 s1 i1 t1 r1 v1
theorem ss_tryA (F : FsOk C Cu κ) {b : Ss} {c0 : Str} {j : Nat} {su : List Th} (hb : SSs C Cu κ b) (hs : STh C.hot Cu.hot κ su) : SSt C Cu κ (.tryA b c0 j su) := by
  intro ev σ P kd h b0 en B P' v i l k
  have hc : cS κ (.tryA b c0 j su) = cSs κ b + cTh κ su := rfl
  rw [hc] at l k
  refine ⟨by rw [F.xk]; exact v.1, ?_⟩
  refine hb _ _ _ kd h b0 en B _ v.2 i (by omega) ⟨fun kd' h' en' ev' σ' i t => k.nx kd' h' en' ev' σ' (i.up (by omega)) t, fun kd' h' d w σ' g r t => k.rt kd' h' d w σ' (g.up (by omega)) r t, fun kd' h' en' ev' σ' i t => k.bk kd' h' en' ev' σ' (i.up (by omega)) t, fun kd' h' en' ev' σ' i t => k.ct kd' h' en' ev' σ' (i.up (by omega)) t, ?_⟩
  intro kd1 h1 c r ru en1 ev1 σ1 i1 t1 rx x
  obtain ⟨x1, x2⟩ := x
  refine ⟨by rw [F.xk]; exact x1, ?_⟩
  rw [F.sb]
  by_cases hsb : Cu.sb c c0 = true
  · rw [if_pos hsb] at x2 ⊢
    have fr : kd1 h1.length = .free := i1.gl.out _ (Nat.le_refl _)
    have kp : Kp kd1 h1 (kset kd1 h1.length (.st σ1.length)) (h1 ++ [O.exc c r]) := i1.gl.kp_new.toKp.trans (kp_tag (.inl fr)).toKp
    have i2 := (i1.new (o := O.exc c r)).promote (n := h1.length) fr (o := O.exc c r) get_new (uo := Uo.exc c ru) (.exc (rx.keep i1.gl.kp_new.toKp))
    have t2 := (t1.new (o := O.exc c r)).tag (n := h1.length) (.inl fr) (.inl t1.len) (t := .st σ1.length)
    obtain ⟨kd3, i3, t3, _⟩ := i2.assign (lo := h.length) (w := .v (.ref σ1.length)) (d := .ref h1.length) (RV.ref kset_self) i.bs t2 (Nat.le_refl _) j
    refine hs _ _ _ kd3 _ b0 _ _ _ x2 i3 (by omega) ⟨fun kd' h' en' ev' σ' i t q => k.nx kd' h' _ _ σ' ((i.unset j).up (by omega)) (t3.trans t) q, fun kd' h' d w σ' g r t q => k.rt kd' h' d w σ' (g.up (by omega)) r (t3.trans t) q, fun kd' h' en' ev' σ' i t q => k.bk kd' h' _ _ σ' ((i.unset j).up (by omega)) (t3.trans t) q, fun kd' h' en' ev' σ' i t q => k.ct kd' h' _ _ σ' ((i.unset j).up (by omega)) (t3.trans t) q, fun _ _ _ _ _ _ _ _ _ _ _ x => x.elim⟩
  · rw [if_neg hsb] at x2 ⊢
    exact k.ex kd1 h1 c r ru en1 ev1 σ1 (i1.up (by omega)) t1 rx x2
theorem ss_tryM (F : FsOk C Cu κ) {b : Ss} {hs : List (Str × List Th)} (hb : SSs C Cu κ b) (hsu : ∀ su, STh C.hot Cu.hot κ su) : SSt C Cu κ (.tryM b hs) := by
  intro ev σ P kd h b0 en B P' v i l k
  have hc : cS κ (.tryM b hs) = cSs κ b + cHs κ hs := rfl
  rw [hc] at l k
  refine ⟨by rw [F.xk]; exact v.1, ?_⟩
  refine hb _ _ _ kd h b0 en B _ v.2 i (by omega) ⟨fun kd' h' en' ev' σ' i t => k.nx kd' h' en' ev' σ' (i.up (by omega)) t, fun kd' h' d w σ' g r t => k.rt kd' h' d w σ' (g.up (by omega)) r t, fun kd' h' en' ev' σ' i t => k.bk kd' h' en' ev' σ' (i.up (by omega)) t, fun kd' h' en' ev' σ' i t => k.ct kd' h' en' ev' σ' (i.up (by omega)) t, ?_⟩
  intro kd1 h1 c r ru en1 ev1 σ1 i1 t1 rx x
  have go : ∀ hs', cHs κ hs' ≤ cHs κ hs → vpHs Cu P c ru ev1 σ1 hs' → wpHs C P' c r en1 h1 hs' := by
    intro hs'
    induction hs' with
    | nil => intro _ x; exact k.ex kd1 h1 c r ru en1 ev1 σ1 (i1.up (by omega)) t1 rx x
    | cons p rr ih =>
      obtain ⟨c0, su⟩ := p
      intro hl x
      have hl : cTh κ su + cHs κ rr ≤ cHs κ hs := hl
      obtain ⟨x1, x2⟩ := x
      refine ⟨by rw [F.xk]; exact x1, ?_⟩
      rw [F.sb]
      by_cases hsb : Cu.sb c c0 = true
      · rw [if_pos hsb] at x2 ⊢
        refine hsu su _ _ _ kd1 _ b0 _ _ _ x2 i1 (by omega) ⟨fun kd' h' en' ev' σ' i t q => k.nx kd' h' _ _ σ' (i.up (by omega)) (t1.trans t) q, fun kd' h' d w σ' g r t q => k.rt kd' h' d w σ' (g.up (by omega)) r (t1.trans t) q, fun kd' h' en' ev' σ' i t q => k.bk kd' h' _ _ σ' (i.up (by omega)) (t1.trans t) q, fun kd' h' en' ev' σ' i t q => k.ct kd' h' _ _ σ' (i.up (by omega)) (t1.trans t) q, fun _ _ _ _ _ _ _ _ _ _ _ x => x.elim⟩
      · rw [if_neg hsb] at x2 ⊢
        exact ih (by omega) x2
  exact go hs (Nat.le_refl _) x
end
end Bp

namespace Bp
open PySem L2
section
variable {C : Cn} {Cu : Cu} {κ : Nat} (F : FsOk C Cu κ)
include F
mutual
theorem snd_E : ∀ a : E, SE C Cu κ a
  | .var _ => se_var
  | .non => se_non
  | .bl _ => se_bl
  | .int _ => se_int
  | .str _ => se_str
  | .glob _ => se_glob F
  | .bin _ a b => se_bin (snd_E a) (snd_E b)
  | .neg a => se_neg (snd_E a)
  | .not a => se_not (snd_E a)
  | .bop _ es => se_bop (snd_B es)
  | .cmp _ a b => se_cmp (snd_E a) (snd_E b)
  | .cmp2 _ _ a b c => se_cmp2 (snd_E a) (snd_E b) (snd_E c)
  | .ite c a b => se_ite (snd_E c) (snd_E a) (snd_E b)
  | .tup es => se_tup (snd_Ls es)
  | .lst es => se_list (snd_Ls es)
  | .dct es => se_dct (snd_Ls es)
  | .tab _ i => se_tab F (snd_E i)
  | .tabG _ i d => se_tabG F (snd_E i) (snd_E d)
  | .tabIn _ _ i => se_tabIn F (snd_E i)
  | .idx a i => se_idx (snd_E a) (snd_E i)
  | .sli a lo hi => se_sli (snd_E a) (snd_O lo) (snd_O hi)
  | .rev a => se_rev (snd_E a)
  | .call _ es => se_call F (snd_Ls es)
  | .bi _ es => se_bi (snd_Ds es)
  | .rng _ a b => se_rng (snd_E a) (snd_E b)
  | .mt _ o es => se_mt (snd_E o) (snd_Ls es)
  | .isi a _ => se_isi (snd_E a)
  | .comp elt t it c _ => se_comp (snd_I it) (snd_G t) (snd_C c) (snd_E elt)
  | .fld o _ => se_fld F (snd_E o)
  | .meth o _ es => se_meth F (snd_E o) (snd_Ls es)
  | .make _ es => se_make F (snd_Ls es)
  | .prom a => se_prom (snd_E a)
  | .nest _ a => se_nest (snd_E a)
  | .isx a _ => se_isx F (snd_E a)
  | .xfld a => se_xfld F (snd_E a)
theorem snd_B : ∀ es : Es, SB C Cu κ es
  | .nil => sb_nil
  | .cons a .nil => sb_one (snd_E a)
  | .cons a (.cons b r) => sb_cons (snd_E a) (snd_B (.cons b r))
theorem snd_Ls : ∀ es : Es, SLs C Cu κ es
  | .nil => sls_nil
  | .cons a r => sls_cons (snd_E a) (snd_Ls r)
theorem snd_Ds : ∀ es : Es, SDs C Cu κ es
  | .nil => sds_nil
  | .cons a r => sds_cons (snd_E a) (snd_Ds r)
theorem snd_O : ∀ a : Oe, SOe C Cu κ a
  | .none => so_none
  | .some a => so_some (snd_E a)
theorem snd_C : ∀ a : Oe, SC C Cu κ a
  | .none => sc_none
  | .some a => sc_some (snd_E a)
theorem snd_I : ∀ a : Iv, SIv C Cu κ a
  | .seq a => si_seq (snd_E a)
  | .rng1 a => si_rng1 (snd_E a)
  | .rng2 a b => si_rng2 (snd_E a) (snd_E b)
  | .rngd a b => si_rngd (snd_E a) (snd_E b)
  | .enu a => si_enu (snd_E a)
  | .zip a b => si_zip (snd_E a) (snd_E b)
  | .rvs a => si_rvs (snd_E a)
  | .keys _ => fun _ _ _ _ _ _ _ _ _ _ _ v => v.elim
theorem snd_G : ∀ t : Tg, SG C Cu κ t
  | .nm _ => sg_nm
  | .tp ts => sg_tp (snd_Gs ts)
  | .sub a b => sg_sub (snd_E a) (snd_E b)
theorem snd_Gs : ∀ t : Tgs, SGs C Cu κ t
  | .nil => sgs_nil
  | .cons t ts => sgs_cons (snd_G t) (snd_Gs ts)
end
mutual
theorem snd_S : ∀ s : S, SSt C Cu κ s
  | .asg t a => ss_asg (snd_G F t) (snd_E F a)
  | .setc _ elt t it c own => ss_setc (snd_E F (.comp elt t it c own))
  | .par _ _ a b => ss_par (snd_E F a) (snd_E F b)
  | .par3 _ _ _ a b c => ss_par3 (snd_E F a) (snd_E F b) (snd_E F c)
  | .aug _ _ a => ss_aug (snd_E F a)
  | .expr a => ss_expr (snd_E F a)
  | .ret a => ss_ret (snd_E F a)
  | .ite c a b => ss_ite (snd_E F c) (snd_Ss a) (snd_Ss b)
  | .loop c b => ss_loop (snd_E F c) (snd_Ss b)
  | .each t it b => ss_each (snd_I F it) (snd_G F t) (snd_Ss b)
  | .eachK _ _ _ => fun _ _ _ _ _ _ _ _ _ v => v.elim
  | .brk => fun ev σ P kd h b0 en B P' v i l k => k.bk kd h en ev σ (i.up (Nat.le_add_right _ _)) (Step.refl i.gl.out) v
  | .cont => fun ev σ P kd h b0 en B P' v i l k => k.ct kd h en ev σ (i.up (Nat.le_add_right _ _)) (Step.refl i.gl.out) v
  | .pass => fun ev σ P kd h b0 en B P' v i l k => k.nx kd h en ev σ (i.up (Nat.le_add_right _ _)) (Step.refl i.gl.out) v
  | .setf o _ a => ss_setf F (snd_E F o) (snd_E F a)
  | .augf o _ _ a => ss_augf F (snd_E F o) (snd_E F a)
  | .augs o i _ a => ss_augs F (snd_E F o) (snd_E F i) (snd_E F a)
  | .retn => fun ev σ P kd h b0 en B P' v i l k => k.rt kd h .non (.v .non) σ (i.gl.up (Nat.le_add_right _ _)) .non (Step.refl i.gl.out) v
  | .rais => fun _ _ _ _ _ _ _ _ _ v => v.elim
  | .tri _ => fun _ _ _ _ _ _ _ _ _ v => v.elim
  | .rais0 _ => ss_rais0 F
  | .raisR _ a => ss_raisR F (snd_E F a)
  | .tryA b _ _ su => ss_tryA F (snd_Ss b) (sth (snd_E F.hot) su)
  | .tryM b hs => ss_tryM F (snd_Ss b) (sth (snd_E F.hot))
theorem snd_Ss : ∀ s : Ss, SSs C Cu κ s
  | .nil => sss_nil
  | .cons s r => sss_cons (snd_S s) (snd_Ss r)
end
end
/-- what's tame calls nothing -/
theorem tame_c (g : Bool) : ∀ (a : E), tameE g a = true → cE 0 a = 0 := by
  have main : ∀ n, (∀ a : E, sizeOf a ≤ n → tameE g a = true → cE 0 a = 0) ∧ (∀ a : Es, sizeOf a ≤ n → tameEs g a = true → cEs 0 a = 0) := by
    intro n
    induction n with
    | zero =>
      exact ⟨fun a h => by cases a <;> simp at h, fun a h => by cases a <;> simp at h⟩
    | succ n ih =>
      refine ⟨fun a h t => ?_, fun a h t => ?_⟩
      · cases a with
        | bin o a b =>
          cases o <;> simp only [tameE, Bool.and_eq_true, Bool.false_eq_true] at t
          simp only [E.bin.sizeOf_spec] at h
          show cE 0 a + cE 0 b = 0
          rw [ih.1 a (by omega) t.1, ih.1 b (by omega) t.2]
        | neg a => simp only [tameE] at t; simp only [E.neg.sizeOf_spec] at h; exact ih.1 a (by omega) t
        | not a => simp only [tameE] at t; simp only [E.not.sizeOf_spec] at h; exact ih.1 a (by omega) t
        | bop k es => simp only [tameE] at t; simp only [E.bop.sizeOf_spec] at h; exact ih.2 es (by omega) t
        | ite c a b =>
          simp only [tameE, Bool.and_eq_true] at t
          simp only [E.ite.sizeOf_spec] at h
          show cE 0 c + (cE 0 a + cE 0 b) = 0
          rw [ih.1 c (by omega) t.1.1, ih.1 a (by omega) t.1.2, ih.1 b (by omega) t.2]
        | tup es => simp only [tameE] at t; simp only [E.tup.sizeOf_spec] at h; exact ih.2 es (by omega) t
        | idx a b =>
          simp only [tameE, Bool.and_eq_true] at t
          simp only [E.idx.sizeOf_spec] at h
          show cE 0 a + cE 0 b = 0
          rw [ih.1 a (by omega) t.1, ih.1 b (by omega) t.2]
        | fld a f => simp only [tameE] at t; simp only [E.fld.sizeOf_spec] at h; exact ih.1 a (by omega) t
        | isx a cs => simp only [tameE] at t; simp only [E.isx.sizeOf_spec] at h; exact ih.1 a (by omega) t
        | xfld a => simp only [tameE] at t; simp only [E.xfld.sizeOf_spec] at h; exact ih.1 a (by omega) t
        | bi b es =>
          cases b
          case str =>
           cases es with
           | nil => simp only [tameE, Bool.false_eq_true] at t
           | cons a r => cases r with
             | nil =>
               simp only [tameE, Bool.and_eq_true] at t
               simp only [E.bi.sizeOf_spec, Es.cons.sizeOf_spec, Es.nil.sizeOf_spec] at h
               show cE 0 a + 0 = 0
               rw [ih.1 a (by omega) t.2]
             | cons b r => exact Bool.noConfusion (show false = true from t)
          all_goals exact Bool.noConfusion (show false = true from t)
        | var _ => rfl
        | non => rfl
        | bl _ => rfl
        | int _ => rfl
        | str _ => rfl
        | glob _ => rfl
        | _ => exact Bool.noConfusion (show false = true from t)
      · cases a with
        | nil => rfl
        | cons a r =>
          simp only [tameEs, Bool.and_eq_true] at t
          simp only [Es.cons.sizeOf_spec] at h
          show cE 0 a + cEs 0 r = 0
          rw [ih.1 a (by omega) t.1, ih.2 r (by omega) t.2]
  exact fun a => (main _).1 a (Nat.le_refl _)
/-! ### defs -/
def sumC (κ : Nat) : List (Str × Fn) → Nat
  | [] => 0
  | p :: r => cSs κ p.2.body + sumC κ r
def kap (T : Tb) : Nat → Nat
  | 0 => 0
  | k + 1 => 1 + (sumC (kap T k) T.fns + sumC (kap T k) T.mts) + kap T k
theorem sumC_mem {κ : Nat} {f : Str} {F : Fn} : ∀ {l : List (Str × Fn)}, (f, F) ∈ l → cSs κ F.body ≤ sumC κ l
  | p :: r, h => by
    rcases List.mem_cons.mp h with rfl | h
    · exact Nat.le_add_right _ _
    · exact Nat.le_trans (sumC_mem h) (Nat.le_add_left _ _)
/-- a def that is told by hand does what is told -/
def PrOk (T : Tb) (f : Str) (p : Prim) : Prop := ∀ k us σ (Q : W → Us → Prop) kd h ds B (Q' : Qd) (X' : Xq), p us σ Q → Glob kd h σ B → RVs kd h ds us → B + 1 ≤ LIM →
  (∀ kd' h' d w σ', Glob kd' h' σ' (B + 1) → RW kd' h' .free h.length w d → Step kd h kd' h' → Q w σ' → Q' d h') → FS T (k + 3) f ds h Q' X'
theorem evGet_args {us : List U} {n i : Nat} {w : W} (e : evGet (us.map (fun u => some (.v u)) ++ List.replicate n none) i = some w) : ∃ u, us[i]? = some u ∧ w = .v u := by
  unfold evGet at e
  by_cases hi : i < us.length
  · rw [List.getElem?_append_left (by simpa using hi), List.getElem?_map] at e
    rw [List.getElem?_eq_getElem hi] at e ⊢
    cases e
    exact ⟨_, rfl, rfl⟩
  · rw [List.getElem?_append_right (by simpa using hi)] at e
    rw [List.getElem?_replicate] at e
    split at e
    · rename_i h; split at h <;> cases h
    · cases e
/-- calls within an except suite -/
theorem fsH_ok (T : Tu) (κ : Nat) : ∀ f us σ Q kd h ds B Q', ufH T f us σ Q → Glob kd h σ B → RVs kd h ds us → B + κ ≤ LIM →
    (∀ kd' h' d w σ', Glob kd' h' σ' (B + κ) → RW kd' h' .free h.length w d → Step kd h kd' h' → Q w σ' → Q' d h') → fsH T.T f ds h Q' := by
  intro f us σ Q kd h ds B Q' v g r l kq
  obtain ⟨F, hf, hlen, ht, v⟩ := v
  have F0 : FsOk (cn0 T.T) (cu0 T) 0 := ⟨rfl, rfl, rfl, rfl, rfl, rfl, rfl, fun _ _ _ _ _ _ _ _ _ v => v.elim, fun _ _ _ _ _ _ _ _ _ _ _ v => v.elim⟩
  have hc : cSs 0 F.body = 0 := by
    obtain ⟨ps, ns, body⟩ := F
    dsimp only at ht ⊢
    unfold tameF at ht
    split at ht
    · rename_i o f a
      rw [Bool.and_eq_true] at ht
      show cE 0 a + cE 0 o + 0 = 0
      rw [tame_c _ _ ht.1, tame_c _ _ ht.2]
    · cases ht
  refine ⟨F, hf, by rw [r.len]; exact hlen, ht, ?_⟩
  refine snd_Ss F0 F.body _ _ _ kd h h.length _ B _ v ⟨?_, ?_, g, Nat.le_refl _⟩ (by omega) ⟨?_, ?_, ?_, ?_, ?_⟩
  · simp [r.len]
  · intro i w e
    obtain ⟨u, e1, rfl⟩ := evGet_args e
    obtain ⟨d, e2, rv⟩ := r.al.get e1
    refine ⟨d, ?_, rv⟩
    have : i < ds.length := (List.getElem?_eq_some_iff.mp e2).1
    rw [List.getElem?_append_left (by simpa using this), List.getElem?_map, e2]; rfl
  · exact fun kd' h' en' ev' σ' i' t q => kq kd' h' .non (.v .non) σ' (i'.gl.up (by omega)) .non t q
  · exact fun kd' h' d w σ' g' rw' t q => kq kd' h' d w σ' (g'.up (by omega)) rw' t q
  · exact fun _ _ _ _ _ _ _ z => z.elim
  · exact fun _ _ _ _ _ _ _ z => z.elim
  · exact fun _ _ _ _ _ _ _ _ _ _ _ z => z.elim
theorem fs_ok (T : Tu) (hp : ∀ f p, T.pr.lookup f = some p → PrOk T.T f p) : ∀ k, FsOk (cnOf T.T k) (cuOf T (UF T k)) (kap T.T k) := by
  have hH : ∀ k, ∀ f us σ Q kd h ds B Q', ufH T f us σ Q → Glob kd h σ B → RVs kd h ds us → B + kap T.T k ≤ LIM →
    (∀ kd' h' d w σ', Glob kd' h' σ' (B + kap T.T k) → RW kd' h' .free h.length w d → Step kd h kd' h' → Q w σ' → Q' d h') → fsH T.T f ds h Q' := fun k => fsH_ok T (kap T.T k)
  have body : ∀ k κ, FsOk (cnOf T.T k) (cuOf T (UF T k)) (kap T.T k) → 1 + (sumC (kap T.T k) T.T.fns + sumC (kap T.T k) T.T.mts) ≤ κ →
      ∀ (f : Str) (us : List U) (σ : Us) (Q : W → Us → Prop) (X : Str → Option U → Us → Prop) (kd : Km) (h : Hh) (ds : List D) (B : Nat) (Q' : Qd) (X' : Xq), ufB T (UF T k) f us σ Q X → Glob kd h σ B → RVs kd h ds us → B + κ ≤ LIM →
      (∀ kd' h' d w σ', Glob kd' h' σ' (B + κ) → RW kd' h' .free h.length w d → Step kd h kd' h' → Q w σ' → Q' d h') → (∀ kd' h' c r ru σ', Glob kd' h' σ' (B + κ) → Step kd h kd' h' → RX kd' h' r ru → X c ru σ' → X' c r h') → fsB T.T (FS T.T k) f ds h Q' X' := by
    intro k κ ih hκ f us σ Q X kd h ds B Q' X' v g r l kq kx
    obtain ⟨F, hf, hlen, v⟩ := v
    have hm : cSs (kap T.T k) F.body ≤ sumC (kap T.T k) T.T.fns + sumC (kap T.T k) T.T.mts := by
      unfold Tb.df at hf
      split at hf
      · rename_i F' hf'
        cases hf
        exact Nat.le_trans (sumC_mem (lookup_mem hf')) (Nat.le_add_right _ _)
      · exact Nat.le_trans (sumC_mem (lookup_mem hf)) (Nat.le_add_left _ _)
    refine ⟨F, hf, by rw [r.len]; exact hlen, ?_⟩
    refine snd_Ss ih F.body _ _ _ kd h h.length _ B _ v ⟨?_, ?_, g, Nat.le_refl _⟩ (by omega) ⟨?_, ?_, ?_, ?_, ?_⟩
    · simp [r.len]
    · intro i w e
      obtain ⟨u, e1, rfl⟩ := evGet_args e
      obtain ⟨d, e2, rv⟩ := r.al.get e1
      refine ⟨d, ?_, rv⟩
      have : i < ds.length := (List.getElem?_eq_some_iff.mp e2).1
      rw [List.getElem?_append_left (by simpa using this), List.getElem?_map, e2]; rfl
    · exact fun kd' h' en' ev' σ' i' t q => kq kd' h' .non (.v .non) σ' (i'.gl.up (by omega)) .non t q
    · exact fun kd' h' d w σ' g' rw' t q => kq kd' h' d w σ' (g'.up (by omega)) rw' t q
    · exact fun _ _ _ _ _ _ _ z => z.elim
    · exact fun _ _ _ _ _ _ _ z => z.elim
    · exact fun kd' h' c r ru en' ev' σ' i' t rx x => kx kd' h' c r ru σ' (i'.gl.up (by omega)) t rx x
  have both : ∀ k, FsOk (cnOf T.T k) (cuOf T (UF T k)) (kap T.T k) ∧ FsOk (cnOf T.T (k + 1)) (cuOf T (UF T (k + 1))) (kap T.T (k + 1)) := by
    intro k
    induction k with
    | zero =>
      have h0 : FsOk (cnOf T.T 0) (cuOf T (UF T 0)) (kap T.T 0) := ⟨rfl, rfl, rfl, rfl, rfl, rfl, rfl, hH 0, fun f us σ Q X kd h ds B Q' X' v => v.elim⟩
      refine ⟨h0, rfl, rfl, rfl, rfl, rfl, rfl, rfl, hH 1, fun f us σ Q X kd h ds B Q' X' v g r l kq kx => ?_⟩
      exact ⟨v.2.1, body 0 _ h0 (Nat.le_add_right _ _) f us σ Q X kd h ds B Q' X' v.2.2 g r l kq kx⟩
    | succ k ih =>
      refine ⟨ih.2, rfl, rfl, rfl, rfl, rfl, rfl, rfl, hH (k + 1 + 1), fun f us σ Q X kd h ds B Q' X' v g r l kq kx => ?_⟩
      have v : match T.pr.lookup f with
        | some p => 1 ≤ k ∧ p us σ Q
        | none => if isIni f = true then ufB T (UF T k) f us σ Q X else ufB T (UF T (k + 1)) f us σ Q X := v
      have hk : kap T.T (k + 1 + 1) = 1 + (sumC (kap T.T (k + 1)) T.T.fns + sumC (kap T.T (k + 1)) T.T.mts) + kap T.T (k + 1) := rfl
      have hk1 : kap T.T (k + 1) = 1 + (sumC (kap T.T k) T.T.fns + sumC (kap T.T k) T.T.mts) + kap T.T k := rfl
      cases hl : T.pr.lookup f with
      | some p =>
        rw [hl] at v
        obtain ⟨h2, v2⟩ := v
        obtain ⟨j, rfl⟩ : ∃ j, k = j + 1 := ⟨k - 1, by omega⟩
        exact hp f p hl j us σ Q kd h ds B Q' X' v2 g r (by omega) fun kd' h' d w σ' g' => kq kd' h' d w σ' (g'.up (by omega))
      | none =>
        rw [hl] at v
        have v : if isIni f = true then ufB T (UF T k) f us σ Q X else ufB T (UF T (k + 1)) f us σ Q X := v
        show if isIni f = true then fsB T.T (FS T.T k) f ds h Q' X' else fsB T.T (FS T.T (k + 1)) f ds h Q' X'
        split at v
        · rename_i e; rw [if_pos e]
          exact body k _ ih.1 (by omega) f us σ Q X kd h ds B Q' X' v g r l kq kx
        · rename_i e; rw [if_neg e]
          exact body (k + 1) _ ih.2 (by omega) f us σ Q X kd h ds B Q' X' v g r l kq kx
  exact fun k => (both k).1
/-- the law in the second semantics -/
def LawV (T : Tu) (k : Nat) : Prop := ∀ ns : List Int, ns.length ≤ 63 → (∀ z ∈ ns, Builtin.Int.intBits z ≤ 1048576) →
  UF T k "law" [.scr ns] [] (fun w _ => w = .v (.bl true)) (fun _ _ _ => False)
theorem law_v {T : Tu} {k : Nat} (hp : ∀ f p, T.pr.lookup f = some p → PrOk T.T f p) (hk : kap T.T k ≤ LIM) (hl : LawV T k) : LawOk T.T k := by
  intro ns hn hb
  have v := hl ns hn hb
  refine (fs_ok T hp k).fs _ _ _ _ _ (fun n => if n = 0 then .frz else .free) _ _ 0 _ _ v ⟨?_, ?_, ?_, ?_⟩ (.cons (.scr (ns := ns) rfl rfl (by unfold LB; omega)) .nil) (by omega) ?_ ?_
  · intro n l
    have : n ≠ 0 := by rintro rfl; simp at l
    exact if_neg this
  · intro n e
    by_cases z : n = 0
    · rw [if_pos z] at e; cases e
    · rw [if_neg z] at e; cases e
  · intro n m e
    by_cases z : n = 0
    · rw [if_pos z] at e; cases e
    · rw [if_neg z] at e; cases e
  · intro n n' m e
    by_cases z : n = 0
    · rw [if_pos z] at e; cases e
    · rw [if_neg z] at e; cases e
  · rintro kd' h' d w σ' _ r _ rfl
    cases r; rfl
  · exact fun _ _ _ _ _ _ _ _ _ x => x.elim
end Bp

/-! the count of box questions is a multiple of the calls' own count: the bound of a law needs one look at the bodies, not one a level -/
namespace Bp
open PySem L2
theorem lbx (k x : Nat) : LB * (k * x) = k * (LB * x) := Nat.mul_left_comm _ _ _
theorem mbx (k x : Nat) : 1000001 * (k * x) = k * (1000001 * x) := Nat.mul_left_comm _ _ _
mutual
theorem cE_lin (k : Nat) : ∀ e : E, cE k e = k * cE 1 e
  | .var _ => by simp only [cE, Nat.mul_zero]
  | .non  => by simp only [cE, Nat.mul_zero]
  | .bl _ => by simp only [cE, Nat.mul_zero]
  | .int _ => by simp only [cE, Nat.mul_zero]
  | .str _ => by simp only [cE, Nat.mul_zero]
  | .glob _ => by simp only [cE, Nat.mul_zero]
  | .bin _ a1 a2 => by simp only [cE, cE_lin k a1, cE_lin k a2, ← Nat.mul_add, lbx, mbx]
  | .neg a0 => by simp only [cE, cE_lin k a0, ← Nat.mul_add, lbx, mbx]
  | .not a0 => by simp only [cE, cE_lin k a0, ← Nat.mul_add, lbx, mbx]
  | .bop _ a1 => by simp only [cE, cEs_lin k a1, ← Nat.mul_add, lbx, mbx]
  | .cmp _ a1 a2 => by simp only [cE, cE_lin k a1, cE_lin k a2, ← Nat.mul_add, lbx, mbx]
  | .cmp2 _ _ a2 a3 a4 => by simp only [cE, cE_lin k a2, cE_lin k a3, cE_lin k a4, ← Nat.mul_add, lbx, mbx]
  | .ite a0 a1 a2 => by simp only [cE, cE_lin k a0, cE_lin k a1, cE_lin k a2, ← Nat.mul_add, lbx, mbx]
  | .tup a0 => by simp only [cE, cEs_lin k a0, ← Nat.mul_add, lbx, mbx]
  | .lst a0 => by simp only [cE, cEs_lin k a0, ← Nat.mul_add, lbx, mbx]
  | .dct a0 => by simp only [cE, cEs_lin k a0, ← Nat.mul_add, lbx, mbx]
  | .tab _ a1 => by simp only [cE, cE_lin k a1, ← Nat.mul_add, lbx, mbx]
  | .tabG _ a1 a2 => by simp only [cE, cE_lin k a1, cE_lin k a2, ← Nat.mul_add, lbx, mbx]
  | .tabIn _ _ a2 => by simp only [cE, cE_lin k a2, ← Nat.mul_add, lbx, mbx]
  | .idx a0 a1 => by simp only [cE, cE_lin k a0, cE_lin k a1, ← Nat.mul_add, lbx, mbx]
  | .sli a0 a1 a2 => by simp only [cE, cE_lin k a0, cO_lin k a1, cO_lin k a2, ← Nat.mul_add, lbx, mbx]
  | .rev a0 => by simp only [cE, cE_lin k a0, ← Nat.mul_add, lbx, mbx]
  | .call _ a1 => by simp only [cE, cEs_lin k a1, Nat.mul_add, Nat.mul_one]
  | .bi _ a1 => by simp only [cE, cEs_lin k a1, ← Nat.mul_add, lbx, mbx]
  | .rng _ a1 a2 => by simp only [cE, cE_lin k a1, cE_lin k a2, ← Nat.mul_add, lbx, mbx]
  | .mt _ a1 a2 => by simp only [cE, cE_lin k a1, cEs_lin k a2, ← Nat.mul_add, lbx, mbx]
  | .isi a0 _ => by simp only [cE, cE_lin k a0, ← Nat.mul_add, lbx, mbx]
  | .comp a0 a1 a2 a3 _ => by simp only [cE, cE_lin k a0, cG_lin k a1, cI_lin k a2, cO_lin k a3, ← Nat.mul_add, lbx, mbx]
  | .fld a0 _ => by simp only [cE, cE_lin k a0, ← Nat.mul_add, lbx, mbx]
  | .meth a0 _ a2 => by simp only [cE, cE_lin k a0, cEs_lin k a2, Nat.mul_add, Nat.mul_one]
  | .make _ a1 => by simp only [cE, cEs_lin k a1, Nat.mul_add, Nat.mul_one]
  | .prom a0 => by simp only [cE, cE_lin k a0, ← Nat.mul_add, lbx, mbx]
  | .nest _ a1 => by simp only [cE, cE_lin k a1, ← Nat.mul_add, lbx, mbx]
  | .isx a0 _ => by simp only [cE, cE_lin k a0, ← Nat.mul_add, lbx, mbx]
  | .xfld a0 => by simp only [cE, cE_lin k a0, ← Nat.mul_add, lbx, mbx]
theorem cEs_lin (k : Nat) : ∀ e : Es, cEs k e = k * cEs 1 e
  | .nil  => by simp only [cEs, Nat.mul_zero]
  | .cons a0 a1 => by simp only [cEs, cE_lin k a0, cEs_lin k a1, ← Nat.mul_add, lbx, mbx]
theorem cO_lin (k : Nat) : ∀ e : Oe, cO k e = k * cO 1 e
  | .none  => by simp only [cO, Nat.mul_zero]
  | .some a0 => by simp only [cO, cE_lin k a0, ← Nat.mul_add, lbx, mbx]
theorem cI_lin (k : Nat) : ∀ e : Iv, cI k e = k * cI 1 e
  | .seq a0 => by simp only [cI, cE_lin k a0, ← Nat.mul_add, lbx, mbx]
  | .rng1 a0 => by simp only [cI, cE_lin k a0, ← Nat.mul_add, lbx, mbx]
  | .rng2 a0 a1 => by simp only [cI, cE_lin k a0, cE_lin k a1, ← Nat.mul_add, lbx, mbx]
  | .rngd a0 a1 => by simp only [cI, cE_lin k a0, cE_lin k a1, ← Nat.mul_add, lbx, mbx]
  | .enu a0 => by simp only [cI, cE_lin k a0, ← Nat.mul_add, lbx, mbx]
  | .zip a0 a1 => by simp only [cI, cE_lin k a0, cE_lin k a1, ← Nat.mul_add, lbx, mbx]
  | .rvs a0 => by simp only [cI, cE_lin k a0, ← Nat.mul_add, lbx, mbx]
  | .keys _ => by simp only [cI, Nat.mul_zero]
theorem cG_lin (k : Nat) : ∀ e : Tg, cG k e = k * cG 1 e
  | .nm _ => by simp only [cG, Nat.mul_zero]
  | .tp a0 => by simp only [cG, cGs_lin k a0, ← Nat.mul_add, lbx, mbx]
  | .sub a0 a1 => by simp only [cG, cE_lin k a0, cE_lin k a1, ← Nat.mul_add, lbx, mbx]
theorem cGs_lin (k : Nat) : ∀ e : Tgs, cGs k e = k * cGs 1 e
  | .nil  => by simp only [cGs, Nat.mul_zero]
  | .cons a0 a1 => by simp only [cGs, cG_lin k a0, cGs_lin k a1, ← Nat.mul_add, lbx, mbx]
end
theorem cTh_lin (k : Nat) : ∀ e : List Th, cTh k e = k * cTh 1 e
  | [] => by simp only [cTh, Nat.mul_zero]
  | .asg _ a :: r => by simp only [cTh, cE_lin k a, cTh_lin k r, ← Nat.mul_add]
  | .ret a :: r => by simp only [cTh, cE_lin k a, cTh_lin k r, ← Nat.mul_add]
  | .retn :: r => by simp only [cTh, cTh_lin k r]
  | .expr a :: r => by simp only [cTh, cE_lin k a, cTh_lin k r, ← Nat.mul_add]
theorem cHs_lin (k : Nat) : ∀ e : List (Str × List Th), cHs k e = k * cHs 1 e
  | [] => by simp only [cHs, Nat.mul_zero]
  | p :: r => by simp only [cHs, cTh_lin k p.2, cHs_lin k r, ← Nat.mul_add]
mutual
theorem cS_lin (k : Nat) : ∀ e : S, cS k e = k * cS 1 e
  | .asg a0 a1 => by simp only [cS, cG_lin k a0, cE_lin k a1, ← Nat.mul_add, lbx, mbx]
  | .setc _ a1 a2 a3 a4 _ => by simp only [cS, cE_lin k a1, cG_lin k a2, cI_lin k a3, cO_lin k a4, ← Nat.mul_add, lbx, mbx]
  | .par _ _ a2 a3 => by simp only [cS, cE_lin k a2, cE_lin k a3, ← Nat.mul_add, lbx, mbx]
  | .par3 _ _ _ a3 a4 a5 => by simp only [cS, cE_lin k a3, cE_lin k a4, cE_lin k a5, ← Nat.mul_add, lbx, mbx]
  | .aug _ _ a2 => by simp only [cS, cE_lin k a2, ← Nat.mul_add, lbx, mbx]
  | .expr a0 => by simp only [cS, cE_lin k a0, ← Nat.mul_add, lbx, mbx]
  | .ret a0 => by simp only [cS, cE_lin k a0, ← Nat.mul_add, lbx, mbx]
  | .ite a0 a1 a2 => by simp only [cS, cE_lin k a0, cSs_lin k a1, cSs_lin k a2, ← Nat.mul_add, lbx, mbx]
  | .loop a0 a1 => by simp only [cS, cE_lin k a0, cSs_lin k a1, ← Nat.mul_add, lbx, mbx]
  | .each a0 a1 a2 => by simp only [cS, cG_lin k a0, cI_lin k a1, cSs_lin k a2, ← Nat.mul_add, lbx, mbx]
  | .eachK _ _ _ => by simp only [cS, Nat.mul_zero]
  | .brk  => by simp only [cS, Nat.mul_zero]
  | .cont  => by simp only [cS, Nat.mul_zero]
  | .pass  => by simp only [cS, Nat.mul_zero]
  | .setf a0 _ a2 => by simp only [cS, cE_lin k a0, cE_lin k a2, ← Nat.mul_add, lbx, mbx]
  | .augf a0 _ _ a3 => by simp only [cS, cE_lin k a0, cE_lin k a3, ← Nat.mul_add, lbx, mbx]
  | .retn  => by simp only [cS, Nat.mul_zero]
  | .rais  => by simp only [cS, Nat.mul_zero]
  | .tri a0 => by simp only [cS, cSs_lin k a0, ← Nat.mul_add, lbx, mbx]
  | .augs a0 a1 _ a3 => by simp only [cS, cE_lin k a0, cE_lin k a1, cE_lin k a3, ← Nat.mul_add, lbx, mbx]
  | .rais0 _ => by simp only [cS, Nat.mul_zero]
  | .raisR _ a1 => by simp only [cS, cE_lin k a1, ← Nat.mul_add, lbx, mbx]
  | .tryA a0 _ _ a3 => by simp only [cS, cSs_lin k a0, cTh_lin k a3, ← Nat.mul_add, lbx, mbx]
  | .tryM a0 a1 => by simp only [cS, cSs_lin k a0, cHs_lin k a1, ← Nat.mul_add, lbx, mbx]
theorem cSs_lin (k : Nat) : ∀ e : Ss, cSs k e = k * cSs 1 e
  | .nil  => by simp only [cSs, Nat.mul_zero]
  | .cons a0 a1 => by simp only [cSs, cS_lin k a0, cSs_lin k a1, ← Nat.mul_add, lbx, mbx]
end
theorem sumC_lin (k : Nat) : ∀ l : List (Str × Fn), sumC k l = k * sumC 1 l
  | [] => by simp only [sumC, Nat.mul_zero]
  | p :: r => by simp only [sumC, cSs_lin k, sumC_lin k r, ← Nat.mul_add]
theorem kap_two {T : Tb} {c : Nat} (h : sumC 1 T.fns + sumC 1 T.mts + 2 ≤ 2 ^ c) : ∀ k, kap T k + 1 ≤ 2 ^ (c * k)
  | 0 => by simp only [kap, Nat.mul_zero, Nat.pow_zero]; exact Nat.le_refl _
  | k + 1 => by
    have ih := kap_two h k
    have e : kap T (k + 1) = 1 + kap T k * (sumC 1 T.fns + sumC 1 T.mts) + kap T k := by
      simp only [kap]; rw [sumC_lin (kap T k) T.fns, sumC_lin (kap T k) T.mts, ← Nat.mul_add]
    rw [Nat.mul_succ, Nat.pow_add, e]
    refine Nat.le_trans ?_ (Nat.mul_le_mul ih h)
    generalize sumC 1 T.fns + sumC 1 T.mts = C
    generalize kap T k = a
    rw [Nat.add_mul, Nat.mul_add, Nat.one_mul]
    omega
theorem kap_le {T : Tb} {k : Nat} (h : sumC 1 T.fns + sumC 1 T.mts + 2 ≤ 2 ^ 400) (hk : k ≤ 250) : kap T k ≤ LIM := by
  refine Nat.le_trans (Nat.le_trans (Nat.le_succ _) (kap_two h k)) ?_
  unfold LIM
  exact Nat.pow_le_pow_right (by decide) (by omega)
end Bp

namespace Bp
open PySem L2
/-! ### the boxes -/
def pTake : Prim := fun us σ Q => ∃ m : Int, us = [.box, .int m] ∧ 0 < m ∧ m < 4611686018427387904 ∧ ∀ r, 0 ≤ r → r < m → Q (.v (.int r)) σ
theorem take_pr {T : Tb} (hT : T.fn "_law_take" = some fn__law_take) : PrOk T "_law_take" pTake := by
  intro k us σ Q kd h ds B Q' X' p g r hB kq
  obtain ⟨m, rfl, h0, h1, q⟩ := p
  cases r with
  | @cons d _ ds _ r1 r2 =>
  cases r2 with
  | cons r3 r4 =>
  cases r4
  cases r3
  cases r1 with
  | @box b hb =>
  refine take_big hT (g.box b hb) hB h0 h1 fun r h' l u bx f hl => ?_
  have un : ∀ n, n ≠ b → n < h.length → h'[n]? = h[n]? := fun n hn ln => f.at_ n ln hn
  have ne : ∀ n t, kd n = t → t ≠ .box → n ≠ b := fun n t e ht z => ht (by rw [← e, z, hb])
  have lt : ∀ n t, kd n = t → t ≠ .free → n < h.length := fun n t e ht => g.lt (by rw [e]; exact ht)
  have kp : KpO kd h kd h' := ⟨⟨fun n e => ⟨e, un n (ne n _ e (by simp)) (lt n _ e (by simp))⟩, fun _ e => e, fun _ _ e => e⟩, fun n m f e => ⟨e, un n (ne n _ e (by simp)) (lt n _ e (by simp))⟩⟩
  refine kq kd h' (.int r) (.v (.int r)) σ ⟨fun n l => g.out n (by omega), fun n e => ?_, fun n m e => ?_, g.inj⟩ (.int r) ⟨kp.toKp, by omega, fun n l e => ⟨e, un n (ne n _ e (by simp)) l⟩, g.out⟩ (q r l u)
  · by_cases z : n = b
    · rw [z]; exact bx
    · obtain ⟨a, x, c, e1, e2⟩ := (g.box n e).mono (Nat.le_succ B)
      exact ⟨a, x, c, by rw [un n z (lt_of e1)]; exact e1, e2⟩
  · obtain ⟨uo, o, e1, e2, e3⟩ := g.st n m e
    exact ⟨uo, o, e1, by rw [un n (ne n _ e (by simp)) (lt_of e2)]; exact e2, e3.keep kp⟩
/-- a box of a cell that isn't there -/
theorem box_none {T : Tb} {k : Nat} (hT : T.fn "_law_box" = some fn__law_box) {h : Hh} {c : Nat} {cs : List Int} {i : Nat} {Q : Qd} {X : Xq} (e : h[c]? = some (.lst (cs.map D.int))) (hi : cs.length ≤ i) (hc : i ≤ 1000)
    (q : ∀ h', Box h' h.length 0 → Fr (fun _ => False) h h' → h'.length = h.length + 1 → Q (.ref h.length) h') : FS T (k + 1) "_law_box" [.ref c, .int i] h Q X := by
  refine fs_in hT rfl ?_
  have key : wpSs (cnOf T k) fn__law_box.body [some (.ref c), some (.int i), none] h { nx := fun _ h' => Q .non h', rt := Q, ex := fun _ => X } := by
    have hlt : ¬ ((i : Int) < (cs.length : Int)) := by omega
    unfold fn__law_box
    simp only [ss_cons, y_asg, y_ite, y_ret, x_int, g_nm, x_cmp, x_var, x_bi, x_idx, x_lst, x_bin, wpEs, f_lenr, e, lo_lst, c_lt, c_ge, t_bl, ss_nil, List.getElem?_cons_zero, List.getElem?_cons_succ, List.set_cons_zero, List.set_cons_succ, List.length_map, Option.some.injEq, exists_eq_left', decide_eq_true_eq, f_abs, f_intb, b_pow, b_mul, b_add, b_mod, if_neg hlt, List.length_cons, List.length_nil, D.int.injEq]
    refine ⟨.inl ⟨by decide, by decide, by decide⟩, .inl (.inl ⟨by decide, by decide⟩), .inl (.inl ⟨by decide, by decide⟩), .inl (.inr ⟨by omega, by omega⟩), by decide, by decide, ?_⟩
    exact q _ ⟨_, _, _, get_new, by decide, Int.emod_nonneg _ (by decide), Int.emod_lt_of_pos _ (by decide), by decide, by decide⟩ Fr.new (by simp)
  exact key
def pBox : Prim := fun us σ Q => ∃ (cs : List Int) (i : Nat), us = [.vl (cs.map U.int), .int i] ∧ i ≤ 1000 ∧ cs.length ≤ 1000 ∧ Q (.v .box) σ
theorem box_pr {T : Tb} (hT : T.fn "_law_box" = some fn__law_box) : PrOk T "_law_box" pBox := by
  intro k us σ Q kd h ds B Q' X' p g r hB kq
  obtain ⟨cs, i, rfl, hi, hc, q⟩ := p
  cases r with
  | @cons d _ ds _ r1 r2 =>
  cases r2 with
  | cons r3 r4 =>
  cases r4
  cases r3
  cases r1 with
  | @vl n xs _ hn hx hl t =>
  have hx' : h[n]? = some (.lst (cs.map D.int)) := by rw [hx, RVs.ints_of t]
  have key : ∀ h', Box h' h.length 0 → Fr (fun _ => False) h h' → h'.length = h.length + 1 → Q' (.ref h.length) h' := by
    intro h' bx f l2
    have un : ∀ n, n < h.length → h'[n]? = h[n]? := fun n ln => f.at_ n ln (by simp)
    have fresh := g.out h.length (Nat.le_refl _)
    have ne : ∀ n, kd n ≠ .free → n ≠ h.length := fun n e z => e (by rw [z]; exact fresh)
    have kp : KpO kd h (kset kd h.length .box) h' := ⟨⟨fun n e => ⟨(kset_ne (ne n (by rw [e]; simp))).trans e, un n (g.lt (by rw [e]; simp))⟩, fun n e => (kset_ne (ne n (by rw [e]; simp))).trans e, fun n m e => (kset_ne (ne n (by rw [e]; simp))).trans e⟩, fun n m f e => ⟨(kset_ne (ne n (by rw [e]; simp))).trans e, un n (g.lt (by rw [e]; simp))⟩⟩
    refine kq (kset kd h.length .box) h' (.ref h.length) (.v .box) σ ⟨fun n l => ?_, fun n e => ?_, fun n m e => ?_, fun a b m e1 e2 => ?_⟩ (.box kset_self) ⟨kp.toKp, by omega, fun n l e => ⟨(kset_ne (by omega)).trans e, un n l⟩, g.out⟩ q
    · rw [kset_ne (by omega)]; exact g.out n (by omega)
    · by_cases z : n = h.length
      · rw [z]; exact bx.mono (by omega)
      · rw [kset_ne z] at e
        obtain ⟨a, x, c, e1, e2⟩ := (g.box n e).mono (Nat.le_succ B)
        exact ⟨a, x, c, by rw [un n (lt_of e1)]; exact e1, e2⟩
    · by_cases z : n = h.length
      · rw [z, kset_self] at e; cases e
      · rw [kset_ne z] at e
        obtain ⟨uo, o, e1, e2, e3⟩ := g.st n m e
        exact ⟨uo, o, e1, by rw [un n (lt_of e2)]; exact e2, e3.keep kp⟩
    · have f : ∀ x, kset kd h.length .box x = .st m → kd x = .st m := by
        intro x e
        by_cases z : x = h.length
        · rw [z, kset_self] at e; cases e
        · rw [kset_ne z] at e; exact e
      exact g.inj a b m (f a e1) (f b e2)
  by_cases hlt : i < cs.length
  · exact box_ok hT hx' hlt hc key
  · exact box_none hT hx' (by omega) hi key
/-! ### walks in the second semantics -/
section
variable {C : Cu}
def turnC (C : Cu) (elt : E) (t : Tg) (c : Oe) (vs : List Nat) : U → Ev → Us → (Option U → Ev → Us → Prop) → Prop :=
  fun d e2 s2 k => vpG C t (fun _ _ _ _ => False) (.v d) (hide e2 vs) s2 fun e3 s3 => vpC C c (fun _ _ _ _ => False) e3 s3 fun r e4 s4 => if r = true then vpE C elt (fun _ _ _ _ => False) e4 s4 fun y e5 s5 => k (some (frzU y)) (unhide e2 e5 vs) s5 else k none (unhide e2 e4 vs) s4
def compV (C : Cu) (elt : E) (t : Tg) (c : Oe) (vs : List Nat) (G : Ev → Us → Prop) (items : List U) (ev : Ev) (σ : Us) (Q : List U → Ev → Us → Prop) : Prop :=
  compU G (turnC C elt t c vs) Q items [] ev σ
def forV (C : Cu) (t : Tg) (b : Ss) (P : Pu) (s : Sr) (ev : Ev) (σ : Us) : Prop :=
  forU s.ok (fun d e2 s2 k => vpG C t (fun _ _ _ _ => False) (.v d) e2 s2 fun e3 s3 => vpSs C b e3 s3 { P with nx := k, ct := k, bk := P.nx }) P.nx s.items ev σ
def loopV (C : Cu) (c : E) (b : Ss) (P : Pu) (ev : Ev) (σ : Us) : Prop := vpS C (.loop c b) ev σ P
theorem each_v {t : Tg} {b : Ss} {P : Pu} {s : Sr} {ev : Ev} {σ : Us} (I : Nat → Ev → Us → Prop) (i0 : I 0 ev σ) (ok : ∀ i ev σ, I i ev σ → s.ok σ)
    (turn : ∀ i u ev σ (K : Ev → Us → Prop), s.items[i]? = some u → I i ev σ → (∀ e s, I (i + 1) e s → K e s) → vpG C t (fun _ _ _ _ => False) (.v u) ev σ fun e3 s3 => vpSs C b e3 s3 { P with nx := K, ct := K, bk := P.nx })
    (done : ∀ ev σ, I s.items.length ev σ → P.nx ev σ) : forV C t b P s ev σ := by
  have key : ∀ (l : List U) (n : Nat) (ev : Ev) (σ : Us), s.items.drop n = l → n + l.length = s.items.length → I n ev σ →
      forU s.ok (fun d e2 s2 k => vpG C t (fun _ _ _ _ => False) (.v d) e2 s2 fun e3 s3 => vpSs C b e3 s3 { P with nx := k, ct := k, bk := P.nx }) P.nx l ev σ := by
    intro l
    induction l with
    | nil =>
      intro n ev σ h1 h2 hi
      exact ⟨ok n ev σ hi, done ev σ (by rw [← h2]; exact hi)⟩
    | cons x l ih =>
      intro n ev σ h1 h2 hi
      refine ⟨ok n ev σ hi, turn n x ev σ _ ?_ hi fun e s' hi' => ih (n + 1) e s' ?_ ?_ hi'⟩
      · have := congrArg (fun z => z[0]?) h1
        simpa using this
      · rw [← List.drop_drop, h1]; rfl
      · simp at h2; omega
  exact key s.items 0 ev σ rfl (by simp) i0
theorem comp_v {elt : E} {t : Tg} {c : Oe} {vs : List Nat} {G : Ev → Us → Prop} {items : List U} {ev : Ev} {σ : Us} {Q : List U → Ev → Us → Prop} (I : Nat → List U → Ev → Us → Prop) (i0 : I 0 [] ev σ) (ok : ∀ i acc ev σ, I i acc ev σ → G ev σ)
    (hl : ∀ i acc ev σ, I i acc ev σ → acc.length ≤ i) (hn : items.length ≤ 100000)
    (turn : ∀ i u acc ev σ (K : Option U → Ev → Us → Prop), items[i]? = some u → I i acc ev σ → (∀ y e s, I (i + 1) (acc ++ [y]) e s → K (some y) e s) → (∀ e s, I (i + 1) acc e s → K none e s) →
      vpG C t (fun _ _ _ _ => False) (.v u) (hide ev vs) σ fun e3 s3 => vpC C c (fun _ _ _ _ => False) e3 s3 fun r e4 s4 => if r = true then vpE C elt (fun _ _ _ _ => False) e4 s4 fun y e5 s5 => K (some (frzU y)) (unhide ev e5 vs) s5 else K none (unhide ev e4 vs) s4)
    (done : ∀ acc ev σ, I items.length acc ev σ → Q acc ev σ) : compV C elt t c vs G items ev σ Q := by
  have key : ∀ (l : List U) (n : Nat) (acc : List U) (ev : Ev) (σ : Us), items.drop n = l → n + l.length = items.length → I n acc ev σ →
      compU G (turnC C elt t c vs) Q l acc ev σ := by
    intro l
    induction l with
    | nil =>
      intro n acc ev σ h1 h2 hi
      exact ⟨ok n acc ev σ hi, done acc ev σ (by rw [← h2]; exact hi)⟩
    | cons x l ih =>
      intro n acc ev σ h1 h2 hi
      have h3 : items.drop (n + 1) = l := by rw [← List.drop_drop, h1]; rfl
      have h4 : n + 1 + l.length = items.length := by simp at h2; omega
      have := hl n acc ev σ hi
      refine ⟨ok n acc ev σ hi, turn n x acc ev σ (fun r e' s' => match r with | none => compU G (turnC C elt t c vs) Q l acc e' s' | some y => acc.length < 100000 ∧ compU G (turnC C elt t c vs) Q l (acc ++ [y]) e' s') ?_ hi (fun y e s' hi' => ⟨by simp at h2; omega, ih (n + 1) _ e s' h3 h4 hi'⟩) (fun e s' hi' => ih (n + 1) _ e s' h3 h4 hi')⟩
      have := congrArg (fun z => z[0]?) h1
      simpa using this
  exact key items 0 [] ev σ rfl (by simp) i0
/-- a comprehension that just reckons -/
theorem comp_map {elt : E} {t : Tg} {c : Oe} {vs : List Nat} {G : Ev → Us → Prop} {items : List U} {ev : Ev} {σ : Us} {Q : List U → Ev → Us → Prop} (f : U → U) (ok : G ev σ) (hn : items.length ≤ 100000)
    (turn : ∀ u (K : Option U → Ev → Us → Prop), u ∈ items → K (some (f u)) ev σ →
      vpG C t (fun _ _ _ _ => False) (.v u) (hide ev vs) σ fun e3 s3 => vpC C c (fun _ _ _ _ => False) e3 s3 fun r e4 s4 => if r = true then vpE C elt (fun _ _ _ _ => False) e4 s4 fun y e5 s5 => K (some (frzU y)) (unhide ev e5 vs) s5 else K none (unhide ev e4 vs) s4)
    (done : Q (items.map f) ev σ) : compV C elt t c vs G items ev σ Q := by
  refine comp_v (fun i acc e s' => acc = (items.take i).map f ∧ e = ev ∧ s' = σ) ⟨by simp, rfl, rfl⟩ ?_ ?_ hn ?_ ?_
  · rintro i acc e s' ⟨rfl, rfl, rfl⟩; exact ok
  · rintro i acc e s' ⟨rfl, rfl, rfl⟩; simp; omega
  · rintro i u acc e s' K hu ⟨rfl, rfl, rfl⟩ k1 k2
    refine turn u K (List.mem_of_getElem? hu) (k1 _ _ _ ⟨?_, rfl, rfl⟩)
    rw [List.take_succ, hu]; simp
  · rintro acc e s' ⟨rfl, rfl, rfl⟩; simpa using done
/-- .. with a condition -/
theorem comp_filter {elt : E} {t : Tg} {c : Oe} {vs : List Nat} {G : Ev → Us → Prop} {items : List U} {ev : Ev} {σ : Us} {Q : List U → Ev → Us → Prop} (f : U → Option U) (ok : G ev σ) (hn : items.length ≤ 100000)
    (turn : ∀ u (K : Option U → Ev → Us → Prop), u ∈ items → K (f u) ev σ →
      vpG C t (fun _ _ _ _ => False) (.v u) (hide ev vs) σ fun e3 s3 => vpC C c (fun _ _ _ _ => False) e3 s3 fun r e4 s4 => if r = true then vpE C elt (fun _ _ _ _ => False) e4 s4 fun y e5 s5 => K (some (frzU y)) (unhide ev e5 vs) s5 else K none (unhide ev e4 vs) s4)
    (done : Q (items.filterMap f) ev σ) : compV C elt t c vs G items ev σ Q := by
  refine comp_v (fun i acc e s' => acc = (items.take i).filterMap f ∧ e = ev ∧ s' = σ) ⟨by simp, rfl, rfl⟩ ?_ ?_ hn ?_ ?_
  · rintro i acc e s' ⟨rfl, rfl, rfl⟩; exact ok
  · rintro i acc e s' ⟨rfl, rfl, rfl⟩
    have := List.length_filterMap_le f (items.take i)
    simp at this ⊢; omega
  · rintro i u acc e s' K hu ⟨rfl, rfl, rfl⟩ k1 k2
    refine turn u K (List.mem_of_getElem? hu) ?_
    cases hf : f u with
    | none => refine k2 _ _ ⟨?_, rfl, rfl⟩; rw [List.take_succ, hu]; simp [hf]
    | some y => refine k1 _ _ _ ⟨?_, rfl, rfl⟩; rw [List.take_succ, hu]; simp [hf]
  · rintro acc e s' ⟨rfl, rfl, rfl⟩; simpa using done
/-- a comprehension that draws -/
theorem comp_all {elt : E} {t : Tg} {c : Oe} {vs : List Nat} {G : Ev → Us → Prop} {items : List U} {ev : Ev} {σ : Us} {Q : List U → Ev → Us → Prop} (P : U → U → Prop) (ok : G ev σ) (hn : items.length ≤ 100000)
    (turn : ∀ u (K : Option U → Ev → Us → Prop), u ∈ items → (∀ y, P u y → K (some y) ev σ) →
      vpG C t (fun _ _ _ _ => False) (.v u) (hide ev vs) σ fun e3 s3 => vpC C c (fun _ _ _ _ => False) e3 s3 fun r e4 s4 => if r = true then vpE C elt (fun _ _ _ _ => False) e4 s4 fun y e5 s5 => K (some (frzU y)) (unhide ev e5 vs) s5 else K none (unhide ev e4 vs) s4)
    (done : ∀ ys, Al P items ys → Q ys ev σ) : compV C elt t c vs G items ev σ Q := by
  refine comp_v (fun i acc e s' => Al P (items.take i) acc ∧ e = ev ∧ s' = σ) ⟨by simpa using .nil, rfl, rfl⟩ ?_ ?_ hn ?_ ?_
  · rintro i acc e s' ⟨_, rfl, rfl⟩; exact ok
  · rintro i acc e s' ⟨a, rfl, rfl⟩
    rw [← a.len]; simp; omega
  · rintro i u acc e s' K hu ⟨a, rfl, rfl⟩ k1 k2
    refine turn u K (List.mem_of_getElem? hu) fun y py => k1 _ _ _ ⟨?_, rfl, rfl⟩
    rw [List.take_succ, hu]
    exact a.append (.one py)
  · rintro acc e s' ⟨a, rfl, rfl⟩; exact done acc (by simpa using a)
end
/-! ### defs -/
theorem uf_norm {T : Tu} {k : Nat} {f : Str} {us : List U} {σ : Us} {Q : W → Us → Prop} {X : Str → Option U → Us → Prop} (hp : T.pr.lookup f = none) (hi : isIni f = false) (w : ufB T (UF T k) f us σ Q X) : UF T (k + 1) f us σ Q X := by
  cases k with
  | zero => exact ⟨hp, hi, w⟩
  | succ k =>
    show match T.pr.lookup f with
      | some p => 1 ≤ k ∧ p us σ Q
      | none => if isIni f = true then ufB T (UF T k) f us σ Q X else ufB T (UF T (k + 1)) f us σ Q X
    rw [hp]
    show if isIni f = true then _ else _
    rw [if_neg (by rw [hi]; exact Bool.false_ne_true)]
    exact w
theorem uf_in {T : Tu} {k : Nat} {f : Str} {F : Fn} {us : List U} {σ : Us} {Q : W → Us → Prop} {X : Str → Option U → Us → Prop} (hp : T.pr.lookup f = none) (hf : T.T.fn f = some F) (hl : us.length = F.ps.length)
    (w : vpSs (cuOf T (UF T k)) F.body (us.map (fun u => some (.v u)) ++ List.replicate (F.ns.length - us.length) none) σ { nx := fun _ s' => Q (.v .non) s', rt := Q, ex := fun c r _ s' => X c r s' }) (hi : isIni f = false := by decide) : UF T (k + 1) f us σ Q X :=
  uf_norm hp hi ⟨F, T.T.fn_df hf, hl, w⟩
/-- a method -/
theorem uf_mt {T : Tu} {k : Nat} {f : Str} {F : Fn} {us : List U} {σ : Us} {Q : W → Us → Prop} {X : Str → Option U → Us → Prop} (hp : T.pr.lookup f = none) (hf : T.T.df f = some F) (hl : us.length = F.ps.length)
    (w : vpSs (cuOf T (UF T k)) F.body (us.map (fun u => some (.v u)) ++ List.replicate (F.ns.length - us.length) none) σ { nx := fun _ s' => Q (.v .non) s', rt := Q, ex := fun c r _ s' => X c r s' }) (hi : isIni f = false := by decide) : UF T (k + 1) f us σ Q X :=
  uf_norm hp hi ⟨F, hf, hl, w⟩
/-- an __init__ -/
theorem uf_ini {T : Tu} {k : Nat} {f : Str} {F : Fn} {us : List U} {σ : Us} {Q : W → Us → Prop} {X : Str → Option U → Us → Prop} (hp : T.pr.lookup f = none) (hf : T.T.df f = some F) (hl : us.length = F.ps.length)
    (w : vpSs (cuOf T (UF T k)) F.body (us.map (fun u => some (.v u)) ++ List.replicate (F.ns.length - us.length) none) σ { nx := fun _ s' => Q (.v .non) s', rt := Q, ex := fun c r _ s' => X c r s' }) (hi : isIni f = true := by decide) : UF T (k + 2) f us σ Q X := by
  show match T.pr.lookup f with
    | some p => 1 ≤ k ∧ p us σ Q
    | none => if isIni f = true then ufB T (UF T k) f us σ Q X else ufB T (UF T (k + 1)) f us σ Q X
  rw [hp]
  show if isIni f = true then _ else _
  rw [if_pos hi]
  exact ⟨F, hf, hl, w⟩
theorem uf_pr {T : Tu} {k : Nat} {f : Str} {p : Prim} {us : List U} {σ : Us} {Q : W → Us → Prop} {X : Str → Option U → Us → Prop} (hp : T.pr.lookup f = some p) (h : p us σ Q) : UF T (k + 3) f us σ Q X := by
  show match T.pr.lookup f with
    | some p => 1 ≤ k + 1 ∧ p us σ Q
    | none => if isIni f = true then ufB T (UF T (k + 1)) f us σ Q X else ufB T (UF T (k + 1 + 1)) f us σ Q X
  rw [hp]
  exact ⟨by omega, h⟩
theorem take_v {T : Tu} {k : Nat} {m : Int} {σ : Us} {Q : W → Us → Prop} {X : Str → Option U → Us → Prop} (hp : T.pr.lookup ("_law_take" : Str) = some pTake) (h0 : 0 < m) (h1 : m < 4611686018427387904) (q : ∀ r, 0 ≤ r → r < m → Q (.v (.int r)) σ) : UF T (k + 3) "_law_take" [.box, .int m] σ Q X :=
  uf_pr hp ⟨m, rfl, h0, h1, q⟩
theorem box_v {T : Tu} {k : Nat} {cs : List Int} {i : Nat} {σ : Us} {Q : W → Us → Prop} {X : Str → Option U → Us → Prop} (hp : T.pr.lookup ("_law_box" : Str) = some pBox) (hi : i ≤ 1000) (hc : cs.length ≤ 1000) (q : Q (.v .box) σ) : UF T (k + 3) "_law_box" [.vl (cs.map U.int), .int i] σ Q X :=
  uf_pr hp ⟨cs, i, rfl, hi, hc, q⟩
theorem cu_isf {T : Tu} {f : Str} {F : Fn} {fs} (h : T.T.fn f = some F) : (cuOf T fs).isf f = true := by
  show (T.T.fn f).isSome = true
  rw [h]; rfl
end Bp

/-! ## rules for walking in the second semantics -/
namespace Bp
open PySem L2
section
variable {C : Cu} {X : Xu} {ev : Ev} {σ : Us} {Q : Qw} {a b c i d : E} {es : Es} {P : Pu} {t : Tg} {it : Iv} {sa sb : Ss}
theorem v_var {n : Nat} : vpE C (.var n) X ev σ Q = ∃ w, evGet ev n = some w ∧ Q (.v (frzU w)) (ev.set n (some (.v (frzU w)))) σ := rfl
theorem v_non : vpE C .non X ev σ Q = Q (.v .non) ev σ := rfl
theorem v_bl {b : Bool} : vpE C (.bl b) X ev σ Q = Q (.v (.bl b)) ev σ := rfl
theorem v_int {n : Int} : vpE C (.int n) X ev σ Q = Q (.v (.int n)) ev σ := rfl
theorem v_str {s : Str} : vpE C (.str s) X ev σ Q = Q (.v (.str s)) ev σ := rfl
theorem v_glob {x : Str} : vpE C (.glob x) X ev σ Q = ∃ d u, C.gl x = some d ∧ dU d = some u ∧ Q (.v u) ev σ := rfl
theorem v_bin {o : Bo} : vpE C (.bin o a b) X ev σ Q = opd a ev σ (vpE C a X ev σ) fun x e1 s1 => opd b e1 s1 (vpE C b X e1 s1) fun y e2 s2 => ∃ p q, x.get e2 = some p ∧ y.get e2 = some q ∧ uBo o p q s2 fun r => Q r e2 s2 := rfl
theorem v_neg : vpE C (.neg a) X ev σ Q = vpE C a X ev σ fun x e1 s1 => ∃ i, x = .v (.int i) ∧ Q (.v (.int (-i))) e1 s1 := rfl
theorem v_not : vpE C (.not a) X ev σ Q = opd a ev σ (vpE C a X ev σ) fun x e1 s1 => ∃ p, x.get e1 = some p ∧ truW s1 (fun b => Q (.v (.bl (!b))) e1 s1) p := rfl
theorem v_bop {k : Bool} : vpE C (.bop k es) X ev σ Q = vpB C k es X ev σ Q := rfl
theorem v_cmp {o : Co} : vpE C (.cmp o a b) X ev σ Q = opd a ev σ (vpE C a X ev σ) fun x e1 s1 => opd b e1 s1 (vpE C b X e1 s1) fun y e2 s2 => ∃ p q, x.get e2 = some p ∧ y.get e2 = some q ∧ uCo o p q s2 fun r => Q (.v (.bl r)) e2 s2 := rfl
theorem v_cmp2 {o o' : Co} : vpE C (.cmp2 o o' a b c) X ev σ Q = vpE C a X ev σ fun x e1 s1 => vpE C b X e1 s1 fun y e2 s2 => uCo o x y s2 fun r => if r = true then vpE C c X e2 s2 fun z e3 s3 => uCo o' y z s3 fun r' => Q (.v (.bl r')) e3 s3 else Q (.v (.bl false)) e2 s2 := rfl
theorem v_ite : vpE C (.ite c a b) X ev σ Q = opd c ev σ (vpE C c X ev σ) fun x e1 s1 => ∃ p, x.get e1 = some p ∧ truW s1 (fun r => if r = true then vpE C a X e1 s1 Q else vpE C b X e1 s1 Q) p := rfl
theorem v_tup : vpE C (.tup es) X ev σ Q = vpLs C es X ev σ fun us e1 s1 => us.length ≤ 100000 ∧ Q (.v (.tup us)) e1 s1 := rfl
theorem v_lst : vpE C (.lst es) X ev σ Q = vpLs C es X ev σ fun us e1 s1 => us.length ≤ 100000 ∧ Q (.own us) e1 s1 := rfl
theorem v_dct : vpE C (.dct es) X ev σ Q = vpLs C es X ev σ fun us e1 s1 => ∃ ps, pairU us = some ps ∧ ps.length ≤ 15 ∧ Q (.ownD (mergeU [] ps)) e1 s1 := rfl
theorem v_tab {x : Str} : vpE C (.tab x i) X ev σ Q = ∃ kvs, C.td x = some kvs ∧ vpE C i X ev σ fun y e1 s1 => ∃ z d u, y = .v (.str z) ∧ kvs.lookup z = some d ∧ dU d = some u ∧ Q (.v u) e1 s1 := rfl
theorem v_tabG {x : Str} : vpE C (.tabG x i d) X ev σ Q = ∃ kvs, C.td x = some kvs ∧ vpE C i X ev σ fun y e1 s1 => vpE C d X e1 s1 fun w e2 s2 => ∃ z, y = .v (.str z) ∧ (match kvs.lookup z with | some d => ∃ u, dU d = some u ∧ Q (.v u) e2 s2 | none => Q w e2 s2) := rfl
theorem v_tabIn {n : Bool} {x : Str} : vpE C (.tabIn n x i) X ev σ Q = ∃ kvs, C.td x = some kvs ∧ vpE C i X ev σ fun y e1 s1 => ∃ z, y = .v (.str z) ∧ Q (.v (.bl (if n = true then !(kvs.lookup z).isSome else (kvs.lookup z).isSome))) e1 s1 := rfl
theorem v_idx : vpE C (.idx a i) X ev σ Q = opd a ev σ (vpE C a X ev σ) fun x e1 s1 => opd i e1 s1 (vpE C i X e1 s1) fun y e2 s2 => ∃ p q, x.get e2 = some p ∧ y.get e2 = some q ∧ uIdx p q s2 fun u => Q (.v u) e2 s2 := rfl
theorem v_sli {lo hi : Oe} : vpE C (.sli a lo hi) X ev σ Q = opd a ev σ (vpE C a X ev σ) fun x e1 s1 => vpO C lo X e1 s1 fun l e2 s2 => vpO C hi X e2 s2 fun u e3 s3 => ∃ p, x.get e3 = some p ∧ uSli p l u s3 fun r => Q r e3 s3 := rfl
theorem v_rev : vpE C (.rev a) X ev σ Q = opd a ev σ (vpE C a X ev σ) fun x e1 s1 => ∃ p us, x.get e1 = some p ∧ wlst s1 p = some us ∧ Q (.own us.reverse) e1 s1 := rfl
theorem v_call {f : Str} : vpE C (.call f es) X ev σ Q = (C.isf f = true ∧ vpLs C es X ev σ fun us e1 s1 => C.fs f us s1 (fun w s2 => Q w e1 s2) (fun c r s2 => X c r e1 s2)) := rfl
theorem v_bi {o : Bi} : vpE C (.bi o es) X ev σ Q = vpDs C es X ev σ fun os e1 s1 => ∃ ws, getAll e1 os = some ws ∧ uBi o ws s1 fun r => Q r e1 s1 := rfl
theorem v_rng {k : Bool} : vpE C (.rng k a b) X ev σ Q = vpE C a X ev σ fun x e1 s1 => vpE C b X e1 s1 fun y e2 s2 => ∃ i j, x = .v (.int i) ∧ y = .v (.int j) ∧ (-1000000 ≤ i ∧ i ≤ 1000000 ∧ -1000000 ≤ j ∧ j ≤ 1000000) ∧
      if k = true then Q (.v (.tup ((List.range (j - i).toNat).map fun n : Nat => U.int (i + n)))) e2 s2 else Q (.own ((List.range (j - i).toNat).map fun n : Nat => U.int (i + n))) e2 s2 := rfl
theorem v_mt {m : Mt} : vpE C (.mt m a es) X ev σ Q = opd a ev σ (vpE C a X ev σ) fun x e1 s1 => umTy m x e1 s1 ∧ vpLs C es X e1 s1 fun us e2 s2 => uMt m x us e2 s2 Q := rfl
theorem v_isi {ts : List Tn} : vpE C (.isi a ts) X ev σ Q = opd a ev σ (vpE C a X ev σ) fun x e1 s1 => ∃ p t, x.get e1 = some p ∧ tyU s1 p = some t ∧ Q (.v (.bl (ts.any (isT t)))) e1 s1 := rfl
theorem v_comp {cc : Oe} {own : List (Str × Nat)} : vpE C (.comp a t it cc own) X ev σ Q = (subN (tgSl t) (own.map (·.2)) = true ∧ ((vpI C it X ev σ fun s e1 s1 => compV C a t cc (own.map (·.2)) (fun _ s' => s.ok s') s.items e1 s1 fun acc e2 s2 => Q (.own acc) e2 s2) ∨ ∃ i us, keepI ev it = some (i, us) ∧ detUs us = true ∧ compV C a t cc (own.map (·.2)) (fun e' _ => evGet e' i = some (.own us)) us ev σ fun acc e2 s2 => Q (.own acc) e2 s2)) := rfl
theorem v_fld {f : Str} : vpE C (.fld a f) X ev σ Q = vpE C a X ev σ fun x e1 s1 => ∃ n c fs u, x = .v (.ref n) ∧ s1[n]? = some (.ins c fs) ∧ C.fl c f = true ∧ fs.lookup f = some (.v u) ∧ Q (.v u) e1 s1 := rfl
theorem v_meth {m : Str} : vpE C (.meth a m es) X ev σ Q = vpE C a X ev σ fun x e1 s1 => ∃ n c fs g, x = .v (.ref n) ∧ s1[n]? = some (.ins c fs) ∧ C.mtk c m = some g ∧ fs.lookup m = none ∧ vpLs C es X e1 s1 fun us e2 s2 => C.fs g (.ref n :: us) s2 (fun w s3 => Q w e2 s3) (fun c r s3 => X c r e2 s3) := rfl
theorem v_make {k : Str} : vpE C (.make k es) X ev σ Q = ∃ g, C.mtk k "__init__" = some g ∧ vpLs C es X ev σ fun us e1 s1 => C.fs g (.ref s1.length :: us) (s1 ++ [.ins k []]) (fun w s2 => w = .v .non ∧ Q (.v (.ref s1.length)) e1 s2) (fun c r s2 => X c r e1 s2) := rfl
theorem v_prom : vpE C (.prom a) X ev σ Q = vpE C a X ev σ fun x e1 s1 => (∃ us, x = .own us ∧ Q (.v (.ref s1.length)) e1 (s1 ++ [.lst us])) ∨ ∃ kvs, x = .ownD kvs ∧ Q (.v (.ref s1.length)) e1 (s1 ++ [.dK kvs]) := rfl
theorem v_nest {n : Ne} : vpE C (.nest n a) X ev σ Q = opd a ev σ (vpE C a X ev σ) fun x e1 s1 => ∃ p, x.get e1 = some p ∧ uNe n p s1 fun r => Q r e1 s1 := rfl
theorem w_augs {o : Bo} : vpS C (.augs b i o a) ev σ P = opd b ev σ (vpE C b P.ex ev σ) fun x e1 s1 => opd i e1 s1 (vpE C i P.ex e1 s1) fun y e2 s2 => ∃ us k u, mutL e2 s2 x = some us ∧ y.get e2 = some (.v (.int k)) ∧ 0 ≤ k ∧ atI us k = some u ∧ flatU u = true ∧
      vpE C a P.ex e2 s2 fun z e3 s3 => uAug o u z fun r => ∃ us' j, mutL e3 s3 x = some us' ∧ ixN us'.length k = some j ∧ putL (us'.set j r) e3 s3 P.nx x := rfl
theorem w_setf {f : Str} : vpS C (.setf b f a) ev σ P = vpE C a P.ex ev σ fun x e1 s1 => vpE C b P.ex e1 s1 fun y e2 s2 => ∃ n c fs, y = .v (.ref n) ∧ s2[n]? = some (.ins c fs) ∧ C.fl c f = true ∧ fs.length < 1000 ∧ P.nx e2 (s2.set n (.ins c (putFU f (.v (frzU x)) fs))) := rfl
theorem w_augf {f : Str} {o : Bo} : vpS C (.augf b f o a) ev σ P = vpE C b P.ex ev σ fun x e1 s1 => ∃ n c fs u, x = .v (.ref n) ∧ s1[n]? = some (.ins c fs) ∧ C.fl c f = true ∧ fs.lookup f = some (.v u) ∧ flatU u = true ∧
      vpE C a P.ex e1 s1 fun y e2 s2 => uAug o u y fun z => ∃ fs', s2[n]? = some (.ins c fs') ∧ fs'.length < 1000 ∧ P.nx e2 (s2.set n (.ins c (putFU f (.v z) fs'))) := rfl
theorem w_retn : vpS C .retn ev σ P = P.rt (.v .non) σ := rfl
theorem w_rais : vpS C .rais ev σ P = False := rfl
theorem v_isx {cs : List Str} : vpE C (.isx a cs) X ev σ Q = vpE C a X ev σ fun x e1 s1 => ∃ n c p, x = .v (.ref n) ∧ s1[n]? = some (.exc c p) ∧ (C.xk c).isSome = true ∧ cs.all (fun y => (C.xk y).isSome || y == "ValueError") = true ∧ Q (.v (.bl (cs.any (C.sb c)))) e1 s1 := rfl
theorem v_xfld : vpE C (.xfld a) X ev σ Q = vpE C a X ev σ fun x e1 s1 => ∃ n c v, x = .v (.ref n) ∧ s1[n]? = some (.exc c (some v)) ∧ (C.xk c).isSome = true ∧ Q (.v v) e1 s1 := rfl
theorem w_rais0 {c : Str} : vpS C (.rais0 c) ev σ P = (C.xk c = some false ∧ P.ex c none ev σ) := rfl
theorem w_raisR {c : Str} : vpS C (.raisR c a) ev σ P = (C.xk c = some true ∧ vpE C a P.ex ev σ fun x e1 s1 => P.ex c (some (frzU x)) e1 s1) := rfl
theorem w_tryA {c : Str} {i : Nat} {su : List Th} : vpS C (.tryA sa c i su) ev σ P = ((C.xk c).isSome = true ∧ vpSs C sa ev σ { P with ex := fun c' p e' s' => (C.xk c').isSome = true ∧ if C.sb c' c = true then vpTh C.hot su (e'.set i (some (.v (.ref s'.length)))) (s' ++ [.exc c' p]) (P.unset i) else P.ex c' p e' s' }) := rfl
theorem w_tryM {hs : List (Str × List Th)} : vpS C (.tryM sa hs) ev σ P = ((hs.all fun x => (C.xk x.1).isSome) = true ∧ vpSs C sa ev σ { P with ex := fun c p e' s' => vpHs C P c p e' s' hs }) := rfl
theorem w_asg : vpS C (.asg t a) ev σ P = vpE C a P.ex ev σ fun x e1 s1 => vpG C t (fun _ _ _ _ => False) x e1 s1 P.nx := rfl
theorem w_setc {n : Nat} {cc : Oe} {own : List (Str × Nat)} : vpS C (.setc n a t it cc own) ev σ P = (subN (tgSl t) (own.map (·.2)) = true ∧ ((vpI C it P.ex ev σ fun s e1 s1 => compV C a t cc (own.map (·.2)) (fun _ s' => s.ok s') s.items e1 s1 fun acc e2 s2 => P.nx (e2.set n (some (.own acc))) s2) ∨ ∃ i us, keepI ev it = some (i, us) ∧ detUs us = true ∧ compV C a t cc (own.map (·.2)) (fun e' _ => evGet e' i = some (.own us)) us ev σ fun acc e2 s2 => P.nx (e2.set n (some (.own acc))) s2)) := rfl
theorem w_par {n m : Nat} : vpS C (.par n m a b) ev σ P = vpE C a P.ex ev σ fun x e1 s1 => vpE C b P.ex e1 s1 fun y e2 s2 => n ≠ m ∧ P.nx ((e2.set n (some x)).set m (some y)) s2 := rfl
theorem w_par3 {n m l : Nat} : vpS C (.par3 n m l a b c) ev σ P = vpE C a P.ex ev σ fun x e1 s1 => vpE C b P.ex e1 s1 fun y e2 s2 => vpE C c P.ex e2 s2 fun z e3 s3 => (n ≠ m ∧ n ≠ l ∧ m ≠ l) ∧ P.nx (((e3.set n (some x)).set m (some y)).set l (some z)) s3 := rfl
theorem w_aug {n : Nat} {o : Bo} : vpS C (.aug n o a) ev σ P = ∃ x, evGet ev n = some (.v x) ∧ flatU x = true ∧ vpE C a P.ex ev σ fun y e1 s1 => uAug o x y fun z => P.nx (e1.set n (some (.v z))) s1 := rfl
theorem w_expr : vpS C (.expr a) ev σ P = vpE C a P.ex ev σ fun _ e1 s1 => P.nx e1 s1 := rfl
theorem w_ret : vpS C (.ret a) ev σ P = opd a ev σ (vpE C a P.ex ev σ) fun x e1 s1 => ∃ p, x.get e1 = some p ∧ P.rt p s1 := rfl
theorem w_ite : vpS C (.ite c sa sb) ev σ P = opd c ev σ (vpE C c P.ex ev σ) fun x e1 s1 => ∃ p, x.get e1 = some p ∧ truW s1 (fun r => if r = true then vpSs C sa e1 s1 P else vpSs C sb e1 s1 P) p := rfl
theorem w_loop : vpS C (.loop c sb) ev σ P = loopV C c sb P ev σ := rfl
theorem w_each : vpS C (.each t it sb) ev σ P = vpI C it P.ex ev σ fun s e1 s1 => forV C t sb P s e1 s1 := rfl
theorem w_brk : vpS C .brk ev σ P = P.bk ev σ := rfl
theorem w_cont : vpS C .cont ev σ P = P.ct ev σ := rfl
theorem w_pass : vpS C .pass ev σ P = P.nx ev σ := rfl
theorem w_nil : vpSs C .nil ev σ P = P.nx ev σ := rfl
theorem w_cons {s : S} {r : Ss} : vpSs C (.cons s r) ev σ P = vpS C s ev σ { P with nx := fun e1 s1 => vpSs C r e1 s1 P } := rfl
theorem loop_v {c : E} {b : Ss} {P : Pu} {ev : Ev} {σ : Us} (I : Nat → Ev → Us → Prop) (m0 : Nat) (h0 : m0 ≤ 1000000) (w0 : I m0 ev σ)
    (ht : ∀ m ev σ, I m ev σ → opd c ev σ (vpE C c P.ex ev σ) fun x e1 s1 => ∃ p, x.get e1 = some p ∧ truW s1 (fun r => if r = true then vpSs C b e1 s1 { P with nx := fun e' s' => ∃ m', m' < m ∧ I m' e' s', ct := fun e' s' => ∃ m', m' < m ∧ I m' e' s', bk := P.nx } else P.nx e1 s1) p) : loopV C c b P ev σ :=
  ⟨I, ⟨m0, h0, w0⟩, ht⟩
end
section
variable {σ : Us} {ev : Ev} {Q : W → Prop} {B : Bool → Prop} {Qu : U → Prop} {Qe : Ev → Us → Prop} {s z : Str} {p q : Bool} {i j : Int} {us vs : List U} {n m : Nat} {u : U} {w : W}
theorem eg_zero {l : Ev} : evGet (some w :: l) 0 = some w := rfl
theorem eg_none {l : Ev} : evGet (none :: l) 0 = none := rfl
theorem eg_succ {l : Ev} {x : Option W} : evGet (x :: l) (n + 1) = evGet l n := by
  unfold evGet
  rw [List.getElem?_cons_succ]
theorem od_at : Od.get ev (.at n) = evGet ev n := rfl
theorem od_w : Od.get ev (.w w) = some w := rfl
theorem ga_nil : getAll ev [] = some [] := rfl
theorem ga_cons {o : Od} {r : List Od} : getAll ev (o :: r) = match o.get ev, getAll ev r with | some w, some ws => some (w :: ws) | _, _ => none := rfl
theorem fz_v : frzU (.v u) = u := rfl
theorem fz_o : frzU (.own us) = .vl us := rfl
theorem fz_d {kvs : List (Key × U)} : frzU (.ownD kvs) = .vd kvs := rfl
theorem kp_v : kept (some (.v u)) = some (.v u) := rfl
theorem kp_o : kept (some (.own us)) = none := rfl
theorem kp_n : kept none = none := rfl
theorem ub_add : uBo .add (.v (.int i)) (.v (.int j)) σ Q = Q (.v (.int (i + j))) := rfl
theorem ub_adds : uBo .add (.v (.str s)) (.v (.str z)) σ Q = (s.length + z.length ≤ 100000 ∧ Q (.v (.str (s ++ z)))) := rfl
theorem ub_addt : uBo .add (.v (.tup us)) (.v (.tup vs)) σ Q = (us.length + vs.length ≤ 100000 ∧ Q (.v (.tup (us ++ vs)))) := rfl
theorem ub_oo : uBo .add (.own us) (.own vs) σ Q = (us.length + vs.length ≤ 100000 ∧ Q (.own (us ++ vs))) := by simp [uBo, wlst]
theorem ub_ov : uBo .add (.own us) (.v (.vl vs)) σ Q = (us.length + vs.length ≤ 100000 ∧ Q (.own (us ++ vs))) := by simp [uBo, wlst]
theorem ub_vo : uBo .add (.v (.vl us)) (.own vs) σ Q = (us.length + vs.length ≤ 100000 ∧ Q (.own (us ++ vs))) := by simp [uBo, wlst]
theorem ub_vv : uBo .add (.v (.vl us)) (.v (.vl vs)) σ Q = (us.length + vs.length ≤ 100000 ∧ Q (.own (us ++ vs))) := by simp [uBo, wlst]
theorem ub_sub : uBo .sub (.v (.int i)) (.v (.int j)) σ Q = Q (.v (.int (i - j))) := rfl
theorem ub_mul : uBo .mul (.v (.int i)) (.v (.int j)) σ Q = ((CMul i j ∨ CMulW i j) ∧ Q (.v (.int (i * j)))) := rfl
theorem ub_mulo : uBo .mul (.own us) (.v (.int j)) σ Q = (-1000000 ≤ j ∧ j ≤ 1000000 ∧ us.length * j.toNat ≤ 100000 ∧ Q (.own (List.replicate j.toNat us).flatten)) := by simp [uBo, wlst]
theorem ub_mulv : uBo .mul (.v (.vl us)) (.v (.int j)) σ Q = (-1000000 ≤ j ∧ j ≤ 1000000 ∧ us.length * j.toNat ≤ 100000 ∧ Q (.own (List.replicate j.toNat us).flatten)) := by simp [uBo, wlst]
theorem ub_fdiv : uBo .fdiv (.v (.int i)) (.v (.int j)) σ Q = ((CDiv i j ∨ CDivW i j) ∧ Q (.v (.int (i / j)))) := rfl
theorem ub_mod : uBo .mod (.v (.int i)) (.v (.int j)) σ Q = (0 < j ∧ Q (.v (.int (i % j)))) := rfl
theorem ub_pow : uBo .pow (.v (.int i)) (.v (.int j)) σ Q = ((CPow i j ∨ CPowW i j) ∧ Q (.v (.int (i ^ j.toNat)))) := rfl
theorem ub_xor : uBo .xor (.v (.int i)) (.v (.int j)) σ Q = Q (.v (.int (Builtin.bitXor i j))) := rfl
theorem ua_add : uAug .add (.int i) (.v (.int j)) Qu = Qu (.int (i + j)) := rfl
theorem ua_adds : uAug .add (.str s) (.v (.str z)) Qu = (s.length + z.length ≤ 100000 ∧ Qu (.str (s ++ z))) := rfl
theorem ua_sub : uAug .sub (.int i) (.v (.int j)) Qu = Qu (.int (i - j)) := rfl
theorem fl_i : flatU (.int i) = true := rfl
theorem fl_s : flatU (.str s) = true := rfl
theorem fl_b : flatU (.bl p) = true := rfl
theorem fl_n : flatU .non = true := rfl
theorem ue_ii : uEq (.int i) (.int j) B = B (decide (i = j)) := rfl
theorem ue_ss : uEq (.str s) (.str z) B = B (decide (s = z)) := rfl
theorem ue_bb : uEq (.bl p) (.bl q) B = B (decide (p = q)) := rfl
theorem ue_nn : uEq .non .non B = B true := rfl
theorem ue_ni : uEq .non (.int i) B = B false := rfl
theorem ue_in : uEq (.int i) .non B = B false := rfl
theorem ue_ns : uEq .non (.str s) B = B false := rfl
theorem ue_sn : uEq (.str s) .non B = B false := rfl
theorem ue_nb : uEq .non (.bl p) B = B false := rfl
theorem ue_bn : uEq (.bl p) .non B = B false := rfl
theorem ue_is : uEq (.int i) (.str s) B = B false := rfl
theorem ue_si : uEq (.str s) (.int i) B = B false := rfl
theorem wu_o : wU σ (.own us) = .vl us := rfl
theorem wu_i : wU σ (.v (.int i)) = .int i := rfl
theorem wu_s : wU σ (.v (.str s)) = .str s := rfl
theorem wu_b : wU σ (.v (.bl p)) = .bl p := rfl
theorem wu_n : wU σ (.v .non) = .non := rfl
theorem wu_t : wU σ (.v (.tup us)) = .tup us := rfl
theorem wu_l : wU σ (.v (.vl us)) = .vl us := rfl
theorem uc_eq {x y : W} : uCo .eq x y σ B = uEq (wU σ x) (wU σ y) B := rfl
theorem uc_ne {x y : W} : uCo .ne x y σ B = uEq (wU σ x) (wU σ y) fun b => B (!b) := rfl
theorem uc_lt : uCo .lt (.v (.int i)) (.v (.int j)) σ B = B (decide (i < j)) := rfl
theorem uc_le : uCo .le (.v (.int i)) (.v (.int j)) σ B = B (decide (i ≤ j)) := rfl
theorem uc_gt : uCo .gt (.v (.int i)) (.v (.int j)) σ B = B (decide (j < i)) := rfl
theorem uc_ge : uCo .ge (.v (.int i)) (.v (.int j)) σ B = B (decide (j ≤ i)) := rfl
theorem uc_is0 : uCo .is (.v .non) (.v .non) σ B = B true := rfl
theorem uc_is1 : uCo .is (.v (.int i)) (.v .non) σ B = B false := rfl
theorem uc_is2 : uCo .is (.v (.str s)) (.v .non) σ B = B false := rfl
theorem uc_is3 : uCo .is (.v (.tup us)) (.v .non) σ B = B false := rfl
theorem uc_is4 : uCo .is (.v (.vl us)) (.v .non) σ B = B false := rfl
theorem uc_is5 : uCo .is (.own us) (.v .non) σ B = B false := rfl
theorem uc_is6 : uCo .is (.v (.ref n)) (.v .non) σ B = B false := rfl
theorem uc_isn0 : uCo .isnot (.v .non) (.v .non) σ B = B false := rfl
theorem uc_isn1 : uCo .isnot (.v (.int i)) (.v .non) σ B = B true := rfl
theorem uc_isn2 : uCo .isnot (.v (.str s)) (.v .non) σ B = B true := rfl
theorem uc_isn3 : uCo .isnot (.v (.tup us)) (.v .non) σ B = B true := rfl
theorem uc_isn4 : uCo .isnot (.v (.vl us)) (.v .non) σ B = B true := rfl
theorem uc_isn5 : uCo .isnot (.own us) (.v .non) σ B = B true := rfl
theorem uc_isn6 : uCo .isnot (.v (.ref n)) (.v .non) σ B = B true := rfl
theorem uc_ltt {a b : List U} : uCo .lt (.v (.tup a)) (.v (.tup b)) σ B = ∃ p q, toP (.tup a) = some p ∧ toP (.tup b) = some q ∧ SeqAt.shaped p = true ∧ SeqAt.shaped q = true ∧ PySem.W.alike p q = true ∧ B (PySem.W.dataLt p q) := rfl
theorem uc_deq {x y : W} : uCo .deq x y σ B = ∃ p q, toP (dpU σ x) = some p ∧ toP (dpU σ y) = some q ∧ SeqAt.shaped p = true ∧ SeqAt.shaped q = true ∧ B (PyData.eqv p q) := rfl
theorem uc_dne {x y : W} : uCo .dne x y σ B = ∃ p q, toP (dpU σ x) = some p ∧ toP (dpU σ y) = some q ∧ SeqAt.shaped p = true ∧ SeqAt.shaped q = true ∧ B (!PyData.eqv p q) := rfl
theorem uc_ino {y : W} : uCo .isin (.own us) y σ B = uInD (.vl us) y σ B := rfl
theorem uc_notino {y : W} : uCo .notin (.own us) y σ B = uInD (.vl us) y σ fun b => B (!b) := rfl
theorem uf_max1 {x : W} : uBi .max1 [x] σ Q = ∃ is : List Int, wlst σ x = some (is.map U.int) ∧ 0 < is.length ∧ ∀ m, m ∈ is → (∀ y ∈ is, y ≤ m) → Q (.v (.int m)) := rfl
theorem uc_in {y : W} : uCo .isin (.v u) y σ B = uIn u y σ B := rfl
theorem uc_notin {y : W} : uCo .notin (.v u) y σ B = uIn u y σ fun b => B (!b) := rfl
theorem tw_n : truW σ B (.v .non) = B false := rfl
theorem tw_b : truW σ B (.v (.bl p)) = B p := rfl
theorem tw_i : truW σ B (.v (.int i)) = B (i != 0) := rfl
theorem tw_s : truW σ B (.v (.str s)) = (s.length ≤ 100000 ∧ B (s.length != 0)) := rfl
theorem tw_t : truW σ B (.v (.tup us)) = B (!us.isEmpty) := rfl
theorem tw_l : truW σ B (.v (.vl us)) = B (!us.isEmpty) := rfl
theorem tw_o : truW σ B (.own us) = B (!us.isEmpty) := rfl
theorem ui_o : uIdx (.own us) (.v (.int i)) σ Qu = ∃ u, atI us i = some u ∧ Qu u := by simp [uIdx, wels, wdct]
theorem ui_l : uIdx (.v (.vl us)) (.v (.int i)) σ Qu = ∃ u, atI us i = some u ∧ Qu u := by simp [uIdx, wels, wdct]
theorem ui_t : uIdx (.v (.tup us)) (.v (.int i)) σ Qu = ∃ u, atI us i = some u ∧ Qu u := by simp [uIdx, wels, wdct]
theorem ui_s : uIdx (.v (.str s)) (.v (.int i)) σ Qu = ∃ c, s.length ≤ 100000 ∧ atI s.cps.toList i = some c ∧ Qu (.str ⟨#[c]⟩) := by simp [uIdx]
theorem ui_d {kvs : List (Key × U)} : uIdx (.v (.vd kvs)) (.v (.str s)) σ Qu = ∃ u, getU kvs (.inr s) = some u ∧ Qu u := by simp [uIdx, wels, wdct, keyU]
theorem us_s {lo hi : Option Int} : uSli (.v (.str s)) lo hi σ Q = (s.length ≤ 100000 ∧ Q (.v (.str (cutS s lo hi)))) := rfl
theorem us_t {lo hi : Option Int} : uSli (.v (.tup us)) lo hi σ Q = Q (.v (.tup (cutU us lo hi))) := rfl
theorem us_c {lo hi : Option Int} {ns : List Int} : uSli (.v (.scr ns)) lo hi σ Q = Q (.own (cutU (ns.map U.int) lo hi)) := rfl
theorem us_o {lo hi : Option Int} : uSli (.own us) lo hi σ Q = Q (.own (cutU us lo hi)) := by simp [uSli, wlst]
theorem us_l {lo hi : Option Int} : uSli (.v (.vl us)) lo hi σ Q = Q (.own (cutU us lo hi)) := by simp [uSli, wlst]
theorem wl_o : wlst σ (.own us) = some us := rfl
theorem wl_l : wlst σ (.v (.vl us)) = some us := rfl
theorem wl_r : wlst σ (.v (.ref n)) = stL σ n := rfl
theorem we_o : wels σ (.own us) = some us := rfl
theorem we_l : wels σ (.v (.vl us)) = some us := rfl
theorem we_t : wels σ (.v (.tup us)) = some us := rfl
theorem we_c {ns : List Int} : wels σ (.v (.scr ns)) = some (ns.map U.int) := rfl
theorem we_r : wels σ (.v (.ref n)) = stL σ n := rfl
theorem uf_lens : uBi .len [.v (.str s)] σ Q = (s.length ≤ 100000 ∧ Q (.v (.int s.length))) := rfl
theorem uf_leno : uBi .len [.own us] σ Q = Q (.v (.int us.length)) := by simp [uBi, wels, wdct]
theorem uf_lenl : uBi .len [.v (.vl us)] σ Q = Q (.v (.int us.length)) := by simp [uBi, wels, wdct]
theorem uf_lent : uBi .len [.v (.tup us)] σ Q = Q (.v (.int us.length)) := by simp [uBi, wels, wdct]
theorem uf_lend {kvs : List (Key × U)} : uBi .len [.v (.vd kvs)] σ Q = Q (.v (.int kvs.length)) := by simp [uBi, wels, wdct]
theorem uf_lenD {kvs : List (Key × U)} : uBi .len [.ownD kvs] σ Q = Q (.v (.int kvs.length)) := by simp [uBi, wels, wdct]
theorem uf_list : uBi .list [w] σ Q = ∃ us, wels σ w = some us ∧ Q (.own us) := rfl
theorem uf_tuple : uBi .tuple [w] σ Q = ∃ us, wels σ w = some us ∧ Q (.v (.tup us)) := rfl
theorem uf_divmod : uBi .divmod [.v (.int i), .v (.int j)] σ Q = ((CDiv i j ∨ CDivW i j) ∧ Q (.v (.tup [.int (i / j), .int (i % j)]))) := rfl
theorem uf_abs : uBi .abs [.v (.int i)] σ Q = Q (.v (.int (if i < 0 then -i else i))) := rfl
theorem uf_inti : uBi .int [.v (.int i)] σ Q = Q (.v (.int i)) := rfl
theorem uf_intb : uBi .int [.v (.bl p)] σ Q = Q (.v (.int (if p then 1 else 0))) := rfl
theorem uf_booli : uBi .bool [.v (.int i)] σ Q = Q (.v (.bl (i != 0))) := rfl
theorem uf_boolb : uBi .bool [.v (.bl p)] σ Q = Q (.v (.bl p)) := rfl
theorem uf_max2 : uBi .max2 [.v (.int i), .v (.int j)] σ Q = Q (.v (.int (if j > i then j else i))) := rfl
theorem uf_min2 : uBi .min2 [.v (.int i), .v (.int j)] σ Q = Q (.v (.int (if j < i then j else i))) := rfl
theorem uf_all : uBi .all [w] σ Q = ∃ bs : List Bool, wlst σ w = some (bs.map U.bl) ∧ Q (.v (.bl (bs.all id))) := rfl
theorem uf_any : uBi .any [w] σ Q = ∃ bs : List Bool, wlst σ w = some (bs.map U.bl) ∧ Q (.v (.bl (bs.any id))) := rfl
theorem uf_sum : uBi .sum [w] σ Q = ∃ is : List Int, wlst σ w = some (is.map U.int) ∧ Q (.v (.int is.sum)) := rfl
theorem uf_str : uBi .str [.v (.int i)] σ Q = (i.natAbs.log2 < 1920 ∧ Q (.v (.str (toString i)))) := rfl
theorem uf_strt : uBi .str [.v (.tup us)] σ Q = ∃ p, toP (.tup us) = some p ∧ Shows p ∧ Q (.v (.str p.shown)) := by simp [uBi, wU, contU]
theorem uf_strl : uBi .str [.v (.vl us)] σ Q = ∃ p, toP (.vl us) = some p ∧ Shows p ∧ Q (.v (.str p.shown)) := by simp [uBi, wU, contU]
theorem uf_stro : uBi .str [.own us] σ Q = ∃ p, toP (.vl us) = some p ∧ Shows p ∧ Q (.v (.str p.shown)) := by simp [uBi, wU, contU]
theorem um_append {o : Od} {Q : Qw} : uMt .append o [u] ev σ Q = ∃ us, mutL ev σ o = some us ∧ us.length < 100000 ∧ putL (us ++ [u]) ev σ (Q (.v .non)) o := rfl
theorem wx_t : welx σ (.tup us) = some us := rfl
theorem wx_l : welx σ (.vl us) = some us := rfl
theorem wx_r : welx σ (.ref n) = stL σ n := rfl
theorem um_extend {o : Od} {Q : Qw} : uMt .extend o [u] ev σ Q = ∃ us vs, mutL ev σ o = some us ∧ welx σ u = some vs ∧ us.length + vs.length ≤ 100000 ∧ putL (us ++ vs) ev σ (Q (.v .non)) o := rfl
theorem um_pop {o : Od} {Q : Qw} : uMt .pop o [] ev σ Q = ∃ us u, mutL ev σ o = some us ∧ us[us.length - 1]? = some u ∧ putL us.dropLast ev σ (Q (.v u)) o := rfl
theorem um_popAt {o : Od} {Q : Qw} : uMt .popAt o [.int i] ev σ Q = ∃ us k u, mutL ev σ o = some us ∧ -100000 ≤ i ∧ i ≤ 100000 ∧ seqIndex? i us.length = some k ∧ us[k]? = some u ∧ putL (us.eraseIdx k) ev σ (Q (.v u)) o := rfl
theorem um_reverse {o : Od} {Q : Qw} : uMt .reverse o [] ev σ Q = ∃ us, mutL ev σ o = some us ∧ putL us.reverse ev σ (Q (.v .non)) o := rfl
theorem um_insert {o : Od} {Q : Qw} : uMt .insert o [.int i, u] ev σ Q = ∃ us, mutL ev σ o = some us ∧ 0 ≤ i ∧ i ≤ us.length ∧ us.length < 100000 ∧ putL (us.take i.toNat ++ u :: us.drop i.toNat) ev σ (Q (.v .non)) o := rfl
theorem um_index {o : Od} {Q : Qw} : uMt .index o [u] ev σ Q = ∃ w us j y, o.get ev = some w ∧ wlst σ w = some us ∧ flatU u = true ∧ us.all flatU = true ∧ us[j]? = some y ∧ eqU y u = true ∧ (∀ (m : Nat) z, m < j → us[m]? = some z → eqU z u = false) ∧ Q (.v (.int (j : Nat))) ev σ := rfl
theorem um_join {o : Od} {Q : Qw} : uMt .join o [u] ev σ Q = ∃ a, o.get ev = some (.v (.str a)) ∧ ∃ ss : List Str, wlst σ (.v u) = some (ss.map U.str) ∧ (ss.map (·.length)).sum + ss.length * a.length ≤ 100000 ∧ Q (.v (.str (Txt.join a ss))) ev σ := rfl
theorem ut_l {o : Od} {m : Mt} (h : (match m with | .get2 => false | .get1 => false | .dpop2 => false | .setdef => false | .update => false | .index => false | .join => false | _ => true) = true) : umTy m o ev σ = ∃ us, mutL ev σ o = some us := by cases m <;> first | rfl | cases h
theorem uf_listS : uBi .listS [.v (.str s)] σ Q = (s.length ≤ 100000 ∧ Q (.own (s.cps.toList.map fun c => .str ⟨#[c]⟩))) := rfl
theorem uf_listK : uBi .listK [w] σ Q = ∃ kvs, wdct σ w = some kvs ∧ kvs.length ≤ 100000 ∧ Q (.own (kvs.map fun kv => ukey kv.1)) := rfl
theorem uf_sortK : uBi .sortK [w] σ Q = ∃ kvs, ∃ ks : List Str, wdct σ w = some kvs ∧ kvs.map (·.1) = ks.map Sum.inr ∧ ks.length < 64 ∧ ∀ ys : List Str, ys.Perm ks → PyProof.Rows.sortedS ys = true → Q (.own (ys.map U.str)) := rfl
theorem uf_dict : uBi .dict [w] σ Q = ((∃ us ps, wlst σ w = some us ∧ prsU us = some ps ∧ Q (.ownD (mergeU [] ps))) ∨ ∃ kvs, wdct σ w = some kvs ∧ Q (.ownD kvs)) := rfl
theorem un_items : uNe .litems w σ Q = ∃ kvs, wdct σ w = some kvs ∧ kvs.length ≤ 100000 ∧ Q (.own (kvs.map fun kv => .tup [ukey kv.1, kv.2])) := rfl
theorem un_vals : uNe .svals w σ Q = ∃ kvs, ∃ is : List Int, wdct σ w = some kvs ∧ kvs.map (·.2) = is.map U.int ∧ (∀ j, j ≤ is.length → InLong ((is.take j).sum)) ∧ (∀ i ∈ is, InLong i) ∧ Q (.v (.int is.sum)) := rfl
theorem un_lrev : uNe .lrev w σ Q = ∃ us, wlst σ w = some us ∧ Q (.own us.reverse) := rfl
theorem un_dne : uNe .dne w σ Q = ∃ kvs, wdct σ w = some kvs ∧ Q (.v (.bl (!kvs.isEmpty))) := rfl
theorem wd_o {kvs : List (Key × U)} : wdct σ (.ownD kvs) = some kvs := rfl
theorem wd_v {kvs : List (Key × U)} : wdct σ (.v (.vd kvs)) = some kvs := rfl
theorem wd_r : wdct σ (.v (.ref n)) = stD σ n := rfl
theorem ku_s : keyU (.str s) = some (.inr s) := rfl
theorem ku_i : keyU (.int i) = some (.inl i) := rfl
theorem wu_d {kvs : List (Key × U)} : wU σ (.v (.vd kvs)) = .vd kvs := rfl
theorem ui_D {kvs : List (Key × U)} : uIdx (.ownD kvs) (.v (.str s)) σ Qu = ∃ u, getU kvs (.inr s) = some u ∧ Qu u := by simp [uIdx, wels, wdct, keyU]
theorem ui_Di {kvs : List (Key × U)} : uIdx (.ownD kvs) (.v (.int i)) σ Qu = ∃ u, getU kvs (.inl i) = some u ∧ Qu u := by simp [uIdx, wels, wdct, keyU]
theorem ui_di {kvs : List (Key × U)} : uIdx (.v (.vd kvs)) (.v (.int i)) σ Qu = ∃ u, getU kvs (.inl i) = some u ∧ Qu u := by simp [uIdx, wels, wdct, keyU]
theorem tu_d {kvs : List (Key × U)} : tyU σ (.v (.vd kvs)) = some .dict := rfl
theorem tu_D {kvs : List (Key × U)} : tyU σ (.ownD kvs) = some .dict := rfl
theorem um_get2 {o : Od} {v : U} {Q : Qw} : uMt .get2 o [u, v] ev σ Q = ∃ w kvs key, o.get ev = some w ∧ wdct σ w = some kvs ∧ keyU u = some key ∧ Q (.v ((getU kvs key).getD v)) ev σ := rfl
theorem um_get1 {o : Od} {Q : Qw} : uMt .get1 o [u] ev σ Q = ∃ w kvs key, o.get ev = some w ∧ wdct σ w = some kvs ∧ keyU u = some key ∧ Q (.v ((getU kvs key).getD .non)) ev σ := rfl
theorem um_dpop2 {o : Od} {v : U} {Q : Qw} : uMt .dpop2 o [u, v] ev σ Q = ∃ kvs key, mutD ev σ o = some kvs ∧ keyU u = some key ∧ (∀ v, getU kvs key = some v → putK (dropU kvs key) ev σ (Q (.v v)) o) ∧ (getU kvs key = none → Q (.v v) ev σ) := rfl
theorem um_setdef {o : Od} {v : U} {Q : Qw} : uMt .setdef o [u, v] ev σ Q = ∃ kvs key, mutD ev σ o = some kvs ∧ keyU u = some key ∧ kvs.length < 100000 ∧ (∀ v, getU kvs key = some v → Q (.v v) ev σ) ∧ (getU kvs key = none → putK (putU kvs key v) ev σ (Q (.v v)) o) := rfl
theorem um_update {o : Od} {more : List (Key × U)} {Q : Qw} : uMt .update o [.vd more] ev σ Q = ∃ kvs, mutD ev σ o = some kvs ∧ kvs.length + more.length ≤ 100000 ∧ putK (mergeU kvs more) ev σ (Q (.v .non)) o := rfl
theorem ut_get2 {o : Od} : umTy .get2 o ev σ = ∃ w kvs, o.get ev = some w ∧ wdct σ w = some kvs := rfl
theorem ut_get1 {o : Od} : umTy .get1 o ev σ = ∃ w kvs, o.get ev = some w ∧ wdct σ w = some kvs := rfl
theorem ut_dpop2 {o : Od} : umTy .dpop2 o ev σ = ∃ kvs, mutD ev σ o = some kvs := rfl
theorem ut_setdef {o : Od} : umTy .setdef o ev σ = ∃ kvs, mutD ev σ o = some kvs := rfl
theorem ut_update {o : Od} : umTy .update o ev σ = ∃ kvs, mutD ev σ o = some kvs := rfl
theorem md_at : mutD ev σ (.at n) = match evGet ev n with | some (.ownD us) => some us | some (.v (.ref m)) => stD σ m | _ => none := rfl
theorem pk_at {kvs : List (Key × U)} : putK kvs ev σ Qe (.at n) = match evGet ev n with | some (.ownD _) => Qe (ev.set n (some (.ownD kvs))) σ | some (.v (.ref m)) => Qe ev (σ.set m (.dK kvs)) | _ => False := rfl
theorem md_w : mutD ev σ (.w (.v (.ref n))) = stD σ n := rfl
theorem pk_w {kvs : List (Key × U)} : putK kvs ev σ Qe (.w (.v (.ref n))) = Qe ev (σ.set n (.dK kvs)) := rfl
theorem ml_w : mutL ev σ (.w (.v (.ref n))) = stL σ n := rfl
theorem pl_w : putL us ev σ Qe (.w (.v (.ref n))) = Qe ev (σ.set n (.lst us)) := rfl
theorem ut_append {o : Od} : umTy .append o ev σ = ∃ us, mutL ev σ o = some us := rfl
theorem ut_extend {o : Od} : umTy .extend o ev σ = ∃ us, mutL ev σ o = some us := rfl
theorem ut_pop {o : Od} : umTy .pop o ev σ = ∃ us, mutL ev σ o = some us := rfl
theorem ut_popAt {o : Od} : umTy .popAt o ev σ = ∃ us, mutL ev σ o = some us := rfl
theorem ut_reverse {o : Od} : umTy .reverse o ev σ = ∃ us, mutL ev σ o = some us := rfl
theorem ut_insert {o : Od} : umTy .insert o ev σ = ∃ us, mutL ev σ o = some us := rfl
theorem ut_remove {o : Od} : umTy .remove o ev σ = ∃ us, mutL ev σ o = some us := rfl
theorem ut_index {o : Od} : umTy .index o ev σ = ∃ w us, o.get ev = some w ∧ wlst σ w = some us := rfl
theorem ut_join {o : Od} : umTy .join o ev σ = ∃ a, o.get ev = some (.v (.str a)) := rfl
theorem ml_at : mutL ev σ (.at n) = match evGet ev n with | some (.own us) => some us | some (.v (.ref m)) => stL σ m | _ => none := rfl
theorem pl_at : putL us ev σ Qe (.at n) = match evGet ev n with | some (.own _) => Qe (ev.set n (some (.own us))) σ | some (.v (.ref m)) => Qe ev (σ.set m (.lst us)) | _ => False := rfl
theorem tu_i : tyU σ (.v (.int i)) = some .int := rfl
theorem tu_b : tyU σ (.v (.bl p)) = some .bool := rfl
theorem tu_s : tyU σ (.v (.str s)) = some .str := rfl
theorem tu_n : tyU σ (.v .non) = some .non := rfl
theorem tu_t : tyU σ (.v (.tup us)) = some .tuple := rfl
theorem tu_l : tyU σ (.v (.vl us)) = some .list := rfl
theorem tu_o : tyU σ (.own us) = some .list := rfl
variable {R : Sr → Prop}
theorem ur_t : uSrc σ R (.tup us) = R ⟨us, []⟩ := rfl
theorem ur_l : uSrc σ R (.vl us) = R ⟨us, []⟩ := rfl
theorem ur_s : uSrc σ R (.str s) = (s.length ≤ 100000 ∧ R ⟨s.cps.toList.map fun c => U.str ⟨#[c]⟩, []⟩) := rfl
theorem url_l : uSrcL σ R (.vl us) = R ⟨us, []⟩ := rfl
theorem url_c {ns : List Int} : uSrcL σ R (.scr ns) = R ⟨ns.map U.int, []⟩ := rfl
theorem urz_ll : uSrcZ σ (.vl us) (.vl vs) R = R ⟨(us.zip vs).map fun p => .tup [p.1, p.2], []⟩ := by simp [uSrcZ, uSrcL, uSrcT]
theorem urz_tt : uSrcZ σ (.tup us) (.tup vs) R = R ⟨(us.zip vs).map fun p => .tup [p.1, p.2], []⟩ := by simp [uSrcZ, uSrcL, uSrcT]
theorem ure_l : uSrcE σ R (.vl us) = R ⟨us.zipIdx.map fun p => .tup [.int (p.2 : Nat), p.1], []⟩ := by simp [uSrcE, uSrcL, uSrcT]
theorem ure_t : uSrcE σ R (.tup us) = R ⟨us.zipIdx.map fun p => .tup [.int (p.2 : Nat), p.1], []⟩ := by simp [uSrcE, uSrcL, uSrcT]
theorem ure_c {ns : List Int} : uSrcE σ R (.scr ns) = R ⟨(ns.map U.int).zipIdx.map fun p => .tup [.int (p.2 : Nat), p.1], []⟩ := by simp [uSrcE, uSrcL, uSrcT]
theorem urz_tl : uSrcZ σ (.tup us) (.vl vs) R = R ⟨(us.zip vs).map fun p => .tup [p.1, p.2], []⟩ := by simp [uSrcZ, uSrcL, uSrcT]
theorem urz_lt : uSrcZ σ (.vl us) (.tup vs) R = R ⟨(us.zip vs).map fun p => .tup [p.1, p.2], []⟩ := by simp [uSrcZ, uSrcL, uSrcT]
theorem urr_l : uSrcR σ (.vl us) R = R ⟨us.reverse, []⟩ := by simp [uSrcR, uSrcL, uSrcT]
theorem urr_t : uSrcR σ (.tup us) R = R ⟨us.reverse, []⟩ := by simp [uSrcR, uSrcL, uSrcT]
theorem uk_nil {l : List U} : Sr.ok ⟨l, []⟩ σ = True := by
  unfold Sr.ok
  simp
end
theorem cf_fs {T : Tu} {fs} : (cuOf T fs).fs = fs := rfl
theorem ofs_inj {a b : String} : (Str.ofString a = Str.ofString b) = (a = b) := by
  apply propext
  constructor
  · intro h
    have e : ∀ s : String, (Str.ofString s).cps.toList = s.toList.map Char.toNat := fun s => by rw [Str.ofString_eq_toList]
    have h2 := congrArg (fun s : Str => s.cps.toList) h
    simp only [e] at h2
    have h3 : a.toList = b.toList := List.map_inj_right (fun x y h => Char.ext (UInt32.toNat_inj.mp h)) |>.mp h2
    exact String.toList_inj.mp h3
  · intro h; rw [h]
end Bp

/-! ## data in the second semantics: equality, str -/
namespace Bp
open PySem L2
mutual
/-- without truths -/
def plainU : U → Bool
  | .non => true | .int _ => true | .str _ => true
  | .tup us => plainUs us
  | .vl us => plainUs us
  | _ => false
def plainUs : List U → Bool
  | [] => true
  | u :: us => plainU u && plainUs us
end
theorem plainUs_of {us : List U} (h : ∀ u ∈ us, plainU u = true) : plainUs us = true := by
  induction us with
  | nil => rfl
  | cons u us ih =>
    rw [plainUs, h u (by simp), ih fun v hv => h v (by simp [hv])]; rfl
theorem plain_ints (ns : List Int) : plainUs (ns.map U.int) = true := plainUs_of fun u hu => by
  obtain ⟨n, _, rfl⟩ := List.mem_map.mp hu; rfl
theorem plain_strs (ns : List Str) : plainUs (ns.map U.str) = true := plainUs_of fun u hu => by
  obtain ⟨n, _, rfl⟩ := List.mem_map.mp hu; rfl
/-- data of at most such a depth and weight, its ints short -/
structure Sh (d w : Nat) (u : U) (p : PyData) : Prop where
  to : toP u = some p
  lay : p.canLay0 = true
  dep : p.depth ≤ d
  wt : p.weight ≤ w
  short : p.intsShort 13 = true
  show_ : p.showable = true
structure Shs (d w : Nat) (us : List U) (ps : List PyData) : Prop where
  to : toPs us = some ps
  lay : PyData.canLayAll0 ps = true
  dep : PyData.depthAll ps ≤ d
  wt : PyData.weightAll ps ≤ w
  short : PyData.intsShortAll 13 ps = true
  show_ : PyData.showableAll ps = true
theorem Sh.mono {d w d' w' : Nat} {u : U} {p : PyData} (s : Sh d w u p) (h1 : d ≤ d') (h2 : w ≤ w') : Sh d' w' u p := ⟨s.to, s.lay, Nat.le_trans s.dep h1, Nat.le_trans s.wt h2, s.short, s.show_⟩
theorem Shs.mono {d w d' w' : Nat} {u : List U} {p : List PyData} (s : Shs d w u p) (h1 : d ≤ d') (h2 : w ≤ w') : Shs d' w' u p := ⟨s.to, s.lay, Nat.le_trans s.dep h1, Nat.le_trans s.wt h2, s.short, s.show_⟩
theorem Sh.non : Sh 1 0 .non .none := ⟨by simp [toP], by simp [PyData.canLay0], by simp [PyData.depth], by simp [PyData.weight], by simp [PyData.intsShort], by simp [PyData.showable]⟩
theorem Sh.bl {b : Bool} : Sh 1 0 (.bl b) (.bool b) := ⟨by simp [toP], by simp [PyData.canLay0], by simp [PyData.depth], by simp [PyData.weight], by simp [PyData.intsShort], by simp [PyData.showable]⟩
theorem len_int {i : Int} (h1 : -1000000000000 < i) (h2 : i < 10000000000000) : (PyData.shown (.int i)).length ≤ 13 := by
  simp only [PyData.shown]
  by_cases h : 0 ≤ i
  · have e13 : (10 : Int) ^ 13 = 10000000000000 := by decide
    exact PyProof.Rows.toString_length_le h (by decide) (by rw [e13]; exact h2)
  · obtain ⟨n, rfl⟩ : ∃ n : Nat, i = Int.negSucc n := by
      cases i with
      | ofNat n => exact absurd (Int.natCast_nonneg n) h
      | negSucc n => exact ⟨n, rfl⟩
    have e : toString (Int.negSucc n) = "-" ++ toString ((n + 1 : Nat) : Int) := rfl
    have e12 : (10 : Int) ^ 12 = 1000000000000 := by decide
    have l := PyProof.Rows.toString_length_le (v := ((n + 1 : Nat) : Int)) (k := 12) (by omega) (by decide) (by rw [e12]; omega)
    rw [PyProof.Rows.ofString_length] at l
    show (Str.ofString (toString (Int.negSucc n))).length ≤ 13
    rw [PyProof.Rows.ofString_length, e, String.toList_append, List.length_append]
    have : ("-" : String).toList.length = 1 := by decide
    omega
theorem Sh.int {i : Int} (h1 : -1000000000000 < i) (h2 : i < 10000000000000) : Sh 1 44 (.int i) (.int i) := by
  have hl : i.natAbs < 2 ^ 44 := by
    have : (2 : Nat) ^ 44 = 17592186044416 := by decide
    omega
  have hlog := log_le (by decide) hl
  refine ⟨by simp [toP], by simp [PyData.canLay0], by simp [PyData.depth], ?_, ?_, ?_⟩
  · simp only [PyData.weight]; split <;> omega
  · simp only [PyData.intsShort]; exact decide_eq_true (len_int h1 h2)
  · simp only [PyData.showable]; exact decide_eq_true (by omega)
theorem Sh.str {s : Str} (h : PyData.strOk s = true) : Sh 1 s.cps.size (.str s) (.str s) := ⟨by simp [toP], by simpa [PyData.canLay0] using h, by simp [PyData.depth], by simp [PyData.weight], by simp [PyData.intsShort], by simp [PyData.showable]⟩
theorem Shs.nil {d : Nat} : Shs d 0 [] [] := ⟨by simp [toPs], by simp [PyData.canLayAll0], by simp [PyData.depthAll], by simp [PyData.weightAll], by simp [PyData.intsShortAll], by simp [PyData.showableAll]⟩
theorem Shs.cons {d w w' : Nat} {u : U} {us : List U} {p : PyData} {ps : List PyData} (a : Sh d w u p) (b : Shs d w' us ps) : Shs d (w + 1 + w') (u :: us) (p :: ps) := by
  refine ⟨by simp [toPs, a.to, b.to], by simp [PyData.canLayAll0, a.lay, b.lay], ?_, ?_, by simp [PyData.intsShortAll, a.short, b.short], by simp [PyData.showableAll, a.show_, b.show_]⟩
  · have := a.dep; have := b.dep; simp only [PyData.depthAll]; omega
  · have := a.wt; have := b.wt; simp only [PyData.weightAll]; omega
theorem Shs.of {d w : Nat} : ∀ {us : List U}, (∀ u ∈ us, ∃ p, Sh d w u p) → ∃ ps, Shs d (us.length * (w + 1)) us ps
  | [], _ => ⟨[], Shs.nil.mono (Nat.le_refl _) (by simp)⟩
  | u :: us, h => by
    obtain ⟨p, a⟩ := h u (by simp)
    obtain ⟨ps, b⟩ := Shs.of (us := us) fun v hv => h v (by simp [hv])
    exact ⟨p :: ps, (Shs.cons a b).mono (Nat.le_refl _) (by rw [List.length_cons, Nat.succ_mul]; omega)⟩
theorem Sh.vl {d w : Nat} {us : List U} {ps : List PyData} (s : Shs d w us ps) : Sh (d + 1) w (.vl us) (.list ps) := by
  refine ⟨by simp [toP, s.to], by simpa [PyData.canLay0] using s.lay, ?_, by simpa [PyData.weight] using s.wt, by simpa [PyData.intsShort] using s.short, by simpa [PyData.showable] using s.show_⟩
  have := s.dep; simp only [PyData.depth]; omega
theorem Sh.tup {d w : Nat} {us : List U} {ps : List PyData} (s : Shs d w us ps) : Sh (d + 1) w (.tup us) (.tuple ps) := by
  refine ⟨by simp [toP, s.to], by simpa [PyData.canLay0] using s.lay, ?_, by simpa [PyData.weight] using s.wt, by simpa [PyData.intsShort] using s.short, by simpa [PyData.showable] using s.show_⟩
  have := s.dep; simp only [PyData.depth]; omega
theorem Sh.shaped {d w : Nat} {u : U} {p : PyData} (s : Sh d w u p) (hd : d ≤ 64) : SeqAt.shaped p = true := by
  unfold SeqAt.shaped
  rw [s.lay, decide_eq_true (Nat.le_trans s.dep hd)]; rfl
theorem Sh.shows {d w : Nat} {u : U} {p : PyData} (s : Sh d w u p) (hd : d ≤ 64) (hw : w ≤ 1048576) : Shows p := by
  have e : (2 : Nat) ^ 20 = 1048576 := by decide
  refine ⟨s.show_, s.shaped hd, Nat.le_trans (PyProof.Rows.shown_le13 ?_ s.short) (by decide)⟩
  unfold PyData.layable0
  rw [s.lay, decide_eq_true (Nat.le_trans s.dep hd), decide_eq_true (show p.weight ≤ 2 ^ 20 by have := s.wt; omega)]; rfl
mutual
theorem eqv_plain : ∀ {u v : U} {p q : PyData}, plainU u = true → plainU v = true → toP u = some p → toP v = some q → (PyData.eqv p q = true ↔ u = v)
  | u, v, p, q, hu, hv, e1, e2 => by
    match u, v, hu, hv, e1, e2 with
    | .non, v, _, hv, e1, e2 =>
      simp only [toP] at e1; cases e1
      cases v <;> simp only [toP, Option.some.injEq, Option.map_eq_some_iff] at e2 <;> first | (subst e2; simp [PyData.eqv]) | (obtain ⟨_, _, rfl⟩ := e2; simp [PyData.eqv]) | cases e2
    | .int i, v, _, hv, e1, e2 =>
      simp only [toP] at e1; cases e1
      cases v <;> simp only [toP, Option.some.injEq, Option.map_eq_some_iff] at e2 <;> first | (simp [plainU] at hv; done) | (subst e2; simp [PyData.eqv]; done) | (obtain ⟨_, _, rfl⟩ := e2; simp [PyData.eqv]) | (simp [plainU] at hv) | cases e2
    | .str s, v, _, hv, e1, e2 =>
      simp only [toP] at e1; cases e1
      cases v <;> simp only [toP, Option.some.injEq, Option.map_eq_some_iff] at e2 <;> first | (subst e2; simp [PyData.eqv]) | (obtain ⟨_, _, rfl⟩ := e2; simp [PyData.eqv]) | (simp [plainU] at hv) | cases e2
    | .tup us, .tup vs, hu, hv, e1, e2 =>
      simp only [toP, Option.map_eq_some_iff] at e1 e2
      obtain ⟨ps, h1, rfl⟩ := e1
      obtain ⟨qs, h2, rfl⟩ := e2
      simp only [plainU] at hu hv
      have := eqvs_plain hu hv h1 h2
      simp [PyData.eqv, this]
    | .vl us, .vl vs, hu, hv, e1, e2 =>
      simp only [toP, Option.map_eq_some_iff] at e1 e2
      obtain ⟨ps, h1, rfl⟩ := e1
      obtain ⟨qs, h2, rfl⟩ := e2
      simp only [plainU] at hu hv
      have := eqvs_plain hu hv h1 h2
      simp [PyData.eqv, this]
    | .tup us, .non, _, _, e1, e2 => simp only [toP, Option.map_eq_some_iff] at e1 e2; obtain ⟨ps, h1, rfl⟩ := e1; cases e2; simp [PyData.eqv]
    | .tup us, .int _, _, _, e1, e2 => simp only [toP, Option.map_eq_some_iff] at e1 e2; obtain ⟨ps, h1, rfl⟩ := e1; cases e2; simp [PyData.eqv]
    | .tup us, .str _, _, _, e1, e2 => simp only [toP, Option.map_eq_some_iff] at e1 e2; obtain ⟨ps, h1, rfl⟩ := e1; cases e2; simp [PyData.eqv]
    | .tup us, .vl _, _, _, e1, e2 => simp only [toP, Option.map_eq_some_iff] at e1 e2; obtain ⟨ps, h1, rfl⟩ := e1; obtain ⟨qs, h2, rfl⟩ := e2; simp [PyData.eqv]
    | .vl us, .non, _, _, e1, e2 => simp only [toP, Option.map_eq_some_iff] at e1 e2; obtain ⟨ps, h1, rfl⟩ := e1; cases e2; simp [PyData.eqv]
    | .vl us, .int _, _, _, e1, e2 => simp only [toP, Option.map_eq_some_iff] at e1 e2; obtain ⟨ps, h1, rfl⟩ := e1; cases e2; simp [PyData.eqv]
    | .vl us, .str _, _, _, e1, e2 => simp only [toP, Option.map_eq_some_iff] at e1 e2; obtain ⟨ps, h1, rfl⟩ := e1; cases e2; simp [PyData.eqv]
    | .vl us, .tup _, _, _, e1, e2 => simp only [toP, Option.map_eq_some_iff] at e1 e2; obtain ⟨ps, h1, rfl⟩ := e1; obtain ⟨qs, h2, rfl⟩ := e2; simp [PyData.eqv]
theorem eqvs_plain : ∀ {us vs : List U} {ps qs : List PyData}, plainUs us = true → plainUs vs = true → toPs us = some ps → toPs vs = some qs → (PyData.eqvAll ps qs = true ↔ us = vs)
  | [], [], _, _, _, _, e1, e2 => by simp only [toPs] at e1 e2; cases e1; cases e2; simp [PyData.eqvAll]
  | [], v :: vs, _, _, _, _, e1, e2 => by
    simp only [toPs] at e1 e2; cases e1
    split at e2
    · cases e2; simp [PyData.eqvAll]
    · cases e2
  | u :: us, [], _, _, _, _, e1, e2 => by
    simp only [toPs] at e1 e2; cases e2
    split at e1
    · cases e1; simp [PyData.eqvAll]
    · cases e1
  | u :: us, v :: vs, _, _, hu, hv, e1, e2 => by
    simp only [plainUs, Bool.and_eq_true] at hu hv
    simp only [toPs] at e1 e2
    split at e1
    · split at e2
      · rename_i _ _ _ _ a1 a2 _ _ _ _ b1 b2
        cases e1; cases e2
        have h1 := eqv_plain hu.1 hv.1 a1 b1
        have h2 := eqvs_plain hu.2 hv.2 a2 b2
        simp [PyData.eqvAll, h1, h2]
      · cases e2
    · cases e1
end
/-- data that can be compared -/
structure Ly (d : Nat) (u : U) (p : PyData) : Prop where
  to : toP u = some p
  lay : p.canLay0 = true
  dep : p.depth ≤ d
theorem Ly.int {i : Int} : Ly 1 (.int i) (.int i) := ⟨by simp [toP], by simp [PyData.canLay0], by simp [PyData.depth]⟩
theorem Ly.non : Ly 1 .non .none := ⟨by simp [toP], by simp [PyData.canLay0], by simp [PyData.depth]⟩
theorem Ly.str {s : Str} (h : PyData.strOk s = true) : Ly 1 (.str s) (.str s) := ⟨by simp [toP], by simpa [PyData.canLay0] using h, by simp [PyData.depth]⟩
theorem Sh.ly {d w : Nat} {u : U} {p : PyData} (s : Sh d w u p) : Ly d u p := ⟨s.to, s.lay, s.dep⟩
theorem Ly.mono {d d' : Nat} {u : U} {p : PyData} (s : Ly d u p) (h : d ≤ d') : Ly d' u p := ⟨s.to, s.lay, Nat.le_trans s.dep h⟩
theorem Lys {d : Nat} : ∀ {us : List U}, (∀ u ∈ us, ∃ p, Ly d u p) → ∃ ps, toPs us = some ps ∧ PyData.canLayAll0 ps = true ∧ PyData.depthAll ps ≤ d
  | [], _ => ⟨[], by simp [toPs], by simp [PyData.canLayAll0], by simp [PyData.depthAll]⟩
  | u :: us, h => by
    obtain ⟨p, a⟩ := h u (by simp)
    obtain ⟨ps, b1, b2, b3⟩ := Lys (us := us) fun v hv => h v (by simp [hv])
    refine ⟨p :: ps, by simp [toPs, a.to, b1], by simp [PyData.canLayAll0, a.lay, b2], ?_⟩
    have := a.dep; simp only [PyData.depthAll]; omega
theorem Ly.vl {d : Nat} {us : List U} (h : ∀ u ∈ us, ∃ p, Ly d u p) : ∃ p, Ly (d + 1) (.vl us) p := by
  obtain ⟨ps, h1, h2, h3⟩ := Lys h
  exact ⟨.list ps, by simp [toP, h1], by simpa [PyData.canLay0] using h2, by simp only [PyData.depth]; omega⟩
theorem Ly.tup {d : Nat} {us : List U} (h : ∀ u ∈ us, ∃ p, Ly d u p) : ∃ p, Ly (d + 1) (.tup us) p := by
  obtain ⟨ps, h1, h2, h3⟩ := Lys h
  exact ⟨.tuple ps, by simp [toP, h1], by simpa [PyData.canLay0] using h2, by simp only [PyData.depth]; omega⟩
theorem Ly.ints (ns : List Int) : ∃ p, Ly 2 (.vl (ns.map U.int)) p := Ly.vl fun u hu => by
  obtain ⟨n, _, rfl⟩ := List.mem_map.mp hu; exact ⟨_, Ly.int⟩
/-- == of data without truths -/
theorem ue_ly {u v : U} {d d' : Nat} {B : Bool → Prop} (su : ∃ p, Ly d u p) (sv : ∃ p, Ly d' v p) (hd : d ≤ 64) (hd' : d' ≤ 64) (pu : plainU u = true) (pv : plainU v = true) (ht : u = v → B true) (hf : u ≠ v → B false) : uEq u v B := by
  obtain ⟨p, su⟩ := su
  obtain ⟨q, sv⟩ := sv
  have shp : ∀ {d : Nat} {u : U} {p : PyData}, Ly d u p → d ≤ 64 → SeqAt.shaped p = true := by
    intro d u p s hd
    unfold SeqAt.shaped
    rw [s.lay, decide_eq_true (Nat.le_trans s.dep hd)]; rfl
  have key : ∀ b : Bool, (b = true ↔ u = v) → B b := by
    intro b hb
    cases b with
    | true => exact ht (hb.mp rfl)
    | false => exact hf fun z => by have := hb.mpr z; cases this
  have gen : ∃ p q, toP u = some p ∧ toP v = some q ∧ SeqAt.shaped p = true ∧ SeqAt.shaped q = true ∧ B (PyData.eqv p q) :=
    ⟨p, q, su.to, sv.to, shp su hd, shp sv hd', key _ (eqv_plain pu pv su.to sv.to)⟩
  cases u <;> cases v <;> first | exact gen | exact key _ (by simp)
theorem ints_inj {a b : List Int} (h : a.map U.int = b.map U.int) : a = b := List.map_inj_right (fun x y e => by cases e; rfl) |>.mp h
theorem strs_inj {a b : List Str} (h : a.map U.str = b.map U.str) : a = b := List.map_inj_right (fun x y e => by cases e; rfl) |>.mp h
/-- == of lists of ints -/
theorem ue_ints {a b : List Int} {B : Bool → Prop} (ht : a = b → B true) (hf : a ≠ b → B false) : uEq (.vl (a.map U.int)) (.vl (b.map U.int)) B :=
  ue_ly (Ly.ints a) (Ly.ints b) (by decide) (by decide) (plain_ints a) (plain_ints b) (fun e => ht (ints_inj (U.vl.inj e))) (fun e => hf fun z => e (by rw [z]))
theorem uf_strS {σ : Us} {us : List U} {p : PyData} {d w : Nat} {Q : W → Prop} (s : Sh d w (.tup us) p) (hd : d ≤ 64) (hw : w ≤ 1048576) (q : Q (.v (.str p.shown))) : uBi .str [.v (.tup us)] σ Q := by
  rw [uf_strt]
  exact ⟨p, s.to, s.shows hd hw, q⟩
end Bp

/-! ## defs that many laws share, in the second semantics -/
namespace Bp
open PySem L2
local macro_rules | `(tactic| walk_at "v") => `(tactic| (try simp only [v_var, v_non, v_bl, v_int, v_str, v_glob, v_bin, v_neg, v_not, v_bop, v_cmp, v_cmp2, v_ite, v_tup, v_lst, v_dct, v_tab, v_tabG, v_tabIn, v_idx, v_sli, v_rev, v_call, v_bi, v_rng, v_mt, v_isi, v_comp, ofs_inj, String.reduceEq, v_nest, w_augs, uf_dict, uf_listS, uf_listK, uf_sortK, un_items, un_vals, un_lrev, un_dne, wd_o, wd_v, wd_r, ku_s, ku_i, ui_D, ui_Di, ui_di, tu_d, tu_D, um_get2, um_get1, um_dpop2, um_setdef, um_update, ut_get2, ut_get1, ut_dpop2, ut_setdef, ut_update, md_at, pk_at, md_w, pk_w, ml_w, pl_w, v_fld, v_meth, v_make, v_prom, w_setf, w_augf, w_retn, w_rais0, w_raisR, w_tryA, w_tryM, v_isx, v_xfld, w_asg, w_setc, w_par, w_par3, w_aug, w_expr, w_ret, w_ite, w_loop, w_each, w_brk, w_cont, w_pass, w_nil, eg_zero, eg_none, eg_succ, od_at, od_w, ga_nil, ga_cons, fz_v, fz_o, fz_d, kp_v, kp_o, kp_n, ub_add, ub_adds, ub_addt, ub_oo, ub_ov, ub_vo, ub_vv, ub_sub, ub_mul, ub_mulo, ub_mulv, ub_fdiv, ub_mod, ub_pow, ub_xor, ua_add, ua_adds, ua_sub, fl_i, fl_s, fl_b, fl_n, ue_ii, ue_ss, ue_bb, ue_nn, ue_ni, ue_in, ue_ns, ue_sn, ue_nb, ue_bn, ue_is, ue_si, wu_o, wu_i, wu_s, wu_b, wu_n, wu_t, wu_l, uc_eq, uc_ne, uc_lt, uc_le, uc_gt, uc_ge, uc_is0, uc_is1, uc_is2, uc_is3, uc_is4, uc_is5, uc_is6, uc_isn0, uc_isn1, uc_isn2, uc_isn3, uc_isn4, uc_isn5, uc_isn6, uc_in, uc_ino, uc_notino, uf_max1, uc_notin, tw_n, tw_b, tw_i, tw_s, tw_t, tw_l, tw_o, ui_o, ui_l, ui_t, ui_s, ui_d, us_s, us_t, us_c, us_o, us_l, wl_o, wl_l, wl_r, we_o, we_l, we_t, we_c, we_r, uf_lens, uf_leno, uf_lenl, uf_lent, uf_lend, uf_lenD, uf_list, uf_tuple, uf_divmod, uf_abs, uf_inti, uf_intb, uf_booli, uf_boolb, uf_max2, uf_min2, uf_all, uf_any, uf_sum, uf_str, uf_strt, uf_strl, uf_stro, um_append, um_extend, wx_t, wx_l, wx_r, um_pop, um_popAt, um_reverse, um_insert, um_index, um_join, ut_append, ut_extend, ut_pop, ut_popAt, ut_reverse, ut_insert, ut_remove, ut_index, ut_join, ml_at, pl_at, tu_i, tu_b, tu_s, tu_n, tu_t, tu_l, tu_o, ur_t, ur_l, ur_s, url_l, url_c, urz_ll, urz_tt, urz_tl, urz_lt, ure_l, ure_t, ure_c, urr_l, urr_t, uk_nil, cf_fs, opd, isVar, keepI, Prod.mk.injEq, exists_eq', exists_eq, false_and, or_false, exists_false, and_false, vpLs, vpDs, vpB, vpO, vpC, vpI, vpG, vpGs, tgsLen, tgSl, tgsSl, subN, memN, hide, unhide, at_nat, at_lit, ix_lit, List.length_map, List.getElem?_cons_zero, List.getElem?_cons_succ, List.set_cons_zero, List.set_cons_succ, List.map_cons, List.map_nil, List.cons_append, List.nil_append, List.length_cons, List.length_nil, List.replicate_succ, List.replicate_zero, Option.some.injEq, Nat.reduceAdd, Nat.reduceLT, Nat.reduceSub, Nat.zero_add, Nat.reduceLeDiff, Nat.reduceBEq, Nat.reduceEqDiff, Int.reduceToNat, Nat.sub_zero, List.length_append, List.length_set, Nat.reduceMul, Int.reduceNeg, exists_eq_left', exists_eq_left, exists_eq_right, U.int.injEq, U.tup.injEq, U.vl.injEq, U.ref.injEq, U.str.injEq, U.bl.injEq, W.v.injEq, W.own.injEq, List.cons.injEq, and_assoc, true_and, and_true, decide_eq_true_eq, decide_true, decide_false, List.any_cons, List.any_nil, isT, Bool.or_false, Bool.true_or, Bool.or_true, Bool.false_or, Bool.true_and, Bool.and_true, Bool.and_false, Bool.false_and, Bool.not_true, Bool.not_false, if_true, if_false, reduceIte, Bool.false_eq_true, and_imp, exists_and_left, exists_const, reduceCtorEq, ne_eq, not_false_eq_true, beq_self_eq_true, Nat.succ_ne_zero]))
local macro_rules | `(tactic| walk_at "w") => `(tactic| (try simp only [*, v_var, v_non, v_bl, v_int, v_str, v_glob, v_bin, v_neg, v_not, v_bop, v_cmp, v_cmp2, v_ite, v_tup, v_lst, v_dct, v_tab, v_tabG, v_tabIn, v_idx, v_sli, v_rev, v_call, v_bi, v_rng, v_mt, v_isi, v_comp, ofs_inj, String.reduceEq, v_nest, w_augs, uf_dict, uf_listS, uf_listK, uf_sortK, un_items, un_vals, un_lrev, un_dne, wd_o, wd_v, wd_r, ku_s, ku_i, ui_D, ui_Di, ui_di, tu_d, tu_D, um_get2, um_get1, um_dpop2, um_setdef, um_update, ut_get2, ut_get1, ut_dpop2, ut_setdef, ut_update, md_at, pk_at, md_w, pk_w, ml_w, pl_w, v_fld, v_meth, v_make, v_prom, w_setf, w_augf, w_retn, w_rais0, w_raisR, w_tryA, w_tryM, v_isx, v_xfld, w_asg, w_setc, w_par, w_par3, w_aug, w_expr, w_ret, w_ite, w_loop, w_each, w_brk, w_cont, w_pass, w_nil, eg_zero, eg_none, eg_succ, od_at, od_w, ga_nil, ga_cons, fz_v, fz_o, fz_d, kp_v, kp_o, kp_n, ub_add, ub_adds, ub_addt, ub_oo, ub_ov, ub_vo, ub_vv, ub_sub, ub_mul, ub_mulo, ub_mulv, ub_fdiv, ub_mod, ub_pow, ub_xor, ua_add, ua_adds, ua_sub, fl_i, fl_s, fl_b, fl_n, ue_ii, ue_ss, ue_bb, ue_nn, ue_ni, ue_in, ue_ns, ue_sn, ue_nb, ue_bn, ue_is, ue_si, wu_o, wu_i, wu_s, wu_b, wu_n, wu_t, wu_l, uc_eq, uc_ne, uc_lt, uc_le, uc_gt, uc_ge, uc_is0, uc_is1, uc_is2, uc_is3, uc_is4, uc_is5, uc_is6, uc_isn0, uc_isn1, uc_isn2, uc_isn3, uc_isn4, uc_isn5, uc_isn6, uc_in, uc_ino, uc_notino, uf_max1, uc_notin, tw_n, tw_b, tw_i, tw_s, tw_t, tw_l, tw_o, ui_o, ui_l, ui_t, ui_s, ui_d, us_s, us_t, us_c, us_o, us_l, wl_o, wl_l, wl_r, we_o, we_l, we_t, we_c, we_r, uf_lens, uf_leno, uf_lenl, uf_lent, uf_lend, uf_lenD, uf_list, uf_tuple, uf_divmod, uf_abs, uf_inti, uf_intb, uf_booli, uf_boolb, uf_max2, uf_min2, uf_all, uf_any, uf_sum, uf_str, uf_strt, uf_strl, uf_stro, um_append, um_extend, wx_t, wx_l, wx_r, um_pop, um_popAt, um_reverse, um_insert, um_index, um_join, ut_append, ut_extend, ut_pop, ut_popAt, ut_reverse, ut_insert, ut_remove, ut_index, ut_join, ml_at, pl_at, tu_i, tu_b, tu_s, tu_n, tu_t, tu_l, tu_o, ur_t, ur_l, ur_s, url_l, url_c, urz_ll, urz_tt, urz_tl, urz_lt, ure_l, ure_t, ure_c, urr_l, urr_t, uk_nil, cf_fs, opd, isVar, keepI, Prod.mk.injEq, exists_eq', exists_eq, false_and, or_false, exists_false, and_false, vpLs, vpDs, vpB, vpO, vpC, vpI, vpG, vpGs, tgsLen, tgSl, tgsSl, subN, memN, hide, unhide, at_nat, at_lit, ix_lit, List.length_map, List.getElem?_cons_zero, List.getElem?_cons_succ, List.set_cons_zero, List.set_cons_succ, List.map_cons, List.map_nil, List.cons_append, List.nil_append, List.length_cons, List.length_nil, List.replicate_succ, List.replicate_zero, Option.some.injEq, Nat.reduceAdd, Nat.reduceLT, Nat.reduceSub, Nat.zero_add, Nat.reduceLeDiff, Nat.reduceBEq, Nat.reduceEqDiff, Int.reduceToNat, Nat.sub_zero, List.length_append, List.length_set, Nat.reduceMul, Int.reduceNeg, exists_eq_left', exists_eq_left, exists_eq_right, U.int.injEq, U.tup.injEq, U.vl.injEq, U.ref.injEq, U.str.injEq, U.bl.injEq, W.v.injEq, W.own.injEq, List.cons.injEq, and_assoc, true_and, and_true, decide_eq_true_eq, decide_true, decide_false, List.any_cons, List.any_nil, isT, Bool.or_false, Bool.true_or, Bool.or_true, Bool.false_or, Bool.true_and, Bool.and_true, Bool.and_false, Bool.false_and, Bool.not_true, Bool.not_false, if_true, if_false, reduceIte, Bool.false_eq_true, and_imp, exists_and_left, exists_const, reduceCtorEq, ne_eq, not_false_eq_true, beq_self_eq_true, Nat.succ_ne_zero]))
local macro_rules | `(tactic| walk_at "s") => `(tactic| (rw [w_cons]; walk_at "v"))
local macro_rules | `(tactic| walk_at "n") => `(tactic| (walk_at "v"; rw [w_cons]; walk_at "v"))
local macro_rules | `(tactic| walk_at "r") => `(tactic| (walk_at "v"; repeat (rw [w_cons]; walk_at "v")))
/-! ### the mathematics of moved -/
def up (n : Nat) : List Int := (List.range n).map fun i : Nat => (i : Int)
def mv : List Int → Nat
  | [] => 0
  | x :: r => if x :: r = up (r.length + 1) then 0 else mv r + 1
theorem mv_le : ∀ ps : List Int, mv ps ≤ ps.length
  | [] => Nat.le_refl _
  | x :: r => by
    unfold mv
    have := mv_le r
    split
    · omega
    · rw [List.length_cons]; omega
theorem mv_hit : ∀ ps : List Int, ps.drop (mv ps) = up (ps.length - mv ps)
  | [] => rfl
  | x :: r => by
    unfold mv
    split
    · rename_i h
      exact h
    · rw [List.drop_succ_cons, mv_hit r, List.length_cons, Nat.add_sub_add_right]
theorem mv_miss : ∀ (ps : List Int) (j : Nat), j < mv ps → ps.drop j ≠ up (ps.length - j)
  | [], j, h => by simp [mv] at h
  | x :: r, j, h => by
    unfold mv at h
    split at h
    · omega
    · rename_i hn
      cases j with
      | zero => exact hn
      | succ j =>
        rw [List.drop_succ_cons, List.length_cons, Nat.add_sub_add_right]
        exact mv_miss r j (by omega)
def fn_moved : Fn := ⟨[""], ["", ""],
  (.cons (.asg (.nm 1) (.int 0))
  (.cons (.loop (.cmp .ne (.bi .list (.cons (.sli (.var 0) (.some (.var 1)) .none) .nil)) (.rng false (.int 0) (.bin .sub (.bi .len (.cons (.var 0) .nil)) (.var 1))))
    (.cons (.aug 1 .add (.int 1))
      .nil))
  (.cons (.ret (.var 1))
  .nil)))⟩
def fn_copies : Fn := ⟨["", ""], ["", "", "", "", "", ""],
  (.cons (.asg (.nm 2) (.call "moved" (.cons (.var 0) .nil)))
  (.cons (.setc 3 (.bin .add (.idx (.var 0) (.bin .sub (.bin .sub (.var 2) (.int 1)) (.var 4))) (.var 4)) (.nm 4) (.rng1 (.var 2)) .none [("", 4)])
  (.cons (.ite (.bop false (.cons (.cmp .gt (.bi .len (.cons (.var 0) .nil)) (.var 1)) (.cons (.bi .any (.cons (.comp (.cmp .ge (.var 5) (.var 1)) (.nm 5) (.seq (.var 3)) .none [("", 5)]) .nil)) .nil)))
    (.cons (.ret (.non))
      .nil)
    .nil)
  (.cons (.ret (.var 3))
  .nil))))⟩
def fn_is_number : Fn := ⟨[""], [""],
  (.cons (.ret (.bop true (.cons (.isi (.var 0) [.int]) (.cons (.not (.isi (.var 0) [.bool])) .nil))))
  .nil)⟩
def fn_shows_copies : Fn := ⟨["", "", ""], ["", "", "", "", "", ""],
  (.cons (.asg (.nm 3) (.call "copies" (.cons (.var 0) (.cons (.var 1) .nil))))
  (.cons (.ite (.bop false (.cons (.cmp .is (.var 3) (.non)) (.cons (.not (.isi (.var 2) [.list])) (.cons (.cmp .ne (.bi .len (.cons (.var 2) .nil)) (.bi .len (.cons (.var 3) .nil))) .nil))))
    (.cons (.ret (.bl false))
      .nil)
    .nil)
  (.cons (.ret (.bi .all (.cons (.comp (.bop true (.cons (.call "is_number" (.cons (.var 4) .nil)) (.cons (.cmp .eq (.var 4) (.var 5)) .nil))) (.tp (.cons (.nm 4) (.cons (.nm 5) .nil))) (.zip (.var 2) (.var 3)) .none [("", 4), ("", 5)]) .nil)))
  .nil)))⟩
def fn__law_boxes : Fn := ⟨["", ""], ["", "", "", "", ""],
  (.cons (.asg (.nm 2) (.bi .list (.cons (.sli (.var 0) .none (.some (.var 1))) .nil)))
  (.cons (.each (.tp (.cons (.nm 3) (.cons (.nm 4) .nil))) (.enu (.sli (.var 0) (.some (.var 1)) (.some (.int 63))))
    (.cons (.asg (.sub (.var 2) (.bin .mod (.var 3) (.var 1))) (.bin .add (.idx (.var 2) (.bin .mod (.var 3) (.var 1))) (.bin .mul (.var 4) (.bin .add (.var 3) (.int 2)))))
      .nil))
  (.cons (.ret (.comp (.call "_law_box" (.cons (.var 2) (.cons (.var 3) .nil))) (.nm 3) (.rng1 (.bi .max2 (.cons (.int 2) (.cons (.bi .len (.cons (.var 2) .nil)) .nil)))) .none [("", 3)]))
  .nil)))⟩

theorem up_len (n : Nat) : (up n).length = n := by simp [up]
theorem rng_up (n : Nat) : ((List.range n).map fun i : Nat => U.int ((0 : Int) + i)) = (up n).map U.int := by
  unfold up
  rw [List.map_map]
  congr 1
  funext i
  simp
theorem cutU_pre (xs : List U) (m : Nat) : cutU xs none (some (m : Int)) = xs.take m := by
  unfold cutU
  rw [HT.sIx_none, HT.sIx_nat, List.drop_zero, Nat.sub_zero]
  by_cases hm : m ≤ xs.length
  · rw [Nat.min_eq_left hm]
  · rw [Nat.min_eq_right (by omega), List.take_length, List.take_of_length_le (by omega)]
theorem cutU_mid (xs : List U) (m k : Nat) : cutU xs (some (m : Int)) (some (k : Int)) = (xs.drop m).take (k - m) := by
  unfold cutU
  rw [HT.sIx_nat, HT.sIx_nat]
  by_cases hm : m ≤ xs.length
  · rw [Nat.min_eq_left hm]
    by_cases hk : k ≤ xs.length
    · rw [Nat.min_eq_left hk]
    · rw [Nat.min_eq_right (by omega)]
      rw [List.take_of_length_le (l := xs.drop m) (by rw [List.length_drop]; omega), List.take_of_length_le (by rw [List.length_drop]; omega)]
  · rw [List.drop_eq_nil_of_le (by omega), List.drop_eq_nil_of_le (by omega)]
    simp
theorem cutU_end (xs : List U) (m : Nat) : cutU xs (some (m : Int)) none = xs.drop m := by
  unfold cutU
  rw [HT.sIx_nat, HT.sIx_none]
  by_cases hm : m ≤ xs.length
  · rw [Nat.min_eq_left hm, List.take_of_length_le (by rw [List.length_drop]; omega)]
  · rw [List.drop_eq_nil_of_le (by omega), List.drop_eq_nil_of_le (by omega)]
    simp
theorem det_ints (l : List Int) : detUs (l.map U.int) = true := by
  induction l with
  | nil => rfl
  | cons x l ih => rw [List.map_cons, detUs, ih]; rfl
theorem det_strs (l : List Str) : detUs (l.map U.str) = true := by
  induction l with
  | nil => rfl
  | cons x l ih => rw [List.map_cons, detUs, ih]; rfl
theorem at_int {xs : List Int} {z : Int} {n : Nat} (h : z = (n : Int)) (hn : n < xs.length) : atI (xs.map U.int) z = some (.int (xs.getD n 0)) := by
  rw [h, at_nat, List.getElem?_map, List.getElem?_eq_getElem hn]
  simp [List.getD, hn]
section
variable {T : Tu} {k : Nat} {σ : Us} {Q : W → Us → Prop} {X : Str → Option U → Us → Prop}
theorem moved_v (hT : T.T.fn "moved" = some fn_moved) (hp : T.pr.lookup ("moved" : Str) = none) {ps : List Int} {u : U} (hu : u = .vl (ps.map U.int) ∨ u = .tup (ps.map U.int)) (hl : ps.length ≤ 1000) (q : Q (.v (.int (mv ps))) σ) : UF T (k + 1) "moved" [u] σ Q X := by
  refine uf_in hp hT rfl ?_
  unfold fn_moved
  have hm := mv_le ps
  walk_at "s"
  rw [w_cons]
  walk_at "v"
  refine loop_v (fun m ev s => ∃ j : Nat, ev = [some (.v u), some (.v (.int j))] ∧ s = σ ∧ j ≤ mv ps ∧ m = mv ps - j) (mv ps) (by omega) ⟨0, rfl, rfl, by omega, rfl⟩ ?_
  rintro m ev s ⟨j, rfl, rfl, hj, rfl⟩
  have e1 : ((ps.length : Int) - j - 0).toNat = ps.length - j := by omega
  rcases hu with rfl | rfl
  all_goals
    walk_at "v"
    rw [cutU_end, rng_up, ← List.map_drop, e1]
    refine ⟨by decide, by decide, by omega, by omega, ue_ints (fun e => ?_) (fun e => ?_)⟩
    · have : j = mv ps := Nat.le_antisymm hj (Nat.le_of_not_lt fun h => mv_miss ps j h e)
      subst this
      walk_at "n"
      exact q
    · have : j < mv ps := Nat.lt_of_le_of_ne hj fun z => e (by rw [z]; exact mv_hit ps)
      walk_at "n"
      exact ⟨mv ps - (j + 1), by omega, j + 1, rfl, by omega, rfl⟩
/-- the places of the drops -/
def cp (ps : List Int) : List Int := (List.range (mv ps)).map fun a => ps.getD (mv ps - 1 - a) 0 + a
theorem cp_len (ps : List Int) : (cp ps).length = mv ps := by simp [cp]
def bad (ps : List Int) (long : Int) : Bool := decide (long < ps.length) || (cp ps).any fun p => decide (long ≤ p)
theorem copies_v (hT : T.T.fn "copies" = some fn_copies) (hp : T.pr.lookup ("copies" : Str) = none) (hM : T.T.fn "moved" = some fn_moved) (hpM : T.pr.lookup ("moved" : Str) = none) {ps : List Int} {long : Int} {u : U} (hu : u = .vl (ps.map U.int)) (hl : ps.length ≤ 1000)
    (q : Q (if bad ps long = true then .v .non else .own ((cp ps).map U.int)) σ) : UF T (k + 2) "copies" [u, .int long] σ Q X := by
  refine uf_in hp hT rfl ?_
  have iM : (cuOf T (UF T (k + 1))).isf "moved" = true := cu_isf hM
  have hm := mv_le ps
  subst hu
  unfold fn_copies
  walk_at "s"
  refine ⟨iM, moved_v hM hpM (.inl rfl) hl ?_⟩
  walk_at "v"
  rw [w_cons]
  walk_at "v"
  refine ⟨by omega, by omega, ?_⟩
  rw [Int.toNat_natCast]
  refine comp_map (fun u => match u with | .int a => .int (ps.getD (mv ps - 1 - a.toNat) 0 + a) | _ => .non) trivial (by simp; omega) (fun u K hu hK => ?_) ?_
  · obtain ⟨a, ha, rfl⟩ := List.mem_map.mp hu
    have ha := List.mem_range.mp ha
    walk_at "v"
    refine ⟨_, at_int (n := mv ps - 1 - a) (by omega) (by omega), ?_⟩
    walk_at "v"
    exact hK
  have e2 : (List.map (fun i : Nat => U.int ↑i) (List.range (mv ps))).map (fun u => match u with | .int a => U.int (ps.getD (mv ps - 1 - a.toNat) 0 + a) | _ => .non) = (cp ps).map U.int := by
    unfold cp
    rw [List.map_map, List.map_map]
    rfl
  rw [e2]
  walk_at "n"
  by_cases hlong : long < ps.length
  · rw [show bad ps long = true from by unfold bad; simp [hlong], if_pos rfl] at q
    simp only [hlong, decide_true, if_pos, Bool.true_eq_false, if_false]
    walk_at "n"
    exact q
  · simp only [hlong, decide_false, if_pos]
    right
    refine ⟨det_ints _, ?_⟩
    refine comp_map (fun u => match u with | .int p => .bl (decide (long ≤ p)) | _ => .non) (by walk_at "v") (by rw [List.length_map, cp_len]; omega) (fun u K hu hK => ?_) ?_
    · obtain ⟨p, hp, rfl⟩ := List.mem_map.mp hu
      walk_at "v"
      exact hK
    refine ⟨(cp ps).map fun p => decide (long ≤ p), by rw [List.map_map, List.map_map]; rfl, ?_⟩
    have hb : bad ps long = ((cp ps).map fun p => decide (long ≤ p)).any id := by
      unfold bad
      rw [List.any_map]
      simp [hlong]
    rw [hb] at q
    cases hany : ((cp ps).map fun p => decide (long ≤ p)).any id with
    | true =>
      rw [hany, if_pos rfl] at q
      walk_at "n"
      exact q
    | false =>
      rw [hany, if_neg (by decide)] at q
      walk_at "n"
      exact q
theorem isnum_v (hT : T.T.fn "is_number" = some fn_is_number) (hp : T.pr.lookup ("is_number" : Str) = none) {u : U} {t : Tn} (hu : tyU σ (.v u) = some t) (q : Q (.v (.bl (isT t .int && !isT t .bool))) σ) : UF T (k + 1) "is_number" [u] σ Q X := by
  refine uf_in hp hT rfl ?_
  unfold fn_is_number
  walk_at "s"
  refine ⟨t, hu, ?_⟩
  cases t <;> walk_at "v" <;> first | exact q | exact ⟨_, hu, q⟩

def sameI (u : U) (d : Int) : Bool := match u with | .int i => decide (i = d) | _ => false
theorem sameI_all : ∀ (us : List U) (ds : List Int), us.length = ds.length → (((us.zip ds).map fun p => sameI p.1 p.2).all id = true ↔ us = ds.map U.int)
  | [], [], _ => by simp
  | [], _ :: _, h => by simp at h
  | _ :: _, [], h => by simp at h
  | u :: us, d :: ds, h => by
    have ih := sameI_all us ds (by simpa using h)
    rw [List.zip_cons_cons, List.map_cons, List.all_cons, Bool.and_eq_true, ih, List.map_cons, List.cons.injEq]
    cases u <;> simp [sameI]
/-- an item of what is shown -/
def isI : U → Bool
  | .int _ => true
  | _ => false
def Kd1 (u : U) : Prop := ∃ t, ∀ σ, tyU σ (.v u) = some t ∧ (isT t .int && !isT t .bool) = isI u
theorem shows_v (hT : T.T.fn "shows_copies" = some fn_shows_copies) (hp : T.pr.lookup ("shows_copies" : Str) = none) (hC : T.T.fn "copies" = some fn_copies) (hpC : T.pr.lookup ("copies" : Str) = none) (hM : T.T.fn "moved" = some fn_moved) (hpM : T.pr.lookup ("moved" : Str) = none) (hI : T.T.fn "is_number" = some fn_is_number) (hpI : T.pr.lookup ("is_number" : Str) = none)
    {ps : List Int} {long : Int} {th : U} (hl : ps.length ≤ 1000) (hth : (∃ us, th = .vl us ∧ us.length ≤ 1000 ∧ ∀ u ∈ us, Kd1 u) ∨ (∃ t, (∀ σ, tyU σ (.v th) = some t) ∧ isT t .list = false))
    (q : ∀ b, (b = true ↔ bad ps long = false ∧ th = .vl ((cp ps).map U.int)) → Q (.v (.bl b)) σ) : UF T (k + 3) "shows_copies" [.vl (ps.map U.int), .int long, th] σ Q X := by
  refine uf_in hp hT rfl ?_
  have iC : (cuOf T (UF T (k + 2))).isf "copies" = true := cu_isf hC
  have iI : (cuOf T (UF T (k + 2))).isf "is_number" = true := cu_isf hI
  unfold fn_shows_copies
  walk_at "s"
  refine ⟨iC, copies_v hC hpC hM hpM rfl hl ?_⟩
  cases hb : bad ps long with
  | true =>
    simp only [if_true]
    walk_at "n"
    walk_at "n"
    exact q false (by simp [hb])
  | false =>
    simp only [Bool.false_eq_true, if_false]
    rcases hth with ⟨us, rfl, hus, hk⟩ | ⟨t, ht, hnl⟩
    · walk_at "n"
      by_cases hlen : us.length = (cp ps).length
      · have hli : (us.length : Int) = (cp ps).length := by omega
        simp only [hli, decide_true]
        walk_at "n"
        refine comp_map (fun u => match u with | .tup [one, .int d] => .bl (sameI one d) | _ => .non) trivial (by simp; omega) (fun u K hu hK => ?_) ?_
        · obtain ⟨⟨one, d⟩, hm, rfl⟩ := List.mem_map.mp hu
          obtain ⟨h1, h2⟩ := List.of_mem_zip hm
          obtain ⟨d, hd, rfl⟩ := List.mem_map.mp h2
          obtain ⟨t, ht⟩ := hk one h1
          walk_at "v"
          refine ⟨iI, isnum_v hI hpI (ht σ).1 ?_⟩
          rw [(ht σ).2]
          cases one with
          | int i =>
            simp only [isI]
            walk_at "v"
            exact hK
          | _ =>
            simp only [isI]
            walk_at "v"
            exact hK
        refine ⟨(us.zip (cp ps)).map fun p => sameI p.1 p.2, ?_, ?_⟩
        · rw [List.zip_map_right, List.map_map, List.map_map, List.map_map]
          rfl
        · refine q _ ?_
          rw [sameI_all us (cp ps) hlen]
          simp [hb]
      · have hli : ¬ ((us.length : Int) = (cp ps).length) := by omega
        simp only [hli, decide_false]
        walk_at "n"
        refine q false ?_
        simp only [Bool.false_eq_true, false_iff, not_and]
        intro _ e
        exact hlen (by rw [U.vl.inj e, List.length_map])
    · have hne : th ≠ .vl ((cp ps).map U.int) := by
        rintro rfl
        have := ht σ
        cases this
        simp [isT] at hnl
      have qf : Q (.v (.bl false)) σ := q false (by simp [hne])
      rw [w_cons]
      walk_at "v"
      refine ⟨t, ht σ, ?_⟩
      cases t <;> first | (simp [isT] at hnl; done) | (walk_at "n"; exact qf)
/-- the law's boxes -/
theorem boxes_v (hT : T.T.fn "_law_boxes" = some fn__law_boxes) (hp : T.pr.lookup ("_law_boxes" : Str) = none) (hB : T.T.fn "_law_box" = some fn__law_box) (hpB : T.pr.lookup ("_law_box" : Str) = some pBox) {ns : List Int} {many : Nat} (hn : ns.length ≤ 63) (hm : 0 < many) (hm2 : many ≤ 60)
    (q : ∀ n, 2 ≤ n → n ≤ 63 → Q (.own (List.replicate n .box)) σ) : UF T (k + 4) "_law_boxes" [.scr ns, .int many] σ Q X := by
  refine uf_in hp hT rfl ?_
  have iB : (cuOf T (UF T (k + 3))).isf "_law_box" = true := cu_isf hB
  unfold fn__law_boxes
  walk_at "s"
  rw [cutU_pre, ← List.map_take]
  walk_at "n"
  rw [show (63 : Int) = ((63 : Nat) : Int) from rfl, cutU_mid, ← List.map_drop, ← List.map_take]
  refine each_v (fun i ev s => ∃ (x3 x4 : Option W) (cs : List Int), ev = [some (.v (.scr ns)), some (.v (.int many)), some (.own (cs.map U.int)), x3, x4] ∧ s = σ ∧ cs.length = (ns.take many).length) ⟨_, _, _, rfl, rfl, rfl⟩ ?_ ?_ ?_
  · intro i ev s _; rw [uk_nil]; trivial
  · rintro i u ev s K hi ⟨x3, x4, cs, rfl, rfl, hc⟩ hK
    have hi2 := (List.getElem?_eq_some_iff.mp hi).1
    simp only [List.length_map, List.length_zipIdx, List.length_take, List.length_drop] at hi2
    have hcm : cs.length = many := by rw [hc, List.length_take]; omega
    obtain ⟨z, rfl⟩ : ∃ z : Int, u = .tup [.int (i : Nat), .int z] := by
      rw [List.getElem?_map, List.getElem?_zipIdx, List.getElem?_map] at hi
      cases hz : (List.take (63 - many) (List.drop many ns))[i]? with
      | none => rw [hz] at hi; simp at hi
      | some z => rw [hz] at hi; simp at hi; exact ⟨z, hi.symm⟩
    have hmod : ((i : Int) % (many : Int)) = ((i % many : Nat) : Int) := by simp
    have hlt : i % many < cs.length := by rw [hcm]; exact Nat.mod_lt _ hm
    walk_at "n"
    refine ⟨by omega, _, at_int hmod hlt, ?_⟩
    walk_at "v"
    refine ⟨.inl (.inr ⟨by omega, by omega⟩), by omega, ?_⟩
    refine ⟨i % many, ?_, ?_⟩
    · rw [hmod, ix_n, if_pos hlt]
    · exact hK _ _ ⟨some (.v (.int i)), some (.v (.int z)), cs.set (i % many) (cs.getD (i % many) 0 + z * ((i : Int) + 2)), by rw [List.map_set], rfl, by rw [List.length_set]; exact hc⟩
  · rintro ev s ⟨x3, x4, cs, rfl, rfl, hc⟩
    have hc2 : cs.length ≤ 63 := by rw [hc, List.length_take]; omega
    walk_at "n"
    have hmax : ∃ n : Nat, (if (cs.length : Int) > 2 then (cs.length : Int) else 2) = n ∧ 2 ≤ n ∧ n ≤ 63 := by
      by_cases h : (cs.length : Int) > 2
      · exact ⟨cs.length, if_pos h, by omega, hc2⟩
      · exact ⟨2, if_neg h, by omega, by omega⟩
    obtain ⟨n, hn1, hn2, hn3⟩ := hmax
    rw [hn1]
    refine ⟨by omega, by omega, ?_⟩
    rw [Int.toNat_natCast]
    refine comp_v (fun i acc ev' s' => acc = List.replicate i .box ∧ s' = s ∧ ∃ w y3, frzU w = .vl (cs.map U.int) ∧ ev' = [some (.v (.scr ns)), some (.v (.int many)), some w, y3, x4]) ⟨rfl, rfl, _, _, rfl, rfl⟩ (fun _ _ _ _ _ => trivial) ?_ (by simp; omega) ?_ ?_
    · rintro i acc ev' s' ⟨rfl, _⟩; simp
    · rintro i u acc ev' s' K hi ⟨rfl, rfl, w, y3, hw, rfl⟩ k1 k2
      have hi2 := (List.getElem?_eq_some_iff.mp hi).1
      simp only [List.length_map, List.length_range] at hi2
      obtain rfl : u = .int (i : Nat) := by
        rw [List.getElem?_map, List.getElem?_range hi2] at hi
        cases hi; rfl
      walk_at "v"
      rw [hw]
      refine ⟨iB, box_v hpB (by omega) (by omega) ?_⟩
      walk_at "v"
      refine k1 _ _ _ ⟨by rw [List.replicate_succ'], rfl, .v (.vl (cs.map U.int)), _, rfl, rfl⟩
    · rintro acc ev' s' ⟨rfl, rfl, w, y3, hw, rfl⟩
      simp only [List.length_map, List.length_range]
      exact q n hn2 hn3
end
end Bp

/-! ## belts -/
namespace Bp
open PySem L2
local macro_rules | `(tactic| walk_at "v") => `(tactic| (try simp only [v_var, v_non, v_bl, v_int, v_str, v_glob, v_bin, v_neg, v_not, v_bop, v_cmp, v_cmp2, v_ite, v_tup, v_lst, v_dct, v_tab, v_tabG, v_tabIn, v_idx, v_sli, v_rev, v_call, v_bi, v_rng, v_mt, v_isi, v_comp, ofs_inj, String.reduceEq, v_nest, w_augs, uf_dict, uf_listS, uf_listK, uf_sortK, un_items, un_vals, un_lrev, un_dne, wd_o, wd_v, wd_r, ku_s, ku_i, ui_D, ui_Di, ui_di, tu_d, tu_D, um_get2, um_get1, um_dpop2, um_setdef, um_update, ut_get2, ut_get1, ut_dpop2, ut_setdef, ut_update, md_at, pk_at, md_w, pk_w, ml_w, pl_w, v_fld, v_meth, v_make, v_prom, w_setf, w_augf, w_retn, w_rais0, w_raisR, w_tryA, w_tryM, v_isx, v_xfld, w_asg, w_setc, w_par, w_par3, w_aug, w_expr, w_ret, w_ite, w_loop, w_each, w_brk, w_cont, w_pass, w_nil, eg_zero, eg_none, eg_succ, od_at, od_w, ga_nil, ga_cons, fz_v, fz_o, fz_d, kp_v, kp_o, kp_n, ub_add, ub_adds, ub_addt, ub_oo, ub_ov, ub_vo, ub_vv, ub_sub, ub_mul, ub_mulo, ub_mulv, ub_fdiv, ub_mod, ub_pow, ub_xor, ua_add, ua_adds, ua_sub, fl_i, fl_s, fl_b, fl_n, ue_ii, ue_ss, ue_bb, ue_nn, ue_ni, ue_in, ue_ns, ue_sn, ue_nb, ue_bn, ue_is, ue_si, wu_o, wu_i, wu_s, wu_b, wu_n, wu_t, wu_l, uc_eq, uc_ne, uc_lt, uc_le, uc_gt, uc_ge, uc_is0, uc_is1, uc_is2, uc_is3, uc_is4, uc_is5, uc_is6, uc_isn0, uc_isn1, uc_isn2, uc_isn3, uc_isn4, uc_isn5, uc_isn6, uc_in, uc_ino, uc_notino, uf_max1, uc_notin, tw_n, tw_b, tw_i, tw_s, tw_t, tw_l, tw_o, ui_o, ui_l, ui_t, ui_s, ui_d, us_s, us_t, us_c, us_o, us_l, wl_o, wl_l, wl_r, we_o, we_l, we_t, we_c, we_r, uf_lens, uf_leno, uf_lenl, uf_lent, uf_lend, uf_lenD, uf_list, uf_tuple, uf_divmod, uf_abs, uf_inti, uf_intb, uf_booli, uf_boolb, uf_max2, uf_min2, uf_all, uf_any, uf_sum, uf_str, uf_strt, uf_strl, uf_stro, um_append, um_extend, wx_t, wx_l, wx_r, um_pop, um_popAt, um_reverse, um_insert, um_index, um_join, ut_append, ut_extend, ut_pop, ut_popAt, ut_reverse, ut_insert, ut_remove, ut_index, ut_join, ml_at, pl_at, tu_i, tu_b, tu_s, tu_n, tu_t, tu_l, tu_o, ur_t, ur_l, ur_s, url_l, url_c, urz_ll, urz_tt, urz_tl, urz_lt, ure_l, ure_t, ure_c, urr_l, urr_t, uk_nil, cf_fs, opd, isVar, keepI, Prod.mk.injEq, exists_eq', exists_eq, false_and, or_false, exists_false, and_false, vpLs, vpDs, vpB, vpO, vpC, vpI, vpG, vpGs, tgsLen, tgSl, tgsSl, subN, memN, hide, unhide, at_nat, at_lit, ix_lit, List.length_map, List.getElem?_cons_zero, List.getElem?_cons_succ, List.set_cons_zero, List.set_cons_succ, List.map_cons, List.map_nil, List.cons_append, List.nil_append, List.length_cons, List.length_nil, List.replicate_succ, List.replicate_zero, Option.some.injEq, Nat.reduceAdd, Nat.reduceLT, Nat.reduceSub, Nat.zero_add, Nat.reduceLeDiff, Nat.reduceBEq, Nat.reduceEqDiff, Int.reduceToNat, Nat.sub_zero, List.length_append, List.length_set, Nat.reduceMul, Int.reduceNeg, exists_eq_left', exists_eq_left, exists_eq_right, U.int.injEq, U.tup.injEq, U.vl.injEq, U.ref.injEq, U.str.injEq, U.bl.injEq, W.v.injEq, W.own.injEq, List.cons.injEq, and_assoc, true_and, and_true, decide_eq_true_eq, decide_true, decide_false, List.any_cons, List.any_nil, isT, Bool.or_false, Bool.true_or, Bool.or_true, Bool.false_or, Bool.true_and, Bool.and_true, Bool.and_false, Bool.false_and, Bool.not_true, Bool.not_false, if_true, if_false, reduceIte, Bool.false_eq_true, and_imp, exists_and_left, exists_const, reduceCtorEq, ne_eq, not_false_eq_true, beq_self_eq_true, Nat.succ_ne_zero]))
local macro_rules | `(tactic| walk_at "w") => `(tactic| (try simp only [*, v_var, v_non, v_bl, v_int, v_str, v_glob, v_bin, v_neg, v_not, v_bop, v_cmp, v_cmp2, v_ite, v_tup, v_lst, v_dct, v_tab, v_tabG, v_tabIn, v_idx, v_sli, v_rev, v_call, v_bi, v_rng, v_mt, v_isi, v_comp, ofs_inj, String.reduceEq, v_nest, w_augs, uf_dict, uf_listS, uf_listK, uf_sortK, un_items, un_vals, un_lrev, un_dne, wd_o, wd_v, wd_r, ku_s, ku_i, ui_D, ui_Di, ui_di, tu_d, tu_D, um_get2, um_get1, um_dpop2, um_setdef, um_update, ut_get2, ut_get1, ut_dpop2, ut_setdef, ut_update, md_at, pk_at, md_w, pk_w, ml_w, pl_w, v_fld, v_meth, v_make, v_prom, w_setf, w_augf, w_retn, w_rais0, w_raisR, w_tryA, w_tryM, v_isx, v_xfld, w_asg, w_setc, w_par, w_par3, w_aug, w_expr, w_ret, w_ite, w_loop, w_each, w_brk, w_cont, w_pass, w_nil, eg_zero, eg_none, eg_succ, od_at, od_w, ga_nil, ga_cons, fz_v, fz_o, fz_d, kp_v, kp_o, kp_n, ub_add, ub_adds, ub_addt, ub_oo, ub_ov, ub_vo, ub_vv, ub_sub, ub_mul, ub_mulo, ub_mulv, ub_fdiv, ub_mod, ub_pow, ub_xor, ua_add, ua_adds, ua_sub, fl_i, fl_s, fl_b, fl_n, ue_ii, ue_ss, ue_bb, ue_nn, ue_ni, ue_in, ue_ns, ue_sn, ue_nb, ue_bn, ue_is, ue_si, wu_o, wu_i, wu_s, wu_b, wu_n, wu_t, wu_l, uc_eq, uc_ne, uc_lt, uc_le, uc_gt, uc_ge, uc_is0, uc_is1, uc_is2, uc_is3, uc_is4, uc_is5, uc_is6, uc_isn0, uc_isn1, uc_isn2, uc_isn3, uc_isn4, uc_isn5, uc_isn6, uc_in, uc_ino, uc_notino, uf_max1, uc_notin, tw_n, tw_b, tw_i, tw_s, tw_t, tw_l, tw_o, ui_o, ui_l, ui_t, ui_s, ui_d, us_s, us_t, us_c, us_o, us_l, wl_o, wl_l, wl_r, we_o, we_l, we_t, we_c, we_r, uf_lens, uf_leno, uf_lenl, uf_lent, uf_lend, uf_lenD, uf_list, uf_tuple, uf_divmod, uf_abs, uf_inti, uf_intb, uf_booli, uf_boolb, uf_max2, uf_min2, uf_all, uf_any, uf_sum, uf_str, uf_strt, uf_strl, uf_stro, um_append, um_extend, wx_t, wx_l, wx_r, um_pop, um_popAt, um_reverse, um_insert, um_index, um_join, ut_append, ut_extend, ut_pop, ut_popAt, ut_reverse, ut_insert, ut_remove, ut_index, ut_join, ml_at, pl_at, tu_i, tu_b, tu_s, tu_n, tu_t, tu_l, tu_o, ur_t, ur_l, ur_s, url_l, url_c, urz_ll, urz_tt, urz_tl, urz_lt, ure_l, ure_t, ure_c, urr_l, urr_t, uk_nil, cf_fs, opd, isVar, keepI, Prod.mk.injEq, exists_eq', exists_eq, false_and, or_false, exists_false, and_false, vpLs, vpDs, vpB, vpO, vpC, vpI, vpG, vpGs, tgsLen, tgSl, tgsSl, subN, memN, hide, unhide, at_nat, at_lit, ix_lit, List.length_map, List.getElem?_cons_zero, List.getElem?_cons_succ, List.set_cons_zero, List.set_cons_succ, List.map_cons, List.map_nil, List.cons_append, List.nil_append, List.length_cons, List.length_nil, List.replicate_succ, List.replicate_zero, Option.some.injEq, Nat.reduceAdd, Nat.reduceLT, Nat.reduceSub, Nat.zero_add, Nat.reduceLeDiff, Nat.reduceBEq, Nat.reduceEqDiff, Int.reduceToNat, Nat.sub_zero, List.length_append, List.length_set, Nat.reduceMul, Int.reduceNeg, exists_eq_left', exists_eq_left, exists_eq_right, U.int.injEq, U.tup.injEq, U.vl.injEq, U.ref.injEq, U.str.injEq, U.bl.injEq, W.v.injEq, W.own.injEq, List.cons.injEq, and_assoc, true_and, and_true, decide_eq_true_eq, decide_true, decide_false, List.any_cons, List.any_nil, isT, Bool.or_false, Bool.true_or, Bool.or_true, Bool.false_or, Bool.true_and, Bool.and_true, Bool.and_false, Bool.false_and, Bool.not_true, Bool.not_false, if_true, if_false, reduceIte, Bool.false_eq_true, and_imp, exists_and_left, exists_const, reduceCtorEq, ne_eq, not_false_eq_true, beq_self_eq_true, Nat.succ_ne_zero]))
local macro_rules | `(tactic| walk_at "s") => `(tactic| (rw [w_cons]; walk_at "v"))
local macro_rules | `(tactic| walk_at "n") => `(tactic| (walk_at "v"; rw [w_cons]; walk_at "v"))
local macro_rules | `(tactic| walk_at "r") => `(tactic| (walk_at "v"; repeat (rw [w_cons]; walk_at "v")))
theorem frz_l {w : W} {us : List U} (h : frzU w = .vl us) : w = .v (.vl us) ∨ w = .own us := by
  cases w with
  | v u => exact .inl (by rw [show u = .vl us from h])
  | own vs => exact .inr (by rw [U.vl.inj h])
  | ownD _ => cases h
theorem al_ints {P : Int → Prop} : ∀ {us ys : List U}, Al (fun _ y => ∃ r : Int, y = .int r ∧ P r) us ys → ∃ rs : List Int, ys = rs.map U.int ∧ rs.length = us.length ∧ ∀ r ∈ rs, P r
  | _, _, .nil => ⟨[], rfl, rfl, fun _ h => by cases h⟩
  | _, _, .cons ⟨r, e, p⟩ t => by
    obtain ⟨rs, e1, e2, e3⟩ := al_ints t
    exact ⟨r :: rs, by rw [e, e1]; rfl, by simp [e2], fun x hx => by
      rcases List.mem_cons.mp hx with rfl | hx
      · exact p
      · exact e3 x hx⟩
theorem erase_map {α β : Type} (f : α → β) : ∀ (l : List α) (n : Nat), (l.eraseIdx n).map f = (l.map f).eraseIdx n
  | [], _ => rfl
  | _ :: _, 0 => rfl
  | x :: l, n + 1 => by simp [erase_map f l n]
theorem rep_flat {α : Type} (x : α) : ∀ n : Nat, (List.replicate n [x]).flatten = List.replicate n x
  | 0 => rfl
  | n + 1 => by rw [List.replicate_succ, List.flatten_cons, rep_flat x n]; rfl
theorem seq_ix {n m : Nat} (h : n < m) : seqIndex? (n : Int) m = some n := by
  unfold seqIndex?
  simp
  omega
theorem cp_rev (ps : List Int) : (((ps.take (mv ps)).reverse.zipIdx).map fun p => p.1 + (p.2 : Int)) = cp ps := by
  have hm := mv_le ps
  unfold cp
  apply List.ext_getElem
  · simp; omega
  · intro i h1 h2
    simp at h1 h2
    simp only [List.getElem_map, List.getElem_zipIdx, List.getElem_reverse, List.getElem_take, List.getElem_range, List.length_take]
    rw [List.getD_eq_getElem?_getD, List.getElem?_eq_getElem (by omega)]
    simp only [Option.getD_some]
    congr 2 <;> omega
theorem mem_up {n : Nat} {p : Int} (h : p ∈ up n) : 0 ≤ p ∧ p < n := by
  obtain ⟨m, hm, rfl⟩ := List.mem_map.mp (show p ∈ (List.range n).map (fun i : Nat => (i : Int)) from h)
  have := List.mem_range.mp hm
  omega
def mt_Belt___init__ : Fn := ⟨["", ""], ["", ""],
  (.cons (.setf (.var 0) "long" (.var 1))
  (.cons (.setf (.var 0) "worths" (.lst .nil))
  (.cons (.setf (.var 0) "came" (.int 0))
  .nil)))⟩
def mt_Belt_drop : Fn := ⟨["", ""], ["", ""],
  (.cons (.setf (.var 0) "worths" (.sli (.bin .add (.lst (.cons (.var 1) .nil)) (.fld (.var 0) "worths")) .none (.some (.fld (.var 0) "long"))))
  (.cons (.augf (.var 0) "came" .add (.int 1))
  .nil))⟩
def mt_Belt_read : Fn := ⟨["", ""], ["", ""],
  (.cons (.ite (.cmp .ge (.var 1) (.fld (.var 0) "came"))
    (.cons (.rais0 "NotYet")
      .nil)
    .nil)
  (.cons (.ite (.cmp .ge (.var 1) (.fld (.var 0) "long"))
    (.cons (.rais0 "Fell")
      .nil)
    .nil)
  (.cons (.ret (.idx (.fld (.var 0) "worths") (.var 1)))
  .nil)))⟩
def mt_Belt_again : Fn := ⟨["", ""], ["", ""],
  (.cons (.expr (.meth (.var 0) "drop" (.cons (.meth (.var 0) "read" (.cons (.var 1) .nil)) .nil)))
  .nil)⟩
def mt_Belt_worths_now : Fn := ⟨[""], [""],
  (.cons (.ret (.bi .list (.cons (.fld (.var 0) "worths") .nil)))
  .nil)⟩
/-- a belt in the store -/
def beltO (long : Int) (ws : List U) (came : Int) : Uo := .ins "Belt" [("long", .v (.int long)), ("worths", .v (.vl ws)), ("came", .v (.int came))]
/-- the class is that one -/
structure BeltT (T : Tu) : Prop where
  mt : ∀ m g, ([("__init__", "Belt.__init__"), ("drop", "Belt.drop"), ("read", "Belt.read"), ("again", "Belt.again"), ("worths_now", "Belt.worths_now")] : List (Str × Str)).lookup m = some g → T.T.mtk "Belt" m = some g
  fl : T.T.fl "Belt" "long" = true ∧ T.T.fl "Belt" "worths" = true ∧ T.T.fl "Belt" "came" = true
  i : T.T.df "Belt.__init__" = some mt_Belt___init__ ∧ T.pr.lookup ("Belt.__init__" : Str) = none
  d : T.T.df "Belt.drop" = some mt_Belt_drop ∧ T.pr.lookup ("Belt.drop" : Str) = none
  r : T.T.df "Belt.read" = some mt_Belt_read ∧ T.pr.lookup ("Belt.read" : Str) = none
  a : T.T.df "Belt.again" = some mt_Belt_again ∧ T.pr.lookup ("Belt.again" : Str) = none
  w : T.T.df "Belt.worths_now" = some mt_Belt_worths_now ∧ T.pr.lookup ("Belt.worths_now" : Str) = none
section
variable {T : Tu} {k : Nat} {σ : Us} {Q : W → Us → Prop} {X : Str → Option U → Us → Prop}
theorem drop_v (b : BeltT T) {n : Nat} {long came : Int} {ws : List U} {u : U} (h : σ[n]? = some (beltO long ws came)) (hl : ws.length < 1000) (q : Q (.v .non) (σ.set n (beltO long (cutU (u :: ws) none (some long)) (came + 1)))) : UF T (k + 1) "Belt.drop" [.ref n, u] σ Q X := by
  refine uf_mt b.d.2 b.d.1 rfl ?_
  unfold mt_Belt_drop
  walk_at "s"
  refine ⟨_, _, h, b.fl.2.1, _, rfl, ?_⟩
  refine ⟨_, _, rfl, rfl, by simp; omega, _, _, h, b.fl.1, _, rfl, _, rfl, ⟨_, rfl, _, _, h, b.fl.2.1, by simp, ?_⟩⟩
  have h2 : (σ.set n (beltO long (cutU ([u] ++ ws) none (some long)) came))[n]? = some (beltO long (cutU ([u] ++ ws) none (some long)) came) := List.getElem?_set_self (List.getElem?_eq_some_iff.mp h).1
  walk_at "s"
  refine ⟨_, _, h2, b.fl.2.2, _, rfl, ?_⟩
  refine ⟨rfl, _, h2, (by show (3 : Nat) < 1000; omega), ?_⟩
  rw [List.set_set]
  exact q
theorem init_v (b : BeltT T) {n : Nat} {long : Int} (h : σ[n]? = some (.ins "Belt" [])) (q : Q (.v .non) (σ.set n (beltO long [] 0))) : UF T (k + 2) "Belt.__init__" [.ref n, .int long] σ Q X := by
  refine uf_ini b.i.2 b.i.1 rfl ?_
  have hn := (List.getElem?_eq_some_iff.mp h).1
  unfold mt_Belt___init__
  walk_at "s"
  refine ⟨_, _, h, b.fl.1, by decide, ?_⟩
  walk_at "s"
  refine ⟨_, _, List.getElem?_set_self hn, b.fl.2.1, (by show (1 : Nat) < 1000; omega), ?_⟩
  rw [List.set_set]
  walk_at "s"
  refine ⟨_, _, List.getElem?_set_self hn, b.fl.2.2, (by show (2 : Nat) < 1000; omega), ?_⟩
  rw [List.set_set]
  exact q
theorem read_v (b : BeltT T) {n : Nat} {long came : Int} {ws : List U} {p : Nat} {u : U} (h : σ[n]? = some (beltO long ws came)) (hp : (p : Int) < came) (hp2 : (p : Int) < long) (hu : ws[p]? = some u) (q : Q (.v u) σ) : UF T (k + 1) "Belt.read" [.ref n, .int p] σ Q X := by
  refine uf_mt b.r.2 b.r.1 rfl ?_
  unfold mt_Belt_read
  walk_at "s"
  refine ⟨_, _, h, b.fl.2.2, _, rfl, ?_⟩
  walk_at "v"
  rw [if_neg (by omega)]
  walk_at "s"
  refine ⟨_, _, h, b.fl.1, _, rfl, ?_⟩
  walk_at "v"
  rw [if_neg (by omega)]
  walk_at "s"
  refine ⟨_, _, h, b.fl.2.1, _, rfl, ?_⟩
  walk_at "v"
  exact ⟨u, hu, q⟩
/-- the classes that a belt raises -/
def BeltX (T : Tu) : Prop := T.T.xk "NotYet" = some false ∧ T.T.xk "Fell" = some false
theorem read_vX (b : BeltT T) (bx : BeltX T) {n : Nat} {long came : Int} {ws : List U} {p : Int} (h : σ[n]? = some (beltO long ws came)) (q : p < came → p < long → ∃ (m : Nat) (u : U), (m : Int) = p ∧ ws[m]? = some u ∧ Q (.v u) σ) (x1 : came ≤ p → X "NotYet" none σ) (x2 : p < came → long ≤ p → X "Fell" none σ) : UF T (k + 1) "Belt.read" [.ref n, .int p] σ Q X := by
  refine uf_mt b.r.2 b.r.1 rfl ?_
  unfold mt_Belt_read
  walk_at "s"
  refine ⟨_, _, h, b.fl.2.2, _, rfl, ?_⟩
  walk_at "v"
  split
  next h1 =>
    have := x1 (by omega)
    walk_at "s"
    exact ⟨bx.1, this⟩
  next h1 =>
    walk_at "s"
    refine ⟨_, _, h, b.fl.1, _, rfl, ?_⟩
    walk_at "v"
    split
    next h2 =>
      have := x2 (by omega) (by omega)
      walk_at "s"
      exact ⟨bx.2, this⟩
    next h2 =>
      obtain ⟨m, u, e, hu, z⟩ := q (by omega) (by omega)
      subst e
      walk_at "s"
      refine ⟨_, _, h, b.fl.2.1, _, rfl, ?_⟩
      walk_at "v"
      exact ⟨u, hu, z⟩
theorem again_v (b : BeltT T) {n : Nat} {long came : Int} {ws : List U} {p : Nat} {u : U} (h : σ[n]? = some (beltO long ws came)) (hl : ws.length < 1000) (hp : (p : Int) < came) (hp2 : (p : Int) < long) (hu : ws[p]? = some u) (q : Q (.v .non) (σ.set n (beltO long (cutU (u :: ws) none (some long)) (came + 1)))) : UF T (k + 2) "Belt.again" [.ref n, .int p] σ Q X := by
  refine uf_mt b.a.2 b.a.1 rfl ?_
  unfold mt_Belt_again
  walk_at "s"
  refine ⟨_, _, h, _, b.mt _ _ rfl, rfl, _, _, h, _, b.mt _ _ rfl, rfl, read_v b h hp hp2 hu (drop_v b h hl ?_)⟩
  exact q
theorem again_vX (b : BeltT T) (bx : BeltX T) {n : Nat} {long came : Int} {ws : List U} {p : Int} (h : σ[n]? = some (beltO long ws came)) (hl : ws.length < 1000) (q : p < came → p < long → ∃ (m : Nat) (u : U), (m : Int) = p ∧ ws[m]? = some u ∧ Q (.v .non) (σ.set n (beltO long (cutU (u :: ws) none (some long)) (came + 1)))) (x1 : came ≤ p → X "NotYet" none σ) (x2 : p < came → long ≤ p → X "Fell" none σ) : UF T (k + 2) "Belt.again" [.ref n, .int p] σ Q X := by
  refine uf_mt b.a.2 b.a.1 rfl ?_
  unfold mt_Belt_again
  walk_at "s"
  refine ⟨_, _, h, _, b.mt _ _ rfl, rfl, _, _, h, _, b.mt _ _ rfl, rfl, read_vX b bx h (fun a1 a2 => ?_) x1 x2⟩
  obtain ⟨m, u, e, hu, z⟩ := q a1 a2
  exact ⟨m, u, e, hu, drop_v b h hl z⟩
theorem now_v (b : BeltT T) {n : Nat} {long came : Int} {ws : List U} (h : σ[n]? = some (beltO long ws came)) (q : Q (.own ws) σ) : UF T (k + 1) "Belt.worths_now" [.ref n] σ Q X := by
  refine uf_mt b.w.2 b.w.1 rfl ?_
  unfold mt_Belt_worths_now
  walk_at "s"
  exact ⟨_, _, h, b.fl.2.1, _, rfl, _, rfl, q⟩
end
end Bp

/-! ## texts, named belts -/
namespace Bp
open PySem L2
local macro_rules | `(tactic| walk_at "v") => `(tactic| (try simp only [v_var, v_non, v_bl, v_int, v_str, v_glob, v_bin, v_neg, v_not, v_bop, v_cmp, v_cmp2, v_ite, v_tup, v_lst, v_dct, v_tab, v_tabG, v_tabIn, v_idx, v_sli, v_rev, v_call, v_bi, v_rng, v_mt, v_isi, v_comp, ofs_inj, String.reduceEq, v_nest, w_augs, uf_dict, uf_listS, uf_listK, uf_sortK, un_items, un_vals, un_lrev, un_dne, wd_o, wd_v, wd_r, ku_s, ku_i, ui_D, ui_Di, ui_di, tu_d, tu_D, um_get2, um_get1, um_dpop2, um_setdef, um_update, ut_get2, ut_get1, ut_dpop2, ut_setdef, ut_update, md_at, pk_at, md_w, pk_w, ml_w, pl_w, v_fld, v_meth, v_make, v_prom, w_setf, w_augf, w_retn, w_rais0, w_raisR, w_tryA, w_tryM, v_isx, v_xfld, w_asg, w_setc, w_par, w_par3, w_aug, w_expr, w_ret, w_ite, w_loop, w_each, w_brk, w_cont, w_pass, w_nil, eg_zero, eg_none, eg_succ, od_at, od_w, ga_nil, ga_cons, fz_v, fz_o, fz_d, kp_v, kp_o, kp_n, ub_add, ub_adds, ub_addt, ub_oo, ub_ov, ub_vo, ub_vv, ub_sub, ub_mul, ub_mulo, ub_mulv, ub_fdiv, ub_mod, ub_pow, ub_xor, ua_add, ua_adds, ua_sub, fl_i, fl_s, fl_b, fl_n, ue_ii, ue_ss, ue_bb, ue_nn, ue_ni, ue_in, ue_ns, ue_sn, ue_nb, ue_bn, ue_is, ue_si, wu_o, wu_i, wu_s, wu_b, wu_n, wu_t, wu_l, uc_eq, uc_ne, uc_lt, uc_le, uc_gt, uc_ge, uc_is0, uc_is1, uc_is2, uc_is3, uc_is4, uc_is5, uc_is6, uc_isn0, uc_isn1, uc_isn2, uc_isn3, uc_isn4, uc_isn5, uc_isn6, uc_in, uc_ino, uc_notino, uf_max1, uc_notin, tw_n, tw_b, tw_i, tw_s, tw_t, tw_l, tw_o, ui_o, ui_l, ui_t, ui_s, ui_d, us_s, us_t, us_c, us_o, us_l, wl_o, wl_l, wl_r, we_o, we_l, we_t, we_c, we_r, uf_lens, uf_leno, uf_lenl, uf_lent, uf_lend, uf_lenD, uf_list, uf_tuple, uf_divmod, uf_abs, uf_inti, uf_intb, uf_booli, uf_boolb, uf_max2, uf_min2, uf_all, uf_any, uf_sum, uf_str, uf_strt, uf_strl, uf_stro, um_append, um_extend, wx_t, wx_l, wx_r, um_pop, um_popAt, um_reverse, um_insert, um_index, um_join, ut_append, ut_extend, ut_pop, ut_popAt, ut_reverse, ut_insert, ut_remove, ut_index, ut_join, ml_at, pl_at, tu_i, tu_b, tu_s, tu_n, tu_t, tu_l, tu_o, ur_t, ur_l, ur_s, url_l, url_c, urz_ll, urz_tt, urz_tl, urz_lt, ure_l, ure_t, ure_c, urr_l, urr_t, uk_nil, cf_fs, opd, isVar, keepI, Prod.mk.injEq, exists_eq', exists_eq, false_and, or_false, exists_false, and_false, vpLs, vpDs, vpB, vpO, vpC, vpI, vpG, vpGs, tgsLen, tgSl, tgsSl, subN, memN, hide, unhide, at_nat, at_lit, ix_lit, List.length_map, List.getElem?_cons_zero, List.getElem?_cons_succ, List.set_cons_zero, List.set_cons_succ, List.map_cons, List.map_nil, List.cons_append, List.nil_append, List.length_cons, List.length_nil, List.replicate_succ, List.replicate_zero, Option.some.injEq, Nat.reduceAdd, Nat.reduceLT, Nat.reduceSub, Nat.zero_add, Nat.reduceLeDiff, Nat.reduceBEq, Nat.reduceEqDiff, Int.reduceToNat, Nat.sub_zero, List.length_append, List.length_set, Nat.reduceMul, Int.reduceNeg, exists_eq_left', exists_eq_left, exists_eq_right, U.int.injEq, U.tup.injEq, U.vl.injEq, U.ref.injEq, U.str.injEq, U.bl.injEq, W.v.injEq, W.own.injEq, List.cons.injEq, and_assoc, true_and, and_true, decide_eq_true_eq, decide_true, decide_false, List.any_cons, List.any_nil, isT, Bool.or_false, Bool.true_or, Bool.or_true, Bool.false_or, Bool.true_and, Bool.and_true, Bool.and_false, Bool.false_and, Bool.not_true, Bool.not_false, if_true, if_false, reduceIte, Bool.false_eq_true, and_imp, exists_and_left, exists_const, reduceCtorEq, ne_eq, not_false_eq_true, beq_self_eq_true, Nat.succ_ne_zero]))
local macro_rules | `(tactic| walk_at "w") => `(tactic| (try simp only [*, v_var, v_non, v_bl, v_int, v_str, v_glob, v_bin, v_neg, v_not, v_bop, v_cmp, v_cmp2, v_ite, v_tup, v_lst, v_dct, v_tab, v_tabG, v_tabIn, v_idx, v_sli, v_rev, v_call, v_bi, v_rng, v_mt, v_isi, v_comp, ofs_inj, String.reduceEq, v_nest, w_augs, uf_dict, uf_listS, uf_listK, uf_sortK, un_items, un_vals, un_lrev, un_dne, wd_o, wd_v, wd_r, ku_s, ku_i, ui_D, ui_Di, ui_di, tu_d, tu_D, um_get2, um_get1, um_dpop2, um_setdef, um_update, ut_get2, ut_get1, ut_dpop2, ut_setdef, ut_update, md_at, pk_at, md_w, pk_w, ml_w, pl_w, v_fld, v_meth, v_make, v_prom, w_setf, w_augf, w_retn, w_rais0, w_raisR, w_tryA, w_tryM, v_isx, v_xfld, w_asg, w_setc, w_par, w_par3, w_aug, w_expr, w_ret, w_ite, w_loop, w_each, w_brk, w_cont, w_pass, w_nil, eg_zero, eg_none, eg_succ, od_at, od_w, ga_nil, ga_cons, fz_v, fz_o, fz_d, kp_v, kp_o, kp_n, ub_add, ub_adds, ub_addt, ub_oo, ub_ov, ub_vo, ub_vv, ub_sub, ub_mul, ub_mulo, ub_mulv, ub_fdiv, ub_mod, ub_pow, ub_xor, ua_add, ua_adds, ua_sub, fl_i, fl_s, fl_b, fl_n, ue_ii, ue_ss, ue_bb, ue_nn, ue_ni, ue_in, ue_ns, ue_sn, ue_nb, ue_bn, ue_is, ue_si, wu_o, wu_i, wu_s, wu_b, wu_n, wu_t, wu_l, uc_eq, uc_ne, uc_lt, uc_le, uc_gt, uc_ge, uc_is0, uc_is1, uc_is2, uc_is3, uc_is4, uc_is5, uc_is6, uc_isn0, uc_isn1, uc_isn2, uc_isn3, uc_isn4, uc_isn5, uc_isn6, uc_in, uc_ino, uc_notino, uf_max1, uc_notin, tw_n, tw_b, tw_i, tw_s, tw_t, tw_l, tw_o, ui_o, ui_l, ui_t, ui_s, ui_d, us_s, us_t, us_c, us_o, us_l, wl_o, wl_l, wl_r, we_o, we_l, we_t, we_c, we_r, uf_lens, uf_leno, uf_lenl, uf_lent, uf_lend, uf_lenD, uf_list, uf_tuple, uf_divmod, uf_abs, uf_inti, uf_intb, uf_booli, uf_boolb, uf_max2, uf_min2, uf_all, uf_any, uf_sum, uf_str, uf_strt, uf_strl, uf_stro, um_append, um_extend, wx_t, wx_l, wx_r, um_pop, um_popAt, um_reverse, um_insert, um_index, um_join, ut_append, ut_extend, ut_pop, ut_popAt, ut_reverse, ut_insert, ut_remove, ut_index, ut_join, ml_at, pl_at, tu_i, tu_b, tu_s, tu_n, tu_t, tu_l, tu_o, ur_t, ur_l, ur_s, url_l, url_c, urz_ll, urz_tt, urz_tl, urz_lt, ure_l, ure_t, ure_c, urr_l, urr_t, uk_nil, cf_fs, opd, isVar, keepI, Prod.mk.injEq, exists_eq', exists_eq, false_and, or_false, exists_false, and_false, vpLs, vpDs, vpB, vpO, vpC, vpI, vpG, vpGs, tgsLen, tgSl, tgsSl, subN, memN, hide, unhide, at_nat, at_lit, ix_lit, List.length_map, List.getElem?_cons_zero, List.getElem?_cons_succ, List.set_cons_zero, List.set_cons_succ, List.map_cons, List.map_nil, List.cons_append, List.nil_append, List.length_cons, List.length_nil, List.replicate_succ, List.replicate_zero, Option.some.injEq, Nat.reduceAdd, Nat.reduceLT, Nat.reduceSub, Nat.zero_add, Nat.reduceLeDiff, Nat.reduceBEq, Nat.reduceEqDiff, Int.reduceToNat, Nat.sub_zero, List.length_append, List.length_set, Nat.reduceMul, Int.reduceNeg, exists_eq_left', exists_eq_left, exists_eq_right, U.int.injEq, U.tup.injEq, U.vl.injEq, U.ref.injEq, U.str.injEq, U.bl.injEq, W.v.injEq, W.own.injEq, List.cons.injEq, and_assoc, true_and, and_true, decide_eq_true_eq, decide_true, decide_false, List.any_cons, List.any_nil, isT, Bool.or_false, Bool.true_or, Bool.or_true, Bool.false_or, Bool.true_and, Bool.and_true, Bool.and_false, Bool.false_and, Bool.not_true, Bool.not_false, if_true, if_false, reduceIte, Bool.false_eq_true, and_imp, exists_and_left, exists_const, reduceCtorEq, ne_eq, not_false_eq_true, beq_self_eq_true, Nat.succ_ne_zero]))
local macro_rules | `(tactic| walk_at "s") => `(tactic| (rw [w_cons]; walk_at "v"))
local macro_rules | `(tactic| walk_at "n") => `(tactic| (walk_at "v"; rw [w_cons]; walk_at "v"))
local macro_rules | `(tactic| walk_at "r") => `(tactic| (walk_at "v"; repeat (rw [w_cons]; walk_at "v")))
theorem str_ext {a b : Str} (h : a.cps.toList = b.cps.toList) : a = b := by
  cases a; cases b
  simp only [Str.mk.injEq]
  exact Array.toList_inj.mp h
theorem str_app (a b : Str) : (a ++ b).cps.toList = a.cps.toList ++ b.cps.toList := by
  show (a.cps ++ b.cps).toList = _
  simp
theorem str_len (a : Str) : a.length = a.cps.toList.length := by
  show a.cps.size = _
  simp
theorem cutS_pre (z : Str) (m : Nat) : (cutS z none (some (m : Int))).cps.toList = z.cps.toList.take m := by
  have := cutU_pre (z.cps.toList.map fun c : Nat => U.int (c : Int)) m
  unfold cutU at this
  rw [List.length_map, ← List.map_drop, ← List.map_take, ← List.map_take] at this
  have e := List.map_inj_right (f := fun c : Nat => U.int (c : Int)) (fun x y h => by have := U.int.inj h; omega) |>.mp this
  unfold cutS
  rw [str_len]
  exact e
theorem cutS_end (z : Str) (m : Nat) : (cutS z (some (m : Int)) none).cps.toList = z.cps.toList.drop m := by
  have := cutU_end (z.cps.toList.map fun c : Nat => U.int (c : Int)) m
  unfold cutU at this
  rw [List.length_map, ← List.map_drop, ← List.map_take, ← List.map_drop] at this
  have e := List.map_inj_right (f := fun c : Nat => U.int (c : Int)) (fun x y h => by have := U.int.inj h; omega) |>.mp this
  unfold cutS
  rw [str_len]
  exact e
theorem join0 : ∀ ss : List Str, (Txt.join "" ss).cps.toList = (ss.map fun s => s.cps.toList).flatten := by
  intro ss
  rw [TL.join_eq]
  induction ss with
  | nil => rfl
  | cons a r ih =>
    cases r with
    | nil => simp [Str.join]
    | cons b r =>
      have : Str.join "" (a :: b :: r) = a ++ "" ++ Str.join "" (b :: r) := rfl
      rw [this, str_app, str_app, ih]
      have e : ("" : Str).cps.toList = [] := by decide
      rw [e]
      simp
theorem strOk_list {s : Str} (h : ∀ c ∈ s.cps.toList, c < 1114112) : PyData.strOk s = true := by
  unfold PyData.strOk
  rw [Array.all_eq_true']
  intro c hc
  exact decide_eq_true (h c (Array.mem_toList_iff.mpr hc))
theorem al_chars {P : Nat → Prop} : ∀ {us ys : List U}, Al (fun _ y => ∃ c : Nat, y = .str ⟨#[c]⟩ ∧ P c) us ys → ∃ cs : List Nat, ys = (cs.map fun c => U.str ⟨#[c]⟩) ∧ cs.length = us.length ∧ ∀ c ∈ cs, P c
  | _, _, .nil => ⟨[], rfl, rfl, fun _ h => by cases h⟩
  | _, _, .cons ⟨r, e, p⟩ t => by
    obtain ⟨rs, e1, e2, e3⟩ := al_chars t
    exact ⟨r :: rs, by rw [e, e1]; rfl, by simp [e2], fun x hx => by
      rcases List.mem_cons.mp hx with rfl | hx
      · exact p
      · exact e3 x hx⟩
theorem singles_len : ∀ cs : List Nat, (cs.map ((fun x : Str => x.length) ∘ fun c : Nat => (⟨#[c]⟩ : Str))).sum = cs.length
  | [] => rfl
  | c :: r => by rw [List.map_cons, List.sum_cons, singles_len r, List.length_cons]; show 1 + _ = _; omega
theorem singles_flat : ∀ cs : List Nat, (cs.map ((fun s : Str => s.cps.toList) ∘ fun c : Nat => (⟨#[c]⟩ : Str))).flatten = cs
  | [] => rfl
  | c :: r => by rw [List.map_cons, List.flatten_cons, singles_flat r]; rfl
theorem erase_perm {α : Type} : ∀ (l : List α) (n : Nat) (h : n < l.length), (l[n] :: l.eraseIdx n).Perm l
  | x :: l, 0, _ => List.Perm.refl _
  | x :: l, n + 1, h => by
    have ih := erase_perm l n (by simpa using h)
    simp only [List.getElem_cons_succ, List.eraseIdx_cons_succ]
    exact (List.Perm.swap _ _ _).trans (List.Perm.cons x ih)
/-- the letters -/
def abc : List Nat := ("abcdefghijklmnopqrstuvwxyz" : Str).cps.toList
theorem abc_len : abc.length = 26 := by decide +kernel
theorem abc_nodup : abc.Nodup := by decide +kernel
theorem abc_lt : ∀ c ∈ abc, c < 128 := by decide +kernel
/-- a name -/
def Nm (s : Str) : Prop := 1 ≤ s.length ∧ s.length ≤ 10 ∧ ∀ c ∈ s.cps.toList, c < 128
theorem Nm.ok {s : Str} (h : Nm s) : PyData.strOk s = true := strOk_list fun c hc => by have := h.2.2 c hc; omega
def nmOf (st : List Nat) (a k l : Nat) : Str := if k % 2 = 0 then ⟨(st.take a ++ [l] ++ st.drop a).toArray⟩ else ⟨#[l]⟩
theorem nmOf_ne {st : List Nat} {a k k' l l' : Nat} (h : l ≠ l') : nmOf st a k l ≠ nmOf st a k' l' := by
  intro e
  have e2 := congrArg (fun s : Str => s.cps.toList) e
  unfold nmOf at e2
  by_cases h1 : k % 2 = 0 <;> by_cases h2 : k' % 2 = 0 <;> simp only [h1, h2, if_true, if_false] at e2
  · rw [List.append_assoc, List.append_assoc] at e2
    have := List.append_cancel_left e2
    simp at this
    exact h this
  · have hl := congrArg List.length e2
    simp at hl
    have h0 : st = [] := by
      cases st with
      | nil => rfl
      | cons x r => simp at hl; omega
    subst h0
    simp at e2
    exact h e2
  · have hl := congrArg List.length e2
    simp at hl
    have h0 : st = [] := by
      cases st with
      | nil => rfl
      | cons x r => simp at hl; omega
    subst h0
    simp at e2
    exact h e2
  · simp at e2
    exact h e2
def fn__law_names6 : Fn := ⟨["", ""], ["", "", "", "", "", "", "", ""],
  (.cons (.asg (.nm 2) (.bi .listS (.cons (.str "abcdefghijklmnopqrstuvwxyz") .nil)))
  (.cons (.asg (.nm 3) (.mt .join (.str "") (.cons (.comp (.idx (.var 2) (.call "_law_take" (.cons (.var 0) (.cons (.int 26) .nil)))) (.nm 6) (.rng1 (.call "_law_take" (.cons (.var 0) (.cons (.int 8) .nil)))) .none [("", 6)]) .nil)))
  (.cons (.asg (.nm 4) (.call "_law_take" (.cons (.var 0) (.cons (.bin .add (.bi .len (.cons (.var 3) .nil)) (.int 1)) .nil))))
  (.cons (.asg (.nm 5) (.lst .nil))
  (.cons (.each (.nm 6) (.rng1 (.var 1))
    (.cons (.asg (.nm 7) (.mt .popAt (.var 2) (.cons (.call "_law_take" (.cons (.var 0) (.cons (.bi .len (.cons (.var 2) .nil)) .nil))) .nil)))
      (.cons (.expr (.mt .append (.var 5) (.cons (.idx (.lst (.cons (.bin .add (.bin .add (.sli (.var 3) .none (.some (.var 4))) (.var 7)) (.sli (.var 3) (.some (.var 4)) .none)) (.cons (.var 7) .nil))) (.bin .mod (.var 6) (.int 2))) .nil)))
      .nil)))
  (.cons (.ret (.var 5))
  .nil))))))⟩
section
variable {T : Tu} {k : Nat} {σ : Us} {Q : W → Us → Prop} {X : Str → Option U → Us → Prop}
/-- so many unlike names -/
theorem names6_v (hT : T.T.fn "_law_names" = some fn__law_names6) (hp : T.pr.lookup ("_law_names" : Str) = none) (hK : T.T.fn "_law_take" = some fn__law_take) (hpK : T.pr.lookup ("_law_take" : Str) = some pTake) {many : Nat} (hm : many ≤ 26)
    (q : ∀ ss : List Str, ss.length = many → ss.Nodup → (∀ s ∈ ss, Nm s) → Q (.own (ss.map U.str)) σ) : UF T (k + 4) "_law_names" [.box, .int many] σ Q X := by
  refine uf_in hp hT rfl ?_
  have iT : (cuOf T (UF T (k + 3))).isf "_law_take" = true := cu_isf hK
  unfold fn__law_names6
  walk_at "s"
  refine ⟨by decide, ?_⟩
  walk_at "s"
  refine ⟨iT, take_v hpK (by decide) (by decide) fun n8 l8 u8 => ?_⟩
  walk_at "v"
  refine ⟨by omega, by omega, ?_⟩
  refine comp_all (fun _ y => ∃ c : Nat, y = .str ⟨#[c]⟩ ∧ c ∈ abc) trivial (by simp; omega) (fun u K hu hK => ?_) fun ys ha => ?_
  · walk_at "v"
    refine ⟨iT, take_v hpK (by decide) (by decide) fun r l u => ?_⟩
    walk_at "v"
    obtain ⟨n, rfl⟩ := Int.eq_ofNat_of_zero_le l
    have hn : n < abc.length := by rw [abc_len]; omega
    refine ⟨.str ⟨#[abc[n]]⟩, ?_, hK _ ⟨_, rfl, List.getElem_mem hn⟩⟩
    rw [at_nat]
    show (abc.map fun c => U.str ⟨#[c]⟩)[n]? = _
    rw [List.getElem?_map, List.getElem?_eq_getElem hn]; rfl
  obtain ⟨cs, rfl, hcl, hcm⟩ := al_chars ha
  have hcl : cs.length ≤ 8 := by rw [hcl]; simp; omega
  refine ⟨cs.map fun c => ⟨#[c]⟩, by rw [List.map_map]; rfl, ?_, ?_⟩
  · have e1 : ("" : Str).length = 0 := by decide
    rw [e1, List.map_map]
    rw [singles_len]; simp; omega
  generalize hst : Txt.join "" (cs.map fun c => (⟨#[c]⟩ : Str)) = st
  have hsl : st.cps.toList = cs := by
    rw [← hst, join0, List.map_map, singles_flat]
  have hlen : st.length = cs.length := by rw [str_len, hsl]
  walk_at "s"
  refine ⟨iT, by omega, take_v hpK (by omega) (by omega) fun at_ l9 u9 => ?_⟩
  obtain ⟨a, rfl⟩ := Int.eq_ofNat_of_zero_le l9
  walk_at "n"
  walk_at "n"
  refine ⟨by omega, by omega, ?_⟩
  rw [Int.toNat_natCast]
  refine each_v (fun i ev s => s = σ ∧ ∃ (x6 x7 : Option W) (ls left : List Nat), (ls ++ left).Perm abc ∧ ls.length = i ∧ ev = [some (.v .box), some (.v (.int many)), some (.own (left.map fun c => .str ⟨#[c]⟩)), some (.v (.str st)), some (.v (.int a)), some (.own ((ls.zipIdx.map fun p => nmOf cs a p.2 p.1).map U.str)), x6, x7]) ⟨rfl, none, none, [], abc, List.Perm.refl _, rfl, rfl⟩ (fun _ _ _ _ => by rw [uk_nil]; trivial) ?_ ?_
  · rintro i u ev s K hi ⟨rfl, x6, x7, ls, left, hpm, hll, rfl⟩ hK
    have hi2 := (List.getElem?_eq_some_iff.mp hi).1
    simp only [List.length_map, List.length_range] at hi2
    obtain rfl : u = .int (i : Nat) := by
      rw [List.getElem?_map, List.getElem?_range hi2] at hi
      cases hi; rfl
    have hl2 := hpm.length_eq
    rw [List.length_append, abc_len] at hl2
    walk_at "n"
    refine ⟨iT, take_v hpK (by omega) (by omega) fun r l u => ?_⟩
    obtain ⟨n, rfl⟩ := Int.eq_ofNat_of_zero_le l
    have hn : n < left.length := by omega
    walk_at "v"
    refine ⟨by omega, by omega, n, seq_ix hn, .str ⟨#[left[n]]⟩, by rw [List.getElem?_map, List.getElem?_eq_getElem hn]; rfl, ?_⟩
    walk_at "n"
    have e1 : ((⟨#[left[n]]⟩ : Str).length) = 1 := rfl
    have hc1 := str_len (cutS st none (some (a : Int)))
    have hc2 := str_len (cutS st (some (a : Int)) none)
    rw [cutS_pre, hsl, List.length_take] at hc1
    rw [cutS_end, hsl, List.length_drop] at hc2
    have en : (cutS st none (some (a : Int)) ++ (⟨#[left[n]]⟩ : Str)) ++ cutS st (some (a : Int)) none = ⟨(cs.take a ++ [left[n]] ++ cs.drop a).toArray⟩ := by
      apply str_ext
      rw [str_app, str_app, cutS_pre, cutS_end, hsl]
    rw [en]
    have fin : (∀ w, w = nmOf cs a i left[n] → K [some (.v .box), some (.v (.int many)), some (.own ((left.map fun c => U.str ⟨#[c]⟩).eraseIdx n)), some (.v (.str st)), some (.v (.int a)), some (.own (((ls.zipIdx.map fun p => nmOf cs a p.2 p.1).map U.str) ++ [.str w])), some (.v (.int i)), some (.v (.str ⟨#[left[n]]⟩))] s) := by
      rintro w rfl
      refine hK _ _ ⟨rfl, some (.v (.int i)), some (.v (.str ⟨#[left[n]]⟩)), ls ++ [left[n]], left.eraseIdx n, ?_, by simp [hll], ?_⟩
      · rw [List.append_assoc]
        exact (List.Perm.append_left ls (erase_perm left n hn)).trans hpm
      · rw [erase_map, List.zipIdx_append]
        simp [hll]
    refine ⟨by omega, by rw [e1]; omega, by omega, ?_, by decide, .str (nmOf cs a i left[n]), ?_, by rw [List.length_zipIdx]; omega, fin _ rfl⟩
    · rw [str_len, str_app, List.length_append, ← str_len, ← str_len, e1]; omega
    · unfold nmOf
      rcases Nat.mod_two_eq_zero_or_one i with h2 | h2
      · rw [if_pos h2, show ((i : Int) % 2) = ((0 : Nat) : Int) by omega, at_nat]; rfl
      · rw [if_neg (by omega), show ((i : Int) % 2) = ((1 : Nat) : Int) by omega, at_nat]; rfl
  · rintro ev s ⟨rfl, x6, x7, ls, left, hpm, hll, rfl⟩
    simp only [List.length_map, List.length_range] at hll
    walk_at "n"
    have hnd : (ls ++ left).Nodup := hpm.nodup_iff.mpr abc_nodup
    have hln := (List.nodup_append.mp hnd).1
    refine q _ (by simp [hll]) ?_ ?_
    · unfold List.Nodup at hln ⊢
      rw [List.pairwise_iff_getElem] at hln ⊢
      intro x y hx hy hxy
      simp only [List.length_map, List.length_zipIdx] at hx hy
      simp only [List.getElem_map, List.getElem_zipIdx]
      exact nmOf_ne (hln x y hx hy hxy)
    · intro z hz
      obtain ⟨⟨l, j⟩, hlj, rfl⟩ := List.mem_map.mp hz
      have hl := abc_lt l (hpm.subset (List.mem_append_left _ (List.fst_mem_of_mem_zipIdx hlj)))
      have hcs : ∀ c ∈ cs, c < 128 := fun c hc => abc_lt c (hcm c hc)
      unfold Nm nmOf
      dsimp only
      split
      · simp only [str_len]
        refine ⟨by simp; omega, by simp; omega, fun c hc => ?_⟩
        simp only [List.mem_append, List.mem_singleton] at hc
        rcases hc with (hc | rfl) | hc
        · exact hcs c (List.mem_of_mem_take hc)
        · exact hl
        · exact hcs c (List.mem_of_mem_drop hc)
      · simp only [str_len]
        refine ⟨by simp, by simp, fun c hc => ?_⟩
        simp at hc
        rw [hc]; exact hl
/-- an entry of a named belt -/
def oS : Option Str → U
  | none => .non
  | some s => .str s
theorem strs_oS (ss : List Str) : ss.map U.str = (ss.map some).map oS := by rw [List.map_map]; rfl
theorem oS_inj {a b : Option Str} (h : oS a = oS b) : a = b := by
  cases a <;> cases b <;> first | rfl | (cases h; rfl) | cases h
theorem oSs_inj {a b : List (Option Str)} (h : a.map oS = b.map oS) : a = b := List.map_inj_right (fun x y e => oS_inj e) |>.mp h
theorem flat_oS (bs : List (Option Str)) : (bs.map oS).all flatU = true := by
  rw [List.all_map, List.all_eq_true]
  intro x _
  cases x <;> rfl
theorem plain_oS (bs : List (Option Str)) : plainUs (bs.map oS) = true := plainUs_of fun u hu => by
  obtain ⟨x, _, rfl⟩ := List.mem_map.mp hu
  cases x <;> rfl
def Bt (bs : List (Option Str)) : Prop := ∀ s, some s ∈ bs → Nm s
theorem ly_oS {bs : List (Option Str)} (h : Bt bs) : ∃ p, Ly 2 (.vl (bs.map oS)) p := Ly.vl fun u hu => by
  obtain ⟨x, hx, rfl⟩ := List.mem_map.mp hu
  cases x with
  | none => exact ⟨_, Ly.non⟩
  | some s => exact ⟨_, Ly.str (h s hx).ok⟩
/-- == of named belts -/
theorem ue_oS {a b : List (Option Str)} {B : Bool → Prop} (ha : Bt a) (hb : Bt b) (ht : a = b → B true) (hf : a ≠ b → B false) : uEq (.vl (a.map oS)) (.vl (b.map oS)) B :=
  ue_ly (ly_oS ha) (ly_oS hb) (by decide) (by decide) (plain_oS a) (plain_oS b) (fun e => ht (oSs_inj (U.vl.inj e))) (fun e => hf fun z => e (by rw [z]))
theorem bt_some {ss : List Str} (h : ∀ s ∈ ss, Nm s) : Bt (ss.map some) := fun s hs => by
  obtain ⟨x, hx, e⟩ := List.mem_map.mp hs
  cases e; exact h s hx
theorem eqU_oS (x : Option Str) (s : Str) : eqU (oS x) (.str s) = decide (x = some s) := by
  cases x with
  | none => rfl
  | some z => show (z == s) = _; by_cases h : z = s <;> simp [h]
theorem any_oS (bs : List (Option Str)) (s : Str) : ((bs.map oS).any fun y => eqU y (.str s)) = decide (some s ∈ bs) := by
  induction bs with
  | nil => rfl
  | cons x r ih => rw [List.map_cons, List.any_cons, ih, eqU_oS]; by_cases h : x = some s <;> simp [h, eq_comm]
/-- the first place of a name -/
theorem index_oS {bs : List (Option Str)} {s : Str} (h : some s ∈ bs) : bs.idxOf (some s) < bs.length ∧ (bs.map oS)[bs.idxOf (some s)]? = some (.str s) ∧ ∀ (m : Nat) z, m < bs.idxOf (some s) → (bs.map oS)[m]? = some z → eqU z (.str s) = false := by
  have hlt := List.idxOf_lt_length_iff.mpr h
  refine ⟨hlt, ?_, fun m z hm hz => ?_⟩
  · rw [List.getElem?_map, List.getElem?_eq_getElem hlt, List.getElem_idxOf]; rfl
  · rw [List.getElem?_map, List.getElem?_eq_getElem (by omega)] at hz
    cases hz
    rw [eqU_oS]
    have := List.not_of_lt_findIdx (p := fun x => x == some s) (xs := bs) (i := m) hm
    simpa using this
theorem flat_strU (ns : List Str) : (ns.map U.str).all flatU = true := by
  rw [List.all_map, List.all_eq_true]; intro x _; rfl
theorem any_strU (ns : List Str) (x : Option Str) : ((ns.map U.str).any fun y => eqU y (oS x)) = (match x with | some s => decide (s ∈ ns) | none => false) := by
  induction ns with
  | nil => cases x <;> rfl
  | cons n r ih =>
    rw [List.map_cons, List.any_cons, ih]
    cases x with
    | none => rfl
    | some s =>
      show ((n == s) || decide (s ∈ r)) = decide (s ∈ n :: r)
      by_cases h : n = s
      · subst h; simp
      · have h' : ¬ s = n := fun z => h z.symm
        simp [h, h']
theorem index_strU {ns : List Str} {s : Str} (h : s ∈ ns) : ns.idxOf s < ns.length ∧ (ns.map U.str)[ns.idxOf s]? = some (.str s) ∧ ∀ (m : Nat) z, m < ns.idxOf s → (ns.map U.str)[m]? = some z → eqU z (.str s) = false := by
  have hlt := List.idxOf_lt_length_iff.mpr h
  refine ⟨hlt, ?_, fun m z hm hz => ?_⟩
  · rw [List.getElem?_map, List.getElem?_eq_getElem hlt, List.getElem_idxOf]; rfl
  · rw [List.getElem?_map, List.getElem?_eq_getElem (by omega)] at hz
    cases hz
    have := List.not_of_lt_findIdx (p := fun x => x == s) (xs := ns) (i := m) hm
    show (ns[m] == s) = false
    simpa using this
theorem eqU_ss (s : Str) : eqU (.str s) (.str s) = true := by show (s == s) = true; simp
def fn__law_belt6 : Fn := ⟨["", "", "", ""], ["", "", "", "", "", "", "", ""],
  (.cons (.asg (.nm 4) (.bi .list (.cons (.var 1) .nil)))
  (.cons (.asg (.nm 5) (.lst .nil))
  (.cons (.loop (.cmp .ne (.var 4) (.lst .nil))
    (.cons (.expr (.mt .append (.var 5) (.cons (.mt .popAt (.var 4) (.cons (.call "_law_take" (.cons (.var 0) (.cons (.bi .len (.cons (.var 4) .nil)) .nil))) .nil)) .nil)))
      .nil))
  (.cons (.each (.nm 6) (.rng1 (.call "_law_take" (.cons (.var 0) (.cons (.bin .add (.bin .sub (.var 3) (.bi .len (.cons (.var 5) .nil))) (.int 1)) .nil))))
    (.cons (.asg (.nm 7) (.idx (.bin .add (.bin .add (.var 1) (.var 2)) (.lst (.cons (.non) (.cons (.non) .nil)))) (.call "_law_take" (.cons (.var 0) (.cons (.bin .add (.bin .add (.bi .len (.cons (.var 1) .nil)) (.bi .len (.cons (.var 2) .nil))) (.int 2)) .nil)))))
      (.cons (.expr (.mt .insert (.var 5) (.cons (.call "_law_take" (.cons (.var 0) (.cons (.bin .add (.bi .len (.cons (.var 5) .nil)) (.int 1)) .nil))) (.cons (.var 7) .nil))))
      .nil)))
  (.cons (.ret (.var 5))
  .nil)))))⟩
theorem belt6_v (hT : T.T.fn "_law_belt" = some fn__law_belt6) (hp : T.pr.lookup ("_law_belt" : Str) = none) (hK : T.T.fn "_law_take" = some fn__law_take) (hpK : T.pr.lookup ("_law_take" : Str) = some pTake) {ss os : List Str} {L : Nat} (hn : ∀ s ∈ ss, Nm s) (hl : ss.length ≤ L) (hL : L ≤ 100) (ho : os.length ≤ 100)
    (q : ∀ bs : List (Option Str), bs.length ≤ L → (∀ s ∈ ss, some s ∈ bs) → (∀ s, some s ∈ bs → s ∈ ss ∨ s ∈ os) → Q (.own (bs.map oS)) σ) : UF T (k + 4) "_law_belt" [.box, .vl (ss.map U.str), .vl (os.map U.str), .int L] σ Q X := by
  refine uf_in hp hT rfl ?_
  have iT : (cuOf T (UF T (k + 3))).isf "_law_take" = true := cu_isf hK
  unfold fn__law_belt6
  walk_at "s"
  walk_at "n"
  walk_at "n"
  refine loop_v (fun m ev s => s = σ ∧ ∃ acc rem : List Str, (acc ++ rem).Perm ss ∧ m = rem.length ∧ ev = [some (.v .box), some (.v (.vl (ss.map U.str))), some (.v (.vl (os.map U.str))), some (.v (.int L)), some (.own (rem.map U.str)), some (.own (acc.map U.str)), none, none]) ss.length (by omega) ⟨rfl, [], ss, List.Perm.refl _, rfl, rfl⟩ ?_
  rintro m ev s ⟨rfl, acc, rem, hpm, rfl, rfl⟩
  have hlen := hpm.length_eq
  rw [List.length_append] at hlen
  walk_at "v"
  rcases Nat.eq_zero_or_pos rem.length with h0 | h0
  · obtain rfl := List.length_eq_zero_iff.mp h0
    refine ue_oS (a := []) (b := []) (fun _ z => by cases z) (fun _ z => by cases z) (fun _ => ?_) (fun z => absurd rfl z)
    walk_at "n"
    rw [List.append_nil] at hpm
    have hal : acc.length = ss.length := hpm.length_eq
    refine ⟨iT, take_v hpK (by omega) (by omega) fun r l u => ?_⟩
    walk_at "v"
    refine ⟨by omega, by omega, ?_⟩
    refine each_v (fun i ev s' => s' = s ∧ ∃ (x6 x7 : Option W) (bs : List (Option Str)), bs.length = ss.length + i ∧ (∀ s ∈ ss, some s ∈ bs) ∧ (∀ s, some s ∈ bs → s ∈ ss ∨ s ∈ os) ∧ ev = [some (.v .box), some (.v (.vl (ss.map U.str))), some (.v (.vl (os.map U.str))), some (.v (.int L)), some (.own []), some (.own (bs.map oS)), x6, x7]) ⟨rfl, none, none, acc.map some, ?_, ?_, ?_, ?_⟩ (fun _ _ _ _ => by rw [uk_nil]; trivial) ?_ ?_
    · simp [hal]
    · intro z hz
      exact List.mem_map.mpr ⟨z, hpm.symm.subset hz, rfl⟩
    · intro z hz
      obtain ⟨y, hy, e⟩ := List.mem_map.mp hz
      cases e
      exact .inl (hpm.subset hy)
    · rw [strs_oS acc]
    · rintro i v ev s' K hi ⟨rfl, x6, x7, bs, hbl, hb1, hb2, rfl⟩ hK'
      have hi2 := (List.getElem?_eq_some_iff.mp hi).1
      simp only [List.length_map, List.length_range] at hi2
      walk_at "n"
      refine ⟨by omega, by omega, iT, take_v hpK (by omega) (by omega) fun r2 l2 u2 => ?_⟩
      obtain ⟨n, rfl⟩ := Int.eq_ofNat_of_zero_le l2
      have e3 : ss.map U.str ++ os.map U.str ++ [U.non, .non] = (ss.map some ++ os.map some ++ [none, none]).map oS := by
        rw [List.map_append, List.map_append, ← strs_oS, ← strs_oS]; rfl
      rw [e3]
      have hnl : n < (ss.map some ++ os.map some ++ [none, none]).length := by simp; omega
      have hmem := List.getElem_mem hnl
      generalize hx : (ss.map some ++ os.map some ++ [none, none])[n] = x at hmem
      walk_at "v"
      refine ⟨oS x, by rw [List.getElem?_map, List.getElem?_eq_getElem hnl, hx]; rfl, ?_⟩
      walk_at "s"
      refine ⟨iT, take_v hpK (by omega) (by omega) fun r3 l3 u3 => ?_⟩
      walk_at "v"
      refine ⟨l3, by omega, by omega, ?_⟩
      refine hK' _ _ ⟨rfl, some (.v v), some (.v (oS x)), bs.take r3.toNat ++ x :: bs.drop r3.toNat, ?_, ?_, ?_, ?_⟩
      · simp; omega
      · intro z hz
        have := hb1 z hz
        rw [← List.take_append_drop r3.toNat bs] at this
        rcases List.mem_append.mp this with h | h
        · exact List.mem_append_left _ h
        · exact List.mem_append_right _ (List.mem_cons_of_mem _ h)
      · intro z hz
        rcases List.mem_append.mp hz with h | h
        · exact hb2 z (List.mem_of_mem_take h)
        · rcases List.mem_cons.mp h with h | h
          · rw [← h] at hmem
            simp only [List.mem_append, List.mem_map, Option.some.injEq, exists_eq_right, List.mem_cons, reduceCtorEq, List.not_mem_nil, or_false] at hmem
            exact hmem
          · exact hb2 z (List.mem_of_mem_drop h)
      · rw [List.map_append, List.map_cons, List.map_take, List.map_drop]
    · rintro ev s' ⟨rfl, x6, x7, bs, hbl, hb1, hb2, rfl⟩
      simp only [List.length_map, List.length_range] at hbl
      walk_at "n"
      exact q bs (by omega) hb1 hb2
  · have hbt : Bt (rem.map some) := bt_some fun z hz => hn z (hpm.subset (List.mem_append_right _ hz))
    rw [strs_oS rem]
    refine ue_oS (b := []) hbt (fun _ z => by cases z) (fun e => by simp at e; rw [e] at h0; simp at h0) (fun _ => ?_)
    rw [← strs_oS rem]
    walk_at "s"
    refine ⟨iT, take_v hpK (by omega) (by omega) fun r l u => ?_⟩
    obtain ⟨n, rfl⟩ := Int.eq_ofNat_of_zero_le l
    have hnl : n < rem.length := by omega
    walk_at "v"
    refine ⟨by omega, by omega, n, seq_ix hnl, .str rem[n], by rw [List.getElem?_map, List.getElem?_eq_getElem hnl]; rfl, by omega, ?_⟩
    refine ⟨rem.length - 1, by omega, acc ++ [rem[n]], rem.eraseIdx n, ?_, by rw [List.length_eraseIdx_of_lt hnl], by rw [erase_map], by simp⟩
    rw [List.append_assoc]
    exact (List.Perm.append_left acc (erase_perm rem n hnl)).trans hpm
/-- the places of an order of which so many are moved -/
def plc (bs : List (Option Str)) (os : List Str) (many : Nat) : List Int := (os.take many).map (fun o => ((bs.idxOf (some o) : Nat) : Int)) ++ up (os.length - many)
def hitp (bs : List (Option Str)) (os : List Str) (L : Int) (many : Nat) : Bool := decide (bs.take (os.length - many) = (os.drop many).map some) && !bad (plc bs os many) L
def pf (bs : List (Option Str)) (os : List Str) (L : Int) : Option Nat := (List.range (os.length + 1)).find? (hitp bs os L)
theorem pf_some {bs : List (Option Str)} {os : List Str} {L : Int} {i : Nat} (h : ∀ j, j < i → hitp bs os L j = false) (hi : i ≤ os.length) (ht : hitp bs os L i = true) : pf bs os L = some i := by
  unfold pf
  rw [List.find?_range_eq_some]
  exact ⟨ht, List.mem_range.mpr (by omega), fun j hj => by rw [h j hj]; rfl⟩
theorem pf_none {bs : List (Option Str)} {os : List Str} {L : Int} (h : ∀ j, j < os.length + 1 → hitp bs os L j = false) : pf bs os L = none := by
  unfold pf
  rw [List.find?_eq_none]
  intro j hj
  rw [h j (List.mem_range.mp hj)]; decide
theorem plc_len {bs : List (Option Str)} {os : List Str} {m : Nat} (h : m ≤ os.length) : (plc bs os m).length = os.length := by
  unfold plc; simp [up_len]; omega
def fn_places_for : Fn := ⟨["", "", ""], ["", "", "", "", "", "", ""],
  (.cons (.each (.nm 3) (.rng1 (.bin .add (.bi .len (.cons (.var 1) .nil)) (.int 1)))
    (.cons (.asg (.nm 4) (.bin .sub (.bi .len (.cons (.var 1) .nil)) (.var 3)))
      (.cons (.ite (.cmp .eq (.bi .list (.cons (.sli (.var 0) .none (.some (.var 4))) .nil)) (.sli (.var 1) (.some (.var 3)) .none))
        (.cons (.asg (.nm 5) (.bin .add (.comp (.mt .index (.var 0) (.cons (.var 6) .nil)) (.nm 6) (.seq (.sli (.var 1) .none (.some (.var 3)))) .none [("", 6)]) (.rng false (.int 0) (.var 4))))
          (.cons (.ite (.cmp .isnot (.call "copies" (.cons (.var 5) (.cons (.var 2) .nil))) (.non))
            (.cons (.ret (.var 5))
              .nil)
            .nil)
          .nil))
        .nil)
      .nil)))
  (.cons (.ret (.non))
  .nil))⟩
def pfW (bs : List (Option Str)) (os : List Str) (L : Int) : W := match pf bs os L with
  | none => .v .non
  | some m => .v (.vl ((plc bs os m).map U.int))
theorem places_for_v (hT : T.T.fn "places_for" = some fn_places_for) (hp : T.pr.lookup ("places_for" : Str) = none) (hC : T.T.fn "copies" = some fn_copies) (hpC : T.pr.lookup ("copies" : Str) = none) (hM : T.T.fn "moved" = some fn_moved) (hpM : T.pr.lookup ("moved" : Str) = none)
    {bs : List (Option Str)} {os : List Str} {L : Int} (hb : Bt bs) (hin : ∀ o ∈ os, some o ∈ bs) (hl : os.length ≤ 500) (hbl : bs.length ≤ 500) (q : Q (pfW bs os L) σ) : UF T (k + 3) "places_for" [.vl (bs.map oS), .vl (os.map U.str), .int L] σ Q X := by
  refine uf_in hp hT rfl ?_
  have iC : (cuOf T (UF T (k + 2))).isf "copies" = true := cu_isf hC
  have hbo : Bt (os.map some) := fun s hs => by
    obtain ⟨x, hx, e⟩ := List.mem_map.mp hs
    cases e; exact hb _ (hin _ hx)
  rw [strs_oS os]
  unfold fn_places_for
  walk_at "s"
  refine ⟨by omega, by omega, ?_⟩
  refine each_v (fun i ev s => s = σ ∧ (∀ j, j < i → hitp bs os L j = false) ∧ ∃ x3 x4 x5, ev = [some (.v (.vl (bs.map oS))), some (.v (.vl ((os.map some).map oS))), some (.v (.int L)), x3, x4, x5, none]) ⟨rfl, fun j hj => absurd hj (by omega), none, none, none, rfl⟩ (fun _ _ _ _ => by rw [uk_nil]; trivial) ?_ ?_
  · rintro i u ev s K hi ⟨rfl, hno, x3, x4, x5, rfl⟩ hK
    have hi2 := (List.getElem?_eq_some_iff.mp hi).1
    simp only [List.length_map, List.length_range] at hi2
    have hi3 : i ≤ os.length := by omega
    obtain rfl : u = .int (i : Nat) := by
      rw [List.getElem?_map, List.getElem?_range (by omega)] at hi
      cases hi; rfl
    walk_at "n"
    walk_at "n"
    rw [show ((os.length : Int) - (i : Int)) = ((os.length - i : Nat) : Int) by omega, cutU_pre, cutU_end, ← List.map_take, ← List.map_drop, ← List.map_drop]
    refine ue_oS (fun s hs => hb s (List.mem_of_mem_take hs)) (fun s hs => hbo s (List.mem_of_mem_drop (by rw [← List.map_drop]; exact hs))) (fun e => ?_) (fun e => ?_)
    · walk_at "n"
      rw [cutU_pre, ← List.map_take, ← List.map_take]
      refine comp_map (fun u => match u with | .str s => .int ((bs.idxOf (some s) : Nat) : Int) | _ => .non) trivial (by simp; omega) (fun u K hu hK => ?_) ?_
      · obtain ⟨x, hx, rfl⟩ := List.mem_map.mp hu
        obtain ⟨o, ho, rfl⟩ := List.mem_map.mp hx
        obtain ⟨j1, j2, j3⟩ := index_oS (hin o (List.mem_of_mem_take ho))
        show vpG _ _ _ (.v (.str o)) _ _ _
        walk_at "v"
        exact ⟨flat_oS bs, _, _, j2, by simp [eqU], j3, hK⟩
      have e1 : (((os.take i).map some).map oS).map (fun u => match u with | .str s => U.int ((bs.idxOf (some s) : Nat) : Int) | _ => .non) = ((os.take i).map fun o => ((bs.idxOf (some o) : Nat) : Int)).map U.int := by
        rw [List.map_map, List.map_map, List.map_map]; rfl
      rw [e1]
      walk_at "v"
      rw [show (((os.length - i : Nat) : Int) - 0).toNat = os.length - i by omega, rng_up, ← List.map_append]
      refine ⟨by decide, by decide, by omega, by omega, by simp; omega, ?_⟩
      have e2 : (os.take i).map (fun o => ((bs.idxOf (some o) : Nat) : Int)) ++ up (os.length - i) = plc bs os i := rfl
      rw [e2]
      walk_at "s"
      refine ⟨iC, copies_v hC hpC hM hpM rfl (by rw [plc_len hi3]; omega) ?_⟩
      cases hbad : bad (plc bs os i) L with
      | true =>
        simp only [if_true]
        walk_at "v"
        refine hK _ _ ⟨rfl, fun j hj => ?_, _, _, _, rfl⟩
        rcases Nat.lt_succ_iff_lt_or_eq.mp hj with h | rfl
        · exact hno j h
        · unfold hitp; rw [hbad]; simp
      | false =>
        simp only [Bool.false_eq_true, if_false]
        walk_at "s"
        have ht : hitp bs os L i = true := by unfold hitp; rw [decide_eq_true e, hbad]; rfl
        have := pf_some hno hi3 ht
        unfold pfW at q
        rw [this] at q
        exact q
    · have hf : hitp bs os L i = false := by unfold hitp; rw [decide_eq_false e]; rfl
      walk_at "v"
      refine hK _ _ ⟨rfl, fun j hj => ?_, _, _, _, rfl⟩
      rcases Nat.lt_succ_iff_lt_or_eq.mp hj with h | rfl
      · exact hno j h
      · exact hf
  · rintro ev s ⟨rfl, hno, x3, x4, x5, rfl⟩
    simp only [List.length_map, List.length_range] at hno
    walk_at "n"
    have := pf_none (bs := bs) (os := os) (L := L) fun j hj => hno j (by omega)
    unfold pfW at q
    rw [this] at q
    exact q
def mt_Belt_bring : Fn := ⟨["", ""], ["", "", "", ""],
  (.cons (.setc 2 (.meth (.var 0) "read" (.cons (.var 3) .nil)) (.nm 3) (.seq (.var 1)) .none [("", 3)])
  (.cons (.setf (.var 0) "came" (.bi .len (.cons (.var 2) .nil)))
  (.cons (.setf (.var 0) "worths" (.sli (.var 2) .none (.some (.fld (.var 0) "long"))))
  .nil)))⟩
theorem bring_v (b : BeltT T) (hb : T.T.df "Belt.bring" = some mt_Belt_bring ∧ T.pr.lookup ("Belt.bring" : Str) = none) {n : Nat} {long came : Int} {ws : List U} {ps : List Int} {f : Int → U} (h : σ[n]? = some (beltO long ws came)) (hl : ps.length ≤ 1000)
    (hps : ∀ p ∈ ps, 0 ≤ p ∧ p < came ∧ p < long ∧ ws[p.toNat]? = some (f p)) (q : Q (.v .non) (σ.set n (beltO long (cutU (ps.map f) none (some long)) ps.length))) : UF T (k + 2) "Belt.bring" [.ref n, .vl (ps.map U.int)] σ Q X := by
  refine uf_mt hb.2 hb.1 rfl ?_
  have hn := (List.getElem?_eq_some_iff.mp h).1
  unfold mt_Belt_bring
  walk_at "s"
  refine comp_map (fun u => match u with | .int p => f p | _ => .non) trivial (by simp; omega) (fun u K hu hK => ?_) ?_
  · obtain ⟨p, hp, rfl⟩ := List.mem_map.mp hu
    obtain ⟨a1, a2, a3, a4⟩ := hps p hp
    obtain ⟨m, rfl⟩ := Int.eq_ofNat_of_zero_le a1
    walk_at "v"
    refine ⟨_, _, h, _, b.mt _ _ rfl, rfl, read_v b h a2 a3 a4 ?_⟩
    exact hK
  have e1 : (ps.map U.int).map (fun u => match u with | .int p => f p | _ => .non) = ps.map f := by rw [List.map_map]; rfl
  rw [e1]
  walk_at "n"
  refine ⟨_, _, h, b.fl.2.2, by simp, ?_⟩
  walk_at "s"
  refine ⟨_, _, List.getElem?_set_self hn, b.fl.1, _, rfl, ?_⟩
  refine ⟨_, rfl, _, _, List.getElem?_set_self hn, b.fl.2.1, (by show (3 : Nat) < 1000; omega), ?_⟩
  rw [List.set_set]
  exact q
/-! ### drops that bring worths to the head -/
theorem not_bad {ps : List Int} {L : Nat} (h0 : ∀ p ∈ ps, 0 ≤ p) (h : bad ps L = false) : ps.length ≤ L ∧ (∀ (i : Nat) (hi : i < ((ps.take (mv ps)).reverse).length), ((ps.take (mv ps)).reverse)[i] + i < L) ∧ ∀ p ∈ ps, p < L := by
  unfold bad at h
  simp only [Bool.or_eq_false_iff, decide_eq_false_iff_not, List.any_eq_false] at h
  have h1 : ps.length ≤ L := by omega
  have h2 : ∀ (i : Nat) (hi : i < ((ps.take (mv ps)).reverse).length), ((ps.take (mv ps)).reverse)[i] + i < L := by
    intro i hi
    have := h.2 (((ps.take (mv ps)).reverse)[i] + i) (by
      rw [← cp_rev]
      refine List.mem_map.mpr ⟨(((ps.take (mv ps)).reverse)[i], i), ?_, rfl⟩
      rw [List.mem_zipIdx_iff_getElem?]
      exact List.getElem?_eq_getElem hi)
    simpa using this
  refine ⟨h1, h2, fun p hp => ?_⟩
  rw [← List.take_append_drop (mv ps) ps] at hp
  rcases List.mem_append.mp hp with hp | hp
  · obtain ⟨i, hi, rfl⟩ := List.getElem_of_mem (List.mem_reverse.mpr hp)
    have := h2 i hi
    omega
  · rw [mv_hit] at hp
    have := mem_up hp
    omega
def bw (ws ps : List Int) : List Int := ps.map fun p => ws.getD p.toNat 0
theorem bw_up (ws : List Int) (n : Nat) (h : n ≤ ws.length) : bw ws (up n) = ws.take n := by
  unfold bw up
  apply List.ext_getElem
  · simp; omega
  · intro i h1 h2
    simp at h1 h2 ⊢
    rw [List.getElem?_eq_getElem (by omega)]
    rfl
theorem bw_head {ws ps : List Int} {L : Nat} (h1 : ps.length ≤ L) (h2 : ∀ p ∈ ps, 0 ≤ p ∧ p < ws.length) : ((bw ws (ps.take (mv ps)) ++ ws).take L).take ps.length = bw ws ps := by
  have hm := mv_le ps
  have h3 : ps.length - mv ps ≤ ws.length := by
    by_cases h0 : ps.length - mv ps = 0
    · omega
    · have : ((ps.length - mv ps - 1 : Nat) : Int) ∈ ps := by
        have h4 : ((ps.length - mv ps - 1 : Nat) : Int) ∈ ps.drop (mv ps) := by
          rw [mv_hit]
          exact List.mem_map.mpr ⟨ps.length - mv ps - 1, List.mem_range.mpr (by omega), rfl⟩
        exact List.mem_of_mem_drop h4
      have := h2 _ this
      omega
  rw [List.take_take, Nat.min_eq_left h1, List.take_append, show (bw ws (ps.take (mv ps))).length = mv ps by simp [bw]; omega, List.take_of_length_le (by simp [bw]; omega)]
  rw [← bw_up ws (ps.length - mv ps) h3, ← mv_hit]
  unfold bw
  rw [← List.map_append, List.take_append_drop]
end
end Bp

namespace BpLaw
open PySem L2 Bp
local macro_rules | `(tactic| walk_at "v") => `(tactic| (try simp only [v_var, v_non, v_bl, v_int, v_str, v_glob, v_bin, v_neg, v_not, v_bop, v_cmp, v_cmp2, v_ite, v_tup, v_lst, v_dct, v_tab, v_tabG, v_tabIn, v_idx, v_sli, v_rev, v_call, v_bi, v_rng, v_mt, v_isi, v_comp, ofs_inj, String.reduceEq, v_nest, w_augs, uf_dict, uf_listS, uf_listK, uf_sortK, un_items, un_vals, un_lrev, un_dne, wd_o, wd_v, wd_r, ku_s, ku_i, ui_D, ui_Di, ui_di, tu_d, tu_D, um_get2, um_get1, um_dpop2, um_setdef, um_update, ut_get2, ut_get1, ut_dpop2, ut_setdef, ut_update, md_at, pk_at, md_w, pk_w, ml_w, pl_w, v_fld, v_meth, v_make, v_prom, w_setf, w_augf, w_retn, w_rais0, w_raisR, w_tryA, w_tryM, v_isx, v_xfld, w_asg, w_setc, w_par, w_par3, w_aug, w_expr, w_ret, w_ite, w_loop, w_each, w_brk, w_cont, w_pass, w_nil, eg_zero, eg_none, eg_succ, od_at, od_w, ga_nil, ga_cons, fz_v, fz_o, fz_d, kp_v, kp_o, kp_n, ub_add, ub_adds, ub_addt, ub_oo, ub_ov, ub_vo, ub_vv, ub_sub, ub_mul, ub_mulo, ub_mulv, ub_fdiv, ub_mod, ub_pow, ub_xor, ua_add, ua_adds, ua_sub, fl_i, fl_s, fl_b, fl_n, ue_ii, ue_ss, ue_bb, ue_nn, ue_ni, ue_in, ue_ns, ue_sn, ue_nb, ue_bn, ue_is, ue_si, wu_o, wu_i, wu_s, wu_b, wu_n, wu_t, wu_l, uc_eq, uc_ne, uc_lt, uc_le, uc_gt, uc_ge, uc_is0, uc_is1, uc_is2, uc_is3, uc_is4, uc_is5, uc_is6, uc_isn0, uc_isn1, uc_isn2, uc_isn3, uc_isn4, uc_isn5, uc_isn6, uc_in, uc_ino, uc_notino, uf_max1, uc_notin, tw_n, tw_b, tw_i, tw_s, tw_t, tw_l, tw_o, ui_o, ui_l, ui_t, ui_s, ui_d, us_s, us_t, us_c, us_o, us_l, wl_o, wl_l, wl_r, we_o, we_l, we_t, we_c, we_r, uf_lens, uf_leno, uf_lenl, uf_lent, uf_lend, uf_lenD, uf_list, uf_tuple, uf_divmod, uf_abs, uf_inti, uf_intb, uf_booli, uf_boolb, uf_max2, uf_min2, uf_all, uf_any, uf_sum, uf_str, uf_strt, uf_strl, uf_stro, um_append, um_extend, wx_t, wx_l, wx_r, um_pop, um_popAt, um_reverse, um_insert, um_index, um_join, ut_append, ut_extend, ut_pop, ut_popAt, ut_reverse, ut_insert, ut_remove, ut_index, ut_join, ml_at, pl_at, tu_i, tu_b, tu_s, tu_n, tu_t, tu_l, tu_o, ur_t, ur_l, ur_s, url_l, url_c, urz_ll, urz_tt, urz_tl, urz_lt, ure_l, ure_t, ure_c, urr_l, urr_t, uk_nil, cf_fs, opd, isVar, keepI, Prod.mk.injEq, exists_eq', exists_eq, false_and, or_false, exists_false, and_false, vpLs, vpDs, vpB, vpO, vpC, vpI, vpG, vpGs, tgsLen, tgSl, tgsSl, subN, memN, hide, unhide, at_nat, at_lit, ix_lit, List.length_map, List.getElem?_cons_zero, List.getElem?_cons_succ, List.set_cons_zero, List.set_cons_succ, List.map_cons, List.map_nil, List.cons_append, List.nil_append, List.length_cons, List.length_nil, List.replicate_succ, List.replicate_zero, Option.some.injEq, Nat.reduceAdd, Nat.reduceLT, Nat.reduceSub, Nat.zero_add, Nat.reduceLeDiff, Nat.reduceBEq, Nat.reduceEqDiff, Int.reduceToNat, Nat.sub_zero, List.length_append, List.length_set, Nat.reduceMul, Int.reduceNeg, exists_eq_left', exists_eq_left, exists_eq_right, U.int.injEq, U.tup.injEq, U.vl.injEq, U.ref.injEq, U.str.injEq, U.bl.injEq, W.v.injEq, W.own.injEq, List.cons.injEq, and_assoc, true_and, and_true, decide_eq_true_eq, decide_true, decide_false, List.any_cons, List.any_nil, isT, Bool.or_false, Bool.true_or, Bool.or_true, Bool.false_or, Bool.true_and, Bool.and_true, Bool.and_false, Bool.false_and, Bool.not_true, Bool.not_false, if_true, if_false, reduceIte, Bool.false_eq_true, and_imp, exists_and_left, exists_const, reduceCtorEq, ne_eq, not_false_eq_true, beq_self_eq_true, Nat.succ_ne_zero]))
local macro_rules | `(tactic| walk_at "w") => `(tactic| (try simp only [*, v_var, v_non, v_bl, v_int, v_str, v_glob, v_bin, v_neg, v_not, v_bop, v_cmp, v_cmp2, v_ite, v_tup, v_lst, v_dct, v_tab, v_tabG, v_tabIn, v_idx, v_sli, v_rev, v_call, v_bi, v_rng, v_mt, v_isi, v_comp, ofs_inj, String.reduceEq, v_nest, w_augs, uf_dict, uf_listS, uf_listK, uf_sortK, un_items, un_vals, un_lrev, un_dne, wd_o, wd_v, wd_r, ku_s, ku_i, ui_D, ui_Di, ui_di, tu_d, tu_D, um_get2, um_get1, um_dpop2, um_setdef, um_update, ut_get2, ut_get1, ut_dpop2, ut_setdef, ut_update, md_at, pk_at, md_w, pk_w, ml_w, pl_w, v_fld, v_meth, v_make, v_prom, w_setf, w_augf, w_retn, w_rais0, w_raisR, w_tryA, w_tryM, v_isx, v_xfld, w_asg, w_setc, w_par, w_par3, w_aug, w_expr, w_ret, w_ite, w_loop, w_each, w_brk, w_cont, w_pass, w_nil, eg_zero, eg_none, eg_succ, od_at, od_w, ga_nil, ga_cons, fz_v, fz_o, fz_d, kp_v, kp_o, kp_n, ub_add, ub_adds, ub_addt, ub_oo, ub_ov, ub_vo, ub_vv, ub_sub, ub_mul, ub_mulo, ub_mulv, ub_fdiv, ub_mod, ub_pow, ub_xor, ua_add, ua_adds, ua_sub, fl_i, fl_s, fl_b, fl_n, ue_ii, ue_ss, ue_bb, ue_nn, ue_ni, ue_in, ue_ns, ue_sn, ue_nb, ue_bn, ue_is, ue_si, wu_o, wu_i, wu_s, wu_b, wu_n, wu_t, wu_l, uc_eq, uc_ne, uc_lt, uc_le, uc_gt, uc_ge, uc_is0, uc_is1, uc_is2, uc_is3, uc_is4, uc_is5, uc_is6, uc_isn0, uc_isn1, uc_isn2, uc_isn3, uc_isn4, uc_isn5, uc_isn6, uc_in, uc_ino, uc_notino, uf_max1, uc_notin, tw_n, tw_b, tw_i, tw_s, tw_t, tw_l, tw_o, ui_o, ui_l, ui_t, ui_s, ui_d, us_s, us_t, us_c, us_o, us_l, wl_o, wl_l, wl_r, we_o, we_l, we_t, we_c, we_r, uf_lens, uf_leno, uf_lenl, uf_lent, uf_lend, uf_lenD, uf_list, uf_tuple, uf_divmod, uf_abs, uf_inti, uf_intb, uf_booli, uf_boolb, uf_max2, uf_min2, uf_all, uf_any, uf_sum, uf_str, uf_strt, uf_strl, uf_stro, um_append, um_extend, wx_t, wx_l, wx_r, um_pop, um_popAt, um_reverse, um_insert, um_index, um_join, ut_append, ut_extend, ut_pop, ut_popAt, ut_reverse, ut_insert, ut_remove, ut_index, ut_join, ml_at, pl_at, tu_i, tu_b, tu_s, tu_n, tu_t, tu_l, tu_o, ur_t, ur_l, ur_s, url_l, url_c, urz_ll, urz_tt, urz_tl, urz_lt, ure_l, ure_t, ure_c, urr_l, urr_t, uk_nil, cf_fs, opd, isVar, keepI, Prod.mk.injEq, exists_eq', exists_eq, false_and, or_false, exists_false, and_false, vpLs, vpDs, vpB, vpO, vpC, vpI, vpG, vpGs, tgsLen, tgSl, tgsSl, subN, memN, hide, unhide, at_nat, at_lit, ix_lit, List.length_map, List.getElem?_cons_zero, List.getElem?_cons_succ, List.set_cons_zero, List.set_cons_succ, List.map_cons, List.map_nil, List.cons_append, List.nil_append, List.length_cons, List.length_nil, List.replicate_succ, List.replicate_zero, Option.some.injEq, Nat.reduceAdd, Nat.reduceLT, Nat.reduceSub, Nat.zero_add, Nat.reduceLeDiff, Nat.reduceBEq, Nat.reduceEqDiff, Int.reduceToNat, Nat.sub_zero, List.length_append, List.length_set, Nat.reduceMul, Int.reduceNeg, exists_eq_left', exists_eq_left, exists_eq_right, U.int.injEq, U.tup.injEq, U.vl.injEq, U.ref.injEq, U.str.injEq, U.bl.injEq, W.v.injEq, W.own.injEq, List.cons.injEq, and_assoc, true_and, and_true, decide_eq_true_eq, decide_true, decide_false, List.any_cons, List.any_nil, isT, Bool.or_false, Bool.true_or, Bool.or_true, Bool.false_or, Bool.true_and, Bool.and_true, Bool.and_false, Bool.false_and, Bool.not_true, Bool.not_false, if_true, if_false, reduceIte, Bool.false_eq_true, and_imp, exists_and_left, exists_const, reduceCtorEq, ne_eq, not_false_eq_true, beq_self_eq_true, Nat.succ_ne_zero]))
local macro_rules | `(tactic| walk_at "s") => `(tactic| (rw [w_cons]; walk_at "v"))
local macro_rules | `(tactic| walk_at "n") => `(tactic| (walk_at "v"; rw [w_cons]; walk_at "v"))
local macro_rules | `(tactic| walk_at "r") => `(tactic| (walk_at "v"; repeat (rw [w_cons]; walk_at "v")))
def fn__law_cells : Fn := ⟨["", ""], ["", "", "", "", ""],
  (.cons (.asg (.nm 2) (.bi .list (.cons (.sli (.var 0) .none (.some (.var 1))) .nil)))
  (.cons (.each (.tp (.cons (.nm 3) (.cons (.nm 4) .nil))) (.enu (.sli (.var 0) (.some (.var 1)) (.some (.int 63))))
    (.cons (.asg (.sub (.var 2) (.bin .mod (.var 3) (.var 1))) (.bin .add (.idx (.var 2) (.bin .mod (.var 3) (.var 1))) (.bin .mul (.var 4) (.bin .add (.var 3) (.int 2)))))
      .nil))
  (.cons (.ret (.bin .add (.var 2) (.bin .mul (.lst (.cons (.int 0) .nil)) (.bin .sub (.int 2) (.bi .len (.cons (.var 2) .nil))))))
  .nil)))⟩
def fn__law_worth : Fn := ⟨[""], ["", ""],
  (.cons (.asg (.nm 1) (.call "_law_take" (.cons (.var 0) (.cons (.int 8) .nil))))
  (.cons (.ite (.cmp .lt (.var 1) (.int 3))
    (.cons (.ret (.call "_law_take" (.cons (.var 0) (.cons (.int 6) .nil))))
      .nil)
    .nil)
  (.cons (.ite (.cmp .eq (.var 1) (.int 3))
    (.cons (.ret (.bin .sub (.bin .sub (.bin .pow (.int 10) (.int 12)) (.int 1)) (.call "_law_take" (.cons (.var 0) (.cons (.int 3) .nil)))))
      .nil)
    .nil)
  (.cons (.ite (.cmp .eq (.var 1) (.int 4))
    (.cons (.ret (.bin .sub (.bin .add (.idx (.lst (.cons (.int 10) (.cons (.bin .pow (.int 10) (.int 2)) (.cons (.bin .pow (.int 10) (.int 3)) (.cons (.bin .pow (.int 10) (.int 6)) (.cons (.bin .pow (.int 10) (.int 8)) (.cons (.bin .pow (.int 10) (.int 11)) .nil))))))) (.call "_law_take" (.cons (.var 0) (.cons (.int 6) .nil)))) (.call "_law_take" (.cons (.var 0) (.cons (.int 3) .nil)))) (.int 1)))
      .nil)
    .nil)
  (.cons (.ret (.bin .add (.bin .mul (.call "_law_take" (.cons (.var 0) (.cons (.bin .pow (.int 10) (.int 6)) .nil))) (.bin .pow (.int 10) (.int 6))) (.call "_law_take" (.cons (.var 0) (.cons (.bin .pow (.int 10) (.int 6)) .nil)))))
  .nil)))))⟩
def fn__law_refused : Fn := ⟨["", ""], ["", "", "", ""],
  (.cons (.asg (.nm 2) (.non))
  (.cons (.tryA
    (.cons (.expr (.meth (.var 0) "again" (.cons (.var 1) .nil)))
      .nil) "BeltError" 3 [.asg 2 (.var 3)])
  (.cons (.ite (.cmp .is (.var 2) (.non))
    (.cons (.ret (.bl false))
      .nil)
    .nil)
  (.cons (.ret (.bop true (.cons (.isx (.var 2) ["Fell"]) (.cons (.not (.isx (.var 2) ["NotYet", "BadLine", "BadRow", "BadSheet"])) .nil))))
  .nil))))⟩
def fn__law_places : Fn := ⟨["", ""], ["", "", "", ""],
  (.cons (.setc 2 (.call "_law_take" (.cons (.var 0) (.cons (.var 1) .nil))) (.nm 3) (.rng1 (.call "_law_take" (.cons (.var 0) (.cons (.bin .add (.bi .min2 (.cons (.var 1) (.cons (.int 6) .nil))) (.int 1)) .nil)))) .none [("", 3)])
  (.cons (.ret (.sli (.bin .add (.var 2) (.rng false (.int 0) (.call "_law_take" (.cons (.var 0) (.cons (.bin .add (.var 1) (.int 1)) .nil))))) .none (.some (.var 1))))
  .nil))⟩
def fn__law_done : Fn := ⟨["", "", "", ""], ["", "", "", "", "", "", "", ""],
  (.cons (.each (.nm 4) (.rng1 (.var 2))
    (.cons (.asg (.nm 5) (.bin .add (.idx (.var 1) (.bin .sub (.bin .sub (.var 2) (.int 1)) (.var 4))) (.var 4)))
      (.cons (.asg (.nm 6) (.meth (.var 0) "came_now" .nil))
      (.cons (.asg (.nm 7) (.call "_law_refused" (.cons (.var 0) (.cons (.var 5) .nil))))
      (.cons (.ite (.bop false (.cons (.cmp .ne (.var 7) (.cmp .ge (.var 5) (.var 3))) (.cons (.cmp .ne (.meth (.var 0) "came_now" .nil) (.bin .add (.var 6) (.bi .int (.cons (.not (.var 7)) .nil)))) .nil)))
        (.cons (.ret (.neg (.int 1)))
          .nil)
        .nil)
      (.cons (.ite (.var 7)
        (.cons (.ret (.var 4))
          .nil)
        .nil)
      .nil))))))
  (.cons (.ret (.var 2))
  .nil))⟩
def fn__law_right : Fn := ⟨["", "", ""], ["", "", "", "", "", "", "", "", "", "", ""],
  (.cons (.setc 3 (.meth (.var 0) "read" (.cons (.var 9) .nil)) (.nm 9) (.seq (.var 1)) .none [("", 9)])
  (.cons (.asg (.nm 4) (.call "moved" (.cons (.var 1) .nil)))
  (.cons (.asg (.tp (.cons (.nm 5) (.cons (.nm 6) .nil))) (.tup (.cons (.meth (.var 0) "twin" .nil) (.cons (.meth (.var 0) "twin" .nil) .nil))))
  (.cons (.asg (.nm 7) (.tup (.cons (.meth (.var 0) "worths_now" .nil) (.cons (.meth (.var 0) "came_now" .nil) .nil))))
  (.cons (.expr (.meth (.var 6) "bring" (.cons (.var 1) .nil)))
  (.cons (.ite (.bop false (.cons (.cmp .ne (.comp (.meth (.var 6) "read" (.cons (.var 10) .nil)) (.nm 10) (.rng1 (.bi .len (.cons (.var 1) .nil))) .none [("", 10)]) (.var 3)) (.cons (.cmp .ne (.meth (.var 6) "came_now" .nil) (.bi .len (.cons (.var 1) .nil))) .nil)))
    (.cons (.ret (.bl false))
      .nil)
    .nil)
  (.cons (.ite (.cmp .ne (.tup (.cons (.meth (.var 0) "worths_now" .nil) (.cons (.meth (.var 0) "came_now" .nil) .nil))) (.var 7))
    (.cons (.ret (.bl false))
      .nil)
    .nil)
  (.cons (.ite (.bop true (.cons (.cmp .gt (.var 4) (.int 0)) (.cons (.bi .all (.cons (.comp (.cmp .eq (.var 9) (.var 10)) (.tp (.cons (.nm 10) (.cons (.nm 9) .nil))) (.enu (.sli (.var 1) (.some (.bin .sub (.var 4) (.int 1))) .none)) .none [("", 9), ("", 10)]) .nil)) .nil)))
    (.cons (.ret (.bl false))
      .nil)
    .nil)
  (.cons (.asg (.nm 8) (.call "_law_done" (.cons (.var 5) (.cons (.var 1) (.cons (.var 4) (.cons (.var 2) .nil))))))
  (.cons (.ite (.bop false (.cons (.cmp .lt (.var 8) (.int 0)) (.cons (.cmp .ne (.tup (.cons (.meth (.var 0) "worths_now" .nil) (.cons (.meth (.var 0) "came_now" .nil) .nil))) (.var 7)) .nil)))
    (.cons (.ret (.bl false))
      .nil)
    .nil)
  (.cons (.ret (.bop false (.cons (.cmp .lt (.var 8) (.var 4)) (.cons (.cmp .eq (.comp (.meth (.var 5) "read" (.cons (.var 10) .nil)) (.nm 10) (.rng1 (.bi .len (.cons (.var 1) .nil))) .none [("", 10)]) (.var 3)) .nil))))
  .nil)))))))))))⟩
def fn_law : Fn := ⟨[""], ["", "", "", "", "", "", "", "", ""],
  (.cons (.asg (.nm 1) (.call "_law_cells" (.cons (.var 0) (.cons (.int 6) .nil))))
  (.cons (.each (.nm 2) (.rng1 (.bi .len (.cons (.var 1) .nil)))
    (.cons (.asg (.nm 3) (.call "_law_box" (.cons (.var 1) (.cons (.var 2) .nil))))
      (.cons (.asg (.nm 4) (.bin .add (.int 2) (.call "_law_take" (.cons (.var 3) (.cons (.int 15) .nil)))))
      (.cons (.asg (.nm 5) (.make "Belt" (.cons (.var 4) .nil)))
      (.cons (.each (.nm 6) (.rng1 (.bin .add (.int 1) (.call "_law_take" (.cons (.var 3) (.cons (.bin .add (.var 4) (.int 3)) .nil)))))
        (.cons (.expr (.meth (.var 5) "drop" (.cons (.call "_law_worth" (.cons (.var 3) .nil)) .nil)))
          .nil))
      (.cons (.asg (.nm 7) (.bi .min2 (.cons (.var 4) (.cons (.meth (.var 5) "came_now" .nil) .nil))))
      (.cons (.each (.nm 8) (.rng1 (.int 5))
        (.cons (.ite (.not (.call "_law_right" (.cons (.var 5) (.cons (.call "_law_places" (.cons (.var 3) (.cons (.var 7) .nil))) (.cons (.var 4) .nil)))))
            (.cons (.ret (.bl false))
              .nil)
            .nil)
          .nil))
      .nil)))))))
  (.cons (.ret (.bl true))
  .nil)))⟩
def mt_Belt_came_now : Fn := ⟨[""], [""],
  (.cons (.ret (.fld (.var 0) "came"))
  .nil)⟩
def mt_Belt_twin : Fn := ⟨[""], ["", ""],
  (.cons (.asg (.nm 1) (.make "Belt" (.cons (.fld (.var 0) "long") .nil)))
  (.cons (.setf (.var 1) "worths" (.bi .list (.cons (.fld (.var 0) "worths") .nil)))
  (.cons (.setf (.var 1) "came" (.fld (.var 0) "came"))
  (.cons (.ret (.var 1))
  .nil))))⟩
def tb : Tb := ⟨[("moved", fn_moved),
  ("_law_cells", fn__law_cells),
  ("_law_box", fn__law_box),
  ("_law_take", fn__law_take),
  ("_law_worth", fn__law_worth),
  ("_law_refused", fn__law_refused),
  ("_law_places", fn__law_places),
  ("_law_done", fn__law_done),
  ("_law_right", fn__law_right),
  ("law", fn_law)], [], [], [("Belt.__init__", mt_Belt___init__), ("Belt.drop", mt_Belt_drop), ("Belt.read", mt_Belt_read), ("Belt.again", mt_Belt_again), ("Belt.bring", mt_Belt_bring), ("Belt.worths_now", mt_Belt_worths_now), ("Belt.came_now", mt_Belt_came_now), ("Belt.twin", mt_Belt_twin)], [("Belt", [("__init__", "Belt.__init__"), ("drop", "Belt.drop"), ("read", "Belt.read"), ("again", "Belt.again"), ("bring", "Belt.bring"), ("worths_now", "Belt.worths_now"), ("came_now", "Belt.came_now"), ("twin", "Belt.twin")], ["long", "worths", "came"])], [("BeltError", false, ["BeltError", "ValueError"]), ("NotYet", false, ["NotYet", "BeltError", "ValueError"]), ("Fell", false, ["Fell", "BeltError", "ValueError"]), ("BadLine", true, ["BadLine", "BeltError", "ValueError"]), ("BadRow", true, ["BadRow", "BeltError", "ValueError"]), ("BadSheet", true, ["BadSheet", "BeltError", "ValueError"])]⟩
def tu : Tu := ⟨tb, [("_law_take", pTake), ("_law_box", pBox)]⟩
section
variable {k : Nat} {σ : Us} {Q : W → Us → Prop} {X : Str → Option U → Us → Prop}
theorem iT (k : Nat) : (cuOf tu (UF tu k)).isf "_law_take" = true := cu_isf (F := fn__law_take) rfl
theorem tk {m : Int} (h0 : 0 < m) (h1 : m < 4611686018427387904) (q : ∀ r, 0 ≤ r → r < m → Q (.v (.int r)) σ) : UF tu (k + 3) "_law_take" [.box, .int m] σ Q X := take_v rfl h0 h1 q
theorem beltT : BeltT tu := by
  refine ⟨fun m g h => ?_, ⟨rfl, rfl, rfl⟩, ⟨rfl, rfl⟩, ⟨rfl, rfl⟩, ⟨rfl, rfl⟩, ⟨rfl, rfl⟩, ⟨rfl, rfl⟩⟩
  have hm := lookup_mem h
  simp only [List.mem_cons, List.not_mem_nil, or_false, Prod.mk.injEq] at hm
  rcases hm with ⟨rfl, rfl⟩ | ⟨rfl, rfl⟩ | ⟨rfl, rfl⟩ | ⟨rfl, rfl⟩ | ⟨rfl, rfl⟩ <;> rfl
theorem beltX : BeltX tu := ⟨rfl, rfl⟩
theorem cells_v {ns : List Int} (hn : ns.length ≤ 63) (q : ∀ cs : List Int, 2 ≤ cs.length → cs.length ≤ 6 → Q (.own (cs.map U.int)) σ) : UF tu (k + 1) "_law_cells" [.scr ns, .int 6] σ Q X := by
  refine uf_in rfl (F := fn__law_cells) rfl rfl ?_
  unfold fn__law_cells
  walk_at "s"
  rw [show (6 : Int) = ((6 : Nat) : Int) from rfl, cutU_pre, ← List.map_take]
  walk_at "n"
  rw [show (63 : Int) = ((63 : Nat) : Int) from rfl, cutU_mid, ← List.map_drop, ← List.map_take]
  refine each_v (fun i ev s => s = σ ∧ ∃ (x3 x4 : Option W) (cs : List Int), ev = [some (.v (.scr ns)), some (.v (.int 6)), some (.own (cs.map U.int)), x3, x4] ∧ cs.length = (ns.take 6).length) ⟨rfl, none, none, _, rfl, rfl⟩ (fun _ _ _ _ => by rw [uk_nil]; trivial) ?_ ?_
  · rintro i u ev s K hi ⟨rfl, x3, x4, cs, rfl, hc⟩ hK
    have hi2 := (List.getElem?_eq_some_iff.mp hi).1
    simp only [List.length_map, List.length_zipIdx, List.length_take, List.length_drop] at hi2
    have hcm : cs.length = 6 := by rw [hc, List.length_take]; omega
    obtain ⟨z, rfl⟩ : ∃ z : Int, u = .tup [.int (i : Nat), .int z] := by
      rw [List.getElem?_map, List.getElem?_zipIdx, List.getElem?_map] at hi
      cases hz : (List.take (63 - 6) (List.drop 6 ns))[i]? with
      | none => rw [hz] at hi; simp at hi
      | some z => rw [hz] at hi; simp at hi; exact ⟨z, hi.symm⟩
    have hmod : ((i : Int) % 6) = ((i % 6 : Nat) : Int) := by simp
    have hlt : i % 6 < cs.length := by rw [hcm]; exact Nat.mod_lt _ (by omega)
    walk_at "n"
    refine ⟨by decide, _, at_int hmod hlt, ?_⟩
    walk_at "v"
    refine ⟨.inl (.inr ⟨by omega, by omega⟩), by decide, ?_⟩
    refine ⟨i % 6, ?_, ?_⟩
    · rw [hmod, ix_n, if_pos hlt]
    · exact hK _ _ ⟨rfl, some (.v (.int i)), some (.v (.int z)), cs.set (i % 6) (cs.getD (i % 6) 0 + z * ((i : Int) + 2)), by rw [List.map_set], by rw [List.length_set]; exact hc⟩
  · rintro ev s ⟨rfl, x3, x4, cs, rfl, hc⟩
    have hc2 : cs.length ≤ 6 := by rw [hc, List.length_take]; omega
    walk_at "n"
    have er : ∀ m : Nat, (List.replicate m [U.int 0]).flatten = (List.replicate m (0 : Int)).map U.int := by
      intro m
      induction m with
      | zero => rfl
      | succ n ih => rw [List.replicate_succ, List.flatten_cons, ih, List.replicate_succ]; rfl
    rw [er]
    refine ⟨by omega, by omega, by omega, by simp; omega, ?_⟩
    rw [← List.map_append]
    exact q _ (by simp; omega) (by simp; omega)
theorem worth_v (q : ∀ w : Int, Q (.v (.int w)) σ) : UF tu (k + 4) "_law_worth" [.box] σ Q X := by
  refine uf_in rfl (F := fn__law_worth) rfl rfl ?_
  have hT := iT (k + 3)
  unfold fn__law_worth
  walk_at "s"
  refine ⟨hT, tk (by decide) (by decide) fun r l1 u1 => ?_⟩
  walk_at "n"
  split
  next h1 =>
    walk_at "s"
    exact ⟨hT, tk (by decide) (by decide) fun r l1 u1 => q _⟩
  next h1 =>
  walk_at "s"
  split
  next h2 =>
    walk_at "s"
    refine ⟨(.inl ⟨by decide, by decide⟩), hT, tk (by decide) (by decide) fun r l1 u1 => ?_⟩
    walk_at "v"
    exact q _
  next h2 =>
  walk_at "s"
  split
  next h3 =>
    walk_at "s"
    refine ⟨(.inl ⟨by decide, by decide⟩), (.inl ⟨by decide, by decide⟩), (.inl ⟨by decide, by decide⟩), (.inl ⟨by decide, by decide⟩), (.inl ⟨by decide, by decide⟩), hT, tk (by decide) (by decide) fun r l1 u1 => ?_⟩
    obtain ⟨m, rfl⟩ := Int.eq_ofNat_of_zero_le l1
    have hx : ∃ z : Int, ([U.int 10, U.int (10 ^ 2), U.int (10 ^ 3), U.int (10 ^ 6), U.int (10 ^ 8), U.int (10 ^ 11)] : List U)[m]? = some (.int z) := by
      have : m < 6 := by omega
      match m, this with
      | 0, _ => exact ⟨_, rfl⟩
      | 1, _ => exact ⟨_, rfl⟩
      | 2, _ => exact ⟨_, rfl⟩
      | 3, _ => exact ⟨_, rfl⟩
      | 4, _ => exact ⟨_, rfl⟩
      | 5, _ => exact ⟨_, rfl⟩
    obtain ⟨z, hz⟩ := hx
    walk_at "v"
    refine ⟨_, hz, hT, tk (by decide) (by decide) fun r l1 u1 => ?_⟩
    walk_at "v"
    exact q _
  next h3 =>
    walk_at "s"
    refine ⟨hT, (.inl ⟨by decide, by decide⟩), tk (by decide) (by decide) fun r l1 u1 => ⟨(.inl ⟨by decide, by decide⟩), ?_⟩⟩
    walk_at "v"
    refine ⟨.inl (.inr ⟨by omega, by omega⟩), hT, (.inl ⟨by decide, by decide⟩), tk (by decide) (by decide) fun r l1 u1 => ?_⟩
    walk_at "v"
    exact q _
/-- the store with more -/
def Kp (σ σ' : Us) (P : Nat → Prop) : Prop := σ.length ≤ σ'.length ∧ ∀ i, i < σ.length → P i → σ'[i]? = σ[i]?
theorem refused_v {n : Nat} {long came : Int} {ws : List U} {p : Int} (h : σ[n]? = some (beltO long ws came)) (hl : ws.length < 1000) (hp : p < came)
    (q1 : p < long → ∃ (m : Nat) (u : U), (m : Int) = p ∧ ws[m]? = some u ∧ Q (.v (.bl false)) (σ.set n (beltO long (cutU (u :: ws) none (some long)) (came + 1))))
    (q2 : long ≤ p → Q (.v (.bl true)) (σ ++ [.exc "Fell" none])) : UF tu (k + 3) "_law_refused" [.ref n, .int p] σ Q X := by
  refine uf_in rfl (F := fn__law_refused) rfl rfl ?_
  unfold fn__law_refused
  walk_at "s"
  walk_at "s"
  refine ⟨rfl, ?_⟩
  walk_at "s"
  refine ⟨_, _, h, _, beltT.mt "again" "Belt.again" rfl, rfl, again_vX beltT beltX h hl (fun a1 a2 => ?_) (fun a => absurd a (by omega)) (fun a1 a2 => ?_)⟩
  · obtain ⟨m, u, e, hu, z⟩ := q1 a2
    refine ⟨m, u, e, hu, ?_⟩
    walk_at "n"
    walk_at "s"
    exact z
  · have z := q2 a2
    refine ⟨rfl, ?_⟩
    rw [if_pos (by rfl)]
    simp only [vpTh]
    walk_at "v"
    simp only [Pu.unset]
    walk_at "s"
    walk_at "s"
    have he : (σ ++ [Uo.exc "Fell" none])[σ.length]? = some (Uo.exc "Fell" none) := by simp
    refine ⟨_, _, he, rfl, rfl, _, _, he, rfl, rfl, ?_⟩
    exact z
theorem came_v {n : Nat} {long came : Int} {ws : List U} (h : σ[n]? = some (beltO long ws came)) (q : Q (.v (.int came)) σ) : UF tu (k + 1) "Belt.came_now" [.ref n] σ Q X := by
  refine uf_mt rfl (F := mt_Belt_came_now) rfl rfl ?_
  unfold mt_Belt_came_now
  walk_at "s"
  refine ⟨_, _, h, rfl, _, rfl, ?_⟩
  exact q
theorem twin_v {n : Nat} {long came : Int} {ws : List U} (h : σ[n]? = some (beltO long ws came)) (q : Q (.v (.ref σ.length)) (σ ++ [beltO long ws came])) : UF tu (k + 3) "Belt.twin" [.ref n] σ Q X := by
  refine uf_mt rfl (F := mt_Belt_twin) rfl rfl ?_
  have hn := (List.getElem?_eq_some_iff.mp h).1
  unfold mt_Belt_twin
  walk_at "s"
  refine ⟨_, rfl, _, _, h, rfl, _, rfl, init_v beltT (long := long) (by simp) ⟨rfl, ?_⟩⟩
  have e1 : (σ ++ [Uo.ins "Belt" []]).set σ.length (beltO long [] 0) = σ ++ [beltO long [] 0] := by simp
  rw [e1]
  have h1 : (σ ++ [beltO long [] 0])[n]? = some (beltO long ws came) := by rw [List.getElem?_append_left hn]; exact h
  have h2 : (σ ++ [beltO long [] 0])[σ.length]? = some (beltO long [] 0) := by simp
  walk_at "n"
  refine ⟨_, _, h1, rfl, _, rfl, _, rfl, _, _, h2, rfl, (by show (3 : Nat) < 1000; omega), ?_⟩
  have e2 : (σ ++ [beltO long [] 0]).set σ.length (beltO long ws 0) = σ ++ [beltO long ws 0] := by simp
  have e3 : (σ ++ [beltO long ws 0]).set σ.length (beltO long ws came) = σ ++ [beltO long ws came] := by simp
  have h3 : (σ ++ [beltO long ws 0])[n]? = some (beltO long ws came) := by rw [List.getElem?_append_left hn]; exact h
  have h4 : (σ ++ [beltO long ws 0])[σ.length]? = some (beltO long ws 0) := by simp
  show vpSs _ _ _ ((σ ++ [beltO long [] 0]).set σ.length (beltO long ws 0)) _
  rw [e2]
  walk_at "s"
  refine ⟨_, _, h3, rfl, _, rfl, _, _, h4, rfl, (by show (3 : Nat) < 1000; omega), ?_⟩
  show vpSs _ _ _ ((σ ++ [beltO long ws 0]).set σ.length (beltO long ws came)) _
  rw [e3]
  walk_at "s"
  exact q
theorem places_v {R : Nat} (h0 : 0 < R) (h1 : R ≤ 100) (q : ∀ ps : List Int, ps.length ≤ R → (∀ p ∈ ps, 0 ≤ p ∧ p < R) → Q (.own (ps.map U.int)) σ) : UF tu (k + 4) "_law_places" [.box, .int R] σ Q X := by
  refine uf_in rfl (F := fn__law_places) rfl rfl ?_
  have hT := iT (k + 3)
  unfold fn__law_places
  walk_at "s"
  obtain ⟨mn, hmn, hmn2⟩ : ∃ mn : Nat, (if (6 : Int) < R then (6 : Int) else R) = mn ∧ mn ≤ 6 := by
    by_cases h : (6 : Int) < R
    · exact ⟨6, if_pos h, Nat.le_refl _⟩
    · exact ⟨R, if_neg h, by omega⟩
  rw [hmn]
  refine ⟨hT, tk (by omega) (by omega) fun r l1 u1 => ?_⟩
  walk_at "v"
  refine ⟨by omega, by omega, ?_⟩
  refine comp_all (fun _ y => ∃ r : Int, y = .int r ∧ (0 ≤ r ∧ r < R)) trivial (by simp; omega) (fun u K hu hK => ?_) fun ys hys => ?_
  · obtain ⟨j, _, rfl⟩ := List.mem_map.mp hu
    walk_at "v"
    refine ⟨hT, tk (by omega) (by omega) fun r l1 u1 => ?_⟩
    exact hK _ ⟨r, rfl, l1, u1⟩
  obtain ⟨rs, rfl, hr1, hr2⟩ := al_ints hys
  simp only [List.length_map, List.length_range] at hr1
  walk_at "s"
  refine ⟨hT, tk (by omega) (by omega) fun r2 l2 u2 => ?_⟩
  refine ⟨_, rfl, by decide, by decide, by omega, by omega, by simp; omega, ?_⟩
  rw [rng_up, ← List.map_append, cutU_pre, ← List.map_take]
  refine q _ (by simp; omega) fun p hp => ?_
  rcases List.mem_append.mp (List.mem_of_mem_take hp) with h | h
  · exact hr2 p h
  · have := mem_up h
    omega
/-- the worths after so many drops -/
def Wi (ws ps : List Int) (L i : Nat) : List Int := (bw ws ((ps.take (mv ps)).drop (mv ps - i)) ++ ws).take L
theorem wi_step {ws ps : List Int} {L i : Nat} (hi : i < mv ps) {p : Nat} (hp : ps.getD (mv ps - 1 - i) 0 = (p : Int)) (hw : p < ws.length)   : p + i < L → (Wi ws ps L i)[p + i]? = some (ws.getD p 0) ∧ (ws.getD p 0 :: Wi ws ps L i).take L = Wi ws ps L (i + 1) := by
  have hm := mv_le ps
  have hl : (bw ws ((ps.take (mv ps)).drop (mv ps - i))).length = i := by simp [bw]; omega
  intro hL
  constructor
  · unfold Wi
    rw [List.getElem?_take_of_lt hL, List.getElem?_append_right (by omega), hl, show p + i - i = p by omega, List.getElem?_eq_getElem hw, List.getD_eq_getElem?_getD, List.getElem?_eq_getElem hw]; rfl
  · have e : (ps.take (mv ps)).drop (mv ps - (i + 1)) = (p : Int) :: (ps.take (mv ps)).drop (mv ps - i) := by
      rw [List.drop_eq_getElem_cons (by rw [List.length_take]; omega), show mv ps - (i + 1) + 1 = mv ps - i by omega]
      congr 1
      rw [List.getElem_take, ← hp, List.getD_eq_getElem?_getD, List.getElem?_eq_getElem (by omega)]
      simp only [Option.getD_some]
      congr 1; omega
    unfold Wi
    rw [e]
    show _ = (bw ws ((p : Int) :: _) ++ ws).take L
    unfold bw
    rw [List.map_cons, Int.toNat_natCast, List.cons_append]
    cases L with
    | zero => omega
    | succ L => rw [List.take_succ_cons, List.take_succ_cons, List.take_take, Nat.min_eq_left (Nat.le_succ L)]
theorem done_v {n : Nat} {came L : Nat} {ws ps : List Int} (h : σ[n]? = some (beltO L (ws.map U.int) came)) (hl : ws.length ≤ L) (hL : L ≤ 100) (hc : came ≤ 100) (hwc : ws.length ≤ came) (hp : ∀ p ∈ ps, 0 ≤ p ∧ p < ws.length) (hpl : ps.length ≤ L)
    (q : ∀ (d : Nat) (s : Us), d ≤ mv ps → (d = mv ps → s[n]? = some (beltO L ((Wi ws ps L (mv ps)).map U.int) (came + mv ps : Nat))) → (∀ j, j < σ.length → j ≠ n → s[j]? = σ[j]?) → Q (.v (.int d)) s) : UF tu (k + 4) "_law_done" [.ref n, .vl (ps.map U.int), .int (mv ps), .int L] σ Q X := by
  refine uf_in rfl (F := fn__law_done) rfl rfl ?_
  have iR : (cuOf tu (UF tu (k + 3))).isf "_law_refused" = true := cu_isf (F := fn__law_refused) rfl
  have hm := mv_le ps
  unfold fn__law_done
  walk_at "s"
  refine ⟨by omega, by omega, ?_⟩
  refine each_v (fun i ev s => (∀ j, j < σ.length → j ≠ n → s[j]? = σ[j]?) ∧ s[n]? = some (beltO L ((Wi ws ps L i).map U.int) (came + i : Nat)) ∧ ∃ x4 x5 x6 x7, ev = [some (.v (.ref n)), some (.v (.vl (ps.map U.int))), some (.v (.int (mv ps))), some (.v (.int L)), x4, x5, x6, x7]) ⟨fun _ _ _ => rfl, ?_, none, none, none, none, rfl⟩ (fun _ _ _ _ => by rw [uk_nil]; trivial) ?_ ?_
  · have e : Wi ws ps L 0 = ws := by
      unfold Wi
      rw [Nat.sub_zero, List.drop_of_length_le (by rw [List.length_take]; omega)]
      show ws.take L = ws
      exact List.take_of_length_le hl
    rw [e]; exact h
  · rintro i u ev s K hi ⟨hk, hs, x4, x5, x6, x7, rfl⟩ hK
    have hi2 := (List.getElem?_eq_some_iff.mp hi).1
    simp only [List.length_map, List.length_range] at hi2
    have hi3 : i < mv ps := by omega
    obtain rfl : u = .int (i : Nat) := by
      rw [List.getElem?_map, List.getElem?_range hi2] at hi
      cases hi; rfl
    have hix : mv ps - 1 - i < ps.length := by omega
    obtain ⟨p, hpe⟩ : ∃ p : Nat, ps.getD (mv ps - 1 - i) 0 = (p : Int) := by
      rw [List.getD_eq_getElem?_getD, List.getElem?_eq_getElem hix]
      have := hp _ (List.getElem_mem hix)
      exact ⟨(ps[mv ps - 1 - i]).toNat, by simp; omega⟩
    have hpw : p < ws.length := by
      have h1 := hp _ (List.getElem_mem hix)
      rw [List.getD_eq_getElem?_getD, List.getElem?_eq_getElem hix] at hpe
      simp only [Option.getD_some] at hpe
      omega
    walk_at "n"
    have e1 : ((mv ps : Int) - 1 - i) = ((mv ps - 1 - i : Nat) : Int) := by omega
    refine ⟨_, at_int e1 hix, ?_⟩
    rw [hpe]
    walk_at "n"
    refine ⟨_, _, hs, "Belt.came_now", rfl, rfl, came_v hs ?_⟩
    walk_at "s"
    have w1 := wi_step (L := L) hi3 hpe hpw
    have hwl : (Wi ws ps L i).length ≤ L := by unfold Wi; rw [List.length_take]; omega
    refine ⟨iR, refused_v hs (by rw [List.length_map]; omega) (by omega) (fun a1 => ?_) (fun a1 => ?_)⟩
    · have hpi : p + i < L := by omega
      obtain ⟨w1, w2⟩ := w1 hpi
      refine ⟨p + i, .int (ws.getD p 0), by omega, by rw [List.getElem?_map, w1]; rfl, ?_⟩
      rw [cutU_pre, ← List.map_cons, ← List.map_take, w2]
      have hn := (List.getElem?_eq_some_iff.mp hs).1
      have h2 : (s.set n (beltO L ((Wi ws ps L (i + 1)).map U.int) (((came + i : Nat) : Int) + 1)))[n]? = some (beltO L ((Wi ws ps L (i + 1)).map U.int) (((came + i : Nat) : Int) + 1)) := List.getElem?_set_self hn
      walk_at "n"
      rw [decide_eq_false (show ¬ (L : Int) ≤ (p : Int) + i by omega)]
      walk_at "v"
      refine ⟨_, _, h2, "Belt.came_now", rfl, rfl, came_v h2 ?_⟩
      walk_at "v"
      walk_at "s"
      refine hK _ _ ⟨fun j hj hne => ?_, ?_, _, _, _, _, rfl⟩
      · rw [List.getElem?_set_ne (by omega)]; exact hk j hj hne
      · rw [h2]; simp only [beltO]; congr 5
    · walk_at "s"
      rw [decide_eq_true (show (L : Int) ≤ (p : Int) + i by omega)]
      have hn := (List.getElem?_eq_some_iff.mp hs).1
      have h2 : (s ++ [Uo.exc "Fell" none])[n]? = some (beltO L ((Wi ws ps L i).map U.int) (came + i : Nat)) := by rw [List.getElem?_append_left hn]; exact hs
      walk_at "v"
      refine ⟨_, _, h2, "Belt.came_now", rfl, rfl, came_v h2 ?_⟩
      walk_at "v"
      rw [Int.add_zero, decide_eq_true rfl]
      walk_at "s"
      walk_at "s"
      walk_at "s"
      refine q i _ (by omega) (fun e => absurd e (by omega)) fun j hj hne => ?_
      have := hk j hj hne
      rw [List.getElem?_append_left, this]
      rw [List.getElem?_eq_getElem hj] at this
      exact (List.getElem?_eq_some_iff.mp this).1
  · rintro ev s ⟨hk, hs, x4, x5, x6, x7, rfl⟩
    walk_at "n"
    simp only [List.length_map, List.length_range, Int.toNat_natCast] at hs
    exact q _ s (Nat.le_refl _) (fun _ => hs) hk
end
section
variable {k : Nat} {σ : Us} {Q : W → Us → Prop} {X : Str → Option U → Us → Prop}
theorem kept_ue {ws : List Int} {c : Int} {B : Bool → Prop} (h : B true) : uEq (.tup [.vl (ws.map U.int), .int c]) (.tup [.vl (ws.map U.int), .int c]) B := by
  have l : ∃ p, Ly 3 (.tup [.vl (ws.map U.int), .int c]) p := Ly.tup fun u hu => by
    rcases List.mem_cons.mp hu with rfl | hu
    · exact Ly.ints ws
    · rw [List.mem_singleton.mp hu]; exact ⟨_, Ly.int.mono (by omega)⟩
  have p : plainU (.tup [.vl (ws.map U.int), .int c]) = true := by
    simp only [plainU, plainUs, plain_ints]; rfl
  exact ue_ly l l (by omega) (by omega) p p (fun _ => h) fun e => absurd rfl e
theorem right_v {n L came : Nat} {ws ps : List Int} (h : σ[n]? = some (beltO L (ws.map U.int) came)) (hl : ws.length ≤ L) (hL : L ≤ 100) (hc : came ≤ 100) (hwc : ws.length ≤ came) (hp : ∀ p ∈ ps, 0 ≤ p ∧ p < ws.length) (hpl : ps.length ≤ ws.length)
    (q : ∀ s : Us, (∀ j, j < σ.length → s[j]? = σ[j]?) → Q (.v (.bl true)) s) : UF tu (k + 5) "_law_right" [.ref n, .vl (ps.map U.int), .int L] σ Q X := by
  refine uf_in rfl (F := fn__law_right) rfl rfl ?_
  have iM : (cuOf tu (UF tu (k + 4))).isf "moved" = true := cu_isf (F := fn_moved) rfl
  have iD : (cuOf tu (UF tu (k + 4))).isf "_law_done" = true := cu_isf (F := fn__law_done) rfl
  have hm := mv_le ps
  have hn := (List.getElem?_eq_some_iff.mp h).1
  unfold fn__law_right
  walk_at "s"
  have rd : ∀ (ws : List Int) (p : Nat), p < ws.length → (ws.map U.int)[p]? = some (.int (ws.getD p 0)) := fun ws p hp => by
    rw [List.getElem?_map, List.getD_eq_getElem?_getD, List.getElem?_eq_getElem hp]; rfl
  refine comp_map (fun u => match u with | .int p => .int (ws.getD p.toNat 0) | _ => .non) trivial (by simp; omega) (fun u K hu hK => ?_) ?_
  · obtain ⟨p, hpm, rfl⟩ := List.mem_map.mp hu
    obtain ⟨a1, a2⟩ := hp p hpm
    obtain ⟨m, rfl⟩ := Int.eq_ofNat_of_zero_le a1
    walk_at "v"
    refine ⟨_, _, h, _, beltT.mt "read" "Belt.read" rfl, rfl, read_v beltT h (by omega) (by omega) (rd ws m (by omega)) ?_⟩
    exact hK
  have e1 : (ps.map U.int).map (fun u => match u with | .int p => U.int (ws.getD p.toNat 0) | _ => .non) = (bw ws ps).map U.int := by rw [List.map_map]; unfold bw; rw [List.map_map]; rfl
  rw [e1]
  walk_at "s"
  refine ⟨iM, moved_v rfl rfl (.inl rfl) (by omega) ?_⟩
  walk_at "s"
  refine ⟨_, _, h, "Belt.twin", rfl, rfl, twin_v h ?_⟩
  have h1 : (σ ++ [beltO L (ws.map U.int) came])[n]? = some (beltO L (ws.map U.int) came) := by rw [List.getElem?_append_left hn]; exact h
  walk_at "v"
  refine ⟨_, _, h1, "Belt.twin", rfl, rfl, twin_v h1 ?_⟩
  generalize hσ : σ ++ [beltO L (ws.map U.int) came] ++ [beltO L (ws.map U.int) came] = σ2
  have hl1 : (σ ++ [beltO L (ws.map U.int) came]).length = σ.length + 1 := by simp
  rw [hl1]
  have k2 : ∀ j, j < σ.length → σ2[j]? = σ[j]? := fun j hj => by rw [← hσ, List.append_assoc, List.getElem?_append_left hj]
  have a2 : σ2[σ.length]? = some (beltO L (ws.map U.int) came) := by rw [← hσ]; simp
  have b2 : σ2[σ.length + 1]? = some (beltO L (ws.map U.int) came) := by rw [← hσ]; simp
  have h2 : σ2[n]? = some (beltO L (ws.map U.int) came) := by rw [k2 n hn]; exact h
  clear hσ
  walk_at "n"
  refine ⟨_, _, h2, _, beltT.mt "worths_now" "Belt.worths_now" rfl, rfl, now_v beltT h2 ?_⟩
  walk_at "v"
  refine ⟨_, _, h2, "Belt.came_now", rfl, rfl, came_v h2 ?_⟩
  walk_at "n"
  refine ⟨_, _, b2, "Belt.bring", rfl, rfl, bring_v (f := fun p => .int (ws.getD p.toNat 0)) beltT ⟨rfl, rfl⟩ b2 (by omega) (fun p hpm => ?_) ?_⟩
  · obtain ⟨a1, a2⟩ := hp p hpm
    exact ⟨a1, by omega, by omega, rd ws p.toNat (by omega)⟩
  have bl : (bw ws ps).length = ps.length := by simp [bw]
  have e3 : cutU (ps.map fun p => U.int (ws.getD p.toNat 0)) none (some (L : Int)) = (bw ws ps).map U.int := by
    rw [cutU_pre, List.take_of_length_le (by rw [List.length_map]; omega)]
    unfold bw; rw [List.map_map]; rfl
  rw [e3]
  have hb3 := (List.getElem?_eq_some_iff.mp b2).1
  have b3 : (σ2.set (σ.length + 1) (beltO L ((bw ws ps).map U.int) ps.length))[σ.length + 1]? = some (beltO L ((bw ws ps).map U.int) ps.length) := List.getElem?_set_self hb3
  have a3 : (σ2.set (σ.length + 1) (beltO L ((bw ws ps).map U.int) ps.length))[σ.length]? = some (beltO L (ws.map U.int) came) := by rw [List.getElem?_set_ne (by omega)]; exact a2
  have k3 : ∀ j, j < σ.length → (σ2.set (σ.length + 1) (beltO L ((bw ws ps).map U.int) ps.length))[j]? = σ[j]? := fun j hj => by rw [List.getElem?_set_ne (by omega)]; exact k2 j hj
  generalize σ2.set (σ.length + 1) (beltO L ((bw ws ps).map U.int) ps.length) = σ3 at b3 a3 k3
  clear k2 a2 b2 h2 hb3
  have h3 : σ3[n]? = some (beltO L (ws.map U.int) came) := by rw [k3 n hn]; exact h
  have rdc : ∀ (Z : List Int), ps.length ≤ Z.length → ((List.range ps.length).map fun i : Nat => U.int i).map (fun u => match u with | .int p => U.int (Z.getD p.toNat 0) | _ => .non) = (Z.take ps.length).map U.int := fun Z hZ => by
    rw [List.map_map]
    apply List.ext_getElem
    · simp; omega
    · intro i h1 h2
      simp at h1 h2 ⊢
      rw [List.getElem?_eq_getElem (by omega)]; rfl
  walk_at "s"
  refine ⟨by omega, by omega, ?_⟩
  refine comp_map (fun u => match u with | .int p => .int ((bw ws ps).getD p.toNat 0) | _ => .non) trivial (by simp; omega) (fun u K hu hK => ?_) ?_
  · obtain ⟨m, hm2, rfl⟩ := List.mem_map.mp hu
    have hm3 := List.mem_range.mp hm2
    walk_at "v"
    refine ⟨_, _, b3, _, beltT.mt "read" "Belt.read" rfl, rfl, read_v beltT b3 (by omega) (by omega) (rd (bw ws ps) m (by omega)) ?_⟩
    exact hK
  walk_at "v"
  rw [Int.toNat_natCast, rdc _ (by omega), List.take_of_length_le (by omega)]
  refine ue_ints (fun _ => ?_) (fun e => absurd rfl e)
  walk_at "v"
  refine ⟨_, _, b3, "Belt.came_now", rfl, rfl, came_v b3 ?_⟩
  walk_at "v"
  walk_at "s"
  refine ⟨_, _, h3, _, beltT.mt "worths_now" "Belt.worths_now" rfl, rfl, now_v beltT h3 ?_⟩
  walk_at "v"
  refine ⟨_, _, h3, "Belt.came_now", rfl, rfl, came_v h3 ?_⟩
  walk_at "v"
  refine kept_ue ?_
  walk_at "n"
  have rest : vpSs (cuOf tu (UF tu (k + 4))) (sdrop 8 fn__law_right.body)
    [some (W.v (U.ref n)), some (W.v (U.vl (ps.map U.int))), some (W.v (U.int L)), some (W.own ((bw ws ps).map U.int)), some (W.v (U.int (mv ps))), some (W.v (U.ref σ.length)),
      some (W.v (U.ref (σ.length + 1))), some (W.v (U.tup [U.vl (ws.map U.int), U.int came])), none, none, none]
    σ3 { nx := fun x s' => Q (W.v U.non) s', rt := Q, ex := fun c r x s' => X c r s' } := by
    show vpSs _ (Ss.cons (S.asg (Tg.nm 8) _) _) _ _ _
    walk_at "s"
    refine ⟨iD, done_v a3 (by omega) hL hc hwc hp (by omega) fun d s hd hd2 hk => ?_⟩
    have kk : ∀ j, j < σ.length → s[j]? = σ[j]? := fun j hj => by
      rw [hk j ?_ (by omega)]
      · exact k3 j hj
      · have := (List.getElem?_eq_some_iff.mp a3).1
        omega
    have h4 : s[n]? = some (beltO L (ws.map U.int) came) := by rw [kk n hn]; exact h
    walk_at "s"
    rw [decide_eq_false (show ¬ (d : Int) < 0 by omega)]
    walk_at "v"
    refine ⟨_, _, h4, _, beltT.mt "worths_now" "Belt.worths_now" rfl, rfl, now_v beltT h4 ?_⟩
    walk_at "v"
    refine ⟨_, _, h4, "Belt.came_now", rfl, rfl, came_v h4 ?_⟩
    walk_at "v"
    refine kept_ue ?_
    walk_at "n"
    by_cases hdm : d < mv ps
    · rw [decide_eq_true (show (d : Int) < (mv ps : Int) by omega)]
      walk_at "v"
      exact q s kk
    · rw [decide_eq_false (show ¬ (d : Int) < (mv ps : Int) by omega)]
      walk_at "v"
      have b4 := hd2 (by omega)
      have hW : ((Wi ws ps L (mv ps)).take ps.length) = bw ws ps := by
        unfold Wi
        rw [Nat.sub_self, List.drop_zero]
        exact bw_head (by omega) hp
      have hWl : ps.length ≤ (Wi ws ps L (mv ps)).length := by
        have := congrArg List.length hW
        rw [List.length_take, bl] at this
        omega
      refine ⟨by omega, by omega, ?_⟩
      refine comp_map (fun u => match u with | .int p => .int ((Wi ws ps L (mv ps)).getD p.toNat 0) | _ => .non) trivial (by simp; omega) (fun u K hu hK => ?_) ?_
      · obtain ⟨m, hm2, rfl⟩ := List.mem_map.mp hu
        have hm3 := List.mem_range.mp hm2
        walk_at "v"
        refine ⟨_, _, b4, _, beltT.mt "read" "Belt.read" rfl, rfl, read_v beltT b4 (by omega) (by omega) (rd _ m (by omega)) ?_⟩
        exact hK
      walk_at "v"
      rw [Int.toNat_natCast, rdc _ hWl, hW]
      refine ue_ints (fun _ => ?_) (fun e => absurd rfl e)
      exact q s kk
  by_cases hm0 : mv ps = 0
  · rw [if_neg (show ¬ 0 < (mv ps : Int) by omega), if_neg (show ¬ 0 < (mv ps : Int) by omega)]
    exact rest
  · rw [if_pos (show 0 < (mv ps : Int) by omega)]
    rw [show ((mv ps : Int) - 1) = ((mv ps - 1 : Nat) : Int) by omega, cutU_end, ← List.map_drop]
    have hms := mv_miss ps (mv ps - 1) (by omega)
    refine comp_map (fun u => match u with | .tup [.int i, .int p] => .bl (decide (p = i)) | _ => .non) trivial (by simp; omega) (fun u K hu hK => ?_) ?_
    · obtain ⟨⟨p, i⟩, hpi, rfl⟩ := List.mem_map.mp hu
      have := List.mem_zipIdx_iff_getElem?.mp hpi
      simp only [List.getElem?_map] at this
      obtain ⟨z, _, rfl⟩ := Option.map_eq_some_iff.mp this
      walk_at "v"
      exact hK
    walk_at "v"
    refine ⟨((ps.drop (mv ps - 1)).zipIdx).map fun p => decide (p.1 = (p.2 : Int)), ?_, ?_⟩
    · rw [List.zipIdx_map, List.map_map, List.map_map, List.map_map]
      rfl
    · have hall : (((ps.drop (mv ps - 1)).zipIdx).map fun p => decide (p.1 = (p.2 : Int))).all id = false := by
        rw [Bool.eq_false_iff]
        intro ha
        rw [List.all_eq_true] at ha
        apply hms
        apply List.ext_getElem
        · rw [List.length_drop, up_len]
        · intro i h1 h2
          have := ha (decide ((ps.drop (mv ps - 1))[i] = (i : Int))) (List.mem_map.mpr ⟨((ps.drop (mv ps - 1))[i], i), by rw [List.mem_zipIdx_iff_getElem?]; exact List.getElem?_eq_getElem h1, rfl⟩)
          simp only [id, decide_eq_true_eq] at this
          rw [this]
          simp [up]
      rw [hall]
      walk_at "v"
      exact rest
end
theorem lawV : LawV tu 12 := by
  intro ns0 hn0 hb0
  refine uf_in rfl (F := fn_law) rfl rfl ?_
  have hT := iT 11
  have iC : (cuOf tu (UF tu 11)).isf "_law_cells" = true := cu_isf (F := fn__law_cells) rfl
  have iB : (cuOf tu (UF tu 11)).isf "_law_box" = true := cu_isf (F := fn__law_box) rfl
  have iW : (cuOf tu (UF tu 11)).isf "_law_worth" = true := cu_isf (F := fn__law_worth) rfl
  have iP : (cuOf tu (UF tu 11)).isf "_law_places" = true := cu_isf (F := fn__law_places) rfl
  have iR : (cuOf tu (UF tu 11)).isf "_law_right" = true := cu_isf (F := fn__law_right) rfl
  unfold fn_law
  walk_at "s"
  refine ⟨iC, cells_v hn0 fun cs h2 h6 => ?_⟩
  walk_at "n"
  refine ⟨by omega, by omega, ?_⟩
  refine each_v (fun i ev s => ∃ x2 x3 x4 x5 x6 x7 x8 w, frzU w = .vl (cs.map U.int) ∧ ev = [some (.v (.scr ns0)), some w, x2, x3, x4, x5, x6, x7, x8]) ⟨_, _, _, _, _, _, _, _, rfl, rfl⟩ (fun _ _ _ _ => by rw [uk_nil]; trivial) ?_ ?_
  · rintro i u ev s K hi ⟨x2, x3, x4, x5, x6, x7, x8, w, hw, rfl⟩ hK
    have hi2 := (List.getElem?_eq_some_iff.mp hi).1
    simp only [List.length_map, List.length_range] at hi2
    obtain rfl : u = .int (i : Nat) := by
      rw [List.getElem?_map, List.getElem?_range hi2] at hi
      cases hi; rfl
    walk_at "n"
    rw [hw]
    refine ⟨iB, box_v rfl (by omega) (by omega) ?_⟩
    walk_at "n"
    refine ⟨hT, tk (by decide) (by decide) fun r l1 u1 => ?_⟩
    walk_at "v"
    obtain ⟨L, hL⟩ : ∃ L : Nat, 2 + r = (L : Int) := ⟨(2 + r).toNat, by omega⟩
    rw [hL]
    walk_at "n"
    have hb0 : (s ++ [Uo.ins "Belt" []])[s.length]? = some (.ins "Belt" []) := by simp
    refine ⟨_, rfl, init_v beltT hb0 ⟨rfl, ?_⟩⟩
    have hb1 : ((s ++ [Uo.ins "Belt" []]).set s.length (beltO L [] 0))[s.length]? = some (beltO L [] 0) := List.getElem?_set_self (by simp)
    generalize (s ++ [Uo.ins "Belt" []]).set s.length (beltO L [] 0) = s1 at hb1
    generalize s.length = n at hb1
    walk_at "n"
    refine ⟨hT, tk (by omega) (by omega) fun r2 l2 u2 => ?_⟩
    walk_at "v"
    obtain ⟨D, hD⟩ : ∃ D : Nat, 1 + r2 = (D : Int) := ⟨(1 + r2).toNat, by omega⟩
    rw [hD]
    refine ⟨by omega, by omega, ?_⟩
    refine each_v (fun j ev s => ∃ (ws : List Int) (x6 : Option W), s[n]? = some (beltO L (ws.map U.int) (j : Nat)) ∧ ws.length = min j L ∧ ev = [some (.v (.scr ns0)), some (.v (.vl (cs.map U.int))), some (.v (.int (i : Nat))), some (.v .box), some (.v (.int L)), some (.v (.ref n)), x6, x7, x8]) ⟨[], x6, hb1, by simp, rfl⟩ (fun _ _ _ _ => by rw [uk_nil]; trivial) ?_ ?_
    · rintro j u ev s K2 hj ⟨ws, y6, hs, hwl, rfl⟩ hK2
      have hj2 := (List.getElem?_eq_some_iff.mp hj).1
      simp only [List.length_map, List.length_range] at hj2
      obtain rfl : u = .int (j : Nat) := by
        rw [List.getElem?_map, List.getElem?_range hj2] at hj
        cases hj; rfl
      walk_at "n"
      refine ⟨_, _, hs, _, beltT.mt "drop" "Belt.drop" rfl, rfl, iW, worth_v fun wv => ?_⟩
      walk_at "v"
      refine drop_v beltT hs (by rw [List.length_map]; omega) ?_
      walk_at "v"
      refine hK2 _ _ ⟨(wv :: ws).take L, some (.v (.int (j : Nat))), ?_, ?_, rfl⟩
      · rw [List.getElem?_set_self (List.getElem?_eq_some_iff.mp hs).1, cutU_pre, ← List.map_cons, ← List.map_take]; rfl
      · rw [List.length_take, List.length_cons]; omega
    · rintro ev s ⟨ws, y6, hs, hwl, rfl⟩
      simp only [List.length_map, List.length_range, Int.toNat_natCast] at hs hwl
      walk_at "n"
      refine ⟨_, _, hs, "Belt.came_now", rfl, rfl, came_v hs ?_⟩
      walk_at "v"
      obtain hR : (if (D : Int) < L then (D : Int) else L) = (ws.length : Int) := by
        by_cases hDL : (D : Int) < L
        · rw [if_pos hDL]; omega
        · rw [if_neg hDL]; omega
      rw [hR]
      walk_at "n"
      refine ⟨by decide, by decide, ?_⟩
      refine each_v (fun j ev s => ∃ (x8 : Option W), s[n]? = some (beltO L (ws.map U.int) (D : Nat)) ∧ ev = [some (.v (.scr ns0)), some (.v (.vl (cs.map U.int))), some (.v (.int (i : Nat))), some (.v .box), some (.v (.int L)), some (.v (.ref n)), y6, some (.v (.int ws.length)), x8]) ⟨x8, hs, rfl⟩ (fun _ _ _ _ => by rw [uk_nil]; trivial) ?_ ?_
      · rintro j u ev s K2 hj ⟨y8, hs, rfl⟩ hK2
        have hj2 := (List.getElem?_eq_some_iff.mp hj).1
        simp only [List.length_map, List.length_range] at hj2
        obtain rfl : u = .int (j : Nat) := by
          rw [List.getElem?_map, List.getElem?_range hj2] at hj
          cases hj; rfl
        have hn := (List.getElem?_eq_some_iff.mp hs).1
        walk_at "n"
        refine ⟨iR, iP, places_v (by omega) (by omega) fun ps hpl hp => ?_⟩
        walk_at "v"
        refine right_v hs (by omega) (by omega) (by omega) (by omega) hp hpl fun s' hk => ?_
        walk_at "v"
        exact hK2 _ _ ⟨_, by rw [hk n hn]; exact hs, rfl⟩
      · rintro ev s ⟨y8, hs, rfl⟩
        walk_at "v"
        exact hK _ _ ⟨_, _, _, _, _, _, _, _, rfl, rfl⟩
  · rintro ev s ⟨x2, x3, x4, x5, x6, x7, x8, w, hw, rfl⟩
    walk_at "n"
theorem law_ok : LawOk tb 12 := by
  refine law_v (T := tu) (fun f p h => ?_) (by unfold LIM; decide +kernel) lawV
  have hm := lookup_mem h
  unfold tu at hm
  simp only [List.mem_cons, List.not_mem_nil, or_false, Prod.mk.injEq] at hm
  rcases hm with ⟨rfl, rfl⟩ | ⟨rfl, rfl⟩
  · exact take_pr rfl
  · exact box_pr rfl
end BpLaw

namespace BpLaw
open PySem PySem.Spec PyProof.Rows L2 Bp
def topS (i : Nat) : Stmt := PySem.Challenge.pw_beltrow_k07_whole_moved_by_doing.main.body.getD i (.Pass ⟨0, 0, 0, 0⟩)
def nfn_moved : Fn := fn_moved.nm ["places"] ["places", "many"]
def nfn__law_cells : Fn := fn__law_cells.nm ["_law_script", "_law_many"] ["_law_script", "_law_many", "_law_cells_here", "_law_k", "_law_cell"]
def nfn__law_box : Fn := fn__law_box.nm ["_law_script", "_law_k"] ["_law_script", "_law_k", "_law_cell"]
def nfn__law_take : Fn := fn__law_take.nm ["_law_box_here", "_law_many"] ["_law_box_here", "_law_many", "_law_found", "_law_once"]
def nfn__law_worth : Fn := fn__law_worth.nm ["_law_box_here"] ["_law_box_here", "_law_way"]
def nfn__law_refused : Fn := fn__law_refused.nm ["_law_belt", "_law_place"] ["_law_belt", "_law_place", "_law_caught", "error"]
def nfn__law_places : Fn := fn__law_places.nm ["_law_box_here", "_law_right_here"] ["_law_box_here", "_law_right_here", "_law_head", "_law_k"]
def nfn__law_done : Fn := fn__law_done.nm ["_law_belt", "_law_places_here", "_law_many", "_law_long"] ["_law_belt", "_law_places_here", "_law_many", "_law_long", "_law_drop", "_law_place", "_law_came", "_law_refused_here"]
def nfn__law_right : Fn := fn__law_right.nm ["_law_belt", "_law_places_here", "_law_long"] ["_law_belt", "_law_places_here", "_law_long", "_law_worths", "_law_many", "_law_anew", "_law_brought", "_law_kept", "_law_done_here", "_law_place", "_law_k"]
def nfn_law : Fn := fn_law.nm ["_law_script"] ["_law_script", "_law_cells_here", "_law_k", "_law_box_here", "_law_long", "_law_belt", "_law_drop", "_law_right_here", "_law_turn"]
def nmt_Belt___init__ : Fn := mt_Belt___init__.nm ["self", "long"] ["self", "long"]
def nmt_Belt_drop : Fn := mt_Belt_drop.nm ["self", "worth"] ["self", "worth"]
def nmt_Belt_read : Fn := mt_Belt_read.nm ["self", "place"] ["self", "place"]
def nmt_Belt_again : Fn := mt_Belt_again.nm ["self", "place"] ["self", "place"]
def nmt_Belt_bring : Fn := mt_Belt_bring.nm ["self", "places"] ["self", "places", "worths", "place"]
def nmt_Belt_worths_now : Fn := mt_Belt_worths_now.nm ["self"] ["self"]
def nmt_Belt_came_now : Fn := mt_Belt_came_now.nm ["self"] ["self"]
def nmt_Belt_twin : Fn := mt_Belt_twin.nm ["self"] ["self", "other"]
def tbN : Tb := ⟨[("moved", nfn_moved), ("_law_cells", nfn__law_cells), ("_law_box", nfn__law_box), ("_law_take", nfn__law_take), ("_law_worth", nfn__law_worth), ("_law_refused", nfn__law_refused), ("_law_places", nfn__law_places), ("_law_done", nfn__law_done), ("_law_right", nfn__law_right), ("law", nfn_law)], tb.gls, tb.tds, [("Belt.__init__", nmt_Belt___init__), ("Belt.drop", nmt_Belt_drop), ("Belt.read", nmt_Belt_read), ("Belt.again", nmt_Belt_again), ("Belt.bring", nmt_Belt_bring), ("Belt.worths_now", nmt_Belt_worths_now), ("Belt.came_now", nmt_Belt_came_now), ("Belt.twin", nmt_Belt_twin)], tb.cls, tb.exs⟩
theorem tbN_ok : TbN tbN tb := ⟨.cons rfl rfl (.cons rfl rfl (.cons rfl rfl (.cons rfl rfl (.cons rfl rfl (.cons rfl rfl (.cons rfl rfl (.cons rfl rfl (.cons rfl rfl (.cons rfl rfl (.nil)))))))))), .cons rfl rfl (.cons rfl rfl (.cons rfl rfl (.cons rfl rfl (.cons rfl rfl (.cons rfl rfl (.cons rfl rfl (.cons rfl rfl (.nil)))))))), rfl, rfl, rfl, rfl⟩
theorem sc0 : FnScope nfn_moved.ns nfn_moved.ps (defScope (topS 9)) := ⟨rfl, rfl, rfl, by decide +kernel, rfl, by decide +kernel, by decide +kernel⟩
theorem ck0 : ckSs nfn_moved.body nfn_moved.ns (defScope (topS 9)) (defBody (topS 9)) = true := by decide +kernel
theorem sc1 : FnScope nfn__law_cells.ns nfn__law_cells.ps (defScope (topS 11)) := ⟨rfl, rfl, rfl, by decide +kernel, rfl, by decide +kernel, by decide +kernel⟩
theorem ck1 : ckSs nfn__law_cells.body nfn__law_cells.ns (defScope (topS 11)) (defBody (topS 11)) = true := by decide +kernel
theorem sc2 : FnScope nfn__law_box.ns nfn__law_box.ps (defScope (topS 12)) := ⟨rfl, rfl, rfl, by decide +kernel, rfl, by decide +kernel, by decide +kernel⟩
theorem ck2 : ckSs nfn__law_box.body nfn__law_box.ns (defScope (topS 12)) (defBody (topS 12)) = true := by decide +kernel
theorem sc3 : FnScope nfn__law_take.ns nfn__law_take.ps (defScope (topS 13)) := ⟨rfl, rfl, rfl, by decide +kernel, rfl, by decide +kernel, by decide +kernel⟩
theorem ck3 : ckSs nfn__law_take.body nfn__law_take.ns (defScope (topS 13)) (defBody (topS 13)) = true := by decide +kernel
theorem sc4 : FnScope nfn__law_worth.ns nfn__law_worth.ps (defScope (topS 14)) := ⟨rfl, rfl, rfl, by decide +kernel, rfl, by decide +kernel, by decide +kernel⟩
theorem ck4 : ckSs nfn__law_worth.body nfn__law_worth.ns (defScope (topS 14)) (defBody (topS 14)) = true := by decide +kernel
theorem sc5 : FnScope nfn__law_refused.ns nfn__law_refused.ps (defScope (topS 15)) := ⟨rfl, rfl, rfl, by decide +kernel, rfl, by decide +kernel, by decide +kernel⟩
theorem ck5 : ckSs nfn__law_refused.body nfn__law_refused.ns (defScope (topS 15)) (defBody (topS 15)) = true := by decide +kernel
theorem sc6 : FnScope nfn__law_places.ns nfn__law_places.ps (defScope (topS 16)) := ⟨rfl, rfl, rfl, by decide +kernel, rfl, by decide +kernel, by decide +kernel⟩
theorem ck6 : ckSs nfn__law_places.body nfn__law_places.ns (defScope (topS 16)) (defBody (topS 16)) = true := by decide +kernel
theorem sc7 : FnScope nfn__law_done.ns nfn__law_done.ps (defScope (topS 17)) := ⟨rfl, rfl, rfl, by decide +kernel, rfl, by decide +kernel, by decide +kernel⟩
theorem ck7 : ckSs nfn__law_done.body nfn__law_done.ns (defScope (topS 17)) (defBody (topS 17)) = true := by decide +kernel
theorem sc8 : FnScope nfn__law_right.ns nfn__law_right.ps (defScope (topS 18)) := ⟨rfl, rfl, rfl, by decide +kernel, rfl, by decide +kernel, by decide +kernel⟩
theorem ck8 : ckSs nfn__law_right.body nfn__law_right.ns (defScope (topS 18)) (defBody (topS 18)) = true := by decide +kernel
theorem sc9 : FnScope nfn_law.ns nfn_law.ps (defScope (topS 19)) := ⟨rfl, rfl, rfl, by decide +kernel, rfl, by decide +kernel, by decide +kernel⟩
theorem ck9 : ckSs nfn_law.body nfn_law.ns (defScope (topS 19)) (defBody (topS 19)) = true := by decide +kernel
def memS (s : Stmt) (j : Nat) : Stmt := match s with
  | .ClassDef _ _ _ b _ _ _ _ _ _ _ => b.getD j (.Pass ⟨0, 0, 0, 0⟩)
  | _ => .Pass ⟨0, 0, 0, 0⟩
theorem msc0 : FnScope nmt_Belt___init__.ns nmt_Belt___init__.ps (defScope (memS (topS 8) 0)) := ⟨rfl, rfl, rfl, by decide +kernel, rfl, by decide +kernel, by decide +kernel⟩
theorem mck0 : ckSs nmt_Belt___init__.body nmt_Belt___init__.ns (defScope (memS (topS 8) 0)) (defBody (memS (topS 8) 0)) = true := by decide +kernel
theorem msc1 : FnScope nmt_Belt_drop.ns nmt_Belt_drop.ps (defScope (memS (topS 8) 1)) := ⟨rfl, rfl, rfl, by decide +kernel, rfl, by decide +kernel, by decide +kernel⟩
theorem mck1 : ckSs nmt_Belt_drop.body nmt_Belt_drop.ns (defScope (memS (topS 8) 1)) (defBody (memS (topS 8) 1)) = true := by decide +kernel
theorem msc2 : FnScope nmt_Belt_read.ns nmt_Belt_read.ps (defScope (memS (topS 8) 2)) := ⟨rfl, rfl, rfl, by decide +kernel, rfl, by decide +kernel, by decide +kernel⟩
theorem mck2 : ckSs nmt_Belt_read.body nmt_Belt_read.ns (defScope (memS (topS 8) 2)) (defBody (memS (topS 8) 2)) = true := by decide +kernel
theorem msc3 : FnScope nmt_Belt_again.ns nmt_Belt_again.ps (defScope (memS (topS 8) 3)) := ⟨rfl, rfl, rfl, by decide +kernel, rfl, by decide +kernel, by decide +kernel⟩
theorem mck3 : ckSs nmt_Belt_again.body nmt_Belt_again.ns (defScope (memS (topS 8) 3)) (defBody (memS (topS 8) 3)) = true := by decide +kernel
theorem msc4 : FnScope nmt_Belt_bring.ns nmt_Belt_bring.ps (defScope (memS (topS 8) 4)) := ⟨rfl, rfl, rfl, by decide +kernel, rfl, by decide +kernel, by decide +kernel⟩
theorem mck4 : ckSs nmt_Belt_bring.body nmt_Belt_bring.ns (defScope (memS (topS 8) 4)) (defBody (memS (topS 8) 4)) = true := by decide +kernel
theorem msc5 : FnScope nmt_Belt_worths_now.ns nmt_Belt_worths_now.ps (defScope (memS (topS 8) 5)) := ⟨rfl, rfl, rfl, by decide +kernel, rfl, by decide +kernel, by decide +kernel⟩
theorem mck5 : ckSs nmt_Belt_worths_now.body nmt_Belt_worths_now.ns (defScope (memS (topS 8) 5)) (defBody (memS (topS 8) 5)) = true := by decide +kernel
theorem msc6 : FnScope nmt_Belt_came_now.ns nmt_Belt_came_now.ps (defScope (memS (topS 8) 6)) := ⟨rfl, rfl, rfl, by decide +kernel, rfl, by decide +kernel, by decide +kernel⟩
theorem mck6 : ckSs nmt_Belt_came_now.body nmt_Belt_came_now.ns (defScope (memS (topS 8) 6)) (defBody (memS (topS 8) 6)) = true := by decide +kernel
theorem msc7 : FnScope nmt_Belt_twin.ns nmt_Belt_twin.ps (defScope (memS (topS 8) 7)) := ⟨rfl, rfl, rfl, by decide +kernel, rfl, by decide +kernel, by decide +kernel⟩
theorem mck7 : ckSs nmt_Belt_twin.body nmt_Belt_twin.ns (defScope (memS (topS 8) 7)) (defBody (memS (topS 8) 7)) = true := by decide +kernel
structure Dfs (K : PySem.W.Frag) (mg : Str → Option Value) (f : Str) (st : Stmt) : Prop where
  ex : ∃ (fa : Addr) (oc : Value) (od an : Option Addr) (osl : Array (Option Value)) (kV doc pm cdv ct : Value), mg f = some (.ref fa) ∧ K.lookup fa = some ⟨oc, od, .func (PySem.W.fnOf f f (defArgs st) (defBody st) (defScope st) .none kV doc pm an cdv ct), osl⟩ ∧ PySem.W.codeIn K cdv f = true ∧ PySem.W.keepIn K (.ref fa) = true
theorem dfs_ft {K : PySem.W.Frag} {mg : Str → Option Value} {f : Str} {st : Stmt} {F : Fn} (h : Dfs K mg f st) (sc : FnScope F.ns F.ps (defScope st)) (ck : ckSs F.body F.ns (defScope st) (defBody st) = true)
    (hb : ∀ (kV doc pm : Value) (an : Option Addr) (cdv ct : Value) (us : List Value), us.length = F.ps.length → bindArgs (PySem.W.fnOf f f (defArgs st) (defBody st) (defScope st) .none kV doc pm an cdv ct) ⟨us, []⟩ = pure (F.ps.zip us)) : FtOk K mg f F := by
  obtain ⟨fa, oc, od, an, osl, kV, doc, pm, cdv, ct, h1, h2, h3, h4⟩ := h.ex
  exact ⟨fa, _, st, h1, fun_mk h2 h3 h4, (fun_mk h2 h3 h4).binds hb, sc, ck⟩
theorem dfs_mk {K : PySem.W.Frag} {h : Heap} {mg : Str → Option Value} (X : K.In h) (G : h.Ns mainGlobals mg) {f : Str} {st : Stmt} {fa : Addr} {oc : Value} {od an : Option Addr} {osl : Array (Option Value)} {kV doc pm cdv ct : Value}
    (a : PySem.W.nsIn K mainGlobals f = some (some (.ref fa))) (l : K.lookup fa = some ⟨oc, od, .func (PySem.W.fnOf f f (defArgs st) (defBody st) (defScope st) .none kV doc pm an cdv ct), osl⟩) (c : PySem.W.codeIn K cdv f = true) (k : PySem.W.keepIn K (.ref fa) = true) : Dfs K mg f st :=
  ⟨⟨fa, oc, od, an, osl, kV, doc, pm, cdv, ct, PySem.W.mg_of X G a, l, c, k⟩⟩
theorem all_fns {K : PySem.W.Frag} {mg : Str → Option Value} (d0 : Dfs K mg "moved" (topS 9)) (d1 : Dfs K mg "_law_cells" (topS 11)) (d2 : Dfs K mg "_law_box" (topS 12)) (d3 : Dfs K mg "_law_take" (topS 13)) (d4 : Dfs K mg "_law_worth" (topS 14)) (d5 : Dfs K mg "_law_refused" (topS 15)) (d6 : Dfs K mg "_law_places" (topS 16)) (d7 : Dfs K mg "_law_done" (topS 17)) (d8 : Dfs K mg "_law_right" (topS 18)) (d9 : Dfs K mg "law" (topS 19)) : ∀ p ∈ tbN.fns, FtOk K mg p.1 p.2 := by
  unfold tbN
  simp only [List.forall_mem_cons]
  exact ⟨dfs_ft d0 sc0 ck0 (fun _ _ _ _ _ _ us hl => match us, hl with | [_], _ => rfl), dfs_ft d1 sc1 ck1 (fun _ _ _ _ _ _ us hl => match us, hl with | [_, _], _ => rfl), dfs_ft d2 sc2 ck2 (fun _ _ _ _ _ _ us hl => match us, hl with | [_, _], _ => rfl), dfs_ft d3 sc3 ck3 (fun _ _ _ _ _ _ us hl => match us, hl with | [_, _], _ => rfl), dfs_ft d4 sc4 ck4 (fun _ _ _ _ _ _ us hl => match us, hl with | [_], _ => rfl), dfs_ft d5 sc5 ck5 (fun _ _ _ _ _ _ us hl => match us, hl with | [_, _], _ => rfl), dfs_ft d6 sc6 ck6 (fun _ _ _ _ _ _ us hl => match us, hl with | [_, _], _ => rfl), dfs_ft d7 sc7 ck7 (fun _ _ _ _ _ _ us hl => match us, hl with | [_, _, _, _], _ => rfl), dfs_ft d8 sc8 ck8 (fun _ _ _ _ _ _ us hl => match us, hl with | [_, _, _], _ => rfl), dfs_ft d9 sc9 ck9 (fun _ _ _ _ _ _ us hl => match us, hl with | [_], _ => rfl), fun _ z => by cases z⟩
theorem all_gls {K : PySem.W.Frag} {mg : Str → Option Value} : ∀ x d, tbN.gls.lookup x = some d → ∃ v u, mg x = some u ∧ RelV v u ∧ ∀ H m, R K H m v d := by
  intro x d h
  have h := lookup_mem h
  unfold tbN tb at h
  simp only [List.mem_cons, List.not_mem_nil, or_false, Prod.mk.injEq] at h
structure Mfs (K : PySem.W.Frag) (C : Addr) (m qn : Str) (st : Stmt) : Prop where
  ex : ∃ (fa : Addr) (oc : Value) (od an : Option Addr) (osl : Array (Option Value)) (kV doc pm cdv ct : Value), PySem.W.findIn K (.ref C) m = some (some (.ref fa)) ∧ PySem.W.isFn K (.ref fa) = true ∧ K.lookup fa = some ⟨oc, od, .func (PySem.W.fnOf m qn (defArgs st) (defBody st) (defScope st) .none kV doc pm an cdv ct), osl⟩ ∧ PySem.W.codeIn K cdv qn = true ∧ PySem.W.keepIn K (.ref fa) = true
theorem mfs_mk {K : PySem.W.Frag} {C : Addr} {m qn : Str} {st : Stmt} {fa : Addr} {oc : Value} {od an : Option Addr} {osl : Array (Option Value)} {kV doc pm cdv ct : Value} (a : PySem.W.findIn K (.ref C) m = some (some (.ref fa))) (i : PySem.W.isFn K (.ref fa) = true) (l : K.lookup fa = some ⟨oc, od, .func (PySem.W.fnOf m qn (defArgs st) (defBody st) (defScope st) .none kV doc pm an cdv ct), osl⟩) (c : PySem.W.codeIn K cdv qn = true) (k : PySem.W.keepIn K (.ref fa) = true) : Mfs K C m qn st := ⟨⟨fa, oc, od, an, osl, kV, doc, pm, cdv, ct, a, i, l, c, k⟩⟩
theorem mfs_ok {K : PySem.W.Frag} {C : Addr} {T : Tb} {m qn g : Str} {st : Stmt} {F : Fn} (h : Mfs K C m qn st) (c : Cls K C) (hd : T.df g = some F) (sc : FnScope F.ns F.ps (defScope st)) (ck : ckSs F.body F.ns (defScope st) (defBody st) = true)
    (hb : ∀ (kV doc pm : Value) (an : Option Addr) (cdv ct : Value) (us : List Value), us.length = F.ps.length → bindArgs (PySem.W.fnOf m qn (defArgs st) (defBody st) (defScope st) .none kV doc pm an cdv ct) ⟨us, []⟩ = pure (F.ps.zip us)) :
    ∃ fa fd F st nm qn, Cls K C ∧ Meth K C m fa ∧ T.df g = some F ∧ Fun K nm qn st fa fd ∧ L2.Binds K fd F.ps [] ∧ FnScope F.ns F.ps (defScope st) ∧ ckSs F.body F.ns (defScope st) (defBody st) = true := by
  obtain ⟨fa, oc, od, an, osl, kV, doc, pm, cdv, ct, h1, h2, h3, h4, h5⟩ := h.ex
  exact ⟨fa, _, F, st, m, qn, c, ⟨h1, h2, h5⟩, hd, fun_mk h3 h4 h5, (fun_mk h3 h4 h5).binds hb, sc, ck⟩
theorem fl_mem {T : Tb} {c f : Str} (h : T.fl c f = true) : ∃ p, (c, p) ∈ T.cls ∧ f ∈ p.2 := by
  unfold Tb.fl at h
  split at h
  · rename_i p e; exact ⟨p, lookup_mem e, by simpa using h⟩
  · cases h
theorem mtk_mem {T : Tb} {c m g : Str} (h : T.mtk c m = some g) : ∃ p, (c, p) ∈ T.cls ∧ (m, g) ∈ p.1 := by
  unfold Tb.mtk at h
  split at h
  · rename_i p e; exact ⟨p, lookup_mem e, lookup_mem h⟩
  · cases h
theorem all_cls {K : PySem.W.Frag} {h : Heap} {mg : Str → Option Value} (X : K.In h) (G : h.Ns mainGlobals mg) {C0 : Addr} (ca0 : PySem.W.nsIn K mainGlobals "Belt" = some (some (.ref C0))) (cp0 : PySem.W.plainGet K C0 Str.empty = true) (ch0 : PySem.W.hasDictIn K C0 = true) (co0 : PySem.W.plainOver K C0 = true) (cs0 : PySem.W.findIn K (.ref C0) "__setattr__" = some (some (.builtin "object.__setattr__"))) (cm0 : PySem.W.makesIn K C0 = true) (ck0c : PySem.W.keepIn K (.ref C0) = true) (nf0_0 : PySem.W.findIn K (.ref C0) "long" = some none) (nf0_1 : PySem.W.findIn K (.ref C0) "worths" = some none) (nf0_2 : PySem.W.findIn K (.ref C0) "came" = some none) (mm0_0 : Mfs K C0 "__init__" "Belt.__init__" (memS (topS 8) 0)) (mm0_1 : Mfs K C0 "drop" "Belt.drop" (memS (topS 8) 1)) (mm0_2 : Mfs K C0 "read" "Belt.read" (memS (topS 8) 2)) (mm0_3 : Mfs K C0 "again" "Belt.again" (memS (topS 8) 3)) (mm0_4 : Mfs K C0 "bring" "Belt.bring" (memS (topS 8) 4)) (mm0_5 : Mfs K C0 "worths_now" "Belt.worths_now" (memS (topS 8) 5)) (mm0_6 : Mfs K C0 "came_now" "Belt.came_now" (memS (topS 8) 6)) (mm0_7 : Mfs K C0 "twin" "Belt.twin" (memS (topS 8) 7)) : ClOk K mg (caOf K) tbN := by
  have ce0 : caOf K "Belt" = some C0 := by unfold caOf; rw [ca0]
  have cl0 : Cls K C0 := ⟨cp0, ch0, co0, cs0⟩
  refine ⟨fun c f C hf hc => ?_, fun c m g C hf hc => ?_, fun c g hf => ?_⟩
  · obtain ⟨p, hm, hp⟩ := fl_mem hf
    unfold tbN tb at hm
    simp only [List.mem_cons, List.not_mem_nil, or_false, Prod.mk.injEq] at hm
    rcases hm with ⟨rfl, rfl⟩
    · rw [ce0] at hc
      cases hc
      simp only [List.mem_cons, List.not_mem_nil, or_false] at hp
      rcases hp with rfl | rfl | rfl
      · exact ⟨cl0, nf0_0⟩
      · exact ⟨cl0, nf0_1⟩
      · exact ⟨cl0, nf0_2⟩
  · obtain ⟨p, hm, hp⟩ := mtk_mem hf
    unfold tbN tb at hm
    simp only [List.mem_cons, List.not_mem_nil, or_false, Prod.mk.injEq] at hm
    rcases hm with ⟨rfl, rfl⟩
    · rw [ce0] at hc
      cases hc
      simp only [List.mem_cons, List.not_mem_nil, or_false, Prod.mk.injEq] at hp
      rcases hp with ⟨rfl, rfl⟩ | ⟨rfl, rfl⟩ | ⟨rfl, rfl⟩ | ⟨rfl, rfl⟩ | ⟨rfl, rfl⟩ | ⟨rfl, rfl⟩ | ⟨rfl, rfl⟩ | ⟨rfl, rfl⟩
      · exact mfs_ok (F := nmt_Belt___init__) mm0_0 cl0 rfl msc0 mck0 (fun _ _ _ _ _ _ us hl => match us, hl with | [_, _], _ => rfl)
      · exact mfs_ok (F := nmt_Belt_drop) mm0_1 cl0 rfl msc1 mck1 (fun _ _ _ _ _ _ us hl => match us, hl with | [_, _], _ => rfl)
      · exact mfs_ok (F := nmt_Belt_read) mm0_2 cl0 rfl msc2 mck2 (fun _ _ _ _ _ _ us hl => match us, hl with | [_, _], _ => rfl)
      · exact mfs_ok (F := nmt_Belt_again) mm0_3 cl0 rfl msc3 mck3 (fun _ _ _ _ _ _ us hl => match us, hl with | [_, _], _ => rfl)
      · exact mfs_ok (F := nmt_Belt_bring) mm0_4 cl0 rfl msc4 mck4 (fun _ _ _ _ _ _ us hl => match us, hl with | [_, _], _ => rfl)
      · exact mfs_ok (F := nmt_Belt_worths_now) mm0_5 cl0 rfl msc5 mck5 (fun _ _ _ _ _ _ us hl => match us, hl with | [_], _ => rfl)
      · exact mfs_ok (F := nmt_Belt_came_now) mm0_6 cl0 rfl msc6 mck6 (fun _ _ _ _ _ _ us hl => match us, hl with | [_], _ => rfl)
      · exact mfs_ok (F := nmt_Belt_twin) mm0_7 cl0 rfl msc7 mck7 (fun _ _ _ _ _ _ us hl => match us, hl with | [_], _ => rfl)
  · obtain ⟨p, hm, hp⟩ := mtk_mem hf
    unfold tbN tb at hm
    simp only [List.mem_cons, List.not_mem_nil, or_false, Prod.mk.injEq] at hm
    rcases hm with ⟨rfl, rfl⟩
    · obtain ⟨fa, oc, od, an, osl, kV, doc, pm, cdv, ct, h1, h2, h3, h4, h5⟩ := mm0_0.ex
      exact ⟨(by simp only [List.mem_cons, List.not_mem_nil, or_false, Prod.mk.injEq, Bp.ofs_inj, String.reduceEq, false_and, false_or, true_and, or_self, and_self, and_true, reduceCtorEq] at hp; subst hp; decide), C0, fa, ce0, PySem.W.mg_of X G ca0, ⟨cm0, h1, h2, ck0c⟩⟩
theorem xsc3 : FnScope ["self", "row"] ["self", "row"] (defScope (memS (topS 4) 0)) := ⟨rfl, rfl, rfl, by decide +kernel, rfl, by decide +kernel, by decide +kernel⟩
theorem xsc4 : FnScope ["self", "row"] ["self", "row"] (defScope (memS (topS 5) 0)) := ⟨rfl, rfl, rfl, by decide +kernel, rfl, by decide +kernel, by decide +kernel⟩
theorem xsc5 : FnScope ["self", "row"] ["self", "row"] (defScope (memS (topS 6) 0)) := ⟨rfl, rfl, rfl, by decide +kernel, rfl, by decide +kernel, by decide +kernel⟩
def spK (K : PySem.W.Frag) (k : Nat) : Sp := spF K (caOf K) tbN k "law"
theorem all_mk {l : PySem.W.OpenLaw} {w : World} {K : PySem.W.Frag} {h : Heap} {mg : Str → Option Value} {fa : Addr} (X : K.In h) (G : h.Ns mainGlobals mg) (hfa : mg "law" = some (.ref fa)) (d0 : Dfs K mg "moved" (topS 9)) (d1 : Dfs K mg "_law_cells" (topS 11)) (d2 : Dfs K mg "_law_box" (topS 12)) (d3 : Dfs K mg "_law_take" (topS 13)) (d4 : Dfs K mg "_law_worth" (topS 14)) (d5 : Dfs K mg "_law_refused" (topS 15)) (d6 : Dfs K mg "_law_places" (topS 16)) (d7 : Dfs K mg "_law_done" (topS 17)) (d8 : Dfs K mg "_law_right" (topS 18)) (d9 : Dfs K mg "law" (topS 19)) {C0 : Addr} (ca0 : PySem.W.nsIn K mainGlobals "Belt" = some (some (.ref C0))) (cp0 : PySem.W.plainGet K C0 Str.empty = true) (ch0 : PySem.W.hasDictIn K C0 = true) (co0 : PySem.W.plainOver K C0 = true) (cs0 : PySem.W.findIn K (.ref C0) "__setattr__" = some (some (.builtin "object.__setattr__"))) (cm0 : PySem.W.makesIn K C0 = true) (ck0c : PySem.W.keepIn K (.ref C0) = true) (nf0_0 : PySem.W.findIn K (.ref C0) "long" = some none) (nf0_1 : PySem.W.findIn K (.ref C0) "worths" = some none) (nf0_2 : PySem.W.findIn K (.ref C0) "came" = some none) (mm0_0 : Mfs K C0 "__init__" "Belt.__init__" (memS (topS 8) 0)) (mm0_1 : Mfs K C0 "drop" "Belt.drop" (memS (topS 8) 1)) (mm0_2 : Mfs K C0 "read" "Belt.read" (memS (topS 8) 2)) (mm0_3 : Mfs K C0 "again" "Belt.again" (memS (topS 8) 3)) (mm0_4 : Mfs K C0 "bring" "Belt.bring" (memS (topS 8) 4)) (mm0_5 : Mfs K C0 "worths_now" "Belt.worths_now" (memS (topS 8) 5)) (mm0_6 : Mfs K C0 "came_now" "Belt.came_now" (memS (topS 8) 6)) (mm0_7 : Mfs K C0 "twin" "Belt.twin" (memS (topS 8) 7)) {E0 : Addr} (xa0 : PySem.W.nsIn K mainGlobals "BeltError" = some (some (.ref E0))) (xga0 : PySem.W.findIn K (.ref E0) "__getattribute__" = some (some (.builtin "BaseException.__getattribute__"))) (xgg0 : PySem.W.findIn K (.ref E0) "__getattr__" = some none) (xex0 : PySem.W.subIn K (.ref E0) (.type "BaseException") = some true) (xcd0 : PySem.W.findIn K (.ref E0) "__class__" = some (some (.builtin "object.__class__"))) (xmo0 : PySem.W.mroIn K E0 (.type "object") = some true) (xty0 : PySem.W.typeIn K (.ref E0) = some (.type "type")) (xkp0 : PySem.W.keepIn K (.ref E0) = true) (xhd0 : PySem.W.hasDictIn K E0 = true) (xnr0 : PySem.W.findIn K (.ref E0) "row" = some none) (xve0 : PySem.W.subIn K (.ref E0) (.type "ValueError") = some true) (xi0 : PySem.W.excIn K E0 veB "ValueError.__new__" = true) {E1 : Addr} (xa1 : PySem.W.nsIn K mainGlobals "NotYet" = some (some (.ref E1))) (xga1 : PySem.W.findIn K (.ref E1) "__getattribute__" = some (some (.builtin "BaseException.__getattribute__"))) (xgg1 : PySem.W.findIn K (.ref E1) "__getattr__" = some none) (xex1 : PySem.W.subIn K (.ref E1) (.type "BaseException") = some true) (xcd1 : PySem.W.findIn K (.ref E1) "__class__" = some (some (.builtin "object.__class__"))) (xmo1 : PySem.W.mroIn K E1 (.type "object") = some true) (xty1 : PySem.W.typeIn K (.ref E1) = some (.type "type")) (xkp1 : PySem.W.keepIn K (.ref E1) = true) (xhd1 : PySem.W.hasDictIn K E1 = true) (xnr1 : PySem.W.findIn K (.ref E1) "row" = some none) (xve1 : PySem.W.subIn K (.ref E1) (.type "ValueError") = some true) (xi1 : PySem.W.excIn K E1 veB "ValueError.__new__" = true) {E2 : Addr} (xa2 : PySem.W.nsIn K mainGlobals "Fell" = some (some (.ref E2))) (xga2 : PySem.W.findIn K (.ref E2) "__getattribute__" = some (some (.builtin "BaseException.__getattribute__"))) (xgg2 : PySem.W.findIn K (.ref E2) "__getattr__" = some none) (xex2 : PySem.W.subIn K (.ref E2) (.type "BaseException") = some true) (xcd2 : PySem.W.findIn K (.ref E2) "__class__" = some (some (.builtin "object.__class__"))) (xmo2 : PySem.W.mroIn K E2 (.type "object") = some true) (xty2 : PySem.W.typeIn K (.ref E2) = some (.type "type")) (xkp2 : PySem.W.keepIn K (.ref E2) = true) (xhd2 : PySem.W.hasDictIn K E2 = true) (xnr2 : PySem.W.findIn K (.ref E2) "row" = some none) (xve2 : PySem.W.subIn K (.ref E2) (.type "ValueError") = some true) (xi2 : PySem.W.excIn K E2 veB "ValueError.__new__" = true) {E3 : Addr} (xa3 : PySem.W.nsIn K mainGlobals "BadLine" = some (some (.ref E3))) (xga3 : PySem.W.findIn K (.ref E3) "__getattribute__" = some (some (.builtin "BaseException.__getattribute__"))) (xgg3 : PySem.W.findIn K (.ref E3) "__getattr__" = some none) (xex3 : PySem.W.subIn K (.ref E3) (.type "BaseException") = some true) (xcd3 : PySem.W.findIn K (.ref E3) "__class__" = some (some (.builtin "object.__class__"))) (xmo3 : PySem.W.mroIn K E3 (.type "object") = some true) (xty3 : PySem.W.typeIn K (.ref E3) = some (.type "type")) (xkp3 : PySem.W.keepIn K (.ref E3) = true) (xhd3 : PySem.W.hasDictIn K E3 = true) (xnr3 : PySem.W.findIn K (.ref E3) "row" = some none) (xve3 : PySem.W.subIn K (.ref E3) (.type "ValueError") = some true) (xi3 : InitOk K E3) {E4 : Addr} (xa4 : PySem.W.nsIn K mainGlobals "BadRow" = some (some (.ref E4))) (xga4 : PySem.W.findIn K (.ref E4) "__getattribute__" = some (some (.builtin "BaseException.__getattribute__"))) (xgg4 : PySem.W.findIn K (.ref E4) "__getattr__" = some none) (xex4 : PySem.W.subIn K (.ref E4) (.type "BaseException") = some true) (xcd4 : PySem.W.findIn K (.ref E4) "__class__" = some (some (.builtin "object.__class__"))) (xmo4 : PySem.W.mroIn K E4 (.type "object") = some true) (xty4 : PySem.W.typeIn K (.ref E4) = some (.type "type")) (xkp4 : PySem.W.keepIn K (.ref E4) = true) (xhd4 : PySem.W.hasDictIn K E4 = true) (xnr4 : PySem.W.findIn K (.ref E4) "row" = some none) (xve4 : PySem.W.subIn K (.ref E4) (.type "ValueError") = some true) (xi4 : InitOk K E4) {E5 : Addr} (xa5 : PySem.W.nsIn K mainGlobals "BadSheet" = some (some (.ref E5))) (xga5 : PySem.W.findIn K (.ref E5) "__getattribute__" = some (some (.builtin "BaseException.__getattribute__"))) (xgg5 : PySem.W.findIn K (.ref E5) "__getattr__" = some none) (xex5 : PySem.W.subIn K (.ref E5) (.type "BaseException") = some true) (xcd5 : PySem.W.findIn K (.ref E5) "__class__" = some (some (.builtin "object.__class__"))) (xmo5 : PySem.W.mroIn K E5 (.type "object") = some true) (xty5 : PySem.W.typeIn K (.ref E5) = some (.type "type")) (xkp5 : PySem.W.keepIn K (.ref E5) = true) (xhd5 : PySem.W.hasDictIn K E5 = true) (xnr5 : PySem.W.findIn K (.ref E5) "row" = some none) (xve5 : PySem.W.subIn K (.ref E5) (.type "ValueError") = some true) (xi5 : InitOk K E5) (xs0_0 : PySem.W.subIn K (.ref E0) (.ref E0) = some true) (xs0_1 : PySem.W.subIn K (.ref E0) (.ref E1) = some false) (xs0_2 : PySem.W.subIn K (.ref E0) (.ref E2) = some false) (xs0_3 : PySem.W.subIn K (.ref E0) (.ref E3) = some false) (xs0_4 : PySem.W.subIn K (.ref E0) (.ref E4) = some false) (xs0_5 : PySem.W.subIn K (.ref E0) (.ref E5) = some false) (xs1_0 : PySem.W.subIn K (.ref E1) (.ref E0) = some true) (xs1_1 : PySem.W.subIn K (.ref E1) (.ref E1) = some true) (xs1_2 : PySem.W.subIn K (.ref E1) (.ref E2) = some false) (xs1_3 : PySem.W.subIn K (.ref E1) (.ref E3) = some false) (xs1_4 : PySem.W.subIn K (.ref E1) (.ref E4) = some false) (xs1_5 : PySem.W.subIn K (.ref E1) (.ref E5) = some false) (xs2_0 : PySem.W.subIn K (.ref E2) (.ref E0) = some true) (xs2_1 : PySem.W.subIn K (.ref E2) (.ref E1) = some false) (xs2_2 : PySem.W.subIn K (.ref E2) (.ref E2) = some true) (xs2_3 : PySem.W.subIn K (.ref E2) (.ref E3) = some false) (xs2_4 : PySem.W.subIn K (.ref E2) (.ref E4) = some false) (xs2_5 : PySem.W.subIn K (.ref E2) (.ref E5) = some false) (xs3_0 : PySem.W.subIn K (.ref E3) (.ref E0) = some true) (xs3_1 : PySem.W.subIn K (.ref E3) (.ref E1) = some false) (xs3_2 : PySem.W.subIn K (.ref E3) (.ref E2) = some false) (xs3_3 : PySem.W.subIn K (.ref E3) (.ref E3) = some true) (xs3_4 : PySem.W.subIn K (.ref E3) (.ref E4) = some false) (xs3_5 : PySem.W.subIn K (.ref E3) (.ref E5) = some false) (xs4_0 : PySem.W.subIn K (.ref E4) (.ref E0) = some true) (xs4_1 : PySem.W.subIn K (.ref E4) (.ref E1) = some false) (xs4_2 : PySem.W.subIn K (.ref E4) (.ref E2) = some false) (xs4_3 : PySem.W.subIn K (.ref E4) (.ref E3) = some false) (xs4_4 : PySem.W.subIn K (.ref E4) (.ref E4) = some true) (xs4_5 : PySem.W.subIn K (.ref E4) (.ref E5) = some false) (xs5_0 : PySem.W.subIn K (.ref E5) (.ref E0) = some true) (xs5_1 : PySem.W.subIn K (.ref E5) (.ref E1) = some false) (xs5_2 : PySem.W.subIn K (.ref E5) (.ref E2) = some false) (xs5_3 : PySem.W.subIn K (.ref E5) (.ref E3) = some false) (xs5_4 : PySem.W.subIn K (.ref E5) (.ref E4) = some false) (xs5_5 : PySem.W.subIn K (.ref E5) (.ref E5) = some true) (xsp : PySem.W.specialIn K (.builtin "object.__class__") "__get__" = some (some (.builtin "getset_descriptor.__get__"))) (xtk : PySem.W.takesIn K (.builtin "object.__class__") = some true) (xvn : PySem.W.nsIn K mainGlobals "ValueError" = some none) (z0 : PySem.W.nsIn K mainGlobals "len" = some none) (z1 : PySem.W.nsIn K mainGlobals "list" = some none) (z2 : PySem.W.nsIn K mainGlobals "tuple" = some none) (z3 : PySem.W.nsIn K mainGlobals "divmod" = some none) (z4 : PySem.W.nsIn K mainGlobals "abs" = some none) (z5 : PySem.W.nsIn K mainGlobals "int" = some none) (z6 : PySem.W.nsIn K mainGlobals "max" = some none) (z7 : PySem.W.nsIn K mainGlobals "min" = some none) (z8 : PySem.W.nsIn K mainGlobals "all" = some none) (z9 : PySem.W.nsIn K mainGlobals "any" = some none) (z10 : PySem.W.nsIn K mainGlobals "sum" = some none) (z11 : PySem.W.nsIn K mainGlobals "str" = some none) (z12 : PySem.W.nsIn K mainGlobals "bool" = some none) (z13 : PySem.W.nsIn K mainGlobals "range" = some none) (z14 : PySem.W.nsIn K mainGlobals "enumerate" = some none) (z15 : PySem.W.nsIn K mainGlobals "zip" = some none) (z16 : PySem.W.nsIn K mainGlobals "reversed" = some none) (z17 : PySem.W.nsIn K mainGlobals "isinstance" = some none) (z18 : PySem.W.nsIn K mainGlobals "dict" = some none) (z19 : PySem.W.nsIn K mainGlobals "repr" = some none) (z20 : PySem.W.nsIn K mainGlobals "sorted" = some none) :
    ∃ fd : FuncData, (∀ (s : Shared) (v : Value), BindsTo s fd ⟨[v], []⟩ [("_law_script", v)]) ∧ ∀ base : Heap, K.In base → base.Ns mainGlobals mg → FnG l.prog w K mg base (CXN l.prog w) (12 + 2) fa fd ["_law_script"] (spF K (caOf K) tbN 12 "law") := by
  have hF := all_fns d0 d1 d2 d3 d4 d5 d6 d7 d8 d9
  have hG := all_gls (K := K) (mg := mg)
  have hB : ∀ x ∈ bnames, mg x = none := by
    unfold bnames
    simp only [List.forall_mem_cons]
    exact ⟨PySem.W.mg_none_of X G z0, PySem.W.mg_none_of X G z1, PySem.W.mg_none_of X G z2, PySem.W.mg_none_of X G z3, PySem.W.mg_none_of X G z4, PySem.W.mg_none_of X G z5, PySem.W.mg_none_of X G z6, PySem.W.mg_none_of X G z7, PySem.W.mg_none_of X G z8, PySem.W.mg_none_of X G z9, PySem.W.mg_none_of X G z10, PySem.W.mg_none_of X G z11, PySem.W.mg_none_of X G z12, PySem.W.mg_none_of X G z13, PySem.W.mg_none_of X G z14, PySem.W.mg_none_of X G z15, PySem.W.mg_none_of X G z16, PySem.W.mg_none_of X G z17, PySem.W.mg_none_of X G z18, PySem.W.mg_none_of X G z19, PySem.W.mg_none_of X G z20, fun _ z => by cases z⟩
  obtain ⟨fa0, oc, od, an, osl, kV, doc, pm, cdv, ct, h1, h2, h3, h4⟩ := d9.ex
  have e : fa0 = fa := by have := h1.symm.trans hfa; cases this; rfl
  subst e
  refine ⟨PySem.W.fnOf "law" "law" (defArgs (topS 19)) (defBody (topS 19)) (defScope (topS 19)) .none kV doc pm an cdv ct, fun s v => .of_eq rfl, fun base _ _ => ?_⟩
  have hX : XsOk K mg (caOf K) tbN := by
    refine xs_ok X G [("BeltError", false, E0), ("NotYet", false, E1), ("Fell", false, E2), ("BadLine", true, E3), ("BadRow", true, E4), ("BadSheet", true, E5)] (fun c k hh => ?_) ?_ ?_ ?_ xvn (by decide +kernel)
    · unfold Tb.xk at hh
      obtain ⟨p, hm, hq⟩ := Option.map_eq_some_iff.mp hh
      have hm := lookup_mem hm
      unfold tbN tb at hm
      simp only [List.mem_cons, List.not_mem_nil, or_false, Prod.mk.injEq] at hm
      rcases hm with ⟨rfl, rfl⟩ | ⟨rfl, rfl⟩ | ⟨rfl, rfl⟩ | ⟨rfl, rfl⟩ | ⟨rfl, rfl⟩ | ⟨rfl, rfl⟩
      · subst hq; exact ⟨E0, by simp⟩
      · subst hq; exact ⟨E1, by simp⟩
      · subst hq; exact ⟨E2, by simp⟩
      · subst hq; exact ⟨E3, by simp⟩
      · subst hq; exact ⟨E4, by simp⟩
      · subst hq; exact ⟨E5, by simp⟩
    · simp only [List.forall_mem_cons]
      exact ⟨⟨xa0, ⟨xga0, xgg0, xex0, xcd0, xsp, xtk, xmo0, xty0, xkp0, xhd0, xnr0⟩, by rw [show tbN.sb "BeltError" "ValueError" = true from by decide +kernel]; exact xve0, fun _ => xi0, fun z => (nomatch z)⟩, ⟨xa1, ⟨xga1, xgg1, xex1, xcd1, xsp, xtk, xmo1, xty1, xkp1, xhd1, xnr1⟩, by rw [show tbN.sb "NotYet" "ValueError" = true from by decide +kernel]; exact xve1, fun _ => xi1, fun z => (nomatch z)⟩, ⟨xa2, ⟨xga2, xgg2, xex2, xcd2, xsp, xtk, xmo2, xty2, xkp2, xhd2, xnr2⟩, by rw [show tbN.sb "Fell" "ValueError" = true from by decide +kernel]; exact xve2, fun _ => xi2, fun z => (nomatch z)⟩, ⟨xa3, ⟨xga3, xgg3, xex3, xcd3, xsp, xtk, xmo3, xty3, xkp3, xhd3, xnr3⟩, by rw [show tbN.sb "BadLine" "ValueError" = true from by decide +kernel]; exact xve3, fun z => (nomatch z), fun _ => xi3⟩, ⟨xa4, ⟨xga4, xgg4, xex4, xcd4, xsp, xtk, xmo4, xty4, xkp4, xhd4, xnr4⟩, by rw [show tbN.sb "BadRow" "ValueError" = true from by decide +kernel]; exact xve4, fun z => (nomatch z), fun _ => xi4⟩, ⟨xa5, ⟨xga5, xgg5, xex5, xcd5, xsp, xtk, xmo5, xty5, xkp5, xhd5, xnr5⟩, by rw [show tbN.sb "BadSheet" "ValueError" = true from by decide +kernel]; exact xve5, fun z => (nomatch z), fun _ => xi5⟩, fun _ z => by cases z⟩
    · simp only [List.forall_mem_cons]
      exact ⟨⟨by rw [show tbN.sb "BeltError" "BeltError" = true from by decide +kernel]; exact xs0_0, by rw [show tbN.sb "BeltError" "NotYet" = false from by decide +kernel]; exact xs0_1, by rw [show tbN.sb "BeltError" "Fell" = false from by decide +kernel]; exact xs0_2, by rw [show tbN.sb "BeltError" "BadLine" = false from by decide +kernel]; exact xs0_3, by rw [show tbN.sb "BeltError" "BadRow" = false from by decide +kernel]; exact xs0_4, by rw [show tbN.sb "BeltError" "BadSheet" = false from by decide +kernel]; exact xs0_5, fun _ z => by cases z⟩, ⟨by rw [show tbN.sb "NotYet" "BeltError" = true from by decide +kernel]; exact xs1_0, by rw [show tbN.sb "NotYet" "NotYet" = true from by decide +kernel]; exact xs1_1, by rw [show tbN.sb "NotYet" "Fell" = false from by decide +kernel]; exact xs1_2, by rw [show tbN.sb "NotYet" "BadLine" = false from by decide +kernel]; exact xs1_3, by rw [show tbN.sb "NotYet" "BadRow" = false from by decide +kernel]; exact xs1_4, by rw [show tbN.sb "NotYet" "BadSheet" = false from by decide +kernel]; exact xs1_5, fun _ z => by cases z⟩, ⟨by rw [show tbN.sb "Fell" "BeltError" = true from by decide +kernel]; exact xs2_0, by rw [show tbN.sb "Fell" "NotYet" = false from by decide +kernel]; exact xs2_1, by rw [show tbN.sb "Fell" "Fell" = true from by decide +kernel]; exact xs2_2, by rw [show tbN.sb "Fell" "BadLine" = false from by decide +kernel]; exact xs2_3, by rw [show tbN.sb "Fell" "BadRow" = false from by decide +kernel]; exact xs2_4, by rw [show tbN.sb "Fell" "BadSheet" = false from by decide +kernel]; exact xs2_5, fun _ z => by cases z⟩, ⟨by rw [show tbN.sb "BadLine" "BeltError" = true from by decide +kernel]; exact xs3_0, by rw [show tbN.sb "BadLine" "NotYet" = false from by decide +kernel]; exact xs3_1, by rw [show tbN.sb "BadLine" "Fell" = false from by decide +kernel]; exact xs3_2, by rw [show tbN.sb "BadLine" "BadLine" = true from by decide +kernel]; exact xs3_3, by rw [show tbN.sb "BadLine" "BadRow" = false from by decide +kernel]; exact xs3_4, by rw [show tbN.sb "BadLine" "BadSheet" = false from by decide +kernel]; exact xs3_5, fun _ z => by cases z⟩, ⟨by rw [show tbN.sb "BadRow" "BeltError" = true from by decide +kernel]; exact xs4_0, by rw [show tbN.sb "BadRow" "NotYet" = false from by decide +kernel]; exact xs4_1, by rw [show tbN.sb "BadRow" "Fell" = false from by decide +kernel]; exact xs4_2, by rw [show tbN.sb "BadRow" "BadLine" = false from by decide +kernel]; exact xs4_3, by rw [show tbN.sb "BadRow" "BadRow" = true from by decide +kernel]; exact xs4_4, by rw [show tbN.sb "BadRow" "BadSheet" = false from by decide +kernel]; exact xs4_5, fun _ z => by cases z⟩, ⟨by rw [show tbN.sb "BadSheet" "BeltError" = true from by decide +kernel]; exact xs5_0, by rw [show tbN.sb "BadSheet" "NotYet" = false from by decide +kernel]; exact xs5_1, by rw [show tbN.sb "BadSheet" "Fell" = false from by decide +kernel]; exact xs5_2, by rw [show tbN.sb "BadSheet" "BadLine" = false from by decide +kernel]; exact xs5_3, by rw [show tbN.sb "BadSheet" "BadRow" = false from by decide +kernel]; exact xs5_4, by rw [show tbN.sb "BadSheet" "BadSheet" = true from by decide +kernel]; exact xs5_5, fun _ z => by cases z⟩, fun _ z => by cases z⟩
    · simp only [List.forall_mem_cons]
      exact ⟨by decide +kernel, by decide +kernel, by decide +kernel, by decide +kernel, by decide +kernel, by decide +kernel, fun _ z => by cases z⟩
  have F := fun_mk h2 h3 h4
  exact law_fn (ca := caOf K) hF hB hG (fun x kvs hx => absurd hx (by unfold tbN tb; simp)) (all_cls X G ca0 cp0 ch0 co0 cs0 cm0 ck0c nf0_0 nf0_1 nf0_2 mm0_0 mm0_1 mm0_2 mm0_3 mm0_4 mm0_5 mm0_6 mm0_7) hX (F := nfn_law) rfl F sc9 ck9 11
end BpLaw
open PySem PySem.W PyProof.Rows
set_option maxHeartbeats 0 in
theorem PySem.Challenge.cw_beltrow_k07_whole_moved_by_doing_holds : PySem.Challenge.rw_beltrow_k07_whole_moved_by_doing.Holds := by
  w_on; o_law; k_head; (case hw => w_witness2)
  k_fill
  refine Bp.walkG_of (l := PySem.Challenge.rw_beltrow_k07_whole_moved_by_doing) (n := 63) (lv := 12 + 2) (x := "_law_script") (cx := fun w => Bp.CXN PySem.Challenge.rw_beltrow_k07_whole_moved_by_doing.prog w) (sp := fun w => BpLaw.spK _ 12) rfl (by decide) rfl ⟨rfl, by decide, by decide⟩ (fun w h Y => PySem.W.kIn_of Y) ?F (fun _ H a ns hl hb hO hS => Bp.law_sp (F := BpLaw.nfn_law) rfl rfl (Bp.law_nm BpLaw.tbN_ok BpLaw.law_ok) H a ns hl hb hO hS) (fun _ _ _ _ _ ⟨_, _, _, _, _, _, _, _, _, _, _, _, h⟩ => h)
  case F =>
    intro w mg fa h KX G hmg
    refine' BpLaw.all_mk KX G hmg (BpLaw.dfs_mk KX G ?a0 ?l0 ?c0 ?k0) (BpLaw.dfs_mk KX G ?a1 ?l1 ?c1 ?k1) (BpLaw.dfs_mk KX G ?a2 ?l2 ?c2 ?k2) (BpLaw.dfs_mk KX G ?a3 ?l3 ?c3 ?k3) (BpLaw.dfs_mk KX G ?a4 ?l4 ?c4 ?k4) (BpLaw.dfs_mk KX G ?a5 ?l5 ?c5 ?k5) (BpLaw.dfs_mk KX G ?a6 ?l6 ?c6 ?k6) (BpLaw.dfs_mk KX G ?a7 ?l7 ?c7 ?k7) (BpLaw.dfs_mk KX G ?a8 ?l8 ?c8 ?k8) (BpLaw.dfs_mk KX G ?a9 ?l9 ?c9 ?k9) ?ca0 ?cp0 ?ch0 ?co0 ?cs0 ?cm0 ?ck0c ?nf0_0 ?nf0_1 ?nf0_2 (BpLaw.mfs_mk ?ma0_0 ?mi0_0 ?ml0_0 ?mc0_0 ?mk0_0) (BpLaw.mfs_mk ?ma0_1 ?mi0_1 ?ml0_1 ?mc0_1 ?mk0_1) (BpLaw.mfs_mk ?ma0_2 ?mi0_2 ?ml0_2 ?mc0_2 ?mk0_2) (BpLaw.mfs_mk ?ma0_3 ?mi0_3 ?ml0_3 ?mc0_3 ?mk0_3) (BpLaw.mfs_mk ?ma0_4 ?mi0_4 ?ml0_4 ?mc0_4 ?mk0_4) (BpLaw.mfs_mk ?ma0_5 ?mi0_5 ?ml0_5 ?mc0_5 ?mk0_5) (BpLaw.mfs_mk ?ma0_6 ?mi0_6 ?ml0_6 ?mc0_6 ?mk0_6) (BpLaw.mfs_mk ?ma0_7 ?mi0_7 ?ml0_7 ?mc0_7 ?mk0_7) ?xa0 ?xga0 ?xgg0 ?xex0 ?xcd0 ?xmo0 ?xty0 ?xkp0 ?xhd0 ?xnr0 ?xve0 ?xi0 ?xa1 ?xga1 ?xgg1 ?xex1 ?xcd1 ?xmo1 ?xty1 ?xkp1 ?xhd1 ?xnr1 ?xve1 ?xi1 ?xa2 ?xga2 ?xgg2 ?xex2 ?xcd2 ?xmo2 ?xty2 ?xkp2 ?xhd2 ?xnr2 ?xve2 ?xi2 ?xa3 ?xga3 ?xgg3 ?xex3 ?xcd3 ?xmo3 ?xty3 ?xkp3 ?xhd3 ?xnr3 ?xve3 (Bp.initOk_mk (Bp.oexc_mk ?xl3 ?xr3 ?xsa3 ?xex3b ?xty3b ?xkp3b) ?xia3 ?xit3 ?xil3 ?xic3 ?xik3 BpLaw.xsc3 (fun _ _ _ _ _ _ us hl => match us, hl with | [_, _], _ => rfl) rfl) ?xa4 ?xga4 ?xgg4 ?xex4 ?xcd4 ?xmo4 ?xty4 ?xkp4 ?xhd4 ?xnr4 ?xve4 (Bp.initOk_mk (Bp.oexc_mk ?xl4 ?xr4 ?xsa4 ?xex4b ?xty4b ?xkp4b) ?xia4 ?xit4 ?xil4 ?xic4 ?xik4 BpLaw.xsc4 (fun _ _ _ _ _ _ us hl => match us, hl with | [_, _], _ => rfl) rfl) ?xa5 ?xga5 ?xgg5 ?xex5 ?xcd5 ?xmo5 ?xty5 ?xkp5 ?xhd5 ?xnr5 ?xve5 (Bp.initOk_mk (Bp.oexc_mk ?xl5 ?xr5 ?xsa5 ?xex5b ?xty5b ?xkp5b) ?xia5 ?xit5 ?xil5 ?xic5 ?xik5 BpLaw.xsc5 (fun _ _ _ _ _ _ us hl => match us, hl with | [_, _], _ => rfl) rfl) ?xs0_0 ?xs0_1 ?xs0_2 ?xs0_3 ?xs0_4 ?xs0_5 ?xs1_0 ?xs1_1 ?xs1_2 ?xs1_3 ?xs1_4 ?xs1_5 ?xs2_0 ?xs2_1 ?xs2_2 ?xs2_3 ?xs2_4 ?xs2_5 ?xs3_0 ?xs3_1 ?xs3_2 ?xs3_3 ?xs3_4 ?xs3_5 ?xs4_0 ?xs4_1 ?xs4_2 ?xs4_3 ?xs4_4 ?xs4_5 ?xs5_0 ?xs5_1 ?xs5_2 ?xs5_3 ?xs5_4 ?xs5_5 ?xsp ?xtk ?xvn ?z0 ?z1 ?z2 ?z3 ?z4 ?z5 ?z6 ?z7 ?z8 ?z9 ?z10 ?z11 ?z12 ?z13 ?z14 ?z15 ?z16 ?z17 ?z18 ?z19 ?z20
    (case a0 => k_is); (case l0 => k_is); (case c0 => k_is); (case k0 => k_is); (case a1 => k_is); (case l1 => k_is); (case c1 => k_is); (case k1 => k_is); (case a2 => k_is); (case l2 => k_is); (case c2 => k_is); (case k2 => k_is); (case a3 => k_is); (case l3 => k_is); (case c3 => k_is); (case k3 => k_is); (case a4 => k_is); (case l4 => k_is); (case c4 => k_is); (case k4 => k_is); (case a5 => k_is); (case l5 => k_is); (case c5 => k_is); (case k5 => k_is); (case a6 => k_is); (case l6 => k_is); (case c6 => k_is); (case k6 => k_is); (case a7 => k_is); (case l7 => k_is); (case c7 => k_is); (case k7 => k_is); (case a8 => k_is); (case l8 => k_is); (case c8 => k_is); (case k8 => k_is); (case a9 => k_is); (case l9 => k_is); (case c9 => k_is); (case k9 => k_is); (case ca0 => k_is); (case cp0 => k_is); (case ch0 => k_is); (case co0 => k_is); (case cs0 => k_is); (case cm0 => k_is); (case ck0c => k_is); (case nf0_0 => k_is); (case nf0_1 => k_is); (case nf0_2 => k_is); (case ma0_0 => k_is); (case mi0_0 => k_is); (case ml0_0 => k_is); (case mc0_0 => k_is); (case mk0_0 => k_is); (case ma0_1 => k_is); (case mi0_1 => k_is); (case ml0_1 => k_is); (case mc0_1 => k_is); (case mk0_1 => k_is); (case ma0_2 => k_is); (case mi0_2 => k_is); (case ml0_2 => k_is); (case mc0_2 => k_is); (case mk0_2 => k_is); (case ma0_3 => k_is); (case mi0_3 => k_is); (case ml0_3 => k_is); (case mc0_3 => k_is); (case mk0_3 => k_is); (case ma0_4 => k_is); (case mi0_4 => k_is); (case ml0_4 => k_is); (case mc0_4 => k_is); (case mk0_4 => k_is); (case ma0_5 => k_is); (case mi0_5 => k_is); (case ml0_5 => k_is); (case mc0_5 => k_is); (case mk0_5 => k_is); (case ma0_6 => k_is); (case mi0_6 => k_is); (case ml0_6 => k_is); (case mc0_6 => k_is); (case mk0_6 => k_is); (case ma0_7 => k_is); (case mi0_7 => k_is); (case ml0_7 => k_is); (case mc0_7 => k_is); (case mk0_7 => k_is); (case xa0 => k_is); (case xga0 => k_is); (case xgg0 => k_is); (case xex0 => k_is); (case xcd0 => k_is); (case xmo0 => k_is); (case xty0 => k_is); (case xkp0 => k_is); (case xhd0 => k_is); (case xnr0 => k_is); (case xve0 => k_is); (case xa1 => k_is); (case xga1 => k_is); (case xgg1 => k_is); (case xex1 => k_is); (case xcd1 => k_is); (case xmo1 => k_is); (case xty1 => k_is); (case xkp1 => k_is); (case xhd1 => k_is); (case xnr1 => k_is); (case xve1 => k_is); (case xa2 => k_is); (case xga2 => k_is); (case xgg2 => k_is); (case xex2 => k_is); (case xcd2 => k_is); (case xmo2 => k_is); (case xty2 => k_is); (case xkp2 => k_is); (case xhd2 => k_is); (case xnr2 => k_is); (case xve2 => k_is); (case xa3 => k_is); (case xga3 => k_is); (case xgg3 => k_is); (case xex3 => k_is); (case xcd3 => k_is); (case xmo3 => k_is); (case xty3 => k_is); (case xkp3 => k_is); (case xhd3 => k_is); (case xnr3 => k_is); (case xve3 => k_is); (case xl3 => k_is); (case xsa3 => k_is); (case xex3b => k_is); (case xty3b => k_is); (case xkp3b => k_is); (case xia3 => k_is); (case xit3 => k_is); (case xil3 => k_is); (case xic3 => k_is); (case xik3 => k_is); (case xa4 => k_is); (case xga4 => k_is); (case xgg4 => k_is); (case xex4 => k_is); (case xcd4 => k_is); (case xmo4 => k_is); (case xty4 => k_is); (case xkp4 => k_is); (case xhd4 => k_is); (case xnr4 => k_is); (case xve4 => k_is); (case xl4 => k_is); (case xsa4 => k_is); (case xex4b => k_is); (case xty4b => k_is); (case xkp4b => k_is); (case xia4 => k_is); (case xit4 => k_is); (case xil4 => k_is); (case xic4 => k_is); (case xik4 => k_is); (case xa5 => k_is); (case xga5 => k_is); (case xgg5 => k_is); (case xex5 => k_is); (case xcd5 => k_is); (case xmo5 => k_is); (case xty5 => k_is); (case xkp5 => k_is); (case xhd5 => k_is); (case xnr5 => k_is); (case xve5 => k_is); (case xl5 => k_is); (case xsa5 => k_is); (case xex5b => k_is); (case xty5b => k_is); (case xkp5b => k_is); (case xia5 => k_is); (case xit5 => k_is); (case xil5 => k_is); (case xic5 => k_is); (case xik5 => k_is); (case xs0_0 => k_is); (case xs0_1 => k_is); (case xs0_2 => k_is); (case xs0_3 => k_is); (case xs0_4 => k_is); (case xs0_5 => k_is); (case xs1_0 => k_is); (case xs1_1 => k_is); (case xs1_2 => k_is); (case xs1_3 => k_is); (case xs1_4 => k_is); (case xs1_5 => k_is); (case xs2_0 => k_is); (case xs2_1 => k_is); (case xs2_2 => k_is); (case xs2_3 => k_is); (case xs2_4 => k_is); (case xs2_5 => k_is); (case xs3_0 => k_is); (case xs3_1 => k_is); (case xs3_2 => k_is); (case xs3_3 => k_is); (case xs3_4 => k_is); (case xs3_5 => k_is); (case xs4_0 => k_is); (case xs4_1 => k_is); (case xs4_2 => k_is); (case xs4_3 => k_is); (case xs4_4 => k_is); (case xs4_5 => k_is); (case xs5_0 => k_is); (case xs5_1 => k_is); (case xs5_2 => k_is); (case xs5_3 => k_is); (case xs5_4 => k_is); (case xs5_5 => k_is); (case xsp => k_is); (case xtk => k_is); (case xvn => k_is); (case z0 => k_is); (case z1 => k_is); (case z2 => k_is); (case z3 => k_is); (case z4 => k_is); (case z5 => k_is); (case z6 => k_is); (case z7 => k_is); (case z8 => k_is); (case z9 => k_is); (case z10 => k_is); (case z11 => k_is); (case z12 => k_is); (case z13 => k_is); (case z14 => k_is); (case z15 => k_is); (case z16 => k_is); (case z17 => k_is); (case z18 => k_is); (case z19 => k_is); (case z20 => k_is)
    (case xi0 => (unfold Bp.veB; k_exc))
    (case xi1 => (unfold Bp.veB; k_exc))
    (case xi2 => (unfold Bp.veB; k_exc))
    (case xr3 => decide +kernel)
    (case xr4 => decide +kernel)
    (case xr5 => decide +kernel)

