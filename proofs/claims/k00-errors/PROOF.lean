import PyProof.Rows.All
import Wide.All
import OpenK.AllK
import Wide.FinOn
import HandS.ForMost
import HandS.ForExc
import HandS.Zip
import HandS.Gcd
import HandS.Wide
import HandS.Deep
import HandS.Flow
import HandS.TupAny
import HandS.TupMul
import KE.GoesMore
import KE.GoesZip
import KE.GoesEnum
import PyProof.DictKeyH
import KE.DataEq
import HandS.Style
import HandS.IsInst
import KE.LtData
import HandS.Star
import KE.KRevSl
import HandS.Text
import HandS.Flt
import PyProof.StrOps2
import HandS.Codes
import KE.SortData
import HandS.Strs
import HandS.SetFor
import HandS.Dict
import HandS.ExcInit
import HandS.ExcField
import HandS.TryOnly
import HandS.Nested
import KE.KExcSuper
import KE.KSuper
import HandS.DictComp
import HandS.Small
import HandS.More
import HandS.ListItems
import HandS.Iter
import KE.KDictPairs
import PyProof.Rows.StrMeet
import PyProof.Rows.ListMulR
import PyProof.Rows.CallKwBuiltin
import HandS.Conv
import HandS.SortKw
import KE.SortKeyHeap
import PyProof.EnumMake
import KE.KExcIs
import HandS.HotCalls
import PySem.Challenge.RW_samebehind_k00_errors_and_what_they_keep
set_option Elab.async false
set_option linter.all false
set_option maxRecDepth 100000
set_option maxHeartbeats 3000000
namespace Zd
open PySem PySem.Spec
open PyProof.Rows L2
/-- what a run goes on with, a new tuple of xs made -/
def NewT (H : Hp) (xs : List V) (Q : VK) : Prop := ∀ (p : Addr) (o : Obj), H p = none → o.dict = none → Q (.ref p) (upd H p (.frz o (.tup xs)))
section
variable {X : Cx} {pins : List (Addr × Obj)} {σ : L2.St} {H : Hp} {s : Shared}
theorem frz_push {xs : List V} {its : List Value} {t' : Nat} (I : Inv X pins σ H s) (r : Vals xs its) (hz : xs.length ≤ sizeLine) :
    Inv X pins σ (upd H s.heap.objs.size (.frz { cls := .type "tuple", data := .seq its.toArray } (.tup xs))) { s with heap := s.heap.push { cls := .type "tuple", data := .seq its.toArray }, toks := t' } :=
  I.laid (t' := t') (o := .frz { cls := .type "tuple", data := .seq its.toArray } (.tup xs)) (fun _ _ q => Heap.get?_push_of_some _ q) (Nat.le_refl _)
    ⟨Heap.get?_push_size _ rfl, hz, its, r, IsTup.new _ _⟩
theorem frz_ep {xs : List V} {its : List Value} {t' : Nat} {Q : VK} (I : Inv X pins σ H s) (r : Vals xs its) (hz : xs.length ≤ sizeLine) (q : NewT H xs Q) :
    EP X pins σ Q (.ref s.heap.objs.size) { s with heap := s.heap.push { cls := .type "tuple", data := .seq its.toArray }, toks := t' } :=
  ⟨.ref s.heap.objs.size, _, frz_push I r hz, rfl, q _ _ (I.hok.fresh (Nat.le_refl _)) rfl⟩
end
section
variable {X : Cx} {es : List Expr} {t : TA} {pos : Pos}
def tTupN (t : TA) : TE := fun σ H Q => t σ H fun xs H1 => xs.length ≤ sizeLine ∧ NewT H1 xs Q
theorem pe_tupN {x1} (h : PA X es t) : PE X (.Tuple es x1 pos) (tTupN t) :=
  ⟨fun pins s σ H Q I hq => wpAny_Tuple_spliced (thn (h.run pos pins s σ H _ I hq) fun us s1 ⟨xs, H1, I1, r, z, q⟩ => ⟨by rw [← r.length]; exact z, frz_ep (t' := s1.toks) I1 r z q⟩)⟩
/-- t + u -/
def rCatN (K : PySem.W.Frag) : R2 := fun x y H Q => ∃ a b xs ys, x = .ref a ∧ y = .ref b ∧ SqT K H a xs ∧ SqT K H b ys ∧ xs.length + ys.length ≤ sizeLine ∧
  (xs = [] → Q (.ref b) H) ∧ (xs ≠ [] → ys = [] → Q (.ref a) H) ∧ (xs ≠ [] → ys ≠ [] → NewT H (xs ++ ys) Q)
theorem op_catN : OpR X (binaryOp .Add) (rCatN X.K) := by
  intro pins s σ H x y v u
  intro Q I rx ry h
  obtain ⟨a, b, xs, ys, rfl, rfl,
            ha, hb, hz, q0, q1, q2⟩ := h
  cases rx
  cases ry
  obtain ⟨is, r1, p1, _⟩ := I.tuple ha
  obtain ⟨js, r2, p2, _⟩ := I.tuple hb
  by_cases hx : xs = []
  · subst hx
    cases r1
    exact cat_tup0 p1 p2 ⟨.ref
              b, H, I, rfl, q0 rfl⟩
  · have hz' : is.length + js.length ≤ sizeLine := by rw [← r1.length, ← r2.length]; exact hz
    exact HT.cat_tup p1 p2 (fun z => hx (r1.nil_iff.mp z)) (fun z => ⟨.ref a, H, I, rfl, q1 hx (r2.nil_iff.mp z)⟩)
      (fun z => frz_ep (t' := s.toks) I (r1.append r2) (by rw [List.length_append]; exact hz) (q2 hx fun w => z (r2.nil_iff.mpr w))) hz'
end
theorem pair_turn {X : Cx} {pins : List (Addr × Obj)} {σ : L2.St} {H : Hp} {s : Shared} {ch : List Addr} {h' : Heap} {x y : V} {u v : Value} {t' : Nat} (I : Inv X pins σ H s) (hf : ∀ b ∈ ch, FpOk X pins H b)
    (k : ∀ b o, b ∉ ch → s.heap.get? b = some o → h'.get? b = some o) (hT : h'.get? s.heap.objs.size = some { cls := .type "tuple", data := .seq #[u, v] }) (r1 : RelV x u) (r2 : RelV y v) :
    Inv X pins σ (upd H s.heap.objs.size (.frz { cls := .type "tuple", data := .seq #[u, v] } (.tup [x, y]))) { s with heap := h', toks := t' } :=
  I.turnedNew (t' := t') k hf (Nat.le_refl _) ⟨hT, by show 2 ≤ sizeLine; decide, [u, v], .cons r1 (.cons r2 .nil), _, hT, rfl, _, rfl⟩
/-- what the walk's own things keep of the new heap's knowledge -/
theorem fp_upd {X : Cx} {pins : List (Addr × Obj)} {H : Hp} {s : Shared} {ch : List Addr} {o : HO} (hf : ∀ b ∈ ch, FpOk X pins H b) (hl : ∀ b ∈ ch, b < s.heap.objs.size) : ∀ b ∈ ch, (upd H s.heap.objs.size o) b = none := fun b hb => by
  rw [upd_ne (Nat.ne_of_lt (hl b hb))]
  exact (hf b hb).1
def SqB (k : Bool) (K : PySem.W.Frag) (H : Hp) (a : Addr) (xs : List V) : Prop := match k with
  | true => SqL K H a xs
  | false => SqT K H a xs
def ItB (k : Bool) (h : Heap) (it a : Addr) (i : Nat) : Prop := match k with
  | true => h.IsListIter it a i
  | false => h.IsTupleIter it a i
def HeB (k : Bool) (h : Heap) (a : Addr) (is : Array Value) : Prop := match k with
  | true => h.IsList a is
  | false => h.IsTuple a is
def obB (k : Bool) (a : Addr) : Obj := match k with
  | true => { cls := .type "list_iterator", data := .fields #[.ref a, .int 0 0] }
  | false => { cls := .type "tuple_iterator", data := .fields #[.ref a, .int 0 0] }
theorem drawsB {prog : Program} {w : World} {A : Around} (k : Bool) (hh : A.handled = none) (it l : Addr) (hne : l ≠ it) (items : Array Value) :
    Draws prog w A it [it, l] items.size (fun i v => items[i]? = some v) (fun i h => ItB k h it l i ∧ HeB k h l items) := by
  cases k
  · exact Draws.tuple hh it l hne items
  · exact Draws.list hh it l hne items
theorem beginsB (k : Bool) (l : Addr) (items : Array Value) : Begins (.ref l) (obB k l) fun h => HeB k h l items := by
  cases k
  · exact begins_tuple l items
  · exact begins_list l items
theorem itB_at {k : Bool} {h h' : Heap} {it a : Addr} {i : Nat} (x : ItB k h it a i) (e : ∀ o, h.get? it = some o → h'.get? it = some o) : ItB k h' it a i := by
  cases k
  · exact Heap.IsTupleIter.at x e
  · exact Heap.IsListIter.at x e
theorem itB_obj {k : Bool} {h : Heap} {it a : Addr} {i : Nat} (x : ItB k h it a i) : ∃ o, h.get? it = some o ∧ ∀ v, o.data ≠ .cell v := by
  cases k
  · obtain ⟨o, e, _, d⟩ := x
    exact ⟨o, e, fun v q => by rw [d] at q; cases q⟩
  · obtain ⟨o, e, _, d⟩ := x
    exact ⟨o, e, fun v q => by rw [d] at q; cases q⟩
theorem itB_new {k : Bool} {h : Heap} {it a : Addr} (e : h.get? it = some (obB k a)) : ItB k h it a 0 := by
  cases k
  · exact ⟨_, e, rfl, rfl⟩
  · exact ⟨_, e, rfl, rfl⟩
theorem sqB_heap {X : Cx} {pins : List (Addr × Obj)} {σ : L2.St} {H : Hp} {s : Shared} {k : Bool} {a : Addr} {xs : List V} (I : Inv X pins σ H s) (h : SqB k X.K H a xs) : ∃ its : List Value, Vals xs its ∧ HeB k s.heap a its.toArray ∧ a < s.heap.objs.size := by
  cases k
  · obtain ⟨its, r, p, _⟩ := I.tuple h
    exact ⟨its, r, p, p.lt⟩
  · obtain ⟨its, r, p, _⟩ := I.list h
    exact ⟨its, r, p.isList, p.lt⟩
theorem sqB_inj {X : Cx} {pins : List (Addr × Obj)} {σ : L2.St} {H : Hp} {s : Shared} {k : Bool} {a : Addr} {xs ys : List V} (I : Inv X pins σ H s) (h : SqB k X.K H a xs) (h' : SqB k X.K H a ys) : xs = ys := by
  cases k
  · exact I.tuple_inj h h'
  · exact I.list_inj h h'
def ItzX (k1 k2 : Bool) (K : PySem.W.Frag) (a b : Addr) : It :=
  ⟨fun i H => ∃ (xs ys : List V) (x y : V), SqB k1 K H a xs ∧ SqB k2 K H b ys ∧ xs[i]? = some x ∧ ys[i]? = some y,
    fun i H v H' => ∃ T o x y, v = .ref T ∧ H T = none ∧ o.dict = none ∧ H' = upd H T (.frz o (.tup [x, y])) ∧ (∀ xs, SqB k1 K H a xs → xs[i]? = some x) ∧ ∀ ys, SqB k2 K H b ys → ys[i]? = some y,
    fun i H => ∃ xs ys : List V, SqB k1 K H a xs ∧ SqB k2 K H b ys ∧ i ≤ xs.length ∧ i ≤ ys.length ∧ (xs.length = i ∨ ys.length = i)⟩
section
variable {P : Program} {w : World} {K : PySem.W.Frag} {elts : List Expr} {kk : Nat} {tpos : Pos}
theorem turn_zipX {k1 k2 : Bool} {a b z TI TO i1 i2 : Addr} (S : ZipSep2 z TI TO i1 i2 [i1, a] [i2, b]) (na : a ≠ i1) (nb : b ≠ i2) :
    Turn P w K (.Tuple elts kk tpos) (ItzX k1 k2 K a b) [z, TI, TO, i1, i2] z (fun i h => IsZip h z TI TO .none ∧ IsTupOf2 h TI (.ref i1) (.ref i2) ∧ (∃ x y, IsTupOf2 h TO x y) ∧ ItB k1 h i1 a i ∧ ItB k2 h i2 b i) :=
  have ob : ∀ (i : Nat) (h : Heap), (IsZip h z TI TO .none ∧ IsTupOf2 h TI (.ref i1) (.ref i2) ∧ (∃ x y, IsTupOf2 h TO x y) ∧ ItB k1 h i1 a i ∧ ItB k2 h i2 b i) → ∀ c ∈ [z, TI, TO, i1, i2], ∃ o, h.get? c = some o ∧ ∀ v, o.data ≠ .cell v := fun i h st c hc => by
    obtain ⟨hz, hTI, ⟨x,
              y, hTO⟩, h1, h2⟩ := st
    simp only [List.mem_cons, List.not_mem_nil, or_false] at hc
    rcases hc with q | q | q | q | q
    · rw [q]; exact ⟨_, hz,
              fun v q => nomatch q⟩
    · rw [q]; exact ⟨_, hTI,
              fun v q => nomatch q⟩
    · rw [q]; exact ⟨_, hTO,
              fun v q => nomatch q⟩
    · rw [q]; exact itB_obj h1
    · rw [q]; exact itB_obj h2
  { mem := by simp
    obj := ob
    keep := fun i h h' st k => by
      obtain ⟨hz, hTI, ⟨x,
                y, hTO⟩, h1, h2⟩ := st
      exact ⟨k z (by simp) _ hz, k TI (by simp) _ hTI, ⟨x, y, k TO (by simp) _ hTO⟩, itB_at h1 fun o q => k i1 (by simp) o q, itB_at h2 fun o q => k i2 (by simp) o q⟩
    item := by
      rintro X rfl rfl rfl hc i pins s σ H E I hf st ⟨xs, ys, x, y, hqx, hqy, hx, hy⟩
      have lt : ∀ c ∈ [z, TI, TO, i1, i2], c < s.heap.objs.size := fun c hc => by
        obtain ⟨o, ho, _⟩ := ob i s.heap st c hc
        exact Heap.lt_size ho
      obtain ⟨hz, hTI, ⟨x0,
                y0, hTO⟩, h1, h2⟩ := st
      obtain ⟨is, rv, p, _⟩ := sqB_heap I hqx
      obtain ⟨js, rv2, p2, _⟩ := sqB_heap I hqy
      obtain ⟨u, hu,
                ru⟩ := rv.get hx
      obtain ⟨v, hv, ru2⟩ := rv2.get hy
      have zl := lt z (by simp)
      have l1 : i < is.toArray.size := by rw [List.size_toArray]; exact (List.getElem?_eq_some_iff.mp hu).1
      have l2 : i < js.toArray.size := by rw [List.size_toArray]; exact (List.getElem?_eq_some_iff.mp hv).1
      have hh : X.A.in1.handled = none := I.ok.hd hc
      refine wpAny_pyNext_zipD2_item S (drawsB k1 hh i1 a na is.toArray) (drawsB k2 hh i2 b nb js.toArray) hz hTI hTO ⟨h1, p⟩ ⟨h2, p2⟩ l1 l2 fun u' v' h' tk q1 q2 z' TO' n1 n2 hT hsz hk => ⟨_, rfl, wpAny_letOwnedTupleGo_zip (s := { s with heap := h', toks := tk }) z' fun h2' z2 sb => ?_⟩
      have eu : u' = u := by
        rw [List.getElem?_toArray, hu] at q1
        exact (Option.some.inj q1).symm
      have ev : v' = v := by
        rw [List.getElem?_toArray, hv] at q2
        exact (Option.some.inj q2).symm
      subst eu ev
      refine ⟨.ref s.heap.objs.size, _, pair_turn (s := s) (t' := tk) I hf (fun c o nc e => ?_) ((sb.2 _ (Nat.ne_of_gt zl)).trans hT) ru ru2, rfl, ⟨_, _, x, y, rfl, I.hok.fresh (Nat.le_refl _), rfl, rfl, fun l hl => by rw [sqB_inj I hl hqx]; exact hx, fun l hl => by rw [sqB_inj I hl hqy]; exact hy⟩,
        ⟨z2, (sb.2 _ S.TIz).trans (hk _ _ S.TIz S.TITO S.TIi1 S.TIi2 hTI), ⟨u', v', (sb.2 _ S.TOz).trans TO'⟩, itB_at n1.1 fun o q => (sb.2 _ (Ne.symm S.zi1)).trans q, itB_at n2.1 fun o q => (sb.2 _ (Ne.symm S.zi2)).trans q⟩, fp_upd (s := s) hf lt⟩
      simp only [List.mem_cons, List.not_mem_nil, or_false, not_or] at nc
      exact (sb.2 c nc.1).trans (hk c o nc.1 nc.2.2.1 nc.2.2.2.1 nc.2.2.2.2 e)
    done := by
      rintro X rfl rfl rfl hc i pins s σ H E I hf st ⟨xs, ys, hqx, hqy, e1, e2, e3⟩
      obtain ⟨hz, hTI, ⟨x0,
                y0, hTO⟩, h1, h2⟩ := st
      obtain ⟨is, rv, p, _⟩ := sqB_heap I hqx
      obtain ⟨js, rv2, p2, _⟩ := sqB_heap I hqy
      have q1 := rv.length
      have q2 := rv2.length
      have hh : X.A.in1.handled = none := I.ok.hd hc
      exact wpAny_pyNext_zipD2_end S (drawsB k1 hh i1 a na is.toArray) (drawsB k2 hh i2 b nb js.toArray) hz hTI hTO ⟨h1, p⟩ ⟨h2, p2⟩ (by rw [List.size_toArray]; omega) (by rw [List.size_toArray]; omega) (by rw [List.size_toArray, List.size_toArray]; omega) fun h' tk hk =>
        ⟨rfl, I.turnedL (t' := tk) (ch := [z, TI, TO, i1, i2]) (fun c o hb q => hk c o (fun q' => hb (by simp [q'])) (fun q' => hb (by simp [q'])) (fun q' => hb (by simp [q'])) (fun q' => hb (by simp [q'])) q) hf⟩
    self := fun A i s Q E st h => wpAny_pyIter_zip st.1 h }
end
theorem ne_n {x y : Nat} (h : x < y ∨ y < x) : x ≠ y := by omega
theorem nin2 {x y z : Nat} (h : x ≠ y) (h' : x ≠ z) : x ∉ [y, z] := by simp [h, h']
theorem zip_sep (n a b : Nat) (la : a < n) (lb : b < n) : ZipSep2 (n + 4) (n + 2) (n + 3) n (n + 1) [n, a] [n + 1, b] where
  TIz := ne_n (by omega)
  TOz := ne_n (by omega)
  TITO := ne_n (by omega)
  TIi1 := ne_n (by omega)
  mem1 := List.mem_cons_self
  zf1 := nin2 (ne_n (by omega)) (ne_n (by omega))
  Tf1 := nin2 (ne_n (by omega)) (ne_n (by omega))
  TIi2 := ne_n (by omega)
  mem2 := List.mem_cons_self
  zf2 := nin2 (ne_n (by omega)) (ne_n (by omega))
  Tf2 := nin2 (ne_n (by omega)) (ne_n (by omega))
  sep1_2 := nin2 (ne_n (by omega)) (ne_n (by omega))
  sep2_1 := nin2 (ne_n (by omega)) (ne_n (by omega))
section
variable {X : Cx} {e e2 : Expr} {ta : TA} {p pos tpos : Pos} {elts : List Expr} {kk : Nat}
def iZipX (K : PySem.W.Frag) (ta : TA) : TI := fun σ H R => ta σ H fun vs H1 => ∃ a b xs ys k1 k2, vs = [.ref a, .ref b] ∧ SqB k1 K H1 a xs ∧ SqB k2 K H1 b ys ∧ R (ItzX k1 k2 K a b) H1
theorem pi_zipX (hg : Gl X "zip") (hm : X.mg "zip" = none) (ha : PA X [e, e2] ta) (hs : starEach [e, e2] X.env = (false, eval e X.env) :: starEach [e2] X.env := by rfl) (hpl : (backTo pos (starEach [e2] X.env)).any (·.1) = false := by rfl) :
    PI X (.Tuple elts kk tpos) (.Call (.Name "zip" p) [e, e2] [] pos) (iZipX X.K ta) := by
  constructor
  intro pins s σ H R I h
  refine Call_ (ld_blt I hg hm boot_zip (callWith_type1 (thn (ha.run pos pins s σ H _ I h) ?_) hs hpl))
  rintro us t ⟨vs, H1, I1, r1, a, b, xs, ys, k1, k2, rfl, hx, hy, q⟩
  obtain ⟨ua, ub, rfl, ra, rb⟩ := vals2 r1
  cases ra
  cases rb
  have new : ∀ c ∈ [t.heap.objs.size + 4, t.heap.objs.size + 2, t.heap.objs.size + 3, t.heap.objs.size, t.heap.objs.size + 1], FpOk X pins H1 c := fun c hc => by
    have le : t.heap.objs.size ≤ c := by
      simp only [List.mem_cons, List.not_mem_nil, or_false] at hc
      omega
    exact I1.fpOk le (I1.hok.fresh le)
  obtain ⟨is, _, p1, la⟩ := sqB_heap I1 hx
  obtain ⟨js, _, p2, lb⟩ := sqB_heap I1 hy
  generalize hn : t.heap.objs.size = n at *
  have S : ZipSep2 (n + 4) (n + 2) (n + 3) n (n + 1) [n, a] [n + 1, b] := by
    exact zip_sep n a b la lb
  exact zip_begins2 (beginsB k1 a is.toArray) (beginsB k2 b js.toArray) p1 p2 fun h' hz hTI hTO n1 n2 hsz hk => by
    rw [hn] at hz hTI hTO n1 n2 ⊢
    exact wpAny_pyIter_zip hz ⟨_, _, _, _, H1, rfl, I1.kept (t' := t.toks) hk, turn_zipX S (Nat.ne_of_lt la) (Nat.ne_of_lt (Nat.lt_succ_of_lt lb)), ⟨hz, hTI, ⟨_, _, hTO⟩, itB_new n1, itB_new n2⟩, new, q⟩
end
end Zd
namespace Zd
open PySem PySem.Spec
open PyProof.Rows L2
abbrev D := PyData
/-- a run's end: a value, an error of a class with its argument, or nothing told -/
inductive Rs (α : Type) where
  | ok (a : α)
  | ex (c : Str) (a : D)
  | no
def Rs.bind {α β : Type} (x : Rs α) (f : α → Rs β) : Rs β := match x with
  | .ok a => f a
  | .ex c a => .ex c a
  | .no => .no
instance : Monad Rs where
  pure := .ok
  bind := Rs.bind
theorem ok_bind {α β : Type} (a : α) (f : α → Rs β) : ((Rs.ok a) >>= f) = f a := rfl
theorem ex_bind {α β : Type} (c : Str) (a : D) (f : α → Rs β) : ((Rs.ex c a : Rs α) >>= f) = .ex c a := rfl
theorem no_bind {α β : Type} (f : α → Rs β) : ((Rs.no : Rs α) >>= f) = .no := rfl
def Out {α : Type} (r : Rs α) (q : α → Prop) (e : Str → D → Prop) : Prop := match r with
  | .ok a => q a
  | .ex c a => e c a
  | .no => False
theorem Out.bind {α β : Type} {x : Rs α} {f : α → Rs β} {q : β → Prop} {e : Str → D → Prop} (h : Out (x >>= f) q e) : Out x (fun a => Out (f a) q e) e := by
  cases x with
  | ok a => exact h
  | ex c a => exact h
  | no => exact h
theorem Out.mono {α : Type} {r : Rs α} {q q' : α → Prop} {e e' : Str → D → Prop} (h : Out r q e) (hq : ∀ a, q a → q' a) (he : ∀ c a, e c a → e' c a) : Out r q' e' := by
  cases r with
  | ok a => exact hq a h
  | ex c a => exact he c a h
  | no => exact h
abbrev Om := Addr → Prop
/-- a tuple without a dict of its own -/
def TupN (K : PySem.W.Frag) (H : Hp) (a : Addr) (xs : List V) : Prop := (∃ o : Obj, H a = some (.frz o (.tup xs)) ∧ o.dict = none) ∨
  ∃ (o : Obj) (is : Array Value) (n : Nat), K.lookup a = some o ∧ o.cls = .type "tuple" ∧ o.data = .seq is n ∧ is.size ≤ sizeLine ∧ Vals xs is.toList ∧ o.dict = none
theorem TupN.sqT {K : PySem.W.Frag} {H : Hp} {a : Addr} {xs : List V} (h : TupN K H a xs) : SqT K H a xs := by
  rcases h with ⟨o, h, _⟩ | ⟨o, is, n, h1, h2, h3, h4, h5, _⟩
  · exact .inl (.inr ⟨o, h⟩)
  · exact .inr ⟨o, is, n, h1, h2, h3, h4, h5⟩
/-- a cell that is a dict's one object -/
def dcO (a : Addr) (o : Obj) : HO := .ext fun h => h.get? a = some o
/-- the hash of a tuple of ints -/
def ihash (ks : List Int) : Int := reduceHash (Builtin.Tuple.tupleHashOf (ks.map hashInt))
abbrev Dy := List Int × Addr × V
def EnOk (y : Dy) (e : DictEntry) : Prop := e.hash = ihash y.1 ∧ e.key = .ref y.2.1 ∧ RelV y.2.2 e.val
/-- the object o at a is a dict of the entries ys -/
structure DcIs (a : Addr) (o : Obj) (ys : List Dy) : Prop where
  no : (a == sysModules) = false
  ex : o.ExactDict
  da : ∃ es ep, o.data = .dict es ep ∧ Paired EnOk ys es.toList
  nd : (ys.map (·.1)).Nodup
  sz : ys.length ≤ 100000
/-- what may be ours: a list, a dict -/
inductive Lc where
  | l (xs : List V)
  | d (a : Addr) (o : Obj)
  | k (kvs : List (L2.Key × V))
def Lc.ho : Lc → HO
  | .l xs => .lst xs
  | .d a o => dcO a o
  | .k kvs => .dK kvs
def notLc : HO → Bool
  | .lst _ => false
  | .ext _ => false
  | .dK _ => false
  | _ => true
theorem notLc_no {o : HO} (h : notLc o = true) (x : Lc) : o ≠ x.ho := fun e => by
  subst e
  cases x with
  | l xs => exact Bool.noConfusion (show false = true from h)
  | d a o => exact Bool.noConfusion (show false = true from h)
  | k kvs => exact Bool.noConfusion (show false = true from h)
mutual
/-- v stands for d, in lists that nobody may change (ω: those that may be) -/
inductive Rep (K : PySem.W.Frag) (ω : Om) (H : Hp) : V → D → Prop
  | non : Rep K ω H .non .none
  | bl (b : Bool) : Rep K ω H (.bl b) (.bool b)
  | int (i : Int) : Rep K ω H (.int i) (.int i)
  | str (x : Str) : Rep K ω H (.str x) (.str x)
  | tup {a : Addr} {xs : List V} {ds : List D} : TupN K H a xs → Reps K ω H xs ds → Rep K ω H (.ref a) (.tuple ds)
  | lst {a : Addr} {xs : List V} {ds : List D} : (Rd H a (.lst xs) ∧ ¬ ω a) → Reps K ω H xs ds → Rep K ω H (.ref a) (.list ds)
  | dct {a : Addr} {o : Obj} {ys : List Dy} {kvs : List (D × D)} : (H a = some (dcO a o) ∧ ¬ ω a) → DcIs a o ys → RepKv K ω H ys kvs → Rep K ω H (.ref a) (.dict kvs)
  | dk {a : Addr} {o : Obj} {ks : List (L2.Key × V)} {kvs : List (D × D)} : H a = some (.frz o (.dK ks)) → RepKd K ω H ks kvs → Rep K ω H (.ref a) (.dict kvs)
inductive Reps (K : PySem.W.Frag) (ω : Om) (H : Hp) : List V → List D → Prop
  | nil : Reps K ω H [] []
  | cons {v : V} {vs : List V} {d : D} {ds : List D} : Rep K ω H v d → Reps K ω H vs ds → Reps K ω H (v :: vs) (d :: ds)
inductive RepKv (K : PySem.W.Frag) (ω : Om) (H : Hp) : List Dy → List (D × D) → Prop
  | nil : RepKv K ω H [] []
  | cons {ks : List Int} {b : Addr} {v : V} {d : D} {ys : List Dy} {kvs : List (D × D)} : TupN K H b (ks.map .int) → Rep K ω H v d → RepKv K ω H ys kvs → RepKv K ω H ((ks, b, v) :: ys) ((.tuple (ks.map .int), d) :: kvs)
inductive RepKd (K : PySem.W.Frag) (ω : Om) (H : Hp) : List (L2.Key × V) → List (D × D) → Prop
  | nil : RepKd K ω H [] [(.none, .none)]
  | cons {k : Str} {v : V} {d : D} {ks : List (L2.Key × V)} {kvs : List (D × D)} : Rep K ω H v d → RepKd K ω H ks kvs → RepKd K ω H ((.inr k, v) :: ks) ((.str k, d) :: kvs)
end
/-- what stays of data that nobody may change -/
structure Grow (ω : Om) (H : Hp) (ω' : Om) (H' : Hp) : Prop where
  keep : ∀ a o, H a = some o → ¬ ω a → H' a = some o
  wf : ∀ a, ω a → ∃ xs : Lc, H a = some xs.ho
  om : ∀ a, ω' a → ω a ∨ H a = none
section
variable {K : PySem.W.Frag} {ω ω' ω'' : Om} {H H' H'' : Hp}
theorem Grow.nl (g : Grow ω H ω' H') {a : Addr} {o : HO} (h : H a = some o) (hn : notLc o = true) : H' a = some o := by
  refine g.keep a o h fun z => ?_
  obtain ⟨xs, e⟩ := g.wf a z
  rw [h] at e
  exact notLc_no hn xs (Option.some.inj e)
theorem Grow.sqT (g : Grow ω H ω' H') {a : Addr} {xs : List V} (h : SqT K H a xs) : SqT K H' a xs := by
  rcases (h) with
      (h | ⟨o, h⟩) | h
  · exact .inl (.inl (g.nl h rfl))
  · exact .inl (.inr ⟨o, g.nl h rfl⟩)
  · exact .inr h
theorem Grow.tupN (g : Grow ω H ω' H') {a : Addr} {xs : List V} (h : TupN K H a xs) : TupN K H' a xs := by
  rcases h with ⟨o, h, hd⟩ | h
  · exact .inl ⟨o, g.nl h rfl, hd⟩
  · exact .inr h
theorem Grow.rdd (g : Grow ω H ω' H') {a : Addr} {o : Obj} (h : H a = some (dcO a o) ∧ ¬ ω a) : H' a = some (dcO a o) ∧ ¬ ω' a := by
  obtain ⟨h, n⟩ := h
  refine ⟨g.keep _ _ h n, fun z => ?_⟩
  rcases g.om a z with z | z
  · exact n z
  · rw [h] at z; cases z
theorem Grow.rdl (g : Grow ω H ω' H') {a : Addr} {xs : List V} (h : Rd H a (.lst xs) ∧ ¬ ω a) : Rd H' a (.lst xs) ∧ ¬ ω' a := by
  obtain ⟨h, n⟩ := h
  refine ⟨?_, fun z => ?_⟩
  · rcases h with h | ⟨o, h⟩
    · exact .inl (g.keep _ _ h n)
    · exact .inr ⟨o, g.keep _ _ h n⟩
  · rcases g.om a z with z | z
    · exact n z
    · rcases h with h | ⟨o, h⟩ <;> (rw [h] at z; cases z)
mutual
theorem Rep.mono (g : Grow ω H ω' H') : ∀ (d : D) (v : V), Rep K ω H v d → Rep K ω' H' v d
  | .none, _, h => by cases h; exact .non
  | .bool b, _, h => by cases h; exact .bl b
  | .int i, _, h => by cases h; exact .int i
  | .str x, _, h => by cases h; exact .str x
  | .tuple ds, _, h => by
    cases h with
    | tup hs ha => exact .tup (g.tupN hs) (Reps.mono g ds _ ha)
  | .list ds, _, h => by
    cases h with
    | lst hs ha =>
      exact .lst (g.rdl hs) (Reps.mono g ds _ ha)
  | .dict kvs, _, h => by
    cases h with
    | dct hs hd ha => exact .dct (g.rdd hs) hd (RepKv.mono g kvs _ ha)
    | dk hs ha => exact .dk (g.nl hs rfl) (RepKd.mono g kvs _ ha)
theorem Reps.mono (g : Grow ω H ω' H') : ∀ (ds : List D) (vs : List V), Reps K ω H vs ds → Reps K ω' H' vs ds
  | [], _, h => by cases h; exact .nil
  | d :: ds, _, h => by
    cases h with
    | cons h1 h2 => exact .cons (Rep.mono g d _ h1) (Reps.mono g ds _ h2)
theorem RepKv.mono (g : Grow ω H ω' H') : ∀ (kvs : List (D × D)) (ys : List Dy), RepKv K ω H ys kvs → RepKv K ω' H' ys kvs
  | [], _, h => by cases h; exact .nil
  | (k, d) :: kvs, _, h => by
    cases h with
    | cons h1 h2 h3 => exact .cons (g.tupN h1) (Rep.mono g d _ h2) (RepKv.mono g kvs _ h3)
theorem RepKd.mono (g : Grow ω H ω' H') : ∀ (kvs : List (D × D)) (ks : List (L2.Key × V)), RepKd K ω H ks kvs → RepKd K ω' H' ks kvs
  | [], _, h => by cases h
  | (k, d) :: kvs, _, h => by
    cases h with
    | nil => exact .nil
    | cons h2 h3 => exact .cons (Rep.mono g d _ h2) (RepKd.mono g kvs _ h3)
end
theorem Rep.up {v : V} {d : D} (h : Rep K ω H v d) (g : Grow ω H ω' H') : Rep K ω' H' v d := Rep.mono g d v h
theorem Reps.up {v : List V} {d : List D} (h : Reps K ω H v d) (g : Grow ω H ω' H') : Reps K ω' H' v d := Reps.mono g d v h
theorem Reps.length : ∀ {vs : List V} {ds : List D}, Reps K ω H vs ds → vs.length = ds.length
  | _, [], h => by cases h; rfl
  | _, _ :: _, h => by
    cases h with
    | cons _ t => simp [Reps.length t]
theorem Reps.get : ∀ {vs : List V} {ds : List D} {i : Nat} {v : V}, Reps K ω H vs ds → vs[i]? = some v → ∃ d, ds[i]? = some d ∧ Rep K ω H v d
  | _, [], _, _, h, e => by cases h; simp at e
  | _, _ :: _, 0, _, h, e => by
    cases h with
    | cons r _ => simp at e; subst e; exact ⟨_, rfl, r⟩
  | _, _ :: _, i + 1, _, h, e => by
    cases h with
    | cons _ t => exact Reps.get (i := i) t (by simpa using e)
theorem Reps.getD : ∀ {vs : List V} {ds : List D} {i : Nat} {d : D}, Reps K ω H vs ds → ds[i]? = some d → ∃ v, vs[i]? = some v ∧ Rep K ω H v d
  | _, [], _, _, h, e => by cases h; simp at e
  | _, _ :: _, 0, _, h, e => by
    cases h with
    | cons r _ => simp at e; subst e; exact ⟨_, rfl, r⟩
  | _, _ :: _, i + 1, _, h, e => by
    cases h with
    | cons _ t => exact Reps.getD (i := i) t (by simpa using e)
theorem Reps.append : ∀ {vs ws : List V} {ds es : List D}, Reps K ω H vs ds → Reps K ω H ws es → Reps K ω H (vs ++ ws) (ds ++ es)
  | _, _, [], _, h, t => by cases h; exact t
  | _, _, _ :: _, _, h, t => by
    cases h with
    | cons r q => exact .cons r (Reps.append q t)
theorem Reps.take : ∀ {vs : List V} {ds : List D} (n : Nat), Reps K ω H vs ds → Reps K ω H (vs.take n) (ds.take n)
  | _, [], n, h => by cases h; simp; exact .nil
  | _, _ :: _, 0, h => .nil
  | _, _ :: _, n + 1, h => by
    cases h with
    | cons r q => exact .cons r (Reps.take n q)
theorem Reps.drop : ∀ {vs : List V} {ds : List D} (n : Nat), Reps K ω H vs ds → Reps K ω H (vs.drop n) (ds.drop n)
  | _, [], n, h => by cases h; simp; exact .nil
  | _, _ :: _, 0, h => h
  | _, _ :: _, n + 1, h => by
    cases h with
    | cons r q => exact Reps.drop n q
theorem Reps.snoc {vs : List V} {ds : List D} {v : V} {d : D} (h : Reps K ω H vs ds) (r : Rep K ω H v d) : Reps K ω H (vs ++ [v]) (ds ++ [d]) := h.append (.cons r .nil)
theorem Reps.rep {vs : List V} {ds : List D} (h : Reps K ω H vs ds) : ∀ k : Nat, Reps K ω H (List.replicate k vs).flatten (List.replicate k ds).flatten
  | 0 => .nil
  | k + 1 => by
    rw [List.replicate_succ, List.replicate_succ,
              List.flatten_cons, List.flatten_cons]
    exact h.append (h.rep k)
theorem Reps.dropLast {vs : List V} {ds : List D} (h : Reps K ω H vs ds) : Reps K ω H vs.dropLast ds.dropLast := by
  rw [List.dropLast_eq_take, List.dropLast_eq_take, h.length]
  exact h.take _
theorem Reps.set {v : V} {d : D} (r : Rep K ω H v d) : ∀ {vs : List V} {ds : List D} (i : Nat), Reps K ω H vs ds → Reps K ω H (vs.set i v) (ds.set i d)
  | _, [], _, h => by cases h; exact .nil
  | _, _ :: _, 0, h => by
    cases h with
    | cons _ t => exact .cons r t
  | _, _ :: _, i + 1, h => by
    cases h with
    | cons q t => exact .cons q (Reps.set r i t)
theorem Reps.eraseIdx : ∀ {vs : List V} {ds : List D} (i : Nat), Reps K ω H vs ds → Reps K ω H (vs.eraseIdx i) (ds.eraseIdx i)
  | _, [], _, h => by cases h; exact .nil
  | _, _ :: _, 0, h => by
    cases h with
    | cons _ t => exact t
  | _, _ :: _, i + 1, h => by
    cases h with
    | cons q t => exact .cons q (Reps.eraseIdx i t)
mutual
theorem Rep.dp : ∀ (d : D) (v : V), d.plain = true → Rep K ω H v d → Dp K H v d
  | .none, _, _, h => by cases h; exact .non
  | .bool b, _, _, h => by cases h; exact .bl b
  | .int i, _, _, h => by cases h; exact .int i
  | .str x, _, _, h => by cases h; exact .str x
  | .tuple ds, _, p, h => by
    cases h with
    | tup hs ha => exact .tup hs.sqT (Reps.dp ds _ (by simpa only [PyData.plain] using p) ha)
  | .list ds, _, p, h => by
    cases h with
    | lst hs ha =>
      exact .lst (.inl hs.1) (Reps.dp ds _ (by simpa only [PyData.plain] using p) ha)
  | .dict _, _, p, _ => by simp only [PyData.plain, Bool.false_eq_true] at p
theorem Reps.dp : ∀ (ds : List D) (vs : List V), PyData.plainAll ds = true → Reps K ω H vs ds → DpAll K H vs ds
  | [], _, _, h => by cases h; exact .nil
  | d :: ds, _, p, h => by
    simp only [PyData.plainAll, Bool.and_eq_true] at p
    cases h with
    | cons h1 h2 => exact .cons (Rep.dp d _ p.1 h1) (Reps.dp ds _ p.2 h2)
end
end
/-- the classes of errors that keep no argument -/
def bare (c : Str) : Bool := c == "InvalidCommand"
/-- how an error keeps its argument -/
def EA (c : Str) (H : Hp) (d : Option Addr) (v : V) : Prop := (bare c = false ∧ ∃ dx, d = some dx ∧ H dx = some (.xd [("at", v)])) ∨ (bare c = true ∧ d = none ∧ v = .non)
/-- an error's object, of the class c, with its argument -/
def ErO (K : PySem.W.Frag) (H : Hp) (oe : Obj) (c : Str) (v : V) : Prop := ∃ C : Addr, PySem.W.nsIn K mainGlobals c = some (some (.ref C)) ∧ oe.cls = .ref C ∧ (∃ vs, oe.data = .fields vs) ∧ EA c H oe.dict v
theorem ErO.up {K : PySem.W.Frag} {ω ω' : Om} {H H' : Hp} {oe : Obj} {c : Str} {v : V} (h : ErO K H oe c v) (g : Grow ω H ω' H') : ErO K H' oe c v := by
  obtain ⟨C, h1, h3, h4, h5⟩ := h
  refine ⟨C, h1, h3, h4, ?_⟩
  rcases h5 with ⟨hb, dx, e, h⟩ | h
  · exact .inl ⟨hb, dx, e, g.nl h rfl⟩
  · exact .inr h
/-- how a slot's value is held: nobody may change it; a list of ours (its items of one shape, or each of its own) -/
inductive Sh where
  | im
  | mu (s : Sh)
  | rc (ss : List Sh)
  | tp (ss : List Sh)
  | dc
  | dk
  | er (a : Addr) (oe : Obj)
mutual
inductive Own (K : PySem.W.Frag) (ω : Om) (H : Hp) : Sh → V → D → List Addr → Prop
  | im {v : V} {d : D} : Rep K ω H v d → Own K ω H .im v d []
  | mu {s : Sh} {a : Addr} {vs : List V} {ds : List D} {f : List Addr} : H a = some (.lst vs) → Owns K ω H (List.replicate ds.length s) vs ds f → Own K ω H (.mu s) (.ref a) (.list ds) (a :: f)
  | rc {ss : List Sh} {a : Addr} {vs : List V} {ds : List D} {f : List Addr} : H a = some (.lst vs) → Owns K ω H ss vs ds f → Own K ω H (.rc ss) (.ref a) (.list ds) (a :: f)
  | nl {s : Sh} {v : V} {d : D} : Rep K ω H v d → (∀ ds, d ≠ .list ds) → Own K ω H (.mu s) v d []
  | tp {ss : List Sh} {a : Addr} {vs : List V} {ds : List D} {f : List Addr} : TupN K H a vs → Owns K ω H ss vs ds f → Own K ω H (.tp ss) (.ref a) (.tuple ds) f
  | dc {a : Addr} {o : Obj} {ys : List Dy} {kvs : List (D × D)} : H a = some (dcO a o) → DcIs a o ys → RepKv K ω H ys kvs → Own K ω H .dc (.ref a) (.dict kvs) [a]
  | dk {a : Addr} {ks : List (L2.Key × V)} {kvs : List (D × D)} : H a = some (.dK ks) → RepKd K ω H ks kvs → Own K ω H .dk (.ref a) (.dict ((.bool true, .none) :: kvs)) [a]
  | dz {v : V} {d : D} : Rep K ω H v d → Own K ω H .dk v d []
  | er {a : Addr} {oe : Obj} {c : Str} {v : V} {d : D} : ErO K H oe c v → Rep K ω H v d → Own K ω H (.er a oe) (.ref a) (.dict [(.str c, d)]) []
inductive Owns (K : PySem.W.Frag) (ω : Om) (H : Hp) : List Sh → List V → List D → List Addr → Prop
  | nil : Owns K ω H [] [] [] []
  | cons {s : Sh} {ss : List Sh} {v : V} {vs : List V} {d : D} {ds : List D} {f g : List Addr} : Own K ω H s v d f → Owns K ω H ss vs ds g → Owns K ω H (s :: ss) (v :: vs) (d :: ds) (f ++ g)
end
section
variable {K : PySem.W.Frag} {ω ω' ω'' : Om} {H H' H'' : Hp}
mutual
theorem Own.mono (g : Grow ω H ω' H') : ∀ (d : D) (s : Sh) (v : V) (f : List Addr), (∀ a ∈ f, H' a = H a) → Own K ω H s v d f → Own K ω' H' s v d f
  | .list ds, _, _, _, hf, h => by
    cases h with
    | im r => exact .im (r.up g)
    | mu e t => exact .mu ((hf _ List.mem_cons_self).trans e) (Owns.mono g ds _ _ _ (fun a ha => hf a (List.mem_cons_of_mem _ ha)) t)
    | rc e t => exact .rc ((hf _ List.mem_cons_self).trans e) (Owns.mono g ds _ _ _ (fun a ha => hf a (List.mem_cons_of_mem _ ha)) t)
    | nl r n => exact (n _ rfl).elim
    | dz r => exact .dz (r.up g)
  | .none, _, _, _, _, h => by
    cases h with
    | im r => exact .im (r.up g)
    | nl r n => exact .nl (r.up g) n
    | dz r => exact .dz (r.up g)
  | .bool _, _, _, _, _, h => by
    cases h with
    | im r => exact .im (r.up g)
    | nl r n => exact .nl (r.up g) n
    | dz r => exact .dz (r.up g)
  | .int _, _, _, _, _, h => by
    cases h with
    | im r => exact .im (r.up g)
    | nl r n => exact .nl (r.up g) n
    | dz r => exact .dz (r.up g)
  | .str _, _, _, _, _, h => by
    cases h with
    | im r => exact .im (r.up g)
    | nl r n => exact .nl (r.up g) n
    | dz r => exact .dz (r.up g)
  | .tuple ds, _, _, _, hf, h => by
    cases h with
    | im r => exact .im (r.up g)
    | nl r n => exact .nl (r.up g) n
    | dz r => exact .dz (r.up g)
    | tp e t => exact .tp (g.tupN e) (Owns.mono g ds _ _ _ hf t)
  | .dict kvs, _, _, _, hf, h => by
    cases h with
    | im r => exact .im (r.up g)
    | nl r n => exact .nl (r.up g) n
    | dz r => exact .dz (r.up g)
    | dc e hd r => exact .dc ((hf _ List.mem_cons_self).trans e) hd (RepKv.mono g kvs _ r)
    | dk e r => exact .dk ((hf _ List.mem_cons_self).trans e) (RepKd.mono g _ _ r)
    | er e r => exact .er (e.up g) (r.up g)
theorem Owns.mono (g : Grow ω H ω' H') : ∀ (ds : List D) (ss : List Sh) (vs : List V) (f : List Addr), (∀ a ∈ f, H' a = H a) → Owns K ω H ss vs ds f → Owns K ω' H' ss vs ds f
  | [], _, _, _, _, h => by cases h; exact .nil
  | d :: ds, _, _, _, hf, h => by
    cases h with
    | cons r t => exact .cons (Own.mono g d _ _ _ (fun a ha => hf a (List.mem_append_left _ ha)) r) (Owns.mono g ds _ _ _ (fun a ha => hf a (List.mem_append_right _ ha)) t)
end
mutual
theorem Own.lsts : ∀ (d : D) (s : Sh) (v : V) (f : List Addr), Own K ω H s v d f → ∀ a ∈ f, ∃ xs : Lc, H a = some xs.ho
  | .list ds, _, _, _, h => by
    cases h with
    | im r => exact fun _ z => absurd z (by simp)
    | mu e t =>
      intro a ha
      rcases (List.mem_cons.mp ha) with rfl | ha
      · exact ⟨.l _, e⟩
      · exact Owns.lsts ds _ _ _ t a ha
    | rc e t =>
      intro a ha
      rcases (List.mem_cons.mp ha) with rfl | ha
      · exact ⟨.l _, e⟩
      · exact Owns.lsts ds _ _ _ t a ha
    | nl r n => exact fun _ z => absurd z (by simp)
    | dz r => exact fun _ z => absurd z (by simp)
  | .none, _, _, _, h => by cases h <;> exact fun _ z => absurd z (by simp)
  | .bool _, _, _, _, h => by cases h <;> exact fun _ z => absurd z (by simp)
  | .int _, _, _, _, h => by cases h <;> exact fun _ z => absurd z (by simp)
  | .str _, _, _, _, h => by cases h <;> exact fun _ z => absurd z (by simp)
  | .tuple ds, _, _, _, h => by
    cases h with
    | im r => exact fun _ z => absurd z (by simp)
    | nl r n => exact fun _ z => absurd z (by simp)
    | dz r => exact fun _ z => absurd z (by simp)
    | tp e t => exact Owns.lsts ds _ _ _ t
  | .dict _, _, _, _, h => by
    cases h with
    | im r => exact fun _ z => absurd z (by simp)
    | nl r n => exact fun _ z => absurd z (by simp)
    | dz r => exact fun _ z => absurd z (by simp)
    | dc e hd r =>
      intro a ha
      rw [List.mem_singleton.mp ha]
      exact ⟨.d _ _, e⟩
    | dk e r =>
      intro a ha
      rw [List.mem_singleton.mp ha]
      exact ⟨.k _, e⟩
    | er e r => exact fun _ z => absurd z (by simp)
theorem Owns.lsts : ∀ (ds : List D) (ss : List Sh) (vs : List V) (f : List Addr), Owns K ω H ss vs ds f → ∀ a ∈ f, ∃ xs : Lc, H a = some xs.ho
  | [], _, _, _, h => by cases h; exact fun _ z => absurd z (by simp)
  | d :: ds, _, _, _, h => by
    cases h with
    | cons r t =>
      intro a ha
      rcases (List.mem_append.mp ha) with ha | ha
      · exact Own.lsts d _ _ _ r a ha
      · exact Owns.lsts ds _ _ _ t a ha
end
theorem Owns.ims : ∀ {ds : List D} {vs : List V} {f : List Addr}, Owns K ω H (List.replicate ds.length .im) vs ds f → Reps K ω H vs ds ∧ f = []
  | [], _, _, h => by cases h; exact ⟨.nil, rfl⟩
  | d :: ds, _, _, h => by
    rw [List.length_cons, List.replicate_succ] at h
    cases h with
    | cons r t =>
      obtain ⟨q, rfl⟩ := Owns.ims t
      cases r with
      | im r => exact ⟨.cons r q, rfl⟩
theorem Owns.of : ∀ {ds : List D} {vs : List V}, Reps K ω H vs ds → Owns K ω H (List.replicate ds.length .im) vs ds []
  | [], _, h => by cases h; exact .nil
  | d :: ds, _, h => by
    cases h with
    | cons r t => exact .cons (f := []) (g := []) (.im r) (Owns.of t)
theorem Own.mui {a : Addr} {vs : List V} {ds : List D} (h : H a = some (.lst vs)) (r : Reps K ω H vs ds) : Own K ω H (.mu .im) (.ref a) (.list ds) [a] := .mu h (Owns.of r)
theorem Own.im_inv {v : V} {d : D} {f : List Addr} (h : Own K ω H .im v d f) : Rep K ω H v d ∧ f = [] := by
  cases h with
  | im r => exact ⟨r, rfl⟩
end
end Zd
namespace Zd
open PySem PySem.Spec
open PyProof.Rows L2
abbrev Dl := List (Option D)
abbrev Fps := Nat → List Addr
abbrev Kn := Nat → Sh
abbrev Fp (φ : Fps) : Om := fun a => ∃ i, a ∈ φ i
/-- the slots σ stand for δ, slot i held as κ i says, with the lists φ i of its own -/
structure Slots (K : PySem.W.Frag) (κ : Kn) (ω : Om) (H : Hp) (σ : L2.St) (δ : Dl) (φ : Fps) : Prop where
  len : σ.length = δ.length
  at_ : ∀ i d, δ[i]? = some (some d) → ∃ v, σ[i]? = some (some v) ∧ Own K ω H (κ i) v d (φ i)
  nod : ∀ i, (φ i).Nodup
  dis : ∀ i j a, i ≠ j → a ∈ φ i → a ∉ φ j
  sub : ∀ a, Fp φ a → ω a
  wf : ∀ a, ω a → ∃ xs : Lc, H a = some xs.ho
/-- what a run may change: the lists in P; what is new -/
structure Step (ω P : Om) (H : Hp) (ω' P' : Om) (H' : Hp) : Prop where
  keep : ∀ a o, H a = some o → ¬ P a → H' a = some o
  om : ∀ a, ω' a → ω a ∨ H a = none
  stay : ∀ a, ω a → ¬ P a → ω' a
  fp : ∀ a, P' a → P a ∨ H a = none
  sub : ∀ a, P a → ω a
  wf : ∀ a, ω a → ∃ xs : Lc, H a = some xs.ho
abbrev Ext (H H' : Hp) : Prop := ∀ a o, H a = some o → H' a = some o
theorem Ext.refl (H : Hp) : Ext H H := fun _ _ h => h
theorem Ext.trans {H H1 H2 : Hp} (a : Ext H H1) (b :
          Ext H1 H2) : Ext H H2 := fun c o h => b c o (a c o h)
theorem Ext.upd {H : Hp} {p : Addr} {o : HO} (h : H p = none) : Ext H (upd H p o) := fun a u e => by
  rw [upd_ne (ne_of_none e h)]
  exact e
section
variable {K : PySem.W.Frag} {κ : Kn} {ω ω1 ω2 ω' P P1 P2 P' : Om} {H H1 H2 H' : Hp} {σ : L2.St} {δ : Dl} {φ : Fps}
theorem Step.grow (s : Step ω P H ω' P' H') : Grow ω H ω' H' := ⟨fun a o h n => s.keep a o h fun p => n (s.sub a p), s.wf, s.om⟩
theorem Step.ext (sub : ∀ a, P a → ω a) (wf : ∀ a, ω a → ∃ xs : Lc, H a = some xs.ho) (e : Ext H H') : Step ω P H ω P H' :=
  ⟨fun a o h _ => e a o h, fun a h => .inl h, fun a h _ => h, fun a h => .inl h, sub, wf⟩
theorem Step.trans (a : Step ω P H ω1 P1 H1) (b : Step ω1 P1 H1 ω2 P2 H2) : Step ω P H ω2 P2 H2 where
  keep := fun c o h n => b.keep c o (a.keep c o h n) fun p => (a.fp c p).elim n fun z => by rw [h] at z; cases z
  om := fun c h => by
    rcases b.om c h with h | h
    · exact a.om c h
    · cases e : H c with
      | none => exact .inr rfl
      | some o =>
        by_cases hp : P c
        · exact .inl (a.sub c hp)
        · rw [a.keep c o e hp] at h; cases h
  stay := fun c h n => b.stay c (a.stay c h n) fun p => (a.fp c p).elim n fun z => by
    obtain ⟨xs, e⟩ := a.wf c h
    rw [e] at z; cases z
  fp := fun c h => by
    rcases b.fp c h with h | h
    · exact a.fp c h
    · cases e : H c with
      | none => exact .inr rfl
      | some o =>
        by_cases hp : P c
        · exact .inl hp
        · rw [a.keep c o e hp] at h; cases h
  sub := a.sub
  wf := a.wf
theorem Slots.refl (s : Slots K κ ω H σ δ φ) : Step ω (Fp φ) H ω (Fp φ) H := .ext s.sub s.wf (Ext.refl H)
theorem Slots.step (s : Slots K κ ω H σ δ φ) (e : Ext H H') : Step ω (Fp φ) H ω (Fp φ) H' := .ext s.sub s.wf e
theorem Slots.ext (s : Slots K κ ω H σ δ φ) (e : Ext H H') : Slots K κ ω H' σ δ φ where
  len := s.len
  at_ := fun i d h => by
    obtain ⟨v, h1, h2⟩ := s.at_ i d h
    refine ⟨v, h1, Own.mono (s.step e).grow d _ _ _ (fun a ha => ?_) h2⟩
    obtain ⟨xs, q⟩ := Own.lsts d _ _ _ h2 a ha
    rw [q, e a _ q]
  nod := s.nod
  dis := s.dis
  sub := s.sub
  wf := fun a h => by
    obtain ⟨xs, q⟩ := s.wf a h
    exact ⟨xs, e a _ q⟩
end
/-- which address a class of errors has -/
abbrev Cl := Str → Addr
/-- an error of the class c with the argument a reaches E -/
def Esc (K : PySem.W.Frag) (cls : Cl) (E : XK) (ω P : Om) (H : Hp) (c : Str) (a : D) : Prop :=
  ∀ ω' P' H' d v, Step ω P H ω' P' H' → EA c H' d v → Rep K ω' H' v a → E (.ref (cls c)) d H'
theorem Esc.up {K : PySem.W.Frag} {cls : Cl} {E : XK} {ω P ω1 P1 : Om} {H H1 : Hp} {c : Str} {a : D} (h : Esc K cls E ω P H c a) (s : Step ω P H ω1 P1 H1) : Esc K cls E ω1 P1 H1 c a :=
  fun ω' P' H' dx v t e r => h ω' P' H' dx v (s.trans t) e r
/-- the context of a body at this layer -/
structure Gm where
  K : PySem.W.Frag
  cls : Cl
  E : XK
  κ : Kn
abbrev RR := Om → Hp → Fps → V → D → Prop
def tX (G : Gm) (R : L2.St → RR) (m : Dl → Rs (D × Dl)) : TE := fun σ H Q => ∃ ω δ φ, Slots G.K G.κ ω H σ δ φ ∧
  Out (m δ) (fun r => ∀ ω' H' φ' v, Step ω (Fp φ) H ω' (Fp φ') H' → Slots G.K G.κ ω' H' σ r.2 φ' → R σ ω' H' φ' v r.1 → Q v H') (Esc G.K G.cls G.E ω (Fp φ) H)
abbrev tI (G : Gm) (m : Dl → Rs (D × Dl)) : TE := tX G (fun _ ω H _ v d => Rep G.K ω H v d) m
/-- an operand: a value, or the list in a slot as it will stand -/
inductive AV where
  | v (d : D)
  | r (i : Nat)
def Flat : Sh → Prop
  | .im => True
  | .mu .im => True
  | .dk => True
  | _ => False
def AvR (K : PySem.W.Frag) (κ : Kn) (σ : L2.St) (ω : Om) (H : Hp) (v : V) : AV → Prop
  | .v d => Rep K ω H v d
  | .r i => σ[i]? = some (some v) ∧ Flat (κ i)
theorem AvR.up {K : PySem.W.Frag} {κ : Kn} {σ : L2.St} {ω ω' : Om} {H H' : Hp} {v : V} {a : AV} (h : AvR K κ σ ω H v a) (g : Grow ω H ω' H') : AvR K κ σ ω' H' v a := by
  cases a with
  | v d => exact Rep.up h g
  | r i => exact h
def tA1 (G : Gm) (m : Dl → Rs (AV × Dl)) : TE := fun σ H Q => ∃ ω δ φ, Slots G.K G.κ ω H σ δ φ ∧
  Out (m δ) (fun r => ∀ ω' H' φ' v, Step ω (Fp φ) H ω' (Fp φ') H' → Slots G.K G.κ ω' H' σ r.2 φ' → AvR G.K G.κ σ ω' H' v r.1 → Q v H') (Esc G.K G.cls G.E ω (Fp φ) H)
inductive AvRs (K : PySem.W.Frag) (κ : Kn) (σ : L2.St) (ω : Om) (H : Hp) : List V → List AV → Prop
  | nil : AvRs K κ σ ω H [] []
  | cons {v : V} {vs : List V} {a : AV} {as : List AV} : AvR K κ σ ω H v a → AvRs K κ σ ω H vs as → AvRs K κ σ ω H (v :: vs) (a :: as)
theorem AvRs.up {K : PySem.W.Frag} {κ : Kn} {σ : L2.St} {ω ω' : Om} {H H' : Hp} : ∀ {vs : List V} {as : List AV}, AvRs K κ σ ω H vs as → Grow ω H ω' H' → AvRs K κ σ ω' H' vs as
  | _, _, .nil, _ => .nil
  | _, _, .cons r t, g => .cons (r.up g) (t.up g)
def tAr (G : Gm) (m : Dl → Rs (List AV × Dl)) : TA := fun σ H Q => ∃ ω δ φ, Slots G.K G.κ ω H σ δ φ ∧
  Out (m δ) (fun r => ∀ ω' H' φ' vs, Step ω (Fp φ) H ω' (Fp φ') H' → Slots G.K G.κ ω' H' σ r.2 φ' → AvRs G.K G.κ σ ω' H' vs r.1 → Q vs H') (Esc G.K G.cls G.E ω (Fp φ) H)
/-- a test -/
def tT (G : Gm) (m : Dl → Rs (Bool × Dl)) : TT := fun σ H Q => ∃ ω δ φ, Slots G.K G.κ ω H σ δ φ ∧
  Out (m δ) (fun r => ∀ ω' H' φ', Step ω (Fp φ) H ω' (Fp φ') H' → Slots G.K G.κ ω' H' σ r.2 φ' → Q r.1 H') (Esc G.K G.cls G.E ω (Fp φ) H)
/-- a new list -/
def tF (G : Gm) (m : Dl → Rs (List D × Dl)) : TE := fun σ H Q => ∃ ω δ φ, Slots G.K G.κ ω H σ δ φ ∧
  Out (m δ) (fun r => ∀ ω' H' φ' p vs, Step ω (Fp φ) H ω' (Fp φ') H' → Slots G.K G.κ ω' H' σ r.2 φ' → H' p = none → Reps G.K ω' H' vs r.1 → Q (.ref p) (upd H' p (.lst vs))) (Esc G.K G.cls G.E ω (Fp φ) H)
/-- something of ours -/
def tO (G : Gm) (s : Sh) (m : Dl → Rs (D × Dl)) : TE := fun σ H Q => ∃ ω δ φ, Slots G.K G.κ ω H σ δ φ ∧
  Out (m δ) (fun r => ∀ ω' H' φ' v f, Step ω (Fp φ) H ω' (fun a => Fp φ' a ∨ a ∈ f) H' → Slots G.K G.κ ω' H' σ r.2 φ' → Own G.K ω' H' s v r.1 f → f.Nodup → (∀ a ∈ f, ω' a ∧ ¬ Fp φ' a) → Q v H') (Esc G.K G.cls G.E ω (Fp φ) H)
theorem pe_if {X : Cx} {e : Expr} {t t' : TE} (h : PE X e t) (w : ∀ σ H Q, t' σ H Q → t σ H Q) : PE X e t' := ⟨fun pins s σ H Q I q => h.run pins s σ H Q I (w σ H Q q)⟩
theorem pt_if {X : Cx} {e : Expr} {t t' : TT} (h : PT X e t) (w : ∀ σ H Q, t' σ H Q → t σ H Q) : PT X e t' := ⟨fun pins s σ H Q I q => h.run pins s σ H Q I (w σ H Q q)⟩
theorem pw_if {X : Cx} {e : Expr} {t t' : TT} (h : PW X e t) (w : ∀ σ H Q, t' σ H Q → t σ H Q) : PW X e t' := ⟨fun wh pins s σ H Q I q => h.run wh pins s σ H Q I (w σ H Q q)⟩
theorem pa_if {X : Cx} {es : List Expr} {t t' : TA} (h : PA X es t) (w : ∀ σ H Q, t' σ H Q → t σ H Q) : PA X es t' := ⟨fun pos pins s σ H Q I q => h.run pos pins s σ H Q I (w σ H Q q)⟩
theorem ps_if' {X : Cx} {st : Stmt} {t t' : TS} (h : PS X st t) (w : ∀ D σ H, t' D σ H → t D σ H) : PS X st t' := ⟨fun pins s σ H D I q => h.run pins s σ H D I (w D σ H q)⟩
theorem pss_if' {X : Cx} {st : List Stmt} {t t' : TS} (h : PSs X st t) (w : ∀ D σ H, t' D σ H → t D σ H) : PSs X st t' := ⟨fun pins s σ H D I q => h.run pins s σ H D I (w D σ H q)⟩
abbrev Em := Dl → Rs (D × Dl)
abbrev Am := Dl → Rs (AV × Dl)
abbrev Lm := Dl → Rs (List AV × Dl)
abbrev Tm := Dl → Rs (Bool × Dl)
abbrev Fm := Dl → Rs (List D × Dl)
def mV (i : Nat) : Em := fun δ => match δ[i]? with
  | some (some d) => .ok (d, δ)
  | _ => .no
def mC (d : D) : Em := fun δ => .ok (d, δ)
def vA (m : Em) : Am := fun δ => m δ >>= fun r => .ok (.v r.1, r.2)
def rA (i : Nat) : Am := fun δ => match δ[i]? with
  | some (some _) => .ok (.r i, δ)
  | _ => .no
def get (δ : Dl) : AV → Rs D
  | .v d => .ok d
  | .r i => match δ[i]? with
    | some (some d) => .ok d
    | _ => .no
def gets (δ : Dl) : List AV → Rs (List D)
  | [] => .ok []
  | a :: as => get δ a >>= fun d => gets δ as >>= fun ds => .ok (d :: ds)
def mU (g : D → Rs D) (m : Am) : Em := fun δ => m δ >>= fun r => get r.2 r.1 >>= fun d => g d >>= fun e => .ok (e, r.2)
def mB (g : D → D → Rs D) (m n : Am) : Em := fun δ => m δ >>= fun r => n r.2 >>= fun q => get q.2 r.1 >>= fun d => get q.2 q.1 >>= fun e => g d e >>= fun z => .ok (z, q.2)
def mL (g : List D → Rs D) (m : Lm) : Em := fun δ => m δ >>= fun r => gets r.2 r.1 >>= fun ds => g ds >>= fun e => .ok (e, r.2)
def lNil : Lm := fun δ => .ok ([], δ)
def lCons (m : Am) (n : Lm) : Lm := fun δ => m δ >>= fun r => n r.2 >>= fun q => .ok (r.1 :: q.1, q.2)
def eF (m : Fm) : Em := fun δ => m δ >>= fun r => .ok (.list r.1, r.2)
/-- to be read: of ours or not -/
def Lk (K : PySem.W.Frag) (ω : Om) (H : Hp) (v : V) (d : D) : Prop := Rep K ω H v d ∨ (∃ a vs ds, v = .ref a ∧ d = .list ds ∧ H a = some (.lst vs) ∧ Reps K ω H vs ds) ∨ ∃ a ks kvs, v = .ref a ∧ d = .dict ((.bool true, .none) :: kvs) ∧ H a = some (.dK ks) ∧ RepKd K ω H ks kvs
section
variable {K : PySem.W.Frag} {κ : Kn} {ω : Om} {H : Hp} {σ : L2.St} {δ : Dl} {φ : Fps} {v : V} {d : D}
theorem Lk.of {s : Sh} {f : List Addr} (h : Own K ω H s v d f) (hf : Flat s) : Lk K ω H v d := by
  cases s with
  | im => exact .inl h.im_inv.1
  | mu s =>
    cases s with
    | im =>
      cases h with
      | mu e t =>
        obtain ⟨r, rfl⟩ := t.ims
        exact .inr (.inl ⟨_, _, _, rfl, rfl, e, r⟩)
      | nl r n => exact .inl r
    | _ => exact hf.elim
  | rc _ => exact hf.elim
  | tp _ => exact hf.elim
  | dc => exact hf.elim
  | er _ _ => exact hf.elim
  | dk =>
    cases h with
    | dk e r => exact .inr (.inr ⟨_, _, _, rfl, rfl, e, r⟩)
    | dz r => exact .inl r
theorem Lk.dp (h : Lk K ω H v d) (p : d.plain = true) : Dp K H v d := by
  rcases h with h | ⟨a, vs, ds, rfl, rfl, e, r⟩ | ⟨a, ks, kvs, rfl, rfl, e, r⟩
  · exact Rep.dp d v p h
  · exact .lst (.inl (.inl e)) (Reps.dp ds vs (by simpa only [PyData.plain] using p) r)
  · simp only [PyData.plain, Bool.false_eq_true] at p
theorem Lk.rdl {ds : List D} (h : Lk K ω H v (.list ds)) : ∃ a vs, v = .ref a ∧ Rd H a (.lst vs) ∧ Reps K ω H vs ds := by
  rcases h with h | ⟨a, vs, es, rfl, e, e1, r⟩ | ⟨a, ks, kvs, rfl, e, e1, r⟩
  · cases h with
    | lst hs ha => exact ⟨_, _, rfl, hs.1, ha⟩
  · cases e
    exact ⟨a, vs, rfl, .inl e1, r⟩
  · cases e
theorem Lk.list {ds : List D} (h : Lk K ω H v (.list ds)) : ∃ a vs, v = .ref a ∧ SqL K H a vs ∧ Reps K ω H vs ds := by
  obtain ⟨a, vs, h1, h2, h3⟩ := h.rdl
  exact ⟨a, vs, h1, .inl h2, h3⟩
theorem Lk.tuple {ds : List D} (h : Lk K ω H v (.tuple ds)) : ∃ a vs, v = .ref a ∧ SqT K H a vs ∧ Reps K ω H vs ds := by
  rcases h with h | ⟨a, vs, es, rfl, e, e1, r⟩ | ⟨a, ks, kvs, rfl, e, e1, r⟩
  · cases h with
    | tup hs ha => exact ⟨_, _, rfl, hs.sqT, ha⟩
  · cases e
  · cases e
theorem Lk.tupleN {ds : List D} (h : Lk K ω H v (.tuple ds)) : ∃ a vs, v = .ref a ∧ TupN K H a vs ∧ Reps K ω H vs ds := by
  rcases h with h | ⟨a, vs, es, rfl, e, e1, r⟩ | ⟨a, ks, kvs, rfl, e, e1, r⟩
  · cases h with
    | tup hs ha => exact ⟨_, _, rfl, hs, ha⟩
  · cases e
  · cases e
theorem Lk.dK {kvs : List (D × D)} (h : Lk K ω H v (.dict kvs)) (n : ∀ ys, ¬ RepKv K ω H ys kvs) : ∃ a ks kvs', v = .ref a ∧ Rd H a (.dK ks) ∧ RepKd K ω H ks kvs' ∧ (kvs = kvs' ∨ kvs = (.bool true, .none) :: kvs') := by
  rcases h with h | ⟨a, vs, es, rfl, e, e1, r⟩ | ⟨a, ks, kvs, rfl, e, e1, r⟩
  · cases h with
    | dct h1 h2 h3 => exact (n _ h3).elim
    | dk h1 h2 => exact ⟨_, _, _, rfl, .inr ⟨_, h1⟩, h2, .inl rfl⟩
  · cases e
  · cases e
    exact ⟨a, ks, _, rfl, .inl e1, r, .inr rfl⟩
theorem Lk.rep (h : Lk K ω H v d) (n : ∀ ds, d ≠ .list ds) (n2 : ∀ kvs, d ≠ .dict kvs) : Rep K ω H v d := by
  rcases h with h | ⟨a, vs, es, rfl, e, e1, r⟩ | ⟨a, ks, kvs, rfl, e, e1, r⟩
  · exact h
  · exact (n _ e).elim
  · exact (n2 _ e).elim
theorem Lk.int {i : Int} (h : Lk K ω H v (.int i)) : v = .int i := by
  have := h.rep (fun _ z => nomatch z) (fun _ z => nomatch z)
  cases this; rfl
theorem Lk.str {x : Str} (h : Lk K ω H v (.str x)) : v = .str x := by
  have := h.rep (fun _ z => nomatch z) (fun _ z => nomatch z)
  cases this; rfl
theorem Lk.bool {x : Bool} (h : Lk K ω H v (.bool x)) : v = .bl x := by
  have := h.rep (fun _ z => nomatch z) (fun _ z => nomatch z)
  cases this; rfl
theorem Lk.none (h : Lk K ω H v .none) : v = .non := by
  have := h.rep (fun _ z => nomatch z) (fun _ z => nomatch z)
  cases this; rfl
theorem Slots.got (s : Slots K κ ω H σ δ φ) {a : AV} (h : AvR K κ σ ω H v a) {q : D → Prop} {e : Str → D → Prop} (hq : Out (get δ a) q e) : ∃ d, Lk K ω H v d ∧ q d := by
  cases a with
  | v d => exact ⟨d, .inl h, hq⟩
  | r i =>
    obtain ⟨h1, h2⟩ := h
    cases e1 : δ[i]? with
    | none => simp only [get, e1] at hq; exact hq.elim
    | some o =>
      simp only [get, e1] at hq
      cases o with
      | none => exact hq.elim
      | some d =>
        obtain ⟨w, h3, h4⟩ := s.at_ i d e1
        rw [h1] at h3
        cases h3
        exact ⟨d, .of h4 h2, hq⟩
inductive Lks (K : PySem.W.Frag) (ω : Om) (H : Hp) : List V → List D → Prop
  | nil : Lks K ω H [] []
  | cons {v : V} {vs : List V} {d : D} {ds : List D} : Lk K ω H v d → Lks K ω H vs ds → Lks K ω H (v :: vs) (d :: ds)
theorem Slots.gots (s : Slots K κ ω H σ δ φ) : ∀ {as : List AV} {vs : List V} {q : List D → Prop} {e : Str → D → Prop}, AvRs K κ σ ω H vs as → Out (gets δ as) q e → ∃ ds, Lks K ω H vs ds ∧ q ds
  | [], _, _, _, h, hq => by cases h; exact ⟨[], .nil, hq⟩
  | a :: as, _, _, _, h, hq => by
    cases h with
    | cons r t =>
      obtain ⟨d, h1, h2⟩ := s.got r (Out.bind hq)
      obtain ⟨ds, h3, h4⟩ := s.gots t (Out.bind h2)
      exact ⟨d :: ds, .cons h1 h3, h4⟩
end
section
variable {X : Cx} {G : Gm} {e a b : Expr} {es : List Expr} {pos : Pos}
/-- an operand that nobody may change -/
theorem av {m : Em} (h : PE X e (tI G m)) : PE X e (tA1 G (vA m)) := by
  refine pe_if h fun σ H Q ⟨ω, δ, φ, s, o⟩ => ⟨ω, δ, φ, s, (Out.bind o).mono (fun r hr ω' H' φ' v h1 h2 h3 => hr ω' H' φ' v h1 h2 h3) fun _ _ z => z⟩
theorem xV (i : Nat) {x : Str} (hN : X.N[i]? = some x := by rfl) (hv : Vis X.env.scope x := by first | exact Or.inl rfl | exact Or.inr (Or.inl rfl) | exact Or.inr (Or.inr rfl)) (hk : G.κ i = .im := by rfl) (hd : (x == ("__debug__" : Str)) = false := by decide)
    (hcd : (x == ("__classdict__" : Str)) = false := by decide) : PE X (.Name x pos) (tI G (mV i)) := by
  refine pe_if (pe_var hN hv hd hcd) fun σ H Q ⟨ω, δ, φ, s, o⟩ => ?_
  unfold mV at o
  cases e1 : δ[i]? with
  | none => rw [e1] at o; exact o.elim
  | some z =>
    rw [e1] at o
    cases z with
    | none => exact o.elim
    | some d =>
      obtain ⟨w, h3, h4⟩ := s.at_ i d e1
      rw [hk] at h4
      exact ⟨w, h3, o ω H φ w s.refl s h4.im_inv.1⟩
theorem xC {v : V} {d : D} (h : PE X e (tC v)) (r : ∀ ω H, Rep G.K ω H v d) : PE X e (tI G (mC d)) :=
  pe_if h fun σ H Q ⟨ω, δ, φ, s, o⟩ => o ω H φ v s.refl s (r ω H)
theorem xi {i j} : PE X (.Constant (.int i) j pos) (tI G (mC (.int i))) := xC pe_int fun _ _ => .int i
theorem xb {i j} : PE X (.Constant (.bool i) j pos) (tI G (mC (.bool i))) := xC pe_bl fun _ _ => .bl i
theorem xn {j} : PE X (.Constant .none j pos) (tI G (mC .none)) := xC pe_non fun _ _ => .non
theorem xs {x j} : PE X (.Constant (.str x) j pos) (tI G (mC (.str x))) := xC pe_str fun _ _ => .str x
/-- what is asked of an operation: it reads, and makes new things alone -/
abbrev Wf (ω : Om) (H : Hp) : Prop := ∀ a, ω a → ∃ xs : Lc, H a = some xs.ho
def UnD (K : PySem.W.Frag) (r : V → Hp → VK → Prop) (g : D → Rs D) : Prop := ∀ ω H x d Q, Wf ω H → Lk K ω H x d → Out (g d) (fun z => ∀ H' v, Ext H H' → Rep K ω H' v z → Q v H') (fun _ _ => False) → r x H Q
def BiD (K : PySem.W.Frag) (r : R2) (g : D → D → Rs D) : Prop := ∀ ω H x y d e Q, Wf ω H → Lk K ω H x d → Lk K ω H y e → Out (g d e) (fun z => ∀ H' v, Ext H H' → Rep K ω H' v z → Q v H') (fun _ _ => False) → r x y H Q
def LiD (K : PySem.W.Frag) (r : List V → Hp → VK → Prop) (g : List D → Rs D) : Prop := ∀ ω H xs ds Q, Wf ω H → Lks K ω H xs ds → Out (g ds) (fun z => ∀ H' v, Ext H H' → Rep K ω H' v z → Q v H') (fun _ _ => False) → r xs H Q
theorem out_no {α : Type} {r : Rs α} {q : α → Prop} {e : Str → D → Prop} (h : Out r q e) (n : ∀ c a, r ≠ .ex c a) : Out r q (fun _ _ => False) := by
  cases r with
  | ok a => exact h
  | ex c a => exact (n c a rfl).elim
  | no => exact h
/-- an operation that raises nothing -/
def NoX {α β : Type} (g : α → Rs β) : Prop := ∀ x c a, g x ≠ .ex c a
def NoX2 {α β γ : Type} (g : α → β → Rs γ) : Prop := ∀ x y c a, g x y ≠ .ex c a
theorem bi_core {ta : Am} {tb : Am} (ha : PE X a (tA1 G ta)) (hb : PE X b (tA1 G tb)) {r : R2} {β : Type} {g : D → D → Rs β} (nx : NoX2 g) {k : Om → Hp → Fps → L2.St → Dl → V → V → D → D → VK → β → Prop}
    {σ : L2.St} {H : Hp} {Q : VK} (h : ∃ ω δ φ, Slots G.K G.κ ω H σ δ φ ∧ Out (ta δ >>= fun r => tb r.2 >>= fun q => get q.2 r.1 >>= fun d => get q.2 q.1 >>= fun e => g d e >>= fun z => .ok (z, q.2))
      (fun r => ∀ ω' H' φ', Step ω (Fp φ) H ω' (Fp φ') H' → Slots G.K G.κ ω' H' σ r.2 φ' → ∀ x y d e, Lk G.K ω' H' x d → Lk G.K ω' H' y e → k ω' H' φ' σ r.2 x y d e Q r.1) (Esc G.K G.cls G.E ω (Fp φ) H))
    (hr : ∀ ω' H' φ' δ' x y d e, Slots G.K G.κ ω' H' σ δ' φ' → Lk G.K ω' H' x d → Lk G.K ω' H' y e → Out (g d e) (fun z => k ω' H' φ' σ δ' x y d e Q z) (fun _ _ => False) → r x y H' Q) :
    tOp r (tA1 G ta) (tA1 G tb) σ H Q := by
  obtain ⟨ω, δ, φ, s, o⟩ := h
  refine ⟨ω, δ, φ, s, (Out.bind o).mono (fun q1 h1 ω1 H1 φ1 x st1 s1 r1 => ⟨ω1, q1.2, φ1, s1, (Out.bind h1).mono (fun q2 h2 ω2 H2 φ2 y st2 s2 r2 => ?_) fun c z q => q.up st1⟩) fun _ _ z => z⟩
  obtain ⟨d, l1, h3⟩ := s2.got (r1.up st2.grow) (Out.bind h2)
  obtain ⟨e, l2, h4⟩ := s2.got r2 (Out.bind h3)
  refine hr ω2 H2 φ2 q2.2 x y d e s2 l1 l2 ((out_no (Out.bind h4) (nx d e)).mono (fun z hz => ?_) fun _ _ z => z)
  exact hz ω2 H2 φ2 (st1.trans st2) s2 x y d e l1 l2
theorem bi {op : Operator} {r : R2} {g : D → D → Rs D} {ta tb : Am} (ho : OpR X (binaryOp op) r) (hd : BiD G.K r g) (nx : NoX2 g) (ha : PE X a (tA1 G ta)) (hb : PE X b (tA1 G tb)) : PE X (.BinOp a op b pos) (tI G (mB g ta tb)) := by
  refine pe_if (pe_op ho ha hb) fun σ H Q h => bi_core ha hb (r := r) nx (k := fun ω H φ σ δ x y d e Q z => ∀ H' v, Ext H H' → Rep G.K ω H' v z → Q v H') ?_ fun ω H φ δ x y d e s l1 l2 o => hd ω H x y d e Q s.wf l1 l2 o
  obtain ⟨ω, δ, φ, s, o⟩ := h
  exact ⟨ω, δ, φ, s, o.mono (fun r hr ω' H' φ' st s' x y d e _ _ H'' v ex rp => hr ω' H'' φ' v (st.trans (s'.step ex)) (s'.ext ex) rp) fun _ _ z => z⟩
end
end Zd
namespace Zd
open PySem PySem.Spec
open PyProof.Rows L2
section
variable {X : Cx} {G : Gm} {e a b c : Expr} {es : List Expr} {pos : Pos}
theorem cm {op : CmpOp} {r : R2} {g : D → D → Rs D} {ta tb : Am} (ho : OpR X (compareOp op) r) (hd : BiD G.K r g) (nx : NoX2 g) (ha : PE X a (tA1 G ta)) (hb : PE X b (tA1 G tb)) (hm : behindInMarks op b = false := by with_unfolding_all rfl) : PE X (.Compare a [op] [b] pos) (tI G (mB g ta tb)) := by
  refine pe_if (pe_cmpR ho ha hb hm) fun σ H Q h => bi_core ha hb (r := r) nx (k := fun ω H φ σ δ x y d e Q z => ∀ H' v, Ext H H' → Rep G.K ω H' v z → Q v H') ?_ fun ω H φ δ x y d e s l1 l2 o => hd ω H x y d e Q s.wf l1 l2 o
  obtain ⟨ω, δ, φ, s, o⟩ := h
  exact ⟨ω, δ, φ, s, o.mono (fun r hr ω' H' φ' st s' x y d e _ _ H'' v ex rp => hr ω' H'' φ' v (st.trans (s'.step ex)) (s'.ext ex) rp) fun _ _ z => z⟩
def bool (d : D) : Rs Bool := match d with
  | .bool b => .ok b
  | _ => .no
theorem bool_inv {d : D} {q : Bool → Prop} {e : Str → D → Prop} (h : Out (bool d) q e) : ∃ b, d = .bool b ∧ q b := by
  cases d with
  | bool b => exact ⟨b, rfl, h⟩
  | _ => exact h.elim
def mT (m : Em) : Tm := fun δ => m δ >>= fun r => bool r.1 >>= fun b => .ok (b, r.2)
theorem cmt {op : CmpOp} {r : R2} {g : D → D → Rs D} {ta tb : Am} (ho : OpR X (compareOp op) r) (hd : BiD G.K r g) (nx : NoX2 g) (ha : PE X a (tA1 G ta)) (hb : PE X b (tA1 G tb)) (hm : behindInMarks op b = false := by with_unfolding_all rfl) : PT X (.Compare a [op] [b] pos) (tT G (mT (mB g ta tb))) := by
  refine pt_if (pt_cmpR ho ha hb hm) fun σ H Q h => ?_
  refine bi_core ha hb (r := r) (Q := fun x H1 => ∃ c, x = .bl c ∧ Q c H1) nx (k := fun ω H φ σ δ x y d e Q z => ∀ H' v, Ext H H' → Rep G.K ω H' v z → Q v H') ?_ fun ω H φ δ x y d e s l1 l2 o => hd ω H x y d e _ s.wf l1 l2 o
  obtain ⟨ω, δ, φ, s, o⟩ := h
  refine ⟨ω, δ, φ, s, (Out.bind o).mono (fun r hr ω' H' φ' st s' x y d e _ _ H'' v ex rp => ?_) fun _ _ z => z⟩
  obtain ⟨b, e1, h1⟩ := bool_inv (Out.bind hr)
  rw [e1] at rp
  cases rp
  exact ⟨b, rfl, h1 ω' H'' φ' (st.trans (s'.step ex)) (s'.ext ex)⟩
/-- any other test: the value's truth -/
def tru (d : D) : Rs Bool := match d with
  | .none => .ok false
  | .bool b => .ok b
  | .int i => .ok (i != 0)
  | .str y => if y.length ≤ sizeLine then .ok ((y.length : Int) != 0) else .no
  | .list ds => .ok (!ds.isEmpty)
  | .tuple ds => .ok (!ds.isEmpty)
  | .dict _ => .no
theorem Reps.isEmpty {K : PySem.W.Frag} {ω : Om} {H : Hp} {vs : List V} {ds : List D} (h : Reps K ω H vs ds) : vs.isEmpty = ds.isEmpty := by
  cases h <;> rfl
theorem tru_ok' {K : PySem.W.Frag} {ω : Om} {H : Hp} {v : V} {d : D} (l : Lk K ω H v d) {q : Bool → Prop} {e : Str → D → Prop} (h : Out (tru d) q e) : ∃ k, TruV K v H k ∧ q k := by
  cases d with
  | none => rw [l.none]; exact ⟨false, rfl, h⟩
  | bool b => rw [l.bool]; exact ⟨b, rfl, h⟩
  | int i => rw [l.int]; exact ⟨_, rfl, h⟩
  | str y =>
    rw [l.str]
    simp only [tru] at h
    by_cases hy : y.length ≤ sizeLine
    · rw [if_pos hy] at h
      exact ⟨_, ⟨hy, rfl⟩, h⟩
    · rw [if_neg hy] at h
      exact h.elim
  | list ds =>
    obtain ⟨a, vs, rfl, hs, r⟩ := l.list
    exact ⟨_, .inl ⟨vs, hs, rfl⟩, by rw [r.isEmpty]; exact h⟩
  | tuple ds =>
    obtain ⟨a, vs, rfl, hs, r⟩ := l.tuple
    exact ⟨_, .inr (.inl ⟨vs, hs, rfl⟩), by rw [r.isEmpty]; exact h⟩
  | dict _ => exact h.elim
def mTr (m : Am) : Tm := fun δ => m δ >>= fun r => get r.2 r.1 >>= fun d => tru d >>= fun b => .ok (b, r.2)
theorem tt {m : Am} (h : PE X e (tA1 G m)) (hK : X.K = G.K := by rfl) (he : ∀ whole, isTrue e X.env whole = (do let v ← whole; standAt e.pos; holding [v] (truthy v)) := by intro _; rfl) : PT X e (tT G (mTr m)) := by
  refine pt_if (pt_truth h he) fun σ H Q ⟨ω, δ, φ, s, o⟩ => ⟨ω, δ, φ, s, (Out.bind o).mono (fun r hr ω' H' φ' v st s' rp => ?_) fun _ _ z => z⟩
  obtain ⟨d, l, h1⟩ := s'.got rp (Out.bind hr)
  obtain ⟨k, h2, h3⟩ := tru_ok' l (Out.bind h1)
  exact ⟨k, hK ▸ h2, h3 ω' H' φ' st s'⟩
def mNot (m : Tm) : Tm := fun δ => m δ >>= fun r => .ok (!r.1, r.2)
def mAnd (m n : Tm) : Tm := fun δ => m δ >>= fun r => if r.1 = true then n r.2 else .ok (false, r.2)
def mOr (m n : Tm) : Tm := fun δ => m δ >>= fun r => if r.1 = true then .ok (true, r.2) else n r.2
theorem tn {m : Tm} (h : PT X a (tT G m)) : PT X (.UnaryOp .Not a pos) (tT G (mNot m)) := by
  refine pt_if (pt_not h) fun σ H Q ⟨ω, δ, φ, s, o⟩ => ⟨ω, δ, φ, s, (Out.bind o).mono (fun r hr ω' H' φ' st s' => hr ω' H' φ' st s') fun _ _ z => z⟩
theorem wo1 {m : Tm} (h : PT X a (tT G m)) : PW X (.BoolOp .Or [a] pos) (tT G m) := pw_or1 h
theorem wo {m n : Tm} (h : PT X a (tT G m)) (h' : PW X (.BoolOp .Or (b :: es) pos) (tT G n)) : PW X (.BoolOp .Or (a :: b :: es) pos) (tT G (mOr m n)) := by
  refine pw_if (pw_or h h') fun σ H Q ⟨ω, δ, φ, s, o⟩ => ⟨ω, δ, φ, s, (Out.bind o).mono (fun r hr ω' H' φ' st s' => ?_) fun _ _ z => z⟩
  cases e1 : r.1 with
  | true =>
    rw [if_pos rfl]
    rw [e1, if_pos rfl] at hr
    exact hr ω' H' φ' st s'
  | false =>
    rw [if_neg
              Bool.false_ne_true]
    rw [e1, if_neg Bool.false_ne_true] at hr
    exact ⟨ω', r.2, φ', s', hr.mono (fun q hq ω2 H2 φ2 st2 s2 => hq ω2 H2 φ2 (st.trans st2) s2) fun _ _ z => z.up st⟩
theorem tw {m : Tm} (h : PW X e (tT G m)) : PT X e (tT G m) := h.pt
/-- and, or, not as values -/
def eNot (m : Em) : Em := fun δ => m δ >>= fun r => bool r.1 >>= fun b => .ok (.bool (!b), r.2)
def eAnd (m n : Em) : Em := fun δ => m δ >>= fun r => bool r.1 >>= fun b => if b = true then n r.2 else .ok (.bool false, r.2)
def eOr (m n : Em) : Em := fun δ => m δ >>= fun r => bool r.1 >>= fun b => if b = true then .ok (.bool true, r.2) else n r.2
theorem en {m : Em} (h : PE X a (tI G m)) : PE X (.UnaryOp .Not a pos) (tI G (eNot m)) := by
  refine pe_if (pe_not h) fun σ H Q ⟨ω, δ, φ, s, o⟩ => ⟨ω, δ, φ, s, (Out.bind o).mono (fun r hr ω' H' φ' v st s' rp => ?_) fun _ _ z => z⟩
  obtain ⟨b, e1, h1⟩ := bool_inv (Out.bind hr)
  rw [e1] at rp
  cases rp
  exact ⟨b, rfl, h1 ω' H' φ' _ st s' (.bl _)⟩
theorem e1' {op} {m : Em} (h : PE X a (tI G m)) : PE X (.BoolOp op [a] pos) (tI G m) := pe_one h
theorem ea {m n : Em} (h : PE X a (tI G m)) (h' : PE X (.BoolOp .And (b :: es) pos) (tI G n)) : PE X (.BoolOp .And (a :: b :: es) pos) (tI G (eAnd m n)) := by
  refine pe_if (pe_and h h') fun σ H Q ⟨ω, δ, φ, s, o⟩ => ⟨ω, δ, φ, s, (Out.bind o).mono (fun r hr ω' H' φ' v st s' rp => ?_) fun _ _ z => z⟩
  obtain ⟨b, e1, h1⟩ := bool_inv (Out.bind hr)
  rw [e1] at rp
  cases rp
  refine ⟨b, rfl, ?_⟩
  cases b with
  | true =>
    rw [if_pos rfl] at h1 ⊢
    exact ⟨ω', r.2, φ', s', h1.mono (fun q hq ω2 H2 φ2 v st2 s2 r2 => hq ω2 H2 φ2 v (st.trans st2) s2 r2) fun _ _ z => z.up st⟩
  | false =>
    rw [if_neg Bool.false_ne_true] at h1 ⊢
    exact h1 ω' H' φ' _ st s' (.bl _)
theorem eo {m n : Em} (h : PE X a (tI G m)) (h' : PE X (.BoolOp .Or (b :: es) pos) (tI G n)) : PE X (.BoolOp .Or (a :: b :: es) pos) (tI G (eOr m n)) := by
  refine pe_if (pe_or h h') fun σ H Q ⟨ω, δ, φ, s, o⟩ => ⟨ω, δ, φ, s, (Out.bind o).mono (fun r hr ω' H' φ' v st s' rp => ?_) fun _ _ z => z⟩
  obtain ⟨b, e1, h1⟩ := bool_inv (Out.bind hr)
  rw [e1] at rp
  cases rp
  refine ⟨b, rfl, ?_⟩
  cases b with
  | true =>
    rw [if_pos rfl] at h1 ⊢
    exact h1 ω' H' φ' _ st s' (.bl _)
  | false =>
    rw [if_neg Bool.false_ne_true] at h1 ⊢
    exact ⟨ω', r.2, φ', s', h1.mono (fun q hq ω2 H2 φ2 v st2 s2 r2 => hq ω2 H2 φ2 v (st.trans st2) s2 r2) fun _ _ z => z.up st⟩
/-- x if t else y -/
def mIf (t : Tm) (m n : Em) : Em := fun δ => t δ >>= fun r => if r.1 = true then m r.2 else n r.2
theorem ie {t : Tm} {m n : Em} (hc : PT X c (tT G t)) (ha : PE X a (tI G m)) (hb : PE X b (tI G n)) : PE X (.IfExp c a b pos) (tI G (mIf t m n)) := by
  refine pe_if (pe_ifExp hc ha hb) fun σ H Q ⟨ω, δ, φ, s, o⟩ => ⟨ω, δ, φ, s, (Out.bind o).mono (fun r hr ω' H' φ' st s' => ?_) fun _ _ z => z⟩
  cases e1 : r.1 with
  | true =>
    rw [if_pos rfl]
    rw [e1, if_pos rfl] at hr
    exact ⟨ω', r.2, φ', s', hr.mono (fun q hq ω2 H2 φ2 v st2 s2 r2 => hq ω2 H2 φ2 v (st.trans st2) s2 r2) fun _ _ z => z.up st⟩
  | false =>
    rw [if_neg
              Bool.false_ne_true]
    rw [e1, if_neg Bool.false_ne_true] at hr
    exact ⟨ω', r.2, φ', s', hr.mono (fun q hq ω2 H2 φ2 v st2 s2 r2 => hq ω2 H2 φ2 v (st.trans st2) s2 r2) fun _ _ z => z.up st⟩
abbrev Sm := Dl → Rs (List D × Dl)
def tS (G : Gm) (m : Sm) : TA := fun σ H Q => ∃ ω δ φ, Slots G.K G.κ ω H σ δ φ ∧
  Out (m δ) (fun r => ∀ ω' H' φ' vs, Step ω (Fp φ) H ω' (Fp φ') H' → Slots G.K G.κ ω' H' σ r.2 φ' → Reps G.K ω' H' vs r.1 → Q vs H') (Esc G.K G.cls G.E ω (Fp φ) H)
def sNil : Sm := fun δ => .ok ([], δ)
def sCons (m : Em) (n : Sm) : Sm := fun δ => m δ >>= fun r => n r.2 >>= fun q => .ok (r.1 :: q.1, q.2)
theorem sn : PA X [] (tS G sNil) := pa_if pa_nil fun σ H Q ⟨ω, δ, φ, s, o⟩ => o ω H φ [] s.refl s .nil
theorem sc {m : Em} {n : Sm} (h : PE X e (tI G m)) (hr : PA X es (tS G n)) (hs : starEach (e :: es) X.env = (false, eval e X.env) :: starEach es X.env := by rfl) : PA X (e :: es) (tS G (sCons m n)) := by
  refine pa_if (pa_cons h hr hs) fun σ H Q ⟨ω, δ, φ, s, o⟩ => ⟨ω, δ, φ, s, (Out.bind o).mono (fun r h1 ω' H' φ' v st s' rp => ⟨ω', r.2, φ', s', (Out.bind h1).mono (fun q hq ω2 H2 φ2 vs st2 s2 r2 => ?_) fun _ _ z => z.up st⟩) fun _ _ z => z⟩
  exact hq ω2 H2 φ2 (v :: vs) (st.trans st2) s2 (.cons (Rep.up rp st2.grow) r2)
theorem ln : PA X [] (tAr G lNil) := pa_if pa_nil fun σ H Q ⟨ω, δ, φ, s, o⟩ => o ω H φ [] s.refl s .nil
theorem lc {m : Am} {n : Lm} (h : PE X e (tA1 G m)) (hr : PA X es (tAr G n)) (hs : starEach (e :: es) X.env = (false, eval e X.env) :: starEach es X.env := by rfl) : PA X (e :: es) (tAr G (lCons m n)) := by
  refine pa_if (pa_cons h hr hs) fun σ H Q ⟨ω, δ, φ, s, o⟩ => ⟨ω, δ, φ, s, (Out.bind o).mono (fun r h1 ω' H' φ' v st s' rp => ⟨ω', r.2, φ', s', (Out.bind h1).mono (fun q hq ω2 H2 φ2 vs st2 s2 r2 => ?_) fun _ _ z => z.up st⟩) fun _ _ z => z⟩
  exact hq ω2 H2 φ2 (v :: vs) (st.trans st2) s2 (.cons (AvR.up rp st2.grow) r2)
def mTup (m : Sm) : Em := fun δ => m δ >>= fun r => if r.1.length ≤ sizeLine then .ok (.tuple r.1, r.2) else .no
theorem Rep.newT {K : PySem.W.Frag} {ω : Om} {H : Hp} {p : Addr} {vs : List V} {ds : List D} {o : Obj} (wf : Wf ω H) (hp : H p = none) (ho : o.dict = none) (h : Reps K ω H vs ds) : Rep K ω (upd H p (.frz o (.tup vs))) (.ref p) (.tuple ds) :=
  .tup (.inl ⟨o, upd_same, ho⟩) (h.up ⟨fun a o e _ => Ext.upd hp a o e, wf, fun a z => .inl z⟩)
theorem Rep.newL {K : PySem.W.Frag} {ω : Om} {H : Hp} {p : Addr} {vs : List V} {ds : List D} (wf : Wf ω H) (hp : H p = none) (h : Reps K ω H vs ds) : Rep K ω (upd H p (.lst vs)) (.ref p) (.list ds) :=
  .lst ⟨.inl upd_same, fun z => by obtain ⟨xs, e⟩ := wf p z; rw [hp] at e; cases e⟩ (h.up ⟨fun a o e _ => Ext.upd hp a o e, wf, fun a z => .inl z⟩)
theorem et {x1} {m : Sm} (h : PA X es (tS G m)) : PE X (.Tuple es x1 pos) (tI G (mTup m)) := by
  refine pe_if (pe_tupN h) fun σ H Q ⟨ω, δ, φ, s, o⟩ => ⟨ω, δ, φ, s, (Out.bind o).mono (fun r hr ω' H' φ' vs st s' rp => ?_) fun _ _ z => z⟩
  by_cases hl : r.1.length ≤ sizeLine
  · rw [if_pos hl] at hr
    refine ⟨by rw [rp.length]; exact hl, fun p ob hp ho => ?_⟩
    exact hr ω' _ φ' _ (st.trans (s'.step (Ext.upd hp))) (s'.ext (Ext.upd hp)) (Rep.newT s'.wf hp ho rp)
  · rw [if_neg hl] at hr
    exact hr.elim
def fLst (m : Sm) : Fm := fun δ => m δ >>= fun r => if r.1.length ≤ sizeLine then .ok (r.1, r.2) else .no
theorem fl {m : Sm} (h : PA X es (tS G m)) : PE X (.List es pos) (tF G (fLst m)) := by
  refine pe_if (pe_lst h) fun σ H Q ⟨ω, δ, φ, s, o⟩ => ⟨ω, δ, φ, s, (Out.bind o).mono (fun r hr ω' H' φ' vs st s' rp => ?_) fun _ _ z => z⟩
  by_cases hl : r.1.length ≤ sizeLine
  · rw [if_pos hl] at hr
    refine ⟨by rw [rp.length]; exact hl, fun p hp => ?_⟩
    exact hr ω' H' φ' p vs st s' hp rp
  · rw [if_neg hl] at hr
    exact hr.elim
/-- a new list as a value that nobody changes -/
theorem fi {m : Fm} (h : PE X e (tF G m)) : PE X e (tI G (eF m)) := by
  refine pe_if h fun σ H Q ⟨ω, δ, φ, s, o⟩ => ⟨ω, δ, φ, s, (Out.bind o).mono (fun r hr ω' H' φ' p vs st s' hp rp => ?_) fun _ _ z => z⟩
  exact hr ω' _ φ' _ (st.trans (s'.step (Ext.upd hp))) (s'.ext (Ext.upd hp)) (Rep.newL s'.wf hp rp)
/-- .. as one of ours -/
theorem Own.newL {K : PySem.W.Frag} {ω : Om} {H : Hp} {p : Addr} {vs : List V} {ds : List D} (wf : Wf ω H) (hp : H p = none) (h : Reps K ω H vs ds) : Own K (fun a => ω a ∨ a = p) (upd H p (.lst vs)) (.mu .im) (.ref p) (.list ds) [p] :=
  .mui upd_same (h.up ⟨fun a o e _ => Ext.upd hp a o e, wf, fun a z => z.elim .inl fun e => .inr (e ▸ hp)⟩)
theorem Slots.more {K : PySem.W.Frag} {κ : Kn} {ω ω' : Om} {H H' : Hp} {σ : L2.St} {δ : Dl} {φ : Fps} (s : Slots K κ ω H σ δ φ) (e : Ext H H') (h1 : ∀ a, ω a → ω' a) (h2 : ∀ a, ω' a → ω a ∨ H a = none) (h3 : ∀ a, ω' a → ∃ xs : Lc, H' a = some xs.ho) : Slots K κ ω' H' σ δ φ where
  len := s.len
  at_ := fun i d h => by
    obtain ⟨v, q1, q2⟩ := s.at_ i d h
    refine ⟨v, q1, Own.mono (ω' := ω') ⟨fun a o h _ => e a o h, s.wf, h2⟩ d _ _ _ (fun a ha => ?_) q2⟩
    obtain ⟨xs, q⟩ := Own.lsts d _ _ _ q2 a ha
    rw [q, e a _ q]
  nod := s.nod
  dis := s.dis
  sub := fun a h => h1 a (s.sub a h)
  wf := h3
theorem oim {m : Em} (h : PE X e (tI G m)) : PE X e (tO G .im m) := by
  refine pe_if h fun σ H Q ⟨ω, δ, φ, s, o⟩ => ⟨ω, δ, φ, s, o.mono (fun r hr ω' H' φ' v st s' rp => ?_) fun _ _ z => z⟩
  refine hr ω' H' φ' v [] ⟨st.keep, st.om, st.stay, fun a z => z.elim (st.fp a) fun z => absurd z (by simp), st.sub, st.wf⟩ s' (.im rp) .nil fun a ha => absurd ha (by simp)
/-- what is ours, let go -/
def without (ω : Om) (f : List Addr) : Om := fun a => ω a ∧ a ∉ f
end
mutual
/-- no text dict of ours within -/
def noDk : Sh → Bool
  | .dk => false
  | .mu s => noDk s
  | .rc ss => noDks ss
  | .tp ss => noDks ss
  | .im => true
  | .dc => true
  | .er _ _ => false
def noDks : List Sh → Bool
  | [] => true
  | s :: ss => noDk s && noDks ss
end
theorem noDks_rep {s : Sh} (h : noDk s = true) : ∀ n, noDks (List.replicate n s) = true
  | 0 => rfl
  | n + 1 => by rw [List.replicate_succ, noDks, h, noDks_rep h n]; rfl
/-- kinds without text dicts -/
class KdOk (κ : Kn) : Prop where
  ok : ∀ j, noDk (κ j) = true
section
variable {K : PySem.W.Frag} {ω : Om} {H : Hp}
mutual
theorem Own.let (F : List Addr) : ∀ (d : D) (s : Sh) (v : V) (f : List Addr), (∀ a ∈ f, a ∈ F) → Own K ω H s v d f → noDk s = true → (∀ a, ω a → ∃ xs : Lc, H a = some xs.ho) → Rep K (without ω F) H v d
  | .list ds, _, _, _, hf, h, nk, wf => by
    cases h with
    | im r => exact r.up ⟨fun a o e _ => e, wf, fun a z => .inl z.1⟩
    | mu e t => exact .lst ⟨.inl e, fun z => z.2 (hf _ List.mem_cons_self)⟩ (Owns.let F ds _ _ _ (fun a ha => hf a (List.mem_cons_of_mem _ ha)) t (noDks_rep (by simpa only [noDk] using nk) _) wf)
    | rc e t => exact .lst ⟨.inl e, fun z => z.2 (hf _ List.mem_cons_self)⟩ (Owns.let F ds _ _ _ (fun a ha => hf a (List.mem_cons_of_mem _ ha)) t (by simpa only [noDk] using nk) wf)
    | nl r n => exact (n _ rfl).elim
    | dz r => exact r.up ⟨fun a o e _ => e, wf, fun a z => .inl z.1⟩
  | .none, _, _, _, _, h, nk, wf => by
    cases h with
    | im r => exact r.up ⟨fun a o e _ => e, wf, fun a z => .inl z.1⟩
    | nl r n => exact r.up ⟨fun a o e _ => e, wf, fun a z => .inl z.1⟩
    | dz r => exact r.up ⟨fun a o e _ => e, wf, fun a z => .inl z.1⟩
  | .bool _, _, _, _, _, h, nk, wf => by
    cases h with
    | im r => exact r.up ⟨fun a o e _ => e, wf, fun a z => .inl z.1⟩
    | nl r n => exact r.up ⟨fun a o e _ => e, wf, fun a z => .inl z.1⟩
    | dz r => exact r.up ⟨fun a o e _ => e, wf, fun a z => .inl z.1⟩
  | .int _, _, _, _, _, h, nk, wf => by
    cases h with
    | im r => exact r.up ⟨fun a o e _ => e, wf, fun a z => .inl z.1⟩
    | nl r n => exact r.up ⟨fun a o e _ => e, wf, fun a z => .inl z.1⟩
    | dz r => exact r.up ⟨fun a o e _ => e, wf, fun a z => .inl z.1⟩
  | .str _, _, _, _, _, h, nk, wf => by
    cases h with
    | im r => exact r.up ⟨fun a o e _ => e, wf, fun a z => .inl z.1⟩
    | nl r n => exact r.up ⟨fun a o e _ => e, wf, fun a z => .inl z.1⟩
    | dz r => exact r.up ⟨fun a o e _ => e, wf, fun a z => .inl z.1⟩
  | .dict kvs, _, _, _, hf, h, nk, wf => by
    cases h with
    | im r => exact r.up ⟨fun a o e _ => e, wf, fun a z => .inl z.1⟩
    | nl r n => exact r.up ⟨fun a o e _ => e, wf, fun a z => .inl z.1⟩
    | dz r => exact r.up ⟨fun a o e _ => e, wf, fun a z => .inl z.1⟩
    | dc e hd r => exact .dct ⟨e, fun z => z.2 (hf _ List.mem_cons_self)⟩ hd (RepKv.mono ⟨fun a o e _ => e, wf, fun a z => .inl z.1⟩ kvs _ r)
    | dk e r => simp only [noDk, Bool.false_eq_true] at nk
    | er e r => simp only [noDk, Bool.false_eq_true] at nk
  | .tuple ds, _, _, _, hf, h, nk, wf => by
    cases h with
    | im r => exact r.up ⟨fun a o e _ => e, wf, fun a z => .inl z.1⟩
    | nl r n => exact r.up ⟨fun a o e _ => e, wf, fun a z => .inl z.1⟩
    | dz r => exact r.up ⟨fun a o e _ => e, wf, fun a z => .inl z.1⟩
    | tp e t => exact .tup e (Owns.let F ds _ _ _ hf t (by simpa only [noDk] using nk) wf)
theorem Owns.let (F : List Addr) : ∀ (ds : List D) (ss : List Sh) (vs : List V) (f : List Addr), (∀ a ∈ f, a ∈ F) → Owns K ω H ss vs ds f → noDks ss = true → (∀ a, ω a → ∃ xs : Lc, H a = some xs.ho) → Reps K (without ω F) H vs ds
  | [], _, _, _, _, h, _, _ => by cases h; exact .nil
  | d :: ds, _, _, _, hf, h, nk, wf => by
    cases h with
    | cons r t =>
      simp only [noDks, Bool.and_eq_true] at nk
      exact .cons (Own.let F d _ _ _ (fun a ha => hf a (List.mem_append_left _ ha)) r nk.1 wf) (Owns.let F ds _ _ _ (fun a ha => hf a (List.mem_append_right _ ha)) t nk.2 wf)
end
theorem Slots.less {κ : Kn} {σ : L2.St} {δ : Dl} {φ : Fps} {F : List Addr} (s : Slots K κ ω H σ δ φ) (h : ∀ a ∈ F, ¬ Fp φ a) : Slots K κ (without ω F) H σ δ φ where
  len := s.len
  at_ := fun i d h => by
    obtain ⟨v, q1, q2⟩ := s.at_ i d h
    exact ⟨v, q1, Own.mono (ω' := without ω F) ⟨fun a o e _ => e, s.wf, fun a z => .inl z.1⟩ d _ _ _ (fun a ha => rfl) q2⟩
  nod := s.nod
  dis := s.dis
  sub := fun a z => ⟨s.sub a z, fun m => h a m z⟩
  wf := fun a z => s.wf a z.1
end
section
variable {X : Cx} {G : Gm} {e a b c : Expr} {es : List Expr} {pos : Pos}
theorem oI {sh : Sh} {m : Em} (h : PE X e (tO G sh m)) (nk : noDk sh = true := by rfl) : PE X e (tI G m) := by
  refine pe_if h fun σ H Q ⟨ω, δ, φ, s, o⟩ => ⟨ω, δ, φ, s, o.mono (fun r hr ω' H' φ' v f st s' ow nd hf => ?_) fun _ _ z => z⟩
  refine hr (without ω' f) H' φ' v ⟨st.keep, fun a z => st.om a z.1, fun a z n => ⟨st.stay a z n, fun m => ?_⟩, fun a z => st.fp a (.inl z), st.sub, st.wf⟩ (s'.less fun a ha => (hf a ha).2) (Own.let f _ _ _ _ (fun a ha => ha) ow nk s'.wf)
  rcases st.fp a (.inr m) with q | q
  · exact n q
  · obtain ⟨xs, q2⟩ := st.wf a z
    rw [q] at q2; cases q2
/-- a slot's own list, moved out -/
def mM (i : Nat) : Em := fun δ => match δ[i]? with
  | some (some d) => .ok (d, δ.set i none)
  | _ => .no
theorem Slots.out {K : PySem.W.Frag} {κ : Kn} {ω : Om} {H : Hp} {σ : L2.St} {δ : Dl} {φ : Fps} (s : Slots K κ ω H σ δ φ) (i : Nat) : Slots K κ ω H σ (δ.set i none) (fun j => if j = i then [] else φ j) where
  len := by rw [List.length_set]; exact s.len
  at_ := fun j d h => by
    by_cases e : i = j
    · subst e
      rw [List.getElem?_set] at h
      simp at h
    · rw [List.getElem?_set_ne e] at h
      rw [if_neg (Ne.symm e)]
      exact s.at_ j d h
  nod := fun j => by split <;> simp [s.nod]
  dis := fun j k a n h => by
    split at h
    · simp at h
    · split
      · simp
      · exact s.dis j k a n h
  sub := fun a ⟨j, h⟩ => by
    dsimp only at h
    split at h
    · simp at h
    · exact s.sub a ⟨j, h⟩
  wf := s.wf
end
end Zd
namespace Zd
open PySem PySem.Spec
open PyProof.Rows L2
inductive Fl where
  | nx
  | rt (d : D)
  | bk
  | ct
abbrev Pm := Dl → Rs (Fl × Dl)
/-- the slots at pin hold what they held -/
abbrev Pin (pin : Nat → Bool) (σ σ' : L2.St) : Prop := ∀ i, pin i = true → σ'[i]? = σ[i]?
/-- a body's own: what stays in its slot, how what is handed back is held -/
structure Gs extends Gm where
  pin : Nat → Bool
  ret : Sh
def tP (G : Gs) (σ0 : L2.St) (m : Pm) : TS := fun D σ H => Pin G.pin σ0 σ ∧ ∃ ω δ φ, Slots G.K G.κ ω H σ δ φ ∧
  Out (m δ) (fun r => match r.1 with
    | .nx => ∀ ω' H' σ' φ', Step ω (Fp φ) H ω' (Fp φ') H' → Slots G.K G.κ ω' H' σ' r.2 φ' → Pin G.pin σ0 σ' → D.nx σ' H'
    | .bk => ∀ ω' H' σ' φ', Step ω (Fp φ) H ω' (Fp φ') H' → Slots G.K G.κ ω' H' σ' r.2 φ' → Pin G.pin σ0 σ' → D.bk σ' H'
    | .ct => ∀ ω' H' σ' φ', Step ω (Fp φ) H ω' (Fp φ') H' → Slots G.K G.κ ω' H' σ' r.2 φ' → Pin G.pin σ0 σ' → D.ct σ' H'
    | .rt d => ∀ ω' H' σ' φ' v f, Step ω (Fp φ) H ω' (fun a => Fp φ' a ∨ a ∈ f) H' → Slots G.K G.κ ω' H' σ' r.2 φ' → Pin G.pin σ0 σ' → Own G.K ω' H' G.ret v d f → f.Nodup → (∀ a ∈ f, ω' a ∧ ¬ Fp φ' a) → D.rt v H')
    (Esc G.K G.cls G.E ω (Fp φ) H)
def pNil : Pm := fun δ => .ok (.nx, δ)
def pSeq (m n : Pm) : Pm := fun δ => m δ >>= fun r => match r.1 with
  | .nx => n r.2
  | .rt d => .ok (.rt d, r.2)
  | .bk => .ok (.bk, r.2)
  | .ct => .ok (.ct, r.2)
section
variable {X : Cx} {G : Gs} {σ0 : L2.St} {st : Stmt} {sts a b : List Stmt} {e c : Expr} {pos : Pos}
/-- the ends of a run that follows on another's -/
theorem tP_go {m : Pm} {D : Ends} {σ : L2.St} {H : Hp} {ω P : Om} {ω1 : Om} {H1 : Hp} {φ1 : Fps} {δ1 : Dl} {σ1 : L2.St} (st : Step ω P H ω1 (Fp φ1) H1) (s1 : Slots G.K G.κ ω1 H1 σ1 δ1 φ1) (p1 : Pin G.pin σ0 σ1)
    (o : Out (m δ1) (fun r => match r.1 with
    | .nx => ∀ ω' H' σ' φ', Step ω P H ω' (Fp φ') H' → Slots G.K G.κ ω' H' σ' r.2 φ' → Pin G.pin σ0 σ' → D.nx σ' H'
    | .bk => ∀ ω' H' σ' φ', Step ω P H ω' (Fp φ') H' → Slots G.K G.κ ω' H' σ' r.2 φ' → Pin G.pin σ0 σ' → D.bk σ' H'
    | .ct => ∀ ω' H' σ' φ', Step ω P H ω' (Fp φ') H' → Slots G.K G.κ ω' H' σ' r.2 φ' → Pin G.pin σ0 σ' → D.ct σ' H'
    | .rt d => ∀ ω' H' σ' φ' v f, Step ω P H ω' (fun a => Fp φ' a ∨ a ∈ f) H' → Slots G.K G.κ ω' H' σ' r.2 φ' → Pin G.pin σ0 σ' → Own G.K ω' H' G.ret v d f → f.Nodup → (∀ a ∈ f, ω' a ∧ ¬ Fp φ' a) → D.rt v H')
    (Esc G.K G.cls G.E ω P H)) : tP G σ0 m D σ1 H1 := by
  refine ⟨p1, ω1, δ1, φ1, s1, o.mono (fun r hr => ?_) fun _ _ z => z.up st⟩
  cases e1 : r.1 with
  | nx => simp only [e1] at hr ⊢; exact fun ω' H' σ' φ' t => hr ω' H' σ' φ' (st.trans t)
  | bk => simp only [e1] at hr ⊢; exact fun ω' H' σ' φ' t => hr ω' H' σ' φ' (st.trans t)
  | ct => simp only [e1] at hr ⊢; exact fun ω' H' σ' φ' t => hr ω' H' σ' φ' (st.trans t)
  | rt d => simp only [e1] at hr ⊢; exact fun ω' H' σ' φ' v f t => hr ω' H' σ' φ' v f (st.trans t)
theorem pn : PSs X [] (tP G σ0 pNil) := pss_if' pss_nil fun D σ H ⟨p, ω, δ, φ, s, o⟩ => o ω H σ φ s.refl s p
theorem tP_seq {m n : Pm} {D : Ends} {σ : L2.St} {H : Hp} (h : tP G σ0 (pSeq m n) D σ H) : tP G σ0 m { D with nx := tP G σ0 n D } σ H := by
  obtain ⟨p, ω, δ, φ, s, o⟩ := h
  refine ⟨p, ω, δ, φ, s, (Out.bind o).mono (fun r hr => ?_) fun _ _ z => z⟩
  cases e1 : r.1 with
  | nx => simp only [e1] at hr ⊢; exact fun ω' H' σ' φ' t s' p' => tP_go (σ := σ) t s' p' hr
  | bk => simp only [e1] at hr ⊢; exact hr
  | ct => simp only [e1] at hr ⊢; exact hr
  | rt d => simp only [e1] at hr ⊢; exact hr
theorem pc {m n : Pm} (h : PS X st (tP G σ0 m)) (h' : PSs X sts (tP G σ0 n)) : PSs X (st :: sts) (tP G σ0 (pSeq m n)) :=
  pss_if' (pss_cons h h') fun D σ H q => tP_seq q
theorem p1 {m : Pm} (h : PS X st (tP G σ0 m)) : PSs X [st] (tP G σ0 m) := pss_one h
def pBk : Pm := fun δ => .ok (.bk, δ)
def pCt : Pm := fun δ => .ok (.ct, δ)
def pIf (t : Tm) (m n : Pm) : Pm := fun δ => t δ >>= fun r => if r.1 = true then m r.2 else n r.2
theorem pif {t : Tm} {m n : Pm} (hc : PT X c (tT G.toGm t)) (ha : PSs X a (tP G σ0 m)) (hb : PSs X b (tP G σ0 n)) : PS X (.If c a b pos) (tP G σ0 (pIf t m n)) := by
  refine ps_if' (ps_if hc ha hb) fun D σ H ⟨p, ω, δ, φ, s, o⟩ => ⟨ω, δ, φ, s, (Out.bind o).mono (fun r hr ω' H' φ' st s' => ?_) fun _ _ z => z⟩
  cases e1 : r.1 with
  | true =>
    rw [if_pos rfl]
    rw [e1, if_pos rfl] at hr
    exact tP_go (σ := σ) st s' p hr
  | false =>
    rw [if_neg
              Bool.false_ne_true]
    rw [e1, if_neg Bool.false_ne_true] at hr
    exact tP_go (σ := σ) st s' p hr
def pRet (m : Em) : Pm := fun δ => m δ >>= fun r => .ok (.rt r.1, r.2)
theorem pr {sh : Sh} {m : Em} (h : PE X e (tO G.toGm sh m)) (hs : G.ret = sh := by rfl) : PS X (.Return (some e) pos) (tP G σ0 (pRet m)) := by
  refine ps_if' (ps_ret h) fun D σ H ⟨p, ω, δ, φ, s, o⟩ => ⟨ω, δ, φ, s, (Out.bind o).mono (fun r hr ω' H' φ' v f st s' ow nd hf => ?_) fun _ _ z => z⟩
  exact hr ω' H' σ φ' v f st s' p (hs ▸ ow) nd hf
theorem pri {m : Em} (h : PE X e (tI G.toGm m)) (hs : G.ret = .im := by rfl) : PS X (.Return (some e) pos) (tP G σ0 (pRet m)) := pr (oim h) hs
theorem Slots.put {K : PySem.W.Frag} {κ : Kn} {ω : Om} {H : Hp} {σ : L2.St} {δ : Dl} {φ : Fps} (s : Slots K κ ω H σ δ φ) (i : Nat) (hi : i < δ.length) {v : V} {d : PySem.PyData} {f : List Addr} (ow : Own K ω H (κ i) v d f) (nd : f.Nodup) (hf : ∀ a ∈ f, ω a ∧ ¬ Fp φ a) :
    Slots K κ ω H (σ.set i (some v)) (δ.set i (some d)) (fun j => if j = i then f else φ j) where
  len := by rw [List.length_set, List.length_set]; exact s.len
  at_ := fun j e h => by
    by_cases q : i = j
    · subst q
      rw [List.getElem?_set_self hi] at h
      cases h
      refine ⟨v, List.getElem?_set_self (by rw [s.len]; exact hi), ?_⟩
      rw [if_pos rfl]
      exact ow
    · rw [List.getElem?_set_ne q] at h
      rw [if_neg (Ne.symm q), List.getElem?_set_ne q]
      exact s.at_ j e h
  nod := fun j => by split <;> first | exact nd | exact s.nod j
  dis := fun j k a n h => by
    split at h
    · rename_i ej
      rw [if_neg (by rw [← ej]; exact Ne.symm n)]
      exact fun z => (hf a h).2 ⟨k, z⟩
    · split
      · exact fun z => (hf a z).2 ⟨j, h⟩
      · exact s.dis j k a n h
  sub := fun a ⟨j, h⟩ => by
    dsimp only at h
    split at h
    · exact (hf a h).1
    · exact s.sub a ⟨j, h⟩
  wf := s.wf
def put (δ : Dl) (i : Nat) (d : PySem.PyData) : Rs Dl := if i < δ.length then .ok (δ.set i (some d)) else .no
def pSet (i : Nat) (m : Em) : Pm := fun δ => m δ >>= fun r => put r.2 i r.1 >>= fun δ' => .ok (.nx, δ')
theorem put_inv {δ : Dl} {i : Nat} {d : PySem.PyData} {q : Dl → Prop} {e : Str → PySem.PyData → Prop} (h : Out (put δ i d) q e) : i < δ.length ∧ q (δ.set i (some d)) := by
  unfold put at h
  by_cases hi : i < δ.length
  · rw [if_pos hi] at h
    exact ⟨hi, h⟩
  · rw [if_neg hi] at h
    exact h.elim
theorem pin_set {pin : Nat → Bool} {σ σ' : L2.St} {i : Nat} {v : V} (p : Pin pin σ σ') (hp : pin i = false) : Pin pin σ (σ'.set i (some v)) := fun j hj => by
  rw [List.getElem?_set_ne (by rintro rfl; rw [hp] at hj; cases hj)]
  exact p j hj
/-- what a store at a slot leaves -/
theorem put_step {K : PySem.W.Frag} {κ : Kn} {ω ω' P : Om} {H H' : Hp} {σ : L2.St} {δ : Dl} {φ : Fps} {f : List Addr} (st : Step ω P H ω' (fun a => Fp φ a ∨ a ∈ f) H') (i : Nat) : Step ω P H ω' (Fp (fun j => if j = i then f else φ j)) H' :=
  ⟨st.keep, st.om, st.stay, fun a ⟨j, h⟩ => by
    dsimp only at h
    split at h
    · exact st.fp a (.inr h)
    · exact st.fp a (.inl ⟨j, h⟩), st.sub, st.wf⟩
theorem pso {i : Nat} {x : Str} {m : Em} {pos' : Pos} {sh : Sh} (hN : X.N.Nodup) (he : PE X e (tO G.toGm sh m)) (hsh : G.κ i = sh := by rfl) (hi : X.N[i]? = some x := by rfl) (hx : Loc X.env.scope x := by first | exact Or.inl rfl | exact Or.inr rfl) (hp : G.pin i = false := by rfl) (hs : swapsWith e (some (.Name x pos')) pos.line X.env = pure false := by rfl) (hf : X.fn x = true ∨ X.env.scope.names.lookup x = some .local := by first | exact .inl rfl | exact .inr rfl | assumption) :
    PS X (.Assign [.Name x pos'] e pos) (tP G σ0 (pSet i m)) := by
  refine ps_if' (ps_set hN hi hx he hs hf) fun D σ H ⟨p, ω, δ, φ, s, o⟩ => ⟨ω, δ, φ, s, (Out.bind o).mono (fun r hr ω' H' φ' v f st s' ow nd hf => ?_) fun _ _ z => z⟩
  obtain ⟨hi', hr⟩ := put_inv (Out.bind hr)
  rw [← hsh] at ow
  exact hr ω' H' _ _ (put_step (K := G.K) (κ := G.κ) (σ := σ) (δ := δ) st i) (s'.put i hi' ow nd hf) (pin_set p hp)
theorem ps {i : Nat} {x : Str} {m : Em} {pos' : Pos} (hN : X.N.Nodup) (he : PE X e (tI G.toGm m)) (hsh : G.κ i = .im := by rfl) (hi : X.N[i]? = some x := by rfl) (hx : Loc X.env.scope x := by first | exact Or.inl rfl | exact Or.inr rfl) (hp : G.pin i = false := by rfl) (hs : swapsWith e (some (.Name x pos')) pos.line X.env = pure false := by rfl) (hf : X.fn x = true ∨ X.env.scope.names.lookup x = some .local := by first | exact .inl rfl | exact .inr rfl | assumption) :
    PS X (.Assign [.Name x pos'] e pos) (tP G σ0 (pSet i m)) := pso hN (oim he) hsh hi hx hp hs hf
/-- an expression for what it does -/
def pEx (m : Em) : Pm := fun δ => m δ >>= fun r => .ok (.nx, r.2)
theorem pe {m : Em} (he : PE X e (tI G.toGm m)) (hs : swapsWith e none pos.line X.env = pure false := by rfl) : PS X (.Expr e pos) (tP G σ0 (pEx m)) := by
  refine ps_if' (ps_expr he hs) fun D σ H ⟨p, ω, δ, φ, s, o⟩ => ⟨ω, δ, φ, s, (Out.bind o).mono (fun r hr ω' H' φ' v st s' rp => ?_) fun _ _ z => z⟩
  exact hr ω' H' σ φ' st s' p
abbrev Tg := PySem.PyData → Dl → Rs Dl
def tG (G : Gs) (σ0 : L2.St) (t : Tg) : TG := fun v σ H Q => Pin G.pin σ0 σ ∧ ∃ ω δ φ d, Slots G.K G.κ ω H σ δ φ ∧ Rep G.K ω H v d ∧
  Out (t d δ) (fun δ' => ∀ σ' φ', Step ω (Fp φ) H ω (Fp φ') H → Slots G.K G.κ ω H σ' δ' φ' → Pin G.pin σ0 σ' → σ'.length = σ.length → Q σ' H) (fun _ _ => False)
def gN (i : Nat) : Tg := fun d δ => put δ i d
theorem Slots.puti {K : PySem.W.Frag} {κ : Kn} {ω : Om} {H : Hp} {σ : L2.St} {δ : Dl} {φ : Fps} (s : Slots K κ ω H σ δ φ) (i : Nat) (hi : i < δ.length) {v : V} {d : PySem.PyData} (hk : κ i = .im) (r : Rep K ω H v d) :
    Slots K κ ω H (σ.set i (some v)) (δ.set i (some d)) (fun j => if j = i then [] else φ j) ∧ Step ω (Fp φ) H ω (Fp (fun j => if j = i then [] else φ j)) H :=
  ⟨s.put i hi (by rw [hk]; exact .im r) .nil fun a ha => absurd ha (by simp), fun a o h _ => h, fun a h => .inl h, fun a h _ => h, fun a ⟨j, h⟩ => by
    dsimp only at h
    split at h
    · exact absurd h (by simp)
    · exact .inl ⟨j, h⟩, s.sub, s.wf⟩
theorem gn {i : Nat} {x : Str} (hN : X.N.Nodup) (hi : X.N[i]? = some x := by rfl) (hk : G.κ i = .im := by rfl) (hp : G.pin i = false := by rfl) (hx : Loc X.env.scope x := by first | exact Or.inl rfl | exact Or.inr rfl) (hf : X.fn x = true ∨ X.env.scope.names.lookup x = some .local := by first | exact .inl rfl | exact .inr rfl | assumption) :
    PG X (.Name x pos) (tG G σ0 (gN i)) := by
  refine ⟨fun pins s σ H v u Q I r h => (pg_name hN hi hx hf).run pins s σ H v u Q I r ?_⟩
  obtain ⟨p, ω, δ, φ, d, sl, rp, o⟩ := h
  obtain ⟨hi', q⟩ := put_inv o
  obtain ⟨s2, st⟩ := sl.puti i hi' hk rp
  exact q _ _ st s2 (pin_set p hp) (List.length_set ..)
abbrev Tgs := List PySem.PyData → Dl → Rs Dl
def tGs (G : Gs) (σ0 : L2.St) (t : Tgs) : TGs := fun vs σ H Q => Pin G.pin σ0 σ ∧ ∃ ω δ φ ds, Slots G.K G.κ ω H σ δ φ ∧ Reps G.K ω H vs ds ∧
  Out (t ds δ) (fun δ' => ∀ σ' φ', Step ω (Fp φ) H ω (Fp φ') H → Slots G.K G.κ ω H σ' δ' φ' → Pin G.pin σ0 σ' → σ'.length = σ.length → Q σ' H) (fun _ _ => False)
def gE : Tgs := fun ds δ => match ds with
  | [] => .ok δ
  | _ => .no
def gC (t : Tg) (u : Tgs) : Tgs := fun ds δ => match ds with
  | d :: ds => t d δ >>= fun δ' => u ds δ'
  | [] => .no
theorem ge : PGs X [] (tGs G σ0 gE) := by
  refine ⟨fun pins s σ H vs us Q I r h => pgs_nil.run pins s σ H vs us Q I r ?_⟩
  obtain ⟨p, ω, δ, φ, ds, sl, rp, o⟩ := h
  cases ds with
  | nil =>
    cases rp
    exact ⟨rfl, o σ φ sl.refl sl p rfl⟩
  | cons d ds => exact o.elim
theorem gc {es : List Expr} {t : Tg} {u : Tgs} (h1 : PG X e (tG G σ0 t)) (h2 : PGs X es (tGs G σ0 u)) (hs : (assignEach (e :: es) X.env).map (·.2) = assign e X.env :: (assignEach es X.env).map (·.2) := by rfl) : PGs X (e :: es) (tGs G σ0 (gC t u)) := by
  refine ⟨fun pins s σ H vs us Q I r h => (pgs_cons h1 h2 hs).run pins s σ H vs us Q I r ?_⟩
  obtain ⟨p, ω, δ, φ, ds, sl, rp, o⟩ := h
  cases ds with
  | nil => exact o.elim
  | cons d ds =>
    cases rp with
    | cons r1 r2 =>
      refine ⟨_, _, rfl, p, ω, δ, φ, d, sl, r1, (Out.bind o).mono (fun δ1 h1 σ1 φ1 st1 s1 p1 l1 => ⟨p1, ω, δ1, φ1, ds, s1, r2, h1.mono (fun δ2 h2 σ2 φ2 st2 s2 p2 l2 => h2 σ2 φ2 (st1.trans st2) s2 p2 (l2.trans l1)) fun _ _ z => z⟩) fun _ _ z => z⟩
def gT (n : Nat) (t : Tgs) : Tg := fun d δ => match d with
  | .tuple ds => if ds.length = n then t ds δ else .no
  | _ => .no
theorem gt {es : List Expr} {k : Nat} {t : Tgs} {n : Nat} (hc : X.calm = true) (h : PGs X es (tGs G σ0 t)) (hK : X.K = G.K := by rfl)
    (hn : (assignEach es X.env).length = n := by rfl) (hst : (assignEach es X.env).findIdx? (·.1) = none := by rfl) : PG X (.Tuple es k pos) (tG G σ0 (gT n t)) := by
  refine ⟨fun pins s σ H v u Q I r q => (pg_tup hc h hn hst).run pins s σ H v u Q I r ?_⟩
  obtain ⟨p, ω, δ, φ, d, sl, rp, o⟩ := q
  cases d with
  | tuple ds =>
    simp only [gT] at o
    by_cases hl : ds.length = n
    · rw [if_pos hl] at o
      obtain ⟨a, vs, rfl, hs, rs⟩ := Lk.tuple (.inl rp)
      exact ⟨a, vs, rfl, hK ▸ hs, by rw [rs.length]; exact hl, p, ω, δ, φ, ds, sl, rs, o⟩
    · rw [if_neg hl] at o
      exact o.elim
  | _ => exact o.elim
/-- target = e -/
def pAs (t : Tg) (m : Em) : Pm := fun δ => m δ >>= fun r => t r.1 r.2 >>= fun δ' => .ok (.nx, δ')
/-- a target raises nothing -/
def NoG (t : Tg) : Prop := ∀ d δ c a, t d δ ≠ .ex c a
def NoGs (t : Tgs) : Prop := ∀ d δ c a, t d δ ≠ .ex c a
theorem put_nx {δ : Dl} {i : Nat} {d : PySem.PyData} {c : Str} {a : PySem.PyData} : put δ i d ≠ .ex c a := by unfold put; split <;> (intro z; cases z)
theorem ng_n {i : Nat} : NoG (gN i) := fun _ _ _ _ => put_nx
theorem ng_e : NoGs gE := fun ds _ _ _ => by cases ds <;> (intro z; cases z)
theorem bind_nx {α β : Type} {x : Rs α} {f : α → Rs β} {c : Str} {a : PySem.PyData} (h1 : ∀ c a, x ≠ .ex c a) (h2 : ∀ y c a, f y ≠ .ex c a) : (x >>= f) ≠ .ex c a := by
  cases x with
  | ok y => exact h2 y c a
  | ex c a => exact fun _ => h1 c a rfl
  | no => intro z; cases z
theorem ng_c {t : Tg} {u : Tgs} (h : NoG t) (h' : NoGs u) : NoGs (gC t u) := fun ds δ c a => by
  cases ds with
  | nil => intro z; cases z
  | cons d ds => exact bind_nx (fun c a => h d δ c a) fun y c a => h' ds y c a
theorem ng_t {n : Nat} {t : Tgs} (h : NoGs t) : NoG (gT n t) := fun d δ c a => by
  cases d with
  | tuple ds =>
    show (if ds.length = n then t ds δ else .no) ≠ _
    split
    · exact h ds δ c a
    · intro z; cases z
  | _ => intro z; cases z
/-- a, b = x, y with plain names -/
def pPar (i j : Nat) (m : Sm) : Pm := fun δ => m δ >>= fun r => match r.1 with
  | [d, e] => put r.2 i d >>= fun δ1 => put δ1 j e >>= fun δ2 => .ok (.nx, δ2)
  | _ => .no
end
end Zd
namespace Zd
open PySem PySem.Spec
open PyProof.Rows L2
/-- J gives xs, while W stands -/
structure Wk (K : PySem.W.Frag) (J : It) (xs : List D) (W : Om → Hp → Prop) : Prop where
  goes : ∀ i ω H, i < xs.length → W ω H → J.go i H
  stops : ∀ ω H, W ω H → J.stop xs.length H
  yields : ∀ i ω H x H', W ω H → Wf ω H → i < xs.length → J.yld i H x H' → Ext H H' ∧ ∃ d, xs[i]? = some d ∧ Rep K ω H' x d
  stay : ∀ ω P H ω' P' H', Step ω P H ω' P' H' → W ω H → W ω' H'
def tW (G : Gm) (m : Sm) : TI := fun σ H R => ∃ ω δ φ, Slots G.K G.κ ω H σ δ φ ∧
  Out (m δ) (fun r => ∀ ω' H' φ' J W, Step ω (Fp φ) H ω' (Fp φ') H' → Slots G.K G.κ ω' H' σ r.2 φ' → Wk G.K J r.1 W → W ω' H' → R J H') (Esc G.K G.cls G.E ω (Fp φ) H)
theorem pi_if {X : Cx} {tg e : Expr} {t t' : TI} (h : PI X tg e t) (w : ∀ σ H R, t' σ H R → t σ H R) : PI X tg e t' := ⟨fun pins s σ H R I q => h.run pins s σ H R I (w σ H R q)⟩
def loopF (t : Tg) (m : Pm) : List D → Pm
  | [] => fun δ => .ok (.nx, δ)
  | d :: ds => fun δ => t d δ >>= fun δ1 => m δ1 >>= fun q => match q.1 with
    | .nx => loopF t m ds q.2
    | .ct => loopF t m ds q.2
    | .bk => .ok (.nx, q.2)
    | .rt d => .ok (.rt d, q.2)
def pFor (w : Sm) (t : Tg) (m : Pm) : Pm := fun δ => w δ >>= fun r => loopF t m r.1 r.2
theorem Slots.gup {K : PySem.W.Frag} {κ : Kn} {ω : Om} {H H' : Hp} {σ : L2.St} {δ : Dl} {φ : Fps} (s : Slots K κ ω H σ δ φ) (e : Ext H H') : Step ω (Fp φ) H ω (Fp φ) H' ∧ Slots K κ ω H' σ δ φ := ⟨s.step e, s.ext e⟩
section
variable {X : Cx} {G : Gs} {σ0 : L2.St} {body : List Stmt} {tg iter : Expr} {pos : Pos}
theorem pf {w : Sm} {t : Tg} {m : Pm} (hp : PassesOwn (model X.prog X.w) X.A X.env X.xe) (hc : X.calm = true) (hi : PI X tg iter (tW G.toGm w)) (hg : PG X tg (tG G σ0 t)) (nx : NoG t) (hb : PSs X body (tP G σ0 m))
    (hs : ∀ x, foldedSetIterable iter X.env x = pure x := by intro _; rfl) : PS X (.For tg iter body [] pos) (tP G σ0 (pFor w t m)) := by
  refine ps_if' (ps_for hp hc hi hg hb hs) fun D σ H ⟨p, ω, δ, φ, s, o⟩ => ⟨ω, δ, φ, s, (Out.bind o).mono (fun r hr ω' H' φ' J W st s' wk hW => ?_) fun _ _ z => z⟩
  obtain ⟨xs, δ1⟩ := r
  refine ⟨fun i k σ' H1 => k = xs.length - i ∧ i ≤ xs.length ∧ ∃ ω1 δ1 φ1, Step ω (Fp φ) H ω1 (Fp φ1) H1 ∧ Slots G.K G.κ ω1 H1 σ' δ1 φ1 ∧ Pin G.pin σ0 σ' ∧ W ω1 H1 ∧
    Out (loopF t m (xs.drop i) δ1) (fun r => match r.1 with
    | .nx => ∀ ω' H' σ' φ', Step ω (Fp φ) H ω' (Fp φ') H' → Slots G.K G.κ ω' H' σ' r.2 φ' → Pin G.pin σ0 σ' → D.nx σ' H'
    | .bk => ∀ ω' H' σ' φ', Step ω (Fp φ) H ω' (Fp φ') H' → Slots G.K G.κ ω' H' σ' r.2 φ' → Pin G.pin σ0 σ' → D.bk σ' H'
    | .ct => ∀ ω' H' σ' φ', Step ω (Fp φ) H ω' (Fp φ') H' → Slots G.K G.κ ω' H' σ' r.2 φ' → Pin G.pin σ0 σ' → D.ct σ' H'
    | .rt d => ∀ ω' H' σ' φ' v f, Step ω (Fp φ) H ω' (fun a => Fp φ' a ∨ a ∈ f) H' → Slots G.K G.κ ω' H' σ' r.2 φ' → Pin G.pin σ0 σ' → Own G.K ω' H' G.ret v d f → f.Nodup → (∀ a ∈ f, ω' a ∧ ¬ Fp φ' a) → D.rt v H')
    (Esc G.K G.cls G.E ω (Fp φ) H), ⟨xs.length, by simp, Nat.zero_le _, ω', δ1, φ', st, s', p, hW, hr⟩, ?_⟩
  rintro i k σ1 H1 ⟨rfl, hle, ω1, δ1, φ1, st1, s1, p1, hW1, o1⟩
  by_cases hlt : i < xs.length
  · right
    refine ⟨wk.goes i ω1 H1 hlt hW1, _, fun σ' H' (q : (fun σ' H1 => i + 1 ≤ xs.length ∧ ∃ ω1 δ1 φ1, Step ω (Fp φ) H ω1 (Fp φ1) H1 ∧ Slots G.K G.κ ω1 H1 σ' δ1 φ1 ∧ Pin G.pin σ0 σ' ∧ W ω1 H1 ∧ Out (loopF t m (xs.drop (i + 1)) δ1) _ _) σ' H') => ⟨xs.length - (i + 1), by omega, rfl, q⟩, fun x H2 y => ?_⟩
    obtain ⟨ex, d, hd, rp⟩ := wk.yields i ω1 H1 x H2 hW1 s1.wf hlt y
    have hdrop : xs.drop i = d :: xs.drop (i + 1) := by
      rw [List.drop_eq_getElem_cons
                hlt]
      rw [List.getElem?_eq_getElem hlt] at hd
      rw [Option.some.inj hd]
    rw [hdrop] at o1
    obtain ⟨st2, s2⟩ := s1.gup ex
    refine ⟨p1, ω1, δ1, φ1, d, s2, rp, (out_no (Out.bind o1) (nx _ _)).mono (fun δ3 h3 σ3 φ3 st3 s3 p3 _ => ?_) fun _ _ z => z⟩
    have st13 := (st1.trans st2).trans st3
    have hW3 : W ω1 H2 := wk.stay _ _ _ _ _ _ (st2.trans st3) hW1
    refine ⟨p3, ω1, δ3, φ3, s3, (Out.bind h3).mono (fun q hq => ?_) fun _ _ z => z.up st13⟩
    cases e1 : q.1 with
    | nx => simp only [e1] at hq ⊢; exact fun ω4 H4 σ4 φ4 st4 s4 p4 => ⟨hlt, ω4, q.2, φ4, st13.trans st4, s4, p4, wk.stay _ _ _ _ _ _ st4 hW3, hq⟩
    | ct => simp only [e1] at hq ⊢; exact fun ω4 H4 σ4 φ4 st4 s4 p4 => ⟨hlt, ω4, q.2, φ4, st13.trans st4, s4, p4, wk.stay _ _ _ _ _ _ st4 hW3, hq⟩
    | bk => simp only [e1] at hq ⊢; exact fun ω4 H4 σ4 φ4 st4 s4 p4 => hq ω4 H4 σ4 φ4 (st13.trans st4) s4 p4
    | rt d => simp only [e1] at hq ⊢; exact fun ω4 H4 σ4 φ4 v f st4 s4 p4 => hq ω4 H4 σ4 φ4 v f (st13.trans st4) s4 p4
  · left
    have e : i = xs.length := by omega
    subst e
    rw [List.drop_length] at o1
    exact ⟨wk.stops ω1 H1 hW1, o1 ω1 H1 σ1 φ1 st1 s1 p1⟩
end
def wipeD (δ : Dl) : List Nat → Dl
  | [] => δ
  | v :: vs => (wipeD δ vs).set v none
def back (δ δ' : Dl) : List Nat → Dl
  | [] => δ'
  | v :: vs => (back δ δ' vs).set v (δ.getD v none)
theorem wipeD_len (δ : Dl) : ∀ vs, (wipeD δ vs).length = δ.length
  | [] => rfl
  | v :: vs => by rw [wipeD, List.length_set, wipeD_len δ vs]
theorem wipeD_some {δ : Dl} {i : Nat} {d : D} : ∀ {vs : List Nat}, (wipeD δ vs)[i]? = some (some d) → δ[i]? = some (some d) ∧ i ∉ vs
  | [], h => ⟨h, by simp⟩
  | v :: vs, h => by
    unfold wipeD at h
    by_cases hi : v = i
    · subst hi
      by_cases hv : v < (wipeD δ vs).length
      · rw [List.getElem?_set_self
                hv] at h; cases h
      · rw [List.getElem?_eq_none
                (by simpa using hv)] at h; cases h
    · rw [List.getElem?_set_ne
              hi] at h
      obtain ⟨h1, h2⟩ := wipeD_some h
      exact ⟨h1, by simp only [List.mem_cons,
                not_or]; exact ⟨fun e => hi e.symm, h2⟩⟩
theorem back_len (δ δ' : Dl) : ∀ vs, (back δ δ' vs).length = δ'.length
  | [] => rfl
  | v :: vs => by rw [back, List.length_set, back_len δ δ' vs]
theorem back_out {δ δ' : Dl} {i : Nat} : ∀ {vs : List Nat}, i ∉ vs → (back δ δ' vs)[i]? = δ'[i]?
  | [], _ => rfl
  | v :: vs, h => by
    simp only [List.mem_cons, not_or] at h
    rw [back, List.getElem?_set_ne (Ne.symm h.1), back_out h.2]
theorem back_in {δ δ' : Dl} {i : Nat} (hl : i < δ'.length) : ∀ {vs : List Nat}, i ∈ vs → (back δ δ' vs)[i]? = some (δ.getD i none)
  | v :: vs, h => by
    rw [back]
    by_cases e : v = i
    · subst e
      rw [List.getElem?_set_self (by rw [back_len]; exact hl)]
    · rw [List.getElem?_set_ne e]
      exact back_in hl ((List.mem_cons.mp h).resolve_left (Ne.symm e))
/-- within the block its own names are nobody's lists -/
def kin (κ : Kn) (vs : List Nat) : Kn := fun i => if vs.contains i = true then .im else κ i
def fin (φ : Fps) (vs : List Nat) : Fps := fun i => if vs.contains i = true then [] else φ i
theorem cont {vs : List Nat} {i : Nat} : vs.contains i = true ↔ i ∈ vs := by simp
theorem Slots.wipe {K : PySem.W.Frag} {κ : Kn} {ω : Om} {H : Hp} {σ : L2.St} {δ : Dl} {φ : Fps} (s : Slots K κ ω H σ δ φ) (vs : List Nat) : Slots K (kin κ vs) ω H (wipe σ vs) (wipeD δ vs) (fin φ vs) where
  len := by rw [wipe_length, wipeD_len]; exact s.len
  at_ := fun i d h => by
    obtain ⟨h1, h2⟩ := wipeD_some h
    obtain ⟨v, h3, h4⟩ := s.at_ i d h1
    refine ⟨v, by rw [wipe_out h2]; exact h3, ?_⟩
    unfold kin fin
    rw [if_neg (fun z => h2 (cont.mp z)), if_neg (fun z => h2 (cont.mp z))]
    exact h4
  nod := fun i => by unfold fin; split <;> simp [s.nod]
  dis := fun i j a n h => by
    unfold fin at h ⊢
    split at h
    · simp at h
    · split
      · simp
      · exact s.dis i j a n h
  sub := fun a ⟨i, h⟩ => by
    unfold fin at h
    split at h
    · simp at h
    · exact s.sub a ⟨i, h⟩
  wf := s.wf
theorem fin_sub {φ : Fps} {vs : List Nat} {a : Addr} (h : Fp (fin φ vs) a) : Fp φ a := by
  obtain ⟨i, h⟩ := h
  unfold fin at h
  split at h
  · simp at h
  · exact ⟨i, h⟩
/-- behind a turn: the outer names are as they were -/
theorem Slots.unwipe {K : PySem.W.Frag} {κ : Kn} {ω ω4 : Om} {H H4 : Hp} {σ σ2 : L2.St} {δ δ4 : Dl} {φ φ4 : Fps} {vs : List Nat} (s : Slots K κ ω H σ δ φ) (st : Step ω (Fp (fin φ vs)) H ω4 (Fp φ4) H4) (s4 : Slots K (kin κ vs) ω4 H4 σ2 δ4 φ4)
    (hl : σ2.length = σ.length) (ho : ∀ i, i ∉ vs → σ2[i]? = σ[i]?) : Slots K κ ω4 H4 σ (back δ δ4 vs) (fun i => if vs.contains i = true then φ i else φ4 i) ∧ Step ω (Fp φ) H ω4 (Fp (fun i => if vs.contains i = true then φ i else φ4 i)) H4 := by
  have lst : ∀ i a, a ∈ φ i → ∃ xs : Lc, H a = some xs.ho := fun i a h => s.wf a (s.sub a ⟨i, h⟩)
  -- an outer list of a name of the block's
  have apart : ∀ i a, i ∈ vs → a ∈ φ i → ¬ Fp (fin φ vs) a := fun i a hi h ⟨j, hj⟩ => by
    unfold fin at hj
    split at hj
    · simp at hj
    · rename_i hn
      exact s.dis i j a (fun e => hn (cont.mpr (e ▸ hi))) h hj
  have apart4 : ∀ i a, i ∈ vs → a ∈ φ i → ¬ Fp φ4 a := fun i a hi h z => by
    rcases st.fp a z with q | q
    · exact apart i a hi h q
    · obtain ⟨xs, e⟩ := lst i a h
      rw [e] at q; cases q
  refine ⟨⟨?_, fun i d h => ?_, fun i => ?_, fun i j a n h => ?_, fun a ⟨i, h⟩ => ?_, s4.wf⟩, ?_⟩
  · rw [back_len, ← s4.len, hl]
  · by_cases hi : i ∈ vs
    · have hlt : i < δ4.length := by
        have := (List.getElem?_eq_some_iff.mp h).1
        rwa [back_len] at this
      rw [back_in hlt hi] at h
      have e : δ[i]? = some (some d) := by
        have e := Option.some.inj h
        rw [List.getD_eq_getElem?_getD] at e
        cases q : δ[i]? with
        | none => rw [q] at e; exact nomatch e
        | some o => rw [q] at e; exact congrArg some e
      obtain ⟨v, h1, h2⟩ := s.at_ i d e
      refine ⟨v, h1, ?_⟩
      rw [if_pos (cont.mpr hi)]
      refine Own.mono st.grow d _ _ _ (fun a ha => ?_) h2
      obtain ⟨xs, q⟩ := lst i a ha
      rw [q, st.keep a _ q (apart i a hi ha)]
    · rw [back_out hi] at h
      obtain ⟨v, h1, h2⟩ := s4.at_ i d h
      have e2 : kin κ vs i = κ i := if_neg fun z => hi (cont.mp z)
      rw [e2] at h2
      rw [ho i hi] at h1
      rw [if_neg (fun z => hi (cont.mp z))]
      exact ⟨v, h1, h2⟩
  · split
    · exact s.nod i
    · exact s4.nod i
  · split at h
    · rename_i hi
      split
      · exact s.dis i j a n h
      · exact fun z => apart4 i a (cont.mp hi) h ⟨j, z⟩
    · split
      · rename_i hj
        exact fun z => apart4 j a (cont.mp hj) z ⟨i, h⟩
      · exact s4.dis i j a n h
  · dsimp only at h
    split at h
    · rename_i hi
      exact st.stay a (s.sub a ⟨i, h⟩) (apart i a (cont.mp hi) h)
    · exact s4.sub a ⟨i, h⟩
  · refine ⟨fun a o h n => st.keep a o h fun z => n (fin_sub z), st.om, fun a h n => st.stay a h fun z => n (fin_sub z), fun a ⟨i, h⟩ => ?_, s.sub, s.wf⟩
    dsimp only at h
    split at h
    · exact .inl ⟨i, h⟩
    · exact (st.fp a ⟨i, h⟩).imp fin_sub id
/-- no error -/
def nox {α : Type} : Rs α → Rs α
  | .ok a => .ok a
  | _ => .no
theorem nox_inv {α : Type} {r : Rs α} {q : α → Prop} {e : Str → D → Prop} (h : Out (nox r) q e) : Out r q (fun _ _ => False) := by
  cases r with
  | ok a => exact h
  | ex c a => exact h
  | no => exact h
def compF (vs : List Nat) (t : Tg) (c : Tm) (e : Em) : List D → Fm
  | [] => fun δ => .ok ([], δ)
  | d :: ds => fun δ => t d (wipeD δ vs) >>= fun δ1 => c δ1 >>= fun r => if r.1 = true then e r.2 >>= fun q => compF vs t c e ds (back δ q.2 vs) >>= fun z => .ok (q.1 :: z.1, z.2)
    else compF vs t c e ds (back δ r.2 vs)
def fComp (vs : List Nat) (w : Sm) (t : Tg) (c : Tm) (e : Em) : Fm := fun δ => w δ >>= fun r => if r.1.length ≤ sizeLine then nox (compF vs t c e r.1 r.2) else .no
def tmY : Tm := fun δ => .ok (true, δ)
theorem py {X : Cx} {G : Gm} : PTs X [] (tT G tmY) := ⟨fun pins s σ H Q I ⟨ω, δ, φ, sl, o⟩ => pts_nil.run pins s σ H Q I (o ω H φ sl.refl sl)⟩
theorem py1 {X : Cx} {G : Gm} {c : Expr} {m : Tm} (h : PT X c (tT G m)) : PTs X [c] (tT G m) := pts_one h
/-- what stands within the block -/
abbrev inB (G : Gm) (vs : List Nat) : Gs := { K := G.K, cls := G.cls, E := E0, κ := kin G.κ vs, pin := fun i => !vs.contains i, ret := .im }
section
variable {X : Cx} {G : Gm}
theorem tLc_of {w : Sm} {t : Tg} {c : Tm} {e : Em} {vs : List Nat} (nx : NoG t) {σ : L2.St} {H : Hp} {Q : VK} (h : tO G (.mu .im) (eF (fComp vs w t c e)) σ H Q) :
    tLc (tW G w) (fun v σ' H' Q' => tG (inB G vs) σ' t v σ' H' Q') (tT (inB G vs).toGm c) (tI (inB G vs).toGm e) vs σ H Q := by
  obtain ⟨ω, δ, φ, s, o⟩ := h
  refine ⟨ω, δ, φ, s, (Out.bind (Out.bind o)).mono (fun r hr ω' H' φ' J W st s' wk hW => ?_) fun _ _ z => z⟩
  intro L hL
  obtain ⟨xs, δ1⟩ := r
  by_cases hsz : xs.length ≤ sizeLine
  rotate_left
  · rw [if_neg hsz] at hr
    exact hr.elim
  rw [if_pos hsz] at hr
  have hr := nox_inv hr
  -- the state of the loop
  refine ⟨fun i k H1 => k = xs.length - i ∧ i ≤ xs.length ∧ ∃ ω1 δ1 φ1 acc ds, Step ω (Fp φ) H ω1 (fun a => Fp φ1 a ∨ a ∈ [L]) H1 ∧ Slots G.K G.κ ω1 H1 σ δ1 φ1 ∧ W ω1 H1 ∧ H1 L = some (.lst acc) ∧ Reps G.K ω1 H1 acc ds ∧ acc.length ≤ i ∧ ω1 L ∧ ¬ Fp φ1 L ∧
    Out (compF vs t c e (xs.drop i) δ1) (fun z => ∀ ω' H' φ' v f, Step ω (Fp φ) H ω' (fun a => Fp φ' a ∨ a ∈ f) H' → Slots G.K G.κ ω' H' σ z.2 φ' → Own G.K ω' H' (.mu .im) v (.list (ds ++ z.1)) f → f.Nodup → (∀ a ∈ f, ω' a ∧ ¬ Fp φ' a) → Q v H') (fun _ _ => False),
    ⟨xs.length, by simp, Nat.zero_le _, fun a => ω' a ∨ a = L, δ1, φ', [], [], ?_, ?_, ?_, upd_same, .nil, Nat.le_refl _, .inr rfl, ?_, ?_⟩, ?_⟩
  · exact st.trans ⟨fun a o e _ => Ext.upd hL a o e, fun a z => z.elim .inl fun e => .inr (e ▸ hL), fun a z _ => .inl z, fun a z => z.elim .inl fun e => .inr ((List.mem_singleton.mp e) ▸ hL), s'.sub, s'.wf⟩
  · refine s'.more (Ext.upd hL) (fun a z => .inl z) (fun a z => z.elim .inl fun e => .inr (e ▸ hL)) fun a h => ?_
    rcases h with h | rfl
    · obtain ⟨xs, q⟩ := s'.wf a h
      exact ⟨xs, Ext.upd hL a _ q⟩
    · exact ⟨.l [], upd_same⟩
  · exact wk.stay _ (Fp φ') _ _ (fun a => Fp φ' a ∨ a ∈ [L]) _ ⟨fun a o e _ => Ext.upd hL a o e, fun a z => z.elim .inl fun e => .inr (e ▸ hL), fun a z _ => .inl z, fun a z => z.elim .inl fun e => .inr ((List.mem_singleton.mp e) ▸ hL), s'.sub, s'.wf⟩ hW
  · intro z
    obtain ⟨xs, q⟩ := s'.wf L (s'.sub L z)
    rw [hL] at q; cases q
  · exact hr
  rintro i k H1 ⟨rfl, hle, ω1, δ1, φ1, acc, ds, st1, s1, hW1, hLa, ra, hla, oL, nL, o1⟩
  by_cases hlt : i < xs.length
  · right
    refine ⟨wk.goes i ω1 H1 hlt hW1, _, fun H' (q : (fun H1 => i + 1 ≤ xs.length ∧ ∃ ω1 δ1 φ1 acc ds, Step ω (Fp φ) H ω1 (fun a => Fp φ1 a ∨ a ∈ [L]) H1 ∧ Slots G.K G.κ ω1 H1 σ δ1 φ1 ∧ W ω1 H1 ∧ H1 L = some (.lst acc) ∧ Reps G.K ω1 H1 acc ds ∧ acc.length ≤ i + 1 ∧ ω1 L ∧ ¬ Fp φ1 L ∧ Out (compF vs t c e (xs.drop (i + 1)) δ1) (fun z => ∀ ω' H' φ' v f, Step ω (Fp φ) H ω' (fun a => Fp φ' a ∨ a ∈ f) H' → Slots G.K G.κ ω' H' σ z.2 φ' → Own G.K ω' H' (.mu .im) v (.list (ds ++ z.1)) f → f.Nodup → (∀ a ∈ f, ω' a ∧ ¬ Fp φ' a) → Q v H') (fun _ _ => False)) H') => ⟨xs.length - (i + 1), by omega, rfl, q⟩, fun x H2 y => ?_⟩
    obtain ⟨ex, d, hd, rp⟩ := wk.yields i ω1 H1 x H2 hW1 s1.wf hlt y
    have hdrop : xs.drop i = d :: xs.drop (i + 1) := by
      rw [List.drop_eq_getElem_cons
                hlt]
      rw [List.getElem?_eq_getElem hlt] at hd
      rw [Option.some.inj hd]
    rw [hdrop] at o1
    have s2 := s1.ext ex
    have st2 : Step ω1 (Fp (fin φ1 vs)) H1 ω1 (Fp (fin φ1 vs)) H2 := .ext (fun a z => s1.sub a (fin_sub z)) s1.wf ex
    refine ⟨fun j _ => rfl, ω1, wipeD δ1 vs, fin φ1 vs, d, s2.wipe vs, rp, (out_no (Out.bind o1) (nx _ _)).mono (fun δ3 h3 σ3 φ3 st3 s3 p3 l3 => ?_) fun _ _ z => z⟩
    have p3' : ∀ j, j ∉ vs → σ3[j]? = (wipe σ vs)[j]? := fun j hj => p3 j (by
      show (!vs.contains j) = true
      rw [Bool.not_eq_true']
      exact Bool.eq_false_iff.mpr fun z => hj (cont.mp z))
    have ho : ∀ j, j ∉ vs → σ3[j]? = σ[j]? := fun j hj => (p3' j hj).trans (wipe_out hj)
    have hl3 : σ3.length = σ.length := l3.trans (wipe_length σ vs)
    -- the block's names forgotten again
    have hwp : wipe σ3 vs = wipe σ vs := by
      apply List.ext_getElem?
      intro j
      by_cases hj : j ∈ vs
      · have wn : ∀ (τ : L2.St) (us : List Nat), j ∈ us → j < τ.length → (L2.wipe τ us)[j]? = some none := by
          intro τ us
          induction us with
          | nil => intro h; simp at h
          | cons u us ih =>
            intro h hlt
            unfold L2.wipe
            by_cases e : u = j
            · subst e
              rw [List.getElem?_set_self (by rw [wipe_length]; exact hlt)]
            · rw [List.getElem?_set_ne e]
              exact ih ((List.mem_cons.mp h).resolve_left (Ne.symm e)) hlt
        by_cases hjl : j < σ.length
        · rw [wn σ vs hj hjl, wn σ3 vs hj (by omega)]
        · rw [List.getElem?_eq_none (by rw [wipe_length]; omega), List.getElem?_eq_none (by rw [wipe_length]; omega)]
      · rw [wipe_out hj, wipe_out hj, ho j hj]
    refine ⟨hwp, ω1, δ3, φ3, s3, (Out.bind h3).mono (fun r hr ω4 H4 φ4 st4 s4 => ?_) fun _ _ z => z.elim⟩
    show (if r.1 = true then _ else _)
    have st14 := (st2.trans st3).trans st4
    -- what the element's run leaves of the outer state
    have outer : ∀ {ω5 : Om} {H5 : Hp} {φ5 : Fps} {δ5 : Dl}, Step ω1 (Fp (fin φ1 vs)) H1 ω5 (Fp φ5) H5 → Slots G.K (kin G.κ vs) ω5 H5 σ3 δ5 φ5 →
        ∃ φ6, Slots G.K G.κ ω5 H5 σ (back δ1 δ5 vs) φ6 ∧ Step ω (Fp φ) H ω5 (fun a => Fp φ6 a ∨ a ∈ [L]) H5 ∧ W ω5 H5 ∧ H5 L = some (.lst acc) ∧ Reps G.K ω5 H5 acc ds ∧ ω5 L ∧ ¬ Fp φ6 L := fun {ω5 H5 φ5 δ5} st5 s5 => by
      obtain ⟨s6, st6⟩ := s1.unwipe st5 s5 hl3 ho
      have nf : ¬ Fp (fin φ1 vs) L := fun z => nL (fin_sub z)
      have keepL := st5.keep L _ hLa nf
      have st6' : Step ω1 (fun a => Fp φ1 a ∨ a ∈ [L]) H1 ω5 (fun a => Fp (fun i => if vs.contains i = true then φ1 i else φ5 i) a ∨ a ∈ [L]) H5 :=
        ⟨fun a o h n => st6.keep a o h fun z => n (.inl z), st6.om, fun a h n => st6.stay a h fun z => n (.inl z), fun a z => z.elim (fun z => (st6.fp a z).imp .inl id) fun z => .inl (.inr z), fun a z => z.elim (st6.sub a) fun z => (List.mem_singleton.mp z) ▸ oL, st6.wf⟩
      refine ⟨_, s6, st1.trans st6', wk.stay _ _ _ _ _ _ st6 hW1, keepL, ra.up st6.grow, st6.stay L oL nL, fun z => ?_⟩
      rcases st6.fp L z with q | q
      · exact nL q
      · rw [hLa] at q; cases q
    cases e1 : r.1 with
    | true =>
      rw [if_pos rfl]
      rw [e1, if_pos rfl] at hr
      refine ⟨ω4, r.2, φ4, s4, (Out.bind hr).mono (fun q hq ω5 H5 φ5 yv st5 s5 ry => ?_) fun _ _ z => z.elim⟩
      obtain ⟨φ6, s6, st6, hW6, hL6, ra6, oL6, nL6⟩ := outer (st14.trans st5) s5
      refine ⟨acc, hL6, by omega, hlt, ω5, back δ1 q.2 vs, φ6, acc ++ [yv], ds ++ [q.1], ?_, ?_, ?_, upd_same, ?_, by rw [List.length_append]; show acc.length + 1 ≤ i + 1; omega, oL6, nL6, ?_⟩
      all_goals (have gr : Grow ω5 H5 ω5 (upd H5 L (.lst (acc ++ [yv]))) := ⟨fun a o h n => by rw [upd_ne (fun e => n (by rw [e]; exact oL6))]; exact h, s6.wf, fun a z => .inl z⟩)
      · refine st6.trans ⟨fun a o h n => by rw [upd_ne (fun e => n (.inr (by simp [e])))]; exact h, fun a z => .inl z, fun a z _ => z, fun a z => .inl z, fun a z => z.elim (s6.sub a) fun z => (List.mem_singleton.mp z) ▸ oL6, s6.wf⟩
      · refine ⟨s6.len, fun j dd h => ?_, s6.nod, s6.dis, s6.sub, fun a h => ?_⟩
        · obtain ⟨v, h1, h2⟩ := s6.at_ j dd h
          exact ⟨v, h1, Own.mono gr dd _ _ _ (fun a ha => by rw [upd_ne (fun e => nL6 ⟨j, by rw [← e]; exact ha⟩)]) h2⟩
        · by_cases e : a = L
          · subst e; exact ⟨.l _, upd_same⟩
          · rw [upd_ne e]; exact s6.wf a h
      · exact wk.stay _ (fun a => a ∈ [L]) _ _ (fun a => a ∈ [L]) _ ⟨fun a o h n => by rw [upd_ne (fun e => n (by simp [e]))]; exact h, fun a z => .inl z, fun a z _ => z, fun a z => .inl z, fun a z => (List.mem_singleton.mp z) ▸ oL6, s6.wf⟩ hW6
      · exact (ra6.up gr).snoc (Rep.up ry gr)
      · refine (Out.bind hq).mono (fun z hz ω' H' φ' v f a1 a2 a3 a4 a5 => ?_) fun _ _ z => z.elim
        rw [List.append_assoc] at a3
        exact hz ω' H' φ' v f a1 a2 a3 a4 a5
    | false =>
      rw [if_neg
                Bool.false_ne_true]
      rw [e1, if_neg Bool.false_ne_true] at hr
      obtain ⟨φ6, s6, st6, hW6, hL6, ra6, oL6, nL6⟩ := outer st14 s4
      exact ⟨hlt, ω4, back δ1 r.2 vs, φ6, acc, ds, st6, s6, hW6, hL6, ra6, by omega, oL6, nL6, hr⟩
  · left
    have e : i = xs.length := by omega
    subst e
    rw [List.drop_length] at o1
    refine ⟨wk.stops ω1 H1 hW1, ?_⟩
    have o1 : ∀ ω' H' φ' v f, Step ω (Fp φ) H ω' (fun a => Fp φ' a ∨ a ∈ f) H' → Slots G.K G.κ ω' H' σ δ1 φ' → Own G.K ω' H' (.mu .im) v (.list (ds ++ [])) f → f.Nodup → (∀ a ∈ f, ω' a ∧ ¬ Fp φ' a) → Q v H' := o1
    rw [List.append_nil] at o1
    exact o1 ω1 H1 φ1 (.ref L) [L] st1 s1 (.mui hLa ra) (by simp) fun a ha => by
      rw [List.mem_singleton.mp ha]
      exact ⟨oL, nL⟩
end
end Zd
namespace Zd
open PySem PySem.Spec
open PyProof.Rows L2
section
variable {X : Cx} {G : Gm}
theorem pg_any {G : Gs} {tg : Expr} {t : Tg} (h : ∀ σ0, PG X tg (tG G σ0 t)) : PG X tg (fun v σ' H' Q' => tG G σ' t v σ' H' Q') := ⟨fun pins s σ H v u Q I r q => (h σ).run pins s σ H v u Q I r q⟩
/-- a list comprehension of one clause -/
theorem cp {elt tg iter : Expr} {ifs : List Expr} {scope : Scope} {own : List (Str × Nat)} {pos : Pos} {w : Sm} {t : Tg} {c : Tm} {e : Em} (hc : X.calm = true) (hN : X.N.Nodup) (hi : PI X tg iter (tW G w)) (ok : BlkOk X.N X.env.scope scope own) (nx : NoG t)
    (hg : ∀ (s : Shared) (H : Hp) (C : Addr) (cl : List (Str × Addr)) (fp : List Addr) (σ0 : L2.St), PG (X.blk s H scope (compEnvC scope cl C X.env) fp) tg (tG (inB G (own.map (·.2))) σ0 t)) (ht : ∀ (s : Shared) (H : Hp) (C : Addr) (cl : List (Str × Addr)) (fp : List Addr), PTs (X.blk s H scope (compEnvC scope cl C X.env) fp) ifs (tT (inB G (own.map (·.2))).toGm c))
    (he : ∀ (s : Shared) (H : Hp) (C : Addr) (cl : List (Str × Addr)) (fp : List Addr), PE (X.blk s H scope (compEnvC scope cl C X.env) fp) elt (tI (inB G (own.map (·.2))).toGm e)) (hs : ∀ x, foldedSetIterable iter X.env x = pure x := by intro _; rfl) :
    PE X (.ListComp elt [⟨tg, iter, ifs, 0⟩] scope pos) (tO G (.mu .im) (eF (fComp (own.map (·.2)) w t c e))) :=
  pe_if (pe_lc hc hN hi ok (fun s H C cl fp => pg_any (hg s H C cl fp)) ht he hs) fun σ H Q h => tLc_of nx h
end
def spP (K : PySem.W.Frag) (cls : Cl) (s : Sh) (n : Nat) (F : List D → Rs D) : Sp := fun vs H Q E => vs.length = n ∧ ∃ ω ds, Wf ω H ∧ Reps K ω H vs ds ∧
  Out (F ds) (fun d => ∀ ω' H' v f, Step ω (fun _ => False) H ω' (fun a => a ∈ f) H' → Wf ω' H' → Own K ω' H' s v d f → f.Nodup → (∀ a ∈ f, ω' a) → Q v H') (Esc K cls E ω (fun _ => False) H)
theorem Slots.frame {K : PySem.W.Frag} {κ : Kn} {ω ω' P P' : Om} {H H' : Hp} {σ : L2.St} {δ : Dl} {φ : Fps} (s : Slots K κ ω H σ δ φ) (st : Step ω P H ω' P' H') (n : ∀ a, Fp φ a → ¬ P a) (wf : Wf ω' H') : Slots K κ ω' H' σ δ φ where
  len := s.len
  at_ := fun i d h => by
    obtain ⟨v, h1, h2⟩ := s.at_ i d h
    refine ⟨v, h1, Own.mono st.grow d _ _ _ (fun a ha => ?_) h2⟩
    obtain ⟨xs, q⟩ := Own.lsts d _ _ _ h2 a ha
    rw [q, st.keep a _ q (n a ⟨i, ha⟩)]
  nod := s.nod
  dis := s.dis
  sub := fun a h => st.stay a (s.sub a h) (n a h)
  wf := wf
def mCall (F : List D → Rs D) (m : Sm) : Em := fun δ => m δ >>= fun r => F r.1 >>= fun d => .ok (d, r.2)
section
variable {X : Cx} {G : Gm} {k : Nat} {f : Addr} {fd : FuncData} {ps : List Str} {x : Str} {p pos : Pos} {e : Expr} {es : List Expr}
theorem call_of {n : Nat} {F : List D → Rs D} {s : Sh} {m : Sm} {σ : L2.St} {H : Hp} {Q : VK} (hn : ps.length = n) (h : tO G s (mCall F m) σ H Q) (hl : ∀ δ r, m δ = .ok r → r.1.length = n) : tCall (spP G.K G.cls s n F) [] G.E (tS G m) σ H Q := by
  obtain ⟨ω, δ, φ, sl, o⟩ := h
  have o1 := Out.bind o
  refine ⟨ω, δ, φ, sl, ?_⟩
  cases em : m δ with
  | no => rw [em] at o1; exact o1.elim
  | ex c a => rw [em] at o1; exact o1
  | ok r =>
    rw [em] at o1
    intro ω' H' φ' vs st s' rp
    have o2 : Out (F r.1 >>= fun d => .ok (d, r.2)) _ _ := o1
    refine ⟨by rw [List.append_nil, rp.length]; exact hl δ r em, ω', r.1, s'.wf, by rw [List.append_nil]; exact rp, (Out.bind o2).mono (fun d hd ω2 H2 v f2 st2 wf2 ow nd hf => ?_) fun c a z => ?_⟩
    · have s2 := s'.frame st2 (fun _ _ z => z) wf2
      have fresh : ∀ a ∈ f2, H' a = none := fun a ha => (st2.fp a ha).resolve_left id
      refine hd ω2 H2 φ' v f2 (st.trans ⟨fun a o h _ => st2.keep a o h id, st2.om, fun a h _ => st2.stay a h id, fun a z => z.elim .inl fun z => .inr (fresh a z), s'.sub, s'.wf⟩) s2 ow nd fun a ha => ⟨hf a ha, fun z => ?_⟩
      obtain ⟨xs, q⟩ := s'.wf a (s'.sub a z)
      rw [fresh a ha] at q; cases q
    · exact fun ω2 P2 H2 dx v st2 e2 r2 => z ω2 P2 H2 dx v (st.trans ⟨fun a o h n => st2.keep a o h (fun z => z), st2.om, fun a h _ => st2.stay a h id, fun a z => (st2.fp a z).elim False.elim .inr, s'.sub, s'.wf⟩) e2 r2
/-- a list of so many runs -/
def Len (n : Nat) (m : Sm) : Prop := ∀ δ r, m δ = .ok r → r.1.length = n
theorem len0 : Len 0 sNil := fun δ r h => by cases h; rfl
theorem lenS {n : Nat} {m : Em} {ms : Sm} (h : Len n ms) : Len (n + 1) (sCons m ms) := fun δ r q => by
  unfold sCons at q
  cases e1 : m δ with
  | ok a =>
    rw [e1] at q
    cases e2 : ms a.2 with
    | ok b =>
      have q : (ms a.2 >>= fun q => Rs.ok (a.1 :: q.1, q.2)) = .ok r := q
      rw [e2] at q
      cases q
      simp [h _ _ e2]
    | ex c a' => have q : (ms a.2 >>= fun q => Rs.ok (a.1 :: q.1, q.2)) = .ok r := q; rw [e2] at q; cases q
    | no => have q : (ms a.2 >>= fun q => Rs.ok (a.1 :: q.1, q.2)) = .ok r := q; rw [e2] at q; cases q
  | ex c a => rw [e1] at q; cases q
  | no => rw [e1] at q; cases q
/-- f(e, ..) -/
theorem xcO {n : Nat} {F : List D → Rs D} {s : Sh} {m : Sm} (FF : FnOk X.prog X.w X.K X.mg X.base (L2.CX X.prog X.w) k f fd ps (spP G.K G.cls s n F)) (hr : Room k X.A) (hm : X.mg x = some (.ref f)) (hk : PySem.W.keepIn X.K (.ref f) = true) (hb : Binds X.K fd ps []) (hx : Passes (L2.CX X.prog X.w) X G.E)
    (ha : PA X (e :: es) (tS G m)) (hl : Len n m) (hn : ps.length = n := by rfl) (hg : Gl X x := by rfl) (hdb : (x == ("__debug__" : Str)) = false := by decide) (he : starEach (e :: es) X.env = (false, eval e X.env) :: starEach es X.env := by rfl) (hpl : (backTo pos (starEach es X.env)).any (·.1) = false := by rfl) :
    PE X (.Call (.Name x p) (e :: es) [] pos) (tO G s (mCall F m)) :=
  pe_if (pe_call FF hr hg hm hk hb .nil hx ha hdb he hpl) fun σ H Q h => call_of hn h hl
theorem xc0 {F : List D → Rs D} {s : Sh} (FF : FnOk X.prog X.w X.K X.mg X.base (L2.CX X.prog X.w) k f fd ps (spP G.K G.cls s 0 F)) (hr : Room k X.A) (hm : X.mg x = some (.ref f)) (hk : PySem.W.keepIn X.K (.ref f) = true) (hb : Binds X.K fd ps []) (hx : Passes (L2.CX X.prog X.w) X G.E)
    (hn : ps.length = 0 := by rfl) (hg : Gl X x := by rfl) (hdb : (x == ("__debug__" : Str)) = false := by decide) : PE X (.Call (.Name x p) [] [] pos) (tO G s (mCall F sNil)) := by
  refine pe_if (pe_call0 FF hr hg hm hk hb .nil hx hdb) fun σ H Q h => ?_
  obtain ⟨ω, δ, φ, s1, h⟩ := call_of hn h len0
  exact h ω H φ [] s1.refl s1 .nil
/-- f(own, e, ..), own a list of ours in a slot, that f may change -/
def mCallM (i : Nat) (F : List D → Rs (D × D)) (m : Sm) : Em := fun δ => match δ[i]? with
  | some (some _) => m δ >>= fun r => match r.2[i]? with
    | some (some d0) => F (d0 :: r.1) >>= fun q => .ok (q.1, r.2.set i (some q.2))
    | _ => .no
  | _ => .no
end
def flo (s : Sh) (f : Fl) : Rs D := match f with
  | .rt d => .ok d
  | .nx => match s with
    | .im => .ok .none
    | _ => .no
  | _ => .no
/-- a def without lists of its caller's -/
def runP (s : Sh) (N : Nat) (m : Pm) : List D → Rs D := fun ds => m (ds.map some ++ List.replicate (N - ds.length) none) >>= fun r => flo s r.1
theorem slots_start {K : PySem.W.Frag} {κ : Kn} {ω : Om} {H : Hp} {N : List Str} {vs : List V} {ds : List D} (r : Reps K ω H vs ds) (wf : Wf ω H) (hk : ∀ i, i < ds.length → κ i = .im) : Slots K κ ω H (L2.start N vs) (ds.map some ++ List.replicate (N.length - ds.length) none) (fun _ => []) where
  len := by unfold L2.start; simp [r.length]
  at_ := fun i d h => by
    have hi : i < ds.length := by
      by_cases hi : i < ds.length
      · exact hi
      · rw [List.getElem?_append_right (by simpa using hi), List.getElem?_replicate] at h
        split at h <;> cases h
    rw [List.getElem?_append_left (by simpa using hi), List.getElem?_map] at h
    have h2 : ds[i]? = some d := by
      cases q : ds[i]? with
      | none => rw [q] at h; cases h
      | some e => rw [q] at h; cases h; rfl
    obtain ⟨v, h3, h4⟩ := r.getD h2
    refine ⟨v, ?_, by rw [hk i hi]; exact .im h4⟩
    unfold L2.start
    rw [List.getElem?_append_left (by simpa [r.length] using hi), List.getElem?_map, h3]
    rfl
  nod := fun _ => .nil
  dis := fun _ _ _ _ h => absurd h (by simp)
  sub := fun a ⟨_, h⟩ => absurd h (by simp)
  wf := wf
theorem slots_startM {K : PySem.W.Frag} {κ : Kn} {ω : Om} {H : Hp} {N : List Str} {v0 : V} {d0 : D} {f0 : List Addr} {vs : List V} {ds : List D} (o : Own K ω H (κ 0) v0 d0 f0) (nd : f0.Nodup) (h0 : ∀ a ∈ f0, ω a) (r : Reps K ω H vs ds) (wf : Wf ω H) (hk : ∀ i, 0 < i → i < ds.length + 1 → κ i = .im) :
    Slots K κ ω H (L2.start N (v0 :: vs)) ((d0 :: ds).map some ++ List.replicate (N.length - (d0 :: ds).length) none) (fun i => if i = 0 then f0 else []) where
  len := by unfold L2.start; simp [r.length]
  at_ := fun i d h => by
    cases i with
    | zero =>
      have e : d0 = d := by simpa using h
      subst e
      exact ⟨v0, by unfold L2.start; simp, by rw [if_pos rfl]; exact o⟩
    | succ i =>
      have s := slots_start (N := N.drop 1) (κ := fun j => κ (j + 1)) r wf (fun j hj => hk (j + 1) (Nat.succ_pos j) (by omega))
      have hlen : (N.drop 1).length - ds.length = N.length - (ds.length + 1) := by rw [List.length_drop]; omega
      have h' : (ds.map some ++ List.replicate ((N.drop 1).length - ds.length) none)[i]? = some (some d) := by
        rw [hlen]
        simpa using h
      obtain ⟨v, h1, h2⟩ := s.at_ i d h'
      refine ⟨v, ?_, by rw [if_neg (Nat.succ_ne_zero i)]; exact h2⟩
      unfold L2.start at h1 ⊢
      rw [r.length, hlen] at h1
      rw [List.length_cons, r.length]
      simpa using h1
  nod := fun i => by split <;> simp [nd]
  dis := fun i j a n h => by
    split at h
    · rename_i e
      rw [if_neg (by rw [← e]; exact Ne.symm n)]
      simp
    · simp at h
  sub := fun a ⟨i, h⟩ => by
    dsimp only at h
    split at h
    · exact h0 a h
    · simp at h
  wf := wf
abbrev gsOf (K : PySem.W.Frag) (cls : Cl) (E : XK) (κ : Kn) (pin : Nat → Bool) (ret : Sh) : Gs := { K := K, cls := cls, E := E, κ := κ, pin := pin, ret := ret }
section
variable {P : Program} {w : World} {K : PySem.W.Frag} {mg : Str → Option Value} {base : Heap}
theorem passes_cx {N ps : List Str} {qual : Str} {scope : Scope} {f : Addr} {cd : Value} {A : Around} {outer : List Env} {s : Shared} {H : Hp} {E : XK} : Passes (L2.CX P w) (cxOf (L2.CX P w) P w K mg base N qual scope f cd A outer s H E) E :=
  passes_call (W := fun cls d σ H => E cls d H) (takes_of rfl rfl rfl rfl) fun _ _ _ _ h => h
theorem fl_inv {s : Sh} {f : Fl} {q : D → Prop} {e : Str → D → Prop} (h : Out (flo s f) q e) : (∃ d, f = .rt d ∧ q d) ∨ (f = .nx ∧ s = .im ∧ q .none) := by
  cases f with
  | rt d => exact .inl ⟨d, rfl, h⟩
  | nx =>
    cases s with
    | im => exact .inr ⟨rfl, rfl, h⟩
    | _ => exact h.elim
  | _ => exact h.elim
theorem def_okP {x qual : Str} {st : Stmt} {f : Addr} {fd : FuncData} {N ps : List Str} {k n : Nat} {cls : Cl} {κ : Kn} {ret : Sh} {m : Pm} (F : Fun K x qual st f fd) (S : FnScope N ps (defScope st)) (hn : ps.length = n) (hk : ∀ i, i < n → κ i = .im)
    (hb : ∀ (cdv : Value) (A : Around) (outer : List Env) (s : Shared) (H : Hp) (E : XK) (σ0 : L2.St), Room k (A.deeper (envOfC qual (defScope st) s.heap.objs.size f cdv)) →
      PSs (cxOf (L2.CX P w) P w K mg base N qual (defScope st) f cdv A outer s H E) (defBody st) (tP (gsOf K cls E κ (fun _ => false) ret) σ0 m)) :
    FnOk P w K mg base (L2.CX P w) (k + 1) f fd ps (spP K cls ret n (runP ret N.length m)) := by
  refine F.okX S (fun vs H Q E h => by rw [h.1, hn]) (fun cdv A outer s H vs Q E hr h => ⟨_, hb cdv A outer s H E (L2.start N vs) hr, ?_⟩)
  obtain ⟨hl, ω, ds, wf, rp, o⟩ := h
  have sl := slots_start (N := N) (κ := κ) rp wf (fun i hi => hk i (by rw [← hl, rp.length]; exact hi))
  refine ⟨fun _ _ => rfl, ω, _, _, sl, (Out.bind o).mono (fun r hr => ?_) fun c a z => ?_⟩
  · have em : ∀ a, ¬ Fp (fun _ => ([] : List Addr)) a := fun a ⟨_, z⟩ => by simp at z
    rcases fl_inv hr with ⟨d, e1, hq⟩ | ⟨e1, e2, hq⟩
    · simp only [e1]
      intro ω' H' σ' φ' v f st s' _ ow nd hf
      exact hq ω' H' v f ⟨fun a o h n => st.keep a o h (em a), st.om, fun a h n => st.stay a h (em a), fun a z => (st.fp a (.inr z)).imp (fun z => (em a z).elim) id, fun _ z => z.elim, st.wf⟩ s'.wf ow nd fun a ha => (hf a ha).1
    · simp only [e1]
      intro ω' H' σ' φ' st s' _
      subst e2
      exact hq ω' H' .non [] ⟨fun a o h n => st.keep a o h (em a), st.om, fun a h n => st.stay a h (em a), fun a z => absurd z (by simp), fun _ z => z.elim, st.wf⟩ s'.wf (.im .non) .nil fun a ha => absurd ha (by simp)
  · intro ω' P' H' dx v st e r
    have em : ∀ a, ¬ Fp (fun _ => ([] : List Addr)) a := fun a ⟨_, z⟩ => by simp at z
    exact z ω' P' H' dx v ⟨fun a o h n => st.keep a o h (em a), st.om, fun a h n => st.stay a h (em a), fun a z => (st.fp a z).imp (fun z => (em a z).elim) id, fun _ z => z.elim, st.wf⟩ e r
end
end Zd
namespace Zd
open PySem PySem.Spec
open PyProof.Rows L2
theorem OpR.or {X : Cx} {f : Value → Value → Sem Value} {r r' : R2} (h : OpR X f r) (h' : OpR X f r') : OpR X f (fun x y H Q => r x y H Q ∨ r' x y H Q) := by
  intro pins s σ H x y v u
  intro Q I rx ry q
  rcases q with q | q
  · exact (h pins s σ H x y) v u Q I rx ry q
  · exact (h' pins s σ H x y) v u Q I rx ry q
section
variable {K : PySem.W.Frag} {ω : Om} {H H' : Hp}
theorem ext_grow (wf : Wf ω H) (e : Ext H H') : Grow ω H ω H' := ⟨fun a o h _ => e a o h, wf, fun a z => .inl z⟩
theorem Lk.ext {v : V} {d : D} (h : Lk K ω H v d) (wf : Wf ω H) (e : Ext H H') : Lk K ω H' v d := by
  rcases h with h | ⟨a, vs, ds, rfl, rfl, q, r⟩ | ⟨a, ks, kvs, rfl, rfl, q, r⟩
  · exact .inl (Rep.up h (ext_grow wf e))
  · exact .inr (.inl ⟨a, vs, ds, rfl, rfl, e a _ q, r.up (ext_grow wf e)⟩)
  · exact .inr (.inr ⟨a, ks, kvs, rfl, rfl, e a _ q, RepKd.mono (ext_grow wf e) _ _ r⟩)
end
def gAdd : D → D → Rs D
  | .int i, .int j => .ok (.int (i + j))
  | .str x, .str y => if x.length + y.length ≤ sizeLine then .ok (.str (x ++ y)) else .no
  | .tuple xs, .tuple ys => if xs.length + ys.length ≤ sizeLine then .ok (.tuple (xs ++ ys)) else .no
  | .list xs, .list ys => if xs.length + ys.length ≤ sizeLine then .ok (.list (xs ++ ys)) else .no
  | _, _ => .no
def rCatR : R2 := fun x y H Q => ∃ l b xs zs, x = .ref l ∧ y = .ref b ∧ Rd H l (.lst xs) ∧ Rd H b (.lst zs) ∧ xs.length + zs.length ≤ sizeLine ∧ ∀ p, H p = none → Q (.ref p) (upd H p (.lst (xs ++ zs)))
section
variable {X : Cx}
theorem op_catR : OpR X (binaryOp .Add) rCatR := by
  rintro pins s σ H x y v u Q I rx ry ⟨a, b, us, ws, rfl, rfl, hU, hW, small, q⟩
  cases rx; cases ry
  obtain ⟨_, is1, _, v1, g1⟩ := hU.ok I.hok
  obtain ⟨_, is2, _, v2, g2⟩ := hW.ok I.hok
  have sz : is1.length + is2.length ≤ sizeLine := by rw [← v1.length, ← v2.length]; exact small
  refine PySem.P.add_list g1 g2 ?_ (by simpa using sz)
  rw [show is1.toArray ++ is2.toArray = (is1 ++ is2).toArray by simp]
  have fits : (us ++ ws).length ≤ sizeLine := by rw [List.length_append]; exact small
  exact ⟨.ref _, _, I.lnew (t' := s.toks) (v1.append v2) fits, rfl, q _ I.fresh⟩
def rAddA (K : PySem.W.Frag) : R2 := fun x y H Q => ((((fun x y H Q => ∃ i j, x = .int i ∧ y = .int j ∧ Q (.int (i + j)) H) x y H Q ∨ (fun x y H Q => ∃ i j, x = .str i ∧ y = .str j ∧ i.length + j.length ≤ sizeLine ∧ Q (.str (i ++ j)) H) x y H Q) ∨ rCatN K x y H Q) ∨ rCatR x y H Q)
theorem op_addA : OpR X (binaryOp .Add) (rAddA X.K) := ((op_add.or op_add_str).or op_catN).or op_catR
end
theorem if_inv {α : Type} {c : Prop} [Decidable c] {x : Rs α} {q : α → Prop} {e : Str → D → Prop} (h : Out (if c then x else .no) q e) : c ∧ Out x q e := by
  by_cases hc : c
  · rw [if_pos hc] at h; exact ⟨hc, h⟩
  · rw [if_neg hc] at h; exact h.elim
theorem bi_add {K : PySem.W.Frag} : BiD K (rAddA K) gAdd := by
  intro ω H x y d e Q wf l1 l2 o
  cases d with
  | int i => cases e with
    | int j => rw [l1.int, l2.int]; exact .inl (.inl (.inl ⟨i, j, rfl, rfl, o H _ (Ext.refl H) (.int _)⟩))
    | _ => exact o.elim
  | str a => cases e with
    | str b =>
      obtain ⟨hc, o⟩ := if_inv o
      rw [l1.str, l2.str]; exact .inl (.inl (.inr ⟨a, b, rfl, rfl, hc, o H _ (Ext.refl H) (.str _)⟩))
    | _ => exact o.elim
  | tuple xs => cases e with
    | tuple ys =>
      obtain ⟨hc, o⟩ := if_inv o
      obtain ⟨a, vs, rfl, h1, r1⟩ := l1.tupleN
      obtain ⟨b, ws, rfl, h2, r2⟩ := l2.tupleN
      refine .inl (.inr ⟨a, b, vs, ws, rfl, rfl, h1.sqT, h2.sqT, by rw [r1.length, r2.length]; exact hc, fun e => ?_, fun e1 e2 => ?_, fun _ _ p ob hp ho => ?_⟩)
      · subst e
        cases r1
        exact o H _ (Ext.refl H) (.tup h2 r2)
      · subst e2
        cases r2
        rw [List.append_nil] at o
        exact o H _ (Ext.refl H) (.tup h1 r1)
      · exact o _ _ (Ext.upd hp) (Rep.newT wf hp ho (r1.append r2))
    | _ => exact o.elim
  | list xs => cases e with
    | list ys =>
      obtain ⟨hc, o⟩ := if_inv o
      obtain ⟨a, vs, rfl, h1, r1⟩ := l1.rdl
      obtain ⟨b, ws, rfl, h2, r2⟩ := l2.rdl
      exact .inr ⟨a, b, vs, ws, rfl, rfl, h1, h2, by rw [r1.length, r2.length]; exact hc, fun p hp => o _ _ (Ext.upd hp) (Rep.newL wf hp (r1.append r2))⟩
    | _ => exact o.elim
  | _ => cases e <;> exact o.elim
theorem nx_if {α : Type} {c : Prop} [Decidable c] {a : α} {k : Str} {b : D} : (if c then Rs.ok a else .no) ≠ .ex k b := by
  split <;> (intro z; cases z)
theorem nx_add : NoX2 gAdd := fun x y c a => by
  cases x <;> cases y <;> first | exact nx_if | (intro z; cases z)
def gSub : D → D → Rs D
  | .int i, .int j => .ok (.int (i - j))
  | _, _ => .no
theorem bi_sub {K : PySem.W.Frag} : BiD K (rI0 fun i j => .int (i - j)) gSub := by
  intro ω H x y d e Q wf l1 l2 o
  cases d with
  | int i => cases e with
    | int j => rw [l1.int, l2.int]; exact ⟨i, j, rfl, rfl, o H _ (Ext.refl H) (.int _)⟩
    | _ => exact o.elim
  | _ => cases e <;> exact o.elim
theorem nx_sub : NoX2 gSub := fun x y c a => by cases x <;> cases y <;> (intro z; cases z)
def rep {α : Type} (k : Int) (xs : List α) : List α := (List.replicate k.toNat xs).flatten
def gMul : D → D → Rs D
  | .int i, .int j => if i.natAbs.log2 + j.natAbs.log2 < 1000000 then .ok (.int (i * j)) else .no
  | .list xs, .int k => if -(2 ^ 63) ≤ k ∧ k < 2 ^ 63 ∧ xs.length * k.toNat ≤ sizeLine then .ok (.list (rep k xs)) else .no
  | _, _ => .no
def gDiv : D → D → Rs D
  | .int i, .int j => if j ≠ 0 ∧ j.natAbs.log2 < 9000 then .ok (.int (i.fdiv j)) else .no
  | _, _ => .no
def gMod : D → D → Rs D
  | .int i, .int j => if j ≠ 0 then .ok (.int (i.fmod j)) else .no
  | _, _ => .no
def gPow : D → D → Rs D
  | .int i, .int j => if 0 ≤ j ∧ j ≤ 1000000 ∧ i.natAbs < 2 ^ 64 then .ok (.int (i ^ j.toNat)) else if 0 ≤ j ∧ (Builtin.Int.intBits i : Int) * j ≤ 2 ^ 27 then .ok (.int (i ^ j.toNat)) else .no
  | _, _ => .no
theorem bi_mod {K : PySem.W.Frag} : BiD K (rI (fun _ j => j ≠ 0) fun i j => .int (i.fmod j)) gMod := by
  intro ω H x y d e Q wf l1 l2 o
  cases d with
  | int i => cases e with
    | int j =>
      obtain ⟨hc, o⟩ := if_inv o
      rw [l1.int, l2.int]; exact ⟨i, j, rfl, rfl, hc, o H _ (Ext.refl H) (.int _)⟩
    | _ => exact o.elim
  | _ => cases e <;> exact o.elim
theorem nx_mod : NoX2 gMod := fun x y c a => by cases x <;> cases y <;> first | exact nx_if | (intro z; cases z)
section
variable {X : Cx} {G : Gm} {a b : Expr} {pos : Pos} {ta tb : Am}
theorem xAdd (ha : PE X a (tA1 G ta)) (hb : PE X b (tA1 G tb)) (hK : X.K = G.K := by rfl) : PE X (.BinOp a .Add b pos) (tI G (mB gAdd ta tb)) := bi (r := rAddA G.K) (hK ▸ op_addA) bi_add nx_add ha hb
theorem xSub (ha : PE X a (tA1 G ta)) (hb : PE X b (tA1 G tb)) : PE X (.BinOp a .Sub b pos) (tI G (mB gSub ta tb)) := bi op_sub bi_sub nx_sub ha hb
theorem xMod (ha : PE X a (tA1 G ta)) (hb : PE X b (tA1 G tb)) : PE X (.BinOp a .Mod b pos) (tI G (mB gMod ta tb)) := bi op_modN bi_mod nx_mod ha hb
end
section
variable {X : Cx} {G : Gm} {a b : Expr} {pos : Pos} {ta tb : Am}
theorem un {op : UnaryOp} {r : V → Hp → VK → Prop} {g : D → Rs D} (ho : UnR X (unaryOp op) r) (hd : UnD G.K r g) (nx : NoX g) (ha : PE X a (tA1 G ta)) : PE X (.UnaryOp op a pos) (tI G (mU g ta)) := by
  refine pe_if (pe_un ho ha) fun σ H Q ⟨ω, δ, φ, s, o⟩ => ⟨ω, δ, φ, s, (Out.bind o).mono (fun r1 h1 ω1 H1 φ1 x st1 s1 rx => ?_) fun _ _ z => z⟩
  obtain ⟨d, l1, h2⟩ := s1.got rx (Out.bind h1)
  refine hd ω1 H1 x d Q s1.wf l1 ((out_no (Out.bind h2) (nx d)).mono (fun z hz H' v ex rp => ?_) fun _ _ z => z)
  exact hz ω1 H' φ1 v (st1.trans (s1.step ex)) (s1.ext ex) rp
def gNeg : D → Rs D
  | .int i => .ok (.int (-i))
  | _ => .no
end
/-- a list of some things, held against the empty list: whatever the things are -/
def nilCmp : D → D → Bool
  | .list (_ :: _), .list [] => true
  | _, _ => false
theorem nilCmp_inv {d e : D} (h : nilCmp d e = true) : ∃ x xs, d = .list (x :: xs) ∧ e = .list [] := by
  unfold nilCmp at h
  split at h
  · exact ⟨_, _, rfl, rfl⟩
  · cases h
def gEq (d e : D) : Rs D := if (d.plain = true ∧ e.plain = true ∧ min d.depth e.depth ≤ 60) ∨ nilCmp d e = true then .ok (.bool (PyData.eqv d e)) else .no
def gNe (d e : D) : Rs D := if (d.plain = true ∧ e.plain = true ∧ min d.depth e.depth ≤ 60) ∨ nilCmp d e = true then .ok (.bool (!PyData.eqv d e)) else .no
def rNilC (K : PySem.W.Frag) (r : Bool) : R2 := fun x y H Q => ∃ a b xs, x = .ref a ∧ y = .ref b ∧ SqL K H a xs ∧ SqL K H b [] ∧ xs ≠ [] ∧ Q (.bl r) H
def rEqP (K : PySem.W.Frag) : R2 := fun x y H Q => (∃ d e, Dp K H x d ∧ Dp K H y e ∧ d.plain = true ∧ e.plain = true ∧ min d.depth e.depth ≤ 60 ∧ Q (.bl (PyData.eqv d e)) H) ∨ rNilC K false x y H Q
def rNeP (K : PySem.W.Frag) : R2 := fun x y H Q => (∃ d e, Dp K H x d ∧ Dp K H y e ∧ d.plain = true ∧ e.plain = true ∧ min d.depth e.depth ≤ 60 ∧ Q (.bl (!PyData.eqv d e)) H) ∨ rNilC K true x y H Q
section
variable {X : Cx}
theorem op_eqP {k : Nat} (hr : Room k X.A) : OpR X (compareOp .Eq) (rEqP X.K) := by
  intro pins s σ H x y v u
  intro Q I rx ry h
  have hu := hr.units
  rcases h with ⟨d, e, hd, he, sd, se, hm, q⟩ | ⟨a, b, xs, rfl, rfl, h1, h2, hn, q⟩
  · obtain ⟨as, r1⟩ := Dp.reads I d x v hd rx
    obtain ⟨bs,
              r2⟩ := Dp.reads I e y u he ry
    exact SeqAt.eq_plain r1 r2 sd se (by omega) ⟨.bl _, H, I, rfl, q⟩
  · obtain rfl : v = Value.ref a := rx
    obtain rfl : u = Value.ref b := ry
    obtain ⟨i1, r1, p1, _⟩ := I.list h1
    obtain ⟨i2, r2, p2, _⟩ := I.list h2
    cases r2
    refine SeqAt.RcAt.lists_lengths p1.isList p2.isList ?_ (by omega) _ _ _ _ ⟨.bl _, H, I, rfl, q⟩
    cases r1 with
    | nil => exact (hn rfl).elim
    | cons _ _ => simp
theorem op_neP {k : Nat} (hr : Room k X.A) : OpR X (compareOp .NotEq) (rNeP X.K) := by
  intro pins s σ H x y v u
  intro Q I rx ry h
  have hu := hr.units
  rcases h with ⟨d, e, hd, he, sd, se, hm, q⟩ | ⟨a, b, xs, rfl, rfl, h1, h2, hn, q⟩
  · obtain ⟨as, r1⟩ := Dp.reads I d x v hd rx
    obtain ⟨bs,
              r2⟩ := Dp.reads I e y u he ry
    exact SeqAt.ne_plain r1 r2 sd se (by omega) ⟨.bl _, H, I, rfl, q⟩
  · obtain rfl : v = Value.ref a := rx
    obtain rfl : u = Value.ref b := ry
    obtain ⟨i1, r1, p1, _⟩ := I.list h1
    obtain ⟨i2, r2, p2, _⟩ := I.list h2
    cases r2
    refine SeqAt.RcNeAt.lists_lengths p1.isList p2.isList ?_ (by omega) _ _ _ _ ⟨.bl _, H, I, rfl, q⟩
    cases r1 with
    | nil => exact (hn rfl).elim
    | cons _ _ => simp
end
theorem bi_eq {K : PySem.W.Frag} : BiD K (rEqP K) gEq := by
  intro ω H x y d e Q wf l1 l2 o
  obtain ⟨c, o⟩ := if_inv o
  rcases c with ⟨p1, p2, hc⟩ | c
  · exact .inl ⟨d, e, l1.dp p1, l2.dp p2, p1, p2, hc, o H _ (Ext.refl H) (.bl _)⟩
  · obtain ⟨z, zs, rfl, rfl⟩ := nilCmp_inv c
    obtain ⟨a, vs, rfl, h1, r1⟩ := l1.list
    obtain ⟨b, ws, rfl, h2, r2⟩ := l2.list
    cases r2
    refine .inr ⟨a, b, vs, rfl, rfl, h1, h2, (fun z => by subst z; cases r1), ?_⟩
    have q : PyData.eqv (.list (z :: zs)) (.list []) = false := by rw [PyData.eqv, PyData.eqvAll]; all_goals nofun
    rw [q] at o
    exact o H _ (Ext.refl H) (.bl _)
theorem bi_ne {K : PySem.W.Frag} : BiD K (rNeP K) gNe := by
  intro ω H x y d e Q wf l1 l2 o
  obtain ⟨c, o⟩ := if_inv o
  rcases c with ⟨p1, p2, hc⟩ | c
  · exact .inl ⟨d, e, l1.dp p1, l2.dp p2, p1, p2, hc, o H _ (Ext.refl H) (.bl _)⟩
  · obtain ⟨z, zs, rfl, rfl⟩ := nilCmp_inv c
    obtain ⟨a, vs, rfl, h1, r1⟩ := l1.list
    obtain ⟨b, ws, rfl, h2, r2⟩ := l2.list
    cases r2
    refine .inr ⟨a, b, vs, rfl, rfl, h1, h2, (fun z => by subst z; cases r1), ?_⟩
    have q : PyData.eqv (.list (z :: zs)) (.list []) = false := by rw [PyData.eqv, PyData.eqvAll]; all_goals nofun
    rw [q] at o
    exact o H _ (Ext.refl H) (.bl _)
theorem nx_eq : NoX2 gEq := fun x y c a => nx_if
theorem nx_ne : NoX2 gNe := fun x y c a => nx_if
def some? : D → Bool
  | .none => false
  | _ => true
theorem some_ne {d : D} (h : some? d = true) : d ≠ .none := by rintro rfl; cases h
def gLt (d e : D) : Rs D := match d, e with
  | .int i, .int j => .ok (.bool (decide (i < j)))
  | d, e => if d.plain = true ∧ e.plain = true ∧ PySem.W.alike d e = true ∧ some? d = true ∧ min d.depth e.depth ≤ 60 then .ok (.bool (PySem.W.dataLt d e)) else .no
def gLe : D → D → Rs D
  | .int i, .int j => .ok (.bool (decide (i ≤ j)))
  | _, _ => .no
def gGt : D → D → Rs D
  | .int i, .int j => .ok (.bool (decide (j < i)))
  | _, _ => .no
def gGe : D → D → Rs D
  | .int i, .int j => .ok (.bool (decide (j ≤ i)))
  | _, _ => .no
def rLtD (K : PySem.W.Frag) : R2 := fun x y H Q => ∃ d e, Dp K H x d ∧ Dp K H y e ∧ PySem.W.alike d e = true ∧ d ≠ .none ∧ min d.depth e.depth ≤ 60 ∧ Q (.bl (PySem.W.dataLt d e)) H
theorem op_ltD {X : Cx} {k : Nat} (hr : Room k X.A) : OpR X (compareOp .Lt) (rLtD X.K) := by
  intro pins s σ H x y v u
  intro Q I rx ry h
  obtain ⟨d, e, hd, he, ha, hn, hm, q⟩ := h
  obtain ⟨as,
            r1⟩ := Dp.reads I d x v hd rx
  obtain ⟨bs,
            r2⟩ := Dp.reads I e y u he ry
  exact PySem.W.rcLt_alike d e X.A s v u as bs r1 r2 ha hn (by have := hr.units; omega) _ _ _ _ ⟨.bl _, H, I, rfl, q⟩
theorem bi_lt {K : PySem.W.Frag} : BiD K (fun x y H Q => (rI0 fun i j => .bl (decide (i < j))) x y H Q ∨ rLtD K x y H Q) gLt := by
  intro ω H x y d e Q wf l1 l2 o
  have gen : Out (if d.plain = true ∧ e.plain = true ∧ PySem.W.alike d e = true ∧ some? d = true ∧ min d.depth e.depth ≤ 60 then .ok (.bool (PySem.W.dataLt d e)) else .no) (fun z => ∀ H' v, Ext H H' → Rep K ω H' v z → Q v H') (fun _ _ => False) → rLtD K x y H Q := fun o => by
    obtain ⟨⟨p1, p2, h1, h2, h3⟩, o⟩ := if_inv o
    exact ⟨d, e, l1.dp p1, l2.dp p2, h1, some_ne h2, h3, o H _ (Ext.refl H) (.bl _)⟩
  unfold gLt at o
  split at o
  · rw [l1.int, l2.int]; exact .inl ⟨_, _, rfl, rfl, o H _ (Ext.refl H) (.bl _)⟩
  · exact .inr (gen o)
theorem bi_gt {K : PySem.W.Frag} : BiD K (rI0 fun i j => .bl (decide (j < i))) gGt := by
  intro ω H x y d e Q wf l1 l2 o
  cases d with
  | int i => cases e with
    | int j => rw [l1.int, l2.int]; exact ⟨i, j, rfl, rfl, o H _ (Ext.refl H) (.bl _)⟩
    | _ => exact o.elim
  | _ => cases e <;> exact o.elim
theorem nx_lt : NoX2 gLt := fun x y c a => by unfold gLt; split <;> first | exact nx_if | (intro z; cases z)
theorem nx_gt : NoX2 gGt := fun x y c a => by cases x <;> cases y <;> (intro z; cases z)
def isNo : D → Bool
  | .none => true
  | _ => false
def isBo (b : Bool) : D → Bool
  | .bool c => decide (c = b)
  | _ => false
def gIs (d e : D) : Rs D := match e with
  | .none => .ok (.bool (isNo d))
  | .bool b => .ok (.bool (isBo b d))
  | _ => .no
def gIsN (d e : D) : Rs D := match e with
  | .none => .ok (.bool (!isNo d))
  | .bool b => .ok (.bool (!isBo b d))
  | _ => .no
/-- x is b -/
theorem op_isC {X : Cx} : OpR X (compareOp .Is) (fun x y H Q => (y = .non ∧ Q (.bl (decide (x = .non))) H) ∨ ∃ b, y = .bl b ∧ Q (.bl (decide (x = .bl b))) H) := by
  intro pins s σ H x y v u
  intro Q I rx ry h
  rcases h with ⟨rfl, q⟩ | ⟨b, rfl, q⟩
  · exact op_isN pins s σ H x .non v u Q I rx ry ⟨rfl, q⟩
  · cases (show u = Value.bool b from ry)
    by_cases e : x = .bl b
    · subst e
      cases (show v = Value.bool b from rx)
      exact wpAny_is_self rfl ⟨.bl true,
                H, I, rfl, by simpa using q⟩
    · have ne : v ≠ Value.bool b := fun z => e (RelV.inj (u := v) rx (by rw [z]; exact rfl))
      have q' : Q (.bl false) H := by rw [decide_eq_false e] at q; exact q
      refine wpAny_is_other ?_ ne ⟨.bl false, H, I, rfl, q'⟩
      cases x <;> first
        | (cases rx; rfl)
        | (obtain ⟨t,
                  rfl⟩ := rx; rfl)
theorem Lk.isNone {K : PySem.W.Frag} {ω : Om} {H : Hp} {v : V} {d : D} (l : Lk K ω H v d) : decide (v = .non) = isNo d := by
  rcases l with h | ⟨a, vs, ds, rfl, rfl, _, _⟩ | ⟨a, ks, kvs, rfl, rfl, _, _⟩
  · cases h <;> simp [isNo]
  · simp [isNo]
  · simp [isNo]
theorem Lk.isBool {K : PySem.W.Frag} {ω : Om} {H : Hp} {v : V} {d : D} {b : Bool} (l : Lk K ω H v d) : decide (v = .bl b) = isBo b d := by
  rcases l with h | ⟨a, vs, ds, rfl, rfl, _, _⟩ | ⟨a, ks, kvs, rfl, rfl, _, _⟩
  · cases h <;> simp [isBo]
  · simp [isBo]
  · simp [isBo]
theorem bi_is {K : PySem.W.Frag} : BiD K (fun x y H Q => (y = .non ∧ Q (.bl (decide (x = .non))) H) ∨ ∃ b, y = .bl b ∧ Q (.bl (decide (x = .bl b))) H) gIs := by
  intro ω H x y d e Q wf l1 l2 o
  cases e with
  | none => exact .inl ⟨l2.none, by rw [l1.isNone]; exact o H _ (Ext.refl H) (.bl _)⟩
  | bool b => exact .inr ⟨b, l2.bool, by rw [l1.isBool]; exact o H _ (Ext.refl H) (.bl _)⟩
  | _ => exact o.elim
theorem nx_is : NoX2 gIs := fun x y c a => by cases y <;> (intro z; cases z)
section
variable {X : Cx} {G : Gm} {a b : Expr} {pos : Pos} {ta tb : Am} {k : Nat}
theorem cEq (hr : Room k X.A) (ha : PE X a (tA1 G ta)) (hb : PE X b (tA1 G tb)) (hK : X.K = G.K := by rfl) : PE X (.Compare a [.Eq] [b] pos) (tI G (mB gEq ta tb)) := cm (r := rEqP G.K) (hK ▸ op_eqP hr) bi_eq nx_eq ha hb (nomark _)
theorem cIs (hr : Room k X.A) (ha : PE X a (tA1 G ta)) (hb : PE X b (tA1 G tb)) : PE X (.Compare a [.Is] [b] pos) (tI G (mB gIs ta tb)) := cm op_isC bi_is nx_is ha hb (nomark _)
/-- a comparison as a test -/
theorem ct {op : CmpOp} {m : Em} (h : PE X (.Compare a [op] [b] pos) (tI G m)) (hc : PT X (.Compare a [op] [b] pos) (tT G (mT m))) : PT X (.Compare a [op] [b] pos) (tT G (mT m)) := hc
theorem tEq (hr : Room k X.A) (ha : PE X a (tA1 G ta)) (hb : PE X b (tA1 G tb)) (hK : X.K = G.K := by rfl) : PT X (.Compare a [.Eq] [b] pos) (tT G (mT (mB gEq ta tb))) := cmt (r := rEqP G.K) (hK ▸ op_eqP hr) bi_eq nx_eq ha hb (nomark _)
theorem tNe (hr : Room k X.A) (ha : PE X a (tA1 G ta)) (hb : PE X b (tA1 G tb)) (hK : X.K = G.K := by rfl) : PT X (.Compare a [.NotEq] [b] pos) (tT G (mT (mB gNe ta tb))) := cmt (r := rNeP G.K) (hK ▸ op_neP hr) bi_ne nx_ne ha hb (nomark _)
theorem tLt (hr : Room k X.A) (ha : PE X a (tA1 G ta)) (hb : PE X b (tA1 G tb)) (hK : X.K = G.K := by rfl) : PT X (.Compare a [.Lt] [b] pos) (tT G (mT (mB gLt ta tb))) := cmt (OpR.or op_lt (hK ▸ op_ltD hr)) bi_lt nx_lt ha hb (nomark _)
theorem tIs (hr : Room k X.A) (ha : PE X a (tA1 G ta)) (hb : PE X b (tA1 G tb)) : PT X (.Compare a [.Is] [b] pos) (tT G (mT (mB gIs ta tb))) := cmt op_isC bi_is nx_is ha hb (nomark _)
end
section
variable {X : Cx} {G : Gm} {a b : Expr} {pos : Pos} {ta tb : Am} {k : Nat}
def optR {α : Type} : Option α → Rs α
  | some x => .ok x
  | none => .no
def gIx (d e : D) : Rs D := match d, e with
  | .list xs, .int i => optR (atI xs i)
  | .tuple xs, .int i => optR (atI xs i)
  | .str z, .int i => if z.length ≤ sizeLine then optR ((atI z.cps.toList i).map fun c => PyData.str ⟨#[c]⟩) else .no
  | _, _ => .no
theorem Reps.atI {K : PySem.W.Frag} {ω : Om} {H : Hp} {vs : List V} {ds : List D} {i : Int} {d : D} (r : Reps K ω H vs ds) (h : L2.atI ds i = some d) : ∃ v, L2.atI vs i = some v ∧ Rep K ω H v d := by
  unfold L2.atI at h ⊢
  rw [r.length]
  cases e : ixN ds.length i with
  | none => rw [e] at h; exact nomatch h
  | some j =>
    rw [e] at h
    exact r.getD h
theorem opt_inv {α : Type} {o : Option α} {q : α → Prop} {e : Str → D → Prop} (h : Out (optR o) q e) : ∃ x, o = some x ∧ q x := by
  cases o with
  | some x => exact ⟨x, rfl, h⟩
  | none => exact h.elim
theorem ifx_inv {α : Type} {c : Prop} [Decidable c] {x : Rs α} {q : α → Prop} {e : Str → D → Prop} (h : Out (if c then x else .no) q e) : c ∧ Out x q e := by
  by_cases hc : c
  · rw [if_pos hc] at h; exact ⟨hc, h⟩
  · rw [if_neg hc] at h; exact h.elim
theorem bi_ix {K : PySem.W.Frag} : BiD K (rIx K) gIx := by
  intro ω H x y d e Q wf l1 l2 o
  cases d with
  | list xs => cases e with
    | int i =>
      obtain ⟨z, hz, o⟩ := opt_inv o
      obtain ⟨a, vs, rfl, h1, r1⟩ := l1.list
      obtain ⟨v, hv, rv⟩ := r1.atI hz
      rw [l2.int]
      exact .inl ⟨a, vs, i, v, rfl, rfl, h1, hv, o H _ (Ext.refl H) rv⟩
    | _ => exact o.elim
  | tuple xs => cases e with
    | int i =>
      obtain ⟨z, hz, o⟩ := opt_inv o
      obtain ⟨a, vs, rfl, h1, r1⟩ := l1.tuple
      obtain ⟨v, hv, rv⟩ := r1.atI hz
      rw [l2.int]
      exact .inr (.inl ⟨a, vs, i, v, rfl, rfl, h1, hv, o H _ (Ext.refl H) rv⟩)
    | _ => exact o.elim
  | str z => cases e with
    | int i =>
      obtain ⟨hl, o⟩ := ifx_inv o
      obtain ⟨w, hw, o⟩ := opt_inv o
      obtain ⟨c, hc, rfl⟩ := Option.map_eq_some_iff.mp hw
      rw [l1.str, l2.int]
      exact .inr (.inr ⟨z, i, c, rfl, rfl, hl, hc, o H _ (Ext.refl H) (.str _)⟩)
    | _ => exact o.elim
  | _ => cases e <;> exact o.elim
theorem nx_opt {α : Type} {o : Option α} {c : Str} {a : D} : optR o ≠ .ex c a := by cases o <;> (intro z; cases z)
theorem nx_ifx {α : Type} {c : Prop} [Decidable c] {r : Rs α} {k : Str} {b : D} (h : r ≠ .ex k b) : (if c then r else .no) ≠ .ex k b := by
  split
  · exact h
  · intro z; cases z
theorem nx_ix : NoX2 gIx := fun x y c a => by
  cases x <;> cases y <;> first
    | exact nx_opt
    | exact nx_ifx nx_opt
    | (intro z; cases z)
theorem xIx (ha : PE X a (tA1 G ta)) (hb : PE X b (tA1 G tb)) (hs : PlainIx b := by exact fun _ _ => rfl) (hK : X.K = G.K := by rfl) : PE X (.Subscript a b pos) (tI G (mB gIx ta tb)) := by
  refine pe_if (pe_ix (r := rIx G.K) (hK ▸ ix_seq) ha hb hs) fun σ H Q h => bi_core ha hb (r := rIx G.K) nx_ix (k := fun ω H φ σ δ x y d e Q z => ∀ H' v, Ext H H' → Rep G.K ω H' v z → Q v H') ?_ fun ω H φ δ x y d e s l1 l2 o => bi_ix ω H x y d e Q s.wf l1 l2 o
  obtain ⟨ω, δ, φ, s, o⟩ := h
  exact ⟨ω, δ, φ, s, o.mono (fun r hr ω' H' φ' st s' x y d e _ _ H'' v ex rp => hr ω' H'' φ' v (st.trans (s'.step ex)) (s'.ext ex) rp) fun _ _ z => z⟩
end
end Zd
namespace Zd
open PySem PySem.Spec
open PyProof.Rows L2
abbrev Om' := Dl → Rs (Option Int × Dl)
def tPo (G : Gm) (m : Om') : TO := fun σ H Q => ∃ ω δ φ, Slots G.K G.κ ω H σ δ φ ∧
  Out (m δ) (fun r => ∀ ω' H' φ', Step ω (Fp φ) H ω' (Fp φ') H' → Slots G.K G.κ ω' H' σ r.2 φ' → Q r.1 H') (Esc G.K G.cls G.E ω (Fp φ) H)
def oN : Om' := fun δ => .ok (none, δ)
def toI : D → Rs Int
  | .int i => .ok i
  | _ => .no
def oS (m : Em) : Om' := fun δ => m δ >>= fun r => toI r.1 >>= fun i => .ok (some i, r.2)
section
variable {X : Cx} {G : Gm} {e : Expr} {lo hi : Option Expr} {pos p2 : Pos}
theorem po_if {o : Option Expr} {t t' : TO} (h : PO X o t) (w : ∀ σ H Q, t' σ H Q → t σ H Q) : PO X o t' := ⟨fun pins s σ H Q I q => h.run pins s σ H Q I (w σ H Q q)⟩
theorem on : PO X none (tPo G oN) := po_if po_none fun σ H Q ⟨ω, δ, φ, s, o⟩ => o ω H φ s.refl s
theorem os {m : Em} (h : PE X e (tI G m)) : PO X (some e) (tPo G (oS m)) := by
  refine po_if (po_some h) fun σ H Q ⟨ω, δ, φ, s, o⟩ => ⟨ω, δ, φ, s, (Out.bind o).mono (fun r hr ω' H' φ' v st s' rp => ?_) fun _ _ z => z⟩
  obtain ⟨d, δ1⟩ := r
  cases d with
  | int i =>
    cases rp
    exact ⟨i, rfl, hr ω' H' φ' st s'⟩
  | _ => exact hr.elim
end
section
variable {X : Cx} {G : Gm} {e : Expr} {es : List Expr} {pos p : Pos} {x : Str} {id T : String} {ms : Lm} {r : List V → Hp → VK → Prop} {g : List D → Rs D}
def NoXL (g : List D → Rs D) : Prop := ∀ ds c a, g ds ≠ .ex c a
theorem li_core {t : TA → TE} (hd : LiD G.K r g) (nx : NoXL g) {σ : L2.St} {H : Hp} {Q : VK} (h : tI G (mL g ms) σ H Q) : tCB r (tAr G ms) σ H Q := by
  obtain ⟨ω, δ, φ, s, o⟩ := h
  refine ⟨ω, δ, φ, s, (Out.bind o).mono (fun r1 h1 ω1 H1 φ1 vs st1 s1 rx => ?_) fun _ _ z => z⟩
  obtain ⟨ds, l1, h2⟩ := s1.gots rx (Out.bind h1)
  refine hd ω1 H1 vs ds Q s1.wf l1 ((out_no (Out.bind h2) (nx ds)).mono (fun z hz H' v ex rp => ?_) fun _ _ z => z)
  exact hz ω1 H' φ1 v (st1.trans (s1.step ex)) (s1.ext ex) rp
theorem xB (hc : CallR X (.builtin id) r) (hd : LiD G.K r g) (nx : NoXL g) (hm : X.mg x = none) (hv : bootBuiltins x = some (.builtin id)) (ha : PA X (e :: es) (tAr G ms)) (hg : Gl X x := by rfl) (hn : x ≠ "__name__" := by decide) (hdb : (x == ("__debug__" : Str)) = false := by decide)
    (he : starEach (e :: es) X.env = (false, eval e X.env) :: starEach es X.env := by rfl) (hpl : (backTo pos (starEach es X.env)).any (·.1) = false := by rfl) : PE X (.Call (.Name x p) (e :: es) [] pos) (tI G (mL g ms)) :=
  pe_if (pe_callB hc hg hm hv ha hn hdb he hpl) fun σ H Q h => li_core (t := fun _ => fun _ _ _ => True) hd nx h
theorem xT (hc : CallR X (.type T) r) (hd : LiD G.K r g) (nx : NoXL g) (hm : X.mg x = none) (hv : bootBuiltins x = some (.type T)) (ha : PA X (e :: es) (tAr G ms)) (hg : Gl X x := by rfl) (hn : x ≠ "__name__" := by decide) (hdb : (x == ("__debug__" : Str)) = false := by decide)
    (he : starEach (e :: es) X.env = (false, eval e X.env) :: starEach es X.env := by rfl) (hpl : (backTo pos (starEach es X.env)).any (·.1) = false := by rfl) : PE X (.Call (.Name x p) (e :: es) [] pos) (tI G (mL g ms)) :=
  pe_if (pe_callTy hc hg hm hv ha hn hdb he hpl) fun σ H Q h => li_core (t := fun _ => fun _ _ _ => True) hd nx h
end
def gLen : List D → Rs D
  | [.list xs] => .ok (.int xs.length)
  | [.tuple xs] => .ok (.int xs.length)
  | [.str z] => if z.length ≤ sizeLine then .ok (.int z.length) else .no
  | _ => .no
theorem Lks.one {K : PySem.W.Frag} {ω : Om} {H : Hp} {vs : List V} {d : D} (h : Lks K ω H vs [d]) : ∃ v, vs = [v] ∧ Lk K ω H v d := by
  cases h with
  | cons r t => cases t; exact ⟨_, rfl, r⟩
theorem Lks.two {K : PySem.W.Frag} {ω : Om} {H : Hp} {vs : List V} {d e : D} (h : Lks K ω H vs [d, e]) : ∃ v w, vs = [v, w] ∧ Lk K ω H v d ∧ Lk K ω H w e := by
  cases h with
  | cons r t =>
    obtain ⟨w, rfl, q⟩ := t.one
    exact ⟨_, w, rfl, r, q⟩
abbrev rLen (K : PySem.W.Frag) : List V → Hp → VK → Prop := fun xs H Q => (∃ p ys, xs = [.ref p] ∧ (SqL K H p ys ∨ SqT K H p ys) ∧ Q (.int ys.length) H) ∨ ∃ z, xs = [.str z] ∧ z.length ≤ sizeLine ∧ Q (.int z.length) H
theorem ld_len {K : PySem.W.Frag} : LiD K (rLen K) gLen := by
  intro ω H xs ds Q wf l o
  unfold gLen at o
  split at o
  · obtain ⟨v, rfl, lk⟩ := l.one
    obtain ⟨a, vs, rfl, h1, r1⟩ := lk.list
    exact .inl ⟨a, vs, rfl, .inl h1, by rw [r1.length]; exact o H _ (Ext.refl H) (.int _)⟩
  · obtain ⟨v, rfl, lk⟩ := l.one
    obtain ⟨a, vs, rfl, h1, r1⟩ := lk.tuple
    exact .inl ⟨a, vs, rfl, .inr h1, by rw [r1.length]; exact o H _ (Ext.refl H) (.int _)⟩
  · obtain ⟨hc, o⟩ := if_inv o
    obtain ⟨v, rfl, lk⟩ := l.one
    rw [lk.str]
    exact .inr ⟨_, rfl, hc, o H _ (Ext.refl H) (.int _)⟩
  · exact o.elim
theorem nx_len : NoXL gLen := fun ds c a => by unfold gLen; split <;> first | exact nx_if | (intro z; cases z)
def gAbs : List D → Rs D
  | [.int i] => .ok (.int (if i < 0 then -i else i))
  | _ => .no
def gInt : List D → Rs D
  | [.int i] => .ok (.int i)
  | [.bool b] => .ok (.int (if b = true then 1 else 0))
  | _ => .no
theorem ld_int {K : PySem.W.Frag} : LiD K (fun xs H Q => (∃ i, xs = [.int i] ∧ Q (.int i) H) ∨ ∃ k : Bool, xs = [.bl k] ∧ Q (.int (if k then 1 else 0)) H) gInt := by
  intro ω H xs ds Q wf l o
  unfold gInt at o
  split at o
  · obtain ⟨v, rfl, lk⟩ := l.one
    rw [lk.int]
    exact .inl ⟨_, rfl, o H _ (Ext.refl H) (.int _)⟩
  · obtain ⟨v, rfl, lk⟩ := l.one
    rw [lk.bool]
    exact .inr ⟨_, rfl, o H _ (Ext.refl H) (.int _)⟩
  · exact o.elim
theorem nx_int : NoXL gInt := fun ds c a => by unfold gInt; split <;> (intro z; cases z)
def gStr : List D → Rs D
  | [.int i] => if i.natAbs.log2 < 1920 then .ok (.str (toString i)) else .no
  | _ => .no
theorem ld_str {K : PySem.W.Frag} : LiD K (fun xs H Q => ∃ i : Int, xs = [.int i] ∧ i.natAbs.log2 < 1920 ∧ Q (.str (toString i)) H) gStr := by
  intro ω H xs ds Q wf l o
  unfold gStr at o
  split at o
  · obtain ⟨hc, o⟩ := if_inv o
    obtain ⟨v, rfl, lk⟩ := l.one
    rw [lk.int]
    exact ⟨_, rfl, hc, o H _ (Ext.refl H) (.str _)⟩
  · exact o.elim
theorem nx_str : NoXL gStr := fun ds c a => by unfold gStr; split <;> first | exact nx_if | (intro z; cases z)
def gGcd : List D → Rs D
  | [.int i, .int j] => .ok (.int ((Nat.gcd i.natAbs j.natAbs : Nat) : Int))
  | _ => .no
def gMax : List D → Rs D
  | [.int i, .int j] => .ok (.int (if j > i then j else i))
  | _ => .no
def gMin : List D → Rs D
  | [.int i, .int j] => .ok (.int (if j < i then j else i))
  | _ => .no
theorem ld_max {K : PySem.W.Frag} : LiD K (fun xs H Q => ∃ i j : Int, xs = [.int i, .int j] ∧ Q (.int (if j > i then j else i)) H) gMax := by
  intro ω H xs ds Q wf l o
  unfold gMax at o
  split at o
  · obtain ⟨v, w, rfl, l1, l2⟩ := l.two
    rw [l1.int, l2.int]
    exact ⟨_, _, rfl, o H _ (Ext.refl H) (.int _)⟩
  · exact o.elim
theorem ld_min {K : PySem.W.Frag} : LiD K (fun xs H Q => ∃ i j : Int, xs = [.int i, .int j] ∧ Q (.int (if j < i then j else i)) H) gMin := by
  intro ω H xs ds Q wf l o
  unfold gMin at o
  split at o
  · obtain ⟨v, w, rfl, l1, l2⟩ := l.two
    rw [l1.int, l2.int]
    exact ⟨_, _, rfl, o H _ (Ext.refl H) (.int _)⟩
  · exact o.elim
theorem nx_max : NoXL gMax := fun ds c a => by unfold gMax; split <;> (intro z; cases z)
theorem nx_min : NoXL gMin := fun ds c a => by unfold gMin; split <;> (intro z; cases z)
def gTup : List D → Rs D
  | [.list xs] => .ok (.tuple xs)
  | [.tuple xs] => .ok (.tuple xs)
  | _ => .no
section
variable {X : Cx} {G : Gm} {a b : Expr} {es : List Expr} {pos p : Pos} {ms : Lm}
theorem xLen (hm : X.mg "len" = none) (ha : PA X (a :: es) (tAr G ms)) (hK : X.K = G.K := by rfl) (hg : Gl X "len" := by rfl) (he : starEach (a :: es) X.env = (false, eval a X.env) :: starEach es X.env := by rfl) (hpl : (backTo pos (starEach es X.env)).any (·.1) = false := by rfl) :
    PE X (.Call (.Name "len" p) (a :: es) [] pos) (tI G (mL gLen ms)) := xB (r := rLen G.K) (CallR.or (hK ▸ call_len_seq) call_len_str) ld_len nx_len hm PySem.boot_len ha hg (by decide) (by decide) he hpl
theorem xInt (hm : X.mg "int" = none) (ha : PA X (a :: es) (tAr G ms)) (hg : Gl X "int" := by rfl) (he : starEach (a :: es) X.env = (false, eval a X.env) :: starEach es X.env := by rfl) (hpl : (backTo pos (starEach es X.env)).any (·.1) = false := by rfl) :
    PE X (.Call (.Name "int" p) (a :: es) [] pos) (tI G (mL gInt ms)) := xT call_int1 ld_int nx_int hm PyProof.Rows.boot_int ha hg (by decide) (by decide) he hpl
theorem xStr (hm : X.mg "str" = none) (ha : PA X (a :: es) (tAr G ms)) (hg : Gl X "str" := by rfl) (he : starEach (a :: es) X.env = (false, eval a X.env) :: starEach es X.env := by rfl) (hpl : (backTo pos (starEach es X.env)).any (·.1) = false := by rfl) :
    PE X (.Call (.Name "str" p) (a :: es) [] pos) (tI G (mL gStr ms)) := xT call_str_int ld_str nx_str hm PyProof.Rows.boot_str ha hg (by decide) (by decide) he hpl
theorem xMax (hc : X.calm = true) (hm : X.mg "max" = none) (ha : PA X (a :: es) (tAr G ms)) (hg : Gl X "max" := by rfl) (he : starEach (a :: es) X.env = (false, eval a X.env) :: starEach es X.env := by rfl) (hpl : (backTo pos (starEach es X.env)).any (·.1) = false := by rfl) :
    PE X (.Call (.Name "max" p) (a :: es) [] pos) (tI G (mL gMax ms)) := xB (call_max2 hc) ld_max nx_max hm PyProof.Rows.boot_max ha hg (by decide) (by decide) he hpl
theorem xMin (hc : X.calm = true) (hm : X.mg "min" = none) (ha : PA X (a :: es) (tAr G ms)) (hg : Gl X "min" := by rfl) (he : starEach (a :: es) X.env = (false, eval a X.env) :: starEach es X.env := by rfl) (hpl : (backTo pos (starEach es X.env)).any (·.1) = false := by rfl) :
    PE X (.Call (.Name "min" p) (a :: es) [] pos) (tI G (mL gMin ms)) := xB (call_min2 hc) ld_min nx_min hm PyProof.Rows.boot_min ha hg (by decide) (by decide) he hpl
end
end Zd
namespace Zd
open PySem PySem.Spec
open PyProof.Rows L2
def tyN : D → String
  | .none => "NoneType"
  | .bool _ => "bool"
  | .int _ => "int"
  | .str _ => "str"
  | .list _ => "list"
  | .tuple _ => "tuple"
  | .dict _ => "dict"
/-- a value's type, dicts too -/
def TyY (K : PySem.W.Frag) (H : Hp) (x : V) (t : Value) : Prop := TyX K H x t ∨ ∃ a o, x = .ref a ∧ t = .type "dict" ∧ H a = some (dcO a o) ∧ o.ExactDict
theorem dcO_at {P : Program} {w : World} {H : Hp} {h : Heap} {a : Addr} {o : Obj} (ok : HOk P w H h) (e : H a = some (dcO a o)) : h.get? a = some o := by
  have x : ObjOk P w H h a (.ext fun h => h.get? a = some o) := ok a _ e
  exact x.1
section
variable {X : Cx} {pins : List (Addr × Obj)} {σ : L2.St} {H : Hp} {s : Shared}
theorem kit_ofY {x : V} {u t : Value} (I : Inv X pins σ H s) (rx : RelV x u) (ty : TyY X.K H x t) : ∃ P : Heap → Prop, PySem.W.KitX X.K u t P ∧ P s.heap ∧ u ≠ .builtin "__main__.__loader__#opaque" := by
  rcases ty with ty | ⟨a, o, rfl, rfl, e, c⟩
  · exact kit_of I rx ty
  · obtain rfl : u = Value.ref a := rx
    exact ⟨_, PySem.W.kitx_dict, ⟨o, dcO_at I.hok e, c.1⟩, fun z => nomatch z⟩
end
def rIsiY (K : PySem.W.Frag) : List V → Hp → VK → Prop := fun xs H Q => ∃ (x c : V) (t u : Value) (b : Bool), xs = [x, c] ∧ ClsV c u ∧ TyY K H x t ∧ PySem.W.kitOne K t u = some b ∧ Q (.bl b) H
theorem call_isiY {X : Cx} : CallR X (.builtin "isinstance") (rIsiY X.K) := by
  intro pins s σ H xs us Q
  intro I r h
  obtain ⟨x, c, t, u, b,
            rfl, k, ty, e, q⟩ := h
  obtain ⟨u1, u2, rfl,
            r1, r2⟩ := vals2 r
  have e2 := k.eq r2
  subst e2
  obtain ⟨P, Z, p, hx⟩ := kit_ofY I r1 ty
  exact PySem.W.kia_one Z I.kIn p e hx fun tk => ⟨.bl
            b, H, I.tok tk, rfl, q⟩
theorem Lk.ty {K : PySem.W.Frag} {ω : Om} {H : Hp} {x : V} {d : D} (l : Lk K ω H x d) : TyY K H x (.type (tyN d)) := by
  cases d with
  | none => rw [l.none]; exact .inl (.base .non)
  | bool b => rw [l.bool]; exact .inl (.base (.bl b))
  | int i => rw [l.int]; exact .inl (.base (.int i))
  | str z => rw [l.str]; exact .inl (.base (.str z))
  | list ds =>
    obtain ⟨a, vs, rfl, h, _⟩ := l.rdl
    rcases h with h | ⟨o, h⟩
    · exact .inl (.base (.lst h))
    · exact .inl (.base (.frz h))
  | tuple ds =>
    obtain ⟨a, vs, rfl, h, _⟩ := l.tuple
    rcases h with (h | ⟨o, h⟩) | ⟨o, its, n, h, hc, _⟩
    · exact .inl (.base (.tup h))
    · exact .inl (.fTuple h)
    · exact .inl (.kTuple h hc)
  | dict _ =>
    rcases l with h | ⟨a, vs, ds, _, e, _⟩ | ⟨a, ks, kvs, rfl, e, e1, _⟩
    · cases h with
      | dct e c r => exact .inr ⟨_, _, rfl, rfl, e.1, c.ex⟩
      | dk e r => exact .inl (.fDict e)
    · cases e
    · exact .inl (.base (.dK e1))
def gIsi (p : D → Bool) (d : D) : Rs D := .ok (.bool (p d))
def isInt : D → Bool
  | .int _ => true
  | .bool _ => true
  | _ => false
def isBool : D → Bool
  | .bool _ => true
  | _ => false
def isStr : D → Bool
  | .str _ => true
  | _ => false
def isTup : D → Bool
  | .tuple _ => true
  | _ => false
def isList : D → Bool
  | .list _ => true
  | _ => false
theorem kis : (["NoneType", "bool", "int", "str", "list", "tuple", "dict"].all fun t => ["int", "bool", "str", "tuple", "list"].all fun u =>
    decide (kitB t u = some (t == u || (t == "bool" && u == "int")))) = true := by decide +kernel
theorem ki_of {t u : String} (ht : t ∈ ["NoneType", "bool", "int", "str", "list", "tuple", "dict"]) (hu : u ∈ ["int", "bool", "str", "tuple", "list"]) : kitB t u = some (t == u || (t == "bool" && u == "int")) :=
  of_decide_eq_true (List.all_eq_true.mp (List.all_eq_true.mp kis t ht) u hu)
theorem ki_int (d : D) : kitB (tyN d) "int" = some (isInt d) := by
  rw [ki_of (by cases d <;> simp [tyN]) (by simp)]
  cases d <;> simp [tyN, isInt]
theorem ki_bool (d : D) : kitB (tyN d) "bool" = some (isBool d) := by
  rw [ki_of (by cases d <;> simp [tyN]) (by simp)]
  cases d <;> simp [tyN, isBool]
theorem ki_str (d : D) : kitB (tyN d) "str" = some (isStr d) := by
  rw [ki_of (by cases d <;> simp [tyN]) (by simp)]
  cases d <;> simp [tyN, isStr]
theorem ki_tup (d : D) : kitB (tyN d) "tuple" = some (isTup d) := by
  rw [ki_of (by cases d <;> simp [tyN]) (by simp)]
  cases d <;> simp [tyN, isTup]
section
variable {X : Cx} {G : Gm} {a b : Expr} {es : List Expr} {pos p p2 : Pos} {m : Am}
theorem xIsi {T : String} {nm : Str} {pd : D → Bool} (ht : ∀ d, kitB (tyN d) T = some (pd d)) (hm : X.mg "isinstance" = none) (hmT : X.mg nm = none) (hv : bootBuiltins nm = some (.type T)) (ha : PE X a (tA1 G m)) (hK : X.K = G.K := by rfl) (hg : Gl X "isinstance" := by rfl) (hgT : Gl X nm := by rfl)
    (hn : nm ≠ "__name__" := by decide) (hd : (nm == ("__debug__" : Str)) = false := by decide) (h1 : starEach [a, .Name nm p2] X.env = (false, eval a X.env) :: starEach [.Name nm p2] X.env := by rfl) (h2 : starEach [.Name nm p2] X.env = (false, eval (.Name nm p2) X.env) :: starEach [] X.env := by rfl)
    (hpl : (backTo pos (starEach [.Name nm p2] X.env)).any (·.1) = false := by rfl) : PE X (.Call (.Name "isinstance" p) [a, .Name nm p2] [] pos) (tI G (mU (gIsi pd) m)) := by
  refine pe_if (pe_callB call_isiY hg hm PyProof.Rows.boot_isinstance (pa_cons ha (pa_cons (pe_bltn hgT hmT hv (v := .ty T) rfl hn hd) pa_nil h2) h1) (by decide) (by decide) h1 hpl) fun σ H Q ⟨ω, δ, φ, s, o⟩ => ⟨ω, δ, φ, s, (Out.bind o).mono (fun r h1 ω1 H1 φ1 x st1 s1 rx => ?_) fun _ _ z => z⟩
  obtain ⟨d, l1, h2⟩ := s1.got rx (Out.bind h1)
  rw [hK]
  exact ⟨x, .ty T, _, _, pd d, rfl, .ty T, l1.ty, kit_ty (ht d), h2 ω1 H1 φ1 (.bl (pd d)) st1 s1 (.bl _)⟩
end
def seqOf : D → Rs (List D)
  | .list xs => .ok xs
  | .tuple xs => .ok xs
  | .str z => .ok (z.cps.toList.map fun c => .str ⟨#[c]⟩)
  | _ => .no
def wSeq (m : Em) : Sm := fun δ => m δ >>= fun r => seqOf r.1 >>= fun xs => .ok (xs, r.2)
def iAny (K : PySem.W.Frag) (te : TE) : TI := fun σ H R => te σ H fun x H1 => (∃ a, x = .ref a ∧ (∃ xs, SqL K H1 a xs) ∧ R (Itl K a) H1) ∨ (∃ a, x = .ref a ∧ (∃ xs, SqT K H1 a xs) ∧ R (Itt K a) H1) ∨ ∃ z, x = .str z ∧ R (Its z) H1
section
variable {X : Cx} {tg e : Expr} {te : TE}
theorem pi_any (he : PE X e te) : PI X tg e (iAny X.K te) := by
  constructor
  intro pins s σ H R I h
  refine thn (he.run pins s σ H _ I h) ?_
  rintro v s1 ⟨x, G, J, rx, ⟨a, rfl, ⟨xs, hq⟩, q⟩ | ⟨a, rfl, ⟨xs, hq⟩, q⟩ | ⟨z, rfl, q⟩⟩
  -- a new object at the heap's end, nothing else
  · cases rx
    obtain ⟨its, _, isL, _⟩ := J.list hq
    refine (show wpAny _ _ (pyIter (.ref a)) _ _ _ from ?_)
    refine wpAny_pyIter_list isL.isList
      ⟨s1.heap.objs.size, [s1.heap.objs.size], _, _, G, rfl, J.kept (t' := s1.toks) fun c o e => Heap.get?_push_of_some _ e, turn_list a _,
        ⟨_, Heap.get?_push_size _ rfl, rfl, rfl⟩, fun c hc => ?_, q⟩
    cases List.mem_singleton.mp hc
    exact J.fpOk (Nat.le_refl _) (J.hok.fresh (Nat.le_refl s1.heap.objs.size))
  · cases rx
    obtain ⟨its, _, isT, _⟩ := J.tuple hq
    refine (show wpAny _ _ (pyIter (.ref a)) _ _ _ from ?_)
    refine wpAny_pyIter_tuple (show s1.heap.IsTuple a its.toArray from isT)
      ⟨s1.heap.objs.size, [s1.heap.objs.size], _, _, G, rfl, J.kept (t' := s1.toks) fun c o e => Heap.get?_push_of_some _ e, turn_tuple a _,
        ⟨_, Heap.get?_push_size _ rfl, rfl, rfl⟩, fun c hc => ?_, q⟩
    cases List.mem_singleton.mp hc
    exact J.fpOk (Nat.le_refl _) (J.hok.fresh (Nat.le_refl s1.heap.objs.size))
  · obtain ⟨tk, rfl⟩ := rx
    refine (show wpAny _ _ (pyIter (.str z tk)) _ _ _ from ?_)
    cases wide : z.cps.all (· < 128)
    · exact wpAny_pyIter_wide wide (pi_one (tk := s1.toks) J _ (turn_str _ z tk "str_iterator" (.inr rfl)) ⟨_, Heap.get?_push_size _ rfl, rfl, rfl⟩ q)
    · exact wpAny_pyIter_ascii wide (pi_one (tk := s1.toks) J _ (turn_str _ z tk "str_ascii_iterator" (.inl rfl)) ⟨_, Heap.get?_push_size _ rfl, rfl, rfl⟩ q)
end
section
variable {K : PySem.W.Frag}
theorem wk_list {a : Addr} {xs : List D} : Wk K (Itl K a) xs (fun ω H => ∃ vs, (Rd H a (.lst vs) ∧ ¬ ω a) ∧ Reps K ω H vs xs) where
  goes := fun i ω H hi ⟨vs, h, r⟩ => by
    obtain ⟨v, hv, _⟩ := r.getD (List.getElem?_eq_getElem hi)
    exact ⟨vs, v, .inl h.1, hv⟩
  stops := fun ω H ⟨vs, h, r⟩ => ⟨vs, .inl h.1, by rw [r.length]; exact Nat.le_refl _⟩
  yields := fun i ω H x H' ⟨vs, h, r⟩ wf hi ⟨e, y⟩ => by
    subst e
    obtain ⟨d, hd, rp⟩ := r.get (y vs (.inl h.1))
    exact ⟨Ext.refl _, d, hd, rp⟩
  stay := fun ω P H ω' P' H' st ⟨vs, h, r⟩ => ⟨vs, st.grow.rdl h, r.up st.grow⟩
theorem wk_tup {a : Addr} {xs : List D} : Wk K (Itt K a) xs (fun ω H => ∃ vs, SqT K H a vs ∧ Reps K ω H vs xs) where
  goes := fun i ω H hi ⟨vs, h, r⟩ => by
    obtain ⟨v, hv, _⟩ := r.getD (List.getElem?_eq_getElem hi)
    exact ⟨vs, v, h, hv⟩
  stops := fun ω H ⟨vs, h, r⟩ => ⟨vs, h, by rw [r.length]; exact Nat.le_refl _⟩
  yields := fun i ω H x H' ⟨vs, h, r⟩ wf hi ⟨e, y⟩ => by
    subst e
    obtain ⟨d, hd, rp⟩ := r.get (y vs h)
    exact ⟨Ext.refl _, d, hd, rp⟩
  stay := fun ω P H ω' P' H' st ⟨vs, h, r⟩ => ⟨vs, st.grow.sqT h, r.up st.grow⟩
theorem wk_str {z : Str} : Wk K (Its z) (z.cps.toList.map fun c => PyData.str ⟨#[c]⟩) (fun _ _ => True) where
  goes := fun i ω H hi _ => by simpa [Its] using hi
  stops := fun ω H _ => by simp [Its]
  yields := fun i ω H x H' _ wf hi y => by
    obtain ⟨e, c, hc, rfl⟩ := y
    subst e
    refine ⟨Ext.refl _, .str ⟨#[c]⟩, ?_, .str _⟩
    rw [List.getElem?_map]
    have : z.cps.toList[i]? = some c := by simpa using hc
    rw [this]
    rfl
  stay := fun _ _ _ _ _ _ _ _ => trivial
theorem wk_range {n : Nat} : Wk K (Itr 0 n) ((List.range n).map fun i => PyData.int (i : Nat)) (fun _ _ => True) where
  goes := fun i ω H hi _ => by simpa [Itr] using hi
  stops := fun ω H _ => by simp [Itr]
  yields := fun i ω H x H' _ wf hi y => by
    obtain ⟨e, rfl⟩ := y
    subst e
    have hi : i < n := by simpa using hi
    refine ⟨Ext.refl _, .int (i : Nat), ?_, ?_⟩
    · rw [List.getElem?_map, List.getElem?_range hi]
      rfl
    · rw [Int.zero_add]
      exact .int _
  stay := fun _ _ _ _ _ _ _ _ => trivial
def pairs : List D → List D → List D
  | x :: xs, y :: ys => .tuple [x, y] :: pairs xs ys
  | _, _ => []
theorem pairs_len : ∀ xs ys : List D, (pairs xs ys).length = min xs.length ys.length
  | [], ys => by simp [pairs]
  | x :: xs, [] => by simp [pairs]
  | x :: xs, y :: ys => by simp only [pairs, List.length_cons, pairs_len xs ys]; omega
theorem pairs_get : ∀ {xs ys : List D} {i : Nat} {x y : D}, xs[i]? = some x → ys[i]? = some y → (pairs xs ys)[i]? = some (.tuple [x, y])
  | [], _, _, _, _, h, _ => absurd h (by simp)
  | _ :: _, [], _, _, _, _, h => absurd h (by simp)
  | x :: xs, y :: ys, 0, _, _, h1, h2 => by simp at h1 h2; subst h1; subst h2; simp [pairs]
  | x :: xs, y :: ys, i + 1, _, _, h1, h2 => by
    simp only [pairs, List.getElem?_cons_succ] at h1 h2 ⊢
    exact pairs_get h1 h2
/-- a list or a tuple that stays -/
def KpB (k : Bool) (ω : Om) (K : PySem.W.Frag) (H : Hp) (a : Addr) (vs : List V) : Prop := match k with
  | true => Rd H a (.lst vs) ∧ ¬ ω a
  | false => SqT K H a vs
theorem KpB.sq {k : Bool} {ω : Om} {K : PySem.W.Frag} {H : Hp} {a : Addr} {vs : List V} (h : KpB k ω K H a vs) : SqB k K H a vs := by
  cases k
  · exact h
  · exact .inl h.1
theorem KpB.up {k : Bool} {ω ω' : Om} {K : PySem.W.Frag} {H H' : Hp} {a : Addr} {vs : List V} (h : KpB k ω K H a vs) (g : Grow ω H ω' H') : KpB k ω' K H' a vs := by
  cases k
  · exact g.sqT h
  · exact g.rdl h
theorem wk_zipX {k1 k2 : Bool} {a b : Addr} {xs ys : List D} : Wk K (ItzX k1 k2 K a b) (pairs xs ys) (fun ω H => ∃ vs ws, (KpB k1 ω K H a vs ∧ Reps K ω H vs xs) ∧ KpB k2 ω K H b ws ∧ Reps K ω H ws ys) where
  goes := fun i ω H hi ⟨vs, ws, ⟨h1, r1⟩, h2, r2⟩ => by
    rw [pairs_len] at hi
    obtain ⟨v, hv, _⟩ := r1.getD (List.getElem?_eq_getElem (show i < xs.length by omega))
    obtain ⟨w, hw, _⟩ := r2.getD (List.getElem?_eq_getElem (show i < ys.length by omega))
    exact ⟨vs, ws, v, w, h1.sq, h2.sq, hv, hw⟩
  stops := fun ω H ⟨vs, ws, ⟨h1, r1⟩, h2, r2⟩ => ⟨vs, ws, h1.sq, h2.sq, by rw [r1.length, pairs_len]; omega, by rw [r2.length, pairs_len]; omega, by rw [r1.length, r2.length, pairs_len]; omega⟩
  yields := fun i ω H x H' ⟨vs, ws, ⟨h1, r1⟩, h2, r2⟩ wf hi y => by
    obtain ⟨T, ob, x, y, rfl, hT, ho, rfl, f1, f2⟩ := y
    obtain ⟨d, hd, rd⟩ := r1.get (f1 vs h1.sq)
    obtain ⟨e, he, re⟩ := r2.get (f2 ws h2.sq)
    exact ⟨Ext.upd hT, _, pairs_get hd he, Rep.newT wf hT ho (.cons rd (.cons re .nil))⟩
  stay := fun ω P H ω' P' H' st ⟨vs, ws, ⟨h1, r1⟩, h2, r2⟩ => ⟨vs, ws, ⟨h1.up st.grow, r1.up st.grow⟩, h2.up st.grow, r2.up st.grow⟩
end
section
variable {X : Cx} {G : Gm} {tg e a b : Expr} {p pos : Pos}
theorem iq {m : Em} (he : PE X e (tI G m)) (hK : X.K = G.K := by rfl) : PI X tg e (tW G (wSeq m)) := by
  refine pi_if (pi_any he) fun σ H R ⟨ω, δ, φ, s, o⟩ => ⟨ω, δ, φ, s, (Out.bind o).mono (fun r hr ω' H' φ' v st s' rp => ?_) fun _ _ z => z⟩
  obtain ⟨d, δ1⟩ := r
  rw [hK]
  cases d with
  | list xs =>
    cases rp with
    | lst hs ha => exact .inl ⟨_, rfl, ⟨_, .inl hs.1⟩, hr ω' H' φ' _ _ st s' wk_list ⟨_, hs, ha⟩⟩
  | tuple xs =>
    cases rp with
    | tup hs ha => exact .inr (.inl ⟨_, rfl, ⟨_, hs.sqT⟩, hr ω' H' φ' _ _ st s' wk_tup ⟨_, hs.sqT, ha⟩⟩)
  | str z =>
    cases rp
    exact .inr (.inr ⟨z, rfl, hr ω' H' φ' _ _ st s' wk_str trivial⟩)
  | _ => exact hr.elim
def wRng (m : Sm) : Sm := fun δ => m δ >>= fun r => match r.1 with
  | [.int j] => if -(2 ^ 62) ≤ j ∧ j < 2 ^ 62 then .ok ((List.range j.toNat).map fun i => PyData.int (i : Nat), r.2) else .no
  | _ => .no
theorem ir {m : Sm} (hm : X.mg "range" = none) (ha : PA X [a] (tS G m)) (hg : Gl X "range" := by rfl) (hs : starEach [a] X.env = [(false, eval a X.env)] := by rfl) : PI X tg (.Call (.Name "range" p) [a] [] pos) (tW G (wRng m)) := by
  refine pi_if (pi_range1 hg hm ha hs) fun σ H R ⟨ω, δ, φ, s, o⟩ => ⟨ω, δ, φ, s, (Out.bind o).mono (fun r hr ω' H' φ' vs st s' rp => ?_) fun _ _ z => z⟩
  obtain ⟨ds, δ1⟩ := r
  simp only at hr
  split at hr
  · rename_i j
    obtain ⟨⟨c1, c2⟩, hr⟩ := if_inv hr
    cases rp with
    | cons r1 r2 =>
      cases r2
      cases r1
      exact ⟨j, rfl, c1, c2, hr ω' H' φ' _ _ st s' wk_range trivial⟩
  · exact hr.elim
def wZip (m : Sm) : Sm := fun δ => m δ >>= fun r => match r.1 with
  | [.list xs, .list ys] => .ok (pairs xs ys, r.2)
  | [.tuple xs, .tuple ys] => .ok (pairs xs ys, r.2)
  | [.list xs, .tuple ys] => .ok (pairs xs ys, r.2)
  | [.tuple xs, .list ys] => .ok (pairs xs ys, r.2)
  | _ => .no
theorem iz {m : Sm} {elts : List Expr} {kk : Nat} {tpos : Pos} (hm : X.mg "zip" = none) (ha : PA X [a, b] (tS G m)) (hK : X.K = G.K := by rfl) (hg : Gl X "zip" := by rfl) (hs : starEach [a, b] X.env = (false, eval a X.env) :: starEach [b] X.env := by rfl) (hpl : (backTo pos (starEach [b] X.env)).any (·.1) = false := by rfl) :
    PI X (.Tuple elts kk tpos) (.Call (.Name "zip" p) [a, b] [] pos) (tW G (wZip m)) := by
  refine pi_if (pi_zipX hg hm ha hs hpl) fun σ H R ⟨ω, δ, φ, s, o⟩ => ⟨ω, δ, φ, s, (Out.bind o).mono (fun r hr ω' H' φ' vs st s' rp => ?_) fun _ _ z => z⟩
  obtain ⟨ds, δ1⟩ := r
  rw [hK]
  simp only at hr
  split at hr
  · rename_i xs ys
    cases rp with
    | cons r1 r2 =>
      cases r2 with
      | cons r2 r3 =>
        cases r3
        cases r1 with
        | lst h1 q1 =>
          cases r2 with
          | lst h2 q2 => exact ⟨_, _, _, _, true, true, rfl, .inl h1.1, .inl h2.1, hr ω' H' φ' _ _ st s' (wk_zipX (k1 := true) (k2 := true)) ⟨_, _, ⟨h1, q1⟩, h2, q2⟩⟩
  · rename_i xs ys
    cases rp with
    | cons r1 r2 =>
      cases r2 with
      | cons r2 r3 =>
        cases r3
        cases r1 with
        | tup h1 q1 =>
          cases r2 with
          | tup h2 q2 => exact ⟨_, _, _, _, false, false, rfl, h1.sqT, h2.sqT, hr ω' H' φ' _ _ st s' (wk_zipX (k1 := false) (k2 := false)) ⟨_, _, ⟨h1.sqT, q1⟩, h2.sqT, q2⟩⟩
  · rename_i xs ys
    cases rp with
    | cons r1 r2 =>
      cases r2 with
      | cons r2 r3 =>
        cases r3
        cases r1 with
        | lst h1 q1 =>
          cases r2 with
          | tup h2 q2 => exact ⟨_, _, _, _, true, false, rfl, .inl h1.1, h2.sqT, hr ω' H' φ' _ _ st s' (wk_zipX (k1 := true) (k2 := false)) ⟨_, _, ⟨h1, q1⟩, h2.sqT, q2⟩⟩
  · rename_i xs ys
    cases rp with
    | cons r1 r2 =>
      cases r2 with
      | cons r2 r3 =>
        cases r3
        cases r1 with
        | tup h1 q1 =>
          cases r2 with
          | lst h2 q2 => exact ⟨_, _, _, _, false, true, rfl, h1.sqT, .inl h2.1, hr ω' H' φ' _ _ st s' (wk_zipX (k1 := false) (k2 := true)) ⟨_, _, ⟨h1.sqT, q1⟩, h2, q2⟩⟩
  · exact hr.elim
end
end Zd
namespace Zd
open PySem PySem.Spec
open PyProof.Rows L2
section
variable {K : PySem.W.Frag} {κ : Kn} {ω : Om} {H : Hp} {σ : L2.St} {δ : Dl} {φ : Fps}
theorem own_grow {a : Addr} {vs : List V} (wf : Wf ω H) (ha : ω a) : Grow ω H ω (upd H a (.lst vs)) := ⟨fun b o h n => by rw [upd_ne (fun e => n (by rw [e]; exact ha))]; exact h, wf, fun b z => .inl z⟩
theorem Slots.write (s : Slots K κ ω H σ δ φ) {i : Nat} {v : V} {a : Addr} {vs : List V} {d : D} (hv : σ[i]? = some (some v)) (hl : i < δ.length) (ha : a ∈ φ i) (ow : Own K ω (upd H a (.lst vs)) (κ i) v d (φ i)) :
    Slots K κ ω (upd H a (.lst vs)) σ (δ.set i (some d)) φ ∧ Step ω (Fp φ) H ω (Fp φ) (upd H a (.lst vs)) := by
  have oa : ω a := s.sub a ⟨i, ha⟩
  refine ⟨⟨by rw [List.length_set]; exact s.len, fun j e h => ?_, s.nod, s.dis, s.sub, fun b hb => ?_⟩, fun b o h n => by rw [upd_ne (fun e => n (by rw [e]; exact ⟨i, ha⟩))]; exact h, fun b z => .inl z, fun b z _ => z, fun b z => .inl z, s.sub, s.wf⟩
  · by_cases q : i = j
    · subst q
      rw [List.getElem?_set_self hl] at h
      cases h
      exact ⟨v, hv, ow⟩
    · rw [List.getElem?_set_ne q] at h
      obtain ⟨w, h1, h2⟩ := s.at_ j e h
      exact ⟨w, h1, Own.mono (own_grow s.wf oa) e _ _ _ (fun b hb => by rw [upd_ne (fun e => s.dis i j a q ha (by rw [← e]; exact hb))]) h2⟩
  · by_cases e : b = a
    · subst e; exact ⟨.l _, upd_same⟩
    · rw [upd_ne e]; exact s.wf b hb
end
def listAt (δ : Dl) (i : Nat) : Rs (List D) := match δ[i]? with
  | some (some (.list xs)) => .ok xs
  | _ => .no
section
variable {X : Cx} {G : Gm} {e a b : Expr} {es : List Expr} {pos p apos cpos : Pos} {y : Str} {py : Pos}
/-- x.append(e) -/
def mApp (i : Nat) (m : Em) : Em := fun δ => listAt δ i >>= fun _ => m δ >>= fun r => listAt r.2 i >>= fun xs => if xs.length < sizeLine then .ok (.none, r.2.set i (some (.list (xs ++ [r.1])))) else .no
/-- x.pop() -/
def mPop (i : Nat) : Em := fun δ => listAt δ i >>= fun xs => optR xs.getLast? >>= fun d => .ok (d, δ.set i (some (.list xs.dropLast)))
/-- x.pop(k) -/
def mPopAt (i : Nat) (m : Em) : Em := fun δ => listAt δ i >>= fun _ => m δ >>= fun r => listAt r.2 i >>= fun xs => toI r.1 >>= fun k => if -(2 ^ 63) ≤ k ∧ k < 2 ^ 63 then optR ((seqIndex? k xs.length).bind fun j => xs[j]?.map fun d => (j, d)) >>= fun jd => .ok (jd.2, r.2.set i (some (.list (xs.eraseIdx jd.1)))) else .no
end
section
variable {K : PySem.W.Frag} {ω : Om} {H : Hp}
theorem Owns.at : ∀ {ss : List Sh} {vs : List V} {ds : List D} {f : List Addr} {k : Nat} {s : Sh} {d : D}, Owns K ω H ss vs ds f → ss[k]? = some s → ds[k]? = some d →
    ∃ v g1 fk g2, vs[k]? = some v ∧ f = g1 ++ fk ++ g2 ∧ Own K ω H s v d fk ∧
      ∀ (ω' : Om) (H' : Hp) (v' : V) (d' : D), Grow ω H ω' H' → (∀ a ∈ g1 ++ g2, H' a = H a) → Own K ω' H' s v' d' fk → Owns K ω' H' ss (vs.set k v') (ds.set k d') f
  | _, _, [], _, _, _, _, _, _, h => by simp at h
  | _, _, d0 :: ds, _, 0, s, d, o, hs, hd => by
    cases o with
    | @cons s0 ss v vs _ _ f g r t =>
      simp at hs hd
      subst hs hd
      refine ⟨v, [], f, g, rfl, by simp, r, fun ω' H' v' d' gr hk ow => .cons ow (Owns.mono gr ds _ _ _ (fun a ha => hk a (by simpa using ha)) t)⟩
  | _, _, d0 :: ds, _, k + 1, s, d, o, hs, hd => by
    cases o with
    | @cons s0 ss v vs _ _ f g r t =>
      obtain ⟨w, g1, fk, g2, h1, h2, h3, h4⟩ := Owns.at t (by simpa using hs) (by simpa using hd)
      refine ⟨w, f ++ g1, fk, g2, by simpa using h1, by rw [h2]; simp, h3, fun ω' H' v' d' gr hk ow => ?_⟩
      exact .cons (Own.mono gr d0 _ _ _ (fun a ha => hk a (by simp [ha])) r) (h4 ω' H' v' d' gr (fun a ha => hk a (by rcases List.mem_append.mp ha with h | h <;> simp [h])) ow)
end
/-- the shape at a place of a slot's list -/
def shAt (s : Sh) (k : Nat) : Option Sh := match s with
  | .rc ss => ss[k]?
  | _ => none
def itemAt (δ : Dl) (i k : Nat) : Rs D := listAt δ i >>= fun xs => optR xs[k]?
def putAt (δ : Dl) (i k : Nat) (d : D) : Rs Dl := listAt δ i >>= fun xs => .ok (δ.set i (some (.list (xs.set k d))))
section
variable {K : PySem.W.Frag} {κ : Kn} {ω : Om} {H : Hp} {σ : L2.St} {δ : Dl} {φ : Fps}
/-- what stands at the place; what a change there leaves -/
theorem Slots.place (s : Slots K κ ω H σ δ φ) {i k : Nat} {sh : Sh} {xs : List D} {d : D} (hk : shAt (κ i) k = some sh) (hx : δ[i]? = some (some (.list xs))) (hd : xs[k]? = some d) :
    ∃ a vs v fk, σ[i]? = some (some (.ref a)) ∧ H a = some (.lst vs) ∧ vs[k]? = some v ∧ Own K ω H sh v d fk ∧ (∀ b ∈ fk, b ∈ φ i ∧ b ≠ a) ∧ a ∈ φ i ∧
      (∀ (b : Addr) (ws : List V) (d' : D), b ∈ fk → Own K ω (upd H b (.lst ws)) sh v d' fk → Slots K κ ω (upd H b (.lst ws)) σ (δ.set i (some (.list (xs.set k d')))) φ ∧ Step ω (Fp φ) H ω (Fp φ) (upd H b (.lst ws))) ∧
      (∀ (v' : V) (d' : D), sh = .im → Rep K ω H v' d' → Slots K κ ω (upd H a (.lst (vs.set k v'))) σ (δ.set i (some (.list (xs.set k d')))) φ ∧ Step ω (Fp φ) H ω (Fp φ) (upd H a (.lst (vs.set k v')))) := by
  obtain ⟨v0, h1, h2⟩ := s.at_ i _ hx
  have hl := (List.getElem?_eq_some_iff.mp hx).1
  cases hs : κ i with
  | dc => rw [hs] at hk; cases hk
  | dk => rw [hs] at hk; cases hk
  | er _ _ => rw [hs] at hk; cases hk
  | im => rw [hs] at hk; cases hk
  | mu _ => rw [hs] at hk; cases hk
  | tp _ => rw [hs] at hk; cases hk
  | rc ss =>
    have hk : ss[k]? = some sh := by rw [hs] at hk; exact hk
    rw [hs] at h2
    generalize hφ : φ i = f at h2
    cases h2 with
    | rc e t =>
      rename_i a vs f
      obtain ⟨v, g1, fk, g2, p1, p2, p3, p4⟩ := Owns.at t hk hd
      have nd : (a :: f).Nodup := hφ ▸ s.nod i
      have inf : ∀ b ∈ fk, b ∈ f := fun b hb => by rw [p2]; simp [hb]
      have apart : ∀ b ∈ fk, b ∉ g1 ++ g2 := fun b hb hm => by
        have nd2 := (List.nodup_cons.mp nd).2
        rw [p2] at nd2
        rcases List.mem_append.mp hm with h | h
        · exact (List.nodup_append.mp (List.nodup_append.mp nd2).1).2.2 b h b hb rfl
        · exact (List.nodup_append.mp nd2).2.2 b (by simp [hb]) b h rfl
      have nea : ∀ b ∈ f, b ≠ a := fun b hb e => (List.nodup_cons.mp nd).1 (e ▸ hb)
      refine ⟨a, vs, v, fk, h1, e, p1, p3, fun b hb => ⟨List.mem_cons_of_mem _ (inf b hb), nea b (inf b hb)⟩, List.mem_cons_self, fun b ws d' hb ow => ?_, fun v' d' him rp => ?_⟩
      · have hbi : b ∈ φ i := by rw [hφ]; exact List.mem_cons_of_mem _ (inf b hb)
        refine s.write h1 hl hbi ?_
        rw [hs, hφ]
        have gr : Grow ω H ω (upd H b (.lst ws)) := own_grow s.wf (s.sub b ⟨i, hbi⟩)
        have t' := p4 ω _ v d' gr (fun c hc => upd_ne (fun e => apart b hb (by rw [← e]; exact hc))) ow
        have hvs : vs.set k v = vs := List.ext_getElem? fun j => by
          by_cases ej : k = j
          · subst ej
            rw [List.getElem?_set_self (List.getElem?_eq_some_iff.mp p1).1, p1]
          · rw [List.getElem?_set_ne ej]
        rw [hvs] at t'
        exact .rc (by rw [upd_ne (fun e => nea b (inf b hb) e.symm)]; exact e) t'
      · subst him
        obtain ⟨_, efk⟩ := p3.im_inv
        have hai : a ∈ φ i := by rw [hφ]; simp
        refine s.write h1 hl hai ?_
        rw [hs, hφ]
        have gr : Grow ω H ω (upd H a (.lst (vs.set k v'))) := own_grow s.wf (s.sub a ⟨i, hai⟩)
        have t' := p4 ω _ v' d' gr (fun c hc => upd_ne (nea c (by rw [p2]; rcases List.mem_append.mp hc with h | h <;> simp [h]))) (by rw [efk]; exact .im (Rep.up rp gr))
        exact .rc upd_same t'
end
section
variable {X : Cx} {G : Gm} {e a b : Expr} {es : List Expr} {pos p p2 apos cpos : Pos} {y : Str} {py : Pos} {j1 : Nat}
/-- x[k], of a slot's list of unlike things, a value -/
def mAt (i k : Nat) : Em := fun δ => itemAt δ i k >>= fun d => .ok (d, δ)
abbrev Um := Dl → Rs D
def uAt (i k : Nat) : Um := fun δ => itemAt δ i k
def uC (d : D) : Um := fun _ => .ok d
def mUB (g : D → D → Rs D) (f h : Um) : Em := fun δ => f δ >>= fun d => h δ >>= fun e => g d e >>= fun z => .ok (z, δ)
/-- x[k].pop() -/
def mPopIn (i k : Nat) : Em := fun δ => itemAt δ i k >>= fun d => (match d with | .list xs => .ok xs | _ => .no) >>= fun xs => optR xs.getLast? >>= fun z => putAt δ i k (.list xs.dropLast) >>= fun δ' => .ok (z, δ')
end
section
variable {X : Cx} {G : Gs} {σ0 : L2.St} {e : Expr} {pos p p2 apos cpos : Pos} {y : Str} {py : Pos} {j1 : Nat}
def vB (g : D → D → Rs D) (f h : Um) : Um := fun δ => f δ >>= fun d => h δ >>= fun e => g d e
/-- x[k].append(e) -/
def pAppIn (i k : Nat) (g : Um) : Pm := fun δ => itemAt δ i k >>= fun d => (match d with | .list xs => .ok xs | _ => .no) >>= fun xs => g δ >>= fun z => if xs.length < sizeLine then putAt δ i k (.list (xs ++ [z])) >>= fun δ' => .ok (.nx, δ') else .no
/-- x[k] = e -/
def pPutAt (i k : Nat) (m : Em) : Pm := fun δ => m δ >>= fun r => itemAt r.2 i k >>= fun _ => putAt r.2 i k r.1 >>= fun δ' => .ok (.nx, δ')
end
end Zd
namespace Zd
open PySem PySem.Spec
open PyProof.Rows L2
structure Hs (P : Program) (w : World) (K : PySem.W.Frag) (mg : Str → Option Value) (base : Heap) (k : Nat) (x : Str) (st : Stmt) (ps : List Str) (sp : Sp) : Prop where
  ex : ∃ f fd, Fun K x x st f fd ∧ mg x = some (.ref f) ∧ Binds K fd ps [] ∧ FnOk P w K mg base (L2.CX P w) k f fd ps sp
/-- what is known of a def before its promise -/
structure Df (K : PySem.W.Frag) (mg : Str → Option Value) (x : Str) (st : Stmt) (ps : List Str) (f : Addr) (fd : FuncData) : Prop where
  fn : Fun K x x st f fd
  at_ : mg x = some (.ref f)
  bd : Binds K fd ps []
theorem Df.hs {P : Program} {w : World} {K : PySem.W.Frag} {mg : Str → Option Value} {base : Heap} {k : Nat} {x : Str} {st : Stmt} {ps : List Str} {f : Addr} {fd : FuncData} {sp : Sp} (d : Df K mg x st ps f fd) (h : FnOk P w K mg base (L2.CX P w) k f fd ps sp) : Hs P w K mg base k x st ps sp := ⟨f, fd, d.fn, d.at_, d.bd, h⟩
theorem fnok_no {P : Program} {w : World} {K : PySem.W.Frag} {mg : Str → Option Value} {base : Heap} {k : Nat} {f : Addr} {fd : FuncData} {ps : List Str} {cls : Cl} {s : Sh} {n : Nat} : FnOk P w K mg base (L2.CX P w) k f fd ps (spP K cls s n fun _ => .no) :=
  ⟨fun _ _ _ _ ⟨_, _, _, _, _, z⟩ => z.elim, fun _ _ _ _ _ _ _ _ _ _ _ _ _ ⟨_, _, _, _, _, z⟩ => z.elim⟩
section
variable {X : Cx} {G : Gm} {k j : Nat} {st : Stmt} {ps : List Str} {x : Str} {p pos : Pos} {e : Expr} {es : List Expr}
theorem hc {n : Nat} {F : List D → Rs D} {s : Sh} {m : Sm} (h : Hs X.prog X.w X.K X.mg X.base k x st ps (spP G.K G.cls s n F)) (hr : Room j X.A) (hkj : k ≤ j) (hx : Passes (L2.CX X.prog X.w) X G.E) (ha : PA X (e :: es) (tS G m)) (hl : Len n m)
    (hn : ps.length = n := by rfl) (hg : Gl X x := by rfl) (hdb : (x == ("__debug__" : Str)) = false := by decide) (he : starEach (e :: es) X.env = (false, eval e X.env) :: starEach es X.env := by rfl) (hpl : (backTo pos (starEach es X.env)).any (·.1) = false := by rfl) :
    PE X (.Call (.Name x p) (e :: es) [] pos) (tO G s (mCall F m)) := by
  obtain ⟨f, fd, F1, hm, hb, hf⟩ := h.ex
  exact xcO hf (hr.mono hkj) hm F1.kp hb hx ha hl hn hg hdb he hpl
theorem hc0 {F : List D → Rs D} {s : Sh} (h : Hs X.prog X.w X.K X.mg X.base k x st ps (spP G.K G.cls s 0 F)) (hr : Room j X.A) (hkj : k ≤ j) (hx : Passes (L2.CX X.prog X.w) X G.E)
    (hn : ps.length = 0 := by rfl) (hg : Gl X x := by rfl) (hdb : (x == ("__debug__" : Str)) = false := by decide) : PE X (.Call (.Name x p) [] [] pos) (tO G s (mCall F sNil)) := by
  obtain ⟨f, fd, F1, hm, hb, hf⟩ := h.ex
  exact xc0 hf (hr.mono hkj) hm F1.kp hb hx hn hg hdb
end
def pick {α : Type} (js : List Nat) (l : List α) : List α := js.filterMap (l[·]?)
def mCallK (js : List Nat) (F : List D → Rs D) (m n : Sm) : Em := fun δ => m δ >>= fun r => n r.2 >>= fun q => F (pick js (r.1 ++ q.1)) >>= fun d => .ok (d, q.2)
section
variable {X : Cx} {G : Gm} {k j : Nat} {st : Stmt} {ps ks : List Str} {x : Str} {p pos kpos : Pos} {e : Expr} {es : List Expr} {kws : List Keyword} {nm : Option Str}
theorem pk_if {t t' : TA} (h : PK X kws t) (w : ∀ σ H Q, t' σ H Q → t σ H Q) : PK X kws t' := ⟨fun pos pins s σ H Q I q => h.run pos pins s σ H Q I (w σ H Q q)⟩
theorem kn : PK X [] (tS G sNil) := pk_if pk_nil fun σ H Q ⟨ω, δ, φ, s, o⟩ => o ω H φ [] s.refl s .nil
theorem kc {m : Em} {n : Sm} (h : PE X e (tI G m)) (hr : PK X kws (tS G n)) : PK X (⟨nm, e, kpos⟩ :: kws) (tS G (sCons m n)) := by
  refine pk_if (pk_cons h hr) fun σ H Q ⟨ω, δ, φ, s, o⟩ => ⟨ω, δ, φ, s, (Out.bind o).mono (fun r h1 ω' H' φ' v st s' rp => ⟨ω', r.2, φ', s', (Out.bind h1).mono (fun q hq ω2 H2 φ2 vs st2 s2 r2 => ?_) fun _ _ z => z.up st⟩) fun _ _ z => z⟩
  exact hq ω2 H2 φ2 (v :: vs) (st.trans st2) s2 (.cons (Rep.up rp st2.grow) r2)
end
section
variable {X : Cx} {G : Gs} {σ0 : L2.St} {c : Expr} {a : List Stmt} {pos : Pos}
theorem psu {N : List Str} {P : Program} {w : World} {K : PySem.W.Frag} {mg : Str → Option Value} {base : Heap} {qual : Str} {scope : Scope} {f : Addr} {cd : Value} {A : Around} {outer : List Env} {s : Shared} {H : Hp} {E : XK} : PassesOwn (model P w) (cxOf (L2.CX P w) P w K mg base N qual scope f cd A outer s H E).A (cxOf (L2.CX P w) P w K mg base N qual scope f cd A outer s H E).env (cxOf (L2.CX P w) P w K mg base N qual scope f cd A outer s H E).xe :=
  passes_of (X := cxOf (L2.CX P w) P w K mg base N qual scope f cd A outer s H E) rfl
end
def mRc2 (m n : Em) : Em := fun δ => m δ >>= fun r => n r.2 >>= fun q => .ok (.list [r.1, q.1], q.2)
theorem psx {P : Program} {w : World} {K : PySem.W.Frag} {mg : Str → Option Value} {base : Heap} {N : List Str} {qual : Str} {scope : Scope} {f : Addr} {cd : Value} {A : Around} {outer : List Env} {s : Shared} {H : Hp} {E : XK} : Passes (L2.CX P w) (cxOf (L2.CX P w) P w K mg base N qual scope f cd A outer s H E) E := passes_cx (ps := [])
def noL (K : PySem.W.Frag) : Bool := K.all fun p => !(p.2.cls == Value.type "list")
theorem mem_lk {o : Obj} {a : Addr} : ∀ {K : PySem.W.Frag}, K.lookup a = some o → (a, o) ∈ K
  | [], h => by cases h
  | (b, p) :: K, h => by
    rw [List.lookup_cons] at h
    by_cases e : (a == b) = true
    · rw [e] at h
      have e2 : a = b := by simpa using e
      subst e2
      cases h
      exact List.mem_cons_self
    · rw [Bool.not_eq_true] at e
      rw [e] at h
      exact List.mem_cons_of_mem _ (mem_lk h)
theorem noL_at {K : PySem.W.Frag} (h : noL K = true) {a : Addr} {o : Obj} (e : K.lookup a = some o) : o.cls ≠ .type "list" := by
  have m := mem_lk e
  have := List.all_eq_true.mp h _ m
  intro z
  rw [z] at this
  simp at this
theorem reps_ints {K : PySem.W.Frag} {ω : Om} {H : Hp} : ∀ ns : List Int, Reps K ω H (ns.map V.int) (ns.map PyData.int)
  | [] => .nil
  | n :: ns => .cons (.int n) (reps_ints ns)
theorem top_ok {K : PySem.W.Frag} {cls : Cl} {r : List D → Rs D} (hK : noL K = true) (hr : ∀ ns : List Int, ns.length ≤ 63 → r [.list (ns.map .int)] = .ok (.bool true)) {H : Hp} {a : Addr} {ns : List Int} (hl : ns.length ≤ 63) (hO : Only H) (hS : SqL K H a (ns.map V.int)) :
    spP K cls .im 1 r [.ref a] H (fun v _ => v = .bl true) (fun _ _ _ => False) := by
  refine ⟨rfl, fun _ => False, [.list (ns.map .int)], fun _ z => z.elim, ?_, ?_⟩
  · rcases hS with hS | ⟨o, its, n, h1, h2, _⟩
    · exact .cons (.lst ⟨hS, fun z => z⟩ (reps_ints ns)) .nil
    · exact absurd h2 (noL_at hK h1)
  · rw [hr ns hl]
    intro ω' H' v f _ _ ow _ _
    have := ow.im_inv.1
    cases this
    rfl
end Zd
namespace Zd
open PySem PySem.Spec
open PyProof.Rows L2
theorem bool_b (b : Bool) : bool (.bool b) = .ok b := rfl
theorem if_pos_t {α : Type} (x y : α) : (if true = true then x else y) = x := rfl
theorem if_false_b {α : Type} (x y : α) : (if false = true then x else y) = y := rfl
theorem ite_tt {α : Type} (x y : α) : (if True then x else y) = x := if_pos trivial
theorem if_true {α : Type} (x y : α) : (if False then x else y) = y := if_neg fun z => z
theorem atI0 {α : Type} (x : α) (xs : List α) : atI (x :: xs) 0 = some x := atI_nat (j := 0) rfl
theorem atI1 {α : Type} (x y : α) (xs : List α) : atI (x :: y :: xs) 1 = some y := atI_nat (j := 1) rfl
theorem atI2 {α : Type} (x y z : α) (xs : List α) : atI (x :: y :: z :: xs) 2 = some z := atI_nat (j := 2) rfl
theorem eqv_i (a b : Int) : PyData.eqv (.int a) (.int b) = (a == b) := by rw [PyData.eqv]
theorem depth_i (a : Int) : (PyData.int a).depth = 0 := by rw [PyData.depth]; all_goals (intros; nofun)
theorem gEq_i (a b : Int) : gEq (.int a) (.int b) = .ok (.bool (a == b)) := by
  unfold gEq
  rw [depth_i a, depth_i b, eqv_i, if_pos (.inl ⟨rfl, rfl, by decide⟩)]
theorem gNe_i (a b : Int) : gNe (.int a) (.int b) = .ok (.bool (!(a == b))) := by
  unfold gNe
  rw [depth_i a, depth_i b, eqv_i, if_pos (.inl ⟨rfl, rfl, by decide⟩)]
theorem depth_nil : (PyData.list []).depth = 1 := by rw [PyData.depth, PyData.depthAll]
theorem gEq_nil (xs : List D) : gEq (.list xs) (.list []) = .ok (.bool xs.isEmpty) := by
  unfold gEq
  cases xs with
  | nil => rw [if_pos (.inl ⟨rfl, rfl, by rw [depth_nil]; omega⟩), PyData.eqv, PyData.eqvAll]; rfl
  | cons x xs => rw [if_pos (.inr rfl), PyData.eqv, PyData.eqvAll]; rfl; all_goals nofun
/-- a run that ends well -/
abbrev Ok {α : Type} (r : Rs α) (q : α → Prop) : Prop := ∃ a, r = .ok a ∧ q a
theorem loopF_ok {t : Tg} {m : Pm} {I : Dl → Prop} : ∀ (ds : List D) (δ : Dl), (∀ d ∈ ds, ∀ δ, I δ → ∃ δ1, t d δ = .ok δ1 ∧ Ok (m δ1) fun r => (r.1 = .nx ∨ r.1 = .ct) ∧ I r.2) → I δ → Ok (loopF t m ds δ) fun r => r.1 = .nx ∧ I r.2
  | [], δ, _, h => ⟨_, rfl, rfl, h⟩
  | d :: ds, δ, h, hi => by
    obtain ⟨δ1, e1, r, e2, e3, e4⟩ := h d List.mem_cons_self δ hi
    obtain ⟨a, e5, e6⟩ := loopF_ok ds r.2 (fun d hd => h d (List.mem_cons_of_mem _ hd)) e4
    refine ⟨a, ?_, e6⟩
    unfold loopF
    rw [e1, ok_bind, e2, ok_bind]
    rcases e3 with e3 | e3 <;> simpa only [e3] using e5
theorem pFor_ok {w : Sm} {t : Tg} {m : Pm} {I : Dl → Prop} {δ : Dl} {ds : List D} {δ0 : Dl} (hw : w δ = .ok (ds, δ0)) (h : ∀ d ∈ ds, ∀ δ, I δ → ∃ δ1, t d δ = .ok δ1 ∧ Ok (m δ1) fun r => (r.1 = .nx ∨ r.1 = .ct) ∧ I r.2) (hi : I δ0) : ∃ δ1, pFor w t m δ = .ok (.nx, δ1) ∧ I δ1 := by
  obtain ⟨⟨f, δ1⟩, e, e1, e2⟩ := loopF_ok ds δ0 h hi
  refine ⟨δ1, ?_, e2⟩
  unfold pFor
  rw [hw, ok_bind, e]
  cases e1
  rfl
theorem pSeq_nx {m n : Pm} {δ δ1 : Dl} (h : m δ = .ok (.nx, δ1)) : pSeq m n δ = n δ1 := by
  unfold pSeq
  rw [h, ok_bind]
theorem pSeq_rt {m n : Pm} {δ δ1 : Dl} {d : D} (h : m δ = .ok (.rt d, δ1)) : pSeq m n δ = .ok (.rt d, δ1) := by
  unfold pSeq
  rw [h, ok_bind]
theorem pIf_t {t : Tm} {m n : Pm} {δ δ1 : Dl} (h : t δ = .ok (true, δ1)) : pIf t m n δ = m δ1 := by
  unfold pIf
  rw [h, ok_bind]
  rfl
theorem pIf_f {t : Tm} {m n : Pm} {δ δ1 : Dl} (h : t δ = .ok (false, δ1)) : pIf t m n δ = n δ1 := by
  unfold pIf
  rw [h, ok_bind]
  rfl
theorem pRet_of {m : Em} {δ δ1 : Dl} {d : D} (h : m δ = .ok (d, δ1)) : pRet m δ = .ok (.rt d, δ1) := by
  unfold pRet
  rw [h, ok_bind]
theorem mB_of {g : D → D → Rs D} {m n : Em} {δ δ1 δ2 : Dl} {d e z : D} (h : m δ = .ok (d, δ1)) (h2 : n δ1 = .ok (e, δ2)) (hg : g d e = .ok z) : mB g (vA m) (vA n) δ = .ok (z, δ2) := by
  simp only [mB, vA, h, h2, hg, get, ok_bind]
theorem sCons_of {m : Em} {n : Sm} {δ δ1 δ2 : Dl} {d : D} {ds : List D} (h : m δ = .ok (d, δ1)) (h2 : n δ1 = .ok (ds, δ2)) : sCons m n δ = .ok (d :: ds, δ2) := by
  simp only [sCons, h, h2, ok_bind]
theorem mCall_of {F : List D → Rs D} {m : Sm} {δ δ1 : Dl} {ds : List D} {d : D} (h : m δ = .ok (ds, δ1)) (hf : F ds = .ok d) : mCall F m δ = .ok (d, δ1) := by
  simp only [mCall, h, hf, ok_bind]
theorem mTr_of {m : Em} {δ δ1 : Dl} {b : Bool} (h : m δ = .ok (.bool b, δ1)) : mTr (vA m) δ = .ok (b, δ1) := by
  simp only [mTr, vA, h, get, tru, ok_bind]
theorem mNot_of {t : Tm} {δ δ1 : Dl} {b : Bool} (h : t δ = .ok (b, δ1)) : mNot t δ = .ok (!b, δ1) := by
  simp only [mNot, h, ok_bind]
theorem mOr_ff {t u : Tm} {δ δ1 δ2 : Dl} {b : Bool} (h : t δ = .ok (false, δ1)) (h2 : u δ1 = .ok (b, δ2)) : mOr t u δ = .ok (b, δ2) := by
  unfold mOr
  rw [h, ok_bind]
  exact h2
/-- not same: no -/
theorem same_no {e f : Em} {δ δ1 δ2 : Dl} {d : D} (h : e δ = .ok (d, δ1)) (h2 : f δ1 = .ok (d, δ2)) {R : List D → Rs D} (hs : R [d, d] = .ok (.bool true)) : mNot (mTr (vA (mCall R (sCons e (sCons f sNil))))) δ = .ok (false, δ2) :=
  mNot_of (b := true) (mTr_of (mCall_of (sCons_of h (sCons_of h2 rfl)) hs))
theorem fComp_of {vs : List Nat} {w : Sm} {t : Tg} {c : Tm} {e : Em} {δ δ1 δ2 : Dl} {xs ys : List D} (hw : w δ = .ok (xs, δ1)) (hl : xs.length ≤ sizeLine) (h : compF vs t c e xs δ1 = .ok (ys, δ2)) : eF (fComp vs w t c e) δ = .ok (.list ys, δ2) := by
  simp only [eF, fComp, hw, h, if_pos hl, nox, ok_bind]
/-- a comprehension that keeps all it makes, with f what it makes -/
theorem compF_map {vs : List Nat} {t : Tg} {c : Tm} {e : Em} {I : Dl → Prop} (f : D → D) (p : D → Bool) : ∀ (ds : List D) (δ : Dl),
    (∀ d ∈ ds, ∀ δ, I δ → ∃ δ1 δ2, t d (wipeD δ vs) = .ok δ1 ∧ c δ1 = .ok (p d, δ2) ∧ (p d = false → I (back δ δ2 vs)) ∧ (p d = true → ∃ δ3, e δ2 = .ok (f d, δ3) ∧ I (back δ δ3 vs))) → I δ →
    ∃ δ', compF vs t c e ds δ = .ok ((ds.filter p).map f, δ') ∧ I δ'
  | [], δ, _, h => ⟨δ, rfl, h⟩
  | d :: ds, δ, h, hi => by
    obtain ⟨δ1, δ2, e1, e2, e3, e4⟩ := h d List.mem_cons_self δ hi
    unfold compF
    rw [e1, ok_bind, e2, ok_bind]
    cases hp : p d with
    | false =>
      obtain ⟨δ', e5, e6⟩ := compF_map f p ds _ (fun d hd => h d (List.mem_cons_of_mem _ hd)) (e3 hp)
      exact ⟨δ', by rw [if_neg (by simp), e5, List.filter_cons_of_neg (by simp [hp])], e6⟩
    | true =>
      obtain ⟨δ3, e5, e6⟩ := e4 hp
      obtain ⟨δ', e7, e8⟩ := compF_map f p ds _ (fun d hd => h d (List.mem_cons_of_mem _ hd)) e6
      refine ⟨δ', ?_, e8⟩
      rw [if_pos rfl, e5, ok_bind, e7, List.filter_cons_of_pos (by simp [hp])]
      rfl
theorem wRng_of {m : Sm} {δ δ1 : Dl} {j : Int} (h : m δ = .ok ([.int j], δ1)) (h0 : 0 ≤ j) (h1 : j ≤ 1000000) : wRng m δ = .ok ((List.range j.toNat).map fun i => .int (i : Nat), δ1) := by
  have c : -(2 ^ 62) ≤ j ∧ j < 2 ^ 62 := ⟨by omega, by omega⟩
  unfold wRng
  rw [h]
  exact if_pos c
end Zd
namespace Zd
open PySem PySem.Spec
open PyProof.Rows L2
noncomputable def b_law_same (rec : List D → Rs D) : Pm := (pSeq (pIf (mTr (vA (mU (gIsi isTup) (vA (mV 1))))) (pSeq (pIf (mOr (mNot (mTr (vA (mU (gIsi isTup) (vA (mV 0)))))) (mT (mB gNe (vA (mL gLen (lCons (vA (mV 0)) lNil))) (vA (mL gLen (lCons (vA (mV 1)) lNil)))))) (pRet (mC (.bool false))) pNil)
    (pRet (mB gEq (vA (eF (fComp [2, 3] (wZip (sCons (mV 0) (sCons (mV 1) sNil))) (gT 2 (gC (gN 2) (gC (gN 3) gE))) (mNot (mTr (vA (mCall rec (sCons (mV 2) (sCons (mV 3) sNil)))))) (mC (.int 0))))) (vA (eF (fLst sNil)))))) pNil)
    (pSeq (pIf (mT (mB gIs (vA (mV 1)) (vA (mC .none)))) (pRet (mB gIs (vA (mV 0)) (vA (mC .none)))) pNil)
    (pSeq (pIf (mT (mB gIs (vA (mV 1)) (vA (mC (.bool true))))) (pRet (mB gIs (vA (mV 0)) (vA (mC (.bool true))))) pNil)
    (pSeq (pIf (mT (mB gIs (vA (mV 1)) (vA (mC (.bool false))))) (pRet (mB gIs (vA (mV 0)) (vA (mC (.bool false))))) pNil)
    (pSeq (pIf (mTr (vA (mU (gIsi isInt) (vA (mV 1))))) (pRet (eAnd (mU (gIsi isInt) (vA (mV 0))) (eAnd (eNot (mU (gIsi isBool) (vA (mV 0)))) (mB gEq (vA (mV 0)) (vA (mV 1)))))) pNil)
    (pRet (eAnd (mU (gIsi isStr) (vA (mV 0))) (mB gEq (vA (mV 0)) (vA (mV 1))))))))))
noncomputable def r_law_same : Nat → List D → Rs D
  | 0 => fun _ => .no
  | n + 1 => runP (.im) 4 (b_law_same (r_law_same n))
def good : Nat → D → Bool
  | _, .none => true
  | _, .bool _ => true
  | _, .int _ => true
  | _, .str _ => true
  | n + 1, .tuple xs => decide (xs.length ≤ 1000) && xs.all (good n)
  | _, _ => false
theorem depth_s (x : Str) : (PyData.str x).depth = 0 := by rw [PyData.depth]; all_goals (intros; nofun)
theorem gEq_s (a b : Str) : gEq (.str a) (.str b) = .ok (.bool (a == b)) := by
  unfold gEq
  rw [depth_s a, depth_s b, PyData.eqv, if_pos (.inl ⟨rfl, rfl, by decide⟩)]
theorem run4 (m : Pm) (v due : D) : runP .im 4 m [v, due] = (m [some v, some due, none, none] >>= fun r => flo .im r.1) := rfl
/-- which pairs are not the same -/
def notSame (q : D → D → Bool) : D → Bool
  | .tuple [x, y] => !q x y
  | _ => false
theorem pairs_same {q : D → D → Bool} : ∀ {xs ys : List D}, xs.length = ys.length → (∀ y ∈ ys, ∀ x, (q x y = true ↔ x = y)) → ((((pairs xs ys).filter (notSame q)).map fun _ => (PyData.int 0)).isEmpty = true ↔ xs = ys)
  | [], [], _, _ => by simp [pairs]
  | [], _ :: _, h, _ => absurd h (by simp)
  | _ :: _, [], h, _ => absurd h (by simp)
  | x :: xs, y :: ys, h, hq => by
    have ih := pairs_same (xs := xs) (ys := ys) (by simpa using h) fun y hy => hq y (List.mem_cons_of_mem _ hy)
    have hy := hq y List.mem_cons_self x
    by_cases e : q x y = true
    · rw [pairs, List.filter_cons_of_neg (by simp [notSame, e])]
      rw [ih, hy.mp e]
      simp
    · rw [pairs, List.filter_cons_of_pos (by simp [notSame, e])]
      constructor
      · intro z; simp at z
      · intro z
        cases z
        exact absurd (hy.mpr rfl) e
theorem pairs_mem : ∀ {xs ys : List D} {d : D}, d ∈ pairs xs ys → ∃ x y, d = .tuple [x, y] ∧ x ∈ xs ∧ y ∈ ys
  | [], _, _, h => by simp [pairs] at h
  | _ :: _, [], _, h => by simp [pairs] at h
  | x :: xs, y :: ys, d, h => by
    rw [pairs] at h
    rcases (List.mem_cons.mp h) with rfl | h
    · exact ⟨x, y, rfl, List.mem_cons_self, List.mem_cons_self⟩
    · obtain ⟨a, b, e, h1, h2⟩ := pairs_mem h
      exact ⟨a, b, e, List.mem_cons_of_mem _ h1, List.mem_cons_of_mem _ h2⟩
theorem same_ok : ∀ (n : Nat) (v due : D), good n due = true → ∃ b, r_law_same (n + 1) [v, due] = .ok (.bool b) ∧ (b = true ↔ v = due)
  | n, v, .none, _ => by
    refine ⟨isNo v, ?_, by cases v <;> simp [isNo]⟩
    rw [r_law_same, run4, b_law_same]
    simp only [mV, mC, vA, rA, get, gets, mU, mB, mL, lNil, lCons, eF, bool_b, mT, mTr, mNot, mAnd, mOr, eNot, eAnd, eOr, mIf, sNil, sCons, mTup, fLst, mM, pNil, pSeq, pBk, pCt, pIf, pRet, put, pSet, pEx, gN, gE, gC, gT, pAs, pPar, pFor, fComp, tmY, flo, gAdd, gSub, gMul, gDiv, gMod, gPow, gNeg, gLt, gLe, gGt, gGe, gIs, gIsN, isNo, isBo, gIx, optR, oN, oS, toI, wSeq, seqOf, wZip, listAt, mApp, mPop, mPopAt, mAt, uAt, uC, mUB, mPopIn, vB, pAppIn, pPutAt, itemAt, putAt, mCall, mCallM, mCallK, mRc2, gIsi, isInt, isBool, isStr, isTup, isList, gLen, gAbs, gInt, gGcd, gMax, gMin, gTup, tru, ok_bind, no_bind, ex_bind, List.getElem?_cons_succ, List.getElem?_cons_zero, List.set_cons_succ, List.set_cons_zero, List.length_cons, List.length_nil, Nat.reduceAdd, Nat.reduceLT, Nat.reduceLeDiff, Nat.zero_add, if_true, if_pos_t, if_false_b, ite_tt, atI0, atI1, atI2, Bool.not_true, Bool.not_false, gEq_i, gNe_i, List.map_cons, List.map_nil, List.append_nil, List.nil_append, List.cons_append, List.replicate]
  | n, v, .bool true, _ => by
    refine ⟨isBo true v, ?_, by cases v <;> simp [isBo]⟩
    rw [r_law_same, run4, b_law_same]
    simp only [decide_true, decide_false, Bool.false_eq_true, Bool.true_eq_false, decide_eq_true_eq, mV, mC, vA, rA, get, gets, mU, mB, mL, lNil, lCons, eF, bool_b, mT, mTr, mNot, mAnd, mOr, eNot, eAnd, eOr, mIf, sNil, sCons, mTup, fLst, mM, pNil, pSeq, pBk, pCt, pIf, pRet, put, pSet, pEx, gN, gE, gC, gT, pAs, pPar, pFor, fComp, tmY, flo, gAdd, gSub, gMul, gDiv, gMod, gPow, gNeg, gLt, gLe, gGt, gGe, gIs, gIsN, isNo, isBo, gIx, optR, oN, oS, toI, wSeq, seqOf, wZip, listAt, mApp, mPop, mPopAt, mAt, uAt, uC, mUB, mPopIn, vB, pAppIn, pPutAt, itemAt, putAt, mCall, mCallM, mCallK, mRc2, gIsi, isInt, isBool, isStr, isTup, isList, gLen, gAbs, gInt, gGcd, gMax, gMin, gTup, tru, ok_bind, no_bind, ex_bind, List.getElem?_cons_succ, List.getElem?_cons_zero, List.set_cons_succ, List.set_cons_zero, List.length_cons, List.length_nil, Nat.reduceAdd, Nat.reduceLT, Nat.reduceLeDiff, Nat.zero_add, if_true, if_pos_t, if_false_b, ite_tt, atI0, atI1, atI2, Bool.not_true, Bool.not_false, gEq_i, gNe_i, List.map_cons, List.map_nil, List.append_nil, List.nil_append, List.cons_append, List.replicate]
  | n, v, .bool false, _ => by
    refine ⟨isBo false v, ?_, by cases v <;> simp [isBo]⟩
    rw [r_law_same, run4, b_law_same]
    simp only [decide_true, decide_false, Bool.false_eq_true, Bool.true_eq_false, decide_eq_true_eq, mV, mC, vA, rA, get, gets, mU, mB, mL, lNil, lCons, eF, bool_b, mT, mTr, mNot, mAnd, mOr, eNot, eAnd, eOr, mIf, sNil, sCons, mTup, fLst, mM, pNil, pSeq, pBk, pCt, pIf, pRet, put, pSet, pEx, gN, gE, gC, gT, pAs, pPar, pFor, fComp, tmY, flo, gAdd, gSub, gMul, gDiv, gMod, gPow, gNeg, gLt, gLe, gGt, gGe, gIs, gIsN, isNo, isBo, gIx, optR, oN, oS, toI, wSeq, seqOf, wZip, listAt, mApp, mPop, mPopAt, mAt, uAt, uC, mUB, mPopIn, vB, pAppIn, pPutAt, itemAt, putAt, mCall, mCallM, mCallK, mRc2, gIsi, isInt, isBool, isStr, isTup, isList, gLen, gAbs, gInt, gGcd, gMax, gMin, gTup, tru, ok_bind, no_bind, ex_bind, List.getElem?_cons_succ, List.getElem?_cons_zero, List.set_cons_succ, List.set_cons_zero, List.length_cons, List.length_nil, Nat.reduceAdd, Nat.reduceLT, Nat.reduceLeDiff, Nat.zero_add, if_true, if_pos_t, if_false_b, ite_tt, atI0, atI1, atI2, Bool.not_true, Bool.not_false, gEq_i, gNe_i, List.map_cons, List.map_nil, List.append_nil, List.nil_append, List.cons_append, List.replicate]
  | n, v, .int i, _ => by
    rw [r_law_same, run4, b_law_same]
    cases v with
    | int j => exact ⟨j == i, by simp only [mV, mC, vA, rA, get, gets, mU, mB, mL, lNil, lCons, eF, bool_b, mT, mTr, mNot, mAnd, mOr, eNot, eAnd, eOr, mIf, sNil, sCons, mTup, fLst, mM, pNil, pSeq, pBk, pCt, pIf, pRet, put, pSet, pEx, gN, gE, gC, gT, pAs, pPar, pFor, fComp, tmY, flo, gAdd, gSub, gMul, gDiv, gMod, gPow, gNeg, gLt, gLe, gGt, gGe, gIs, gIsN, isNo, isBo, gIx, optR, oN, oS, toI, wSeq, seqOf, wZip, listAt, mApp, mPop, mPopAt, mAt, uAt, uC, mUB, mPopIn, vB, pAppIn, pPutAt, itemAt, putAt, mCall, mCallM, mCallK, mRc2, gIsi, isInt, isBool, isStr, isTup, isList, gLen, gAbs, gInt, gGcd, gMax, gMin, gTup, tru, ok_bind, no_bind, ex_bind, List.getElem?_cons_succ, List.getElem?_cons_zero, List.set_cons_succ, List.set_cons_zero, List.length_cons, List.length_nil, Nat.reduceAdd, Nat.reduceLT, Nat.reduceLeDiff, Nat.zero_add, if_true, if_pos_t, if_false_b, ite_tt, atI0, atI1, atI2, Bool.not_true, Bool.not_false, gEq_i, gNe_i, List.map_cons, List.map_nil, List.append_nil, List.nil_append, List.cons_append, List.replicate], by simp⟩
    | _ => exact ⟨false, by simp only [mV, mC, vA, rA, get, gets, mU, mB, mL, lNil, lCons, eF, bool_b, mT, mTr, mNot, mAnd, mOr, eNot, eAnd, eOr, mIf, sNil, sCons, mTup, fLst, mM, pNil, pSeq, pBk, pCt, pIf, pRet, put, pSet, pEx, gN, gE, gC, gT, pAs, pPar, pFor, fComp, tmY, flo, gAdd, gSub, gMul, gDiv, gMod, gPow, gNeg, gLt, gLe, gGt, gGe, gIs, gIsN, isNo, isBo, gIx, optR, oN, oS, toI, wSeq, seqOf, wZip, listAt, mApp, mPop, mPopAt, mAt, uAt, uC, mUB, mPopIn, vB, pAppIn, pPutAt, itemAt, putAt, mCall, mCallM, mCallK, mRc2, gIsi, isInt, isBool, isStr, isTup, isList, gLen, gAbs, gInt, gGcd, gMax, gMin, gTup, tru, ok_bind, no_bind, ex_bind, List.getElem?_cons_succ, List.getElem?_cons_zero, List.set_cons_succ, List.set_cons_zero, List.length_cons, List.length_nil, Nat.reduceAdd, Nat.reduceLT, Nat.reduceLeDiff, Nat.zero_add, if_true, if_pos_t, if_false_b, ite_tt, atI0, atI1, atI2, Bool.not_true, Bool.not_false, gEq_i, gNe_i, List.map_cons, List.map_nil, List.append_nil, List.nil_append, List.cons_append, List.replicate], by simp⟩
  | n, v, .str i, _ => by
    rw [r_law_same, run4, b_law_same]
    cases v with
    | str j => exact ⟨j == i, by simp only [gEq_s, mV, mC, vA, rA, get, gets, mU, mB, mL, lNil, lCons, eF, bool_b, mT, mTr, mNot, mAnd, mOr, eNot, eAnd, eOr, mIf, sNil, sCons, mTup, fLst, mM, pNil, pSeq, pBk, pCt, pIf, pRet, put, pSet, pEx, gN, gE, gC, gT, pAs, pPar, pFor, fComp, tmY, flo, gAdd, gSub, gMul, gDiv, gMod, gPow, gNeg, gLt, gLe, gGt, gGe, gIs, gIsN, isNo, isBo, gIx, optR, oN, oS, toI, wSeq, seqOf, wZip, listAt, mApp, mPop, mPopAt, mAt, uAt, uC, mUB, mPopIn, vB, pAppIn, pPutAt, itemAt, putAt, mCall, mCallM, mCallK, mRc2, gIsi, isInt, isBool, isStr, isTup, isList, gLen, gAbs, gInt, gGcd, gMax, gMin, gTup, tru, ok_bind, no_bind, ex_bind, List.getElem?_cons_succ, List.getElem?_cons_zero, List.set_cons_succ, List.set_cons_zero, List.length_cons, List.length_nil, Nat.reduceAdd, Nat.reduceLT, Nat.reduceLeDiff, Nat.zero_add, if_true, if_pos_t, if_false_b, ite_tt, atI0, atI1, atI2, Bool.not_true, Bool.not_false, gEq_i, gNe_i, List.map_cons, List.map_nil, List.append_nil, List.nil_append, List.cons_append, List.replicate], by simp⟩
    | _ => exact ⟨false, by simp only [mV, mC, vA, rA, get, gets, mU, mB, mL, lNil, lCons, eF, bool_b, mT, mTr, mNot, mAnd, mOr, eNot, eAnd, eOr, mIf, sNil, sCons, mTup, fLst, mM, pNil, pSeq, pBk, pCt, pIf, pRet, put, pSet, pEx, gN, gE, gC, gT, pAs, pPar, pFor, fComp, tmY, flo, gAdd, gSub, gMul, gDiv, gMod, gPow, gNeg, gLt, gLe, gGt, gGe, gIs, gIsN, isNo, isBo, gIx, optR, oN, oS, toI, wSeq, seqOf, wZip, listAt, mApp, mPop, mPopAt, mAt, uAt, uC, mUB, mPopIn, vB, pAppIn, pPutAt, itemAt, putAt, mCall, mCallM, mCallK, mRc2, gIsi, isInt, isBool, isStr, isTup, isList, gLen, gAbs, gInt, gGcd, gMax, gMin, gTup, tru, ok_bind, no_bind, ex_bind, List.getElem?_cons_succ, List.getElem?_cons_zero, List.set_cons_succ, List.set_cons_zero, List.length_cons, List.length_nil, Nat.reduceAdd, Nat.reduceLT, Nat.reduceLeDiff, Nat.zero_add, if_true, if_pos_t, if_false_b, ite_tt, atI0, atI1, atI2, Bool.not_true, Bool.not_false, gEq_i, gNe_i, List.map_cons, List.map_nil, List.append_nil, List.nil_append, List.cons_append, List.replicate], by simp⟩
  | n, v, .list xs, h => by cases n <;> simp [good] at h
  | n, v, .dict xs, h => by cases n <;> simp [good] at h
  | 0, v, .tuple ys, h => by simp [good] at h
  | n + 1, v, .tuple ys, h => by
    rw [r_law_same, run4, b_law_same]
    rw [good] at h
    obtain ⟨h1, h2⟩ := Bool.and_eq_true_iff.mp h
    have h1 := of_decide_eq_true h1
    have h2 := List.all_eq_true.mp h2
    cases v with
    | tuple xs =>
      by_cases hl : xs.length = ys.length
      · have el : ((xs.length : Int) == (ys.length : Int)) = true := by rw [hl]; simp
        let q : D → D → Bool := fun x y => match r_law_same (n + 1) [x, y] with
          | .ok (.bool b) => b
          | _ => false
        have hq : ∀ y ∈ ys, ∀ x, r_law_same (n + 1) [x, y] = .ok (.bool (q x y)) ∧ (q x y = true ↔ x = y) := fun y hy x => by
          obtain ⟨b, e, hb⟩ := same_ok n x y (h2 y hy)
          have : q x y = b := by simp only [q, e]
          rw [this]
          exact ⟨e, hb⟩
        let δ0 : Dl := [some (.tuple xs), some (.tuple ys), none, none]
        obtain ⟨δ', e1, rfl⟩ := compF_map (vs := [2, 3]) (t := gT 2 (gC (gN 2) (gC (gN 3) gE))) (c := mNot (mTr (vA (mCall (r_law_same (n + 1)) (sCons (mV 2) (sCons (mV 3) sNil)))))) (e := mC (.int 0)) (I := fun δ => δ = δ0) (fun _ => .int 0) (notSame q) (pairs xs ys) δ0 (fun d hd δ hδ => by
          subst hδ
          obtain ⟨x, y, rfl, hx, hy⟩ := pairs_mem hd
          refine ⟨[some (.tuple xs), some (.tuple ys), some x, some y], [some (.tuple xs), some (.tuple ys), some x, some y], ?_, ?_, fun _ => rfl, fun _ => ⟨_, rfl, rfl⟩⟩
          · simp only [δ0, wipeD, mV, mC, vA, rA, get, gets, mU, mB, mL, lNil, lCons, eF, bool_b, mT, mTr, mNot, mAnd, mOr, eNot, eAnd, eOr, mIf, sNil, sCons, mTup, fLst, mM, pNil, pSeq, pBk, pCt, pIf, pRet, put, pSet, pEx, gN, gE, gC, gT, pAs, pPar, pFor, fComp, tmY, flo, gAdd, gSub, gMul, gDiv, gMod, gPow, gNeg, gLt, gLe, gGt, gGe, gIs, gIsN, isNo, isBo, gIx, optR, oN, oS, toI, wSeq, seqOf, wZip, listAt, mApp, mPop, mPopAt, mAt, uAt, uC, mUB, mPopIn, vB, pAppIn, pPutAt, itemAt, putAt, mCall, mCallM, mCallK, mRc2, gIsi, isInt, isBool, isStr, isTup, isList, gLen, gAbs, gInt, gGcd, gMax, gMin, gTup, tru, ok_bind, no_bind, ex_bind, List.getElem?_cons_succ, List.getElem?_cons_zero, List.set_cons_succ, List.set_cons_zero, List.length_cons, List.length_nil, Nat.reduceAdd, Nat.reduceLT, Nat.reduceLeDiff, Nat.zero_add, if_true, if_pos_t, if_false_b, ite_tt, atI0, atI1, atI2, Bool.not_true, Bool.not_false, gEq_i, gNe_i, List.map_cons, List.map_nil, List.append_nil, List.nil_append, List.cons_append, List.replicate]
          · simp only [(hq y hy x).1, notSame, mV, mC, vA, rA, get, gets, mU, mB, mL, lNil, lCons, eF, bool_b, mT, mTr, mNot, mAnd, mOr, eNot, eAnd, eOr, mIf, sNil, sCons, mTup, fLst, mM, pNil, pSeq, pBk, pCt, pIf, pRet, put, pSet, pEx, gN, gE, gC, gT, pAs, pPar, pFor, fComp, tmY, flo, gAdd, gSub, gMul, gDiv, gMod, gPow, gNeg, gLt, gLe, gGt, gGe, gIs, gIsN, isNo, isBo, gIx, optR, oN, oS, toI, wSeq, seqOf, wZip, listAt, mApp, mPop, mPopAt, mAt, uAt, uC, mUB, mPopIn, vB, pAppIn, pPutAt, itemAt, putAt, mCall, mCallM, mCallK, mRc2, gIsi, isInt, isBool, isStr, isTup, isList, gLen, gAbs, gInt, gGcd, gMax, gMin, gTup, tru, ok_bind, no_bind, ex_bind, List.getElem?_cons_succ, List.getElem?_cons_zero, List.set_cons_succ, List.set_cons_zero, List.length_cons, List.length_nil, Nat.reduceAdd, Nat.reduceLT, Nat.reduceLeDiff, Nat.zero_add, if_true, if_pos_t, if_false_b, ite_tt, atI0, atI1, atI2, Bool.not_true, Bool.not_false, gEq_i, gNe_i, List.map_cons, List.map_nil, List.append_nil, List.nil_append, List.cons_append, List.replicate]) rfl
        have sz : (pairs xs ys).length ≤ sizeLine := by
          rw [pairs_len]
          exact Nat.le_trans (Nat.min_le_right _ _) (Nat.le_of_lt (small1000 h1))
        have z0 : (0 : Nat) ≤ sizeLine := Nat.zero_le _
        have w0 : wZip (sCons (mV 0) (sCons (mV 1) sNil)) δ0 = .ok (pairs xs ys, δ0) := rfl
        have fc := fComp_of w0 sz e1
        refine ⟨(((pairs xs ys).filter (notSame q)).map fun _ => (PyData.int 0)).isEmpty, ?_, ?_⟩
        · have g0 := mB_of (g := gEq) (n := eF (fLst sNil)) fc (show _ = Rs.ok (PyData.list [], δ0) by simp only [if_pos z0, mV, mC, vA, rA, get, gets, mU, mB, mL, lNil, lCons, eF, bool_b, mT, mTr, mNot, mAnd, mOr, eNot, eAnd, eOr, mIf, sNil, sCons, mTup, fLst, mM, pNil, pSeq, pBk, pCt, pIf, pRet, put, pSet, pEx, gN, gE, gC, gT, pAs, pPar, pFor, fComp, tmY, flo, gAdd, gSub, gMul, gDiv, gMod, gPow, gNeg, gLt, gLe, gGt, gGe, gIs, gIsN, isNo, isBo, gIx, optR, oN, oS, toI, wSeq, seqOf, wZip, listAt, mApp, mPop, mPopAt, mAt, uAt, uC, mUB, mPopIn, vB, pAppIn, pPutAt, itemAt, putAt, mCall, mCallM, mCallK, mRc2, gIsi, isInt, isBool, isStr, isTup, isList, gLen, gAbs, gInt, gGcd, gMax, gMin, gTup, tru, ok_bind, no_bind, ex_bind, List.getElem?_cons_succ, List.getElem?_cons_zero, List.set_cons_succ, List.set_cons_zero, List.length_cons, List.length_nil, Nat.reduceAdd, Nat.reduceLT, Nat.reduceLeDiff, Nat.zero_add, if_true, if_pos_t, if_false_b, ite_tt, atI0, atI1, atI2, Bool.not_true, Bool.not_false, gEq_i, gNe_i, List.map_cons, List.map_nil, List.append_nil, List.nil_append, List.cons_append, List.replicate]) (gEq_nil _)
          show (pSeq _ _ δ0 >>= fun r => flo .im r.1) = _
          rw [pSeq_rt (δ1 := δ0) (d := .bool (((pairs xs ys).filter (notSame q)).map fun _ => (PyData.int 0)).isEmpty)]
          · rfl
          rw [pIf_t (δ1 := δ0) (by simp only [δ0, mV, mC, vA, rA, get, gets, mU, mB, mL, lNil, lCons, eF, bool_b, mT, mTr, mNot, mAnd, mOr, eNot, eAnd, eOr, mIf, sNil, sCons, mTup, fLst, mM, pNil, pSeq, pBk, pCt, pIf, pRet, put, pSet, pEx, gN, gE, gC, gT, pAs, pPar, pFor, fComp, tmY, flo, gAdd, gSub, gMul, gDiv, gMod, gPow, gNeg, gLt, gLe, gGt, gGe, gIs, gIsN, isNo, isBo, gIx, optR, oN, oS, toI, wSeq, seqOf, wZip, listAt, mApp, mPop, mPopAt, mAt, uAt, uC, mUB, mPopIn, vB, pAppIn, pPutAt, itemAt, putAt, mCall, mCallM, mCallK, mRc2, gIsi, isInt, isBool, isStr, isTup, isList, gLen, gAbs, gInt, gGcd, gMax, gMin, gTup, tru, ok_bind, no_bind, ex_bind, List.getElem?_cons_succ, List.getElem?_cons_zero, List.set_cons_succ, List.set_cons_zero, List.length_cons, List.length_nil, Nat.reduceAdd, Nat.reduceLT, Nat.reduceLeDiff, Nat.zero_add, if_true, if_pos_t, if_false_b, ite_tt, atI0, atI1, atI2, Bool.not_true, Bool.not_false, gEq_i, gNe_i, List.map_cons, List.map_nil, List.append_nil, List.nil_append, List.cons_append, List.replicate]), pSeq_nx (δ1 := δ0)]
          · exact pRet_of g0
          rw [pIf_f (δ1 := δ0)]
          · rfl
          simp only [δ0, el, mV, mC, vA, rA, get, gets, mU, mB, mL, lNil, lCons, eF, bool_b, mT, mTr, mNot, mAnd, mOr, eNot, eAnd, eOr, mIf, sNil, sCons, mTup, fLst, mM, pNil, pSeq, pBk, pCt, pIf, pRet, put, pSet, pEx, gN, gE, gC, gT, pAs, pPar, pFor, fComp, tmY, flo, gAdd, gSub, gMul, gDiv, gMod, gPow, gNeg, gLt, gLe, gGt, gGe, gIs, gIsN, isNo, isBo, gIx, optR, oN, oS, toI, wSeq, seqOf, wZip, listAt, mApp, mPop, mPopAt, mAt, uAt, uC, mUB, mPopIn, vB, pAppIn, pPutAt, itemAt, putAt, mCall, mCallM, mCallK, mRc2, gIsi, isInt, isBool, isStr, isTup, isList, gLen, gAbs, gInt, gGcd, gMax, gMin, gTup, tru, ok_bind, no_bind, ex_bind, List.getElem?_cons_succ, List.getElem?_cons_zero, List.set_cons_succ, List.set_cons_zero, List.length_cons, List.length_nil, Nat.reduceAdd, Nat.reduceLT, Nat.reduceLeDiff, Nat.zero_add, if_true, if_pos_t, if_false_b, ite_tt, atI0, atI1, atI2, Bool.not_true, Bool.not_false, gEq_i, gNe_i, List.map_cons, List.map_nil, List.append_nil, List.nil_append, List.cons_append, List.replicate]
        · rw [pairs_same hl fun y hy x => (hq y hy x).2]
          simp
      · have el : ((xs.length : Int) == (ys.length : Int)) = false := by simp; omega
        refine ⟨false, by simp only [el, mV, mC, vA, rA, get, gets, mU, mB, mL, lNil, lCons, eF, bool_b, mT, mTr, mNot, mAnd, mOr, eNot, eAnd, eOr, mIf, sNil, sCons, mTup, fLst, mM, pNil, pSeq, pBk, pCt, pIf, pRet, put, pSet, pEx, gN, gE, gC, gT, pAs, pPar, pFor, fComp, tmY, flo, gAdd, gSub, gMul, gDiv, gMod, gPow, gNeg, gLt, gLe, gGt, gGe, gIs, gIsN, isNo, isBo, gIx, optR, oN, oS, toI, wSeq, seqOf, wZip, listAt, mApp, mPop, mPopAt, mAt, uAt, uC, mUB, mPopIn, vB, pAppIn, pPutAt, itemAt, putAt, mCall, mCallM, mCallK, mRc2, gIsi, isInt, isBool, isStr, isTup, isList, gLen, gAbs, gInt, gGcd, gMax, gMin, gTup, tru, ok_bind, no_bind, ex_bind, List.getElem?_cons_succ, List.getElem?_cons_zero, List.set_cons_succ, List.set_cons_zero, List.length_cons, List.length_nil, Nat.reduceAdd, Nat.reduceLT, Nat.reduceLeDiff, Nat.zero_add, if_true, if_pos_t, if_false_b, ite_tt, atI0, atI1, atI2, Bool.not_true, Bool.not_false, gEq_i, gNe_i, List.map_cons, List.map_nil, List.append_nil, List.nil_append, List.cons_append, List.replicate], ?_⟩
        constructor
        · intro z; cases z
        · intro z; cases z; exact absurd rfl hl
    | _ => exact ⟨false, by simp only [mV, mC, vA, rA, get, gets, mU, mB, mL, lNil, lCons, eF, bool_b, mT, mTr, mNot, mAnd, mOr, eNot, eAnd, eOr, mIf, sNil, sCons, mTup, fLst, mM, pNil, pSeq, pBk, pCt, pIf, pRet, put, pSet, pEx, gN, gE, gC, gT, pAs, pPar, pFor, fComp, tmY, flo, gAdd, gSub, gMul, gDiv, gMod, gPow, gNeg, gLt, gLe, gGt, gGe, gIs, gIsN, isNo, isBo, gIx, optR, oN, oS, toI, wSeq, seqOf, wZip, listAt, mApp, mPop, mPopAt, mAt, uAt, uC, mUB, mPopIn, vB, pAppIn, pPutAt, itemAt, putAt, mCall, mCallM, mCallK, mRc2, gIsi, isInt, isBool, isStr, isTup, isList, gLen, gAbs, gInt, gGcd, gMax, gMin, gTup, tru, ok_bind, no_bind, ex_bind, List.getElem?_cons_succ, List.getElem?_cons_zero, List.set_cons_succ, List.set_cons_zero, List.length_cons, List.length_nil, Nat.reduceAdd, Nat.reduceLT, Nat.reduceLeDiff, Nat.zero_add, if_true, if_pos_t, if_false_b, ite_tt, atI0, atI1, atI2, Bool.not_true, Bool.not_false, gEq_i, gNe_i, List.map_cons, List.map_nil, List.append_nil, List.nil_append, List.cons_append, List.replicate], by simp⟩
theorem same_refl {n : Nat} {d : D} (h : good n d = true) : r_law_same (n + 1) [d, d] = .ok (.bool true) := by
  obtain ⟨b, e, hb⟩ := same_ok n d d h
  rw [e, hb.mpr rfl]
end Zd
namespace Zd
open PySem PySem.Spec
open PyProof.Rows L2
def gz (a d : Int) : Int := ((Nat.gcd a.natAbs d.natAbs : Nat) : Int)
def fn (a d : Int) : Int := if 0 < d then a.fdiv (gz a d) else (0 - a).fdiv (gz a d)
def fd (a d : Int) : Int := if 0 < d then d.fdiv (gz a d) else (0 - d).fdiv (gz a d)
def pr2 (a d : Int) : D := .tuple [.int a, .int d]
def fr (a d : Int) : D := pr2 (fn a d) (fd a d)
/-- not too great -/
def Sz (k : Nat) (a : Int) : Prop := a.natAbs < 2 ^ k
theorem Sz.up {k j : Nat} {a : Int} (h : Sz k a) (hj : k ≤ j) : Sz j a := Nat.lt_of_lt_of_le h (Nat.pow_le_pow_right (by decide) hj)
/-- a fraction in its lowest terms, not too great -/
structure Fq (k : Nat) (a d : Int) : Prop where
  pos : 0 < d
  cop : Nat.gcd a.natAbs d.natAbs = 1
  sa : Sz k a
  sd : Sz k d
theorem Fq.up {k j : Nat} {a d : Int} (h : Fq k a d) (hj : k ≤ j) : Fq j a d := ⟨h.pos, h.cop, h.sa.up hj, h.sd.up hj⟩
end Zd
namespace Zd
open PySem PySem.Spec
open PyProof.Rows L2
def sStar (m : Em) (n : Sm) : Sm := fun δ => m δ >>= fun r => (match r.1 with | .list xs => .ok xs | .tuple xs => .ok xs | _ => .no) >>= fun xs => n r.2 >>= fun q => .ok (xs ++ q.1, q.2)
theorem seq_inv {d : D} {q : List D → Prop} {e : Str → D → Prop} (h : Out (match d with | .list xs => (.ok xs : Rs (List D)) | .tuple xs => .ok xs | _ => .no) q e) : ∃ xs, (d = .list xs ∨ d = .tuple xs) ∧ q xs := by
  cases d with
  | list xs => exact ⟨xs, .inl rfl, h⟩
  | tuple xs => exact ⟨xs, .inr rfl, h⟩
  | _ => exact h.elim
section
variable {X : Cx} {G : Gm} {e : Expr} {es : List Expr} {pos p : Pos}
theorem ss {m : Em} {n : Sm} (h : PE X e (tI G m)) (hr : PA X es (tS G n)) (hK : X.K = G.K := by rfl) (hs : starEach (.Starred e p :: es) X.env = (true, eval e X.env) :: starEach es X.env := by rfl) : PA X (.Starred e p :: es) (tS G (sStar m n)) := by
  refine pa_if (StX.pa_star h hr hs) fun σ H Q ⟨ω, δ, φ, s, o⟩ => ⟨ω, δ, φ, s, (Out.bind o).mono (fun r h1 ω' H' φ' v st s' rp => ?_) fun _ _ z => z⟩
  obtain ⟨xs, hd, h1⟩ := seq_inv (Out.bind h1)
  have key : ∃ a vs, v = .ref a ∧ (SqT G.K H' a vs ∨ SqL G.K H' a vs) ∧ Reps G.K ω' H' vs xs := by
    rcases hd with hd | hd
    · rw [hd] at rp
      obtain ⟨a, vs, e1, e2, e3⟩ := Lk.list (.inl rp)
      exact ⟨a, vs, e1, .inr e2, e3⟩
    · rw [hd] at rp
      obtain ⟨a, vs, e1, e2, e3⟩ := Lk.tuple (.inl rp)
      exact ⟨a, vs, e1, .inl e2, e3⟩
  obtain ⟨a, vs, e1, e2, e3⟩ := key
  refine ⟨a, vs, e1, hK ▸ e2, ω', r.2, φ', s', (Out.bind h1).mono (fun q hq ω2 H2 φ2 ws st2 s2 r2 => ?_) fun _ _ z => z.up st⟩
  exact hq ω2 H2 φ2 (vs ++ ws) (st.trans st2) s2 ((e3.up st2.grow).append r2)
end
end Zd
set_option maxHeartbeats 4100000
namespace Zd
open PySem PySem.Spec
open PyProof.Rows L2
section
variable {X : Cx}
theorem lim {k : Int} (h : -1000000 ≤ k) (h' : k ≤ 1000000) : (decide (k < -(2 ^ 63)) || decide (k ≥ 2 ^ 63)) = false := by
  rw [decide_eq_false (by omega), decide_eq_false (by omega)]
  rfl
end
end Zd
namespace Zd
open PySem PySem.Spec
open PyProof.Rows L2
end Zd
namespace Zd
open PySem PySem.Spec PyProof.Rows L2 HT
end Zd
namespace Zd
open PySem PySem.Spec
open PyProof.Rows L2
def ltD : D → Rs (List D)
  | .list xs => .ok xs
  | .tuple xs => .ok xs
  | _ => .no
def un2 : D → Rs (D × D)
  | .tuple [a, b] => .ok (a, b)
  | _ => .no
def ev {α β : Type} (m : Dl → Rs (α × Dl)) (δ : Dl) (k : α → Dl → Rs β) : Rs β := m δ >>= fun r => k r.1 r.2
def pt {β : Type} (δ : Dl) (i : Nat) (d : D) (k : Dl → Rs β) : Rs β := put δ i d >>= k
section
variable {β : Type} (δ : Dl)
def tg (t : Tg) (d : D) (δ : Dl) (k : Dl → Rs β) : Rs β := t d δ >>= k
variable (k : Fl → Dl → Rs β)
end
/-- `continue` goes on -/
def kC (f : Fl) (δ : Dl) : Rs (Fl × Dl) := match f with
  | .ct => .ok (.nx, δ)
  | f => .ok (f, δ)
end Zd
namespace Zd
open PySem PySem.Spec
open PyProof.Rows L2
theorem Lk.lt {K : PySem.W.Frag} {ω : Om} {H : Hp} {v : V} {d : D} (l : Lk K ω H v d) {q : List D → Prop} {e : Str → D → Prop} (o : Out (ltD d) q e) : ∃ p vs xs, v = .ref p ∧ (SqL K H p vs ∨ SqT K H p vs) ∧ Reps K ω H vs xs ∧ q xs := by
  cases d with
  | list xs =>
    obtain ⟨p, vs, ey, q1, q2⟩ := l.list
    exact ⟨p, vs, xs, ey, .inl q1, q2, o⟩
  | tuple xs =>
    obtain ⟨p, vs, ey, q1, q2⟩ := l.tuple
    exact ⟨p, vs, xs, ey, .inr q1, q2, o⟩
  | _ => exact o.elim
end Zd
namespace Zd
open PySem PySem.Spec
open PyProof.Rows L2
theorem sz1000 {n : Nat} (h : n ≤ 1000) : n ≤ sizeLine := Nat.le_of_lt (small1000 h)
theorem gIx_l {xs : List D} {i : Int} {v : D} (h : atI xs i = some v) : gIx (.list xs) (.int i) = .ok v := by
  show optR (atI xs i) = _
  rw [h]
  rfl
theorem gAdd_l {xs ys : List D} (h : xs.length + ys.length ≤ 1000) : gAdd (.list xs) (.list ys) = .ok (.list (xs ++ ys)) := by
  unfold gAdd
  exact if_pos (sz1000 h)
end Zd
namespace Zd
open PySem PySem.Spec
open PyProof.Rows L2
end Zd
namespace Zd
open PySem PySem.Spec
open PyProof.Rows L2
inductive Dps (K : PySem.W.Frag) (H : Hp) : List V → List D → Prop
  | nil : Dps K H [] []
  | cons {v : V} {d : D} {vs : List V} {ds : List D} : Dp K H v d → Dps K H vs ds → Dps K H (v :: vs) (d :: ds)
theorem Dps.len {K : PySem.W.Frag} {H : Hp} : ∀ {vs : List V} {ds : List D}, Dps K H vs ds → vs.length = ds.length
  | _, _, .nil => rfl
  | _, _, .cons _ t => by rw [List.length_cons, List.length_cons, t.len]
theorem Reps.zip {K : PySem.W.Frag} {ω : Om} {H : Hp} : ∀ {vs : List V} {ds : List D}, Reps K ω H vs ds → ∀ p ∈ vs.zip ds, Rep K ω H p.1 p.2
  | _, _, .nil, _, h => absurd h (by simp)
  | _, _, .cons r t, p, h => by
    rw [List.zip_cons_cons] at h
    rcases (List.mem_cons.mp h) with rfl | h
    · exact r
    · exact t.zip p h
theorem Dps.all {K : PySem.W.Frag} {H : Hp} : ∀ {vs : List V} {ds : List D}, Dps K H vs ds → DpAll K H vs ds
  | _, _, .nil => .nil
  | _, _, .cons h t => .cons h t.all
theorem Owns.len {K : PySem.W.Frag} {ω : Om} {H : Hp} : ∀ {shs : List Sh} {vs : List V} {ds : List D} {f : List Addr}, Owns K ω H shs vs ds f → vs.length = ds.length
  | _, _, _, _, .nil => rfl
  | _, _, _, _, .cons _ t => by rw [List.length_cons, List.length_cons, t.len]
end Zd
namespace Zd
open PySem PySem.Spec
open PyProof.Rows L2
def txK (e : Int × Value) : Str := match e.2 with
  | .str z _ => z
  | _ => Str.empty
section
variable (P :
          Program) (w : World)
def TxE (e : Int × Value) : Prop := (∃ z tk, e.2 = Value.str z tk) ∧ e.1 = (PySem.strKind P w).hash (txK e)
/-- a set's parts: its members are texts, each once, they are just S; it can be walked -/
structure TxS (S : Str → Bool) (es : Array (Int × Value)) (t : SetTable) : Prop where
  good : ∀ e ∈ es.toList, TxE P w e
  once : (es.toList.map txK).Nodup
  all : ∀ z, S z = true ↔ z ∈ es.toList.map txK
  few : es.size < scanBound
  fits : t.fits es.size = true
  ris : Ris t.place.toList
  led : w.params.followText "set-order" = true ∨ t.led = true
def TxAt (h : Heap) (a : Addr) (S : Str → Bool) (n : Nat) : Prop :=
  ∃ o es ep t, h.get? a = some o ∧ o.ExactSet ∧ o.data = .set es ep t ∧ es.size = n ∧ TxS P w S es t
end
section
variable {P : Program} {w : World}
theorem TxE.is {e : Int × Value} (g : TxE P w e) (z : Str) : (PySem.strKind P w).is z e.2 = true ↔ txK e = z := by
  obtain ⟨⟨y, tk, q⟩, _⟩ := g
  have e1 : txK e = y := by unfold txK; rw [q]
  rw [e1, q]
  constructor
  · intro h
    exact (PySem.strKind P w).inj _ _ _ (strKind_is P w y tk) h
  · rintro rfl
    exact strKind_is P w y tk
theorem TxE.mem {l : List (Int × Value)} (g : ∀ e ∈ l, TxE P w e) (z : Str) : z ∈ l.map txK ↔ ∃ e ∈ l, (PySem.strKind P w).is z e.2 = true := by
  rw [List.mem_map]
  exact ⟨fun ⟨e, h, q⟩ => ⟨e, h, ((g e h).is z).mpr q⟩, fun ⟨e, h, q⟩ => ⟨e, h, ((g e h).is z).mp q⟩⟩
theorem TxAt.keep {h h' : Heap} {a : Addr} {S : Str → Bool} {n : Nat} (x : TxAt P w h a S n) (k : ∀ o, h.get? a = some o → h'.get? a = some o) : TxAt P w h' a S n :=
  x.elim fun o ⟨es, ep, t, ho, r⟩ => ⟨o, es, ep, t, k o ho, r⟩
theorem TxS.eqv {S T : Str → Bool} {es : Array (Int × Value)} {t : SetTable} (x : TxS P w S es t) (q : ∀ z, T z = S z) : TxS P w T es t :=
  { x with all := fun z => by rw [q z]; exact x.all z }
theorem TxAt.eqv {h : Heap} {a : Addr} {S T : Str → Bool} {n m : Nat} (x : TxAt P w h a S n) (q : ∀ z, T z = S z) (e : m = n) : TxAt P w h a T m := by
  subst e
  exact x.elim fun o ⟨es, ep, t, h1, h2, h3, h4, h5⟩ => ⟨o, es, ep, t, h1, h2, h3, h4, h5.eqv q⟩
theorem TxS.none (S : Str → Bool) (hS : ∀ z, S z = false) : TxS P w S #[] (.fresh 0 0 (!w.params.followText "set-order")) where
  good := by simp
  once := by simp
  all := fun z => by simp [hS z]
  few := by decide
  fits := rfl
  ris := .nil
  led := by
    show _ ∨ (!w.params.followText
              "set-order") = true
    by_cases c : w.params.followText "set-order" = true
    · exact .inl c
    · exact .inr (by simpa using c)
theorem TxS.more {S : Str → Bool} {es es2 : Array (Int × Value)} {t t2 : SetTable} {z : Str} {tk : Tok} (x : TxS P w S es t) (hz : z ∉ es.toList.map txK) (p : es2.toList.Perm (es.push ((PySem.strKind P w).hash z, Value.str z tk)).toList) (room : es.size + 1 < scanBound) (f : t2.fits es2.size = true) (r : Ris t2.place.toList) (l : t2.led = t.led) :
    TxS P w (fun y => S y || decide (y = z)) es2 t2 ∧ es2.size = es.size + 1 := by
  rw [Array.toList_push] at p
  have pc := p.trans (List.perm_append_singleton _ _)
  have pk : (es2.toList.map txK).Perm (z :: es.toList.map txK) := pc.map txK
  have sz : es2.size = es.size + 1 := by rw [← Array.length_toList, pc.length_eq, List.length_cons, Array.length_toList]
  refine ⟨⟨fun e h => ?_, pk.nodup_iff.mpr (List.nodup_cons.mpr ⟨hz, x.once⟩), fun y => ?_, by omega, f, r, x.led.imp_right fun q => by rw [l]; exact q⟩, sz⟩
  · rcases List.mem_cons.mp (pc.mem_iff.mp h) with q | q
    · subst q
      exact ⟨⟨z, tk, rfl⟩, rfl⟩
    · exact x.good e q
  · rw [Bool.or_eq_true, decide_eq_true_eq, x.all y, pk.mem_iff, List.mem_cons, or_comm]
end
end Zd
namespace Zd
open PySem PySem.Spec
open PyProof.Rows L2
end Zd
namespace Zd
open PySem PySem.Spec
open PyProof.Rows L2
end Zd
namespace Zd
open PySem PySem.Spec
open PyProof.Rows L2
mutual
def nol : D → Bool
  | .list _ => false
  | .dict _ => false
  | .tuple ds => nols ds
  | .none => true
  | .bool _ => true
  | .int _ => true
  | .str _ => true
def nols : List D → Bool
  | [] => true
  | d :: ds => nol d && nols ds
end
section
variable {K : PySem.W.Frag} {ω ω' : Om} {H : Hp}
mutual
theorem Rep.free : ∀ (d : D) (v : V), nol d = true → Rep K ω H v d → Rep K ω' H v d
  | .none, _, _, h => by cases h; exact .non
  | .bool b, _, _, h => by cases h; exact .bl b
  | .int i, _, _, h => by cases h; exact .int i
  | .str x, _, _, h => by cases h; exact .str x
  | .tuple ds, _, n, h => by
    cases h with
    | tup hs ha => exact .tup hs (Reps.free ds _ (by rw [nol] at n; exact n) ha)
  | .list ds, _, n, _ => by rw [nol] at n; cases n
  | .dict _, _, n, _ => by rw [nol] at n; cases n
theorem Reps.free : ∀ (ds : List D) (vs : List V), nols ds = true → Reps K ω H vs ds → Reps K ω' H vs ds
  | [], _, _, h => by cases h; exact .nil
  | d :: ds, _, n, h => by
    rw [nols, Bool.and_eq_true] at n
    cases h with
    | cons h1 h2 => exact .cons (Rep.free d _ n.1 h1) (Reps.free ds _ n.2 h2)
end
def nolO : Sh → D → Bool
  | .im, d => nol d
  | .mu .im, .list ds => nols ds
  | .mu .im, d => nol d
  | .rc [.mu .im, .im], .list [.list xs, d] => nols xs && nol d
  | _, _ => false
theorem Own.free_mu {v : V} {d : D} {f : List Addr} (n : nolO (.mu .im) d = true) (h : Own K ω H (.mu .im) v d f) : Own K ω' H (.mu .im) v d f := by
  cases h with
  | mu e t =>
    obtain ⟨r, rfl⟩ := t.ims
    exact .mui e (Reps.free _ _ n r)
  | nl r k =>
    refine .nl (Rep.free _ _ ?_ r) k
    cases d with
    | list ds => exact (k _ rfl).elim
    | _ => exact n
theorem Own.free {s : Sh} {v : V} {d : D} {f : List Addr} (n : nolO s d = true) (h : Own K ω H s v d f) : Own K ω' H s v d f := by
  unfold nolO at n
  split at n
  · obtain ⟨r, rfl⟩ := h.im_inv
    exact .im (Rep.free _ _ n r)
  · exact Own.free_mu (by unfold nolO; exact n) h
  · exact Own.free_mu (by unfold nolO; split <;> first | exact n | simp_all) h
  · rw [Bool.and_eq_true] at n
    cases h with
    | rc e t =>
      cases t with
      | cons t1 t2 =>
        cases t2 with
        | cons t2 t3 =>
          cases t3
          obtain ⟨r2, rfl⟩ := t2.im_inv
          exact .rc e (.cons (Own.free_mu (by unfold nolO; exact n.1) t1) (.cons (f := []) (g := []) (.im (Rep.free _ _ n.2 r2)) .nil))
  · cases n
def nolJ (s : Sh) : Option D → Bool
  | none => true
  | some d => nolO s d
end
/-- all slots but one let go for a while -/
def frzK (κ : Kn) (i : Nat) : Kn := fun j => if j = i then κ i else .im
def Gm.frz (G : Gm) (i : Nat) : Gm := { K := G.K, cls := G.cls, E := G.E, κ := frzK G.κ i }
section
variable {K : PySem.W.Frag} {κ : Kn} {ω ω' : Om} {H H' : Hp} {σ : L2.St} {δ δ1 : Dl} {φ φ' : Fps}
abbrev lent (ω : Om) (φ : Fps) (i : Nat) : Om := fun a => ω a ∧ ∀ j, j ≠ i → a ∉ φ j
theorem Slots.frz (s : Slots K κ ω H σ δ φ) (kd : KdOk κ) (i : Nat) : Slots K (frzK κ i) (lent ω φ i) H σ δ (fun j => if j = i then φ i else []) where
  len := s.len
  at_ := fun j d h => by
    obtain ⟨v, h1, h2⟩ := s.at_ j d h
    refine ⟨v, h1, ?_⟩
    unfold frzK
    by_cases e : j = i
    · subst e
      rw [if_pos rfl, if_pos rfl]
      exact Own.mono ⟨fun a o e _ => e, s.wf, fun a z => .inl z.1⟩ d _ _ _ (fun _ _ => rfl) h2
    · rw [if_neg e, if_neg e]
      have r := Own.let (φ j) d _ _ _ (fun a ha => ha) h2 (kd.ok j) s.wf
      exact .im (r.up ⟨fun a o e _ => e, fun a z => s.wf a z.1, fun a z => .inl ⟨z.1, z.2 j e⟩⟩)
  nod := fun j => by
    split
    · exact s.nod i
    · exact .nil
  dis := fun j k a n h => by
    split at h
    · rename_i ej
      rw [if_neg (by rw [← ej]; exact Ne.symm n)]
      simp
    · simp at h
  sub := fun a ⟨j, h⟩ => by
    dsimp only at h
    split at h
    · exact ⟨s.sub a ⟨i, h⟩, fun k hk z => s.dis k i a hk z h⟩
    · simp at h
  wf := fun a z => s.wf a z.1
def slO (δ : Dl) (i : Nat) : Option D := (δ[i]?).getD none
theorem Slots.back (s : Slots K κ ω H σ δ φ) {i : Nat} {f : List Addr} (st : Step (lent ω φ i) (Fp fun j => if j = i then φ i else []) H ω' (fun a => Fp φ' a ∨ a ∈ f) H') (s' : Slots K (frzK κ i) ω' H' σ δ1 φ') (n : nolJ (κ i) (slO δ1 i) = true) (hf : ∀ a ∈ f, ω' a ∧ ¬ Fp φ' a) :
    Step ω (Fp φ) H (fun a => ω' a ∨ ∃ j, j ≠ i ∧ a ∈ φ j) (fun a => Fp (fun j => if j = i then φ' i else φ j) a ∨ a ∈ f) H' ∧
    Slots K κ (fun a => ω' a ∨ ∃ j, j ≠ i ∧ a ∈ φ j) H' σ (δ.set i (slO δ1 i)) (fun j => if j = i then φ' i else φ j) ∧
    ∀ a ∈ f, (ω' a ∨ ∃ j, j ≠ i ∧ a ∈ φ j) ∧ ¬ Fp (fun j => if j = i then φ' i else φ j) a := by
  have inF : ∀ {a : Addr}, Fp (fun j => if j = i then φ i else []) a → a ∈ φ i := fun {a} ⟨j, h⟩ => by
    dsimp only at h
    split at h
    · exact h
    · simp at h
  have full : ∀ {a : Addr} {j : Nat}, a ∈ φ j → ∃ xs : Lc, H a = some xs.ho := fun {a j} h => s.wf a (s.sub a ⟨j, h⟩)
  have kept : ∀ {a : Addr} {o : HO}, H a = some o → (a ∉ φ i) → H' a = some o := fun {a o} h n => st.keep a o h fun z => n (inF z)
  have gr : Grow ω H (fun a => ω' a ∨ ∃ j, j ≠ i ∧ a ∈ φ j) H' := ⟨fun a o h n => kept h fun z => n (s.sub a ⟨i, z⟩), s.wf, fun a z => by
    rcases z with z | ⟨j, _, z⟩
    · exact (st.om a z).imp (·.1) id
    · exact .inl (s.sub a ⟨j, z⟩)⟩
  have fp' : ∀ {a : Addr}, a ∈ φ' i → a ∈ φ i ∨ H a = none := fun {a} h => (st.fp a (.inl ⟨i, h⟩)).imp inF id
  have ap : ∀ {a : Addr} {j : Nat}, j ≠ i → a ∈ φ j → a ∉ φ' i := fun {a j} nj h z => by
    rcases fp' z with z | z
    · exact s.dis j i a nj h z
    · obtain ⟨xs, q⟩ := full h
      rw [q] at z; cases z
  refine ⟨⟨fun a o h n => kept h fun z => n ⟨i, z⟩, gr.om, fun a h n => ?_, fun a z => ?_, s.sub, s.wf⟩, ⟨?_, fun j d h => ?_, fun j => ?_, fun j k a n h => ?_, fun a ⟨j, h⟩ => ?_, fun a z => ?_⟩, fun a ha => ⟨.inl (hf a ha).1, fun ⟨j, h⟩ => ?_⟩⟩
  · exact .inl (st.stay a ⟨h, fun j _ z => n ⟨j, z⟩⟩ fun z => n ⟨i, inF z⟩)
  · rcases z with ⟨j, h⟩ | z
    · dsimp only at h
      split at h
      · exact (fp' h).imp (fun z => ⟨i, z⟩) id
      · exact .inl ⟨j, h⟩
    · exact (st.fp a (.inr z)).imp (fun z => ⟨i, inF z⟩) id
  · rw [List.length_set]; exact s.len
  · by_cases e : i = j
    · subst e
      rw [if_pos rfl]
      rw [List.getElem?_set] at h
      rw [if_pos rfl] at h
      split at h
      · have h : slO δ1 i = some d := Option.some.inj h
        rw [h] at n
        have h2 : δ1[i]? = some (some d) := by
          unfold slO at h
          cases e2 : δ1[i]? with
          | none => rw [e2] at h; cases h
          | some o => rw [e2] at h; exact congrArg some h
        obtain ⟨v, h3, h4⟩ := s'.at_ i d h2
        unfold frzK at h4
        rw [if_pos rfl] at h4
        exact ⟨v, h3, Own.free n h4⟩
      · cases h
    · rw [List.getElem?_set_ne e] at h
      rw [if_neg (Ne.symm e)]
      obtain ⟨v, h1, h2⟩ := s.at_ j d h
      refine ⟨v, h1, Own.mono gr d _ _ _ (fun a ha => ?_) h2⟩
      obtain ⟨xs, q⟩ := full ha
      rw [q, kept q (s.dis j i a (Ne.symm e) ha)]
  · split
    · exact s'.nod i
    · exact s.nod j
  · split at h
    · rename_i ej
      rw [if_neg (by rw [← ej]; exact Ne.symm n)]
      exact fun z => ap (by rw [← ej]; exact Ne.symm n) z h
    · rename_i nj
      split
      · exact ap nj h
      · exact s.dis j k a n h
  · dsimp only at h
    split at h
    · exact .inl (s'.sub a ⟨i, h⟩)
    · rename_i nj
      exact .inr ⟨j, nj, h⟩
  · rcases z with z | ⟨j, nj, z⟩
    · exact s'.wf a z
    · obtain ⟨xs, q⟩ := full z
      exact ⟨xs, kept q (s.dis j i a nj z)⟩
  · dsimp only at h
    split at h
    · exact (hf a ha).2 ⟨i, h⟩
    · rename_i nj
      rcases st.fp a (.inr ha) with z | z
      · exact s.dis j i a nj h (inF z)
      · obtain ⟨xs, q⟩ := full h
        rw [q] at z; cases z
end
instance kd_kin {κ : Kn} {vs : List Nat} [kd : KdOk κ] : KdOk (kin κ vs) := ⟨fun j => by unfold kin; split; rfl; exact kd.ok j⟩
section
variable {β : Type} (δ : Dl)
def bk (δ δ1 : Dl) (i : Nat) (k : Option D → Dl → Rs β) : Rs β := k (slO δ1 i) (δ.set i (slO δ1 i))
end
end Zd
namespace Zd
open PySem PySem.Spec
open PyProof.Rows L2
open PySem.W PySem.Calls
structure HeadTx (ds : List D) : Prop where
  shape : ∀ d ∈ ds, ∃ z r, d = .tuple (.str z :: r)
  one : ∀ z r q, PyData.tuple (.str z :: r) ∈ ds → PyData.tuple (.str z :: q) ∈ ds → r = q
  self : ∀ d ∈ ds, alike d d = true
theorem HeadTx.uniq {h : Heap} {ds : List D} (H : HeadTx ds) {d e : D} {v : Value} {as bs : List Addr} (hd : d ∈ ds) (he : e ∈ ds) (r : Reads h v d as) (q : Reads h v e bs) : d = e := by
  obtain ⟨z, xs, rfl⟩ := H.shape d hd
  obtain ⟨y, ys, rfl⟩ := H.shape e he
  cases r with
  | tuple h1 h2 h3 h4 =>
    cases q with
    | tuple k1 k2 k3 k4 =>
      rw [h1] at k1; cases k1
      rw [h3] at k3; cases k3
      generalize hL : Array.toList _ = L at h4 k4
      cases h4 with
      | cons a1 a2 =>
        cases k4 with
        | cons b1 b2 =>
          cases a1
          cases b1
          rw [H.one _ _ _ hd he]
theorem HeadTx.key {h : Heap} {ds : List D} (H : HeadTx ds) {v : Value} {d : D} {as : List Addr} (hd : d ∈ ds) (r : Reads h v d as) : (dataKind h ds).keyOf v = some (keyToks d) := by
  have q : ∃ d, d ∈ ds ∧ ∃ as, Reads h v d as :=
      ⟨d, hd, as, r⟩
  have e : (dataKind h ds).keyOf v = some (keyToks q.choose) :=
      by
    show (open Classical in if q : ∃ d, d ∈ ds ∧ ∃ as, Reads
              h v d as then some (keyToks q.choose) else none) = _
    exact dif_pos q
  obtain ⟨h1, as',
            h2⟩ := q.choose_spec
  rw [e, H.uniq h1 hd h2 r]
end Zd
namespace Zd
open PySem PySem.Spec
open PyProof.Rows L2
/-- the entry of a key -/
def yGet (ys : List Dy) (k : List Int) : Option V := (ys.find? fun y => decide (y.1 = k)).map (·.2.2)
def putY (ys : List Dy) (k : List Int) (b : Addr) (v : V) : List Dy := if (ys.any fun y => decide (y.1 = k)) = true then ys.map fun y => if y.1 = k then (y.1, y.2.1, v) else y else ys ++ [(k, b, v)]
def KsIn (K : PySem.W.Frag) (H : Hp) (ys : List Dy) : Prop := ∀ y ∈ ys, TupN K H y.2.1 (y.1.map .int)
theorem RepKv.ks {K : PySem.W.Frag} {ω : Om} {H : Hp} : ∀ {ys : List Dy} {kvs : List (D × D)}, RepKv K ω H ys kvs → KsIn K H ys
  | _, _, .nil => fun _ h => absurd h (by simp)
  | _, _, .cons h1 h2 h3 => fun y hy => by
    rcases (List.mem_cons.mp hy) with
        rfl | hy
    · exact h1
    · exact h3.ks y hy
def intT : List D → Option (List Int)
  | [] => some []
  | .int i :: ds => (intT ds).map (i :: ·)
  | _ => none
def keyT : D → Option (List Int)
  | .tuple ds => intT ds
  | _ => none
theorem intT_ok : ∀ ks : List Int, intT (ks.map .int) = some ks
  | [] => rfl
  | k :: ks => by rw [List.map_cons, intT, intT_ok ks]; rfl
theorem keyT_ok (ks : List Int) : keyT (.tuple (ks.map .int)) = some ks := intT_ok ks
def dGet (k : List Int) (kvs : List (D × D)) : Option D := (kvs.find? fun p => decide (keyT p.1 = some k)).map (·.2)
def dHas (k : List Int) (kvs : List (D × D)) : Bool := kvs.any fun p => decide (keyT p.1 = some k)
def dPut (kvs : List (D × D)) (k : List Int) (d : D) : List (D × D) := if dHas k kvs = true then kvs.map fun p => if keyT p.1 = some k then (p.1, d) else p else kvs ++ [(.tuple (k.map .int), d)]
section
variable {K : PySem.W.Frag} {ω : Om} {H : Hp}
theorem RepKv.len : ∀ {ys : List Dy} {kvs : List (D × D)}, RepKv K ω H ys kvs → ys.length = kvs.length
  | _, _, .nil => rfl
  | _, _, .cons _ _ t => by simp [t.len]
theorem key_dec (ks k : List Int) : decide (keyT (.tuple (ks.map .int)) = some k) = decide (ks = k) := by rw [keyT_ok]; simp
theorem RepKv.get {k : List Int} {d : D} : ∀ {ys : List Dy} {kvs : List (D × D)}, RepKv K ω H ys kvs → dGet k kvs = some d → ∃ v, yGet ys k = some v ∧ Rep K ω H v d
  | _, _, .nil, h => by cases h
  | _, _, @RepKv.cons _ _ _ ks b v d' ys kvs h1 h2 h3, h => by
    unfold dGet at h
    rw [List.find?_cons, key_dec] at h
    by_cases e : ks = k
    · rw [decide_eq_true e] at h
      cases h
      refine ⟨v, ?_, h2⟩
      rw [yGet, List.find?_cons, decide_eq_true e]
      rfl
    · rw [decide_eq_false e] at h
      obtain ⟨v', q1, q2⟩ := h3.get (show dGet k kvs = some d from h)
      refine ⟨v', ?_, q2⟩
      rw [← q1, yGet, List.find?_cons, decide_eq_false e]
      rfl
theorem RepKv.has {k : List Int} : ∀ {ys : List Dy} {kvs : List (D × D)}, RepKv K ω H ys kvs → (ys.any fun y => decide (y.1 = k)) = dHas k kvs
  | _, _, .nil => rfl
  | _, _, @RepKv.cons _ _ _ ks b v d' ys kvs h1 h2 h3 => by
    unfold dHas
    rw [List.any_cons, List.any_cons, key_dec, h3.has]
    rfl
theorem RepKv.repl {k : List Int} {v : V} {d : D} (rv : Rep K ω H v d) : ∀ {ys : List Dy} {kvs : List (D × D)}, RepKv K ω H ys kvs → RepKv K ω H (ys.map fun y => if y.1 = k then (y.1, y.2.1, v) else y) (kvs.map fun p => if keyT p.1 = some k then (p.1, d) else p)
  | _, _, .nil => .nil
  | _, _, @RepKv.cons _ _ _ ks b v' d' ys kvs h1 h2 h3 => by
    rw [List.map_cons,
              List.map_cons]
    by_cases e : ks = k
    · rw [if_pos (show (ks, b, v').1 = k from e), if_pos (by rw [keyT_ok, e])]
      exact .cons h1 rv (h3.repl rv)
    · rw [if_neg (show ¬ (ks, b, v').1 = k from e), if_neg (by rw [keyT_ok]; simpa using e)]
      exact .cons h1 h2 (h3.repl rv)
theorem RepKv.snoc {k : List Int} {b : Addr} {v : V} {d : D} (hb : TupN K H b (k.map .int)) (rv : Rep K ω H v d) : ∀ {ys : List Dy} {kvs : List (D × D)}, RepKv K ω H ys kvs → RepKv K ω H (ys ++ [(k, b, v)]) (kvs ++ [(.tuple (k.map .int), d)])
  | _, _, .nil => .cons hb rv .nil
  | _, _, .cons h1 h2 h3 => .cons h1 h2 (h3.snoc hb rv)
theorem RepKv.put {k : List Int} {b : Addr} {v : V} {d : D} {ys : List Dy} {kvs : List (D × D)} (r : RepKv K ω H ys kvs) (hb : TupN K H b (k.map .int)) (rv : Rep K ω H v d) : RepKv K ω H (putY ys k b v) (dPut kvs k d) := by
  unfold putY dPut
  rw [r.has]
  split
  · exact r.repl rv
  · exact r.snoc hb rv
theorem ints_rep : ∀ ks : List Int, Reps K ω H (ks.map .int) (ks.map .int)
  | [] => .nil
  | k :: ks => .cons (.int k) (ints_rep ks)
theorem RepKv.key {i : Nat} {y : Dy} : ∀ {ys : List Dy} {kvs : List (D × D)}, RepKv K ω H ys kvs → ys[i]? = some y → ∃ d, (kvs.map (·.1))[i]? = some d ∧ Rep K ω H (.ref y.2.1) d := by
  intro ys kvs r
  induction kvs generalizing ys i with
  | nil => cases r; intro h; simp at h
  | cons p kvs ih =>
    cases r with
    | cons h1 h2 h3 =>
      intro h
      cases i with
      | zero => simp at h; subst h; exact ⟨_, rfl, .tup h1 (ints_rep _)⟩
      | succ i => exact ih h3 (by simpa using h)
end
section
variable {K : PySem.W.Frag} {κ : Kn} {ω : Om} {H : Hp} {σ : L2.St} {δ : Dl} {φ : Fps}
theorem Slots.dct (s : Slots K κ ω H σ δ φ) {i : Nat} {kvs : List (D × D)} (hk : κ i = .dc) (h : δ[i]? = some (some (.dict kvs))) : ∃ a o ys, σ[i]? = some (some (.ref a)) ∧ φ i = [a] ∧ H a = some (dcO a o) ∧ DcIs a o ys ∧ RepKv K ω H ys kvs := by
  obtain ⟨v, h1, h2⟩ := s.at_ i _ h
  rw [hk] at h2
  generalize φ i = f at h2
  cases h2 with
  | dc e c r => exact ⟨_, _, _, h1, rfl, e, c, r⟩
end
end Zd
namespace Zd
open PySem PySem.Spec
open PyProof.Rows L2
def iniA (p1 p2 : Pos) : Arguments := { posonlyargs := [], args := [{ arg := "self", annotation := none, pos := p1 }, { arg := "at", annotation := none, pos := p2 }], vararg := none, kwonlyargs := [], kw_defaults := [], kwarg := none, defaults := [] }
def iniB (m : Str) (q1 q2 q3 q4 q5 q6 q7 q8 q9 q10 : Pos) : List Stmt :=
  [.Expr (.Call (.Attribute (.Call (.Name "super" q1) [] [] q2) "__init__" q3) [.Constant (.str m) 0 q4] [] q5) q6, .Assign [.Attribute (.Name "self" q7) "at" q8] (.Name "at" q9) q10]
def iniS : Scope := { kind := .function, names := [(PySem.Str.ofString "self", .local), (PySem.Str.ofString "at", .local), (PySem.Str.ofString "__class__", .free), (PySem.Str.ofString "super", .globalImplicit)], isGenerator := false, isCoroutine := false, more := [] }
theorem iniS_ok : NdefX.NScope ["self", "at", "__class__"] ["self", "at"] ["__class__"] iniS := NdefX.nscope_by (by decide +kernel)
/-- what the written part says of the class at C and of its __init__ at f -/
structure IniC (P : Program) (K : PySem.W.Frag) (C f : Addr) : Prop where
  T : OexC K C
  fn : ∃ (oc : Value) (od : Option Addr) (qual : Str) (kV doc pm : Value) (an : Option Addr) (cda cc : Addr) (ct : Value) (osl : Array (Option Value)) (m : Str) (p1 p2 q1 q2 q3 q4 q5 q6 q7 q8 q9 q10 : Pos),
    K.lookup f = some ⟨oc, od, .func (PySem.W.fnX "__init__" qual (iniA p1 p2) (iniB m q1 q2 q3 q4 q5 q6 q7 q8 q9 q10) iniS [("__class__", cc)] .none kV doc pm an (.ref cda) ct), osl⟩ ∧ PySem.W.codeIn K (.ref cda) qual = true ∧
    (q3.endLine == q5.line) = true ∧ (∃ cl cld csl, K.lookup cc = some ⟨cl, cld, .cell (some (.ref C)), csl⟩) ∧
    ∃ ccl cdd vs ccs file tf, K.lookup cda = some ⟨ccl, cdd, .fields vs, ccs⟩ ∧ vs[2]? = some (.str file tf) ∧ ((P.main.file : Str) == file) = true
  sub : PySem.W.mroIn K C (.ref C) = some true
  sup : PySem.W.nsIn K mainGlobals "super" = some none
  stat : PySem.W.nsIn K PySem.cStatics "thirdparty.any" = some none
  sin : PySem.W.ks_superIn K C C "__init__" = some (some (.builtin "ValueError.__init__"))
  subV : PySem.W.subIn K (.ref C) (.type "ValueError") = some true
  at_ : PySem.W.findIn K (.ref C) "at" = some none
  iC : PySem.W.findIn K (.ref C) "__init__" = some (some (.ref f))
  tI : PySem.W.typeIn K (.ref f) = some (.type "function")
  top : (P.main.scope.names.lookup ("super" : Str)).isSome = false
/-- its promise -/
def spIni (C : Addr) : Sp := fun vs H Q _ => ∃ a v, vs = [.ref a, v] ∧ H a = some (exo a C none) ∧ ∀ dx, H dx = none → dx ≠ a → Q .non (upd (upd H dx (exd dx [("at", v)])) a (exo a C (some dx)))
section
variable {P : Program} {w : World} {K : PySem.W.Frag} {mg : Str → Option Value} {base : Heap} {k : Nat} {C f : Addr} {CX : CXT}
theorem call_line (env : Env) (e : Expr) (o : Expr) (apos pos : Pos) (hl : (apos.endLine == pos.line) = true) (hs : starEach [e] env = [(false, eval e env)]) : eval (.Call (.Attribute o "__init__" apos) [e] [] pos) env = (do
      let ov ← attributeBase o "__init__" env (eval o env)
      standAt apos.atName
      let (f, first) ← holding [ov] (getMethod ov "__init__" (do return (← importBound o env).getD true))
      callWith pos f first (backTo pos (starEach [e] env)) []) := by
  rw [eval]
  unfold methodCall methodCallPos
  have hf : methodCallForm ([e].length + ([] : List Keyword).length) (backTo pos (starEach [e] env)) (backToKw pos (keywordEach [] env)) = true := by
    rw [hs]; rfl
  rw [hf]
  simp only [hl, Bool.or_true, if_true, pure_bind]
  rfl
theorem bw_call {X : Cx} {pins : List (Addr × Obj)} {σ : L2.St} {H : Hp} {s : Shared} {A : Around} {E : Value → Shared → Prop} {u a : Addr} {us : List Value} {Q : Value → Shared → Prop} (T : OexC X.K C) (I : Inv X pins σ H s) (e : H a = some (exo a C none)) (hu : s.heap.get? u = some (PySem.W.kxs_mw "ValueError.__init__" a)) (hl : us.length ≤ sizeLine)
    (h : ∀ s', Inv X pins σ H s' → Q .none s') : wpAny (model X.prog X.w) A (call (.ref u) us) Q E s := by
  obtain ⟨nm, q, N, bs, bm, sn, sub, ab, col,
            dd, k0, k1, k2, k3, k5, hC, hbm⟩ := T.cls
  obtain ⟨t1,
            ho⟩ := exo_at I.hok e
  have hC' := I.kIn _ _ hC
  obtain ⟨hp, g, d, t, os⟩ := s
  refine wpAny_call (codeAny_of_tree ?_)
  show wpAny _ A.in1 (callAny (.ref u) ⟨us, []⟩) _ _ _
  simp only [callAny]
  refine wpAny_bind (wpAny_load
            hu ?_)
  simp only [PySem.W.kxs_mw, show (Value.type "method-wrapper" == Value.type "method" || Value.type "method-wrapper" == Value.type "builtin_function_or_method" || Value.type "method-wrapper" == Value.type "method-wrapper") = true by decide, if_true]
  rw [if_pos True.intro]
  refine PySem.W.KFB.if_so (c := (Value.type "method-wrapper" != Value.type "method")) (by decide) ?_
  refine wpAny_bind (PySem.W.check_bound_init F.excBase_ValueError.toExcCallFacts hC' ho rfl ?_)
  refine wpAny_bind (wpAny_pure
            (wpAny_pure ?_))
  refine ⟨plainId_quiet F.excBase_ValueError.init.plain _, codeAny_builtin F.excBase_ValueError.initEntry ?_⟩
  refine PySem.W.exc_init_tree (cls := .ref C) (t0 := t1) (dv := none) (c2 := .none) (c3 := .none) (b4 := .bool false) ho hl fun h' k hx _ => ?_
  have J :=
      I.write (t' := t) (x := a) (e := a) (o := exo a C none) (by rw [e]; exact True.intro) (.inl rfl) k ⟨_, hx⟩ (exo_ok hx)
  have eu : upd H a (exo a C none) = H :=
      by
    funext b
    by_cases hb : b = a
    · rw [hb, upd_same, e]
    · rw [upd_ne hb]
  rw [eu] at J
  exact h _ J
theorem vis_self : Vis iniS "self" := .inl (by decide +kernel)
theorem vis_at : Vis iniS "at" := .inl (by decide +kernel)
theorem init_ok (T : IniC P K C f) : ∃ fd : FuncData, (∀ (s : Shared) (u v : Value), BindsTo s fd ⟨[u], [(("at" : Str), v)]⟩ [("self", u), ("at", v)]) ∧ Binds K fd ["self", "at"] [] ∧ FnOk P w K mg base CX (k + 1) f fd ["self", "at"] (spIni C) := by
  obtain ⟨oc, od, qual, kV, doc, pm, an, cda, cc, ct, osl, m, p1, p2, q1, q2, q3, q4, q5, q6, q7, q8, q9, q10, lk, hcd, h35, ⟨cl, cld, csl, lcc⟩, ccl, cdd, vs, ccs, file, tf, lcd, hvs, hfile⟩ := T.fn
  have bn : ∀ (s : Shared) (u v : Value), BindsTo s (PySem.W.fnX "__init__" qual (iniA p1 p2) (iniB m q1 q2 q3 q4 q5 q6 q7 q8 q9 q10) iniS [("__class__", cc)] .none kV doc pm an (.ref cda) ct) ⟨[u, v], []⟩ [("self", u), ("at", v)] := fun s u v => .of_eq rfl
  refine ⟨PySem.W.fnX "__init__" qual (iniA p1 p2) (iniB m q1 q2 q3 q4 q5 q6 q7 q8 q9 q10) iniS [("__class__", cc)] .none kV doc pm an (.ref cda) ct, fun s u v => .of_eq rfl, fun s us hK hl => ?_, ⟨fun vs H Q E ⟨a, v, e, _⟩ => by rw [e]; rfl, fun A outer s H args us vs2 Q E hr e0 hb r hsp => ?_⟩⟩
  · match us, hl with
    | [u, v], _ => exact bn s u v
  obtain ⟨a, v, rfl, ea, hq⟩ := hsp
  cases r with
  | @cons _ ua _ us1 ra r1 =>
  cases r1 with
  | @cons _ u _ us2 ru r2 =>
  cases r2
  obtain rfl : ua = Value.ref a := ra
  have KX : K.In s.heap :=
      e0.mod.kin.keeps fun b o e => (e0.bs b o e).1
  have lim : s.heap.NoLimit :=
      e0.mod.nolimit.keeps fun b o e => (e0.bs b o e).1
  refine codeAny_call_function hr.depth (KX _ _ lk) rfl rfl rfl rfl (PySem.W.codeRec_of KX hcd) (hb _ _ _ _ ?_)
  refine wpAny_newFunctionEnv iniS_ok.nocell (fun ⟨n, _⟩ hy => iniS_ok.par n (List.of_mem_zip hy).1) (fun h₁ hns hsb => ⟨lim.fresh _ hsb, ?_⟩) rfl
  let F : NdefX.NF := ⟨"__init__", qual, iniA p1 p2, iniB m q1 q2 q3 q4 q5 q6 q7 q8 q9 q10, iniS, [("__class__", cc)], cda⟩
  show codeAny _ _ (.func F.body (NdefX.envF F f s.heap.objs.size)) _ _
  refine PySem.ks_codeAny_funcAt ?_
  have kp : ∀ b o, s.heap.get? b = some o → h₁.get? b = some o :=
      fun b o e => hsb.extBut b o (Nat.ne_of_lt (Heap.lt_size e)) (Heap.get?_push_of_some _ e)
  have bcc := e0.mod.kin _ _ lcc
  have CC : NdefX.CellsAt F.cl ["__class__"] [none] s.heap H := by
    have key : ∀ y c, F.cl.lookup y = some c → y = "__class__" ∧ c = cc := fun y c h => by
      have h : List.lookup y [(("__class__" : Str), cc)] = some c := h
      rw [List.lookup_cons] at h
      split at h
      · rename_i z
        exact ⟨by simpa using z, (Option.some.inj h).symm⟩
      · cases h
    refine ⟨rfl, fun y c h => ?_, fun x y c h1 h2 => (key x c h1).1.trans (key y c h2).1.symm, fun i y hi => ?_⟩
    · obtain ⟨_, rfl⟩ := key y c h
      exact ⟨(e0.bs _ _ bcc).2, _, _, (e0.bs _ _ bcc).1, rfl⟩
    · match i, hi with
      | 0, hi =>
        cases hi
        refine ⟨cc, by show List.lookup ("__class__" : Str) [(("__class__" : Str), cc)] = some cc; rw [List.lookup_cons, beq_self_eq_true], fun v z => ?_⟩
        cases z
  have I : L2.Inv (NdefX.ncx CX P w K mg base ["self", "at", "__class__"] F f A outer s H E) [] (NdefX.startF ["self", "at", "__class__"] [.ref a, v] [none]) H { s with heap := h₁, toks := s.toks + 2 } :=
    NdefX.inv_startN iniS_ok hr.hd e0 rfl (.cons rfl (.cons ru .nil)) CC hns kp
  have KX1 : K.In h₁ := I.kIn
  obtain ⟨nm, q, N, bs, bm, sn, sub, ab, col, dd, k0, k1, k2, k3, k5, hC, hbm⟩ := T.T.cls
  have hcl : PySem.W.clsIn K C = some { name := nm, bases := bs, mro := .ref C :: bm, ns := N, qualname := q, hasDict := true, slotNames := sn, subclasses := sub, abstract := ab, collection := col, hasDel := false } := by unfold PySem.W.clsIn; rw [hC] <;> rfl
  obtain ⟨t1, ho⟩ := exo_at I.hok ea
  obtain ⟨mb, hb1, hb2⟩ := I.mod.blt
  have IA : PySem.W.InstAt h₁ a ({ cls := .ref C, dict := none, data := .fields #[.ref t1, .none, .none, .none, .bool false, .none] } : Obj) C none := ⟨ho, rfl, rfl, trivial⟩
  refine PySem.ks_wpAt_execs_cons (PySem.ks_wpAt_Expr_any (PySem.ks_wpAt_MethodCall (he := call_line _ _ _ _ _ h35 rfl) (PySem.ks_wpAt_super_base rfl rfl (by decide) rfl (KX1 _ _ lk) rfl rfl rfl (KX1 _ _ lcd) rfl hvs hfile T.top ?_)))
  refine PySem.W.ks_loadName_global rfl rfl (Calls.loadGlobal_builtin (mb := mb) (I.mod.glob.keeps I.bk) (PySem.W.mg_none_of I.mod.kin I.mod.glob T.sup) (hb1.keeps I.bk) ((hb2 "super" (by decide)).trans (by decide +kernel)) ⟨rfl, ?_⟩)
  refine wpAny_loadName_free rfl rfl rfl ⟨_, KX1 _ _ lcc, rfl⟩ ?_
  have loc : ∀ (i : Nat) (x : Str) (v : V), (["self", "at", "__class__"] : List Str)[i]? = some x → (NdefX.startF ["self", "at", "__class__"] [.ref a, v] [none])[i]? = some (some v) → True := fun _ _ _ _ _ => trivial
  obtain ⟨mm, hn1, hl1⟩ := I.loc
  obtain ⟨us, rs, hls⟩ := hl1 0 "self" (.ref a) rfl rfl (vis_self)
  obtain rfl : us = Value.ref a := rs
  have hms : mm "self" = some (.ref a) := by
    rcases hls with ⟨_, z⟩ | ⟨z, _⟩
    · exact z
    · rcases z with z | z
      · exact absurd (show iniS.names.lookup ("self" : Str) = some NameKind.cell from z) (by decide +kernel)
      · exact absurd (show iniS.names.lookup ("self" : Str) = some NameKind.free from z) (by decide +kernel)
  refine wpAny_loadName_local rfl rfl hn1 hms ?_
  obtain ⟨oD, hD1, hD2⟩ : ∃ oD, h₁.get? C = some oD ∧ ∃ cd, oD.data = .cls cd := ⟨_, KX1 _ _ hC, _, rfl⟩
  obtain ⟨cd, hD2⟩ := hD2
  refine PySem.ks_wpAny_isType_cls hD1 hD2 ⟨rfl, ?_⟩
  refine PySem.ks_wpAny_call_super hD1 hD2 ho rfl (fun c z => by cases z) (PySem.W.looks_mroIn KX1 T.sub) (fun h2 e2 k2 => ?_)
  have I2 := I.kept (t' := s.toks + 2) k2
  have KX2 : K.In h2 := I2.kIn
  have ho2 := k2 _ _ ho
  have IA2 : PySem.W.InstAt h2 a ({ cls := .ref C, dict := none, data := .fields #[.ref t1, .none, .none, .none, .bool false, .none] } : Obj) C none := ⟨ho2, rfl, rfl, trivial⟩
  have hf2 : PySem.W.alongIn K "__init__" (((.ref C :: bm).dropWhile (· != .ref C)).drop 1) = some (some (.builtin "ValueError.__init__")) := by
    have z := T.sin
    unfold PySem.W.ks_superIn at z
    rw [hcl] at z
    exact z
  refine PySem.W.kxs_getMethod PySem.W.kxs_ValueError (l₀ := .ref C :: bm) e2 (PySem.W.looks_opaque KX2 T.stat) (fun A Q E s k q => wpAny_bind ((PySem.W.looks_clsIn KX2 hcl) A _ E s k (wpAny_pure q))) rfl KX2 hf2 (IA2.type.andThen (PySem.W.looks_subIn KX2 T.subV)) (PySem.W.ks_ne KX2 IA2 hcl) (by decide) ?_
  have I3 : L2.Inv (NdefX.ncx CX P w K mg base ["self", "at", "__class__"] F f A outer s H E) [] (NdefX.startF ["self", "at", "__class__"] [.ref a, v] [none]) H { s with heap := h2.push (PySem.W.kxs_mw "ValueError.__init__" a), toks := s.toks + 2 + 1 } :=
    I2.kept fun b o e => Heap.get?_push_of_some _ e
  have hu : (h2.push (PySem.W.kxs_mw "ValueError.__init__" a)).get? h2.objs.size = some (PySem.W.kxs_mw "ValueError.__init__" a) := Heap.get?_push_size _ rfl
  refine PySem.W.kxs_callWith (i := "ValueError.__init__") (x := a) rfl ?_
  refine PySem.Calls.evalArgs_plain ?_
  refine Calls.spliced_cons (Calls.Constant_str (pos := q4) (k := 0) (Calls.spliced_nil ⟨hu, ?_⟩))
  refine bw_call (X := NdefX.ncx CX P w K mg base ["self", "at", "__class__"] F f A outer s H E) T.T (I3.tok _) ea hu (by rw [sizeLine_eq]; exact (by decide : 1 ≤ 16777216)) fun s4 I4 => ?_
  show PySem.wpAt _ _ _ (execs _ _) _ _ _
  refine PySem.ks_wpAt_execs_cons (wpAt_of_wpAny ?_)
  refine wpAny_mono ((ps_ost (X := NdefX.ncx CX P w K mg base ["self", "at", "__class__"] F f A outer s H E) (pe_var (i := 0) rfl vis_self) (pe_var (i := 1) rfl vis_at)).run [] s4 _ H { nx := fun _ H' => Q .non H', rt := fun _ _ => False } I4
    ⟨v, rfl, _, rfl, a, C, rfl, T.T, T.at_, .inl ⟨ea, fun dx n ne => hq dx n ne⟩⟩) (fun fl s5 h5 => ?_) fun _ _ z => z
  cases fl with
  | next =>
    obtain ⟨σ', H', J, q⟩ := h5
    exact wpAt_of_wpAny (wpAny_execs_nil ⟨.non, H', J.os, J.bare, J.base, J.hok, rfl, q⟩)
  | ret _ =>
    obtain ⟨_, _, _, _, _, q⟩ := h5
    exact q.elim
  | brk =>
    obtain ⟨_, _, _, q⟩ := h5
    exact q.elim
  | cont =>
    obtain ⟨_, _, _, q⟩ := h5
    exact q.elim
end
structure ErC (P : Program) (K : PySem.W.Frag) (mg : Str → Option Value) (cls : Cl) (c : Str) : Prop where
  i : ∃ f, IniC P K (cls c) f
  m : mg c = some (.ref (cls c))
  x : XfC K (cls c)
/-- the classes of some names are caught by the class x -/
structure CaC (K : PySem.W.Frag) (mg : Str → Option Value) (cls : Cl) (cs : List Str) (x : Str) : Prop where
  c : ∃ B, mg x = some (.ref B) ∧ ∀ c ∈ cs, PySem.W.exmOne K (.ref (cls c)) (.ref B) = some true
mutual
theorem Rep.sub {K : PySem.W.Frag} {ω ω' : Om} {H : Hp} (h : ∀ a, ω' a → ω a) : ∀ {v : V} {d : D}, Rep K ω H v d → Rep K ω' H v d
  | _, _, .non => .non
  | _, _, .bl b => .bl b
  | _, _, .int i => .int i
  | _, _, .str x => .str x
  | _, _, .tup a r => .tup a (Reps.sub h r)
  | _, _, .lst a r => .lst ⟨a.1, fun z => a.2 (h _ z)⟩ (Reps.sub h r)
  | _, _, .dct a b r => .dct ⟨a.1, fun z => a.2 (h _ z)⟩ b (RepKv.sub h r)
  | _, _, .dk a r => .dk a (RepKd.sub h r)
theorem Reps.sub {K : PySem.W.Frag} {ω ω' : Om} {H : Hp} (h : ∀ a, ω' a → ω a) : ∀ {v : List V} {d : List D}, Reps K ω H v d → Reps K ω' H v d
  | _, _, .nil => .nil
  | _, _, .cons a r => .cons (Rep.sub h a) (Reps.sub h r)
theorem RepKv.sub {K : PySem.W.Frag} {ω ω' : Om} {H : Hp} (h : ∀ a, ω' a → ω a) : ∀ {v : List Dy} {d : List (D × D)}, RepKv K ω H v d → RepKv K ω' H v d
  | _, _, .nil => .nil
  | _, _, .cons a b r => .cons a (Rep.sub h b) (RepKv.sub h r)
theorem RepKd.sub {K : PySem.W.Frag} {ω ω' : Om} {H : Hp} (h : ∀ a, ω' a → ω a) : ∀ {v : List (L2.Key × V)} {d : List (D × D)}, RepKd K ω H v d → RepKd K ω' H v d
  | _, _, .nil => .nil
  | _, _, .cons b r => .cons (Rep.sub h b) (RepKd.sub h r)
end
def pRaise (c : Str) (m : Sm) : Pm := fun δ => m δ >>= fun r => match r.1 with
  | [a] => .ex c a
  | _ => .no
end Zd
namespace Zd
open PySem PySem.Spec
open PyProof.Rows L2
def clsK (K : PySem.W.Frag) : Cl := fun c => match PySem.W.nsIn K mainGlobals c with
  | some (some (.ref C)) => C
  | _ => 0
theorem clsK_of {K : PySem.W.Frag} {c : Str} {C : Addr} (h : PySem.W.nsIn K mainGlobals c = some (some (.ref C))) : clsK K c = C := by unfold clsK; rw [h]
abbrev spK (K : PySem.W.Frag) (F : List D → Rs D) : Sp := spP K (clsK K) .im 1 F
theorem erc_mk {P : Program} {K : PySem.W.Frag} {h : Heap} {mg : Str → Option Value} (X : K.In h) (G : h.Ns mainGlobals mg) {c : Str} {C f : Addr}
    {nm q : Str} {N : Addr} {bs bm : List Value} {sn : List Str} {sub : List Value} {ab : Bool} {col : Option Bool} {dd : Option Addr} {k0 k1 k2 k3 k5 : Option Value}
    {oc : Value} {od : Option Addr} {qual : Str} {kV doc pm : Value} {an : Option Addr} {cda cc : Addr} {ct : Value} {osl : Array (Option Value)} {m : Str} {p1 p2 q1 q2 q3 q4 q5 q6 q7 q8 q9 q10 : Pos}
    {cl : Value} {cld : Option Addr} {csl : Array (Option Value)} {ccl : Value} {cdd : Option Addr} {vs : Array Value} {ccs : Array (Option Value)} {file : Str} {tf : Tok}
    (a : PySem.W.nsIn K mainGlobals c = some (some (.ref C)))
    (xL : K.lookup C = some (excClassObj nm q C N bs bm true sn sub ab col dd k0 k1 k2 k3 k5 "ValueError.__new__")) (hbm : PySem.HandSPX.refsVE bm = true)
    (sa : PySem.W.findIn K (.ref C) "__setattr__" = some (some (.builtin "object.__setattr__"))) (exC : PySem.W.subIn K (.ref C) (.type "BaseException") = some true) (tyC : PySem.W.typeIn K (.ref C) = some (.type "type")) (kC : PySem.W.keepIn K (.ref C) = true)
    (lf : K.lookup f = some ⟨oc, od, .func (PySem.W.fnX "__init__" qual (iniA p1 p2) (iniB m q1 q2 q3 q4 q5 q6 q7 q8 q9 q10) iniS [("__class__", cc)] .none kV doc pm an (.ref cda) ct), osl⟩) (cd : PySem.W.codeIn K (.ref cda) qual = true) (h35 : (q3.endLine == q5.line) = true)
    (lcc : K.lookup cc = some ⟨cl, cld, .cell (some (.ref C)), csl⟩) (lcd : K.lookup cda = some ⟨ccl, cdd, .fields vs, ccs⟩) (hvs : vs[2]? = some (.str file tf)) (hfile : ((P.main.file : Str) == file) = true)
    (sb : PySem.W.mroIn K C (.ref C) = some true) (sup : PySem.W.nsIn K mainGlobals "super" = some none) (stat : PySem.W.nsIn K PySem.cStatics "thirdparty.any" = some none)
    (sin : PySem.W.ks_superIn K C C "__init__" = some (some (.builtin "ValueError.__init__"))) (subV : PySem.W.subIn K (.ref C) (.type "ValueError") = some true) (at_ : PySem.W.findIn K (.ref C) "at" = some none)
    (iC : PySem.W.findIn K (.ref C) "__init__" = some (some (.ref f))) (tI : PySem.W.typeIn K (.ref f) = some (.type "function")) (top : (P.main.scope.names.lookup ("super" : Str)).isSome = false) (xf : xfB K C = true) : ErC P K mg (clsK K) c := by
  have e := clsK_of a
  refine ⟨⟨f, ?_⟩, ?_, ?_⟩
  · rw [e]
    exact ⟨⟨⟨nm, q, N, bs, bm, sn, sub, ab, col, dd, k0, k1, k2, k3, k5, xL, hbm⟩, sa, exC, tyC, kC⟩, ⟨oc, od, qual, kV, doc, pm, an, cda, cc, ct, osl, m, p1, p2, q1, q2, q3, q4, q5, q6, q7, q8, q9, q10, lf, cd, h35, ⟨cl, cld, csl, lcc⟩, ccl, cdd, vs, ccs, file, tf, lcd, hvs, hfile⟩, sb, sup, stat, sin, subV, at_, iC, tI, top⟩
  · rw [e]; exact PySem.W.mg_of X G a
  · rw [e]; exact xfB_ok xf
theorem cac_nil {K : PySem.W.Frag} {h : Heap} {mg : Str → Option Value} (X : K.In h) (G : h.Ns mainGlobals mg) {x : Str} {B : Addr} (a : PySem.W.nsIn K mainGlobals x = some (some (.ref B))) : CaC K mg (clsK K) [] x := ⟨B, PySem.W.mg_of X G a, nofun⟩
theorem cac_cons {K : PySem.W.Frag} {mg : Str → Option Value} {c x : Str} {C B : Addr} {cs : List Str} (hB : mg x = some (.ref B)) (a : PySem.W.nsIn K mainGlobals c = some (some (.ref C))) (e : PySem.W.exmOne K (.ref C) (.ref B) = some true) (h : CaC K mg (clsK K) cs x) : CaC K mg (clsK K) (c :: cs) x := by
  obtain ⟨B', m', h'⟩ := h.c
  rw [hB] at m'
  cases m'
  refine ⟨B, hB, fun d hd => ?_⟩
  rcases (List.mem_cons.mp hd) with
      rfl | hd
  · rw [clsK_of a]; exact e
  · exact h' d hd
end Zd
namespace Zd
open PySem PySem.Spec
open PyProof.Rows L2
abbrev Td := List (Str × D)
def tdE : Td → List (D × D)
  | [] => [(.none, .none)]
  | p :: l => (.str p.1, p.2) :: tdE l
def tGet (l : Td) (k : Str) : Option D := (l.find? fun p => decide (p.1 = k)).map (·.2)
def tHas (l : Td) (k : Str) : Bool := l.any fun p => decide (p.1 = k)
def tPut (l : Td) (k : Str) (d : D) : Td := if tHas l k = true then l.map fun p => if p.1 = k then (p.1, d) else p else l ++ [(k, d)]
section
variable {K : PySem.W.Frag} {ω : Om} {H : Hp}
theorem RepKd.nilI {ks : List (L2.Key × V)} (h : RepKd K ω H ks (tdE [])) : ks = [] := by
  unfold tdE at h
  cases h
  rfl
theorem RepKd.consI {ks : List (L2.Key × V)} {p : Str × D} {l : Td} (h : RepKd K ω H ks (tdE (p :: l))) : ∃ v r, ks = (.inr p.1, v) :: r ∧ Rep K ω H v p.2 ∧ RepKd K ω H r (tdE l) := by
  rw [tdE] at h
  cases h with
  | cons a t => exact ⟨_, _, rfl, a, t⟩
theorem RepKd.len : ∀ {l : Td} {ks : List (L2.Key × V)}, RepKd K ω H ks (tdE l) → ks.length = l.length
  | [], _, h => by rw [h.nilI]; rfl
  | p :: l, _, h => by
    obtain ⟨v, r, rfl, _, t⟩ := h.consI
    rw [List.length_cons, List.length_cons, t.len]
theorem RepKd.has {z : Str} : ∀ {l : Td} {ks : List (L2.Key × V)}, RepKd K ω H ks (tdE l) → (ks.any fun kv => decide (kv.1 = (.inr z : L2.Key))) = tHas l z
  | [], _, h => by rw [h.nilI]; rfl
  | p :: l, _, h => by
    obtain ⟨v, r, rfl, _, t⟩ := h.consI
    unfold tHas
    rw [List.any_cons, List.any_cons, t.has]
    congr 1
    simp
theorem RepKd.get {z : Str} : ∀ {l : Td} {ks : List (L2.Key × V)}, RepKd K ω H ks (tdE l) → (∃ v d, valV ks (.inr z : L2.Key) = some v ∧ tGet l z = some d ∧ Rep K ω H v d) ∨ (valV ks (.inr z : L2.Key) = none ∧ tGet l z = none)
  | [], _, h => by rw [h.nilI]; exact .inr ⟨rfl, rfl⟩
  | p :: l, _, h => by
    obtain ⟨v, r, rfl, rv, t⟩ := h.consI
    by_cases e : p.1 = z
    · refine .inl ⟨v, p.2, valV_pos (by rw [e]), ?_, rv⟩
      unfold tGet
      rw [List.find?_cons, decide_eq_true e]
      rfl
    · have e' : ¬ ((.inr p.1 : L2.Key) = .inr z) := fun q => e (Sum.inr.inj q)
      rw [valV_neg e']
      have g : tGet (p :: l) z = tGet l z := by
        unfold tGet
        rw [List.find?_cons, decide_eq_false e]
      rw [g]
      exact t.get
theorem RepKd.repl {z : Str} {v : V} {d : D} (rv : Rep K ω H v d) : ∀ {l : Td} {ks : List (L2.Key × V)}, RepKd K ω H ks (tdE l) → RepKd K ω H (ks.map fun kv => if kv.1 = (.inr z : L2.Key) then (kv.1, v) else kv) (tdE (l.map fun p => if p.1 = z then (p.1, d) else p))
  | [], _, h => by rw [h.nilI]; exact .nil
  | p :: l, _, h => by
    obtain ⟨w, r, rfl, rw', t⟩ := h.consI
    rw [List.map_cons,
              List.map_cons]
    by_cases e : p.1 = z
    · rw [if_pos (show ((.inr p.1, w) : L2.Key × V).1 = .inr z by rw [e]), if_pos e, tdE]
      exact .cons rv (t.repl rv)
    · rw [if_neg (show ¬ ((.inr p.1, w) : L2.Key × V).1 = .inr z from fun q => e (Sum.inr.inj q)), if_neg e, tdE]
      exact .cons rw' (t.repl rv)
theorem RepKd.snoc {z : Str} {v : V} {d : D} (rv : Rep K ω H v d) : ∀ {l : Td} {ks : List (L2.Key × V)}, RepKd K ω H ks (tdE l) → RepKd K ω H (ks ++ [(.inr z, v)]) (tdE (l ++ [(z, d)]))
  | [], _, h => by rw [h.nilI]; exact .cons rv .nil
  | p :: l, _, h => by
    obtain ⟨w, r, rfl, rw', t⟩ := h.consI
    rw [List.cons_append, List.cons_append, tdE]
    exact .cons rw' (t.snoc rv)
theorem RepKd.put {z : Str} {v : V} {d : D} {l : Td} {ks : List (L2.Key × V)} (h : RepKd K ω H ks (tdE l)) (rv : Rep K ω H v d) : RepKd K ω H (putK ks (.inr z : L2.Key) v) (tdE (tPut l z d)) := by
  unfold putK tPut
  rw [h.has]
  split
  · exact h.repl rv
  · exact h.snoc rv
theorem RepKd.at {i : Nat} {k : L2.Key} {v : V} : ∀ {l : Td} {ks : List (L2.Key × V)}, RepKd K ω H ks (tdE l) → ks[i]? = some (k, v) → ∃ p, l[i]? = some p ∧ k = .inr p.1 ∧ Rep K ω H v p.2 := by
  induction i with
  | zero =>
    intro l ks h e
    cases l with
    | nil => rw [h.nilI] at e; cases e
    | cons p l =>
      obtain ⟨w, r, rfl, rv, t⟩ := h.consI
      cases e
      exact ⟨p, rfl, rfl, rv⟩
  | succ i ih =>
    intro l ks h e
    cases l with
    | nil => rw [h.nilI] at e; cases e
    | cons p l =>
      obtain ⟨w, r, rfl, rv, t⟩ := h.consI
      exact ih t e
end
end Zd
namespace Zd
open PySem PySem.Spec
open PyProof.Rows L2
end Zd
namespace Zd
open PySem PySem.Spec
open PyProof.Rows L2
end Zd
namespace Zd
open PySem PySem.Spec
open PyProof.Rows L2
end Zd
namespace Zd
open PySem PySem.Spec
open PyProof.Rows L2
class KdOff (κ : Kn) (ks : List Nat) : Prop where
  ok : ∀ j, j ∈ ks ∨ noDk (κ j) = true
instance kdo_kin {κ : Kn} {vs ks : List Nat} [kd : KdOff κ ks] : KdOff (kin κ vs) ks := ⟨fun j => by unfold kin; split; exact .inr rfl; exact kd.ok j⟩
end Zd
namespace Zd
open PySem PySem.Spec
open PyProof.Rows L2
theorem Out.some {α : Type} {m : Rs α} {q : α → Prop} (h : Out m q (fun _ _ => False)) : ∃ a, m = .ok a ∧ q a := by
  cases m with
  | ok a => exact ⟨a, rfl, h⟩
  | ex c a => exact h.elim
  | no => exact h.elim
theorem Reps.ln {K : PySem.W.Frag} {ω : Om} {H : Hp} : ∀ {vs : List V} {ds : List D}, Reps K ω H vs ds → vs.length = ds.length
  | _, _, .nil => rfl
  | _, _, .cons _ r => by rw [List.length_cons, List.length_cons, r.ln]
end Zd
namespace Zd
open PySem PySem.Spec
open PyProof.Rows L2
section
variable {K : PySem.W.Frag} {κ : Kn} {ω : Om} {H : Hp}
abbrev segs (n : Nat) (φ : Fps) : List Addr := (List.range n).flatMap φ
theorem segs_succ (n : Nat) (φ : Fps) : segs (n + 1) φ = φ 0 ++ segs n (fun i => φ (i + 1)) := by
  unfold segs
  rw [List.range_succ_eq_map, List.flatMap_cons, List.flatMap_map]
theorem Owns.un : ∀ {shs : List Sh} {vs : List V} {ds : List D} {f : List Addr}, Owns K ω H shs vs ds f → ∃ φ : Fps, f = segs shs.length φ ∧ vs.length = shs.length ∧ ds.length = shs.length ∧ (∀ i, shs.length ≤ i → φ i = []) ∧ ∀ i sh v d, shs[i]? = some sh → vs[i]? = some v → ds[i]? = some d → Own K ω H sh v d (φ i)
  | _, _, _, _, .nil => ⟨fun _ => [], rfl, rfl, rfl, fun _ _ => rfl, fun i sh v d h => by cases i <;> cases h⟩
  | _, _, _, _, @Owns.cons _ _ _ s ss v vs d ds f g o t => by
    obtain ⟨φ, e, h1, h2, h3, h4⟩ := t.un
    refine ⟨fun i => match i with | 0 => f | i + 1 => φ i, ?_, by rw [List.length_cons, List.length_cons, h1], by rw [List.length_cons, List.length_cons, h2], fun i hi => ?_, fun i sh v' d' e1 e2 e3 => ?_⟩
    · rw [List.length_cons, segs_succ, e]
    · cases i with
      | zero => rw [List.length_cons] at hi; omega
      | succ i => exact h3 i (by rw [List.length_cons] at hi; omega)
    · cases i with
      | zero => cases e1; cases e2; cases e3; exact o
      | succ i => exact h4 i sh v' d' e1 e2 e3
end
def lkOk (κ : Kn) (N : List Str) : List (Option Nat) → List Sh → Prop
  | some i :: is, sh :: shs => (κ i = sh ∧ ∃ y, N[i]? = some y) ∧ lkOk κ N is shs
  | none :: is, _ :: shs => lkOk κ N is shs
  | _, _ => True
theorem lkOk.of {κ : Kn} {N : List Str} : ∀ {is : List (Option Nat)} {shs : List Sh}, lkOk κ N is shs → ∀ (j : Nat) i sh, is[j]? = some (some i) → shs[j]? = some sh → κ i = sh ∧ i < N.length
  | [], _, _, j, i, sh, e, _ => by cases j <;> cases e
  | _ :: _, [], _, j, i, sh, _, e => by cases j <;> cases e
  | some k :: is, s :: shs, h, j, i, sh, e1, e2 => by
    cases j with
    | zero =>
      cases e1; cases e2
      obtain ⟨h1, y, h2⟩ := h.1
      exact ⟨h1, (List.getElem?_eq_some_iff.mp h2).1⟩
    | succ j => exact lkOk.of h.2 j i sh e1 e2
  | none :: is, s :: shs, h, j, i, sh, e1, e2 => by
    cases j with
    | zero => cases e1
    | succ j => exact lkOk.of (is := is) (shs := shs) h j i sh e1 e2
end Zd
namespace Zd
open PySem PySem.Spec
open PyProof.Rows L2
end Zd
namespace Zd
open PySem PySem.Spec
open PyProof.Rows L2
end Zd
namespace Zd
open PySem PySem.Spec
open PyProof.Rows L2
end Zd
namespace Zd
open PySem PySem.Spec
open PyProof.Rows L2
end Zd
namespace Zd
open PySem PySem.Spec
open PyProof.Rows L2
open PySem.W PySem.Calls
end Zd
namespace Zd
open PySem PySem.Spec
open PyProof.Rows L2
end Zd
namespace Zd
open PySem PySem.Spec
open PyProof.Rows L2
open PySem.W PySem.Calls
def Cxi (X : Cx) (E : Value → Shared → Prop) : Cx := { X with A := X.A.in1.in1, xe := E }
theorem Cxi.ok {X : Cx} {E : Value → Shared → Prop} (o : X.Ok) : (Cxi X E).Ok where
  mod := o.mod
  kind := o.kind
  glob := o.glob
  blt := o.blt
  above := o.above
  inj := o.inj
  has := o.has
  cab := o.cab
  hd := o.hd
  frames := o.frames
  stk := o.stk
  exf := o.exf
  bs := o.bs
  bsz := o.bsz
  noex := o.noex
  exfs := o.exfs
  funs := o.funs
  frf := o.frf
abbrev Ob : Om := fun _ => False
theorem IntsAre.reads {h : Heap} : ∀ {vs : List Value} {ns : List Int}, IntsAre vs ns → EachIs (fun v d => ∃ as, Reads h v d as) vs (ns.map PyData.int)
  | _, _, .nil => .nil
  | _, _, .cons n t r => .cons ⟨[], .int n t⟩ (IntsAre.reads r)
theorem IntsAre.len : ∀ {vs : List Value} {ns : List Int}, IntsAre vs ns → vs.length = ns.length
  | _, _, .nil => rfl
  | _, _, .cons n t r => congrArg (· + 1) (IntsAre.len r)
theorem Step.ob {ω ω' P : Om} {H H' : Hp} (st : Step ω Ob H ω' Ob H') (sub : ∀ a, P a → ω a) (wf : Wf ω H) : Step ω P H ω' P H' :=
  ⟨fun a o h _ => st.keep a o h id, st.om, fun a h _ => st.stay a h id, fun a h => .inl h, sub, wf⟩
end Zd
namespace PySem
open Sem (wp)
open AutoSeq1 (wpAny_loadPart')
end PySem
namespace PySem
end PySem
namespace Zd
open PySem PySem.Spec
open PyProof.Rows L2
open PySem.W PySem.Calls
end Zd
namespace Zd
open PySem PySem.Spec L2 PySem.HandSPX
/-- the class at C, made by newId, its ancestors bm -/
def ExAt (h : Heap) (C : Addr) (bm : List Value) (newId : String) : Prop := ∃ (nm q : Str) (N : Addr) (bs : List Value) (hd : Bool) (sn : List Str) (sub : List Value) (ab : Bool) (col : Option Bool) (dd : Option Addr) (k0 k1 k2 k3 k5 : Option Value),
  h.get? C = some (excClassObj nm q C N bs bm hd sn sub ab col dd k0 k1 k2 k3 k5 newId)
/-- its ancestors are those of the base's facts -/
structure Anc (bm : List Value) (C : Addr) (B : String) : Prop where
  base : (Value.ref C :: bm).contains (.type B) = true
  attr : (Value.ref C :: bm).contains (.type "AttributeError") = false
  name : (Value.ref C :: bm).contains (.type "NameError") = false
theorem Anc.of {bm bmB : List Value} {C : Addr} {B newId initId : String} (F : ExcBaseFacts B newId initId bmB) (hT : ∀ X : String, bm.contains (.type X) = bmB.contains (.type X)) : Anc bm C B :=
  have c : ∀ X : String, (Value.ref C :: bm).contains (.type X) = bmB.contains (.type X) := fun X => (List.contains_cons ..).trans ((Bool.false_or _).trans (hT X))
  ⟨(c B).trans F.hasB, (c _).trans F.noAttr, (c _).trans F.noName⟩
section
variable {prog : Program} {w : World} {A : Around} {E : Value → Shared → Prop} {h : Heap} {g : Array GenState} {d : Drawn} {t : Nat} {os : OsState} {C : Addr} {bm bmB rest : List Value} {kw : List (Str × Value)} {B newId initId : String}
theorem kw_let {M : Model} {Q : Unit → Shared → Prop} (F : ExcBaseFacts B newId initId bmB) (N : Anc bm C B) (hc : ExAt h C bm newId) (q : Q () ⟨h, g, d, t, os⟩) : wpAny M A (checkBuiltinCall newId ⟨.ref C :: rest, kw⟩) Q E ⟨h, g, d, t, os⟩ := by
  obtain ⟨_, _, _, _, _, _, _, _, _, _, _, _, _, _, _, at_⟩ := hc
  have star := F.noStar
  unfold checkBuiltinCall
  simp only [F.newRow, F.newSplit, F.newKind]
  repeat (first
    | exact q
    | refine wpAny_madeBy_exc at_ ?_
    | refine wpAny_staticBase_exc at_ ?_
    | refine wpAny_loadPart_at at_ ?_
    | (refine wpAny_isSubtype_exc at_ ?_; rw [N.base])
    | simp only [Bool.false_eq_true, if_false, bne_self_eq_false]
    | wp_step)
theorem kw_new {R : Result → Shared → Prop} (F : ExcBaseFacts B newId initId bmB) (N : Anc bm C B) (hc : ExAt h C bm newId) (hr : rest.length ≤ sizeLine)
    (q : R (.ok (.ret (.ref (h.objs.size + 1)))) ⟨(h.push (W.kdv_tup rest)).push (excO C h.objs.size), g, d, t, os⟩) : codeAny (model prog w) A (.builtin newId ⟨.ref C :: rest, kw⟩) R ⟨h, g, d, t, os⟩ := by
  obtain ⟨_, _, _, _, _, _, _, _, _, _, _, _, _, _, _, at_⟩ := hc
  have ends := F.ends
  have q' : R (.ok (.ret (.ref (h.push (W.kdv_tup rest)).objs.size))) ⟨(h.push (W.kdv_tup rest)).push (excO C h.objs.size), g, d, t, os⟩ := by rw [Heap.size_push]; exact q
  apply codeAny_builtinAt F.entry
  unfold Builtin.«BaseException.__new__»
  apply wpAt_bind
  show wpAt _ _ _ (do let x ← stack; _) _ _ _
  apply wpAt_bind
  apply wpAt_stack
  intro top below
  apply wpAt_of_wpAny
  wp_walk
  apply wpAt_of_wpAny
  rw [F.owner]
  repeat (first
    | exact q'
    | with_reducible refine wpAny_loadPart_at at_ ?_
    | with_reducible refine wpAny_madeHere_exc F.canon at_ ?_
    | (with_reducible refine wpAny_isSubtype_exc at_ ?_; first | rw [N.name] | rw [N.attr] | rw [N.base])
    | wp_step)
/-- how __init__ is to end -/
def InitEnd (a : Addr) (Q : PySem.Fin → Shared → Prop) (E : Value → Shared → Prop) : Result → Shared → Prop
  | .ok (.ret v), s' => v = .none ∧ Q (.done (.ret (.ref a))) s'
  | .ok _, _ => False
  | .error e, s' => E e s'
variable {fI : Addr}
theorem kw_call {Q : PySem.Fin → Shared → Prop} (F : ExcBaseFacts B newId initId bmB) (N : Anc bm C B) (hc : ExAt h C bm newId) (li : W.Looks (model prog w) h (typeLookup (.ref C) "__init__") (some (.ref fI))) (lb : ∀ self, W.Looks (model prog w) h (bindSpecial (.ref fI) self) (.ref fI, [self])) (hr : rest.length ≤ sizeLine)
    (q : codeAny (model prog w) A (.call (.ref fI) ⟨.ref (h.objs.size + 1) :: rest, kw⟩) (InitEnd (h.objs.size + 1) Q E) ⟨(h.push (W.kdv_tup rest)).push (excO C h.objs.size), g, d, t, os⟩) : wpAny (model prog w) A (Builtin.«type.__call__» ⟨.ref C :: rest, kw⟩) Q E ⟨h, g, d, t, os⟩ := by
  have hc' := hc
  obtain ⟨_, _, _, _, _, _, _, _, _, _, _, _, _, _, _, at_⟩ := hc'
  have up : ∀ b o, h.get? b = some o → ((h.push (W.kdv_tup rest)).push (excO C h.objs.size)).get? b = some o := fun b o z => Heap.get?_push_of_some _ (Heap.get?_push_of_some _ z)
  have made : ((h.push (W.kdv_tup rest)).push (excO C h.objs.size)).get? (h.objs.size + 1) = some (excO C h.objs.size) := by heap_get
  have self_ : (Value.ref C :: bm).contains (.ref C) = true := by simp
  have lk := li.keeps up
  have bd := fun x => (lb x).keeps up
  repeat (first | with_reducible refine wpAny_madeBy_exc at_ ?_ | with_reducible refine wpAny_loadPart_at at_ ?_ | wp_step)
  apply codeAny_call_builtin_code (Code.quiet_builtin _ F.quiet)
  apply kw_let F N hc
  apply kw_new F N hc hr
  show wpAny _ _ _ _ _ _
  unfold isInstance
  repeat (first | (with_reducible refine wpAny_isSubtype_exc (up _ _ at_) ?_; rw [self_]) | with_reducible refine wpAny_loadPart_at made ?_ | wp_step)
  change wpAny _ A (typeLookup (.ref C) (Str.ofString "__init__")) _ _ _
  apply lk.at
  apply wpAny_holding
  apply wpAny_bind
  apply (bd _).at
  apply wpAny_bind
  apply wpAny_call
  refine codeAny_mono q ?_
  rintro (e | f) s' z
  · exact z
  · cases f with
    | ret v =>
      obtain ⟨rfl, z⟩ := z
      wp_walk
      exact z
    | _ => exact z.elim
theorem kw_make {R : Result → Shared → Prop} (F : ExcBaseFacts B newId initId bmB) (N : Anc bm C B) (hc : ExAt h C bm newId) (li : W.Looks (model prog w) h (typeLookup (.ref C) "__init__") (some (.ref fI))) (lb : ∀ self, W.Looks (model prog w) h (bindSpecial (.ref fI) self) (.ref fI, [self])) (hr : rest.length ≤ sizeLine)
    (q : codeAny (model prog w) (A.under (.builtin "type.__call__" ⟨.ref C :: rest, kw⟩)) (.call (.ref fI) ⟨.ref (h.objs.size + 1) :: rest, kw⟩) (W.InitBack (h.objs.size + 1) R) ⟨(h.push (W.kdv_tup rest)).push (excO C h.objs.size), g, d, t, os⟩) :
    codeAny (model prog w) A (.call (.ref
              C) ⟨rest, kw⟩) R ⟨h, g, d, t, os⟩ := by
  have hc' := hc
  obtain ⟨_, _, _, _, _, _, _, _, _, _, _, _, _, _, _, at_⟩ := hc'
  have ty : Shared.TypeIs ⟨h, g, d, t, os⟩ (.ref C) "type" := ⟨_, at_, rfl⟩
  have lt := tc_lookup
  have bt := tc_bind (.ref C)
  apply codeAny_of_tree
  change wpAny _ _ (callAny (.ref C) ⟨rest, kw⟩) _ _ _
  repeat (any_goals (first | assumption | wp_step | with_reducible refine wpAny_loadPart_at at_ ?_))
  refine ⟨rfl, codeAny_call_builtin_at (Code.quiet_builtin _ (by decide +kernel)) entry_typeCall (wpAny_check_type_call_sub at_ (kw_call F N hc li lb hr (codeAny_mono q ?_)))⟩
  rintro (e | f) s' z
  · exact z
  · cases f <;> exact z
end
def tNewK (C : Addr) (tk : TA) : TE := fun σ H Q => tk σ H fun zs H2 => ∃ v, zs = [v] ∧ ∀ a dx, H2 a = none → H2 dx = none → dx ≠ a → Q (.ref a) (upd (upd (upd H2 a (exo a C none)) dx (exd dx [("at", v)])) a (exo a C (some dx)))
section
variable {X : Cx} {c : Str} {C f : Addr} {k : Nat} {p pos pos' : Pos} {kws : List Keyword} {tk : TA}
theorem pe_newK (T : IniC X.prog X.K C f) (hr : Room (k + 2) X.A) (hg : Gl X c) (hm : X.mg c = some (.ref C)) (hkw : PK X kws tk) (hall : (backToKw pos (keywordEach kws X.env)).all (·.1.isSome) = true) (hks : (backToKw pos (keywordEach kws X.env)).filterMap (·.1) = [("at" : Str)])
    (hdb : (c == ("__debug__" : Str)) = false) (hpl : ((backTo pos (starEach [] X.env)).any (·.1) || (backToKw pos (keywordEach kws X.env)).any (·.1.isNone)) = false) :
    PE X (.Call (.Name c p) [] kws pos) (tNewK C tk) := by
  obtain ⟨fd, hbk, _, F1⟩ := init_ok (P := X.prog) (w := X.w) (K := X.K) (mg := X.mg) (base := X.base) (k := k) (CX := fun _ _ _ _ _ _ => False) T
  refine ⟨fun pins s
            σ H Q I h => ?_⟩
  obtain ⟨nm, q, N, bs, bm, sn, sub, ab, col, dd, k0, k1, k2, k3, k5, hC, hbm⟩ := T.T.cls
  refine wpAny_Call_Name_kw (ld_glob
            I hg hm ?_ hdb)
  refine PySem.W.callWith_KW0 (h₀ := X.base) I.ok.mod.kin T.T.kC hall (thn (hkw.run pos pins s σ H _ I h) fun ws s2 ⟨zs, H2, I2, rz, q2⟩ => ⟨I2.kIn, ?_⟩) hpl
  rw [hks]
  obtain ⟨v, rfl, q2⟩ := q2
  cases rz with
  | @cons _ u _ us ru rr =>
  cases rr
  obtain ⟨hp, g, dr, tk', os⟩ := s2
  have hsz : hp.objs.size ≤ hp.objs.size + 1 :=
      Nat.le_succ _
  have hn : H2 (hp.objs.size + 1) = none := I2.hok.fresh hsz
  have kk : ∀ b o, hp.get? b = some o → ((hp.push (PySem.W.kdv_tup [])).push (PySem.HandSPX.excO C hp.objs.size)).get? b = some o := fun b o e => Heap.get?_push_of_some _ (Heap.get?_push_of_some _ e)
  have hget : ((hp.push (PySem.W.kdv_tup [])).push (PySem.HandSPX.excO C hp.objs.size)).get? (hp.objs.size + 1) = some (PySem.HandSPX.excO C hp.objs.size) := by heap_get
  have I3 : Inv X pins σ (upd H2 (hp.objs.size + 1) (exo (hp.objs.size + 1) C none)) ⟨(hp.push (PySem.W.kdv_tup [])).push (PySem.HandSPX.excO C hp.objs.size), g, dr, tk', os⟩ :=
    I2.laid (t' := tk') (a := hp.objs.size + 1) (o := exo (hp.objs.size + 1) C none) (h' := (hp.push (PySem.W.kdv_tup [])).push (PySem.HandSPX.excO C hp.objs.size)) kk hsz (exo_ok hget)
  have r3 : Vals [V.ref (hp.objs.size + 1), v] [Value.ref (hp.objs.size + 1), u] := .cons rfl (.cons ru .nil)
  have hq : spIni C [V.ref (hp.objs.size + 1), v] (upd H2 (hp.objs.size + 1) (exo (hp.objs.size + 1) C none)) (fun x H4 => x = .non ∧ Q (.ref (hp.objs.size + 1)) H4) (fun _ _ _ => False) :=
    ⟨_, v, rfl, upd_same, fun dx nd ne => ⟨rfl, q2 _ dx hn (by rw [upd_ne ne] at nd; exact nd) ne⟩⟩
  refine wpAny_call (kw_make F.excBase_ValueError (Anc.of F.excBase_ValueError fun Y => PySem.HandSPX.refsVE_contains Y bm hbm) ⟨_, _, _, _, _, _, _, _, _, _, _, _, _, _, _, I2.kIn _ _ hC⟩ (PySem.W.looks_findIn I2.kIn T.iC) (fun self => PySem.W.bind_fn I2.kIn self T.tI) (by rw [sizeLine_eq]; exact (by decide : 0 ≤ 16777216))
    (codeAny_mono (F1.run _ X.stack _ _ ⟨[Value.ref (hp.objs.size + 1)], [(("at" : Str), u)]⟩ [Value.ref (hp.objs.size + 1), u] _ _ (fun _ _ _ => False) (Room.make (hr.mono (Nat.le_refl _)) C [] [(("at" : Str), u)]) (I3.env0.make C [] [(("at" : Str), u)]) (hbk _ _ _) r3 hq) fun r s' hq' => ?_))
  cases r with
  | error er => exact hq'.elim
  | ok fl =>
    cases fl with
    | ret u2 =>
      obtain ⟨x, H4, os2, bare2, un2, hok2, rv, ev, q4⟩ := hq'
      subst ev
      obtain ⟨h4, g4, d4, t4, os4⟩ := s'
      exact ⟨rv, .ref (hp.objs.size + 1), H4, I3.call' (ch := []) os2 un2 hok2 bare2 (fun b z => absurd z (by simp)), rfl, q4⟩
    | next => exact False.elim hq'
    | brk => exact False.elim hq'
    | cont => exact False.elim hq'
end
def tNewAt (C : Addr) (tk : TA) : TE := fun σ H Q => tNewK C tk σ H fun x H1 => ∃ a dx v, x = .ref a ∧ H1 a = some (exo a C (some dx)) ∧ H1 dx = some (exd dx [("at", v)]) ∧ Q v H1
section
variable {X : Cx} {c : Str} {C f : Addr} {k : Nat} {p pos pos' : Pos} {kws : List Keyword} {tk : TA}
theorem pe_newAt (T : IniC X.prog X.K C f) (Xf : XfC X.K C) (he : PE X (.Call (.Name c p) [] kws pos) (tNewK C tk))
    (hb : attributeBase (.Call (.Name c p) [] kws pos) "at" X.env (eval (.Call (.Name c p) [] kws pos) X.env) = eval (.Call (.Name c p) [] kws pos) X.env := by rfl) :
    PE X (.Attribute (.Call (.Name c p) [] kws pos) "at" pos') (tNewAt C tk) := by
  refine ⟨fun pins s
            σ H Q I h => ?_⟩
  refine attr_of hb (thn (he.run pins
            s σ H _ I h) fun u s1 hh => ?_)
  obtain ⟨x, H1, I1, rx, a, dx, v, ex, ea, ed, q⟩ := hh
  subst ex
  obtain rfl : u = Value.ref a := rx
  obtain ⟨t1, ha⟩ := exo_at I1.hok ea
  obtain ⟨mA, hns, hr⟩ := exd_at I1.hok ed
  obtain ⟨od, ho,
            hl⟩ := lookIn_ns hns
  obtain ⟨u, hu, ru⟩ := RelO.some_of (v := v) (o := mA "at") (hr "at")
  have J : PySem.W.InstAt s1.heap a ({ cls := .ref C, dict := some dx, data := .fields #[.ref t1, .none, .none, .none, .bool false, .none] } : Obj) C (some od) := ⟨ha, rfl, rfl, ho⟩
  exact HandSPX.exc_get I1.kIn J Xf.ga Xf.gg Xf.exC (PySem.W.findObj_own Xf.hdC T.at_ rfl (by rw [hl, hu])) (handed_of ru) ⟨v, H1, I1.tok _, ru, q⟩
end
/-- an error made and asked at once -/
def mAtC (m : Sm) : Em := fun δ => m δ >>= fun r => match r.1 with
  | [a] => .ok (a, r.2)
  | _ => .no
section
variable {X : Cx} {G : Gm} {c : Str} {k : Nat} {p pos pos' : Pos} {kws : List Keyword} {m : Sm}
theorem xAtC (T : ErC X.prog X.K X.mg G.cls c) (hr : Room (k + 2) X.A) (hkw : PK X kws (tS G m)) (hl : Len 1 m) (hg : Gl X c := by rfl) (hK : X.K = G.K := by rfl) (hall : (backToKw pos (keywordEach kws X.env)).all (·.1.isSome) = true := by rfl) (hks : (backToKw pos (keywordEach kws X.env)).filterMap (·.1) = [("at" : Str)] := by rfl)
    (hdb : (c == ("__debug__" : Str)) = false := by decide) (hpl : ((backTo pos (starEach [] X.env)).any (·.1) || (backToKw pos (keywordEach kws X.env)).any (·.1.isNone)) = false := by rfl)
    (hb : attributeBase (.Call (.Name c p) [] kws pos) "at" X.env (eval (.Call (.Name c p) [] kws pos) X.env) = eval (.Call (.Name c p) [] kws pos) X.env := by rfl) :
    PE X (.Attribute (.Call (.Name c p) [] kws pos) "at" pos') (tI G (mAtC m)) := by
  obtain ⟨f, I⟩ := T.i
  refine pe_if (pe_newAt I T.x (pe_newK (k := k) I hr hg T.m hkw hall hks hdb hpl) hb) fun σ H Q ⟨ω, δ, φ, s, o⟩ => ?_
  refine ⟨ω, δ, φ, s, ?_⟩
  have o1 := Out.bind o
  cases em : m δ with
  | no => rw [em] at o1; exact o1.elim
  | ex c a => rw [em] at o1; exact o1
  | ok r =>
    rw [em] at o1
    intro ω' H' φ' vs st s' rp
    have l1 := hl _ _ em
    obtain ⟨rl, r2⟩ := r
    simp only at l1
    match rl, l1 with
    | [d], _ =>
      match vs, rp with
      | [v], .cons rv _ =>
        refine ⟨v, rfl, fun a dx na nd ne => ⟨a, dx, v, rfl, upd_same, by rw [upd_ne ne, upd_same], ?_⟩⟩
        have eH : upd (upd (upd H' a (exo a (G.cls c) none)) dx (exd dx [("at", v)])) a (exo a (G.cls c) (some dx)) = upd (upd H' dx (exd dx [("at", v)])) a (exo a (G.cls c) (some dx)) := by
          funext y
          by_cases h1 : y = a
          · rw [h1, upd_same, upd_same]
          · rw [upd_ne h1, upd_ne h1]
            by_cases h2 : y = dx
            · rw [h2, upd_same, upd_same]
            · rw [upd_ne h2, upd_ne h2, upd_ne h1]
        rw [eH]
        have x1 : Ext H' (upd H' dx (exd dx [("at", v)])) := Ext.upd nd
        have x2 : Ext (upd H' dx (exd dx [("at", v)])) (upd (upd H' dx (exd dx [("at", v)])) a (exo a (G.cls c) (some dx))) := Ext.upd (by rw [upd_ne (Ne.symm ne)]; exact na)
        have s1 := s'.ext x1
        have st1 := (st.trans (s'.step x1)).trans (s1.step x2)
        exact o1 ω' _ φ' v st1 (s1.ext x2) ((Rep.up rv (s'.step x1).grow).up (s1.step x2).grow)
end
end Zd
namespace Zd
open PySem PySem.Spec
open PyProof.Rows L2
def ini0A (p1 : Pos) : Arguments := { posonlyargs := [], args := [{ arg := "self", annotation := none, pos := p1 }], vararg := none, kwonlyargs := [], kw_defaults := [], kwarg := none, defaults := [] }
def ini0B (m : Str) (q1 q2 q3 q4 q5 q6 : Pos) : List Stmt := [.Expr (.Call (.Attribute (.Call (.Name "super" q1) [] [] q2) "__init__" q3) [.Constant (.str m) 0 q4] [] q5) q6]
def ini0S : Scope := { kind := .function, names := [(PySem.Str.ofString "self", .local), (PySem.Str.ofString "__class__", .free), (PySem.Str.ofString "super", .globalImplicit)], isGenerator := false, isCoroutine := false, more := [] }
theorem ini0S_ok : NdefX.NScope ["self", "__class__"] ["self"] ["__class__"] ini0S := NdefX.nscope_by (by decide +kernel)
structure Ini0C (P : Program) (K : PySem.W.Frag) (C f : Addr) : Prop where
  T : OexC K C
  fn : ∃ (oc : Value) (od : Option Addr) (qual : Str) (kV doc pm : Value) (an : Option Addr) (cda cc : Addr) (ct : Value) (osl : Array (Option Value)) (m : Str) (p1 q1 q2 q3 q4 q5 q6 : Pos),
    K.lookup f = some ⟨oc, od, .func (PySem.W.fnX "__init__" qual (ini0A p1) (ini0B m q1 q2 q3 q4 q5 q6) ini0S [("__class__", cc)] .none kV doc pm an (.ref cda) ct), osl⟩ ∧ PySem.W.codeIn K (.ref cda) qual = true ∧
    (q3.endLine == q5.line) = true ∧ (∃ cl cld csl, K.lookup cc = some ⟨cl, cld, .cell (some (.ref C)), csl⟩) ∧
    ∃ ccl cdd vs ccs file tf, K.lookup cda = some ⟨ccl, cdd, .fields vs, ccs⟩ ∧ vs[2]? = some (.str file tf) ∧ ((P.main.file : Str) == file) = true
  sub : PySem.W.mroIn K C (.ref C) = some true
  sup : PySem.W.nsIn K mainGlobals "super" = some none
  stat : PySem.W.nsIn K PySem.cStatics "thirdparty.any" = some none
  sin : PySem.W.ks_superIn K C C "__init__" = some (some (.builtin "ValueError.__init__"))
  subV : PySem.W.subIn K (.ref C) (.type "ValueError") = some true
  iC : PySem.W.findIn K (.ref C) "__init__" = some (some (.ref f))
  tI : PySem.W.typeIn K (.ref f) = some (.type "function")
  top : (P.main.scope.names.lookup ("super" : Str)).isSome = false
def spIni0 (C : Addr) : Sp := fun vs H Q _ => ∃ a, vs = [.ref a] ∧ H a = some (exo a C none) ∧ Q .non H
theorem vis_self0 : Vis ini0S "self" := .inl (by decide +kernel)
section
variable {P : Program} {w : World} {K : PySem.W.Frag} {mg : Str → Option Value} {base : Heap} {k : Nat} {C f : Addr} {CX : CXT}
theorem init0_ok (T : Ini0C P K C f) : ∃ fd : FuncData, (∀ (s : Shared) (u : Value), BindsTo s fd ⟨[u], []⟩ [("self", u)]) ∧ FnOk P w K mg base CX (k + 1) f fd ["self"] (spIni0 C) := by
  obtain ⟨oc, od, qual, kV, doc, pm, an, cda, cc, ct, osl, m, p1, q1, q2, q3, q4, q5, q6, lk, hcd, h35, ⟨cl, cld, csl, lcc⟩, ccl, cdd, vs, ccs, file, tf, lcd, hvs, hfile⟩ := T.fn
  refine ⟨PySem.W.fnX "__init__" qual (ini0A p1) (ini0B m q1 q2 q3 q4 q5 q6) ini0S [("__class__", cc)] .none kV doc pm an (.ref cda) ct, fun s u => .of_eq rfl, ⟨fun vs H Q E ⟨a, e, _⟩ => by rw [e]; rfl, fun A outer s H args us vs2 Q E hr e0 hb r hsp => ?_⟩⟩
  obtain ⟨a, rfl, ea, hq⟩ := hsp
  cases r with
  | @cons _ ua _ us1 ra r1 =>
  cases r1
  obtain rfl : ua = Value.ref a := ra
  have KX : K.In s.heap :=
      e0.mod.kin.keeps fun b o e => (e0.bs b o e).1
  have lim : s.heap.NoLimit :=
      e0.mod.nolimit.keeps fun b o e => (e0.bs b o e).1
  refine codeAny_call_function hr.depth (KX _ _ lk) rfl rfl rfl rfl (PySem.W.codeRec_of KX hcd) (hb _ _ _ _ ?_)
  refine wpAny_newFunctionEnv ini0S_ok.nocell (fun ⟨n, _⟩ hy => ini0S_ok.par n (List.of_mem_zip hy).1) (fun h₁ hns hsb => ⟨lim.fresh _ hsb, ?_⟩) rfl
  let F : NdefX.NF := ⟨"__init__", qual, ini0A p1, ini0B m q1 q2 q3 q4 q5 q6, ini0S, [("__class__", cc)], cda⟩
  show codeAny _ _ (.func F.body (NdefX.envF F f s.heap.objs.size)) _ _
  refine PySem.ks_codeAny_funcAt ?_
  have kp : ∀ b o, s.heap.get? b = some o → h₁.get? b = some o :=
      fun b o e => hsb.extBut b o (Nat.ne_of_lt (Heap.lt_size e)) (Heap.get?_push_of_some _ e)
  have bcc := e0.mod.kin _ _ lcc
  have CC : NdefX.CellsAt F.cl ["__class__"] [none] s.heap H := by
    have key : ∀ y c, F.cl.lookup y = some c → y = "__class__" ∧ c = cc := fun y c h => by
      have h : List.lookup y [(("__class__" : Str), cc)] = some c := h
      rw [List.lookup_cons] at h
      split at h
      · rename_i z
        exact ⟨by simpa using z, (Option.some.inj h).symm⟩
      · cases h
    refine ⟨rfl, fun y c h => ?_, fun x y c h1 h2 => (key x c h1).1.trans (key y c h2).1.symm, fun i y hi => ?_⟩
    · obtain ⟨_, rfl⟩ := key y c h
      exact ⟨(e0.bs _ _ bcc).2, _, _, (e0.bs _ _ bcc).1, rfl⟩
    · match i, hi with
      | 0, hi =>
        cases hi
        refine ⟨cc, by show List.lookup ("__class__" : Str) [(("__class__" : Str), cc)] = some cc; rw [List.lookup_cons, beq_self_eq_true], fun v z => ?_⟩
        cases z
  have I : L2.Inv (NdefX.ncx CX P w K mg base ["self", "__class__"] F f A outer s H E) [] (NdefX.startF ["self", "__class__"] [.ref a] [none]) H { s with heap := h₁, toks := s.toks + 2 } :=
    NdefX.inv_startN ini0S_ok hr.hd e0 rfl (.cons rfl .nil) CC hns kp
  have KX1 : K.In h₁ := I.kIn
  obtain ⟨nm, q, N, bs, bm, sn, sub, ab, col, dd, k0, k1, k2, k3, k5, hC, hbm⟩ := T.T.cls
  have hcl : PySem.W.clsIn K C = some { name := nm, bases := bs, mro := .ref C :: bm, ns := N, qualname := q, hasDict := true, slotNames := sn, subclasses := sub, abstract := ab, collection := col, hasDel := false } := by unfold PySem.W.clsIn; rw [hC] <;> rfl
  obtain ⟨t1, ho⟩ := exo_at I.hok ea
  obtain ⟨mb, hb1, hb2⟩ := I.mod.blt
  have IA : PySem.W.InstAt h₁ a ({ cls := .ref C, dict := none, data := .fields #[.ref t1, .none, .none, .none, .bool false, .none] } : Obj) C none := ⟨ho, rfl, rfl, trivial⟩
  refine PySem.ks_wpAt_execs_cons (PySem.ks_wpAt_Expr_any (PySem.ks_wpAt_MethodCall (he := call_line _ _ _ _ _ h35 rfl) (PySem.ks_wpAt_super_base rfl rfl (by decide) rfl (KX1 _ _ lk) rfl rfl rfl (KX1 _ _ lcd) rfl hvs hfile T.top ?_)))
  refine PySem.W.ks_loadName_global rfl rfl (Calls.loadGlobal_builtin (mb := mb) (I.mod.glob.keeps I.bk) (PySem.W.mg_none_of I.mod.kin I.mod.glob T.sup) (hb1.keeps I.bk) ((hb2 "super" (by decide)).trans (by decide +kernel)) ⟨rfl, ?_⟩)
  refine wpAny_loadName_free rfl rfl rfl ⟨_, KX1 _ _ lcc, rfl⟩ ?_
  have loc : ∀ (i : Nat) (x : Str) (v : V), (["self", "__class__"] : List Str)[i]? = some x → (NdefX.startF ["self", "__class__"] [.ref a] [none])[i]? = some (some v) → True := fun _ _ _ _ _ => trivial
  obtain ⟨mm, hn1, hl1⟩ := I.loc
  obtain ⟨us, rs, hls⟩ := hl1 0 "self" (.ref a) rfl rfl (vis_self0)
  obtain rfl : us = Value.ref a := rs
  have hms : mm "self" = some (.ref a) := by
    rcases hls with ⟨_, z⟩ | ⟨z, _⟩
    · exact z
    · rcases z with z | z
      · exact absurd (show ini0S.names.lookup ("self" : Str) = some NameKind.cell from z) (by decide +kernel)
      · exact absurd (show ini0S.names.lookup ("self" : Str) = some NameKind.free from z) (by decide +kernel)
  refine wpAny_loadName_local rfl rfl hn1 hms ?_
  obtain ⟨oD, hD1, hD2⟩ : ∃ oD, h₁.get? C = some oD ∧ ∃ cd, oD.data = .cls cd := ⟨_, KX1 _ _ hC, _, rfl⟩
  obtain ⟨cd, hD2⟩ := hD2
  refine PySem.ks_wpAny_isType_cls hD1 hD2 ⟨rfl, ?_⟩
  refine PySem.ks_wpAny_call_super hD1 hD2 ho rfl (fun c z => by cases z) (PySem.W.looks_mroIn KX1 T.sub) (fun h2 e2 k2 => ?_)
  have I2 := I.kept (t' := s.toks + 2) k2
  have KX2 : K.In h2 := I2.kIn
  have ho2 := k2 _ _ ho
  have IA2 : PySem.W.InstAt h2 a ({ cls := .ref C, dict := none, data := .fields #[.ref t1, .none, .none, .none, .bool false, .none] } : Obj) C none := ⟨ho2, rfl, rfl, trivial⟩
  have hf2 : PySem.W.alongIn K "__init__" (((.ref C :: bm).dropWhile (· != .ref C)).drop 1) = some (some (.builtin "ValueError.__init__")) := by
    have z := T.sin
    unfold PySem.W.ks_superIn at z
    rw [hcl] at z
    exact z
  refine PySem.W.kxs_getMethod PySem.W.kxs_ValueError (l₀ := .ref C :: bm) e2 (PySem.W.looks_opaque KX2 T.stat) (fun A Q E s k q => wpAny_bind ((PySem.W.looks_clsIn KX2 hcl) A _ E s k (wpAny_pure q))) rfl KX2 hf2 (IA2.type.andThen (PySem.W.looks_subIn KX2 T.subV)) (PySem.W.ks_ne KX2 IA2 hcl) (by decide) ?_
  have I3 : L2.Inv (NdefX.ncx CX P w K mg base ["self", "__class__"] F f A outer s H E) [] (NdefX.startF ["self", "__class__"] [.ref a] [none]) H { s with heap := h2.push (PySem.W.kxs_mw "ValueError.__init__" a), toks := s.toks + 2 + 1 } :=
    I2.kept fun b o e => Heap.get?_push_of_some _ e
  have hu : (h2.push (PySem.W.kxs_mw "ValueError.__init__" a)).get? h2.objs.size = some (PySem.W.kxs_mw "ValueError.__init__" a) := Heap.get?_push_size _ rfl
  refine PySem.W.kxs_callWith (i := "ValueError.__init__") (x := a) rfl ?_
  refine PySem.Calls.evalArgs_plain ?_
  refine Calls.spliced_cons (Calls.Constant_str (pos := q4) (k := 0) (Calls.spliced_nil ⟨hu, ?_⟩))
  refine bw_call (X := NdefX.ncx CX P w K mg base ["self", "__class__"] F f A outer s H E) T.T (I3.tok _) ea hu (by rw [sizeLine_eq]; exact (by decide : 1 ≤ 16777216)) fun s4 I4 => ?_
  show PySem.wpAt _ _ _ (execs [] _) _ _ _
  exact wpAt_of_wpAny (wpAny_execs_nil ⟨.non, H, I4.os, I4.bare, I4.base, I4.hok, rfl, hq⟩)
end
/-- what the written part says of a bare error class by its name -/
structure Er0C (P : Program) (K : PySem.W.Frag) (mg : Str → Option Value) (cls : Cl) (c : Str) : Prop where
  i : ∃ f, Ini0C P K (cls c) f
  m : mg c = some (.ref (cls c))
def pRaise0 (c : Str) : Pm := fun _ => .ex c .none
end Zd
namespace Zd
open PySem PySem.Spec
open PyProof.Rows L2
structure KxC (K : PySem.W.Frag) (C : Addr) : Prop where
  hcl : (PySem.W.clsIn K C).isSome = true
  hga : PySem.W.findIn K (.ref C) "__getattribute__" = some (some (.builtin "BaseException.__getattribute__"))
  hgt : PySem.W.findIn K (.ref C) "__getattr__" = some none
  hsub : PySem.W.subIn K (.ref C) (.type "BaseException") = some true
  ha : PySem.W.findIn K (.ref C) "__class__" = some (some
            (.builtin "object.__class__"))
  hn : PySem.W.specialIn K (.builtin "object.__class__") "__get__" = some (some
            (.builtin "getset_descriptor.__get__"))
  htk : PySem.W.takesIn K (.builtin
            "object.__class__") = some true
  hm : PySem.W.mroIn K C (.type
            "object") = some true
/-- what isinstance(e, cv) answers, by the class of e -/
def IsT (K : PySem.W.Frag) (cv : Value) (tab : List (Str × Bool)) : Prop := ∀ c b, tab.lookup c = some b → ∀ C : Addr, PySem.W.nsIn K mainGlobals c = some (some (.ref C)) → KxC K C ∧ PySem.W.kitOne K (.ref C) cv = some b
theorem ist_nil {K : PySem.W.Frag} {cv : Value} : IsT K cv [] := fun c b h => by cases h
theorem ist_cons {K : PySem.W.Frag} {cv : Value} {tab : List (Str × Bool)} {c : Str} {b : Bool} {C : Addr} (a : PySem.W.nsIn K mainGlobals c = some (some (.ref C))) (k : KxC K C) (e : PySem.W.kitOne K (.ref C) cv = some b) (h : IsT K cv tab) : IsT K cv ((c, b) :: tab) := fun c' b' h' C' a' => by
  rw [List.lookup_cons] at h'
  split at h'
  · rename_i z
    have z : c' = c := by simpa using z
    subst z
    cases h'
    rw [a] at a'
    cases a'
    exact ⟨k, e⟩
  · exact h c' b' h' C' a'
def rIsX (K : PySem.W.Frag) (a : Addr) (oe : Obj) : List V → Hp → VK → Prop := fun xs H Q => ∃ (c : V) (cv : Value) (C : Addr) (b : Bool), xs = [.ref a, c] ∧ (∀ u, RelV c u → u = cv) ∧ oe.cls = .ref C ∧ (∃ vs, oe.data = .fields vs) ∧ (oe.dict = none ∨ ∃ dx fs, oe.dict = some dx ∧ H dx = some (.xd fs)) ∧ KxC K C ∧ PySem.W.kitOne K (.ref C) cv = some b ∧ Q (.bl b) H
section
variable {X : Cx} {a : Addr} {oe : Obj}
theorem pin_at {pins : List (Addr × Obj)} {σ : L2.St} {H : Hp} {s : Shared} (hp : (a, oe) ∈ X.pn) (I : Inv X pins σ H s) {C : Addr} (hc : oe.cls = .ref C) (hf : ∃ vs, oe.data = .fields vs) (hd : oe.dict = none ∨ ∃ dx fs, oe.dict = some dx ∧ H dx = some (.xd fs)) :
    ∃ od, PySem.W.InstAt s.heap a oe C od := by
  obtain ⟨hget, _⟩ := I.pin (a, oe) (List.mem_append_left _ hp)
  obtain ⟨vs, hv⟩ := hf
  rcases hd with hd | ⟨dx, fs, hd, ed⟩
  · refine ⟨none, ?_⟩
    obtain ⟨oc, od,
              oda, osl⟩ := oe
    dsimp only at hc hv hd
    subst hc hv hd
    exact ⟨hget, rfl,
              rfl, trivial⟩
  · have hx : ObjOk X.prog X.w H s.heap dx (.xd fs) := I.hok dx _ ed
    obtain ⟨mA, hns, hr⟩ := hx
    obtain ⟨od, ho,
              hl⟩ := lookIn_ns hns
    exact ⟨some od, hget, hc, by unfold PySem.W.notCls; rw [hv] <;> rfl, by rw [hd]; exact ho⟩
theorem call_isX (hp : (a, oe) ∈ X.pn) : CallR X (.builtin "isinstance") (rIsX X.K a oe) := by
  intro pins s σ H xs us Q
  intro I r h
  obtain ⟨c, cv, C, b, rfl, hcv, hc, hf, hd, T, e, q⟩ := h
  cases r with
  | cons rx rr =>
    cases rr with
    | cons rt rr =>
      cases rr
      cases rx
      have ec := hcv _ rt
      subst ec
      obtain ⟨od, J⟩ := pin_at hp I hc hf hd
      exact PySem.W.kia_one (PySem.W.kitx_exc T.hcl T.hga T.hgt T.hsub T.ha T.hn T.htk T.hm) I.kIn J e (fun z => nomatch z) fun tk => ⟨.bl b, H, I.kept (t' := tk) fun _ _ z => z, rfl, q⟩
theorem pe_cls {c : Str} {C : Addr} {p : Pos} (hg : Gl X c) (hm : X.mg c = some (.ref C)) (hd : (c == ("__debug__" : Str)) = false) : PE X (.Name c p) (tC (.ref C)) := ⟨fun _ _ _ H _ I h => ld_glob I hg hm ⟨.ref C, H, I, rfl, h⟩ hd⟩
end
theorem ErO.dict {K : PySem.W.Frag} {H : Hp} {oe : Obj} {c : Str} {v : V} {C : Addr} (h : EA c H oe.dict v) : oe.dict = none ∨ ∃ dx fs, oe.dict = some dx ∧ H dx = some (.xd fs) := by
  rcases h with ⟨_, dx, e, h⟩ | ⟨_, e, _⟩
  · exact .inr ⟨dx, _, e, h⟩
  · exact .inl e
/-- what a slot of this kind holds -/
theorem Slots.er {K : PySem.W.Frag} {κ : Kn} {ω : Om} {H : Hp} {σ : L2.St} {δ : Dl} {φ : Fps} (s : Slots K κ ω H σ δ φ) {i : Nat} {a : Addr} {oe : Obj} {x : D} (hk : κ i = .er a oe) (h : δ[i]? = some (some x)) :
    ∃ c v d, x = .dict [(.str c, d)] ∧ σ[i]? = some (some (.ref a)) ∧ ErO K H oe c v ∧ Rep K ω H v d := by
  obtain ⟨v, h1, h2⟩ := s.at_ i x h
  rw [hk] at h2
  generalize φ i = ff at h2
  cases h2 with
  | er e r => exact ⟨_, _, _, rfl, h1, e, r⟩
def erP (x : Option (Option D)) : Option (Str × D) := match x with
  | some (some (.dict [(.str c, d)])) => some (c, d)
  | _ => none
theorem erP_inv {x : Option (Option D)} {c : Str} {d : D} (h : erP x = some (c, d)) : x = some (some (.dict [(.str c, d)])) := by
  unfold erP at h
  split at h
  · cases h; rfl
  · cases h
def mIsE (i : Nat) (tab : List (Str × Bool)) : Em := fun δ => match erP δ[i]? with
  | some (c, _) => (match tab.lookup c with
    | some b => .ok (.bool b, δ)
    | none => .no)
  | none => .no
def mAtE (i : Nat) (cs : List Str) : Em := fun δ => match erP δ[i]? with
  | some (c, d) => if c ∈ cs then .ok (d, δ) else .no
  | none => .no
section
variable {X : Cx} {G : Gm} {a : Addr} {oe : Obj} {n nm : Str} {pn p p2 pos : Pos} {v2 : V} {cv : Value} {tab : List (Str × Bool)}
theorem xIsE (i : Nat) (hpn : (a, oe) ∈ X.pn) (h2e : PE X (.Name nm p2) (tC v2)) (hv2 : ∀ u, RelV v2 u → u = cv) (T : IsT X.K cv tab) (hm : X.mg "isinstance" = none) (hk : G.κ i = .er a oe := by rfl) (hN : X.N[i]? = some n := by rfl)
    (hv : Vis X.env.scope n := by first | exact Or.inl rfl | exact Or.inr (Or.inl rfl) | exact Or.inr (Or.inr rfl)) (hK : X.K = G.K := by rfl) (hg : Gl X "isinstance" := by rfl) (hyd : (n == ("__debug__" : Str)) = false := by decide) (hcd : (n == ("__classdict__" : Str)) = false := by decide)
    (h1 : starEach [.Name n pn, .Name nm p2] X.env = (false, eval (.Name n pn) X.env) :: starEach [.Name nm p2] X.env := by rfl) (h2 : starEach [.Name nm p2] X.env = (false, eval (.Name nm p2) X.env) :: starEach [] X.env := by rfl)
    (hpl : (backTo pos (starEach [.Name nm p2] X.env)).any (·.1) = false := by rfl) : PE X (.Call (.Name "isinstance" p) [.Name n pn, .Name nm p2] [] pos) (tI G (mIsE i tab)) := by
  refine pe_if (pe_callB (call_isX hpn) hg hm PyProof.Rows.boot_isinstance (pa_cons (pe_var hN hv hyd hcd) (pa_cons h2e pa_nil h2) h1) (by decide) (by decide) h1 hpl) fun σ H Q ⟨ω, δ, φ, s, o⟩ => ?_
  unfold mIsE at o
  cases e1 : erP δ[i]? with
  | none => rw [e1] at o; exact o.elim
  | some q =>
    obtain ⟨c, d⟩ := q
    rw [e1] at o
    dsimp only at o
    cases e2 : tab.lookup c with
    | none => rw [e2] at o; exact o.elim
    | some b =>
      rw [e2] at o
      obtain ⟨c', v, d', ex, hσ, ⟨C, hn, hc, hf, ea⟩, rp⟩ := s.er hk (erP_inv e1)
      injection ex with ex
      injection ex with ex _
      injection ex with ex ex2
      injection ex with ex
      subst ex ex2
      rw [← hK] at hn
      obtain ⟨T1, T2⟩ := T c b e2 C hn
      refine ⟨.ref a, hσ, ?_⟩
      exact ⟨v2, cv, C, b, rfl, hv2, hc, hf, ErO.dict (K := X.K) (C := C) ea, T1, T2, o ω H φ (.bl b) s.refl s (.bl b)⟩
theorem xAtE (i : Nat) {cs : List Str} (hpn : (a, oe) ∈ X.pn) {cls : Cl} (T : ∀ c ∈ cs, ErC X.prog X.K X.mg cls c) (hx : ∀ c ∈ cs, ∀ C : Addr, PySem.W.nsIn X.K mainGlobals c = some (some (.ref C)) → cls c = C) (hk : G.κ i = .er a oe := by rfl) (hN : X.N[i]? = some n := by rfl)
    (hv : Vis X.env.scope n := by first | exact Or.inl rfl | exact Or.inr (Or.inl rfl) | exact Or.inr (Or.inr rfl)) (hK : X.K = G.K := by rfl) (hbr : ∀ c ∈ cs, bare c = false := by decide) (hyd : (n == ("__debug__" : Str)) = false := by decide) (hcd : (n == ("__classdict__" : Str)) = false := by decide)
    (hb : attributeBase (.Name n pn) "at" X.env (eval (.Name n pn) X.env) = eval (.Name n pn) X.env := by rfl) : PE X (.Attribute (.Name n pn) "at" pos) (tI G (mAtE i cs)) := by
  refine ⟨fun pins s σ H Q I ⟨ω, δ, φ, sl, o⟩ => ?_⟩
  unfold mAtE at o
  cases e1 : erP δ[i]? with
  | none => rw [e1] at o; exact o.elim
  | some q =>
    obtain ⟨c, d⟩ := q
    rw [e1] at o
    dsimp only at o
    obtain ⟨hc0, o⟩ := if_inv o
    obtain ⟨c', v, d', ex, hσ, ⟨C, hn, hc, hf, ea⟩, rp⟩ := sl.er hk (erP_inv e1)
    injection ex with ex
    injection ex with ex _
    injection ex with ex ex2
    injection ex with ex
    subst ex ex2
    rw [← hK] at hn
    have eC := hx c hc0 C hn
    obtain ⟨dx, e2, e3⟩ : ∃ dx, oe.dict = some dx ∧ H dx = some (.xd [("at", v)]) := by
      rcases ea with ⟨_, z⟩ | ⟨z, _⟩
      · exact z
      · rw [hbr c hc0] at z; cases z
    obtain ⟨f, Ic⟩ := (T c hc0).i
    have Xf := (T c hc0).x
    rw [eC] at Ic Xf
    refine attr_of hb (thn ((pe_var (pos := pn) hN hv hyd hcd).run pins s σ H (fun w H1 => w = .ref a ∧ H1 = H) I ⟨.ref a, hσ, rfl, rfl⟩) fun u s1 ⟨w, H1, I1, r1, q1⟩ => ?_)
    obtain ⟨rfl, rfl⟩ := q1
    obtain rfl : u = Value.ref a := r1
    obtain ⟨hget, _⟩ := I1.pin (a, oe) (List.mem_append_left _ hpn)
    obtain ⟨vs, hd⟩ := hf
    have hx2 : ObjOk X.prog X.w H1 s1.heap dx (.xd [("at", v)]) := I1.hok dx _ e3
    obtain ⟨mA, hns, hr⟩ := hx2
    obtain ⟨od, ho,
              hl⟩ := lookIn_ns hns
    obtain ⟨u, hu, ru⟩ := RelO.some_of (v := v) (o := mA "at") (hr "at")
    have J : PySem.W.InstAt s1.heap a oe C (some od) := ⟨hget, hc, by unfold PySem.W.notCls; rw [hd] <;> rfl, by rw [e2]; exact ho⟩
    exact HandSPX.exc_get I1.kIn J Xf.ga Xf.gg Xf.exC (PySem.W.findObj_own Xf.hdC Ic.at_ rfl (by rw [hl, hu])) (handed_of ru) ⟨v, H1, I1.tok _, ru, o ω H1 φ v sl.refl sl rp⟩
end
end Zd
namespace Zd
open PySem PySem.Spec
open PyProof.Rows L2
abbrev noX : CXT := fun _ _ _ _ _ _ => False
abbrev pinX (X : Cx) (a : Addr) (oe : Obj) : Cx := { X with pn := [(a, oe)] }
theorem ok_pin {X : Cx} (ok : X.Ok) (a : Addr) (oe : Obj) : (pinX X a oe).Ok := ⟨ok.mod, ok.kind, ok.glob, ok.blt, ok.above, ok.inj, ok.has, ok.cab, ok.hd, ok.frames, ok.stk, ok.exf, ok.bs, ok.bsz, ok.noex, ok.exfs, ok.funs, ok.frf⟩
theorem inv_pin {X : Cx} {a : Addr} {oe : Obj} {σ : L2.St} {H : Hp} {s : Shared} (I : Inv X [] σ H s) (h : s.heap.get? a = some oe ∧ H a = none ∧ a ≠ X.env.locals ∧ a ∉ X.fs ∧ ∀ v, oe.data ≠ .cell v) : Inv (pinX X a oe) [] σ H s :=
  ⟨ok_pin I.ok a oe, I.os, I.bare, I.base, I.loc, I.cell, I.free, I.freeC, fun p hp => by
    have e : p = (a, oe) := by simpa using hp
    subst e
    exact h, I.hok, I.len⟩
def mMarks (i : Nat) (F : List D → Rs D) : Em := fun δ => match δ[i]? with
  | some (some d) => (match F [d] with
    | .ok r => .ok (r, δ)
    | _ => .no)
  | _ => .no
end Zd
namespace Zd
open PySem PySem.Spec
open PyProof.Rows L2
def pTryE (cs : List Str) (i : Nat) (F : List D → Rs D) (ms : Sm) (su : Pm) : Pm := fun δ => match ms δ with
  | .ok r => (match F r.1 with
    | .ok _ => .ok (.nx, δ)
    | .ex c a => if c ∈ cs then (match su (δ.set i (some (.dict [(.str c, a)]))) with
      | .ok (.rt d, _) => .ok (.rt d, δ.map fun _ => none)
      | _ => .no) else .no
    | .no => .no)
  | _ => .no
abbrev kE (i : Nat) (a : Addr) (oe : Obj) : Kn := fun j => if j = i then .er a oe else .im
end Zd
namespace Zd
open PySem PySem.Spec PyProof.Rows L2 L2H HotX
section
variable {prog : Program} {w : World} {A : Around} {E : Value → Shared → Prop} {s : Shared}
theorem hot_keep {x1 : Addr} {h h' : Heap} (hot : HotAt A x1 h) (k : ∀ o, h.get? x1 = some o → h'.get? x1 = some o) : HotAt A x1 h' :=
  let ⟨hh, o, vs, a, b, c⟩ := hot
  ⟨hh, o, vs, k o a, b, c⟩
theorem stop_hot {α : Type} {x1 : Addr} {Q : α → Shared → Prop} (hot : HotAt A x1 s.heap)
    (hE : ∀ h' e, (∀ b o, s.heap.get? b = some o → h'.get? b = some o) → (∃ o, h'.get? e = some o ∧ o.cls = .type "StopIteration") → E (.ref e) { s with heap := h' }) : wpAny (model prog w) A (Builtin.SmallTypes.stopIteration : Sem α) Q E s := by
  obtain ⟨hh, o, vs, g, d, c⟩ := hot
  have two : ∀ {a b : Obj} {x : Addr} {u : Obj}, s.heap.get? x = some u → ((s.heap.push a).push b).get? x = some u := fun q => Heap.get?_push_of_some _ (Heap.get?_push_of_some _ q)
  have lt : ∀ {a : Obj} {x : Addr} {u : Obj}, s.heap.get? x = some u → x < (s.heap.push a).objs.size := fun q => Heap.lt_size (Heap.get?_push_of_some _ q)
  unfold Builtin.SmallTypes.stopIteration
  simp only [newExc, newTuple]
  refine wpAny_bind (wpAny_bind (wpAny_newObj_type (wpAny_bind (m := firstArgMember _ _) (wpAny_of_eq (a := Value.none) ?fa (wpAny_newObj_type (raiseNew_hot ⟨hh, o, vs, two g, d, c⟩ (Nat.ne_of_lt (lt g)) (Heap.get?_push_size _ rfl) rfl ?sz ?en) (by size_fits)))) (by size_fits)))
  case fa => first | rfl | (simp only [firstArgMember]; rfl)
  case sz => first | (simp; done) | (simp only [Array.size_append]; simp; omega)
  case en =>
    refine hE _ _ (fun b u q => ?_) ⟨_, Heap.get?_update_self _ (Heap.get?_push_size _ rfl) rfl, rfl⟩
    exact (Heap.get?_update_other _ _ (Nat.ne_of_gt (lt q))).trans (two q)
/-- its __next__, nothing being left -/
theorem tupEnd_hot {x1 it l : Addr} {i : Nat} {is : Array Value} {Q : Fin → Shared → Prop} (hot : HotAt A x1 s.heap) (ne : x1 ≠ it) (hi : s.heap.IsTupleIter it l i) (hl : s.heap.IsTuple l is) (hx : is[i]? = none)
    (hE : ∀ h' e, Heap.ExtBut it s.heap h' → (∃ o, h'.get? e = some o ∧ o.cls = .type "StopIteration") → E (.ref e) { s with heap := h' }) : wpAny (model prog w) A (Builtin.«tuple_iterator.__next__» ⟨[.ref it], []⟩) Q E s := by
  obtain ⟨oi, gi, _, di⟩ := hi
  obtain ⟨ol, gl, _, nl, dl⟩ := hl
  have other : ∀ {b : Addr} {u : Obj}, b ≠ it → s.heap.get? b = some u → (s.heap.update it (Obj.mapFields (·.setIfInBounds 0 .none))).get? b = some u := fun n q => (Heap.get?_update_other _ _ (Ne.symm n)).trans q
  have fin : wpAny (model prog w) A (do setField (.ref it) 0 .none; (Builtin.SmallTypes.stopIteration : Sem Fin)) Q E s :=
    wpAny_bind (wpAny_setField gi di (by simp) (stop_hot (hot_keep hot fun o q => other ne q) fun h' e k y => hE h' e (fun b u n q => k b u (other n q)) y))
  have mid : wpAny (model prog w) A (do
      let .some xs ← seqItems? (.ref l) | unsupported "internal:tuple_iterator.__next__"
      match xs[(i : Int).toNat]? with
      | some x => setField (.ref it) 1 (rawInt ((i : Int) + 1)); ret x
      | none => rule "tuple_iterator.__next__.end"; setField (.ref it) 0 .none; Builtin.SmallTypes.stopIteration) Q E s := by
    refine wpAny_bind (wpAny_seqItems gl dl ?_)
    dsimp only
    rw [show is[(i : Int).toNat]? = none from hx]
    exact wpAny_bind (wpAny_rule fin)
  show wpAny _ _ (field
            (.ref it) 0 >>= _) _ _ s
  refine wpAny_bind (wpAny_field gi di (x := .ref l) rfl ?_)
  refine wp_if_neg (c := (Value.ref l == Value.none) = true) Bool.false_ne_true ?_
  exact wpAny_bind (wpAny_field gi di (x := .int i 0) rfl mid)
/-- what stands at the place of the handled exception -/
def Bare1 (x1 : Addr) (h : Heap) : Prop := ∃ (o : Obj) (vs : Array Value), h.get? x1 = some o ∧ o.data = .fields vs ∧ vs[2]? = some .none
theorem Bare1.at {x1 : Addr} {h h' : Heap} (b : Bare1 x1 h) (k : ∀ o, h.get? x1 = some o → h'.get? x1 = some o) : Bare1 x1 h' :=
  let ⟨o, vs, g, r⟩ := b
  ⟨o, vs, k o g, r⟩
theorem nextEnd_hot {x1 it l : Addr} {i : Nat} {is : Array Value} {Q : Value → Shared → Prop} (hot : HotAt A x1 s.heap) (ne : x1 ≠ it) (hi : s.heap.IsTupleIter it l i) (hl : s.heap.IsTuple l is) (hx : is[i]? = none)
    (hE : ∀ h' e, Heap.ExtBut it s.heap h' → (∃ o, h'.get? e = some o ∧ o.cls = .type "StopIteration") → E (.ref e) { s with heap := h' }) : wpAny (model prog w) A (Builtin.SmallTypes.nextOf (.ref it)) Q E s :=
  have T := hi.typeIs
  wpAny_bind (wpAny_callSpecial?_slot (name := Str.ofString "__next__") T F.slot_tuple_iterator_next (wpAny_call_entry F.slot_tuple_iterator_next T F.entry_tuple_iterator_next (tupEnd_hot ⟨hot.1, hot.2⟩ ne hi hl hx hE) (F.args_tuple_iterator_next_1 _)))
theorem pyNextEnd_hot {x1 it l : Addr} {i : Nat} {is : Array Value} {Q : Option Value → Shared → Prop} (hot : HotAt A x1 s.heap) (ne : x1 ≠ it) (hi : s.heap.IsTupleIter it l i) (hl : s.heap.IsTuple l is) (hx : is[i]? = none)
    (hQ : ∀ h', Heap.ExtBut it s.heap h' → Q none { s with heap := h' }) : wpAny (model prog w) A (pyNext (.ref it)) Q E s :=
  have T := hi.typeIs
  wpAny_bind (wpAny_attempt (wpAny_callSpecial?_slot (name := Str.ofString "__next__") T F.slot_tuple_iterator_next (wpAny_call_entry F.slot_tuple_iterator_next T F.entry_tuple_iterator_next
    (tupEnd_hot ⟨hot.1, hot.2⟩ ne hi hl hx fun h' e k st => wpAny_bind (wpAny_isInstance (T := "StopIteration") (b := true) st isSubtype_stop (wpAny_pure (hQ h' k)))) (F.args_tuple_iterator_next_1 _))))
/-- the kit's Draws, there -/
theorem drawsH {x1 : Addr} (ax : A.handled = some (.ref x1)) (it l : Addr) (hne : l ≠ it) (hx : x1 ≠ it) (is : Array Value) :
    Draws prog w A it [it, l, x1] is.size (fun i v => is[i]? = some v) (fun i h => (h.IsTupleIter it l i ∧ h.IsTuple l is) ∧ Bare1 x1 h) where
  live := fun i h ⟨⟨⟨o, g, _⟩, _⟩, _⟩ => ⟨o, g⟩
  frame := fun i h h' ⟨⟨a, b⟩, c⟩ k => ⟨⟨a.at (k it (by simp)), let ⟨o, g, r⟩ := b; ⟨o, k l (by simp) o g, r⟩⟩, c.at (k x1 (by simp))⟩
  item := fun i s Q E lt ⟨⟨a, b⟩, c⟩ q => RZ.nextOf_tuple_item a b (Array.getElem?_eq_getElem lt) fun h' a' sb =>
    q is[i] h' s.toks (Array.getElem?_eq_getElem lt) ⟨⟨a', let ⟨o, g, r⟩ := b; ⟨o, sb.extBut l o hne g, r⟩⟩, c.at fun o g => sb.extBut x1 o hx g⟩ sb
  done := fun s Q E ⟨⟨a, b⟩, c⟩ q => nextEnd_hot ⟨ax, c⟩ hx a b (by simp) q
end
theorem zip_sep3 {z TI TO i1 i2 a b x : Addr} (S : ZipSep2 z TI TO i1 i2 [i1, a] [i2, b]) (h : ∀ c ∈ [z, TI, TO, i1, i2], x ≠ c) : ZipSep2 z TI TO i1 i2 [i1, a, x] [i2, b, x] :=
  have w : ∀ {c p q : Addr}, c ∈ [z, TI, TO, i1, i2] → c ∉ [p, q] → c ∉ [p, q, x] := fun {c p q} hc n => by
    simp only [List.mem_cons, List.not_mem_nil, or_false, not_or] at n ⊢
    exact ⟨n.1, n.2, (h c hc).symm⟩
  { S with mem1 := by simp, mem2 := by simp, zf1 := w (by simp) S.zf1, Tf1 := w (by simp) S.Tf1, zf2 := w (by simp) S.zf2, Tf2 := w (by simp) S.Tf2, sep1_2 := w (by simp) S.sep1_2, sep2_1 := w (by simp) S.sep2_1 }
section
variable {P : Program} {w : World} {K : PySem.W.Frag} {elts : List Expr} {kk : Nat} {tpos : Pos}
/-- the pin that bears the handled exception, and how it stands to a walk's own objects -/
theorem hot_pin {X : Cx} {pins : List (Addr × Obj)} {σ : L2.St} {H : Hp} {s : Shared} {ch : List Addr} (c : HotC X) (I : Inv X pins σ H s) (hf : ∀ b ∈ ch, FpOk X pins H b) : ∃ x1, X.A.handled = some (.ref x1) ∧ Bare1 x1 s.heap ∧ ∀ b ∈ ch, x1 ≠ b := by
  obtain ⟨q, ⟨hh, vs, d, n⟩, hq⟩ := c
  have m : q ∈ X.pn ++ pins := List.mem_append_left _ hq
  exact ⟨q.1, hh, ⟨q.2, vs, (I.pin q m).1, d, n⟩, fun b hb => (hf b hb).2.2.2.2.2 q m⟩
theorem turn_zipH {a b z TI TO i1 i2 : Addr} (S : ZipSep2 z TI TO i1 i2 [i1, a] [i2, b]) (na : a ≠ i1) (nb : b ≠ i2) :
    TurnH P w K (.Tuple elts kk tpos) (ItzX false false K a b) [z, TI, TO, i1, i2] z (fun i h => IsZip h z TI TO .none ∧ IsTupOf2 h TI (.ref i1) (.ref i2) ∧ (∃ x y, IsTupOf2 h TO x y) ∧ ItB false h i1 a i ∧ ItB false h i2 b i) :=
  let B := turn_zipX (P := P) (w := w) (K := K) (elts := elts) (kk := kk) (tpos := tpos) (k1 := false) (k2 := false) S na nb
  { mem := B.mem, obj := B.obj, keep := B.keep, self := B.self
    item := by
      rintro X rfl rfl rfl hc i pins s σ H E I hf st ⟨xs, ys, x, y, hqx, hqy, hx, hy⟩
      have lt : ∀ c ∈ [z, TI, TO, i1, i2], c < s.heap.objs.size := fun c hc => by
        obtain ⟨o, ho, _⟩ := B.obj i s.heap st c hc
        exact Heap.lt_size ho
      obtain ⟨x1, ax, b1, nx⟩ := hot_pin hc I hf
      obtain ⟨hz, hTI, ⟨x0,
                y0, hTO⟩, h1, h2⟩ := st
      obtain ⟨is, rv, p, _⟩ := sqB_heap I hqx
      obtain ⟨js, rv2, p2, _⟩ := sqB_heap I hqy
      obtain ⟨u, hu,
                ru⟩ := rv.get hx
      obtain ⟨v, hv, ru2⟩ := rv2.get hy
      have zl := lt z (by simp)
      have l1 : i < is.toArray.size := by rw [List.size_toArray]; exact (List.getElem?_eq_some_iff.mp hu).1
      have l2 : i < js.toArray.size := by rw [List.size_toArray]; exact (List.getElem?_eq_some_iff.mp hv).1
      refine wpAny_pyNext_zipD2_item (zip_sep3 S nx) (drawsH (A := X.A.in1) ax i1 a na (nx _ (by simp)) is.toArray) (drawsH (A := X.A.in1) ax i2 b nb (nx _ (by simp)) js.toArray) hz hTI hTO ⟨⟨h1, p⟩, b1⟩ ⟨⟨h2, p2⟩, b1⟩ l1 l2 fun u' v' h' tk q1 q2 z' TO' n1 n2 hT hsz hk => ⟨_, rfl, wpAny_letOwnedTupleGo_zip (s := { s with heap := h', toks := tk }) z' fun h2' z2 sb => ?_⟩
      obtain rfl : u = u' := Option.some.inj (hu.symm.trans (by rw [← List.getElem?_toArray]; exact q1))
      obtain rfl : v = v' := Option.some.inj (hv.symm.trans (by rw [← List.getElem?_toArray]; exact q2))
      refine ⟨.ref s.heap.objs.size, _, pair_turn (s := s) (t' := tk) I hf (fun c o nc e => ?_) ((sb.2 _ (Nat.ne_of_gt zl)).trans hT) ru ru2, rfl, ⟨_, _, x, y, rfl, I.hok.fresh (Nat.le_refl _), rfl, rfl, fun l hl => by rw [sqB_inj I hl hqx]; exact hx, fun l hl => by rw [sqB_inj I hl hqy]; exact hy⟩,
        ⟨z2, (sb.2 _ S.TIz).trans (hk _ _ S.TIz S.TITO S.TIi1 S.TIi2 hTI), ⟨u, v, (sb.2 _ S.TOz).trans TO'⟩, itB_at n1.1.1 fun o q => (sb.2 _ (Ne.symm S.zi1)).trans q, itB_at n2.1.1 fun o q => (sb.2 _ (Ne.symm S.zi2)).trans q⟩, fp_upd (s := s) hf lt⟩
      simp only [List.mem_cons, List.not_mem_nil, or_false, not_or] at nc
      exact (sb.2 c nc.1).trans (hk c o nc.1 nc.2.2.1 nc.2.2.2.1 nc.2.2.2.2 e)
    done := by
      rintro X rfl rfl rfl hc i pins s σ H E I hf st ⟨xs, ys, hqx, hqy, e1, e2, e3⟩
      obtain ⟨x1, ax, b1, nx⟩ := hot_pin hc I hf
      obtain ⟨hz, hTI, ⟨x0,
                y0, hTO⟩, h1, h2⟩ := st
      obtain ⟨is, rv, p, _⟩ := sqB_heap I hqx
      obtain ⟨js, rv2, p2, _⟩ := sqB_heap I hqy
      have q1 := rv.length
      have q2 := rv2.length
      have sa : is.toArray.size = is.length := List.size_toArray
      have sb : js.toArray.size = js.length := List.size_toArray
      refine wpAny_pyNext_zipD2_end (zip_sep3 S nx) (drawsH (A := X.A.in1) ax i1 a na (nx _ (by simp)) is.toArray) (drawsH (A := X.A.in1) ax i2 b nb (nx _ (by simp)) js.toArray) hz hTI hTO ⟨⟨h1, p⟩, b1⟩ ⟨⟨h2, p2⟩, b1⟩ (by omega) (by omega) (by omega) fun h' tk hk => ⟨rfl, ?_⟩
      refine I.turnedL (t' := tk) (ch := [z, TI, TO, i1, i2]) (fun c o nc q => ?_) hf
      simp only [List.mem_cons, List.not_mem_nil, or_false, not_or] at nc
      exact hk c o nc.1 nc.2.2.1 nc.2.2.2.1 nc.2.2.2.2 q }
end
section
variable {X : Cx} {e e2 : Expr} {ta : TA} {p pos tpos : Pos} {elts : List Expr} {kk : Nat}
def iZipH (K : PySem.W.Frag) (ta : TA) : TI := fun σ H R => ta σ H fun vs H1 => ∃ a b xs ys, vs = [.ref a, .ref b] ∧ SqT K H1 a xs ∧ SqT K H1 b ys ∧ R (ItzX false false K a b) H1
theorem pi_zipH (hg : Gl X "zip") (hm : X.mg "zip" = none) (ha : PA X [e, e2] ta) (hs : starEach [e, e2] X.env = (false, eval e X.env) :: starEach [e2] X.env := by rfl) (hpl : (backTo pos (starEach [e2] X.env)).any (·.1) = false := by rfl) :
    PIH X (.Tuple elts kk tpos) (.Call (.Name "zip" p) [e, e2] [] pos) (iZipH X.K ta) := by
  constructor
  intro pins s σ H R I h
  refine Call_ (ld_blt I hg hm boot_zip (callWith_type1 (thn (ha.run pos pins s σ H _ I h) ?_) hs hpl))
  rintro us t ⟨vs, H1, I1, r1, a, b, xs, ys, rfl, hx, hy, q⟩
  obtain ⟨ua, ub, rfl, ra, rb⟩ := vals2 r1
  cases ra
  cases rb
  have new : ∀ c ∈ [t.heap.objs.size + 4, t.heap.objs.size + 2, t.heap.objs.size + 3, t.heap.objs.size, t.heap.objs.size + 1], FpOk X pins H1 c := fun c hc => by
    have le : t.heap.objs.size ≤ c := by
      simp only [List.mem_cons, List.not_mem_nil, or_false] at hc
      omega
    exact I1.fpOk le (I1.hok.fresh le)
  obtain ⟨is, _, p1, la⟩ := sqB_heap (k := false) I1 hx
  obtain ⟨js, _, p2, lb⟩ := sqB_heap (k := false) I1 hy
  generalize hn : t.heap.objs.size = n at *
  have S : ZipSep2 (n + 4) (n + 2) (n + 3) n (n + 1) [n, a] [n + 1, b] := zip_sep n a b la lb
  exact zip_begins2 (beginsB false a is.toArray) (beginsB false b js.toArray) p1 p2 fun h' hz hTI hTO n1 n2 hsz hk => by
    rw [hn] at hz hTI hTO n1 n2 ⊢
    exact wpAny_pyIter_zip hz ⟨_, _, _, _, H1, rfl, I1.kept (t' := t.toks) hk, turn_zipH S (Nat.ne_of_lt la) (Nat.ne_of_lt (Nat.lt_succ_of_lt lb)), ⟨hz, hTI, ⟨_, _, hTO⟩, itB_new n1, itB_new n2⟩, new, q⟩
end
end Zd
namespace Zd
open PySem PySem.Spec PyProof.Rows L2 L2H HotX
abbrev blkH (X : Cx) (q : Addr × Obj) (s : Shared) (H : Hp) (scope : Scope) (cenv : Env) (fp : List Addr) : Cx := pinX (X.blk s H scope cenv fp) q.1 q.2
/-- a block whose walk stands at fp; what it pins is none of that -/
structure BlkX (Xb : Cx) (fp : List Addr) : Prop where
  own : ∀ b ∈ fp, b ∈ Xb.ex
  apart : ∀ p ∈ Xb.pn, p.1 ∉ fp
  hot : HotC Xb
  calls : ∀ e s', ¬ Xb.xe e s'
/-- between two turns -/
def LI (Xb : Cx) (fp : List Addr) (tn : Nat → Heap → Prop) (W : Nat → Nat → Hp → Prop) (σw : L2.St) (n : Nat) (s : Shared) : Prop :=
  ∃ i H, Inv Xb [] σw H s ∧ tn i s.heap ∧ (∀ b ∈ fp, H b = none) ∧ W i n H
/-- what a turn is to do -/
def TurnD (J : It) (g : TG) (tt : TT) (te : TE) (vs : List Nat) (acc : Addr) (W : Nat → Nat → Hp → Prop) (σw : L2.St) (Fin : Hp → Prop) : Prop := ∀ i m H, W i m H →
  (J.stop i H ∧ Fin H) ∨ (J.go i H ∧ ∃ Nx : Hp → Prop, (∀ H', Nx H' → ∃ m', m' < m ∧ W (i + 1) m' H') ∧ ∀ x H', J.yld i H x H' → g x σw H' fun σ2 H2 => wipe σ2 vs = σw ∧ tt σ2 H2 fun b H3 =>
    if b = true then te σ2 H3 fun y H4 => ∃ l, H4 acc = some (.lst l) ∧ l.length < sizeLine ∧ Nx (upd H4 acc (.lst (l ++ [y]))) else Nx H3)
section
variable {Xb : Cx} {fp : List Addr} {tn : Nat → Heap → Prop} {W : Nat → Nat → Hp → Prop} {σw : L2.St}
theorem BlkX.fpOk (B : BlkX Xb fp) {σ : L2.St} {H : Hp} {s : Shared} (I : Inv Xb [] σ H s) (hn : ∀ b ∈ fp, H b = none) : ∀ b ∈ fp, FpOk Xb [] H b := fun b hb =>
  have x := B.own b hb
  have q := I.ok.exf b x
  ⟨hn b hb, q.1, I.ok.exfs b x, .inl x, q.2, fun p hp e => B.apart p (by simpa using hp) (e ▸ hb)⟩
theorem BlkX.no (B : BlkX Xb fp) {R : Value → Shared → Prop} : ∀ e s', Xb.xe e s' → R e s' := fun e s' z => absurd z (B.calls e s')
/-- the end of a turn: the walk is as it was left, the block's own names are gone -/
theorem blk_next {J : It} {it : Addr} {tg : Expr} {vs : List Nat} {i n : Nat} {s2 s' : Shared} {σ' : L2.St} {H' : Hp} {Nx : Hp → Prop} (T : TurnH Xb.prog Xb.w Xb.K tg J fp it tn) (t2 : tn (i + 1) s2.heap)
    (dec : ∀ H', Nx H' → ∃ m', m' < n ∧ W (i + 1) m' H') (e : wipe σ' vs = σw) (I : Inv Xb ([] ++ pinsAt fp s2.heap) σ' H' s') (nx : Nx H') : ∃ m, m < n ∧ LI Xb fp tn W σw m s' := by
  obtain ⟨m, lt, w⟩ := dec H' nx
  have at_ : ∀ b ∈ fp, ∀ o, s2.heap.get? b = some o → s'.heap.get? b = some o ∧ H' b = none := fun b hb o z =>
    have q := I.pin (b, o) (List.mem_append_right Xb.pn (List.mem_append_right [] (mem_pinsAt hb z)))
    ⟨q.1, q.2.1⟩
  subst e
  refine ⟨m, lt, i + 1, H', (Inv.unpinned (pins := []) I).weak (wipe_length σ' vs) fun j v z => (wipe_some z).1, T.keep _ _ _ t2 fun b hb o z => (at_ b hb o z).1, fun b hb => ?_, w⟩
  obtain ⟨o, z, _⟩ := T.obj _ _ t2 b hb
  exact (at_ b hb o z).2
theorem loopH {J : It} {it acc : Addr} {elt tg iter : Expr} {ifs : List Expr} {scope : Scope} {pos : Pos} {g : TG} {tt : TT} {te : TE} {vs : List Nat} {Fin : Hp → Prop} {R : Result → Shared → Prop} (B : BlkX Xb fp) (T : TurnH Xb.prog Xb.w Xb.K tg J fp it tn)
    (pg : PG Xb tg g) (pt : PTs Xb ifs tt) (pe : PE Xb elt te) (step : TurnD J g tt te vs acc W σw Fin) (fin : ∀ H s', Inv Xb [] σw H s' → Fin H → R (.ok .next) s') (n : Nat) (s : Shared) (h : LI Xb fp tn W σw n s) :
    codeAny (model Xb.prog Xb.w) Xb.A (.compLoop (.ListComp elt [⟨tg, iter, ifs, 0⟩] scope pos) 0 (.ref it) (.ref acc) Xb.env) R s := by
  refine compLoop_any (LI Xb fp tn W σw) ?_ n h
  rintro n s ⟨i, H, I, t, hn, w⟩
  have ok := B.fpOk I hn
  obtain ⟨e, f⟩ | ⟨go, Nx, dec, st⟩ := step i n H w
  · exact wpAny_mono (T.done Xb rfl rfl rfl B.hot i [] s σw H (fun _ _ => False) I ok t e) (by
      rintro r s1 ⟨rfl, I1⟩
      exact fin H s1 I1 f) fun _ _ z => z.elim
  · refine wpAny_mono (T.item Xb rfl rfl rfl B.hot i [] s σw H (fun _ _ => False) I ok t go) ?_ fun _ _ z => z.elim
    rintro r s1 ⟨u, rfl, h1⟩
    refine wpAny_mono h1 ?_ fun _ _ z => z.elim
    rintro _ s2 ⟨x, H2, I2, r2, y2, t2, n2⟩
    refine wpAny_mono (pg.run _ s2 σw H2 x u _ (I2.pinned (B.fpOk I2 n2) (T.obj _ _ t2)) r2 (st x H2 y2)) ?_ B.no
    rintro _ s3 ⟨σ3, H3, I3, e3, q3⟩
    refine wpAny_mono (pt.run _ s3 σ3 H3 _ I3 q3) ?_ B.no
    rintro b s4 ⟨H4, I4, q4⟩
    cases b
    · exact blk_next T t2 dec e3 I4 q4
    · refine wpAny_mono (pe.run _ s4 σ3 H4 _ I4 q4) ?_ B.no
      rintro z s5 ⟨y, H5, I5, r5, l, a5, lt, nx⟩
      exact app_ok I5 a5 lt r5 fun s6 I6 => blk_next T t2 dec e3 I6 nx
end
section
variable {X : Cx}
/-- [elt for tg in iter if ..] there -/
theorem pe_lcH {elt tg iter : Expr} {ifs : List Expr} {scope : Scope} {own : List (Str × Nat)} {pos : Pos} {wi : TI} {g : TG} {tt : TT} {te : TE} (hc : HotC X) (hN : X.N.Nodup) (hi : PIH X tg iter wi) (ok : BlkOk X.N X.env.scope scope own)
    (hg : ∀ (q : Addr × Obj), Hot1 X.A q → ∀ (s : Shared) (H : Hp) (C : Addr) (cl : List (Str × Addr)) (fp : List Addr), PG (blkH X q s H scope (compEnvC scope cl C X.env) fp) tg g)
    (ht : ∀ (q : Addr × Obj), Hot1 X.A q → ∀ (s : Shared) (H : Hp) (C : Addr) (cl : List (Str × Addr)) (fp : List Addr), PTs (blkH X q s H scope (compEnvC scope cl C X.env) fp) ifs tt)
    (he : ∀ (q : Addr × Obj), Hot1 X.A q → ∀ (s : Shared) (H : Hp) (C : Addr) (cl : List (Str × Addr)) (fp : List Addr), PE (blkH X q s H scope (compEnvC scope cl C X.env) fp) elt te) (hs : ∀ x, foldedSetIterable iter X.env x = pure x := by intro _; rfl) :
    PE X (.ListComp elt [⟨tg, iter, ifs, 0⟩] scope
              pos) (tLc wi g tt te (own.map (·.2))) := by
  obtain ⟨q, hot, hq⟩ := hc
  constructor
  intro pins s σ H Q I h
  have fr : ∀ y ∈ scope.names, y.2 = .free → ∃ c, X.env.cells.lookup y.1 = some c := fun y hy e => I.ok.has _ (ok.free y hy e)
  rw [eval_ListComp]
  refine wpAny_comprehension_free (use := none) rfl hs (closure_ok fr) ok.kind (fun y hy e => (ok.uniq y hy).trans (congrArg some e)) (wpAny_mono (hi.run pins s σ H _ I h) (fun xv s1 hx => wpAny_mono hx ?_ fun _ _ z => z) fun _ _ z => z)
  rintro itv s2 ⟨it, fp, tn, J, H2, rfl, I2, T, t2, f2, w2⟩
  refine wpAny_newObj_type (newEnv_comp ?_) (Nat.zero_le sizeLine)
  -- the new list, at acc
  obtain ⟨acc, ea⟩ : ∃ acc, s2.heap.objs.size = acc := ⟨_, rfl⟩
  have free : H2 acc = none := I2.hok.fresh (Nat.le_of_eq ea)
  obtain ⟨W, ⟨m0, w0⟩, step⟩ := w2 acc free
  obtain ⟨s3, e3⟩ : ∃ s3 : Shared, ({ s2 with heap := s2.heap.push { cls := .type "list", data := .seq ([] : List Value).toArray } } : Shared) = s3 := ⟨_, rfl⟩
  have up : ∀ {b o}, s2.heap.get? b = some o → s3.heap.get? b = some o := fun {b o} z => by rw [← e3]; exact Heap.get?_push_of_some _ z
  have new : s3.heap.get? acc = some { cls := .type "list", data := .seq ([] : List Value).toArray } := by rw [← e3, ← ea]; exact Heap.get?_push_size _ rfl
  have I3 : Inv X pins σ (upd H2 acc (.lst [])) s3 := by
    have z : ∀ b o, s2.heap.get? b = some o → s3.heap.get? b = some o := fun _ _ => up
    rw [← e3] at z new ⊢
    exact I2.laid (t' := s2.toks) z (Nat.le_of_eq ea) ⟨Nat.zero_le _, [], 0, .nil, new⟩
  have wlk : ∀ b ∈ fp, FpOk X pins (upd H2 acc (.lst [])) b ∧ b < s3.heap.objs.size := fun b hb => by
    obtain ⟨o, z, _⟩ := T.obj _ _ t2 b hb
    have ne : b ≠ acc := fun e => by
      have := Heap.lt_size z
      rw [e, ea] at this
      exact absurd this (Nat.lt_irrefl _)
    have f := f2 b hb
    exact ⟨⟨(upd_ne ne).trans f.1, f.2⟩, Heap.lt_size (up z)⟩
  -- the block
  have P3 := I3.pin q (List.mem_append_left _ hq)
  have I4 := inv_pin (a := q.1) (oe := q.2) (block_start I3 ok hN wlk) ⟨pushCells_keeps _ _ _ _ (Heap.get?_push_of_some _ P3.1), P3.2.1, Nat.ne_of_lt (Heap.lt_size P3.1), fun z => (List.mem_cons.mp (I3.stkSub _ z)).elim P3.2.2.1 P3.2.2.2.1, P3.2.2.2.2⟩
  have t4 : tn 0 (pushCells (s3.heap.push { cls := .type "dict", data := .dict #[] }) scope.names) := T.keep _ _ _ t2 fun b _ o z => pushCells_keeps _ _ _ _ (Heap.get?_push_of_some _ (up z))
  have B : BlkX (blkH X q s3 (upd H2 acc (.lst [])) scope (compEnvC scope (cellsFrom (s3.heap.objs.size + 1) scope.names (cloFrom X.env.cells scope.names [])) s3.heap.objs.size X.env) fp) fp :=
    ⟨fun _ hb => hb, fun p hp hb => (f2 _ hb).2.2.2.2.2 q (List.mem_append_left _ hq) (by rw [List.mem_singleton.mp hp]), ⟨q, hot, List.mem_singleton.mpr rfl⟩, fun _ _ z => z⟩
  have loop := loopH (elt := elt) (iter := iter) (scope := scope) (pos := pos) (acc := acc) (Fin := fun H' => Q (.ref acc) H') (R := compPost (model X.prog X.w) X.A X.xe none (EP X pins σ Q) (.ref acc) s3.heap.objs.size) B T (hg q hot s3 _ _ _ fp) (ht q hot s3 _ _ _ fp) (he q hot s3 _ _ _ fp) step (by
      intro H' s' J q'
      -- back in the def
      obtain ⟨m, ns, _⟩ := J.loc
      have gone : H' s3.heap.objs.size = none := J.free
      refine ⟨m, ns, fun h' sb => ?_⟩
      have K1 : Inv X pins σ H' s' := I3.call' (ch := fp) J.os J.base J.hok J.bare fun b hb => (wlk b hb).1.2.2.2.imp id fun z => ⟨(wlk b hb).1.2.1, z⟩
      obtain ⟨c0, c1, c2, c3, c4, c5⟩ := I3.fpOk (Nat.le_refl _) gone
      exact ⟨.ref acc, H', K1.turned (t' := s'.toks) (fun b o hb e => (sb.2 b hb).trans e) c0 c1 c3 c4 c5, rfl, q'⟩) m0 _ ⟨0, _, I4, t4, fun b hb => (wlk b hb).1.1, w0⟩
  rw [e3, ea]
  exact codeAny_compStart_list loop (T.self X.A 0 _ _ _ t4 loop)
end
end Zd
namespace Zd
open PySem PySem.Spec
open PyProof.Rows L2
section
variable {X : Cx} {c : Str} {C f : Addr} {k : Nat} {e : Expr} {ta : TA} {p pos pos' : Pos}
/-- C(e), let go: the new error stands in the heap, out of what is tracked -/
theorem pmk_exN (T : IniC X.prog X.K C f) (hr : Room (k + 2) X.A) (hg : Gl X c) (hm : X.mg c = some (.ref C)) (ha : PA X [e] ta) (hdb : (c == ("__debug__" : Str)) = false) (he : starEach [e] X.env = (false, eval e X.env) :: starEach [] X.env)
    (hpl : (backTo pos (starEach [] X.env)).any (·.1) = false) : L2N.PMk X (.Call (.Name c p) [e] [] pos) (tMkO C (spIni C) [] ta) := by
  obtain ⟨fd, _, hbd, F1⟩ := init_ok (P := X.prog) (w := X.w) (K := X.K) (mg := X.mg) (base := X.base) (k := k) (CX := fun _ _ _ _ _ _ => False) T
  intro pins s σ H Q I h
  obtain ⟨nm, q, N, bs, bm, sn, sub, ab, col, dd, k0, k1, k2, k3, k5, hC, hbm⟩ := T.T.cls
  refine wpAny_Call_Name_kw (ld_glob I hg hm (PySem.W.callWith_K (h₀ := X.base) I.ok.mod.kin T.T.kC (wpAny_mono (ha.run pos pins s σ H _ I h) ?_ fun _ _ z => z) he hpl) hdb)
  rintro us ⟨hp, g, dr, tk, os⟩ ⟨vs, H1, I1, r1, -, q1⟩
  refine ⟨I1.kIn, ?_⟩
  obtain ⟨a, ea⟩ : ∃ a, hp.objs.size + 1 = a := ⟨_, rfl⟩
  have fresh : hp.objs.size ≤ a := by omega
  have q2 := q1 a (I1.hok.fresh fresh)
  have q2' := q2
  obtain ⟨b, v, ev, -⟩ := q2'
  rw [List.append_nil] at ev q2
  obtain ⟨-, rfl⟩ := List.cons.inj ev
  clear ev
  obtain ⟨u, rfl,
            ru⟩ := vals1 r1
  -- the record of the new error
  obtain ⟨hp2, e2⟩ : ∃ hp2 : Heap, (hp.push (PySem.W.kdv_tup [u])).push (PySem.HandSPX.excO C hp.objs.size) = hp2 := ⟨_, rfl⟩
  have up : ∀ b o, hp.get? b = some o → hp2.get? b = some o := fun b o z => by rw [← e2]; exact Heap.get?_push_of_some _ (Heap.get?_push_of_some _ z)
  have made : hp2.get? a = some (PySem.HandSPX.excO C hp.objs.size) := by
    subst e2 ea
    heap_get
  have J := I1.laid (t' := tk) (o := exo a C none) up fresh (exo_ok made)
  have args : Vals [V.ref a, v] [Value.ref a, u] := .cons rfl (.cons ru .nil)
  have bind_ := hbd ⟨hp2, g, dr, tk, os⟩ [.ref a, u] J.kIn rfl
  rw [List.append_nil] at bind_
  have body := F1.run (X.A.under (.builtin "type.__call__" ⟨[.ref C, u], []⟩)) X.stack ⟨hp2, g, dr, tk, os⟩ _ ⟨[.ref a, u], []⟩ [.ref a, u] [.ref a, v] _ (fun _ _ _ => False) (Room.make hr C [u] []) (J.env0.make C [u] []) bind_ args q2
  have end_ : ∀ r s', CR (fun _ _ _ _ _ _ => False) X.stack X.prog X.w (upd H1 a (exo a C none)) ⟨hp2, g, dr, tk, os⟩ (fun x H2 => x = .non ∧ ∃ (dx : Addr) (fs : List (Str × V)), H2 a = some (exo a C (some dx)) ∧ H2 dx = some (exd dx fs) ∧ H1 dx = none ∧ Q (.ref C) (some dx) (upd (del H2 a) dx (.xd fs))) (fun _ _ _ => False) r s' →
      PySem.W.InitBack a (fun r s' => match r with | .ok (.ret w) => L2N.MkP X pins σ Q w s' | .ok _ => False | .error z => X.xe z s') r s' := by
    rintro (z | fl) ⟨h3, g3, d3, t3, os3⟩ w
    · exact w.elim
    · cases fl with
      | ret x =>
        obtain ⟨y, H2, eos, bare, un, hok, rv, rfl, dx, fs, a1, a2, a3, qq⟩ := w
        obtain ⟨t0, G, K1, sub_, none_, there, gone⟩ := mk_end0 (d2 := d3) (t2 := t3) I1 fresh up un hok eos bare a1 a2 a3
        exact ⟨rv, a, _, _, _, _, .ref C, some dx, rfl, K1, sub_, none_, there, ⟨rfl, rfl, fun ws z => by cases z; rfl⟩, rfl, rfl, gone, rfl, bare, raises_own T.T.exC T.T.tyC, qq⟩
      | _ => exact w.elim
  subst e2 ea
  exact wpAny_call (PySem.HandSPX.call_own F.excBase_ValueError (fun Y => PySem.HandSPX.refsVE_contains Y bm hbm) (I1.kIn _ _ hC) (PySem.W.looks_findIn I1.kIn T.iC) (fun x => PySem.W.bind_fn I1.kIn x T.tI) (show 1 ≤ sizeLine by rw [sizeLine_eq]; omega) (codeAny_mono body end_))
end
section
variable {X : Cx} {c : Str} {C f : Addr} {k : Nat} {p pos pos' : Pos}
theorem mk_bareN {pins : List (Addr × Obj)} {σ : L2.St} {H1 : Hp} {Q : XK} {hp hp2 h2 : Heap} {g1 g2 : Array GenState} {d1 d2 : Drawn} {t1 t2 : Nat} {os1 os2 : OsState} {a C : Addr} (T : Raises X (.ref C)) (I1 : Inv X pins σ H1 ⟨hp, g1, d1, t1, os1⟩)
    (ha : hp.objs.size ≤ a) (k : ∀ b o, hp.get? b = some o → hp2.get? b = some o) (un : Un (frs X.stack) [] (upd H1 a (exo a C none)) (upd H1 a (exo a C none)) hp2 h2) (hok : HOk X.prog X.w (upd H1 a (exo a C none)) h2) (ho : os2 = os1) (hb : AllBare g2)
    (q : Q (.ref C) none H1) : L2N.MkP X pins σ Q (.ref a) ⟨h2, g2, d2, t2, os2⟩ := by
  have hn : H1 a = none :=
      I1.hok.fresh ha
  obtain ⟨t0, hoe⟩ := exo_at hok (e := a) upd_same
  obtain ⟨G, r1, r2⟩ := restrict h2 fun b => decide (b ≠ a)
  have gk : ∀ b, b ≠ a → G.get? b = h2.get? b := fun b hb => r1 b (decide_eq_true hb)
  have ge : G.get? a = none := r2 a (by simp)
  have old : ∀ {b : Addr} {o : Obj}, hp.get? b = some o → b ≠ a := fun {b o} z => Nat.ne_of_lt (Nat.lt_of_lt_of_le (Heap.lt_size z) ha)
  have up : ∀ {b : Addr}, b ≠ a → H1 b = none → upd H1 a (exo a C none) b = none :=
      fun {b} hb n => by rw [upd_ne hb]; exact n
  have U : Un (frs X.stack) [] H1 H1 hp G := ⟨fun b o z n hf hx => by
      rw [gk b (old z)]
      exact un.keep b o (k b o z) (up (old z) n) hf hx, fun b o z n hf hx => by
      rw [gk b (old z)]
      exact un.slot b o (k b o z) (up (old z) n) hf hx, fun b o z n hx => n, fun b o z hx => by
      rw [gk b (old z)]
      exact un.there b o (k b o z) hx, fun b xs z => z, fun b o v z => z, fun b ps z => ⟨#[], by simp [z]⟩⟩
  have hok3 : HOk X.prog X.w H1 G := fun b o z => by
    have hba : b ≠ a := fun e => by rw [e, hn] at z; cases z
    have noa : ∀ {c : Addr}, upd H1 a (exo a C none) c = some (.own b) → c ≠ a := fun {c} hc => at_ne upd_same hc exo_own
    refine (hok b o (by rw [upd_ne hba]; exact z)).stay (fun c v hc y => ?_) (fun c hc => ?_) fun c xs hc => ?_
    · have hca : c ≠ a := by
        rcases hc with hc | hc
        · rw [hc]; exact hba
        · exact noa hc
      rw [gk c hca]
      exact y
    · have := noa hc
      rw [upd_ne this] at hc
      exact hc
    · have : c ≠ a := at_ne upd_same hc exo_tup
      rw [upd_ne this] at hc
      exact hc
  exact ⟨a, _, _, ⟨G, g2, d2, t2, os2⟩, H1, .ref C, none, rfl, I1.call' (ch := []) ho U hok3 hb (fun b z => absurd z (by simp)), fun b o z => by
    by_cases hba : b = a
    · rw [hba, ge] at z; cases z
    · exact (gk b hba).symm.trans z, ge, hoe, ⟨rfl, rfl, fun vs hv => by cases hv; rfl⟩, rfl, rfl, hn, rfl, hb, T, q⟩
theorem pmk_bareN (T : Ini0C X.prog X.K C f) (hr : Room (k + 2) X.A) (hg : Gl X c) (hm : X.mg c = some (.ref C)) (hdb : (c == ("__debug__" : Str)) = false) : L2N.PMk X (.Call (.Name c p) [] [] pos) (fun _ H Q => Q (.ref C) none H) := by
  obtain ⟨fd, hbk, F1⟩ := init0_ok (P := X.prog) (w := X.w) (K := X.K) (mg := X.mg) (base := X.base) (k := k) (CX := fun _ _ _ _ _ _ => False) T
  intro pins s σ H Q I h
  obtain ⟨nm, q, N, bs, bm, sn, sub, ab, col, dd, k0, k1, k2, k3, k5, hC, hbm⟩ := T.T.cls
  refine wpAny_Call_Name_kw (ld_glob
            I hg hm ?_ hdb)
  refine PySem.W.callWith_K0 I.kIn T.T.kC ?_
  show wpAny _ _ (call (.ref C) []) _ _ _
  obtain ⟨hp, g, dr, tk', os⟩ := s
  have hsz : hp.objs.size ≤ hp.objs.size + 1 :=
      Nat.le_succ _
  have kk : ∀ b o, hp.get? b = some o → ((hp.push (PySem.W.kdv_tup [])).push (PySem.HandSPX.excO C hp.objs.size)).get? b = some o := fun b o e => Heap.get?_push_of_some _ (Heap.get?_push_of_some _ e)
  have hget : ((hp.push (PySem.W.kdv_tup [])).push (PySem.HandSPX.excO C hp.objs.size)).get? (hp.objs.size + 1) = some (PySem.HandSPX.excO C hp.objs.size) := by heap_get
  have I3 : Inv X pins σ (upd H (hp.objs.size + 1) (exo (hp.objs.size + 1) C none)) ⟨(hp.push (PySem.W.kdv_tup [])).push (PySem.HandSPX.excO C hp.objs.size), g, dr, tk', os⟩ :=
    I.laid (t' := tk') (a := hp.objs.size + 1) (o := exo (hp.objs.size + 1) C none) (h' := (hp.push (PySem.W.kdv_tup [])).push (PySem.HandSPX.excO C hp.objs.size)) kk hsz (exo_ok hget)
  have hq : spIni0 C [V.ref (hp.objs.size + 1)] (upd H (hp.objs.size + 1) (exo (hp.objs.size + 1) C none)) (fun x H4 => x = .non ∧ H4 = upd H (hp.objs.size + 1) (exo (hp.objs.size + 1) C none)) (fun _ _ _ => False) := ⟨_, rfl, upd_same, rfl, rfl⟩
  refine wpAny_call (PySem.HandSPX.call_own F.excBase_ValueError (fun Y => PySem.HandSPX.refsVE_contains Y bm hbm) (I.kIn _ _ hC) (PySem.W.looks_findIn I.kIn T.iC) (fun self => PySem.W.bind_fn I.kIn self T.tI) (by rw [sizeLine_eq]; exact (by decide : 0 ≤ 16777216))
    (codeAny_mono (F1.run _ X.stack _ _ ⟨[Value.ref (hp.objs.size + 1)], []⟩ [Value.ref (hp.objs.size + 1)] _ _ (fun _ _ _ => False) (Room.make (hr.mono (Nat.le_refl _)) C [] []) (I3.env0.make C [] []) (hbk _ _) (show Vals [V.ref (hp.objs.size + 1)] [Value.ref (hp.objs.size + 1)] from .cons rfl .nil) hq) fun r s' hq' => ?_))
  cases r with
  | error er => exact hq'.elim
  | ok fl =>
    cases fl with
    | ret u2 =>
      obtain ⟨x, H4, os2, bare2, un2, hok2, rv, ev, eH⟩ := hq'
      subst ev eH
      obtain ⟨h4, g4, d4, t4, os4⟩ := s'
      exact ⟨rv, mk_bareN (raises_own T.T.exC T.T.tyC) I hsz kk un2 hok2 os2 bare2 h⟩
    | next => exact False.elim hq'
    | brk => exact False.elim hq'
    | cont => exact False.elim hq'
end
section
variable {X : Cx} {G : Gs} {σ0 : L2.St} {e : Expr} {c : Str} {m : Sm} {p pos pos' : Pos} {k : Nat}
theorem prsN (T : ErC X.prog X.K X.mg G.cls c) (hr : Room (k + 2) X.A) (tk : L2N.Takes X fun cls d _ H => G.E cls d H) (hc : X.calm = true) (ha : PA X [e] (tS G.toGm m)) (hl : Len 1 m) (hg : Gl X c := by rfl) (hK : X.K = G.K := by rfl)
    (hdb : (c == ("__debug__" : Str)) = false := by decide) (he : starEach [e] X.env = (false, eval e X.env) :: starEach [] X.env := by rfl) (hpl : (backTo pos (starEach [] X.env)).any (·.1) = false := by rfl) (hbr : bare c = false := by decide) :
    PS X (.Raise (some (.Call (.Name c p) [e] [] pos)) none pos') (tP G σ0 (pRaise c m)) := by
  obtain ⟨f, I⟩ := T.i
  refine ps_if' (L2N.ps_raise hc tk (pmk_exN (k := k) I hr hg T.m ha hdb he hpl)) fun D σ H ⟨pn, ω, δ, φ, s, o⟩ => ?_
  refine ⟨ω, δ, φ, s, ?_⟩
  have o1 := Out.bind o
  cases em : m δ with
  | no => rw [em] at o1; exact o1.elim
  | ex c a => rw [em] at o1; exact o1
  | ok r =>
    rw [em] at o1
    intro ω' H' φ' vs st s' rp
    have l1 := hl _ _ em
    obtain ⟨rl, r2⟩ := r
    simp only at l1
    match rl, l1 with
    | [a], _ =>
      have o2 : Esc G.K G.cls G.E ω (Fp φ) H c a := o1
      match vs, rp with
      | [v], .cons rv _ =>
        refine ⟨(by decide : 1 ≤ 1000), fun b hn => ⟨b, v, rfl, upd_same, fun dx n ne => ⟨rfl, dx, _, upd_same, (upd_ne ne).trans upd_same, (upd_ne ne).symm.trans n, ?_⟩⟩⟩
        have hd : H' dx = none := (upd_ne ne).symm.trans n
        have eH : upd (del (upd (upd (upd H' b (exo b (G.cls c) none)) dx (exd dx [("at", v)])) b (exo b (G.cls c) (some dx))) b) dx (.xd [("at", v)]) = upd H' dx (.xd [("at", v)]) := by
          funext y
          by_cases h1 : y = dx
          · rw [h1, upd_same, upd_same]
          · rw [upd_ne h1, upd_ne h1]
            by_cases h2 : y = b
            · rw [h2, del_same, hn]
            · rw [del_ne h2, upd_ne h2, upd_ne h1, upd_ne h2]
        rw [eH]
        have ex : Ext H' (upd H' dx (.xd [("at", v)])) := Ext.upd hd
        exact o2 ω' (Fp φ') _ (some dx) v (st.trans (s'.step ex)) (.inl ⟨hbr, dx, rfl, upd_same⟩) (Rep.up rv (s'.step ex).grow)
theorem prs0N (T : Er0C X.prog X.K X.mg G.cls c) (hr : Room (k + 2) X.A) (tk : L2N.Takes X fun cls d _ H => G.E cls d H) (hc : X.calm = true) (hg : Gl X c := by rfl) (hdb : (c == ("__debug__" : Str)) = false := by decide) (hbr : bare c = true := by decide) :
    PS X (.Raise (some (.Call (.Name c p) [] [] pos)) none pos') (tP G σ0 (pRaise0 c)) := by
  obtain ⟨f, I⟩ := T.i
  refine ps_if' (L2N.ps_raise hc tk (pmk_bareN (k := k) I hr hg T.m hdb)) fun D σ H ⟨pn, ω, δ, φ, s, o⟩ => ?_
  have o1 : Esc G.K G.cls G.E ω (Fp φ) H c .none := o
  exact o1 ω (Fp φ) H none .non s.refl (.inr ⟨hbr, rfl, rfl⟩) .non
end
section
variable {P : Program} {w : World} {K : PySem.W.Frag} {mg : Str → Option Value} {base : Heap}
theorem def_okN {x qual : Str} {st : Stmt} {f : Addr} {fd : FuncData} {N ps : List Str} {k n : Nat} {cls : Cl} {κ : Kn} {ret : Sh} {m : Pm} (F : Fun K x qual st f fd) (S : FnScope N ps (defScope st)) (hn : ps.length = n) (hk : ∀ i, i < n → κ i = .im)
    (hb : ∀ (cdv : Value) (A : Around) (outer : List Env) (s : Shared) (H : Hp) (E : XK) (σ0 : L2.St), Room k (A.deeper (envOfC qual (defScope st) s.heap.objs.size f cdv)) →
      PSs (cxOf (L2N.CX P w) P w K mg base N qual (defScope st) f cdv A outer s H E) (defBody st) (tP (gsOf K cls E κ (fun _ => false) ret) σ0 m)) :
    FnOk P w K mg base (L2N.CX P w) (k + 1) f fd ps (spP K cls ret n (runP ret N.length m)) := by
  obtain ⟨oc, od, kV, doc, pm, an,
            cdv, ct, osl, rfl, lk, hcd⟩ := F.ex
  refine fn_of lk hcd S (fun vs H Q E h => by rw [h.1, hn]) (fun A outer s H vs Q E hr h => ⟨_, hb cdv A outer s H E (L2.start N vs) hr, ?_⟩)
  obtain ⟨hl, ω, ds, wf, rp, o⟩ := h
  have sl := slots_start (N := N) (κ := κ) rp wf (fun i hi => hk i (by rw [← hl, rp.length]; exact hi))
  refine ⟨fun _ _ => rfl, ω, _, _, sl, (Out.bind o).mono (fun r hr => ?_) fun c a z => ?_⟩
  · have em : ∀ a, ¬ Fp (fun _ => ([] : List Addr)) a := fun a ⟨_, z⟩ => by simp at z
    rcases fl_inv hr with ⟨d, e1, hq⟩ | ⟨e1, e2, hq⟩
    · simp only [e1]
      intro ω' H' σ' φ' v f st s' _ ow nd hf
      exact hq ω' H' v f ⟨fun a o h n => st.keep a o h (em a), st.om, fun a h n => st.stay a h (em a), fun a z => (st.fp a (.inr z)).imp (fun z => (em a z).elim) id, fun _ z => z.elim, st.wf⟩ s'.wf ow nd fun a ha => (hf a ha).1
    · simp only [e1]
      intro ω' H' σ' φ' st s' _
      subst e2
      exact hq ω' H' .non [] ⟨fun a o h n => st.keep a o h (em a), st.om, fun a h n => st.stay a h (em a), fun a z => absurd z (by simp), fun _ z => z.elim, st.wf⟩ s'.wf (.im .non) .nil fun a ha => absurd ha (by simp)
  · intro ω' P' H' dx v st e r
    have em : ∀ a, ¬ Fp (fun _ => ([] : List Addr)) a := fun a ⟨_, z⟩ => by simp at z
    exact z ω' P' H' dx v ⟨fun a o h n => st.keep a o h (em a), st.om, fun a h n => st.stay a h (em a), fun a z => (st.fp a z).imp (fun z => (em a z).elim) id, fun _ z => z.elim, st.wf⟩ e r
end
end Zd
namespace Zd
open PySem PySem.Spec PyProof.Rows L2 L2H HotX
theorem RoomH.units {k : Nat} {A : Around} (r : RoomH k A) : A.units + 16 * k + 200 < cLine := r.un
section
variable {X : Cx}
theorem op_eqPH {k : Nat} (hr : RoomH k X.A) : OpR X (compareOp .Eq) (rEqP X.K) := by
  intro pins s σ H x y v u
  intro Q I rx ry h
  have hu := RoomH.units hr
  rcases h with ⟨d, e, hd, he, sd, se, hm, q⟩ | ⟨a, b, xs, rfl, rfl, h1, h2, hn, q⟩
  · obtain ⟨as, r1⟩ := Dp.reads I d x v hd rx
    obtain ⟨bs,
              r2⟩ := Dp.reads I e y u he ry
    exact SeqAt.eq_plain r1 r2 sd se (by omega) ⟨.bl _, H, I, rfl, q⟩
  · obtain rfl : v = Value.ref a := rx
    obtain rfl : u = Value.ref b := ry
    obtain ⟨i1, r1, p1, _⟩ := I.list h1
    obtain ⟨i2, r2, p2, _⟩ := I.list h2
    cases r2
    refine SeqAt.RcAt.lists_lengths p1.isList p2.isList ?_ (by omega) _ _ _ _ ⟨.bl _, H, I, rfl, q⟩
    cases r1 with
    | nil => exact (hn rfl).elim
    | cons _ _ => simp
theorem op_nePH {k : Nat} (hr : RoomH k X.A) : OpR X (compareOp .NotEq) (rNeP X.K) := by
  intro pins s σ H x y v u
  intro Q I rx ry h
  have hu := RoomH.units hr
  rcases h with ⟨d, e, hd, he, sd, se, hm, q⟩ | ⟨a, b, xs, rfl, rfl, h1, h2, hn, q⟩
  · obtain ⟨as, r1⟩ := Dp.reads I d x v hd rx
    obtain ⟨bs,
              r2⟩ := Dp.reads I e y u he ry
    exact SeqAt.ne_plain r1 r2 sd se (by omega) ⟨.bl _, H, I, rfl, q⟩
  · obtain rfl : v = Value.ref a := rx
    obtain rfl : u = Value.ref b := ry
    obtain ⟨i1, r1, p1, _⟩ := I.list h1
    obtain ⟨i2, r2, p2, _⟩ := I.list h2
    cases r2
    refine SeqAt.RcNeAt.lists_lengths p1.isList p2.isList ?_ (by omega) _ _ _ _ ⟨.bl _, H, I, rfl, q⟩
    cases r1 with
    | nil => exact (hn rfl).elim
    | cons _ _ => simp
end
section
variable {X : Cx} {G : Gm} {a b : Expr} {pos : Pos} {ta tb : Am} {k : Nat}
theorem cEqH (hr : RoomH k X.A) (ha : PE X a (tA1 G ta)) (hb : PE X b (tA1 G tb)) (hK : X.K = G.K := by rfl) : PE X (.Compare a [.Eq] [b] pos) (tI G (mB gEq ta tb)) := cm (r := rEqP G.K) (hK ▸ op_eqPH hr) bi_eq nx_eq ha hb (nomark _)
theorem tNeH (hr : RoomH k X.A) (ha : PE X a (tA1 G ta)) (hb : PE X b (tA1 G tb)) (hK : X.K = G.K := by rfl) : PT X (.Compare a [.NotEq] [b] pos) (tT G (mT (mB gNe ta tb))) := cmt (r := rNeP G.K) (hK ▸ op_nePH hr) bi_ne nx_ne ha hb (nomark _)
theorem cIsH (hr : RoomH k X.A) (ha : PE X a (tA1 G ta)) (hb : PE X b (tA1 G tb)) : PE X (.Compare a [.Is] [b] pos) (tI G (mB gIs ta tb)) := cm op_isC bi_is nx_is ha hb (nomark _)
theorem tIsH (hr : RoomH k X.A) (ha : PE X a (tA1 G ta)) (hb : PE X b (tA1 G tb)) : PT X (.Compare a [.Is] [b] pos) (tT G (mT (mB gIs ta tb))) := cmt op_isC bi_is nx_is ha hb (nomark _)
end
theorem pih_if {X : Cx} {tg e : Expr} {t t' : TI} (h : PIH X tg e t) (w : ∀ σ H R, t' σ H R → t σ H R) : PIH X tg e t' := ⟨fun pins s σ H R I q => h.run pins s σ H R I (w σ H R q)⟩
def wZipT (m : Sm) : Sm := fun δ => m δ >>= fun r => match r.1 with
  | [.tuple xs, .tuple ys] => .ok (pairs xs ys, r.2)
  | _ => .no
section
variable {X : Cx} {G : Gm} {tg e a b : Expr} {p pos : Pos}
theorem irH {m : Sm} (hm : X.mg "range" = none) (ha : PA X [a] (tS G m)) (hg : Gl X "range" := by rfl) (hs : starEach [a] X.env = [(false, eval a X.env)] := by rfl) : PIH X tg (.Call (.Name "range" p) [a] [] pos) (tW G (wRng m)) := by
  refine pih_if (pi_range1H hg hm ha hs) fun σ H R ⟨ω, δ, φ, s, o⟩ => ⟨ω, δ, φ, s, (Out.bind o).mono (fun r hr ω' H' φ' vs st s' rp => ?_) fun _ _ z => z⟩
  obtain ⟨ds, δ1⟩ := r
  simp only at hr
  split at hr
  · rename_i j
    obtain ⟨⟨c1, c2⟩, hr⟩ := if_inv hr
    cases rp with
    | cons r1 r2 =>
      cases r2
      cases r1
      exact ⟨j, rfl, c1, c2, hr ω' H' φ' _ _ st s' wk_range trivial⟩
  · exact hr.elim
theorem izH {m : Sm} {elts : List Expr} {kk : Nat} {tpos : Pos} (hm : X.mg "zip" = none) (ha : PA X [a, b] (tS G m)) (hK : X.K = G.K := by rfl) (hg : Gl X "zip" := by rfl) (hs : starEach [a, b] X.env = (false, eval a X.env) :: starEach [b] X.env := by rfl) (hpl : (backTo pos (starEach [b] X.env)).any (·.1) = false := by rfl) :
    PIH X (.Tuple elts kk tpos) (.Call (.Name "zip" p) [a, b] [] pos) (tW G (wZipT m)) := by
  refine pih_if (pi_zipH hg hm ha hs hpl) fun σ H R ⟨ω, δ, φ, s, o⟩ => ⟨ω, δ, φ, s, (Out.bind o).mono (fun r hr ω' H' φ' vs st s' rp => ?_) fun _ _ z => z⟩
  obtain ⟨ds, δ1⟩ := r
  rw [hK]
  simp only at hr
  split at hr
  · rename_i xs ys
    cases rp with
    | cons r1 r2 =>
      cases r2 with
      | cons r2 r3 =>
        cases r3
        cases r1 with
        | tup h1 q1 =>
          cases r2 with
          | tup h2 q2 => exact ⟨_, _, _, _, rfl, h1.sqT, h2.sqT, hr ω' H' φ' _ _ st s' (wk_zipX (k1 := false) (k2 := false)) ⟨_, _, ⟨h1.sqT, q1⟩, h2.sqT, q2⟩⟩
  · exact hr.elim
end
section
variable {X : Cx} {G : Gm}
theorem cpH {elt tg iter : Expr} {ifs : List Expr} {scope : Scope} {own : List (Str × Nat)} {pos : Pos} {w : Sm} {t : Tg} {c : Tm} {e : Em} (hc : HotC X) (hN : X.N.Nodup) (hi : PIH X tg iter (tW G w)) (ok : BlkOk X.N X.env.scope scope own) (nx : NoG t)
    (hg : ∀ (q : Addr × Obj), Hot1 X.A q → ∀ (s : Shared) (H : Hp) (C : Addr) (cl : List (Str × Addr)) (fp : List Addr) (σ0 : L2.St), PG (blkH X q s H scope (compEnvC scope cl C X.env) fp) tg (tG (inB G (own.map (·.2))) σ0 t)) (ht : ∀ (q : Addr × Obj), Hot1 X.A q → ∀ (s : Shared) (H : Hp) (C : Addr) (cl : List (Str × Addr)) (fp : List Addr), PTs (blkH X q s H scope (compEnvC scope cl C X.env) fp) ifs (tT (inB G (own.map (·.2))).toGm c))
    (he : ∀ (q : Addr × Obj), Hot1 X.A q → ∀ (s : Shared) (H : Hp) (C : Addr) (cl : List (Str × Addr)) (fp : List Addr), PE (blkH X q s H scope (compEnvC scope cl C X.env) fp) elt (tI (inB G (own.map (·.2))).toGm e)) (hs : ∀ x, foldedSetIterable iter X.env x = pure x := by intro _; rfl) :
    PE X (.ListComp elt [⟨tg, iter, ifs, 0⟩] scope pos) (tO G (.mu .im) (eF (fComp (own.map (·.2)) w t c e))) :=
  pe_if (pe_lcH hc hN hi ok (fun q hq s H C cl fp => pg_any (hg q hq s H C cl fp)) ht he hs) fun σ H Q h => tLc_of nx h
end
def nX (F : List D → Rs D) : List D → Rs D := fun ds => match F ds with
  | .ex _ _ => .no
  | r => r
def spH (K : PySem.W.Frag) (n : Nat) (F : List D → Rs D) : Sp := fun vs H Q E => vs.length = n ∧ ∃ ω ds, Wf ω H ∧ Reps K ω H vs ds ∧
  Out (F ds) (fun d => ∀ ω' H' v f, Step ω (fun _ => False) H ω' (fun a => a ∈ f) H' → Wf ω' H' → Own K ω' H' .im v d f → f.Nodup → (∀ a ∈ f, ω' a) → Q v H') (fun _ _ => False)
structure HsH (P : Program) (w : World) (K : PySem.W.Frag) (mg : Str → Option Value) (base : Heap) (k : Nat) (x : Str) (st : Stmt) (ps : List Str) (sp : Sp) : Prop where
  ex : ∃ f fd, Fun K x x st f fd ∧ mg x = some (.ref f) ∧ Binds K fd ps [] ∧ FnH P w K mg base noX k f fd ps sp
theorem Df.hsH {P : Program} {w : World} {K : PySem.W.Frag} {mg : Str → Option Value} {base : Heap} {k : Nat} {x : Str} {st : Stmt} {ps : List Str} {f : Addr} {fd : FuncData} {sp : Sp} (d : Df K mg x st ps f fd) (h : FnH P w K mg base noX k f fd ps sp) : HsH P w K mg base k x st ps sp := ⟨f, fd, d.fn, d.at_, d.bd, h⟩
theorem fnh_no {P : Program} {w : World} {K : PySem.W.Frag} {mg : Str → Option Value} {base : Heap} {k : Nat} {f : Addr} {fd : FuncData} {ps : List Str} {n : Nat} : FnH P w K mg base noX k f fd ps (spH K n fun _ => .no) :=
  ⟨fun _ _ _ _ ⟨_, _, _, _, _, z⟩ => z.elim, fun _ _ _ _ _ _ _ _ _ _ _ _ _ _ _ _ ⟨_, _, _, _, _, z⟩ => z.elim⟩
theorem FnH.mono {P : Program} {w : World} {K : PySem.W.Frag} {mg : Str → Option Value} {base : Heap} {CX : CXT} {k j : Nat} {f : Addr} {fd : FuncData} {ps : List Str} {sp : Sp} (h : FnH P w K mg base CX k f fd ps sp) (hk : k ≤ j) : FnH P w K mg base CX j f fd ps sp :=
  ⟨h.len, fun A outer s H args us vs Q E p hr => h.run A outer s H args us vs Q E p (hr.mono hk)⟩
section
variable {X : Cx} {G : Gm} {k j : Nat} {st : Stmt} {ps : List Str} {x : Str} {p pos : Pos} {e : Expr} {es : List Expr}
theorem call_ofH {n : Nat} {F : List D → Rs D} {m : Sm} {σ : L2.St} {H : Hp} {Q : VK} {E : L2.St → XK} (hn : ps.length = n) (h : tO G .im (mCall (nX F) m) σ H Q) (hl : ∀ δ r, m δ = .ok r → r.1.length = n) : tCallS (spH G.K n F) E (tS G m) σ H Q := by
  obtain ⟨ω, δ, φ, sl, o⟩ := h
  have o1 := Out.bind o
  refine ⟨ω, δ, φ, sl, ?_⟩
  cases em : m δ with
  | no => rw [em] at o1; exact o1.elim
  | ex c a => rw [em] at o1; exact o1
  | ok r =>
    rw [em] at o1
    intro ω' H' φ' vs st s' rp
    have o2 : Out ((nX F) r.1 >>= fun d => .ok (d, r.2)) _ _ := o1
    refine ⟨by rw [rp.length]; exact hl δ r em, ω', r.1, s'.wf, rp, ?_⟩
    have o3 := Out.bind o2
    unfold nX at o3
    cases eF : F r.1 with
    | no => rw [eF] at o3; exact o3.elim
    | ex c a => rw [eF] at o3; exact o3.elim
    | ok d =>
    rw [eF] at o3
    have hd := o3
    intro ω2 H2 v f2 st2 wf2 ow nd hf
    have s2 := s'.frame st2 (fun _ _ z => z) wf2
    have fresh : ∀ a ∈ f2, H' a = none := fun a ha => (st2.fp a ha).resolve_left id
    refine hd ω2 H2 φ' v f2 (st.trans ⟨fun a o h _ => st2.keep a o h id, st2.om, fun a h _ => st2.stay a h id, fun a z => z.elim .inl fun z => .inr (fresh a z), s'.sub, s'.wf⟩) s2 ow nd fun a ha => ⟨hf a ha, fun z => ?_⟩
    obtain ⟨xs, q⟩ := s'.wf a (s'.sub a z)
    rw [fresh a ha] at q; cases q
theorem hcH {n : Nat} {F : List D → Rs D} {m : Sm} (h : HsH X.prog X.w X.K X.mg X.base k x st ps (spH G.K n F)) (hr : RoomH j X.A) (hkj : k ≤ j) (hh : HotC X) (ha : PA X (e :: es) (tS G m)) (hl : Len n m)
    (hn : ps.length = n := by rfl) (hg : Gl X x := by rfl) (hdb : (x == ("__debug__" : Str)) = false := by decide) (he : starEach (e :: es) X.env = (false, eval e X.env) :: starEach es X.env := by rfl) (hpl : (backTo pos (starEach es X.env)).any (·.1) = false := by rfl) :
    PE X (.Call (.Name x p) (e :: es) [] pos) (tO G .im (mCall (nX F) m)) := by
  obtain ⟨f, fd, F1, hm, hb, hf⟩ := h.ex
  exact pe_if (pe_callH (E := fun _ _ _ _ => False) hf (hr.mono hkj) hh hg hm F1.kp hb (fun _ _ _ _ _ _ _ z => z.elim) ha hdb he hpl) fun σ H Q h => call_ofH hn h hl
end
section
variable {P : Program} {w : World} {K : PySem.W.Frag} {mg : Str → Option Value} {base : Heap}
theorem def_okH {x qual : Str} {st : Stmt} {f : Addr} {fd : FuncData} {N ps : List Str} {k n : Nat} {cls : Cl} {κ : Kn} {m : Pm} (F : Fun K x qual st f fd) (S : FnScope N ps (defScope st)) (hn : ps.length = n) (hk : ∀ i, i < n → κ i = .im)
    (hb : ∀ (cdv : Value) (A : Around) (outer : List Env) (s : Shared) (H : Hp) (E : XK) (p : Addr × Obj) (σ0 : L2.St), Hot1 A p → RoomH k (A.deeper (envOfC qual (defScope st) s.heap.objs.size f cdv)) →
      PSs (cxH noX P w K mg base N qual (defScope st) f cdv A outer s H E p) (defBody st) (tP (gsOf K cls (fun _ _ _ => False) κ (fun _ => false) .im) σ0 m)) :
    FnH P w K mg base noX (k + 1) f fd ps (spH K n (runP .im N.length m)) := by
  obtain ⟨oc, od, kV, doc, pm, an,
            cdv, ct, osl, rfl, lk, hcd⟩ := F.ex
  refine fn_ofH lk hcd S (fun vs H Q E h => by rw [h.1, hn]) (fun A outer s H vs Q E p hot hr h => ⟨_, hb cdv A outer s H E p (L2.start N vs) hot hr, ?_⟩)
  obtain ⟨hl, ω, ds, wf, rp, o⟩ := h
  have sl := slots_start (N := N) (κ := κ) rp wf (fun i hi => hk i (by rw [← hl, rp.length]; exact hi))
  refine ⟨fun _ _ => rfl, ω, _, _, sl, (Out.bind o).mono (fun r hr => ?_) fun c a z => ?_⟩
  · have em : ∀ a, ¬ Fp (fun _ => ([] : List Addr)) a := fun a ⟨_, z⟩ => by simp at z
    rcases fl_inv hr with ⟨d, e1, hq⟩ | ⟨e1, e2, hq⟩
    · simp only [e1]
      intro ω' H' σ' φ' v f st s' _ ow nd hf
      exact hq ω' H' v f ⟨fun a o h n => st.keep a o h (em a), st.om, fun a h n => st.stay a h (em a), fun a z => (st.fp a (.inr z)).imp (fun z => (em a z).elim) id, fun _ z => z.elim, st.wf⟩ s'.wf ow nd fun a ha => (hf a ha).1
    · simp only [e1]
      intro ω' H' σ' φ' st s' _
      exact hq ω' H' .non [] ⟨fun a o h n => st.keep a o h (em a), st.om, fun a h n => st.stay a h (em a), fun a z => absurd z (by simp), fun _ z => z.elim, st.wf⟩ s'.wf (.im .non) .nil fun a ha => absurd ha (by simp)
  · exact z.elim
end
section
variable {X : Cx} {G : Gm} {a : Addr} {oe : Obj} {x n y : Str} {st : Stmt} {f : Addr} {fd : FuncData} {N : List Str} {k : Nat} {κ : Kn} {cls : Cl} {m : Pm} {p pn pos : Pos}
theorem xMarksH (i : Nat) (Dm : Df X.K X.mg x st [y] f fd) (kp : PySem.W.keepIn X.K (.ref f) = true) (S : FnScope N [y] (defScope st)) (hr : RoomH (k + 1) X.A) (hot : Hot1 X.A (a, oe)) (hpn : (a, oe) ∈ X.pn) (hκ : κ 0 = .er a oe)
    (hbody : ∀ (cdv : Value) (A : Around) (outer : List Env) (s : Shared) (H : Hp) (σ0 : L2.St), Hot1 A (a, oe) → RoomH k (A.deeper (envOfC x (defScope st) s.heap.objs.size f cdv)) →
      PSs (cxH noX X.prog X.w X.K X.mg X.base N x (defScope st) f cdv A outer s H (fun _ _ _ => False) (a, oe)) (defBody st) (tP (gsOf X.K cls (fun _ _ _ => False) κ (fun _ => false) .im) σ0 m))
    (hk : G.κ i = .er a oe := by rfl) (hN : X.N[i]? = some n := by rfl) (hv : Vis X.env.scope n := by first | exact Or.inl rfl | exact Or.inr (Or.inl rfl) | exact Or.inr (Or.inr rfl)) (hK : X.K = G.K := by rfl) (hg : Gl X x := by rfl) (hdb : (x == ("__debug__" : Str)) = false := by decide)
    (hyd : (n == ("__debug__" : Str)) = false := by decide) (hcd : (n == ("__classdict__" : Str)) = false := by decide) (he : starEach [.Name n pn] X.env = (false, eval (.Name n pn) X.env) :: starEach [] X.env := by rfl) (hpl : (backTo pos (starEach [] X.env)).any (·.1) = false := by rfl) :
    PE X (.Call (.Name x p) [.Name n pn] [] pos) (tI G (mMarks i (runP .im N.length m))) := by
  refine ⟨fun pins s σ H Q I ⟨ω, δ, φ, sl, o⟩ => ?_⟩
  unfold mMarks at o
  cases e1 : δ[i]? with
  | none => rw [e1] at o; exact o.elim
  | some z =>
  cases z with
  | none => rw [e1] at o; exact o.elim
  | some d0 =>
  rw [e1] at o
  dsimp only at o
  cases e2 : runP .im N.length m [d0] with
  | no => rw [e2] at o; exact o.elim
  | ex c z => rw [e2] at o; exact o.elim
  | ok r0 =>
  rw [e2] at o
  obtain ⟨c, v, d, rfl, hσ, he0, rp⟩ := sl.er hk e1
  refine wpAny_Call_Name_kw (ld_glob I hg Dm.at_ ?_ hdb)
  refine PySem.W.callWith_K (h₀ := X.base) I.ok.mod.kin kp (thn ((pa_cons (pe_var (pos := pn) hN hv hyd hcd) pa_nil he).run pos pins s σ H (fun vs H1 => vs = [.ref a] ∧ H1 = H) I ⟨.ref a, hσ, rfl, rfl⟩) fun us s1 ⟨vs, H1, I1, r, q⟩ => ⟨I1.kIn, ?_⟩) he hpl
  obtain ⟨rfl, rfl⟩ := q
  have r' := r
  cases r with
  | @cons _ u _ us1 ra rr =>
  cases rr
  obtain rfl : u = Value.ref a := ra
  have hp0 := I1.pin (a, oe) (List.mem_append_left _ hpn)
  refine wpAny_call (codeAny_mono (R := fun r s' => CR noX X.stack X.prog X.w H1 s1 Q (fun _ _ _ => False) r s') ?_ fun r s' hq => ?_)
  · obtain ⟨oc, od, kV, doc, pm, an, cdv, ct, osl, rfl, lk, hcd⟩ := Dm.fn.ex
    have e0 := I1.env0
    have KX := I1.kIn
    have lim := I1.nolimit
    refine codeAny_call_function hr.depth (KX _ _ lk) rfl S.co S.gen rfl (PySem.W.codeRec_of KX hcd) (Dm.bd _ [Value.ref a] KX rfl _ _ _ _ ?_)
    refine wpAny_newFunctionEnv_cells S.kind (fun ⟨w, z⟩ hy => ?_) fun env he1 s2 xx => ?_
    · rcases S.par w (List.of_mem_zip hy).1 with q | q
      · exact .inl q
      · exact .inr ⟨q,
                PySem.W.cellsFrom_some _ _ _ (.inl q)⟩
    subst he1
    refine ⟨lim.keeps
              xx.toInCall.keep, codeAny_func ?_⟩
    have hpin : PinOk X.stack H1 s1 (a, oe) := ⟨hp0.1, hp0.2.1, fun hm => (List.mem_cons.mp (I1.stkSub a hm)).elim hp0.2.2.1 hp0.2.2.2.1, hp0.2.2.2.2⟩
    have Jp : Inv (cxH noX X.prog X.w X.K X.mg X.base N x (defScope st) f cdv X.A X.stack s1 H1 (fun _ _ _ => False) (a, oe)) [] (start N [V.ref a]) H1 s2 := inv_startH S hpin e0 rfl r' xx
    have hb := hbody cdv X.A X.stack s1 H1 (start N [V.ref a]) hot (hr.deeper _)
    have so := slots_startM (K := X.K) (κ := κ) (ω := ω) (H := H1) (N := N) (v0 := .ref a) (d0 := .dict [(.str c, d)]) (f0 := []) (vs := []) (ds := []) (by rw [hκ]; rw [hK]; exact .er he0 rp) .nil (fun z hz => absurd hz (by simp)) .nil sl.wf (fun j h1 h2 => by simp at h2; omega)
    have em : ∀ b, ¬ Fp (fun i => if i = 0 then ([] : List Addr) else []) b := fun b ⟨j, z⟩ => by
      dsimp only at z
      split at z <;> simp at z
    have o1 := o
    refine wpAny_mono (hb.run [] s2 _ H1 { nx := fun _ H' => Q .non H', rt := Q } Jp ⟨fun _ _ => rfl, ω, _, _, so, ?_⟩) (fun fl s' hs => ?_) fun e s' hs => hs
    · have er : Out (runP .im N.length m [.dict [(.str c, d)]]) (fun r => r = r0) (fun _ _ => False) := by rw [e2]; exact rfl
      refine (Out.bind er).mono (fun r hr1 => ?_) fun c a z => z.elim
      have up : ∀ {ω' : Om} {H' : Hp} {P' : Om} {v : V}, Step ω (Fp fun i => if i = 0 then ([] : List Addr) else []) H1 ω' P' H' → Wf ω' H' → Rep X.K ω' H' v r0 → Q v H' := fun {ω' H' P' v} st wf rp => by
        have st1 : Step ω (fun _ => False) H1 ω' (fun _ => False) H' := ⟨fun b o h n => st.keep b o h (em b), st.om, fun b h n => st.stay b h (em b), fun _ z => z.elim, fun _ z => z.elim, st.wf⟩
        exact o1 ω' H' φ v ⟨fun b o h _ => st1.keep b o h id, st1.om, fun b h _ => st1.stay b h id, fun b z => .inl z, sl.sub, sl.wf⟩ (sl.frame st1 (fun _ _ z => z) wf) (hK ▸ rp)
      rcases fl_inv hr1 with ⟨d1, e3, hq⟩ | ⟨e3, _, hq⟩
      · simp only [e3]
        intro ω' H' σ' φ' v f st s' _ ow nd hf
        subst hq
        exact up st s'.wf ow.im_inv.1
      · simp only [e3]
        intro ω' H' σ' φ' st s' _
        subst hq
        exact up st s'.wf .non
    · have fin : ∀ {σ' : L2.St} {H' : Hp} {v : V} {u : Value}, Inv (cxH noX X.prog X.w X.K X.mg X.base N x (defScope st) f cdv X.A X.stack s1 H1 (fun _ _ _ => False) (a, oe)) [] σ' H' s' → RelV v u → Q v H' → CE X.stack X.prog X.w H1 s1 Q u s' :=
        fun {σ' H' v u} J rv q => ⟨v, H',
                  J.os, J.bare, J.base, J.hok, rv, q⟩
      cases fl with
      | ret u =>
        obtain ⟨v, σ', H',
                  J, rv, q⟩ := hs
        exact fin J rv q
      | next =>
        obtain ⟨σ', H', J, q⟩ := hs
        exact fin (v := V.non) (u
                  := Value.none) J rfl q
      | brk =>
        obtain ⟨_, _, _, q⟩ := hs
        exact q.elim
      | cont =>
        obtain ⟨_, _, _, q⟩ := hs
        exact q.elim
  · cases r with
    | error e => exact hq.elim
    | ok fl =>
      cases fl with
      | ret u => exact I1.after hq
      | next => exact hq.elim
      | brk => exact hq.elim
      | cont => exact hq.elim
end
end Zd
namespace Zd
open PySem PySem.Spec PyProof.Rows L2 L2H HotX
theorem takes0N {X : Cx} : L2N.Takes X (fun _ _ _ _ => False) := fun _ _ x => by
  obtain ⟨_, _, _, _, _, _, _, _,
            _, _, _, _, _, _, _, _, z⟩ := x
  exact z.elim
section
variable {X : Cx} {G : Gs} {σ0 : L2.St} {x n fn : Str} {i k j : Nat} {suite : List Stmt} {b₀ st : Stmt} {ps : List Str} {np pf pc pe pos pos' : Pos} {e0 : Expr} {es : List Expr} {cs : List Str} {F : List D → Rs D} {ms : Sm} {su : Pm} {m : Nat}
theorem ptryEN (i : Nat) (C : CaC X.K X.mg G.cls cs x) (hfn : ∃ f fd, Fun X.K fn fn st f fd ∧ X.mg fn = some (.ref f) ∧ Binds X.K fd ps [] ∧ FnOk X.prog X.w X.K X.mg X.base (L2N.CX X.prog X.w) k f fd ps (spP G.K G.cls .im m F)) (hr : Room j X.A) (hkj : k ≤ j)
    (hns : ∀ c ∈ cs, PySem.W.nsIn X.K mainGlobals c = some (some (.ref (G.cls c)))) (hκ : ∀ j, G.κ j = .im)
    (ha : ∀ (pn : List (Addr × Obj)) (xe : Value → Shared → Prop), PA (X.tr pn xe) (e0 :: es) (tS G.toGm ms)) (hl : Len m ms) (hms : ∀ δ r, ms δ = .ok r → r.2 = δ)
    (hsu : ∀ (a : Addr) (oe : Obj) (pn : List (Addr × Obj)) (σ1 : L2.St), Hot1 (X.suite a ((a, oe) :: pn)).A (a, oe) → PSs (X.suite a ((a, oe) :: pn)) (b₀ :: suite) (tP (gsOf G.K G.cls (fun _ _ _ => False) (kE i a oe) (fun _ => false) .im) σ1 su))
    (hpin : ∀ i, G.pin i = false) (hN : X.N.Nodup) (hi : X.N[i]? = some n := by rfl) (hs : X.stack = X.env :: X.outer := by rfl) (hf : X.env.frame = some X.env.locals := by rfl) (hln : X.env.kindOf n = some .local := by rfl) (hg : Gl X x := by rfl) (hgf : Gl X fn := by rfl) (hK : X.K = G.K := by rfl) (hret : G.ret = .im := by rfl)
    (hdb : (x == ("__debug__" : Str)) = false := by decide) (hdf : (fn == ("__debug__" : Str)) = false := by decide) (hm : ps.length = m := by rfl)
    (he : ∀ (pn : List (Addr × Obj)) (xe : Value → Shared → Prop), starEach (e0 :: es) (X.tr pn xe).env = (false, eval e0 (X.tr pn xe).env) :: starEach es (X.tr pn xe).env := by intros; rfl) (hpl : ∀ (pn : List (Addr × Obj)) (xe : Value → Shared → Prop), (backTo pc (starEach es (X.tr pn xe).env)).any (·.1) = false := by intros; rfl)
    (hsw : ∀ (pn : List (Addr × Obj)) (xe : Value → Shared → Prop), swapsWith (.Call (.Name fn pf) (e0 :: es) [] pc) none pe.line (X.tr pn xe).env = pure false := by intros; rfl) :
    PS X (.Try [.Expr (.Call (.Name fn pf) (e0 :: es) [] pc) pe] [.ExceptHandler (some (.Name x np)) (some n) (b₀ :: suite) pos'] [] [] pos) (tP G σ0 (pTryE cs i F ms su)) := by
  obtain ⟨B, mB, hx⟩ := C.c
  obtain ⟨f, fd, F1, hmf, hbf, hff⟩ := hfn
  have tsuite : ∀ (a : Addr) (oe : Obj) (cls : Value) (d : Option Addr) (pn : List (Addr × Obj)), L2N.Zn cls d oe → (∃ vs, oe.data = .fields vs) →
      PSs (X.suite a ((a, oe) :: pn)) (b₀ :: suite) (fun D σ H => ∀ oe : Obj, L2N.Zn cls d oe → (∃ vs, oe.data = .fields vs) → tP (gsOf G.K G.cls (fun _ _ _ => False) (kE i a oe) (fun _ => false) .im) σ su D σ H) := fun a oe cls d pn hz hv =>
    ⟨fun pins s σ H D I hw => (hsu a oe pn σ ⟨rfl, by obtain ⟨vs, hv⟩ := hv; exact ⟨vs, hv, hz.2.2 vs hv⟩⟩).run pins s σ H D I (hw oe hz hv)⟩
  refine ps_if' (L2N.ps_try_as (i := i) (tb := fun W => tDrop (tCallS (spP G.K G.cls .im m F) (WE W) (tS G.toGm ms))) hs hf hN hi hln ⟨hg, hdb, .inl mB⟩ takes0N (fun W pn xe tk' po => pss_one (ps_expr (pe_callS (X := X.tr pn xe) hff (hr.mono hkj) hgf hmf F1.kp hbf (fun σ => L2N.passAt tk' σ) (ha pn xe) hdf (he pn xe) (hpl pn xe)) (hsw pn xe))) tsuite) fun D σ H ⟨pin, ω, δ, φ, s, o⟩ => ?_
  show tCallS _ _ _ σ H _
  have o : Out (pTryE cs i F ms su δ) _ _ := o
  unfold pTryE at o
  cases e1 : ms δ with
  | no => rw [e1] at o; exact o.elim
  | ex c a => rw [e1] at o; exact o.elim
  | ok r =>
  rw [e1] at o
  dsimp only at o
  refine ⟨ω, δ, φ, s, ?_⟩
  rw [e1]
  intro ω1 H1 φ1 vs st1 s1 rp
  rw [hms δ r e1] at s1
  refine ⟨by rw [rp.length]; exact hl δ r e1, ω1, r.1, s1.wf, rp, ?_⟩
  cases e2 : F r.1 with
  | no => rw [e2] at o; exact o.elim
  | ok d =>
    rw [e2] at o
    intro ω' H' v f st2 wf2 ow nd hf2
    have s2 := s1.frame st2 (fun _ _ z => z) wf2
    have e0 := (ow : Own G.K ω' H' .im v d f).im_inv.2
    subst e0
    exact o ω' H' σ φ1 (st1.trans ⟨fun a o h _ => st2.keep a o h id, st2.om, fun a h _ => st2.stay a h id, fun a z => .inl z, s1.sub, s1.wf⟩) s2 pin
  | ex c a =>
    rw [e2] at o
    dsimp only at o
    obtain ⟨hc, o⟩ := if_inv o
    intro ω2 P2 H2 d v st2 ea rv
    refine ⟨true, hx c hc, fun _ b nb => ?_, fun z => nomatch z⟩
    intro oe hz hv
    have em : ∀ b, ¬ Fp (fun _ => ([] : List Addr)) b := fun b ⟨_, z⟩ => by simp at z
    have g : Grow ω1 H1 ω1 H2 := ⟨fun b o h _ => st2.keep b o h id, s1.wf, fun b z => .inl z⟩
    have wf2 : Wf ω1 H2 := fun b z => by
      obtain ⟨xs, q⟩ := s1.wf b z
      exact ⟨xs, st2.keep b _ q id⟩
    have rv1 : Rep G.K ω1 H2 v a := Rep.sub (fun b z => st2.stay b z id) rv
    have sl : Slots G.K (kE i b oe) ω1 H2 (σ.set i (some (.ref b))) (δ.set i (some (.dict [(.str c, a)]))) (fun _ => []) := {
      len := by rw [List.length_set, List.length_set]; exact s1.len
      at_ := fun q z hq => by
        rw [List.getElem?_set] at hq
        by_cases e : i = q
        · subst e
          rw [if_pos rfl] at hq
          split at hq
          · rename_i lt
            cases hq
            refine ⟨.ref b, by rw [List.getElem?_set_self (by have := s1.len; omega)], ?_⟩
            show Own G.K ω1 H2 (if i = i then .er b oe else .im) _ _ _
            rw [if_pos rfl]
            refine .er ⟨G.cls c, by rw [← hK]; exact hns c hc, hz.1, hv, by rw [hz.2.1]; exact ea⟩ rv1
          · cases hq
        · rw [if_neg e] at hq
          obtain ⟨w, h1, h2⟩ := s1.at_ q z hq
          rw [hκ] at h2
          refine ⟨w, by rw [List.getElem?_set_ne e]; exact h1, ?_⟩
          show Own G.K ω1 H2 (if q = i then .er b oe else .im) _ _ _
          rw [if_neg (Ne.symm e)]
          exact .im (h2.im_inv.1.up g)
      nod := fun _ => .nil
      dis := fun _ _ _ _ z => absurd z (by simp)
      sub := fun b z => absurd z (em b)
      wf := wf2 }
    refine ⟨fun _ _ => rfl, ω1, _, _, sl, ?_⟩
    cases e3 : su (δ.set i (some (.dict [(.str c, a)]))) with
    | no => rw [e3] at o; exact o.elim
    | ex c a => rw [e3] at o; exact o.elim
    | ok r3 =>
      obtain ⟨fl, δ3⟩ := r3
      rw [e3] at o
      cases fl with
      | nx => exact o.elim
      | bk => exact o.elim
      | ct => exact o.elim
      | rt dd =>
        intro ω' H' σ' φ' v' f st4 s6 _ ow nd hf
        have e0 := (ow : Own G.K ω' H' .im v' dd f).im_inv
        obtain ⟨rp4, rfl⟩ := e0
        have st12 : Step ω1 (Fp φ1) H1 ω1 (fun _ => False) H2 := ⟨fun b o h _ => st2.keep b o h id, fun b z => .inl z, fun b z _ => z, fun _ z => z.elim, s1.sub, s1.wf⟩
        have st24 : Step ω1 (fun _ => False) H2 ω' (fun b => Fp (fun _ => ([] : List Addr)) b ∨ b ∈ ([] : List Addr)) H' := ⟨fun b o h _ => st4.keep b o h (em b), st4.om, fun b z _ => st4.stay b z (em b), fun b z => z.elim (fun z => (em b z).elim) fun z => absurd z (by simp), fun _ z => z.elim, st4.wf⟩
        have s4 := s6
        refine o ω' H' σ (fun _ => []) v' [] ((st1.trans st12).trans st24) ⟨by rw [List.length_map]; exact s.len, fun q z hq => ?_, fun _ => .nil, fun _ _ _ _ z => absurd z (by simp), fun b z => absurd z (em b), s4.wf⟩ pin (by rw [hret]; exact .im rp4) .nil fun _ z => absurd z (by simp)
        rw [List.getElem?_map] at hq
        cases e : δ[q]? <;> rw [e] at hq <;> cases hq
end
end Zd
namespace Zd
open PySem PySem.Spec PyProof.Rows L2 L2H HotX
def Pur (m : Sm) : Prop := ∀ δ r, m δ = .ok r → r.2 = δ
theorem pur0 : Pur sNil := fun δ r h => by cases h; rfl
theorem purS {i : Nat} {m : Sm} (h : Pur m) : Pur (sCons (mV i) m) := fun δ r q => by
  unfold sCons at q
  have e0 : ∀ x, mV i δ = .ok x → x.2 = δ := fun x hx => by
    unfold mV at hx
    split at hx
    · cases hx; rfl
    · cases hx
  cases e1 : mV i δ with
  | no => rw [e1] at q; cases q
  | ex c a => rw [e1] at q; cases q
  | ok d =>
    rw [e1] at q
    have q : (m d.2 >>= fun q => Rs.ok (d.1 :: q.1, q.2)) = .ok r := q
    rw [e0 d e1] at q
    cases e2 : m δ with
    | no => rw [e2] at q; cases q
    | ex c a => rw [e2] at q; cases q
    | ok b =>
      rw [e2] at q
      cases q
      exact h δ b e2
def NsA (K : PySem.W.Frag) (cls : Cl) (cs : List Str) : Prop := ∀ c ∈ cs, PySem.W.nsIn K mainGlobals c = some (some (.ref (cls c)))
theorem nsa_nil {K : PySem.W.Frag} : NsA K (clsK K) [] := nofun
theorem nsa_cons {K : PySem.W.Frag} {c : Str} {C : Addr} {cs : List Str} (a : PySem.W.nsIn K mainGlobals c = some (some (.ref C))) (t : NsA K (clsK K) cs) : NsA K (clsK K) (c :: cs) := fun d hd => by
  rcases (List.mem_cons.mp hd) with
      rfl | hd
  · rw [clsK_of a]; exact a
  · exact t d hd
theorem NsA.eq {K : PySem.W.Frag} {cls : Cl} {cs cs' : List Str} (h : NsA K cls cs) (hs : ∀ c ∈ cs', c ∈ cs) : ∀ c ∈ cs', ∀ C : Addr, PySem.W.nsIn K mainGlobals c = some (some (.ref C)) → cls c = C := fun c hc C e => by
  rw [h c (hs c hc)] at e
  cases e
  rfl
def kxB (K : PySem.W.Frag) (C : Addr) : Bool := (PySem.W.clsIn K C).isSome && (decide (PySem.W.findIn K (.ref C) "__getattribute__" = some (some (.builtin "BaseException.__getattribute__"))) && (decide (PySem.W.findIn K (.ref C) "__getattr__" = some none) && (decide (PySem.W.subIn K (.ref C) (.type "BaseException") = some true) &&
  (decide (PySem.W.findIn K (.ref C) "__class__" = some (some (.builtin "object.__class__"))) && (decide (PySem.W.specialIn K (.builtin "object.__class__") "__get__" = some (some (.builtin "getset_descriptor.__get__"))) && (decide (PySem.W.takesIn K (.builtin "object.__class__") = some true) && decide (PySem.W.mroIn K C (.type "object") = some true)))))))
theorem kxB_ok {K : PySem.W.Frag} {C : Addr} (h : kxB K C = true) : KxC K C := by
  unfold kxB at h
  simp only [Bool.and_eq_true,
            decide_eq_true_eq] at h
  obtain ⟨h1, h2, h3, h4, h5, h6, h7, h8⟩ := h
  exact ⟨h1, h2, h3, h4, h5, h6, h7, h8⟩
theorem er0_mk {P : Program} {K : PySem.W.Frag} {h : Heap} {mg : Str → Option Value} (X : K.In h) (G : h.Ns mainGlobals mg) {c : Str} {C f : Addr}
    {nm q : Str} {N : Addr} {bs bm : List Value} {sn : List Str} {sub : List Value} {ab : Bool} {col : Option Bool} {dd : Option Addr} {k0 k1 k2 k3 k5 : Option Value}
    {oc : Value} {od : Option Addr} {qual : Str} {kV doc pm : Value} {an : Option Addr} {cda cc : Addr} {ct : Value} {osl : Array (Option Value)} {m : Str} {p1 q1 q2 q3 q4 q5 q6 : Pos}
    {cl : Value} {cld : Option Addr} {csl : Array (Option Value)} {ccl : Value} {cdd : Option Addr} {vs : Array Value} {ccs : Array (Option Value)} {file : Str} {tf : Tok}
    (a : PySem.W.nsIn K mainGlobals c = some (some (.ref C)))
    (xL : K.lookup C = some (excClassObj nm q C N bs bm true sn sub ab col dd k0 k1 k2 k3 k5 "ValueError.__new__")) (hbm : PySem.HandSPX.refsVE bm = true)
    (sa : PySem.W.findIn K (.ref C) "__setattr__" = some (some (.builtin "object.__setattr__"))) (exC : PySem.W.subIn K (.ref C) (.type "BaseException") = some true) (tyC : PySem.W.typeIn K (.ref C) = some (.type "type")) (kC : PySem.W.keepIn K (.ref C) = true)
    (lf : K.lookup f = some ⟨oc, od, .func (PySem.W.fnX "__init__" qual (ini0A p1) (ini0B m q1 q2 q3 q4 q5 q6) ini0S [("__class__", cc)] .none kV doc pm an (.ref cda) ct), osl⟩) (cd : PySem.W.codeIn K (.ref cda) qual = true) (h35 : (q3.endLine == q5.line) = true)
    (lcc : K.lookup cc = some ⟨cl, cld, .cell (some (.ref C)), csl⟩) (lcd : K.lookup cda = some ⟨ccl, cdd, .fields vs, ccs⟩) (hvs : vs[2]? = some (.str file tf)) (hfile : ((P.main.file : Str) == file) = true)
    (sb : PySem.W.mroIn K C (.ref C) = some true) (sup : PySem.W.nsIn K mainGlobals "super" = some none) (stat : PySem.W.nsIn K PySem.cStatics "thirdparty.any" = some none)
    (sin : PySem.W.ks_superIn K C C "__init__" = some (some (.builtin "ValueError.__init__"))) (subV : PySem.W.subIn K (.ref C) (.type "ValueError") = some true)
    (iC : PySem.W.findIn K (.ref C) "__init__" = some (some (.ref f))) (tI : PySem.W.typeIn K (.ref f) = some (.type "function")) (top : (P.main.scope.names.lookup ("super" : Str)).isSome = false) : Er0C P K mg (clsK K) c := by
  have e := clsK_of a
  refine ⟨⟨f, ?_⟩, ?_⟩
  · rw [e]
    exact ⟨⟨⟨nm, q, N, bs, bm, sn, sub, ab, col, dd, k0, k1, k2, k3, k5, xL, hbm⟩, sa, exC, tyC, kC⟩, ⟨oc, od, qual, kV, doc, pm, an, cda, cc, ct, osl, m, p1, q1, q2, q3, q4, q5, q6, lf, cd, h35, ⟨cl, cld, csl, lcc⟩, ccl, cdd, vs, ccs, file, tf, lcd, hvs, hfile⟩, sb, sup, stat, sin, subV, iC, tI, top⟩
  · rw [e]; exact PySem.W.mg_of X G a
theorem pe_bty {X : Cx} {nm : Str} {T : String} {p : Pos} (hg : Gl X nm) (hm : X.mg nm = none) (hv : bootBuiltins nm = some (.type T)) (hn : nm ≠ PySem.Str.ofString "__name__" := by decide) (hd : (nm == PySem.Str.ofString "__debug__") = false := by decide) : PE X (.Name nm p) (tC (.ty T)) := ⟨fun _ _ _ H _ I h => ld_blt I hg hm hv ⟨.ty T, H, I, rfl, h⟩ hn hd⟩
theorem roomH_mk {k : Nat} {A : Around} {h : Option Value} (r : Room k A) : RoomH k (A.mark h) := ⟨r.dp, r.un⟩
end Zd
namespace Zd
open PySem PySem.Spec PyProof.Rows L2 L2H HotX
section
variable {prog : Program} {w : World} {A : Around} {E : Value → Shared → Prop} {s : Shared}
/-- all items drawn, then one more asked for in vain -/
theorem drawAll_hot {x1 t : Addr} {is : Array Value} {Q : List Value → Shared → Prop} (hot : HotAt A x1 s.heap) (ht : IsTup s.heap t is) (hQ : ∀ h', Heap.ExtBut s.heap.objs.size s.heap h' → Q is.toList { s with heap := h' }) :
    wpAny (model prog w) A (unpackItems (.ref t) is.size none) Q E s := by
  have nt : t ≠ s.heap.objs.size := let ⟨_, g, _⟩ := ht; Nat.ne_of_lt (Heap.lt_size g)
  have nx : x1 ≠ s.heap.objs.size := let ⟨_, _, _, g, _⟩ := hot; Nat.ne_of_lt (Heap.lt_size g)
  obtain ⟨h0, e0⟩ : ∃ h0 : Heap, s.heap.push { cls := .type "tuple_iterator", data := .fields #[.ref t, .int 0 0] } = h0 := ⟨_, rfl⟩
  have up : ∀ {b o}, s.heap.get? b = some o → h0.get? b = some o := fun {b o} z => by rw [← e0]; exact Heap.get?_push_of_some _ z
  have it0 : IsTupIter h0 s.heap.objs.size t 0 := by rw [← e0]; exact ⟨_, Heap.get?_push_size _ rfl, rfl, rfl⟩
  have tup0 : IsTup h0 t is := let ⟨o, g, r⟩ := ht; ⟨o, up g, r⟩
  unfold unpackItems notIterableAtAll
  refine wpAny_bind (wpAny_bind (wpAny_specialOf ht.typeIs slot_tuple_iter.lookup (wpAny_pure ?_)))
  simp only [Bool.false_eq_true,
            if_false]
  refine wpAny_bind (wpAny_holding
            (iter_tuple ht ?_))
  rw [e0]
  refine wpAny_bind (wpAny_holding (draw_tuple nt is.size 0 { s with heap := h0 } _ it0 tup0 (by omega) fun h1 it1 sb => ?_))
  have all : (is.toList.drop 0).take is.size = is.toList := List.take_of_length_le (by rw [List.drop_zero, Array.length_toList]; exact Nat.le_refl _)
  rw [all, if_neg (by rw [Array.length_toList]; exact Nat.lt_irrefl _)]
  have tup1 : IsTup h1 t is := let ⟨o, g, r⟩ := tup0; ⟨o, sb.extBut t o nt g, r⟩
  refine wpAny_bind (wpAny_holding (pyNextEnd_hot (i := 0 + is.size) (hot_keep hot fun o g => sb.extBut x1 o nx (up g)) nx it1 tup1 (by simp) fun h2 k => ?_))
  simp only [Option.isSome_none,
            Bool.false_eq_true, if_false]
  exact wpAny_pure (hQ h2 fun b o n g => k b o n (sb.extBut b o n (up g)))
theorem apart_hot {env : Env} {elts : List Expr} {k : Nat} {pos : Pos} {x1 t : Addr} {is : Array Value} {Q : Unit → Shared → Prop} (hot : HotAt A x1 s.heap) (ht : IsTup s.heap t is) (hn : (assignEach elts env).length = is.size) (hst : (assignEach elts env).findIdx? (·.1) = none)
    (h : ∀ h', Heap.ExtBut s.heap.objs.size s.heap h' → wpAny (model prog w) A (assignInOrder ((assignEach elts env).map (·.2)) is.toList) Q E { s with heap := h' }) : wpAny (model prog w) A (assign (.Tuple elts k pos) env (.ref t)) Q E s := by
  rw [assign_Tuple]
  refine wpAny_bind (wpAny_standAt ?_)
  unfold unpack
  rw [hst, hn]
  exact wpAny_bind (wpAny_holding (drawAll_hot hot ht h))
end
section
variable {X : Cx} {G : Gs} {σ0 : L2.St} {pos : Pos}
theorem gtH {es : List Expr} {k : Nat} {t : Tgs} {n : Nat} (hc : HotC X) (h : PGs X es (tGs G σ0 t)) (hK : X.K = G.K := by rfl)
    (hn : (assignEach es X.env).length = n := by rfl) (hst : (assignEach es X.env).findIdx? (·.1) = none := by rfl) : PG X (.Tuple es k pos) (tG G σ0 (gT n t)) := by
  constructor
  rintro pins s σ H v u Q I r ⟨p, ω, δ, φ, d, sl, rp, o⟩
  cases d with
  | tuple ds =>
    simp only [gT] at o
    by_cases hl : ds.length = n
    · rw [if_pos hl] at o
      obtain ⟨a, vs, rfl, hs, rs⟩ := Lk.tuple (.inl rp)
      cases r
      obtain ⟨x1, hot⟩ := hc.at I
      obtain ⟨its, rv, tup, _⟩ := I.tuple (hK ▸ hs)
      have len : its.toArray.size = n := by rw [List.size_toArray, ← rv.length, rs.length]; exact hl
      refine apart_hot hot tup (hn.trans len.symm) hst fun h' x => ?_
      have J := I.kept (t' := s.toks) fun b u g => x b u (Nat.ne_of_lt (Heap.lt_size g)) g
      exact h.run pins _ σ H vs its Q J rv ⟨p, ω, δ, φ, ds, sl, rs, o⟩
    · rw [if_neg hl] at o
      exact o.elim
  | _ => simp only [gT] at o; exact o.elim
end
section
variable {X : Cx} {G : Gm} {a b : Expr} {pos : Pos} {ta tb : Am} {k : Nat}
theorem cGtH (hr : RoomH k X.A) (ha : PE X a (tA1 G ta)) (hb : PE X b (tA1 G tb)) : PE X (.Compare a [.Gt] [b] pos) (tI G (mB gGt ta tb)) := cm op_gt bi_gt nx_gt ha hb (nomark _)
end
end Zd
namespace Zd
open PySem PySem.Spec
open PyProof.Rows L2
abbrev cs5 : List Str := ["InvalidModule", "InvalidText", "InvalidProject", "InvalidQuestion", "Refused"]
abbrev tb_InvalidModule : List (Str × Bool) := [("InvalidModule", true), ("InvalidText", false), ("InvalidProject", false), ("InvalidQuestion", false), ("Refused", false), ("InvalidCommand", false)]
abbrev tb_InvalidText : List (Str × Bool) := [("InvalidModule", false), ("InvalidText", true), ("InvalidProject", false), ("InvalidQuestion", false), ("Refused", false), ("InvalidCommand", false)]
abbrev tb_InvalidProject : List (Str × Bool) := [("InvalidModule", false), ("InvalidText", false), ("InvalidProject", true), ("InvalidQuestion", false), ("Refused", false), ("InvalidCommand", false)]
abbrev tb_InvalidQuestion : List (Str × Bool) := [("InvalidModule", false), ("InvalidText", false), ("InvalidProject", false), ("InvalidQuestion", true), ("Refused", false), ("InvalidCommand", false)]
abbrev tb_Refused : List (Str × Bool) := [("InvalidModule", false), ("InvalidText", false), ("InvalidProject", false), ("InvalidQuestion", false), ("Refused", true), ("InvalidCommand", false)]
abbrev tb_InvalidCommand : List (Str × Bool) := [("InvalidModule", false), ("InvalidText", false), ("InvalidProject", false), ("InvalidQuestion", false), ("Refused", false), ("InvalidCommand", true)]
abbrev tb_ValueError : List (Str × Bool) := [("InvalidModule", true), ("InvalidText", true), ("InvalidProject", true), ("InvalidQuestion", true), ("Refused", true), ("InvalidCommand", true)]
noncomputable def bH_law_same (rec : List D → Rs D) : Pm := (pSeq (pIf (mTr (vA (mU (gIsi isTup) (vA (mV 1))))) (pSeq (pIf (mOr (mNot (mTr (vA (mU (gIsi isTup) (vA (mV 0)))))) (mT (mB gNe (vA (mL gLen (lCons (vA (mV 0)) lNil))) (vA (mL gLen (lCons (vA (mV 1)) lNil)))))) (pRet (mC (.bool false))) pNil)
    (pRet (mB gEq (vA (eF (fComp [2, 3] (wZipT (sCons (mV 0) (sCons (mV 1) sNil))) (gT 2 (gC (gN 2) (gC (gN 3) gE))) (mNot (mTr (vA (mCall (nX rec) (sCons (mV 2) (sCons (mV 3) sNil)))))) (mC (.int 0))))) (vA (eF (fLst sNil)))))) pNil)
    (pSeq (pIf (mT (mB gIs (vA (mV 1)) (vA (mC .none)))) (pRet (mB gIs (vA (mV 0)) (vA (mC .none)))) pNil)
    (pSeq (pIf (mT (mB gIs (vA (mV 1)) (vA (mC (.bool true))))) (pRet (mB gIs (vA (mV 0)) (vA (mC (.bool true))))) pNil)
    (pSeq (pIf (mT (mB gIs (vA (mV 1)) (vA (mC (.bool false))))) (pRet (mB gIs (vA (mV 0)) (vA (mC (.bool false))))) pNil)
    (pSeq (pIf (mTr (vA (mU (gIsi isInt) (vA (mV 1))))) (pRet (eAnd (mU (gIsi isInt) (vA (mV 0))) (eAnd (eNot (mU (gIsi isBool) (vA (mV 0)))) (mB gEq (vA (mV 0)) (vA (mV 1)))))) pNil)
    (pRet (eAnd (mU (gIsi isStr) (vA (mV 0))) (mB gEq (vA (mV 0)) (vA (mV 1))))))))))
noncomputable def rH_law_same : Nat → List D → Rs D
  | 0 => fun _ => .no
  | n + 1 => runP .im 4 (bH_law_same (rH_law_same n))
noncomputable def b_law_marks : Pm := (pSeq (pSet 1 (eF (fLst (sCons (mIsE 0 tb_InvalidModule) (sCons (mIsE 0 tb_InvalidText) (sCons (mIsE 0 tb_InvalidProject) sNil))))))
    (pSeq (pSet 1 (mB gAdd (vA (mV 1)) (vA (eF (fLst (sCons (mIsE 0 tb_InvalidQuestion) (sCons (mIsE 0 tb_Refused) sNil)))))))
    (pRet (mB gAdd (vA (mV 1)) (vA (eF (fLst (sCons (mIsE 0 tb_InvalidCommand) sNil))))))))
noncomputable def r_law_marks : List D → Rs D := runP (.im) 2 b_law_marks
noncomputable def b_law_raise : Pm := (pSeq (pIf (mT (mB gEq (vA (mV 0)) (vA (mC (.int 0))))) (pRaise "InvalidModule" (sCons (mV 1) sNil)) pNil)
    (pSeq (pIf (mT (mB gEq (vA (mV 0)) (vA (mC (.int 1))))) (pRaise "InvalidText" (sCons (mV 1) sNil)) pNil)
    (pSeq (pIf (mT (mB gEq (vA (mV 0)) (vA (mC (.int 2))))) (pRaise "InvalidProject" (sCons (mV 1) sNil)) pNil)
    (pSeq (pIf (mT (mB gEq (vA (mV 0)) (vA (mC (.int 3))))) (pRaise "InvalidQuestion" (sCons (mV 1) sNil)) pNil)
    (pSeq (pIf (mT (mB gEq (vA (mV 0)) (vA (mC (.int 4))))) (pRaise "Refused" (sCons (mV 1) sNil)) pNil)
    (pRaise0 "InvalidCommand"))))))
noncomputable def r_law_raise : List D → Rs D := runP (.im) 2 b_law_raise
noncomputable def b_law_heard : Pm := (pSeq (pTryE ["InvalidModule", "InvalidText", "InvalidProject", "InvalidQuestion", "Refused", "InvalidCommand"] 2 r_law_raise (sCons (mV 0) (sCons (mV 1) sNil)) (pSeq (pIf (mOr (mT (mB gNe (vA (mMarks 2 r_law_marks)) (vA (eF (fComp [3] (wRng (sCons (mC (.int 6)) sNil)) (gN 3) tmY (mB gEq (vA (mV 3)) (vA (mV 0)))))))) (mNot (mTr (vA (mIsE 2 tb_ValueError))))) (pRet (mC (.bool false))) pNil)
    (pRet (eOr (mB gGt (vA (mV 0)) (vA (mC (.int 4)))) (mCall (nX (rH_law_same 3)) (sCons (mAtE 2 cs5) (sCons (mV 1) sNil)))))))
    (pRet (mC (.bool false))))
noncomputable def r_law_heard : List D → Rs D := runP (.im) 4 b_law_heard
noncomputable def b_law_named : Pm := (pSeq (pSet 1 (eF (fLst (sCons (mAtC (sCons (mV 0) sNil)) (sCons (mAtC (sCons (mV 0) sNil)) (sCons (mAtC (sCons (mV 0) sNil)) sNil))))))
    (pSeq (pSet 1 (mB gAdd (vA (mV 1)) (vA (eF (fLst (sCons (mAtC (sCons (mV 0) sNil)) (sCons (mAtC (sCons (mV 0) sNil)) sNil)))))))
    (pRet (mB gEq (vA (eF (fComp [2] (wSeq (mV 1)) (gN 2) (mNot (mTr (vA (mCall (r_law_same 3) (sCons (mV 2) (sCons (mV 0) sNil)))))) (mV 2)))) (vA (eF (fLst sNil)))))))
noncomputable def r_law_named : List D → Rs D := runP (.im) 3 b_law_named
noncomputable def b_law : Pm := (pSeq (pFor (wRng (sCons (mL gMax (lCons (vA (mC (.int 1))) (lCons (vA (mL gMin (lCons (vA (mC (.int 4))) (lCons (vA (mL gLen (lCons (vA (mV 0)) lNil))) lNil)))) lNil))) sNil)) (gN 1) (pSeq (pSet 2 (mIf (mT (mB gLt (vA (mV 1)) (vA (mL gLen (lCons (vA (mV 0)) lNil))))) (mB gIx (vA (mV 0)) (vA (mV 1))) (mC (.int 0))))
    (pSeq (pSet 3 (eF (fLst (sCons (mB gMod (vA (mL gInt (lCons (vA (mV 2)) lNil))) (vA (mC (.int 1000000007)))) (sCons (mB gSub (vA (mC (.int 0))) (vA (mB gMod (vA (mL gInt (lCons (vA (mV 2)) lNil))) (vA (mC (.int 97)))))) (sCons (mL gStr (lCons (vA (mB gMod (vA (mL gInt (lCons (vA (mV 2)) lNil))) (vA (mC (.int 1000))))) lNil)) (sCons (mC .none) (sCons (mTup (sCons (mB gMod (vA (mL gInt (lCons (vA (mV 2)) lNil))) (vA (mC (.int 7)))) (sCons (mC (.str "a")) sNil))) (sCons (mC (.bool true)) sNil)))))))))
    (pFor (wSeq (mV 3)) (gN 4) (pSeq (pIf (mNot (mTr (vA (mCall r_law_named (sCons (mV 4) sNil))))) (pRet (mC (.bool false))) pNil)
    (pFor (wRng (sCons (mC (.int 6)) sNil)) (gN 5) (pIf (mNot (mTr (vA (mCall r_law_heard (sCons (mV 5) (sCons (mV 4) sNil)))))) (pRet (mC (.bool false))) pNil)))))))
    (pRet (mC (.bool true))))
noncomputable def r_law : List D → Rs D := runP (.im) 6 b_law
end Zd
namespace Zd
open PySem PySem.Spec
open PyProof.Rows L2
def topS (i : Nat) : Stmt := PySem.Challenge.pw_samebehind_k00_errors_and_what_they_keep.main.body.getD i (.Pass ⟨0, 0, 0, 0⟩)
abbrev s_law_same : Stmt := topS 9
theorem sc_law_same : FnScope ["value", "due", "one", "other"] ["value", "due"] (defScope s_law_same) := ⟨rfl, rfl, rfl, by decide +kernel, rfl, by decide +kernel, by decide +kernel⟩
def k_law_same : Kn := fun _ => .im
abbrev s_law_marks : Stmt := topS 10
theorem sc_law_marks : FnScope ["e", "found"] ["e"] (defScope s_law_marks) := ⟨rfl, rfl, rfl, by decide +kernel, rfl, by decide +kernel, by decide +kernel⟩
def k_law_marks : Kn := fun _ => .im
abbrev s_law_raise : Stmt := topS 11
theorem sc_law_raise : FnScope ["at", "thing"] ["at", "thing"] (defScope s_law_raise) := ⟨rfl, rfl, rfl, by decide +kernel, rfl, by decide +kernel, by decide +kernel⟩
def k_law_raise : Kn := fun _ => .im
abbrev s_law_heard : Stmt := topS 12
theorem sc_law_heard : FnScope ["at", "thing", "e", "spot"] ["at", "thing"] (defScope s_law_heard) := ⟨rfl, rfl, rfl, by decide +kernel, rfl, by decide +kernel, by decide +kernel⟩
def k_law_heard : Kn := fun _ => .im
abbrev s_law_named : Stmt := topS 13
theorem sc_law_named : FnScope ["thing", "made", "one"] ["thing"] (defScope s_law_named) := ⟨rfl, rfl, rfl, by decide +kernel, rfl, by decide +kernel, by decide +kernel⟩
def k_law_named : Kn := fun _ => .im
abbrev s_law : Stmt := topS 14
theorem sc_law : FnScope ["script", "k", "cell", "things", "thing", "at"] ["script"] (defScope s_law) := ⟨rfl, rfl, rfl, by decide +kernel, rfl, by decide +kernel, by decide +kernel⟩
def k_law : Kn := fun _ => .im
section
variable {w : World} {K : PySem.W.Frag} {mg : Str → Option Value} {base : Heap} {cls : Cl} {f : Addr} {fd : FuncData}
theorem ok_law_same (df : Df K mg "_law_same" s_law_same ["value", "due"] f fd) (b_bool : mg "bool" = none) (b_int : mg "int" = none) (b_isinstance : mg "isinstance" = none) (b_len : mg "len" = none) (b_str : mg "str" = none) (b_tuple : mg "tuple" = none) (b_zip : mg "zip" = none) : ∀ n : Nat, FnOk PySem.Challenge.pw_samebehind_k00_errors_and_what_they_keep w K mg base (L2.CX PySem.Challenge.pw_samebehind_k00_errors_and_what_they_keep w) (n + 0) f fd ["value", "due"] (spP K cls (.im) 2 (r_law_same n))
  | 0 => fnok_no
  | n + 1 => by
    have ih := ok_law_same df b_bool b_int b_isinstance b_len b_str b_tuple b_zip n
    rw [show n + 1 + 0 = (n + 0) + 1 by omega]
    rw [show (r_law_same (n + 1) : List D → Rs D) = runP (.im) (["value", "due", "one", "other"] : List Str).length (b_law_same (r_law_same n)) from rfl]
    refine def_okP (κ := k_law_same) (m := (b_law_same (r_law_same n))) df.fn sc_law_same rfl (fun i hi => by unfold k_law_same; first | rfl | (split <;> first | rfl | omega)) ?_
    intro cdv A outer s H E σ0 hr
    exact (pc (pif (tt (av (xIsi ki_tup b_isinstance b_tuple PyProof.Rows.boot_tuple (av (xV 1))))) (pc (pif (tw (wo (tn (tt (av (xIsi ki_tup b_isinstance b_tuple PyProof.Rows.boot_tuple (av (xV 0)))))) (wo1 (tNe hr (av (xLen b_len (lc (av (xV 0)) ln))) (av (xLen b_len (lc (av (xV 1)) ln))))))) (p1 (pri xb)) pn)
      (p1 (pri (cEq hr (av (oI (cp (own := [("one", 2), ("other", 3)]) rfl sc_law_same.nd (iz b_zip (sc (xV 0) (sc (xV 1) sn))) (blkOk_by (own := [("one", 2), ("other", 3)]) (by show blkC ["value", "due", "one", "other"] (defScope s_law_same) _ _ = true; decide +kernel)) (ng_t (ng_c ng_n (ng_c ng_n ng_e))) (fun _ _ _ _ _ _ => (gt rfl (gc (gn (i := 2) sc_law_same.nd) (gc (gn (i := 3) sc_law_same.nd) ge)))) (fun _ _ _ _ _ => (py1 (tn (tt (av (oI (hc (df.hs ih) hr (by omega) passL (sc (xV 2) (sc (xV 3) sn)) (lenS (lenS len0))))))))) (fun _ _ _ _ _ => xi)))) (av (fi (fl sn))))))) pn)
      (pc (pif (tIs hr (av (xV 1)) (av xn)) (p1 (pri (cIs hr (av (xV 0)) (av xn)))) pn)
      (pc (pif (tIs hr (av (xV 1)) (av xb)) (p1 (pri (cIs hr (av (xV 0)) (av xb)))) pn)
      (pc (pif (tIs hr (av (xV 1)) (av xb)) (p1 (pri (cIs hr (av (xV 0)) (av xb)))) pn)
      (pc (pif (tt (av (xIsi ki_int b_isinstance b_int PyProof.Rows.boot_int (av (xV 1))))) (p1 (pri (ea (xIsi ki_int b_isinstance b_int PyProof.Rows.boot_int (av (xV 0))) (ea (en (xIsi ki_bool b_isinstance b_bool PyProof.Rows.boot_bool (av (xV 0)))) (e1' (cEq hr (av (xV 0)) (av (xV 1)))))))) pn)
      (p1 (pri (ea (xIsi ki_str b_isinstance b_str PyProof.Rows.boot_str (av (xV 0))) (e1' (cEq hr (av (xV 0)) (av (xV 1))))))))))))
theorem okH_law_same (df : Df K mg "_law_same" s_law_same ["value", "due"] f fd) (b_bool : mg "bool" = none) (b_int : mg "int" = none) (b_isinstance : mg "isinstance" = none) (b_len : mg "len" = none) (b_str : mg "str" = none) (b_tuple : mg "tuple" = none) (b_zip : mg "zip" = none) : ∀ n : Nat, L2H.FnH PySem.Challenge.pw_samebehind_k00_errors_and_what_they_keep w K mg base noX (n + 0) f fd ["value", "due"] (spH K 2 (rH_law_same n))
  | 0 => fnh_no
  | n + 1 => by
    have ih := okH_law_same df b_bool b_int b_isinstance b_len b_str b_tuple b_zip n
    rw [show n + 1 + 0 = (n + 0) + 1 by omega]
    rw [show (rH_law_same (n + 1) : List D → Rs D) = runP .im (["value", "due", "one", "other"] : List Str).length (bH_law_same (rH_law_same n)) from rfl]
    refine def_okH (cls := fun _ => 0) (κ := k_law_same) (m := (bH_law_same (rH_law_same n))) df.fn sc_law_same rfl (fun i hi => by unfold k_law_same; first | rfl | (split <;> first | rfl | omega)) ?_
    intro cdv A outer s H E p σ0 hot hr
    exact (pc (pif (tt (av (xIsi ki_tup b_isinstance b_tuple PyProof.Rows.boot_tuple (av (xV 1))))) (pc (pif (tw (wo (tn (tt (av (xIsi ki_tup b_isinstance b_tuple PyProof.Rows.boot_tuple (av (xV 0)))))) (wo1 (tNeH hr (av (xLen b_len (lc (av (xV 0)) ln))) (av (xLen b_len (lc (av (xV 1)) ln))))))) (p1 (pri xb)) pn)
    (p1 (pri (cEqH hr (av (oI (cpH (own := [("one", 2), ("other", 3)]) (⟨p, hot, List.mem_singleton.mpr rfl⟩) sc_law_same.nd (izH b_zip (sc (xV 0) (sc (xV 1) sn))) (blkOk_by (own := [("one", 2), ("other", 3)]) (by show blkC ["value", "due", "one", "other"] (defScope s_law_same) _ _ = true; decide +kernel)) (ng_t (ng_c ng_n (ng_c ng_n ng_e))) (fun q hq _ _ _ _ _ _ => (gtH ⟨q, hq, List.mem_singleton.mpr rfl⟩ (gc (gn (i := 2) sc_law_same.nd) (gc (gn (i := 3) sc_law_same.nd) ge)))) (fun q hq _ _ _ _ _ => (py1 (tn (tt (av (oI (hcH (df.hsH ih) hr (by omega) ⟨q, hq, List.mem_singleton.mpr rfl⟩ (sc (xV 2) (sc (xV 3) sn)) (lenS (lenS len0))))))))) (fun q hq _ _ _ _ _ => xi)))) (av (fi (fl sn))))))) pn)
    (pc (pif (tIsH hr (av (xV 1)) (av xn)) (p1 (pri (cIsH hr (av (xV 0)) (av xn)))) pn)
    (pc (pif (tIsH hr (av (xV 1)) (av xb)) (p1 (pri (cIsH hr (av (xV 0)) (av xb)))) pn)
    (pc (pif (tIsH hr (av (xV 1)) (av xb)) (p1 (pri (cIsH hr (av (xV 0)) (av xb)))) pn)
    (pc (pif (tt (av (xIsi ki_int b_isinstance b_int PyProof.Rows.boot_int (av (xV 1))))) (p1 (pri (ea (xIsi ki_int b_isinstance b_int PyProof.Rows.boot_int (av (xV 0))) (ea (en (xIsi ki_bool b_isinstance b_bool PyProof.Rows.boot_bool (av (xV 0)))) (e1' (cEqH hr (av (xV 0)) (av (xV 1)))))))) pn)
    (p1 (pri (ea (xIsi ki_str b_isinstance b_str PyProof.Rows.boot_str (av (xV 0))) (e1' (cEqH hr (av (xV 0)) (av (xV 1))))))))))))
theorem bd_law_marks {a : Addr} {oe : Obj} {k : Nat} (m_InvalidModule : mg "InvalidModule" = some (.ref (cls "InvalidModule"))) (T_InvalidModule : IsT K (.ref (cls "InvalidModule")) tb_InvalidModule) (m_InvalidText : mg "InvalidText" = some (.ref (cls "InvalidText"))) (T_InvalidText : IsT K (.ref (cls "InvalidText")) tb_InvalidText) (m_InvalidProject : mg "InvalidProject" = some (.ref (cls "InvalidProject"))) (T_InvalidProject : IsT K (.ref (cls "InvalidProject")) tb_InvalidProject) (m_InvalidQuestion : mg "InvalidQuestion" = some (.ref (cls "InvalidQuestion"))) (T_InvalidQuestion : IsT K (.ref (cls "InvalidQuestion")) tb_InvalidQuestion) (m_Refused : mg "Refused" = some (.ref (cls "Refused"))) (T_Refused : IsT K (.ref (cls "Refused")) tb_Refused) (m_InvalidCommand : mg "InvalidCommand" = some (.ref (cls "InvalidCommand"))) (T_InvalidCommand : IsT K (.ref (cls "InvalidCommand")) tb_InvalidCommand) (b_isinstance : mg "isinstance" = none) (cdv : Value) (A : Around) (outer : List Env) (s : Shared) (H : Hp) (σ0 : L2.St) (hot : L2H.Hot1 A (a, oe)) (hr : L2H.RoomH k (A.deeper (envOfC "_law_marks" (defScope s_law_marks) s.heap.objs.size f cdv))) :
      PSs (L2H.cxH noX PySem.Challenge.pw_samebehind_k00_errors_and_what_they_keep w K mg base ["e", "found"] "_law_marks" (defScope s_law_marks) f cdv A outer s H (fun _ _ _ => False) (a, oe)) (defBody s_law_marks) (tP (gsOf K cls (fun _ _ _ => False) (kE 0 a oe) (fun _ => false) .im) σ0 b_law_marks) := by
  have hpn : (a, oe) ∈ (L2H.cxH noX PySem.Challenge.pw_samebehind_k00_errors_and_what_they_keep w K mg base ["e", "found"] "_law_marks" (defScope s_law_marks) f cdv A outer s H (fun _ _ _ => False) (a, oe)).pn := List.mem_singleton.mpr rfl
  exact (pc (ps (i := 1) sc_law_marks.nd (fi (fl (sc (xIsE 0 hpn (pe_cls rfl m_InvalidModule (by decide)) (fun _ h => h) T_InvalidModule b_isinstance) (sc (xIsE 0 hpn (pe_cls rfl m_InvalidText (by decide)) (fun _ h => h) T_InvalidText b_isinstance) (sc (xIsE 0 hpn (pe_cls rfl m_InvalidProject (by decide)) (fun _ h => h) T_InvalidProject b_isinstance) sn))))))
    (pc (ps (i := 1) sc_law_marks.nd (xAdd (av (xV 1)) (av (fi (fl (sc (xIsE 0 hpn (pe_cls rfl m_InvalidQuestion (by decide)) (fun _ h => h) T_InvalidQuestion b_isinstance) (sc (xIsE 0 hpn (pe_cls rfl m_Refused (by decide)) (fun _ h => h) T_Refused b_isinstance) sn)))))))
    (p1 (pri (xAdd (av (xV 1)) (av (fi (fl (sc (xIsE 0 hpn (pe_cls rfl m_InvalidCommand (by decide)) (fun _ h => h) T_InvalidCommand b_isinstance) sn)))))))))
theorem ok_law_raise (df : Df K mg "_law_raise" s_law_raise ["at", "thing"] f fd) (e_InvalidModule : ErC PySem.Challenge.pw_samebehind_k00_errors_and_what_they_keep K mg cls "InvalidModule") (e_InvalidText : ErC PySem.Challenge.pw_samebehind_k00_errors_and_what_they_keep K mg cls "InvalidText") (e_InvalidProject : ErC PySem.Challenge.pw_samebehind_k00_errors_and_what_they_keep K mg cls "InvalidProject") (e_InvalidQuestion : ErC PySem.Challenge.pw_samebehind_k00_errors_and_what_they_keep K mg cls "InvalidQuestion") (e_Refused : ErC PySem.Challenge.pw_samebehind_k00_errors_and_what_they_keep K mg cls "Refused") (e0_InvalidCommand : Er0C PySem.Challenge.pw_samebehind_k00_errors_and_what_they_keep K mg cls "InvalidCommand") : ∃ f fd, Fun K "_law_raise" "_law_raise" s_law_raise f fd ∧ mg "_law_raise" = some (.ref f) ∧ Binds K fd ["at", "thing"] [] ∧ FnOk PySem.Challenge.pw_samebehind_k00_errors_and_what_they_keep w K mg base (L2N.CX PySem.Challenge.pw_samebehind_k00_errors_and_what_they_keep w) 4 f fd ["at", "thing"] (spP K cls .im 2 r_law_raise) := by
  refine ⟨f, fd, df.fn, df.at_, df.bd, ?_⟩
  rw [show (r_law_raise : List D → Rs D) = runP (.im) (["at", "thing"] : List Str).length b_law_raise from rfl]
  refine def_okN (κ := k_law_raise) (m := b_law_raise) df.fn sc_law_raise rfl (fun i hi => by unfold k_law_raise; first | rfl | (split <;> first | rfl | omega)) ?_
  intro cdv A outer s H E σ0 hr
  exact (pc (pif (tEq hr (av (xV 0)) (av xi)) (p1 (prsN e_InvalidModule hr (L2N.takes_of rfl rfl rfl rfl) rfl (sc (xV 1) sn) (lenS len0))) pn)
    (pc (pif (tEq hr (av (xV 0)) (av xi)) (p1 (prsN e_InvalidText hr (L2N.takes_of rfl rfl rfl rfl) rfl (sc (xV 1) sn) (lenS len0))) pn)
    (pc (pif (tEq hr (av (xV 0)) (av xi)) (p1 (prsN e_InvalidProject hr (L2N.takes_of rfl rfl rfl rfl) rfl (sc (xV 1) sn) (lenS len0))) pn)
    (pc (pif (tEq hr (av (xV 0)) (av xi)) (p1 (prsN e_InvalidQuestion hr (L2N.takes_of rfl rfl rfl rfl) rfl (sc (xV 1) sn) (lenS len0))) pn)
    (pc (pif (tEq hr (av (xV 0)) (av xi)) (p1 (prsN e_Refused hr (L2N.takes_of rfl rfl rfl rfl) rfl (sc (xV 1) sn) (lenS len0))) pn)
    (p1 (prs0N e0_InvalidCommand hr (L2N.takes_of rfl rfl rfl rfl) rfl)))))))
theorem ok_law_heard (df : Df K mg "_law_heard" s_law_heard ["at", "thing"] f fd) {fM : Addr} {fdM : FuncData} (hfn : ∃ f fd, Fun K "_law_raise" "_law_raise" s_law_raise f fd ∧ mg "_law_raise" = some (.ref f) ∧ Binds K fd ["at", "thing"] [] ∧ FnOk PySem.Challenge.pw_samebehind_k00_errors_and_what_they_keep w K mg base (L2N.CX PySem.Challenge.pw_samebehind_k00_errors_and_what_they_keep w) 4 f fd ["at", "thing"] (spP K cls .im 2 r_law_raise)) (hS : HsH PySem.Challenge.pw_samebehind_k00_errors_and_what_they_keep w K mg base 3 "_law_same" s_law_same ["value", "due"] (spH K 2 (rH_law_same 3))) (d_marks : Df K mg "_law_marks" s_law_marks ["e"] fM fdM) (kpM : PySem.W.keepIn K (.ref fM) = true) (ca_SameError : CaC K mg cls ["InvalidModule", "InvalidText", "InvalidProject", "InvalidQuestion", "Refused", "InvalidCommand"] "SameError") (hns : NsA K cls ["InvalidModule", "InvalidText", "InvalidProject", "InvalidQuestion", "Refused", "InvalidCommand"]) (e_InvalidModule : ErC PySem.Challenge.pw_samebehind_k00_errors_and_what_they_keep K mg cls "InvalidModule") (e_InvalidText : ErC PySem.Challenge.pw_samebehind_k00_errors_and_what_they_keep K mg cls "InvalidText") (e_InvalidProject : ErC PySem.Challenge.pw_samebehind_k00_errors_and_what_they_keep K mg cls "InvalidProject") (e_InvalidQuestion : ErC PySem.Challenge.pw_samebehind_k00_errors_and_what_they_keep K mg cls "InvalidQuestion") (e_Refused : ErC PySem.Challenge.pw_samebehind_k00_errors_and_what_they_keep K mg cls "Refused") (m_InvalidModule : mg "InvalidModule" = some (.ref (cls "InvalidModule"))) (T_InvalidModule : IsT K (.ref (cls "InvalidModule")) tb_InvalidModule) (m_InvalidText : mg "InvalidText" = some (.ref (cls "InvalidText"))) (T_InvalidText : IsT K (.ref (cls "InvalidText")) tb_InvalidText) (m_InvalidProject : mg "InvalidProject" = some (.ref (cls "InvalidProject"))) (T_InvalidProject : IsT K (.ref (cls "InvalidProject")) tb_InvalidProject) (m_InvalidQuestion : mg "InvalidQuestion" = some (.ref (cls "InvalidQuestion"))) (T_InvalidQuestion : IsT K (.ref (cls "InvalidQuestion")) tb_InvalidQuestion) (m_Refused : mg "Refused" = some (.ref (cls "Refused"))) (T_Refused : IsT K (.ref (cls "Refused")) tb_Refused) (m_InvalidCommand : mg "InvalidCommand" = some (.ref (cls "InvalidCommand"))) (T_InvalidCommand : IsT K (.ref (cls "InvalidCommand")) tb_InvalidCommand) (T_ValueError : IsT K (.type "ValueError") tb_ValueError) (b_ValueError : mg "ValueError" = none) (b_isinstance : mg "isinstance" = none) (b_range : mg "range" = none) : Hs PySem.Challenge.pw_samebehind_k00_errors_and_what_they_keep w K mg base 5 "_law_heard" s_law_heard ["at", "thing"] (spP K cls (.im) 2 r_law_heard) := by
  refine df.hs ?_
  rw [show (r_law_heard : List D → Rs D) = runP (.im) (["at", "thing", "e", "spot"] : List Str).length b_law_heard from rfl]
  refine def_okP (κ := k_law_heard) (m := b_law_heard) df.fn sc_law_heard rfl (fun i hi => by unfold k_law_heard; first | rfl | (split <;> first | rfl | omega)) ?_
  intro cdv A outer s H E σ0 hr
  have T5 : ∀ c ∈ cs5, ErC PySem.Challenge.pw_samebehind_k00_errors_and_what_they_keep K mg cls c := by
    intro c hc
    simp only [cs5, List.mem_cons, List.not_mem_nil, or_false] at hc
    rcases hc with rfl | rfl | rfl | rfl | rfl
    · exact e_InvalidModule
    · exact e_InvalidText
    · exact e_InvalidProject
    · exact e_InvalidQuestion
    · exact e_Refused
  have x5 : ∀ c ∈ cs5, ∀ C : Addr, PySem.W.nsIn K mainGlobals c = some (some (.ref C)) → cls c = C := hns.eq (by decide)
  refine (pc (ptryEN 2 ca_SameError hfn hr (by decide) hns (fun _ => rfl) (fun pn xe => (sc (xV 0) (sc (xV 1) sn))) (lenS (lenS len0)) (fun δ r h => (purS (purS pur0)) δ r h) ?_ (fun _ => rfl) sc_law_heard.nd) (p1 (pri xb)))
  intro a oe pl σ1 hot
  have hrs := roomH_mk (h := some (.ref a)) hr
  have hpn : (a, oe) ∈ (a, oe) :: pl := List.mem_cons_self
  have hcx : L2H.HotC (((cxOf (L2.CX PySem.Challenge.pw_samebehind_k00_errors_and_what_they_keep w) PySem.Challenge.pw_samebehind_k00_errors_and_what_they_keep w K mg base ["at", "thing", "e", "spot"] "_law_heard" (defScope s_law_heard) f cdv A outer s H E)).suite a ((a, oe) :: pl)) := ⟨(a, oe), hot, hpn⟩
  exact (pc (pif (tw (wo (tNeH hrs (av (xMarksH 2 d_marks kpM sc_law_marks hrs hot hpn (κ := kE 0 a oe) rfl (fun cdv A outer s H σ0 ht hr => bd_law_marks m_InvalidModule T_InvalidModule m_InvalidText T_InvalidText m_InvalidProject T_InvalidProject m_InvalidQuestion T_InvalidQuestion m_Refused T_Refused m_InvalidCommand T_InvalidCommand b_isinstance cdv A outer s H σ0 ht hr))) (av (oI (cpH (own := [("spot", 3)]) (hcx) sc_law_heard.nd (irH b_range (sc xi sn)) (blkOk_by (own := [("spot", 3)]) (by show blkC ["at", "thing", "e", "spot"] (defScope s_law_heard) _ _ = true; decide +kernel)) ng_n (fun q hq _ _ _ _ _ _ => (gn (i := 3) sc_law_heard.nd)) (fun q hq _ _ _ _ _ => py) (fun q hq _ _ _ _ _ => (cEqH hrs (av (xV 3)) (av (xV 0)))))))) (wo1 (tn (tt (av (xIsE 2 hpn (pe_bty rfl b_ValueError (by decide +kernel)) (fun _ h => h) T_ValueError b_isinstance))))))) (p1 (pri xb)) pn)
    (p1 (pri (eo (cGtH hrs (av (xV 0)) (av xi)) (e1' (oI (hcH hS hrs (by decide) hcx (sc (xAtE 2 hpn T5 x5) (sc (xV 1) sn)) (lenS (lenS len0)))))))))
theorem ok_law_named (df : Df K mg "_law_named" s_law_named ["thing"] f fd) (h_law_same : Hs PySem.Challenge.pw_samebehind_k00_errors_and_what_they_keep w K mg base 3 "_law_same" s_law_same ["value", "due"] (spP K cls (.im) 2 (r_law_same 3))) (e_InvalidModule : ErC PySem.Challenge.pw_samebehind_k00_errors_and_what_they_keep K mg cls "InvalidModule") (e_InvalidProject : ErC PySem.Challenge.pw_samebehind_k00_errors_and_what_they_keep K mg cls "InvalidProject") (e_InvalidQuestion : ErC PySem.Challenge.pw_samebehind_k00_errors_and_what_they_keep K mg cls "InvalidQuestion") (e_InvalidText : ErC PySem.Challenge.pw_samebehind_k00_errors_and_what_they_keep K mg cls "InvalidText") (e_Refused : ErC PySem.Challenge.pw_samebehind_k00_errors_and_what_they_keep K mg cls "Refused") : Hs PySem.Challenge.pw_samebehind_k00_errors_and_what_they_keep w K mg base 4 "_law_named" s_law_named ["thing"] (spP K cls (.im) 1 r_law_named) := by
  refine df.hs ?_
  rw [show (r_law_named : List D → Rs D) = runP (.im) (["thing", "made", "one"] : List Str).length b_law_named from rfl]
  refine def_okP (κ := k_law_named) (m := b_law_named) df.fn sc_law_named rfl (fun i hi => by unfold k_law_named; first | rfl | (split <;> first | rfl | omega)) ?_
  intro cdv A outer s H E σ0 hr
  exact (pc (ps (i := 1) sc_law_named.nd (fi (fl (sc (xAtC e_InvalidModule hr (kc (xV 0) kn) (lenS len0)) (sc (xAtC e_InvalidText hr (kc (xV 0) kn) (lenS len0)) (sc (xAtC e_InvalidProject hr (kc (xV 0) kn) (lenS len0)) sn))))))
    (pc (ps (i := 1) sc_law_named.nd (xAdd (av (xV 1)) (av (fi (fl (sc (xAtC e_InvalidQuestion hr (kc (xV 0) kn) (lenS len0)) (sc (xAtC e_Refused hr (kc (xV 0) kn) (lenS len0)) sn)))))))
    (p1 (pri (cEq hr (av (oI (cp (own := [("one", 2)]) rfl sc_law_named.nd (iq (xV 1)) (blkOk_by (own := [("one", 2)]) (by show blkC ["thing", "made", "one"] (defScope s_law_named) _ _ = true; decide +kernel)) ng_n (fun _ _ _ _ _ _ => (gn (i := 2) sc_law_named.nd)) (fun _ _ _ _ _ => (py1 (tn (tt (av (oI (hc h_law_same hr (by omega) passL (sc (xV 2) (sc (xV 0) sn)) (lenS (lenS len0))))))))) (fun _ _ _ _ _ => (xV 2))))) (av (fi (fl sn))))))))
theorem ok_law (df : Df K mg "law" s_law ["script"] f fd) (h_law_heard : Hs PySem.Challenge.pw_samebehind_k00_errors_and_what_they_keep w K mg base 5 "_law_heard" s_law_heard ["at", "thing"] (spP K cls (.im) 2 r_law_heard)) (h_law_named : Hs PySem.Challenge.pw_samebehind_k00_errors_and_what_they_keep w K mg base 4 "_law_named" s_law_named ["thing"] (spP K cls (.im) 1 r_law_named)) (b_int : mg "int" = none) (b_len : mg "len" = none) (b_max : mg "max" = none) (b_min : mg "min" = none) (b_range : mg "range" = none) (b_str : mg "str" = none) : Hs PySem.Challenge.pw_samebehind_k00_errors_and_what_they_keep w K mg base 6 "law" s_law ["script"] (spP K cls (.im) 1 r_law) := by
  refine df.hs ?_
  rw [show (r_law : List D → Rs D) = runP (.im) (["script", "k", "cell", "things", "thing", "at"] : List Str).length b_law from rfl]
  refine def_okP (κ := k_law) (m := b_law) df.fn sc_law rfl (fun i hi => by unfold k_law; first | rfl | (split <;> first | rfl | omega)) ?_
  intro cdv A outer s H E σ0 hr
  exact (pc (pf psu rfl (ir b_range (sc (xMax rfl b_max (lc (av xi) (lc (av (xMin rfl b_min (lc (av xi) (lc (av (xLen b_len (lc (av (xV 0)) ln))) ln)))) ln))) sn)) (gn (i := 1) sc_law.nd) ng_n (pc (ps (i := 2) sc_law.nd (ie (tLt hr (av (xV 1)) (av (xLen b_len (lc (av (xV 0)) ln)))) (xIx (av (xV 0)) (av (xV 1))) xi))
    (pc (ps (i := 3) sc_law.nd (fi (fl (sc (xMod (av (xInt b_int (lc (av (xV 2)) ln))) (av xi)) (sc (xSub (av xi) (av (xMod (av (xInt b_int (lc (av (xV 2)) ln))) (av xi)))) (sc (xStr b_str (lc (av (xMod (av (xInt b_int (lc (av (xV 2)) ln))) (av xi))) ln)) (sc xn (sc (et (sc (xMod (av (xInt b_int (lc (av (xV 2)) ln))) (av xi)) (sc xs sn))) (sc xb sn)))))))))
    (p1 (pf psu rfl (iq (xV 3)) (gn (i := 4) sc_law.nd) ng_n (pc (pif (tn (tt (av (oI (hc h_law_named hr (by decide) psx (sc (xV 4) sn) (lenS len0)))))) (p1 (pri xb)) pn)
    (p1 (pf psu rfl (ir b_range (sc xi sn)) (gn (i := 5) sc_law.nd) ng_n (p1 (pif (tn (tt (av (oI (hc h_law_heard hr (by decide) psx (sc (xV 5) (sc (xV 4) sn)) (lenS (lenS len0))))))) (p1 (pri xb)) pn))))))))))
    (p1 (pri xb)))
end
end Zd
set_option maxHeartbeats 4100000
namespace Zd
open PySem PySem.Spec
open PyProof.Rows L2
theorem sameH_ok : ∀ (n : Nat) (v due : D), good n due = true → ∃ b, rH_law_same (n + 1) [v, due] = .ok (.bool b) ∧ (b = true ↔ v = due)
  | n, v, .none, _ => by
    refine ⟨isNo v, ?_, by cases v <;> simp [isNo]⟩
    rw [rH_law_same, run4, bH_law_same]
    simp only [wZipT, nX, mV, mC, vA, rA, get, gets, mU, mB, mL, lNil, lCons, eF, bool_b, mT, mTr, mNot, mAnd, mOr, eNot, eAnd, eOr, mIf, sNil, sCons, mTup, fLst, mM, pNil, pSeq, pBk, pCt, pIf, pRet, put, pSet, pEx, gN, gE, gC, gT, pAs, pPar, pFor, fComp, tmY, flo, gAdd, gSub, gMul, gDiv, gMod, gPow, gNeg, gLt, gLe, gGt, gGe, gIs, gIsN, isNo, isBo, gIx, optR, oN, oS, toI, wSeq, seqOf, wZip, listAt, mApp, mPop, mPopAt, mAt, uAt, uC, mUB, mPopIn, vB, pAppIn, pPutAt, itemAt, putAt, mCall, mCallM, mCallK, mRc2, gIsi, isInt, isBool, isStr, isTup, isList, gLen, gAbs, gInt, gGcd, gMax, gMin, gTup, tru, ok_bind, no_bind, ex_bind, List.getElem?_cons_succ, List.getElem?_cons_zero, List.set_cons_succ, List.set_cons_zero, List.length_cons, List.length_nil, Nat.reduceAdd, Nat.reduceLT, Nat.reduceLeDiff, Nat.zero_add, if_true, if_pos_t, if_false_b, ite_tt, atI0, atI1, atI2, Bool.not_true, Bool.not_false, gEq_i, gNe_i, List.map_cons, List.map_nil, List.append_nil, List.nil_append, List.cons_append, List.replicate]
  | n, v, .bool true, _ => by
    refine ⟨isBo true v, ?_, by cases v <;> simp [isBo]⟩
    rw [rH_law_same, run4, bH_law_same]
    simp only [decide_true, decide_false, Bool.false_eq_true, Bool.true_eq_false, decide_eq_true_eq, wZipT, nX, mV, mC, vA, rA, get, gets, mU, mB, mL, lNil, lCons, eF, bool_b, mT, mTr, mNot, mAnd, mOr, eNot, eAnd, eOr, mIf, sNil, sCons, mTup, fLst, mM, pNil, pSeq, pBk, pCt, pIf, pRet, put, pSet, pEx, gN, gE, gC, gT, pAs, pPar, pFor, fComp, tmY, flo, gAdd, gSub, gMul, gDiv, gMod, gPow, gNeg, gLt, gLe, gGt, gGe, gIs, gIsN, isNo, isBo, gIx, optR, oN, oS, toI, wSeq, seqOf, wZip, listAt, mApp, mPop, mPopAt, mAt, uAt, uC, mUB, mPopIn, vB, pAppIn, pPutAt, itemAt, putAt, mCall, mCallM, mCallK, mRc2, gIsi, isInt, isBool, isStr, isTup, isList, gLen, gAbs, gInt, gGcd, gMax, gMin, gTup, tru, ok_bind, no_bind, ex_bind, List.getElem?_cons_succ, List.getElem?_cons_zero, List.set_cons_succ, List.set_cons_zero, List.length_cons, List.length_nil, Nat.reduceAdd, Nat.reduceLT, Nat.reduceLeDiff, Nat.zero_add, if_true, if_pos_t, if_false_b, ite_tt, atI0, atI1, atI2, Bool.not_true, Bool.not_false, gEq_i, gNe_i, List.map_cons, List.map_nil, List.append_nil, List.nil_append, List.cons_append, List.replicate]
  | n, v, .bool false, _ => by
    refine ⟨isBo false v, ?_, by cases v <;> simp [isBo]⟩
    rw [rH_law_same, run4, bH_law_same]
    simp only [decide_true, decide_false, Bool.false_eq_true, Bool.true_eq_false, decide_eq_true_eq, wZipT, nX, mV, mC, vA, rA, get, gets, mU, mB, mL, lNil, lCons, eF, bool_b, mT, mTr, mNot, mAnd, mOr, eNot, eAnd, eOr, mIf, sNil, sCons, mTup, fLst, mM, pNil, pSeq, pBk, pCt, pIf, pRet, put, pSet, pEx, gN, gE, gC, gT, pAs, pPar, pFor, fComp, tmY, flo, gAdd, gSub, gMul, gDiv, gMod, gPow, gNeg, gLt, gLe, gGt, gGe, gIs, gIsN, isNo, isBo, gIx, optR, oN, oS, toI, wSeq, seqOf, wZip, listAt, mApp, mPop, mPopAt, mAt, uAt, uC, mUB, mPopIn, vB, pAppIn, pPutAt, itemAt, putAt, mCall, mCallM, mCallK, mRc2, gIsi, isInt, isBool, isStr, isTup, isList, gLen, gAbs, gInt, gGcd, gMax, gMin, gTup, tru, ok_bind, no_bind, ex_bind, List.getElem?_cons_succ, List.getElem?_cons_zero, List.set_cons_succ, List.set_cons_zero, List.length_cons, List.length_nil, Nat.reduceAdd, Nat.reduceLT, Nat.reduceLeDiff, Nat.zero_add, if_true, if_pos_t, if_false_b, ite_tt, atI0, atI1, atI2, Bool.not_true, Bool.not_false, gEq_i, gNe_i, List.map_cons, List.map_nil, List.append_nil, List.nil_append, List.cons_append, List.replicate]
  | n, v, .int i, _ => by
    rw [rH_law_same, run4, bH_law_same]
    cases v with
    | int j => exact ⟨j == i, by simp only [wZipT, nX, mV, mC, vA, rA, get, gets, mU, mB, mL, lNil, lCons, eF, bool_b, mT, mTr, mNot, mAnd, mOr, eNot, eAnd, eOr, mIf, sNil, sCons, mTup, fLst, mM, pNil, pSeq, pBk, pCt, pIf, pRet, put, pSet, pEx, gN, gE, gC, gT, pAs, pPar, pFor, fComp, tmY, flo, gAdd, gSub, gMul, gDiv, gMod, gPow, gNeg, gLt, gLe, gGt, gGe, gIs, gIsN, isNo, isBo, gIx, optR, oN, oS, toI, wSeq, seqOf, wZip, listAt, mApp, mPop, mPopAt, mAt, uAt, uC, mUB, mPopIn, vB, pAppIn, pPutAt, itemAt, putAt, mCall, mCallM, mCallK, mRc2, gIsi, isInt, isBool, isStr, isTup, isList, gLen, gAbs, gInt, gGcd, gMax, gMin, gTup, tru, ok_bind, no_bind, ex_bind, List.getElem?_cons_succ, List.getElem?_cons_zero, List.set_cons_succ, List.set_cons_zero, List.length_cons, List.length_nil, Nat.reduceAdd, Nat.reduceLT, Nat.reduceLeDiff, Nat.zero_add, if_true, if_pos_t, if_false_b, ite_tt, atI0, atI1, atI2, Bool.not_true, Bool.not_false, gEq_i, gNe_i, List.map_cons, List.map_nil, List.append_nil, List.nil_append, List.cons_append, List.replicate], by simp⟩
    | _ => exact ⟨false, by simp only [wZipT, nX, mV, mC, vA, rA, get, gets, mU, mB, mL, lNil, lCons, eF, bool_b, mT, mTr, mNot, mAnd, mOr, eNot, eAnd, eOr, mIf, sNil, sCons, mTup, fLst, mM, pNil, pSeq, pBk, pCt, pIf, pRet, put, pSet, pEx, gN, gE, gC, gT, pAs, pPar, pFor, fComp, tmY, flo, gAdd, gSub, gMul, gDiv, gMod, gPow, gNeg, gLt, gLe, gGt, gGe, gIs, gIsN, isNo, isBo, gIx, optR, oN, oS, toI, wSeq, seqOf, wZip, listAt, mApp, mPop, mPopAt, mAt, uAt, uC, mUB, mPopIn, vB, pAppIn, pPutAt, itemAt, putAt, mCall, mCallM, mCallK, mRc2, gIsi, isInt, isBool, isStr, isTup, isList, gLen, gAbs, gInt, gGcd, gMax, gMin, gTup, tru, ok_bind, no_bind, ex_bind, List.getElem?_cons_succ, List.getElem?_cons_zero, List.set_cons_succ, List.set_cons_zero, List.length_cons, List.length_nil, Nat.reduceAdd, Nat.reduceLT, Nat.reduceLeDiff, Nat.zero_add, if_true, if_pos_t, if_false_b, ite_tt, atI0, atI1, atI2, Bool.not_true, Bool.not_false, gEq_i, gNe_i, List.map_cons, List.map_nil, List.append_nil, List.nil_append, List.cons_append, List.replicate], by simp⟩
  | n, v, .str i, _ => by
    rw [rH_law_same, run4, bH_law_same]
    cases v with
    | str j => exact ⟨j == i, by simp only [gEq_s, wZipT, nX, mV, mC, vA, rA, get, gets, mU, mB, mL, lNil, lCons, eF, bool_b, mT, mTr, mNot, mAnd, mOr, eNot, eAnd, eOr, mIf, sNil, sCons, mTup, fLst, mM, pNil, pSeq, pBk, pCt, pIf, pRet, put, pSet, pEx, gN, gE, gC, gT, pAs, pPar, pFor, fComp, tmY, flo, gAdd, gSub, gMul, gDiv, gMod, gPow, gNeg, gLt, gLe, gGt, gGe, gIs, gIsN, isNo, isBo, gIx, optR, oN, oS, toI, wSeq, seqOf, wZip, listAt, mApp, mPop, mPopAt, mAt, uAt, uC, mUB, mPopIn, vB, pAppIn, pPutAt, itemAt, putAt, mCall, mCallM, mCallK, mRc2, gIsi, isInt, isBool, isStr, isTup, isList, gLen, gAbs, gInt, gGcd, gMax, gMin, gTup, tru, ok_bind, no_bind, ex_bind, List.getElem?_cons_succ, List.getElem?_cons_zero, List.set_cons_succ, List.set_cons_zero, List.length_cons, List.length_nil, Nat.reduceAdd, Nat.reduceLT, Nat.reduceLeDiff, Nat.zero_add, if_true, if_pos_t, if_false_b, ite_tt, atI0, atI1, atI2, Bool.not_true, Bool.not_false, gEq_i, gNe_i, List.map_cons, List.map_nil, List.append_nil, List.nil_append, List.cons_append, List.replicate], by simp⟩
    | _ => exact ⟨false, by simp only [wZipT, nX, mV, mC, vA, rA, get, gets, mU, mB, mL, lNil, lCons, eF, bool_b, mT, mTr, mNot, mAnd, mOr, eNot, eAnd, eOr, mIf, sNil, sCons, mTup, fLst, mM, pNil, pSeq, pBk, pCt, pIf, pRet, put, pSet, pEx, gN, gE, gC, gT, pAs, pPar, pFor, fComp, tmY, flo, gAdd, gSub, gMul, gDiv, gMod, gPow, gNeg, gLt, gLe, gGt, gGe, gIs, gIsN, isNo, isBo, gIx, optR, oN, oS, toI, wSeq, seqOf, wZip, listAt, mApp, mPop, mPopAt, mAt, uAt, uC, mUB, mPopIn, vB, pAppIn, pPutAt, itemAt, putAt, mCall, mCallM, mCallK, mRc2, gIsi, isInt, isBool, isStr, isTup, isList, gLen, gAbs, gInt, gGcd, gMax, gMin, gTup, tru, ok_bind, no_bind, ex_bind, List.getElem?_cons_succ, List.getElem?_cons_zero, List.set_cons_succ, List.set_cons_zero, List.length_cons, List.length_nil, Nat.reduceAdd, Nat.reduceLT, Nat.reduceLeDiff, Nat.zero_add, if_true, if_pos_t, if_false_b, ite_tt, atI0, atI1, atI2, Bool.not_true, Bool.not_false, gEq_i, gNe_i, List.map_cons, List.map_nil, List.append_nil, List.nil_append, List.cons_append, List.replicate], by simp⟩
  | n, v, .list xs, h => by cases n <;> simp [good] at h
  | n, v, .dict xs, h => by cases n <;> simp [good] at h
  | 0, v, .tuple ys, h => by simp [good] at h
  | n + 1, v, .tuple ys, h => by
    rw [rH_law_same, run4, bH_law_same]
    rw [good] at h
    obtain ⟨h1, h2⟩ := Bool.and_eq_true_iff.mp h
    have h1 := of_decide_eq_true h1
    have h2 := List.all_eq_true.mp h2
    cases v with
    | tuple xs =>
      by_cases hl : xs.length = ys.length
      · have el : ((xs.length : Int) == (ys.length : Int)) = true := by rw [hl]; simp
        let q : D → D → Bool := fun x y => match rH_law_same (n + 1) [x, y] with
          | .ok (.bool b) => b
          | _ => false
        have hq : ∀ y ∈ ys, ∀ x, rH_law_same (n + 1) [x, y] = .ok (.bool (q x y)) ∧ (q x y = true ↔ x = y) := fun y hy x => by
          obtain ⟨b, e, hb⟩ := sameH_ok n x y (h2 y hy)
          have : q x y = b := by simp only [q, e]
          rw [this]
          exact ⟨e, hb⟩
        let δ0 : Dl := [some (.tuple xs), some (.tuple ys), none, none]
        obtain ⟨δ', e1, rfl⟩ := compF_map (vs := [2, 3]) (t := gT 2 (gC (gN 2) (gC (gN 3) gE))) (c := mNot (mTr (vA (mCall (nX (rH_law_same (n + 1))) (sCons (mV 2) (sCons (mV 3) sNil)))))) (e := mC (.int 0)) (I := fun δ => δ = δ0) (fun _ => .int 0) (notSame q) (pairs xs ys) δ0 (fun d hd δ hδ => by
          subst hδ
          obtain ⟨x, y, rfl, hx, hy⟩ := pairs_mem hd
          refine ⟨[some (.tuple xs), some (.tuple ys), some x, some y], [some (.tuple xs), some (.tuple ys), some x, some y], ?_, ?_, fun _ => rfl, fun _ => ⟨_, rfl, rfl⟩⟩
          · simp only [δ0, wipeD, wZipT, nX, mV, mC, vA, rA, get, gets, mU, mB, mL, lNil, lCons, eF, bool_b, mT, mTr, mNot, mAnd, mOr, eNot, eAnd, eOr, mIf, sNil, sCons, mTup, fLst, mM, pNil, pSeq, pBk, pCt, pIf, pRet, put, pSet, pEx, gN, gE, gC, gT, pAs, pPar, pFor, fComp, tmY, flo, gAdd, gSub, gMul, gDiv, gMod, gPow, gNeg, gLt, gLe, gGt, gGe, gIs, gIsN, isNo, isBo, gIx, optR, oN, oS, toI, wSeq, seqOf, wZip, listAt, mApp, mPop, mPopAt, mAt, uAt, uC, mUB, mPopIn, vB, pAppIn, pPutAt, itemAt, putAt, mCall, mCallM, mCallK, mRc2, gIsi, isInt, isBool, isStr, isTup, isList, gLen, gAbs, gInt, gGcd, gMax, gMin, gTup, tru, ok_bind, no_bind, ex_bind, List.getElem?_cons_succ, List.getElem?_cons_zero, List.set_cons_succ, List.set_cons_zero, List.length_cons, List.length_nil, Nat.reduceAdd, Nat.reduceLT, Nat.reduceLeDiff, Nat.zero_add, if_true, if_pos_t, if_false_b, ite_tt, atI0, atI1, atI2, Bool.not_true, Bool.not_false, gEq_i, gNe_i, List.map_cons, List.map_nil, List.append_nil, List.nil_append, List.cons_append, List.replicate]
          · simp only [(hq y hy x).1, notSame, wZipT, nX, mV, mC, vA, rA, get, gets, mU, mB, mL, lNil, lCons, eF, bool_b, mT, mTr, mNot, mAnd, mOr, eNot, eAnd, eOr, mIf, sNil, sCons, mTup, fLst, mM, pNil, pSeq, pBk, pCt, pIf, pRet, put, pSet, pEx, gN, gE, gC, gT, pAs, pPar, pFor, fComp, tmY, flo, gAdd, gSub, gMul, gDiv, gMod, gPow, gNeg, gLt, gLe, gGt, gGe, gIs, gIsN, isNo, isBo, gIx, optR, oN, oS, toI, wSeq, seqOf, wZip, listAt, mApp, mPop, mPopAt, mAt, uAt, uC, mUB, mPopIn, vB, pAppIn, pPutAt, itemAt, putAt, mCall, mCallM, mCallK, mRc2, gIsi, isInt, isBool, isStr, isTup, isList, gLen, gAbs, gInt, gGcd, gMax, gMin, gTup, tru, ok_bind, no_bind, ex_bind, List.getElem?_cons_succ, List.getElem?_cons_zero, List.set_cons_succ, List.set_cons_zero, List.length_cons, List.length_nil, Nat.reduceAdd, Nat.reduceLT, Nat.reduceLeDiff, Nat.zero_add, if_true, if_pos_t, if_false_b, ite_tt, atI0, atI1, atI2, Bool.not_true, Bool.not_false, gEq_i, gNe_i, List.map_cons, List.map_nil, List.append_nil, List.nil_append, List.cons_append, List.replicate]) rfl
        have sz : (pairs xs ys).length ≤ sizeLine := by
          rw [pairs_len]
          exact Nat.le_trans (Nat.min_le_right _ _) (Nat.le_of_lt (small1000 h1))
        have z0 : (0 : Nat) ≤ sizeLine := Nat.zero_le _
        have w0 : wZipT (sCons (mV 0) (sCons (mV 1) sNil)) δ0 = .ok (pairs xs ys, δ0) := rfl
        have fc := fComp_of w0 sz e1
        refine ⟨(((pairs xs ys).filter (notSame q)).map fun _ => (PyData.int 0)).isEmpty, ?_, ?_⟩
        · have g0 := mB_of (g := gEq) (n := eF (fLst sNil)) fc (show _ = Rs.ok (PyData.list [], δ0) by simp only [if_pos z0, wZipT, nX, mV, mC, vA, rA, get, gets, mU, mB, mL, lNil, lCons, eF, bool_b, mT, mTr, mNot, mAnd, mOr, eNot, eAnd, eOr, mIf, sNil, sCons, mTup, fLst, mM, pNil, pSeq, pBk, pCt, pIf, pRet, put, pSet, pEx, gN, gE, gC, gT, pAs, pPar, pFor, fComp, tmY, flo, gAdd, gSub, gMul, gDiv, gMod, gPow, gNeg, gLt, gLe, gGt, gGe, gIs, gIsN, isNo, isBo, gIx, optR, oN, oS, toI, wSeq, seqOf, wZip, listAt, mApp, mPop, mPopAt, mAt, uAt, uC, mUB, mPopIn, vB, pAppIn, pPutAt, itemAt, putAt, mCall, mCallM, mCallK, mRc2, gIsi, isInt, isBool, isStr, isTup, isList, gLen, gAbs, gInt, gGcd, gMax, gMin, gTup, tru, ok_bind, no_bind, ex_bind, List.getElem?_cons_succ, List.getElem?_cons_zero, List.set_cons_succ, List.set_cons_zero, List.length_cons, List.length_nil, Nat.reduceAdd, Nat.reduceLT, Nat.reduceLeDiff, Nat.zero_add, if_true, if_pos_t, if_false_b, ite_tt, atI0, atI1, atI2, Bool.not_true, Bool.not_false, gEq_i, gNe_i, List.map_cons, List.map_nil, List.append_nil, List.nil_append, List.cons_append, List.replicate]) (gEq_nil _)
          show (pSeq _ _ δ0 >>= fun r => flo .im r.1) = _
          rw [pSeq_rt (δ1 := δ0) (d := .bool (((pairs xs ys).filter (notSame q)).map fun _ => (PyData.int 0)).isEmpty)]
          · rfl
          rw [pIf_t (δ1 := δ0) (by simp only [δ0, wZipT, nX, mV, mC, vA, rA, get, gets, mU, mB, mL, lNil, lCons, eF, bool_b, mT, mTr, mNot, mAnd, mOr, eNot, eAnd, eOr, mIf, sNil, sCons, mTup, fLst, mM, pNil, pSeq, pBk, pCt, pIf, pRet, put, pSet, pEx, gN, gE, gC, gT, pAs, pPar, pFor, fComp, tmY, flo, gAdd, gSub, gMul, gDiv, gMod, gPow, gNeg, gLt, gLe, gGt, gGe, gIs, gIsN, isNo, isBo, gIx, optR, oN, oS, toI, wSeq, seqOf, wZip, listAt, mApp, mPop, mPopAt, mAt, uAt, uC, mUB, mPopIn, vB, pAppIn, pPutAt, itemAt, putAt, mCall, mCallM, mCallK, mRc2, gIsi, isInt, isBool, isStr, isTup, isList, gLen, gAbs, gInt, gGcd, gMax, gMin, gTup, tru, ok_bind, no_bind, ex_bind, List.getElem?_cons_succ, List.getElem?_cons_zero, List.set_cons_succ, List.set_cons_zero, List.length_cons, List.length_nil, Nat.reduceAdd, Nat.reduceLT, Nat.reduceLeDiff, Nat.zero_add, if_true, if_pos_t, if_false_b, ite_tt, atI0, atI1, atI2, Bool.not_true, Bool.not_false, gEq_i, gNe_i, List.map_cons, List.map_nil, List.append_nil, List.nil_append, List.cons_append, List.replicate]), pSeq_nx (δ1 := δ0)]
          · exact pRet_of g0
          rw [pIf_f (δ1 := δ0)]
          · rfl
          simp only [δ0, el, wZipT, nX, mV, mC, vA, rA, get, gets, mU, mB, mL, lNil, lCons, eF, bool_b, mT, mTr, mNot, mAnd, mOr, eNot, eAnd, eOr, mIf, sNil, sCons, mTup, fLst, mM, pNil, pSeq, pBk, pCt, pIf, pRet, put, pSet, pEx, gN, gE, gC, gT, pAs, pPar, pFor, fComp, tmY, flo, gAdd, gSub, gMul, gDiv, gMod, gPow, gNeg, gLt, gLe, gGt, gGe, gIs, gIsN, isNo, isBo, gIx, optR, oN, oS, toI, wSeq, seqOf, wZip, listAt, mApp, mPop, mPopAt, mAt, uAt, uC, mUB, mPopIn, vB, pAppIn, pPutAt, itemAt, putAt, mCall, mCallM, mCallK, mRc2, gIsi, isInt, isBool, isStr, isTup, isList, gLen, gAbs, gInt, gGcd, gMax, gMin, gTup, tru, ok_bind, no_bind, ex_bind, List.getElem?_cons_succ, List.getElem?_cons_zero, List.set_cons_succ, List.set_cons_zero, List.length_cons, List.length_nil, Nat.reduceAdd, Nat.reduceLT, Nat.reduceLeDiff, Nat.zero_add, if_true, if_pos_t, if_false_b, ite_tt, atI0, atI1, atI2, Bool.not_true, Bool.not_false, gEq_i, gNe_i, List.map_cons, List.map_nil, List.append_nil, List.nil_append, List.cons_append, List.replicate]
        · rw [pairs_same hl fun y hy x => (hq y hy x).2]
          simp
      · have el : ((xs.length : Int) == (ys.length : Int)) = false := by simp; omega
        refine ⟨false, by simp only [el, wZipT, nX, mV, mC, vA, rA, get, gets, mU, mB, mL, lNil, lCons, eF, bool_b, mT, mTr, mNot, mAnd, mOr, eNot, eAnd, eOr, mIf, sNil, sCons, mTup, fLst, mM, pNil, pSeq, pBk, pCt, pIf, pRet, put, pSet, pEx, gN, gE, gC, gT, pAs, pPar, pFor, fComp, tmY, flo, gAdd, gSub, gMul, gDiv, gMod, gPow, gNeg, gLt, gLe, gGt, gGe, gIs, gIsN, isNo, isBo, gIx, optR, oN, oS, toI, wSeq, seqOf, wZip, listAt, mApp, mPop, mPopAt, mAt, uAt, uC, mUB, mPopIn, vB, pAppIn, pPutAt, itemAt, putAt, mCall, mCallM, mCallK, mRc2, gIsi, isInt, isBool, isStr, isTup, isList, gLen, gAbs, gInt, gGcd, gMax, gMin, gTup, tru, ok_bind, no_bind, ex_bind, List.getElem?_cons_succ, List.getElem?_cons_zero, List.set_cons_succ, List.set_cons_zero, List.length_cons, List.length_nil, Nat.reduceAdd, Nat.reduceLT, Nat.reduceLeDiff, Nat.zero_add, if_true, if_pos_t, if_false_b, ite_tt, atI0, atI1, atI2, Bool.not_true, Bool.not_false, gEq_i, gNe_i, List.map_cons, List.map_nil, List.append_nil, List.nil_append, List.cons_append, List.replicate], ?_⟩
        constructor
        · intro z; cases z
        · intro z; cases z; exact absurd rfl hl
    | _ => exact ⟨false, by simp only [wZipT, nX, mV, mC, vA, rA, get, gets, mU, mB, mL, lNil, lCons, eF, bool_b, mT, mTr, mNot, mAnd, mOr, eNot, eAnd, eOr, mIf, sNil, sCons, mTup, fLst, mM, pNil, pSeq, pBk, pCt, pIf, pRet, put, pSet, pEx, gN, gE, gC, gT, pAs, pPar, pFor, fComp, tmY, flo, gAdd, gSub, gMul, gDiv, gMod, gPow, gNeg, gLt, gLe, gGt, gGe, gIs, gIsN, isNo, isBo, gIx, optR, oN, oS, toI, wSeq, seqOf, wZip, listAt, mApp, mPop, mPopAt, mAt, uAt, uC, mUB, mPopIn, vB, pAppIn, pPutAt, itemAt, putAt, mCall, mCallM, mCallK, mRc2, gIsi, isInt, isBool, isStr, isTup, isList, gLen, gAbs, gInt, gGcd, gMax, gMin, gTup, tru, ok_bind, no_bind, ex_bind, List.getElem?_cons_succ, List.getElem?_cons_zero, List.set_cons_succ, List.set_cons_zero, List.length_cons, List.length_nil, Nat.reduceAdd, Nat.reduceLT, Nat.reduceLeDiff, Nat.zero_add, if_true, if_pos_t, if_false_b, ite_tt, atI0, atI1, atI2, Bool.not_true, Bool.not_false, gEq_i, gNe_i, List.map_cons, List.map_nil, List.append_nil, List.nil_append, List.cons_append, List.replicate], by simp⟩
theorem sameH_refl {n : Nat} {d : D} (h : good n d = true) : rH_law_same (n + 1) [d, d] = .ok (.bool true) := by
  obtain ⟨b, e, hb⟩ := sameH_ok n d d h
  rw [e, hb.mpr rfl]
theorem eqv_b : ∀ a : Bool, PyData.eqv (.bool a) (.bool a) = true := fun a => by cases a <;> simp [PyData.eqv]
theorem eqvAll_b : ∀ bs : List Bool, PyData.eqvAll (bs.map PyData.bool) (bs.map PyData.bool) = true
  | [] => by simp [PyData.eqvAll]
  | b :: bs => by
    rw [List.map_cons, PyData.eqvAll, eqv_b b, eqvAll_b bs]
    rfl
theorem plainAll_b : ∀ bs : List Bool, PyData.plainAll (bs.map PyData.bool) = true
  | [] => by simp [PyData.plainAll]
  | b :: bs => by
    rw [List.map_cons, PyData.plainAll, plainAll_b bs]
    rfl
theorem depth_b (b : Bool) : (PyData.bool b).depth = 0 := by rw [PyData.depth]; all_goals (intros; nofun)
theorem depthAll_b : ∀ bs : List Bool, PyData.depthAll (bs.map PyData.bool) = 0
  | [] => by simp [PyData.depthAll]
  | b :: bs => by
    rw [List.map_cons, PyData.depthAll, depthAll_b bs, depth_b]
    rfl
theorem gNe_bs (bs : List Bool) : gNe (.list (bs.map PyData.bool)) (.list (bs.map PyData.bool)) = .ok (.bool false) := by
  unfold gNe
  have p : (PyData.list (bs.map PyData.bool)).plain = true := by rw [PyData.plain]; exact plainAll_b bs
  have d : (PyData.list (bs.map PyData.bool)).depth ≤ 1 := by rw [PyData.depth, depthAll_b]; omega
  rw [if_pos (.inl ⟨p, p, by omega⟩), PyData.eqv, eqvAll_b]
  rfl
def bsA (a : Nat) : List Bool := (List.range 6).map fun i => decide (i = a)
theorem run2 (m : Pm) (v w : D) : runP .im 2 m [v, w] = (m [some v, some w] >>= fun r => flo .im r.1) := rfl
theorem run21 (m : Pm) (v : D) : runP .im 2 m [v] = (m [some v, none] >>= fun r => flo .im r.1) := rfl
theorem run31 (m : Pm) (v : D) : runP .im 3 m [v] = (m [some v, none, none] >>= fun r => flo .im r.1) := rfl
theorem run42 (m : Pm) (v w : D) : runP .im 4 m [v, w] = (m [some v, some w, none, none] >>= fun r => flo .im r.1) := rfl
theorem raise0 (t : D) : r_law_raise [.int 0, t] = .ex "InvalidModule" t := by
  rw [r_law_raise, run2, b_law_raise]; simp [pRaise, pRaise0, mV, mC, vA, rA, get, gets, mU, mB, mL, lNil, lCons, eF, bool_b, mT, mTr, mNot, mAnd, mOr, eNot, eAnd, eOr, mIf, sNil, sCons, mTup, fLst, mM, pNil, pSeq, pBk, pCt, pIf, pRet, put, pSet, pEx, gN, gE, gC, gT, pAs, pPar, pFor, fComp, tmY, flo, gAdd, gSub, gMul, gDiv, gMod, gPow, gNeg, gLt, gLe, gGt, gGe, gIs, gIsN, isNo, isBo, gIx, optR, oN, oS, toI, wSeq, seqOf, wZip, listAt, mApp, mPop, mPopAt, mAt, uAt, uC, mUB, mPopIn, vB, pAppIn, pPutAt, itemAt, putAt, mCall, mCallM, mCallK, mRc2, gIsi, isInt, isBool, isStr, isTup, isList, gLen, gAbs, gInt, gGcd, gMax, gMin, gTup, tru, ok_bind, no_bind, ex_bind, List.getElem?_cons_succ, List.getElem?_cons_zero, List.set_cons_succ, List.set_cons_zero, List.length_cons, List.length_nil, Nat.reduceAdd, Nat.reduceLT, Nat.reduceLeDiff, Nat.zero_add, if_true, if_pos_t, if_false_b, ite_tt, atI0, atI1, atI2, Bool.not_true, Bool.not_false, gEq_i, gNe_i, List.map_cons, List.map_nil, List.append_nil, List.nil_append, List.cons_append, List.replicate]
theorem raise1 (t : D) : r_law_raise [.int 1, t] = .ex "InvalidText" t := by
  rw [r_law_raise, run2, b_law_raise]; simp [pRaise, pRaise0, mV, mC, vA, rA, get, gets, mU, mB, mL, lNil, lCons, eF, bool_b, mT, mTr, mNot, mAnd, mOr, eNot, eAnd, eOr, mIf, sNil, sCons, mTup, fLst, mM, pNil, pSeq, pBk, pCt, pIf, pRet, put, pSet, pEx, gN, gE, gC, gT, pAs, pPar, pFor, fComp, tmY, flo, gAdd, gSub, gMul, gDiv, gMod, gPow, gNeg, gLt, gLe, gGt, gGe, gIs, gIsN, isNo, isBo, gIx, optR, oN, oS, toI, wSeq, seqOf, wZip, listAt, mApp, mPop, mPopAt, mAt, uAt, uC, mUB, mPopIn, vB, pAppIn, pPutAt, itemAt, putAt, mCall, mCallM, mCallK, mRc2, gIsi, isInt, isBool, isStr, isTup, isList, gLen, gAbs, gInt, gGcd, gMax, gMin, gTup, tru, ok_bind, no_bind, ex_bind, List.getElem?_cons_succ, List.getElem?_cons_zero, List.set_cons_succ, List.set_cons_zero, List.length_cons, List.length_nil, Nat.reduceAdd, Nat.reduceLT, Nat.reduceLeDiff, Nat.zero_add, if_true, if_pos_t, if_false_b, ite_tt, atI0, atI1, atI2, Bool.not_true, Bool.not_false, gEq_i, gNe_i, List.map_cons, List.map_nil, List.append_nil, List.nil_append, List.cons_append, List.replicate]
theorem raise2 (t : D) : r_law_raise [.int 2, t] = .ex "InvalidProject" t := by
  rw [r_law_raise, run2, b_law_raise]; simp [pRaise, pRaise0, mV, mC, vA, rA, get, gets, mU, mB, mL, lNil, lCons, eF, bool_b, mT, mTr, mNot, mAnd, mOr, eNot, eAnd, eOr, mIf, sNil, sCons, mTup, fLst, mM, pNil, pSeq, pBk, pCt, pIf, pRet, put, pSet, pEx, gN, gE, gC, gT, pAs, pPar, pFor, fComp, tmY, flo, gAdd, gSub, gMul, gDiv, gMod, gPow, gNeg, gLt, gLe, gGt, gGe, gIs, gIsN, isNo, isBo, gIx, optR, oN, oS, toI, wSeq, seqOf, wZip, listAt, mApp, mPop, mPopAt, mAt, uAt, uC, mUB, mPopIn, vB, pAppIn, pPutAt, itemAt, putAt, mCall, mCallM, mCallK, mRc2, gIsi, isInt, isBool, isStr, isTup, isList, gLen, gAbs, gInt, gGcd, gMax, gMin, gTup, tru, ok_bind, no_bind, ex_bind, List.getElem?_cons_succ, List.getElem?_cons_zero, List.set_cons_succ, List.set_cons_zero, List.length_cons, List.length_nil, Nat.reduceAdd, Nat.reduceLT, Nat.reduceLeDiff, Nat.zero_add, if_true, if_pos_t, if_false_b, ite_tt, atI0, atI1, atI2, Bool.not_true, Bool.not_false, gEq_i, gNe_i, List.map_cons, List.map_nil, List.append_nil, List.nil_append, List.cons_append, List.replicate]
theorem raise3 (t : D) : r_law_raise [.int 3, t] = .ex "InvalidQuestion" t := by
  rw [r_law_raise, run2, b_law_raise]; simp [pRaise, pRaise0, mV, mC, vA, rA, get, gets, mU, mB, mL, lNil, lCons, eF, bool_b, mT, mTr, mNot, mAnd, mOr, eNot, eAnd, eOr, mIf, sNil, sCons, mTup, fLst, mM, pNil, pSeq, pBk, pCt, pIf, pRet, put, pSet, pEx, gN, gE, gC, gT, pAs, pPar, pFor, fComp, tmY, flo, gAdd, gSub, gMul, gDiv, gMod, gPow, gNeg, gLt, gLe, gGt, gGe, gIs, gIsN, isNo, isBo, gIx, optR, oN, oS, toI, wSeq, seqOf, wZip, listAt, mApp, mPop, mPopAt, mAt, uAt, uC, mUB, mPopIn, vB, pAppIn, pPutAt, itemAt, putAt, mCall, mCallM, mCallK, mRc2, gIsi, isInt, isBool, isStr, isTup, isList, gLen, gAbs, gInt, gGcd, gMax, gMin, gTup, tru, ok_bind, no_bind, ex_bind, List.getElem?_cons_succ, List.getElem?_cons_zero, List.set_cons_succ, List.set_cons_zero, List.length_cons, List.length_nil, Nat.reduceAdd, Nat.reduceLT, Nat.reduceLeDiff, Nat.zero_add, if_true, if_pos_t, if_false_b, ite_tt, atI0, atI1, atI2, Bool.not_true, Bool.not_false, gEq_i, gNe_i, List.map_cons, List.map_nil, List.append_nil, List.nil_append, List.cons_append, List.replicate]
theorem raise4 (t : D) : r_law_raise [.int 4, t] = .ex "Refused" t := by
  rw [r_law_raise, run2, b_law_raise]; simp [pRaise, pRaise0, mV, mC, vA, rA, get, gets, mU, mB, mL, lNil, lCons, eF, bool_b, mT, mTr, mNot, mAnd, mOr, eNot, eAnd, eOr, mIf, sNil, sCons, mTup, fLst, mM, pNil, pSeq, pBk, pCt, pIf, pRet, put, pSet, pEx, gN, gE, gC, gT, pAs, pPar, pFor, fComp, tmY, flo, gAdd, gSub, gMul, gDiv, gMod, gPow, gNeg, gLt, gLe, gGt, gGe, gIs, gIsN, isNo, isBo, gIx, optR, oN, oS, toI, wSeq, seqOf, wZip, listAt, mApp, mPop, mPopAt, mAt, uAt, uC, mUB, mPopIn, vB, pAppIn, pPutAt, itemAt, putAt, mCall, mCallM, mCallK, mRc2, gIsi, isInt, isBool, isStr, isTup, isList, gLen, gAbs, gInt, gGcd, gMax, gMin, gTup, tru, ok_bind, no_bind, ex_bind, List.getElem?_cons_succ, List.getElem?_cons_zero, List.set_cons_succ, List.set_cons_zero, List.length_cons, List.length_nil, Nat.reduceAdd, Nat.reduceLT, Nat.reduceLeDiff, Nat.zero_add, if_true, if_pos_t, if_false_b, ite_tt, atI0, atI1, atI2, Bool.not_true, Bool.not_false, gEq_i, gNe_i, List.map_cons, List.map_nil, List.append_nil, List.nil_append, List.cons_append, List.replicate]
theorem raise5 (t : D) : r_law_raise [.int 5, t] = .ex "InvalidCommand" .none := by
  rw [r_law_raise, run2, b_law_raise]; simp [pRaise, pRaise0, mV, mC, vA, rA, get, gets, mU, mB, mL, lNil, lCons, eF, bool_b, mT, mTr, mNot, mAnd, mOr, eNot, eAnd, eOr, mIf, sNil, sCons, mTup, fLst, mM, pNil, pSeq, pBk, pCt, pIf, pRet, put, pSet, pEx, gN, gE, gC, gT, pAs, pPar, pFor, fComp, tmY, flo, gAdd, gSub, gMul, gDiv, gMod, gPow, gNeg, gLt, gLe, gGt, gGe, gIs, gIsN, isNo, isBo, gIx, optR, oN, oS, toI, wSeq, seqOf, wZip, listAt, mApp, mPop, mPopAt, mAt, uAt, uC, mUB, mPopIn, vB, pAppIn, pPutAt, itemAt, putAt, mCall, mCallM, mCallK, mRc2, gIsi, isInt, isBool, isStr, isTup, isList, gLen, gAbs, gInt, gGcd, gMax, gMin, gTup, tru, ok_bind, no_bind, ex_bind, List.getElem?_cons_succ, List.getElem?_cons_zero, List.set_cons_succ, List.set_cons_zero, List.length_cons, List.length_nil, Nat.reduceAdd, Nat.reduceLT, Nat.reduceLeDiff, Nat.zero_add, if_true, if_pos_t, if_false_b, ite_tt, atI0, atI1, atI2, Bool.not_true, Bool.not_false, gEq_i, gNe_i, List.map_cons, List.map_nil, List.append_nil, List.nil_append, List.cons_append, List.replicate]
theorem isE_of {i : Nat} {tab : List (Str × Bool)} {c : Str} {x : D} {b : Bool} {δ : Dl} (h : δ[i]? = some (some (.dict [(.str c, x)]))) (hl : tab.lookup c = some b) : mIsE i tab δ = .ok (.bool b, δ) := by
  unfold mIsE
  rw [h]
  show (match tab.lookup c with | some b => Rs.ok (PyData.bool b, δ) | none => .no) = _
  rw [hl]
theorem marks_of {c : Str} {x : D} {b0 b1 b2 b3 b4 b5 : Bool} (h0 : tb_InvalidModule.lookup c = some b0) (h1 : tb_InvalidText.lookup c = some b1) (h2 : tb_InvalidProject.lookup c = some b2) (h3 : tb_InvalidQuestion.lookup c = some b3) (h4 : tb_Refused.lookup c = some b4) (h5 : tb_InvalidCommand.lookup c = some b5) :
    r_law_marks [.dict [(.str c, x)]] = .ok (.list ([b0, b1, b2, b3, b4, b5].map PyData.bool)) := by
  have e : ∀ (v : Option D) {tab : List (Str × Bool)} {b : Bool}, tab.lookup c = some b → mIsE 0 tab [some (.dict [(.str c, x)]), v] = .ok (.bool b, [some (.dict [(.str c, x)]), v]) := fun v _ _ hl => isE_of rfl hl
  have n1 : (1 : Nat) ≤ sizeLine := by rw [sizeLine_eq]; omega
  have n2 : (2 : Nat) ≤ sizeLine := by rw [sizeLine_eq]; omega
  have n3 : (3 : Nat) ≤ sizeLine := by rw [sizeLine_eq]; omega
  rw [r_law_marks, run21, b_law_marks]
  rw [pSeq_nx (δ1 := [some (.dict [(.str c, x)]), some (.list [.bool b0, .bool b1, .bool b2])]) (by simp only [e _ h0, e _ h1, e _ h2, n3, mV, mC, vA, rA, get, gets, mU, mB, mL, lNil, lCons, eF, bool_b, mT, mTr, mNot, mAnd, mOr, eNot, eAnd, eOr, mIf, sNil, sCons, mTup, fLst, mM, pNil, pSeq, pBk, pCt, pIf, pRet, put, pSet, pEx, gN, gE, gC, gT, pAs, pPar, pFor, fComp, tmY, flo, gAdd, gSub, gMul, gDiv, gMod, gPow, gNeg, gLt, gLe, gGt, gGe, gIs, gIsN, isNo, isBo, gIx, optR, oN, oS, toI, wSeq, seqOf, wZip, listAt, mApp, mPop, mPopAt, mAt, uAt, uC, mUB, mPopIn, vB, pAppIn, pPutAt, itemAt, putAt, mCall, mCallM, mCallK, mRc2, gIsi, isInt, isBool, isStr, isTup, isList, gLen, gAbs, gInt, gGcd, gMax, gMin, gTup, tru, ok_bind, no_bind, ex_bind, List.getElem?_cons_succ, List.getElem?_cons_zero, List.set_cons_succ, List.set_cons_zero, List.length_cons, List.length_nil, Nat.reduceAdd, Nat.reduceLT, Nat.reduceLeDiff, Nat.zero_add, if_true, if_pos_t, if_false_b, ite_tt, atI0, atI1, atI2, Bool.not_true, Bool.not_false, gEq_i, gNe_i, List.map_cons, List.map_nil, List.append_nil, List.nil_append, List.cons_append, List.replicate])]
  have a1 : gAdd (.list [.bool b0, .bool b1, .bool b2]) (.list [.bool b3, .bool b4]) = .ok (.list [.bool b0, .bool b1, .bool b2, .bool b3, .bool b4]) := gAdd_l (by simp)
  have a2 : gAdd (.list [.bool b0, .bool b1, .bool b2, .bool b3, .bool b4]) (.list [.bool b5]) = .ok (.list [.bool b0, .bool b1, .bool b2, .bool b3, .bool b4, .bool b5]) := gAdd_l (by simp)
  rw [pSeq_nx (δ1 := [some (.dict [(.str c, x)]), some (.list [.bool b0, .bool b1, .bool b2, .bool b3, .bool b4])]) (by simp only [e _ h3, e _ h4, n2, a1, mV, mC, vA, rA, get, gets, mU, mB, mL, lNil, lCons, eF, bool_b, mT, mTr, mNot, mAnd, mOr, eNot, eAnd, eOr, mIf, sNil, sCons, mTup, fLst, mM, pNil, pSeq, pBk, pCt, pIf, pRet, put, pSet, pEx, gN, gE, gC, gT, pAs, pPar, pFor, fComp, tmY, flo, gSub, gMul, gDiv, gMod, gPow, gNeg, gLt, gLe, gGt, gGe, gIs, gIsN, isNo, isBo, gIx, optR, oN, oS, toI, wSeq, seqOf, wZip, listAt, mApp, mPop, mPopAt, mAt, uAt, uC, mUB, mPopIn, vB, pAppIn, pPutAt, itemAt, putAt, mCall, mCallM, mCallK, mRc2, gIsi, isInt, isBool, isStr, isTup, isList, gLen, gAbs, gInt, gGcd, gMax, gMin, gTup, tru, ok_bind, no_bind, ex_bind, List.getElem?_cons_succ, List.getElem?_cons_zero, List.set_cons_succ, List.set_cons_zero, List.length_cons, List.length_nil, Nat.reduceAdd, Nat.reduceLT, Nat.reduceLeDiff, Nat.zero_add, if_true, if_pos_t, if_false_b, ite_tt, atI0, atI1, atI2, Bool.not_true, Bool.not_false, gEq_i, gNe_i, List.map_cons, List.map_nil, List.append_nil, List.nil_append, List.cons_append, List.replicate])]
  simp only [e _ h5, n1, a2, mV, mC, vA, rA, get, gets, mU, mB, mL, lNil, lCons, eF, bool_b, mT, mTr, mNot, mAnd, mOr, eNot, eAnd, eOr, mIf, sNil, sCons, mTup, fLst, mM, pNil, pSeq, pBk, pCt, pIf, pRet, put, pSet, pEx, gN, gE, gC, gT, pAs, pPar, pFor, fComp, tmY, flo, gSub, gMul, gDiv, gMod, gPow, gNeg, gLt, gLe, gGt, gGe, gIs, gIsN, isNo, isBo, gIx, optR, oN, oS, toI, wSeq, seqOf, wZip, listAt, mApp, mPop, mPopAt, mAt, uAt, uC, mUB, mPopIn, vB, pAppIn, pPutAt, itemAt, putAt, mCall, mCallM, mCallK, mRc2, gIsi, isInt, isBool, isStr, isTup, isList, gLen, gAbs, gInt, gGcd, gMax, gMin, gTup, tru, ok_bind, no_bind, ex_bind, List.getElem?_cons_succ, List.getElem?_cons_zero, List.set_cons_succ, List.set_cons_zero, List.length_cons, List.length_nil, Nat.reduceAdd, Nat.reduceLT, Nat.reduceLeDiff, Nat.zero_add, if_true, if_pos_t, if_false_b, ite_tt, atI0, atI1, atI2, Bool.not_true, Bool.not_false, gEq_i, gNe_i, List.map_cons, List.map_nil, List.append_nil, List.nil_append, List.cons_append, List.replicate]
theorem eqB (a b : Nat) : gEq (.int (a : Nat)) (.int (b : Nat)) = .ok (.bool (decide (a = b))) := by
  rw [gEq_i]
  congr 2
  by_cases h : a = b
  · subst h; simp
  · rw [decide_eq_false h]; simp; omega
def isAt (a : Nat) (d : D) : D := match d with
  | .int i => .bool (decide (i = a))
  | _ => .none
theorem cnd_of {E1 E2 V : Em} {δ : Dl} {L : D} (h1 : E1 δ = .ok (L, δ)) (h2 : E2 δ = .ok (L, δ)) (hn : gNe L L = .ok (.bool false)) (hv : V δ = .ok (.bool true, δ)) : mOr (mT (mB gNe (vA E1) (vA E2))) (mNot (mTr (vA V))) δ = .ok (false, δ) :=
  mOr_ff (by
    unfold mT
    rw [mB_of h1 h2 hn]
    rfl) (mNot_of (mTr_of hv))
theorem su_of {C : Tm} {S : Em} {δ : Dl} {a : Nat} (hδ : δ[0]? = some (some (.int (a : Nat)))) (hc : C δ = .ok (false, δ)) (hs : 4 < a ∨ (a ≤ 4 ∧ S δ = .ok (.bool true, δ))) : pSeq (pIf C (pRet (mC (.bool false))) pNil) (pRet (eOr (mB gGt (vA (mV 0)) (vA (mC (.int 4)))) S)) δ = .ok (.rt (.bool true), δ) := by
  rw [pSeq_nx (δ1 := δ) (by rw [pIf_f hc]; rfl)]
  refine pRet_of ?_
  have v0 : mV 0 δ = .ok (.int (a : Nat), δ) := by unfold mV; rw [hδ]
  have g : mB gGt (vA (mV 0)) (vA (mC (.int 4))) δ = .ok (.bool (decide ((4 : Int) < (a : Nat))), δ) := mB_of v0 rfl rfl
  rcases hs with h | ⟨h1, h2⟩
  · have e : decide ((4 : Int) < (a : Nat)) = true := decide_eq_true (by omega)
    rw [e] at g
    unfold eOr
    rw [g]
    rfl
  · have e : decide ((4 : Int) < (a : Nat)) = false := decide_eq_false (by omega)
    rw [e] at g
    unfold eOr
    rw [g]
    exact h2
theorem try_of {cs : List Str} {F : List D → Rs D} {su : Pm} {a : Nat} {t x : D} {c : Str} {r : Dl} {d : D} (hr : F [.int (a : Nat), t] = .ex c x) (hc : c ∈ cs) (hs : su [some (.int (a : Nat)), some t, some (.dict [(.str c, x)]), none] = .ok (.rt d, r)) :
    pTryE cs 2 F (sCons (mV 0) (sCons (mV 1) sNil)) su [some (.int (a : Nat)), some t, none, none] = .ok (.rt d, [none, none, none, none]) := by
  have e0 : (sCons (mV 0) (sCons (mV 1) sNil)) [some (.int (a : Nat)), some t, none, none] = .ok ([.int (a : Nat), t], [some (.int (a : Nat)), some t, none, none]) := rfl
  unfold pTryE
  rw [e0]
  dsimp only
  rw [hr]
  dsimp only
  rw [if_pos hc]
  have e1 : ([some (.int (a : Nat)), some t, none, none] : Dl).set 2 (some (.dict [(.str c, x)])) = [some (.int (a : Nat)), some t, some (.dict [(.str c, x)]), none] := rfl
  rw [e1, hs]
  rfl
theorem heard_of {a : Nat} {c : Str} {x t : D} (ha : a < 6) (hr : r_law_raise [.int (a : Nat), t] = .ex c x) (hc : c ∈ (["InvalidModule", "InvalidText", "InvalidProject", "InvalidQuestion", "Refused", "InvalidCommand"] : List Str)) (hm : r_law_marks [.dict [(.str c, x)]] = .ok (.list ((bsA a).map PyData.bool)))
    (hV : tb_ValueError.lookup c = some true) (hs : 4 < a ∨ (a ≤ 4 ∧ c ∈ cs5 ∧ rH_law_same 3 [x, t] = .ok (.bool true))) : r_law_heard [.int (a : Nat), t] = .ok (.bool true) := by
  rw [r_law_heard, run42, b_law_heard]
  let δ0 : Dl := [some (.int (a : Nat)), some t, some (.dict [(.str c, x)]), none]
  have m1 : mMarks 2 r_law_marks δ0 = .ok (.list ((bsA a).map PyData.bool), δ0) := by
    show (match r_law_marks [.dict [(.str c, x)]] with | .ok r => Rs.ok (r, δ0) | _ => .no) = _
    rw [hm]
  have v1 : mIsE 2 tb_ValueError δ0 = .ok (.bool true, δ0) := isE_of rfl hV
  have w1 : wRng (sCons (mC (.int 6)) sNil) δ0 = .ok ((List.range 6).map fun i => .int (i : Nat), δ0) := wRng_of (j := 6) rfl (by decide) (by decide)
  obtain ⟨δ', e1, rfl⟩ := compF_map (vs := [3]) (t := gN 3) (c := tmY) (e := mB gEq (vA (mV 3)) (vA (mV 0))) (I := fun δ => δ = δ0) (isAt a) (fun _ => true) ((List.range 6).map fun i => PyData.int (i : Nat)) δ0 (fun d hd δ hδ => by
    subst hδ
    obtain ⟨i, _, rfl⟩ := List.mem_map.mp hd
    refine ⟨[some (.int (a : Nat)), some t, some (.dict [(.str c, x)]), some (.int (i : Nat))], _, rfl, rfl, fun z => (nomatch z), fun _ => ⟨[some (.int (a : Nat)), some t, some (.dict [(.str c, x)]), some (.int (i : Nat))], ?_, rfl⟩⟩
    have e : gEq (.int (i : Nat)) (.int (a : Nat)) = .ok (.bool (decide ((i : Int) = a))) := by
      rw [eqB]; exact congrArg (fun b => Rs.ok (PyData.bool b)) (decide_eq_decide.mpr ⟨fun h => by rw [h], fun h => by omega⟩)
    show (gEq (.int (i : Nat)) (.int (a : Nat)) >>= fun d => Rs.ok (d, _)) = _
    rw [e]
    rfl) rfl
  have fc := fComp_of w1 (by show 6 ≤ sizeLine; rw [sizeLine_eq]; omega) e1
  have bl : (((List.range 6).map fun i => PyData.int (i : Nat)).filter fun _ => true).map (isAt a) = (bsA a).map PyData.bool := by
    rw [List.filter_eq_self.mpr (fun _ _ => rfl), List.map_map]
    unfold bsA
    rw [List.map_map]
    refine List.map_congr_left fun i _ => ?_
    show PyData.bool (decide ((i : Int) = a)) = PyData.bool (decide (i = a))
    exact congrArg PyData.bool (decide_eq_decide.mpr ⟨fun h => by omega, fun h => by rw [h]⟩)
  rw [bl] at fc
  have cnd := cnd_of m1 fc (gNe_bs _) v1
  have cl : 4 < a ∨ (a ≤ 4 ∧ mCall (nX (rH_law_same 3)) (sCons (mAtE 2 cs5) (sCons (mV 1) sNil)) δ0 = .ok (.bool true, δ0)) := hs.imp id fun ⟨h1, h2, h3⟩ => ⟨h1, by
    have at1 : mAtE 2 cs5 δ0 = .ok (x, δ0) := by
      show (if c ∈ cs5 then Rs.ok (x, δ0) else .no) = _
      rw [if_pos h2]
    exact mCall_of (sCons_of at1 (sCons_of (show mV 1 δ0 = .ok (t, δ0) from rfl) rfl)) (by unfold nX; rw [h3])⟩
  rw [pSeq_rt (try_of hr hc (su_of rfl cnd cl))]
  rfl
theorem heard_ok {t : D} (hg : good 2 t = true) : ∀ a, a < 6 → r_law_heard [.int (a : Nat), t] = .ok (.bool true) := by
  have hs := sameH_refl hg
  intro a ha
  match a, ha with
  | 0, ha => exact heard_of ha (raise0 t) (by decide) (marks_of rfl rfl rfl rfl rfl rfl) (by rfl) (.inr ⟨by decide, by decide, hs⟩)
  | 1, ha => exact heard_of ha (raise1 t) (by decide) (marks_of rfl rfl rfl rfl rfl rfl) (by rfl) (.inr ⟨by decide, by decide, hs⟩)
  | 2, ha => exact heard_of ha (raise2 t) (by decide) (marks_of rfl rfl rfl rfl rfl rfl) (by rfl) (.inr ⟨by decide, by decide, hs⟩)
  | 3, ha => exact heard_of ha (raise3 t) (by decide) (marks_of rfl rfl rfl rfl rfl rfl) (by rfl) (.inr ⟨by decide, by decide, hs⟩)
  | 4, ha => exact heard_of ha (raise4 t) (by decide) (marks_of rfl rfl rfl rfl rfl rfl) (by rfl) (.inr ⟨by decide, by decide, hs⟩)
  | 5, ha => exact heard_of ha (raise5 t) (by decide) (marks_of rfl rfl rfl rfl rfl rfl) (by rfl) (.inl (by decide))
theorem named_ok {t : D} (hg : good 2 t = true) : r_law_named [t] = .ok (.bool true) := by
  have n0 : (0 : Nat) ≤ sizeLine := by rw [sizeLine_eq]; omega
  have n2 : (2 : Nat) ≤ sizeLine := by rw [sizeLine_eq]; omega
  have n3 : (3 : Nat) ≤ sizeLine := by rw [sizeLine_eq]; omega
  have hs := same_refl hg
  rw [r_law_named, run31, b_law_named]
  have e : ∀ (v w : Option D), mAtC (sCons (mV 0) sNil) [some t, v, w] = .ok (t, [some t, v, w]) := fun v w => rfl
  have a1 : gAdd (.list [t, t, t]) (.list [t, t]) = .ok (.list [t, t, t, t, t]) := gAdd_l (by simp)
  rw [pSeq_nx (δ1 := [some t, some (.list [t, t, t]), none]) (by simp only [e, n3, mV, mC, vA, rA, get, gets, mU, mB, mL, lNil, lCons, eF, bool_b, mT, mTr, mNot, mAnd, mOr, eNot, eAnd, eOr, mIf, sNil, sCons, mTup, fLst, mM, pNil, pSeq, pBk, pCt, pIf, pRet, put, pSet, pEx, gN, gE, gC, gT, pAs, pPar, pFor, fComp, tmY, flo, gSub, gMul, gDiv, gMod, gPow, gNeg, gLt, gLe, gGt, gGe, gIs, gIsN, isNo, isBo, gIx, optR, oN, oS, toI, wSeq, seqOf, wZip, listAt, mApp, mPop, mPopAt, mAt, uAt, uC, mUB, mPopIn, vB, pAppIn, pPutAt, itemAt, putAt, mCall, mCallM, mCallK, mRc2, gIsi, isInt, isBool, isStr, isTup, isList, gLen, gAbs, gInt, gGcd, gMax, gMin, gTup, tru, ok_bind, no_bind, ex_bind, List.getElem?_cons_succ, List.getElem?_cons_zero, List.set_cons_succ, List.set_cons_zero, List.length_cons, List.length_nil, Nat.reduceAdd, Nat.reduceLT, Nat.reduceLeDiff, Nat.zero_add, if_true, if_pos_t, if_false_b, ite_tt, atI0, atI1, atI2, Bool.not_true, Bool.not_false, gEq_i, gNe_i, List.map_cons, List.map_nil, List.append_nil, List.nil_append, List.cons_append, List.replicate])]
  rw [pSeq_nx (δ1 := [some t, some (.list [t, t, t, t, t]), none]) (by simp only [e, n2, a1, mV, mC, vA, rA, get, gets, mU, mB, mL, lNil, lCons, eF, bool_b, mT, mTr, mNot, mAnd, mOr, eNot, eAnd, eOr, mIf, sNil, sCons, mTup, fLst, mM, pNil, pSeq, pBk, pCt, pIf, pRet, put, pSet, pEx, gN, gE, gC, gT, pAs, pPar, pFor, fComp, tmY, flo, gSub, gMul, gDiv, gMod, gPow, gNeg, gLt, gLe, gGt, gGe, gIs, gIsN, isNo, isBo, gIx, optR, oN, oS, toI, wSeq, seqOf, wZip, listAt, mApp, mPop, mPopAt, mAt, uAt, uC, mUB, mPopIn, vB, pAppIn, pPutAt, itemAt, putAt, mCall, mCallM, mCallK, mRc2, gIsi, isInt, isBool, isStr, isTup, isList, gLen, gAbs, gInt, gGcd, gMax, gMin, gTup, tru, ok_bind, no_bind, ex_bind, List.getElem?_cons_succ, List.getElem?_cons_zero, List.set_cons_succ, List.set_cons_zero, List.length_cons, List.length_nil, Nat.reduceAdd, Nat.reduceLT, Nat.reduceLeDiff, Nat.zero_add, if_true, if_pos_t, if_false_b, ite_tt, atI0, atI1, atI2, Bool.not_true, Bool.not_false, gEq_i, gNe_i, List.map_cons, List.map_nil, List.append_nil, List.nil_append, List.cons_append, List.replicate])]
  let δ0 : Dl := [some t, some (.list [t, t, t, t, t]), none]
  obtain ⟨δ', e1, rfl⟩ := compF_map (vs := [2]) (t := gN 2) (c := mNot (mTr (vA (mCall (r_law_same 3) (sCons (mV 2) (sCons (mV 0) sNil)))))) (e := mV 2) (I := fun δ => δ = δ0) (fun d => d) (fun _ => false) [t, t, t, t, t] δ0 (fun d hd δ hδ => by
    subst hδ
    obtain rfl : d = t := by simpa using hd
    exact ⟨[some d, some (.list [d, d, d, d, d]), some d], [some d, some (.list [d, d, d, d, d]), some d], rfl, same_no (show mV 2 _ = .ok (d, _) from rfl) (show mV 0 _ = .ok (d, _) from rfl) hs, fun _ => rfl, fun z => nomatch z⟩) rfl
  have w1 : wSeq (mV 1) δ0 = .ok ([t, t, t, t, t], δ0) := rfl
  have fc := fComp_of w1 (by show 5 ≤ sizeLine; rw [sizeLine_eq]; omega) e1
  have g0 := mB_of (g := gEq) (n := eF (fLst sNil)) fc (show _ = Rs.ok (PyData.list [], δ0) by simp only [if_pos n0, mV, mC, vA, rA, get, gets, mU, mB, mL, lNil, lCons, eF, bool_b, mT, mTr, mNot, mAnd, mOr, eNot, eAnd, eOr, mIf, sNil, sCons, mTup, fLst, mM, pNil, pSeq, pBk, pCt, pIf, pRet, put, pSet, pEx, gN, gE, gC, gT, pAs, pPar, pFor, fComp, tmY, flo, gSub, gMul, gDiv, gMod, gPow, gNeg, gLt, gLe, gGt, gGe, gIs, gIsN, isNo, isBo, gIx, optR, oN, oS, toI, wSeq, seqOf, wZip, listAt, mApp, mPop, mPopAt, mAt, uAt, uC, mUB, mPopIn, vB, pAppIn, pPutAt, itemAt, putAt, mCall, mCallM, mCallK, mRc2, gIsi, isInt, isBool, isStr, isTup, isList, gLen, gAbs, gInt, gGcd, gMax, gMin, gTup, tru, ok_bind, no_bind, ex_bind, List.getElem?_cons_succ, List.getElem?_cons_zero, List.set_cons_succ, List.set_cons_zero, List.length_cons, List.length_nil, Nat.reduceAdd, Nat.reduceLT, Nat.reduceLeDiff, Nat.zero_add, if_true, if_pos_t, if_false_b, ite_tt, atI0, atI1, atI2, Bool.not_true, Bool.not_false, gEq_i, gNe_i, List.map_cons, List.map_nil, List.append_nil, List.nil_append, List.cons_append, List.replicate]) (gEq_nil _)
  rw [pRet_of g0]
  rfl
theorem inner_ok {t : D} (hg : good 2 t = true) (s : D) (v1 v2 v3 v5 : Option D) : ∃ w, pSeq (pIf (mNot (mTr (vA (mCall r_law_named (sCons (mV 4) sNil))))) (pRet (mC (.bool false))) pNil)
    (pFor (wRng (sCons (mC (.int 6)) sNil)) (gN 5) (pIf (mNot (mTr (vA (mCall r_law_heard (sCons (mV 5) (sCons (mV 4) sNil)))))) (pRet (mC (.bool false))) pNil)) [some s, v1, v2, v3, some t, v5] = .ok (.nx, [some s, v1, v2, v3, some t, w]) := by
  have n1 : mNot (mTr (vA (mCall r_law_named (sCons (mV 4) sNil)))) [some s, v1, v2, v3, some t, v5] = .ok (false, [some s, v1, v2, v3, some t, v5]) := mNot_of (b := true) (mTr_of (mCall_of (ds := [t]) rfl (named_ok hg)))
  rw [pSeq_nx (δ1 := [some s, v1, v2, v3, some t, v5]) (by rw [pIf_f n1]; rfl)]
  have w1 : wRng (sCons (mC (.int 6)) sNil) [some s, v1, v2, v3, some t, v5] = .ok ((List.range 6).map fun i => .int (i : Nat), [some s, v1, v2, v3, some t, v5]) := wRng_of (j := 6) rfl (by decide) (by decide)
  obtain ⟨δ1, e, w, rfl⟩ := pFor_ok (t := gN 5) (m := pIf (mNot (mTr (vA (mCall r_law_heard (sCons (mV 5) (sCons (mV 4) sNil)))))) (pRet (mC (.bool false))) pNil) (I := fun δ => ∃ w, δ = [some s, v1, v2, v3, some t, w]) w1 (fun d hd δ ⟨w, hδ⟩ => by
    subst hδ
    obtain ⟨i, hi, rfl⟩ := List.mem_map.mp hd
    refine ⟨[some s, v1, v2, v3, some t, some (.int (i : Nat))], rfl, (.nx, [some s, v1, v2, v3, some t, some (.int (i : Nat))]), ?_, .inl rfl, _, rfl⟩
    rw [pIf_f (δ1 := [some s, v1, v2, v3, some t, some (.int (i : Nat))]) (mNot_of (b := true) (mTr_of (mCall_of (ds := [.int (i : Nat), t]) rfl (heard_ok hg i (List.mem_range.mp hi)))))]
    rfl) ⟨v5, rfl⟩
  exact ⟨w, e⟩
def thingsA (c : Int) : List D := [.int (c.fmod 1000000007), .int (0 - c.fmod 97), .str (toString (c.fmod 1000)), .none, .tuple [.int (c.fmod 7), .str "a"], .bool true]
theorem good_things {c : Int} : ∀ t ∈ thingsA c, good 2 t = true := fun t ht => by
  unfold thingsA at ht
  simp only [List.mem_cons, List.not_mem_nil, or_false] at ht
  rcases ht with rfl | rfl | rfl | rfl | rfl | rfl <;> simp [good]
theorem cell_ok (c : Int) (s : D) (v1 v3 v4 v5 : Option D) : ∃ w3 w4 w5, pSeq (pSet 3 (eF (fLst (sCons (mB gMod (vA (mL gInt (lCons (vA (mV 2)) lNil))) (vA (mC (.int 1000000007)))) (sCons (mB gSub (vA (mC (.int 0))) (vA (mB gMod (vA (mL gInt (lCons (vA (mV 2)) lNil))) (vA (mC (.int 97)))))) (sCons (mL gStr (lCons (vA (mB gMod (vA (mL gInt (lCons (vA (mV 2)) lNil))) (vA (mC (.int 1000))))) lNil)) (sCons (mC .none) (sCons (mTup (sCons (mB gMod (vA (mL gInt (lCons (vA (mV 2)) lNil))) (vA (mC (.int 7)))) (sCons (mC (.str "a")) sNil))) (sCons (mC (.bool true)) sNil)))))))))
    (pFor (wSeq (mV 3)) (gN 4) (pSeq (pIf (mNot (mTr (vA (mCall r_law_named (sCons (mV 4) sNil))))) (pRet (mC (.bool false))) pNil)
    (pFor (wRng (sCons (mC (.int 6)) sNil)) (gN 5) (pIf (mNot (mTr (vA (mCall r_law_heard (sCons (mV 5) (sCons (mV 4) sNil)))))) (pRet (mC (.bool false))) pNil)))) [some s, v1, some (.int c), v3, v4, v5] = .ok (.nx, [some s, v1, some (.int c), w3, w4, w5]) := by
  have n6 : (6 : Nat) ≤ sizeLine := by rw [sizeLine_eq]; omega
  have n2 : (2 : Nat) ≤ sizeLine := by rw [sizeLine_eq]; omega
  have b0 : 0 ≤ c.fmod 1000 := Int.fmod_nonneg_of_pos c (by decide)
  have b1 : c.fmod 1000 < 1000 := Int.fmod_lt_of_pos c (by decide)
  have lg : (c.fmod 1000).natAbs.log2 < 1920 := by
    by_cases h : (c.fmod 1000).natAbs = 0
    · rw [h]; decide
    · exact (Nat.log2_lt h).mpr (Nat.lt_of_lt_of_le (show (c.fmod 1000).natAbs < 2 ^ 10 by omega) (Nat.pow_le_pow_right (by decide) (by decide)))
  rw [pSeq_nx (δ1 := [some s, v1, some (.int c), some (.list (thingsA c)), v4, v5]) (by simp [thingsA, n6, n2, lg, gStr, mV, mC, vA, rA, get, gets, mU, mB, mL, lNil, lCons, eF, bool_b, mT, mTr, mNot, mAnd, mOr, eNot, eAnd, eOr, mIf, sNil, sCons, mTup, fLst, mM, pNil, pSeq, pBk, pCt, pIf, pRet, put, pSet, pEx, gN, gE, gC, gT, pAs, pPar, pFor, fComp, tmY, flo, gAdd, gSub, gMul, gDiv, gMod, gPow, gNeg, gLt, gLe, gGt, gGe, gIs, gIsN, isNo, isBo, gIx, optR, oN, oS, toI, wSeq, seqOf, wZip, listAt, mApp, mPop, mPopAt, mAt, uAt, uC, mUB, mPopIn, vB, pAppIn, pPutAt, itemAt, putAt, mCall, mCallM, mCallK, mRc2, gIsi, isInt, isBool, isStr, isTup, isList, gLen, gAbs, gInt, gGcd, gMax, gMin, gTup, tru, ok_bind, no_bind, ex_bind, List.getElem?_cons_succ, List.getElem?_cons_zero, List.set_cons_succ, List.set_cons_zero, List.length_cons, List.length_nil, Nat.reduceAdd, Nat.reduceLT, Nat.reduceLeDiff, Nat.zero_add, if_true, if_pos_t, if_false_b, ite_tt, atI0, atI1, atI2, Bool.not_true, Bool.not_false, gEq_i, gNe_i, List.map_cons, List.map_nil, List.append_nil, List.nil_append, List.cons_append, List.replicate])]
  obtain ⟨δ1, e, w3, w4, w5, rfl⟩ := pFor_ok (t := gN 4) (m := pSeq (pIf (mNot (mTr (vA (mCall r_law_named (sCons (mV 4) sNil))))) (pRet (mC (.bool false))) pNil)
    (pFor (wRng (sCons (mC (.int 6)) sNil)) (gN 5) (pIf (mNot (mTr (vA (mCall r_law_heard (sCons (mV 5) (sCons (mV 4) sNil)))))) (pRet (mC (.bool false))) pNil))) (I := fun δ => ∃ w3 w4 w5, δ = [some s, v1, some (.int c), w3, w4, w5])
    (show wSeq (mV 3) [some s, v1, some (.int c), some (.list (thingsA c)), v4, v5] = .ok (thingsA c, [some s, v1, some (.int c), some (.list (thingsA c)), v4, v5]) from rfl) (fun d hd δ ⟨w3, w4, w5, hδ⟩ => by
    subst hδ
    obtain ⟨w, e⟩ := inner_ok (good_things d hd) s v1 (some (.int c)) w3 w5
    exact ⟨_, rfl, _, e, .inl rfl, _, _, _, rfl⟩) ⟨_, _, _, rfl⟩
  exact ⟨w3, w4, w5, e⟩
theorem law_holds : ∀ ns : List Int, ns.length ≤ 63 → r_law [.list (ns.map .int)] = .ok (.bool true) := by
  intro ns hn
  show (b_law [some (.list (ns.map .int)), none, none, none, none, none] >>= fun r => flo .im r.1) = _
  let s : D := .list (ns.map .int)
  have ex : ∃ j : Int, mL gMax (lCons (vA (mC (.int 1))) (lCons (vA (mL gMin (lCons (vA (mC (.int 4))) (lCons (vA (mL gLen (lCons (vA (mV 0)) lNil))) lNil)))) lNil)) [some s, none, none, none, none, none] = .ok (.int j, [some s, none, none, none, none, none]) ∧ 0 ≤ j ∧ j ≤ 1000000 := by
    refine ⟨if (if (((ns.map PyData.int).length : Nat) : Int) < 4 then (((ns.map PyData.int).length : Nat) : Int) else 4) > 1 then (if (((ns.map PyData.int).length : Nat) : Int) < 4 then (((ns.map PyData.int).length : Nat) : Int) else 4) else 1, rfl, ?_, ?_⟩
    · split <;> (try split) <;> omega
    · split <;> (try split) <;> omega
  obtain ⟨j, ej, j0, j1⟩ := ex
  have w1 : wRng (sCons (mL gMax (lCons (vA (mC (.int 1))) (lCons (vA (mL gMin (lCons (vA (mC (.int 4))) (lCons (vA (mL gLen (lCons (vA (mV 0)) lNil))) lNil)))) lNil))) sNil) [some s, none, none, none, none, none] = .ok ((List.range j.toNat).map fun i => .int (i : Nat), [some s, none, none, none, none, none]) := wRng_of (sCons_of ej rfl) j0 j1
  rw [b_law]
  obtain ⟨δ1, e, v1, v2, v3, v4, v5, rfl⟩ := pFor_ok (t := gN 1) (m := pSeq (pSet 2 (mIf (mT (mB gLt (vA (mV 1)) (vA (mL gLen (lCons (vA (mV 0)) lNil))))) (mB gIx (vA (mV 0)) (vA (mV 1))) (mC (.int 0))))
    (pSeq (pSet 3 (eF (fLst (sCons (mB gMod (vA (mL gInt (lCons (vA (mV 2)) lNil))) (vA (mC (.int 1000000007)))) (sCons (mB gSub (vA (mC (.int 0))) (vA (mB gMod (vA (mL gInt (lCons (vA (mV 2)) lNil))) (vA (mC (.int 97)))))) (sCons (mL gStr (lCons (vA (mB gMod (vA (mL gInt (lCons (vA (mV 2)) lNil))) (vA (mC (.int 1000))))) lNil)) (sCons (mC .none) (sCons (mTup (sCons (mB gMod (vA (mL gInt (lCons (vA (mV 2)) lNil))) (vA (mC (.int 7)))) (sCons (mC (.str "a")) sNil))) (sCons (mC (.bool true)) sNil)))))))))
    (pFor (wSeq (mV 3)) (gN 4) (pSeq (pIf (mNot (mTr (vA (mCall r_law_named (sCons (mV 4) sNil))))) (pRet (mC (.bool false))) pNil)
    (pFor (wRng (sCons (mC (.int 6)) sNil)) (gN 5) (pIf (mNot (mTr (vA (mCall r_law_heard (sCons (mV 5) (sCons (mV 4) sNil)))))) (pRet (mC (.bool false))) pNil)))))) (I := fun δ => ∃ v1 v2 v3 v4 v5, δ = [some s, v1, v2, v3, v4, v5]) w1 (fun d hd δ ⟨v1, v2, v3, v4, v5, hδ⟩ => by
    subst hδ
    obtain ⟨k, hk, rfl⟩ := List.mem_map.mp hd
    have ec : ∃ c : Int, mIf (mT (mB gLt (vA (mV 1)) (vA (mL gLen (lCons (vA (mV 0)) lNil))))) (mB gIx (vA (mV 0)) (vA (mV 1))) (mC (.int 0)) [some s, some (.int (k : Nat)), v2, v3, v4, v5] = .ok (.int c, [some s, some (.int (k : Nat)), v2, v3, v4, v5]) := by
      have t1 : mT (mB gLt (vA (mV 1)) (vA (mL gLen (lCons (vA (mV 0)) lNil)))) [some s, some (.int (k : Nat)), v2, v3, v4, v5] = .ok (decide ((k : Int) < ((ns.map PyData.int).length : Nat)), [some s, some (.int (k : Nat)), v2, v3, v4, v5]) := rfl
      by_cases h : k < ns.length
      · have e1 : decide ((k : Int) < ((ns.map PyData.int).length : Nat)) = true := decide_eq_true (by rw [List.length_map]; omega)
        rw [e1] at t1
        refine ⟨ns[k], ?_⟩
        unfold mIf
        rw [t1, ok_bind]
        exact mB_of (d := s) (e := .int (k : Nat)) rfl rfl (gIx_l (atI_nat (by rw [List.getElem?_map, List.getElem?_eq_getElem h]; rfl)))
      · have e1 : decide ((k : Int) < ((ns.map PyData.int).length : Nat)) = false := decide_eq_false (by rw [List.length_map]; omega)
        rw [e1] at t1
        refine ⟨0, ?_⟩
        unfold mIf
        rw [t1, ok_bind]
        rfl
    obtain ⟨c, ec⟩ := ec
    obtain ⟨w3, w4, w5, e2⟩ := cell_ok c s (some (.int (k : Nat))) v3 v4 v5
    refine ⟨[some s, some (.int (k : Nat)), v2, v3, v4, v5], rfl, (.nx, [some s, some (.int (k : Nat)), some (.int c), w3, w4, w5]), ?_, .inl rfl, _, _, _, _, _, rfl⟩
    rw [pSeq_nx (δ1 := [some s, some (.int (k : Nat)), some (.int c), v3, v4, v5]) (by unfold pSet; rw [ec]; rfl)]
    exact e2) ⟨_, _, _, _, _, rfl⟩
  rw [pSeq_nx e]
  rfl
end Zd
namespace Zd
open PySem PySem.Spec
open PyProof.Rows L2
theorem all_mk {w : World} {K : PySem.W.Frag} {h : Heap} {mg : Str → Option Value} {cls : Cl} {fa : Addr} (X : K.In h) (G : h.Ns mainGlobals mg) (hfa : mg "law" = some (.ref fa))  {C_InvalidModule fi_InvalidModule N_InvalidModule cda_InvalidModule cc_InvalidModule B_InvalidModule_0 : Addr} {nm_InvalidModule q_InvalidModule file_InvalidModule : Str} {bs_InvalidModule sub_InvalidModule : List Value} {sn_InvalidModule : List Str} {ab_InvalidModule : Bool} {col_InvalidModule : Option Bool} {dd_InvalidModule od_InvalidModule an_InvalidModule cld_InvalidModule cdd_InvalidModule : Option Addr} {k0_InvalidModule k1_InvalidModule k2_InvalidModule k3_InvalidModule k5_InvalidModule : Option Value} {oc_InvalidModule kV_InvalidModule doc_InvalidModule pm_InvalidModule ct_InvalidModule cl_InvalidModule ccl_InvalidModule : Value} {osl_InvalidModule csl_InvalidModule ccs_InvalidModule : Array (Option Value)} {vs_InvalidModule : Array Value} {tf_InvalidModule : Tok} {C_InvalidProject fi_InvalidProject N_InvalidProject cda_InvalidProject cc_InvalidProject B_InvalidProject_0 : Addr} {nm_InvalidProject q_InvalidProject file_InvalidProject : Str} {bs_InvalidProject sub_InvalidProject : List Value} {sn_InvalidProject : List Str} {ab_InvalidProject : Bool} {col_InvalidProject : Option Bool} {dd_InvalidProject od_InvalidProject an_InvalidProject cld_InvalidProject cdd_InvalidProject : Option Addr} {k0_InvalidProject k1_InvalidProject k2_InvalidProject k3_InvalidProject k5_InvalidProject : Option Value} {oc_InvalidProject kV_InvalidProject doc_InvalidProject pm_InvalidProject ct_InvalidProject cl_InvalidProject ccl_InvalidProject : Value} {osl_InvalidProject csl_InvalidProject ccs_InvalidProject : Array (Option Value)} {vs_InvalidProject : Array Value} {tf_InvalidProject : Tok} {C_InvalidQuestion fi_InvalidQuestion N_InvalidQuestion cda_InvalidQuestion cc_InvalidQuestion B_InvalidQuestion_0 : Addr} {nm_InvalidQuestion q_InvalidQuestion file_InvalidQuestion : Str} {bs_InvalidQuestion sub_InvalidQuestion : List Value} {sn_InvalidQuestion : List Str} {ab_InvalidQuestion : Bool} {col_InvalidQuestion : Option Bool} {dd_InvalidQuestion od_InvalidQuestion an_InvalidQuestion cld_InvalidQuestion cdd_InvalidQuestion : Option Addr} {k0_InvalidQuestion k1_InvalidQuestion k2_InvalidQuestion k3_InvalidQuestion k5_InvalidQuestion : Option Value} {oc_InvalidQuestion kV_InvalidQuestion doc_InvalidQuestion pm_InvalidQuestion ct_InvalidQuestion cl_InvalidQuestion ccl_InvalidQuestion : Value} {osl_InvalidQuestion csl_InvalidQuestion ccs_InvalidQuestion : Array (Option Value)} {vs_InvalidQuestion : Array Value} {tf_InvalidQuestion : Tok} {C_InvalidText fi_InvalidText N_InvalidText cda_InvalidText cc_InvalidText B_InvalidText_0 : Addr} {nm_InvalidText q_InvalidText file_InvalidText : Str} {bs_InvalidText sub_InvalidText : List Value} {sn_InvalidText : List Str} {ab_InvalidText : Bool} {col_InvalidText : Option Bool} {dd_InvalidText od_InvalidText an_InvalidText cld_InvalidText cdd_InvalidText : Option Addr} {k0_InvalidText k1_InvalidText k2_InvalidText k3_InvalidText k5_InvalidText : Option Value} {oc_InvalidText kV_InvalidText doc_InvalidText pm_InvalidText ct_InvalidText cl_InvalidText ccl_InvalidText : Value} {osl_InvalidText csl_InvalidText ccs_InvalidText : Array (Option Value)} {vs_InvalidText : Array Value} {tf_InvalidText : Tok} {C_Refused fi_Refused N_Refused cda_Refused cc_Refused B_Refused_0 : Addr} {nm_Refused q_Refused file_Refused : Str} {bs_Refused sub_Refused : List Value} {sn_Refused : List Str} {ab_Refused : Bool} {col_Refused : Option Bool} {dd_Refused od_Refused an_Refused cld_Refused cdd_Refused : Option Addr} {k0_Refused k1_Refused k2_Refused k3_Refused k5_Refused : Option Value} {oc_Refused kV_Refused doc_Refused pm_Refused ct_Refused cl_Refused ccl_Refused : Value} {osl_Refused csl_Refused ccs_Refused : Array (Option Value)} {vs_Refused : Array Value} {tf_Refused : Tok} {C_InvalidCommand fi_InvalidCommand N_InvalidCommand cda_InvalidCommand cc_InvalidCommand B_InvalidCommand_0 : Addr} {nm_InvalidCommand q_InvalidCommand file_InvalidCommand : Str} {bs_InvalidCommand sub_InvalidCommand : List Value} {sn_InvalidCommand : List Str} {ab_InvalidCommand : Bool} {col_InvalidCommand : Option Bool} {dd_InvalidCommand od_InvalidCommand an_InvalidCommand cld_InvalidCommand cdd_InvalidCommand : Option Addr} {k0_InvalidCommand k1_InvalidCommand k2_InvalidCommand k3_InvalidCommand k5_InvalidCommand : Option Value} {oc_InvalidCommand kV_InvalidCommand doc_InvalidCommand pm_InvalidCommand ct_InvalidCommand cl_InvalidCommand ccl_InvalidCommand : Value} {osl_InvalidCommand csl_InvalidCommand ccs_InvalidCommand : Array (Option Value)} {vs_InvalidCommand : Array Value} {tf_InvalidCommand : Tok} {B_SameError : Addr} {f_law_same f_law_marks f_law_raise f_law_heard f_law_named f_law : Addr} {od_law_same an_law_same od_law_marks an_law_marks od_law_raise an_law_raise od_law_heard an_law_heard od_law_named an_law_named od_law an_law : Option Addr} {oc_law_same kV_law_same dc_law_same pm_law_same cd_law_same ct_law_same oc_law_marks kV_law_marks dc_law_marks pm_law_marks cd_law_marks ct_law_marks oc_law_raise kV_law_raise dc_law_raise pm_law_raise cd_law_raise ct_law_raise oc_law_heard kV_law_heard dc_law_heard pm_law_heard cd_law_heard ct_law_heard oc_law_named kV_law_named dc_law_named pm_law_named cd_law_named ct_law_named oc_law kV_law dc_law pm_law cd_law ct_law : Value} {sl_law_same sl_law_marks sl_law_raise sl_law_heard sl_law_named sl_law : Array (Option Value)}
    (a_law_same : PySem.W.nsIn K mainGlobals "_law_same" = some (some (.ref f_law_same))) (l_law_same : K.lookup f_law_same = some ⟨oc_law_same, od_law_same, .func (PySem.W.fnOf "_law_same" "_law_same" (defArgs s_law_same) (defBody s_law_same) (defScope s_law_same) .none kV_law_same dc_law_same pm_law_same an_law_same cd_law_same ct_law_same), sl_law_same⟩) (c_law_same : PySem.W.codeIn K cd_law_same "_law_same" = true) (k_law_same : PySem.W.keepIn K (.ref f_law_same) = true)
    (a_law_marks : PySem.W.nsIn K mainGlobals "_law_marks" = some (some (.ref f_law_marks))) (l_law_marks : K.lookup f_law_marks = some ⟨oc_law_marks, od_law_marks, .func (PySem.W.fnOf "_law_marks" "_law_marks" (defArgs s_law_marks) (defBody s_law_marks) (defScope s_law_marks) .none kV_law_marks dc_law_marks pm_law_marks an_law_marks cd_law_marks ct_law_marks), sl_law_marks⟩) (c_law_marks : PySem.W.codeIn K cd_law_marks "_law_marks" = true) (k_law_marks : PySem.W.keepIn K (.ref f_law_marks) = true)
    (a_law_raise : PySem.W.nsIn K mainGlobals "_law_raise" = some (some (.ref f_law_raise))) (l_law_raise : K.lookup f_law_raise = some ⟨oc_law_raise, od_law_raise, .func (PySem.W.fnOf "_law_raise" "_law_raise" (defArgs s_law_raise) (defBody s_law_raise) (defScope s_law_raise) .none kV_law_raise dc_law_raise pm_law_raise an_law_raise cd_law_raise ct_law_raise), sl_law_raise⟩) (c_law_raise : PySem.W.codeIn K cd_law_raise "_law_raise" = true) (k_law_raise : PySem.W.keepIn K (.ref f_law_raise) = true)
    (a_law_heard : PySem.W.nsIn K mainGlobals "_law_heard" = some (some (.ref f_law_heard))) (l_law_heard : K.lookup f_law_heard = some ⟨oc_law_heard, od_law_heard, .func (PySem.W.fnOf "_law_heard" "_law_heard" (defArgs s_law_heard) (defBody s_law_heard) (defScope s_law_heard) .none kV_law_heard dc_law_heard pm_law_heard an_law_heard cd_law_heard ct_law_heard), sl_law_heard⟩) (c_law_heard : PySem.W.codeIn K cd_law_heard "_law_heard" = true) (k_law_heard : PySem.W.keepIn K (.ref f_law_heard) = true)
    (a_law_named : PySem.W.nsIn K mainGlobals "_law_named" = some (some (.ref f_law_named))) (l_law_named : K.lookup f_law_named = some ⟨oc_law_named, od_law_named, .func (PySem.W.fnOf "_law_named" "_law_named" (defArgs s_law_named) (defBody s_law_named) (defScope s_law_named) .none kV_law_named dc_law_named pm_law_named an_law_named cd_law_named ct_law_named), sl_law_named⟩) (c_law_named : PySem.W.codeIn K cd_law_named "_law_named" = true) (k_law_named : PySem.W.keepIn K (.ref f_law_named) = true)
    (a_law : PySem.W.nsIn K mainGlobals "law" = some (some (.ref f_law))) (l_law : K.lookup f_law = some ⟨oc_law, od_law, .func (PySem.W.fnOf "law" "law" (defArgs s_law) (defBody s_law) (defScope s_law) .none kV_law dc_law pm_law an_law cd_law ct_law), sl_law⟩) (c_law : PySem.W.codeIn K cd_law "law" = true) (k_law : PySem.W.keepIn K (.ref f_law) = true)
    (z_ValueError : PySem.W.nsIn K mainGlobals "ValueError" = some none)
    (z_bool : PySem.W.nsIn K mainGlobals "bool" = some none)
    (z_int : PySem.W.nsIn K mainGlobals "int" = some none)
    (z_isinstance : PySem.W.nsIn K mainGlobals "isinstance" = some none)
    (z_len : PySem.W.nsIn K mainGlobals "len" = some none)
    (z_max : PySem.W.nsIn K mainGlobals "max" = some none)
    (z_min : PySem.W.nsIn K mainGlobals "min" = some none)
    (z_range : PySem.W.nsIn K mainGlobals "range" = some none)
    (z_str : PySem.W.nsIn K mainGlobals "str" = some none)
    (z_tuple : PySem.W.nsIn K mainGlobals "tuple" = some none)
    (z_zip : PySem.W.nsIn K mainGlobals "zip" = some none)
    (ea_InvalidModule : PySem.W.nsIn K mainGlobals "InvalidModule" = some (some (.ref C_InvalidModule)))
    (eL_InvalidModule : K.lookup C_InvalidModule = some (excClassObj nm_InvalidModule q_InvalidModule C_InvalidModule N_InvalidModule bs_InvalidModule [.ref B_InvalidModule_0, .type "ValueError", .type "Exception", .type "BaseException", .type "object"] true sn_InvalidModule sub_InvalidModule ab_InvalidModule col_InvalidModule dd_InvalidModule k0_InvalidModule k1_InvalidModule k2_InvalidModule k3_InvalidModule k5_InvalidModule "ValueError.__new__"))
    (e1_InvalidModule : PySem.W.findIn K (.ref C_InvalidModule) "__setattr__" = some (some (.builtin "object.__setattr__")))
    (e2_InvalidModule : PySem.W.subIn K (.ref C_InvalidModule) (.type "BaseException") = some true)
    (e3_InvalidModule : PySem.W.typeIn K (.ref C_InvalidModule) = some (.type "type"))
    (e4_InvalidModule : PySem.W.keepIn K (.ref C_InvalidModule) = true)
    (e5_InvalidModule : K.lookup fi_InvalidModule = some ⟨oc_InvalidModule, od_InvalidModule, .func (PySem.W.fnX "__init__" "InvalidModule.__init__" (iniA ⟨6, 17, 6, 21⟩ ⟨6, 23, 6, 25⟩) (iniB "invalid module" ⟨7, 8, 7, 13⟩ ⟨7, 8, 7, 15⟩ ⟨7, 8, 7, 24⟩ ⟨7, 25, 7, 41⟩ ⟨7, 8, 7, 42⟩ ⟨7, 8, 7, 42⟩ ⟨8, 8, 8, 12⟩ ⟨8, 8, 8, 15⟩ ⟨8, 18, 8, 20⟩ ⟨8, 8, 8, 20⟩) iniS [("__class__", cc_InvalidModule)] .none kV_InvalidModule doc_InvalidModule pm_InvalidModule an_InvalidModule (.ref cda_InvalidModule) ct_InvalidModule), osl_InvalidModule⟩)
    (e6_InvalidModule : PySem.W.codeIn K (.ref cda_InvalidModule) "InvalidModule.__init__" = true)
    (e7_InvalidModule : K.lookup cc_InvalidModule = some ⟨cl_InvalidModule, cld_InvalidModule, .cell (some (.ref C_InvalidModule)), csl_InvalidModule⟩)
    (e8_InvalidModule : K.lookup cda_InvalidModule = some ⟨ccl_InvalidModule, cdd_InvalidModule, .fields vs_InvalidModule, ccs_InvalidModule⟩)
    (e9_InvalidModule : vs_InvalidModule[2]? = some (.str file_InvalidModule tf_InvalidModule))
    (e10_InvalidModule : ((PySem.Challenge.pw_samebehind_k00_errors_and_what_they_keep.main.file : Str) == file_InvalidModule) = true)
    (e11_InvalidModule : PySem.W.mroIn K C_InvalidModule (.ref C_InvalidModule) = some true)
    (e12_InvalidModule : PySem.W.nsIn K mainGlobals "super" = some none)
    (e13_InvalidModule : PySem.W.nsIn K PySem.cStatics "thirdparty.any" = some none)
    (e14_InvalidModule : PySem.W.ks_superIn K C_InvalidModule C_InvalidModule "__init__" = some (some (.builtin "ValueError.__init__")))
    (e15_InvalidModule : PySem.W.subIn K (.ref C_InvalidModule) (.type "ValueError") = some true)
    (e16_InvalidModule : PySem.W.findIn K (.ref C_InvalidModule) "at" = some none)
    (e17_InvalidModule : PySem.W.findIn K (.ref C_InvalidModule) "__init__" = some (some (.ref fi_InvalidModule)))
    (e18_InvalidModule : PySem.W.typeIn K (.ref fi_InvalidModule) = some (.type "function"))
    (e19_InvalidModule : (PySem.Challenge.pw_samebehind_k00_errors_and_what_they_keep.main.scope.names.lookup ("super" : Str)).isSome = false)
    (e20_InvalidModule : xfB K C_InvalidModule = true)
    (ea_InvalidProject : PySem.W.nsIn K mainGlobals "InvalidProject" = some (some (.ref C_InvalidProject)))
    (eL_InvalidProject : K.lookup C_InvalidProject = some (excClassObj nm_InvalidProject q_InvalidProject C_InvalidProject N_InvalidProject bs_InvalidProject [.ref B_InvalidProject_0, .type "ValueError", .type "Exception", .type "BaseException", .type "object"] true sn_InvalidProject sub_InvalidProject ab_InvalidProject col_InvalidProject dd_InvalidProject k0_InvalidProject k1_InvalidProject k2_InvalidProject k3_InvalidProject k5_InvalidProject "ValueError.__new__"))
    (e1_InvalidProject : PySem.W.findIn K (.ref C_InvalidProject) "__setattr__" = some (some (.builtin "object.__setattr__")))
    (e2_InvalidProject : PySem.W.subIn K (.ref C_InvalidProject) (.type "BaseException") = some true)
    (e3_InvalidProject : PySem.W.typeIn K (.ref C_InvalidProject) = some (.type "type"))
    (e4_InvalidProject : PySem.W.keepIn K (.ref C_InvalidProject) = true)
    (e5_InvalidProject : K.lookup fi_InvalidProject = some ⟨oc_InvalidProject, od_InvalidProject, .func (PySem.W.fnX "__init__" "InvalidProject.__init__" (iniA ⟨16, 17, 16, 21⟩ ⟨16, 23, 16, 25⟩) (iniB "invalid project" ⟨17, 8, 17, 13⟩ ⟨17, 8, 17, 15⟩ ⟨17, 8, 17, 24⟩ ⟨17, 25, 17, 42⟩ ⟨17, 8, 17, 43⟩ ⟨17, 8, 17, 43⟩ ⟨18, 8, 18, 12⟩ ⟨18, 8, 18, 15⟩ ⟨18, 18, 18, 20⟩ ⟨18, 8, 18, 20⟩) iniS [("__class__", cc_InvalidProject)] .none kV_InvalidProject doc_InvalidProject pm_InvalidProject an_InvalidProject (.ref cda_InvalidProject) ct_InvalidProject), osl_InvalidProject⟩)
    (e6_InvalidProject : PySem.W.codeIn K (.ref cda_InvalidProject) "InvalidProject.__init__" = true)
    (e7_InvalidProject : K.lookup cc_InvalidProject = some ⟨cl_InvalidProject, cld_InvalidProject, .cell (some (.ref C_InvalidProject)), csl_InvalidProject⟩)
    (e8_InvalidProject : K.lookup cda_InvalidProject = some ⟨ccl_InvalidProject, cdd_InvalidProject, .fields vs_InvalidProject, ccs_InvalidProject⟩)
    (e9_InvalidProject : vs_InvalidProject[2]? = some (.str file_InvalidProject tf_InvalidProject))
    (e10_InvalidProject : ((PySem.Challenge.pw_samebehind_k00_errors_and_what_they_keep.main.file : Str) == file_InvalidProject) = true)
    (e11_InvalidProject : PySem.W.mroIn K C_InvalidProject (.ref C_InvalidProject) = some true)
    (e12_InvalidProject : PySem.W.nsIn K mainGlobals "super" = some none)
    (e13_InvalidProject : PySem.W.nsIn K PySem.cStatics "thirdparty.any" = some none)
    (e14_InvalidProject : PySem.W.ks_superIn K C_InvalidProject C_InvalidProject "__init__" = some (some (.builtin "ValueError.__init__")))
    (e15_InvalidProject : PySem.W.subIn K (.ref C_InvalidProject) (.type "ValueError") = some true)
    (e16_InvalidProject : PySem.W.findIn K (.ref C_InvalidProject) "at" = some none)
    (e17_InvalidProject : PySem.W.findIn K (.ref C_InvalidProject) "__init__" = some (some (.ref fi_InvalidProject)))
    (e18_InvalidProject : PySem.W.typeIn K (.ref fi_InvalidProject) = some (.type "function"))
    (e19_InvalidProject : (PySem.Challenge.pw_samebehind_k00_errors_and_what_they_keep.main.scope.names.lookup ("super" : Str)).isSome = false)
    (e20_InvalidProject : xfB K C_InvalidProject = true)
    (ea_InvalidQuestion : PySem.W.nsIn K mainGlobals "InvalidQuestion" = some (some (.ref C_InvalidQuestion)))
    (eL_InvalidQuestion : K.lookup C_InvalidQuestion = some (excClassObj nm_InvalidQuestion q_InvalidQuestion C_InvalidQuestion N_InvalidQuestion bs_InvalidQuestion [.ref B_InvalidQuestion_0, .type "ValueError", .type "Exception", .type "BaseException", .type "object"] true sn_InvalidQuestion sub_InvalidQuestion ab_InvalidQuestion col_InvalidQuestion dd_InvalidQuestion k0_InvalidQuestion k1_InvalidQuestion k2_InvalidQuestion k3_InvalidQuestion k5_InvalidQuestion "ValueError.__new__"))
    (e1_InvalidQuestion : PySem.W.findIn K (.ref C_InvalidQuestion) "__setattr__" = some (some (.builtin "object.__setattr__")))
    (e2_InvalidQuestion : PySem.W.subIn K (.ref C_InvalidQuestion) (.type "BaseException") = some true)
    (e3_InvalidQuestion : PySem.W.typeIn K (.ref C_InvalidQuestion) = some (.type "type"))
    (e4_InvalidQuestion : PySem.W.keepIn K (.ref C_InvalidQuestion) = true)
    (e5_InvalidQuestion : K.lookup fi_InvalidQuestion = some ⟨oc_InvalidQuestion, od_InvalidQuestion, .func (PySem.W.fnX "__init__" "InvalidQuestion.__init__" (iniA ⟨21, 17, 21, 21⟩ ⟨21, 23, 21, 25⟩) (iniB "invalid question" ⟨22, 8, 22, 13⟩ ⟨22, 8, 22, 15⟩ ⟨22, 8, 22, 24⟩ ⟨22, 25, 22, 43⟩ ⟨22, 8, 22, 44⟩ ⟨22, 8, 22, 44⟩ ⟨23, 8, 23, 12⟩ ⟨23, 8, 23, 15⟩ ⟨23, 18, 23, 20⟩ ⟨23, 8, 23, 20⟩) iniS [("__class__", cc_InvalidQuestion)] .none kV_InvalidQuestion doc_InvalidQuestion pm_InvalidQuestion an_InvalidQuestion (.ref cda_InvalidQuestion) ct_InvalidQuestion), osl_InvalidQuestion⟩)
    (e6_InvalidQuestion : PySem.W.codeIn K (.ref cda_InvalidQuestion) "InvalidQuestion.__init__" = true)
    (e7_InvalidQuestion : K.lookup cc_InvalidQuestion = some ⟨cl_InvalidQuestion, cld_InvalidQuestion, .cell (some (.ref C_InvalidQuestion)), csl_InvalidQuestion⟩)
    (e8_InvalidQuestion : K.lookup cda_InvalidQuestion = some ⟨ccl_InvalidQuestion, cdd_InvalidQuestion, .fields vs_InvalidQuestion, ccs_InvalidQuestion⟩)
    (e9_InvalidQuestion : vs_InvalidQuestion[2]? = some (.str file_InvalidQuestion tf_InvalidQuestion))
    (e10_InvalidQuestion : ((PySem.Challenge.pw_samebehind_k00_errors_and_what_they_keep.main.file : Str) == file_InvalidQuestion) = true)
    (e11_InvalidQuestion : PySem.W.mroIn K C_InvalidQuestion (.ref C_InvalidQuestion) = some true)
    (e12_InvalidQuestion : PySem.W.nsIn K mainGlobals "super" = some none)
    (e13_InvalidQuestion : PySem.W.nsIn K PySem.cStatics "thirdparty.any" = some none)
    (e14_InvalidQuestion : PySem.W.ks_superIn K C_InvalidQuestion C_InvalidQuestion "__init__" = some (some (.builtin "ValueError.__init__")))
    (e15_InvalidQuestion : PySem.W.subIn K (.ref C_InvalidQuestion) (.type "ValueError") = some true)
    (e16_InvalidQuestion : PySem.W.findIn K (.ref C_InvalidQuestion) "at" = some none)
    (e17_InvalidQuestion : PySem.W.findIn K (.ref C_InvalidQuestion) "__init__" = some (some (.ref fi_InvalidQuestion)))
    (e18_InvalidQuestion : PySem.W.typeIn K (.ref fi_InvalidQuestion) = some (.type "function"))
    (e19_InvalidQuestion : (PySem.Challenge.pw_samebehind_k00_errors_and_what_they_keep.main.scope.names.lookup ("super" : Str)).isSome = false)
    (e20_InvalidQuestion : xfB K C_InvalidQuestion = true)
    (ea_InvalidText : PySem.W.nsIn K mainGlobals "InvalidText" = some (some (.ref C_InvalidText)))
    (eL_InvalidText : K.lookup C_InvalidText = some (excClassObj nm_InvalidText q_InvalidText C_InvalidText N_InvalidText bs_InvalidText [.ref B_InvalidText_0, .type "ValueError", .type "Exception", .type "BaseException", .type "object"] true sn_InvalidText sub_InvalidText ab_InvalidText col_InvalidText dd_InvalidText k0_InvalidText k1_InvalidText k2_InvalidText k3_InvalidText k5_InvalidText "ValueError.__new__"))
    (e1_InvalidText : PySem.W.findIn K (.ref C_InvalidText) "__setattr__" = some (some (.builtin "object.__setattr__")))
    (e2_InvalidText : PySem.W.subIn K (.ref C_InvalidText) (.type "BaseException") = some true)
    (e3_InvalidText : PySem.W.typeIn K (.ref C_InvalidText) = some (.type "type"))
    (e4_InvalidText : PySem.W.keepIn K (.ref C_InvalidText) = true)
    (e5_InvalidText : K.lookup fi_InvalidText = some ⟨oc_InvalidText, od_InvalidText, .func (PySem.W.fnX "__init__" "InvalidText.__init__" (iniA ⟨11, 17, 11, 21⟩ ⟨11, 23, 11, 25⟩) (iniB "invalid text" ⟨12, 8, 12, 13⟩ ⟨12, 8, 12, 15⟩ ⟨12, 8, 12, 24⟩ ⟨12, 25, 12, 39⟩ ⟨12, 8, 12, 40⟩ ⟨12, 8, 12, 40⟩ ⟨13, 8, 13, 12⟩ ⟨13, 8, 13, 15⟩ ⟨13, 18, 13, 20⟩ ⟨13, 8, 13, 20⟩) iniS [("__class__", cc_InvalidText)] .none kV_InvalidText doc_InvalidText pm_InvalidText an_InvalidText (.ref cda_InvalidText) ct_InvalidText), osl_InvalidText⟩)
    (e6_InvalidText : PySem.W.codeIn K (.ref cda_InvalidText) "InvalidText.__init__" = true)
    (e7_InvalidText : K.lookup cc_InvalidText = some ⟨cl_InvalidText, cld_InvalidText, .cell (some (.ref C_InvalidText)), csl_InvalidText⟩)
    (e8_InvalidText : K.lookup cda_InvalidText = some ⟨ccl_InvalidText, cdd_InvalidText, .fields vs_InvalidText, ccs_InvalidText⟩)
    (e9_InvalidText : vs_InvalidText[2]? = some (.str file_InvalidText tf_InvalidText))
    (e10_InvalidText : ((PySem.Challenge.pw_samebehind_k00_errors_and_what_they_keep.main.file : Str) == file_InvalidText) = true)
    (e11_InvalidText : PySem.W.mroIn K C_InvalidText (.ref C_InvalidText) = some true)
    (e12_InvalidText : PySem.W.nsIn K mainGlobals "super" = some none)
    (e13_InvalidText : PySem.W.nsIn K PySem.cStatics "thirdparty.any" = some none)
    (e14_InvalidText : PySem.W.ks_superIn K C_InvalidText C_InvalidText "__init__" = some (some (.builtin "ValueError.__init__")))
    (e15_InvalidText : PySem.W.subIn K (.ref C_InvalidText) (.type "ValueError") = some true)
    (e16_InvalidText : PySem.W.findIn K (.ref C_InvalidText) "at" = some none)
    (e17_InvalidText : PySem.W.findIn K (.ref C_InvalidText) "__init__" = some (some (.ref fi_InvalidText)))
    (e18_InvalidText : PySem.W.typeIn K (.ref fi_InvalidText) = some (.type "function"))
    (e19_InvalidText : (PySem.Challenge.pw_samebehind_k00_errors_and_what_they_keep.main.scope.names.lookup ("super" : Str)).isSome = false)
    (e20_InvalidText : xfB K C_InvalidText = true)
    (ea_Refused : PySem.W.nsIn K mainGlobals "Refused" = some (some (.ref C_Refused)))
    (eL_Refused : K.lookup C_Refused = some (excClassObj nm_Refused q_Refused C_Refused N_Refused bs_Refused [.ref B_Refused_0, .type "ValueError", .type "Exception", .type "BaseException", .type "object"] true sn_Refused sub_Refused ab_Refused col_Refused dd_Refused k0_Refused k1_Refused k2_Refused k3_Refused k5_Refused "ValueError.__new__"))
    (e1_Refused : PySem.W.findIn K (.ref C_Refused) "__setattr__" = some (some (.builtin "object.__setattr__")))
    (e2_Refused : PySem.W.subIn K (.ref C_Refused) (.type "BaseException") = some true)
    (e3_Refused : PySem.W.typeIn K (.ref C_Refused) = some (.type "type"))
    (e4_Refused : PySem.W.keepIn K (.ref C_Refused) = true)
    (e5_Refused : K.lookup fi_Refused = some ⟨oc_Refused, od_Refused, .func (PySem.W.fnX "__init__" "Refused.__init__" (iniA ⟨26, 17, 26, 21⟩ ⟨26, 23, 26, 25⟩) (iniB "refused" ⟨27, 8, 27, 13⟩ ⟨27, 8, 27, 15⟩ ⟨27, 8, 27, 24⟩ ⟨27, 25, 27, 34⟩ ⟨27, 8, 27, 35⟩ ⟨27, 8, 27, 35⟩ ⟨28, 8, 28, 12⟩ ⟨28, 8, 28, 15⟩ ⟨28, 18, 28, 20⟩ ⟨28, 8, 28, 20⟩) iniS [("__class__", cc_Refused)] .none kV_Refused doc_Refused pm_Refused an_Refused (.ref cda_Refused) ct_Refused), osl_Refused⟩)
    (e6_Refused : PySem.W.codeIn K (.ref cda_Refused) "Refused.__init__" = true)
    (e7_Refused : K.lookup cc_Refused = some ⟨cl_Refused, cld_Refused, .cell (some (.ref C_Refused)), csl_Refused⟩)
    (e8_Refused : K.lookup cda_Refused = some ⟨ccl_Refused, cdd_Refused, .fields vs_Refused, ccs_Refused⟩)
    (e9_Refused : vs_Refused[2]? = some (.str file_Refused tf_Refused))
    (e10_Refused : ((PySem.Challenge.pw_samebehind_k00_errors_and_what_they_keep.main.file : Str) == file_Refused) = true)
    (e11_Refused : PySem.W.mroIn K C_Refused (.ref C_Refused) = some true)
    (e12_Refused : PySem.W.nsIn K mainGlobals "super" = some none)
    (e13_Refused : PySem.W.nsIn K PySem.cStatics "thirdparty.any" = some none)
    (e14_Refused : PySem.W.ks_superIn K C_Refused C_Refused "__init__" = some (some (.builtin "ValueError.__init__")))
    (e15_Refused : PySem.W.subIn K (.ref C_Refused) (.type "ValueError") = some true)
    (e16_Refused : PySem.W.findIn K (.ref C_Refused) "at" = some none)
    (e17_Refused : PySem.W.findIn K (.ref C_Refused) "__init__" = some (some (.ref fi_Refused)))
    (e18_Refused : PySem.W.typeIn K (.ref fi_Refused) = some (.type "function"))
    (e19_Refused : (PySem.Challenge.pw_samebehind_k00_errors_and_what_they_keep.main.scope.names.lookup ("super" : Str)).isSome = false)
    (e20_Refused : xfB K C_Refused = true)
    (ea_InvalidCommand : PySem.W.nsIn K mainGlobals "InvalidCommand" = some (some (.ref C_InvalidCommand)))
    (eL_InvalidCommand : K.lookup C_InvalidCommand = some (excClassObj nm_InvalidCommand q_InvalidCommand C_InvalidCommand N_InvalidCommand bs_InvalidCommand [.ref B_InvalidCommand_0, .type "ValueError", .type "Exception", .type "BaseException", .type "object"] true sn_InvalidCommand sub_InvalidCommand ab_InvalidCommand col_InvalidCommand dd_InvalidCommand k0_InvalidCommand k1_InvalidCommand k2_InvalidCommand k3_InvalidCommand k5_InvalidCommand "ValueError.__new__"))
    (e1_InvalidCommand : PySem.W.findIn K (.ref C_InvalidCommand) "__setattr__" = some (some (.builtin "object.__setattr__")))
    (e2_InvalidCommand : PySem.W.subIn K (.ref C_InvalidCommand) (.type "BaseException") = some true)
    (e3_InvalidCommand : PySem.W.typeIn K (.ref C_InvalidCommand) = some (.type "type"))
    (e4_InvalidCommand : PySem.W.keepIn K (.ref C_InvalidCommand) = true)
    (e5_InvalidCommand : K.lookup fi_InvalidCommand = some ⟨oc_InvalidCommand, od_InvalidCommand, .func (PySem.W.fnX "__init__" "InvalidCommand.__init__" (ini0A ⟨31, 17, 31, 21⟩) (ini0B "invalid command" ⟨32, 8, 32, 13⟩ ⟨32, 8, 32, 15⟩ ⟨32, 8, 32, 24⟩ ⟨32, 25, 32, 42⟩ ⟨32, 8, 32, 43⟩ ⟨32, 8, 32, 43⟩) ini0S [("__class__", cc_InvalidCommand)] .none kV_InvalidCommand doc_InvalidCommand pm_InvalidCommand an_InvalidCommand (.ref cda_InvalidCommand) ct_InvalidCommand), osl_InvalidCommand⟩)
    (e6_InvalidCommand : PySem.W.codeIn K (.ref cda_InvalidCommand) "InvalidCommand.__init__" = true)
    (e7_InvalidCommand : K.lookup cc_InvalidCommand = some ⟨cl_InvalidCommand, cld_InvalidCommand, .cell (some (.ref C_InvalidCommand)), csl_InvalidCommand⟩)
    (e8_InvalidCommand : K.lookup cda_InvalidCommand = some ⟨ccl_InvalidCommand, cdd_InvalidCommand, .fields vs_InvalidCommand, ccs_InvalidCommand⟩)
    (e9_InvalidCommand : vs_InvalidCommand[2]? = some (.str file_InvalidCommand tf_InvalidCommand))
    (e10_InvalidCommand : ((PySem.Challenge.pw_samebehind_k00_errors_and_what_they_keep.main.file : Str) == file_InvalidCommand) = true)
    (e11_InvalidCommand : PySem.W.mroIn K C_InvalidCommand (.ref C_InvalidCommand) = some true)
    (e12_InvalidCommand : PySem.W.nsIn K mainGlobals "super" = some none)
    (e13_InvalidCommand : PySem.W.nsIn K PySem.cStatics "thirdparty.any" = some none)
    (e14_InvalidCommand : PySem.W.ks_superIn K C_InvalidCommand C_InvalidCommand "__init__" = some (some (.builtin "ValueError.__init__")))
    (e15_InvalidCommand : PySem.W.subIn K (.ref C_InvalidCommand) (.type "ValueError") = some true)
    (e17_InvalidCommand : PySem.W.findIn K (.ref C_InvalidCommand) "__init__" = some (some (.ref fi_InvalidCommand)))
    (e18_InvalidCommand : PySem.W.typeIn K (.ref fi_InvalidCommand) = some (.type "function"))
    (e19_InvalidCommand : (PySem.Challenge.pw_samebehind_k00_errors_and_what_they_keep.main.scope.names.lookup ("super" : Str)).isSome = false)
    (kx_InvalidModule : kxB K C_InvalidModule = true)
    (kx_InvalidText : kxB K C_InvalidText = true)
    (kx_InvalidProject : kxB K C_InvalidProject = true)
    (kx_InvalidQuestion : kxB K C_InvalidQuestion = true)
    (kx_Refused : kxB K C_Refused = true)
    (kx_InvalidCommand : kxB K C_InvalidCommand = true)
    (kt_InvalidModule_InvalidModule : PySem.W.kitOne K (.ref C_InvalidModule) (.ref C_InvalidModule) = some true)
    (kt_InvalidModule_InvalidText : PySem.W.kitOne K (.ref C_InvalidModule) (.ref C_InvalidText) = some false)
    (kt_InvalidModule_InvalidProject : PySem.W.kitOne K (.ref C_InvalidModule) (.ref C_InvalidProject) = some false)
    (kt_InvalidModule_InvalidQuestion : PySem.W.kitOne K (.ref C_InvalidModule) (.ref C_InvalidQuestion) = some false)
    (kt_InvalidModule_Refused : PySem.W.kitOne K (.ref C_InvalidModule) (.ref C_Refused) = some false)
    (kt_InvalidModule_InvalidCommand : PySem.W.kitOne K (.ref C_InvalidModule) (.ref C_InvalidCommand) = some false)
    (kt_InvalidText_InvalidModule : PySem.W.kitOne K (.ref C_InvalidText) (.ref C_InvalidModule) = some false)
    (kt_InvalidText_InvalidText : PySem.W.kitOne K (.ref C_InvalidText) (.ref C_InvalidText) = some true)
    (kt_InvalidText_InvalidProject : PySem.W.kitOne K (.ref C_InvalidText) (.ref C_InvalidProject) = some false)
    (kt_InvalidText_InvalidQuestion : PySem.W.kitOne K (.ref C_InvalidText) (.ref C_InvalidQuestion) = some false)
    (kt_InvalidText_Refused : PySem.W.kitOne K (.ref C_InvalidText) (.ref C_Refused) = some false)
    (kt_InvalidText_InvalidCommand : PySem.W.kitOne K (.ref C_InvalidText) (.ref C_InvalidCommand) = some false)
    (kt_InvalidProject_InvalidModule : PySem.W.kitOne K (.ref C_InvalidProject) (.ref C_InvalidModule) = some false)
    (kt_InvalidProject_InvalidText : PySem.W.kitOne K (.ref C_InvalidProject) (.ref C_InvalidText) = some false)
    (kt_InvalidProject_InvalidProject : PySem.W.kitOne K (.ref C_InvalidProject) (.ref C_InvalidProject) = some true)
    (kt_InvalidProject_InvalidQuestion : PySem.W.kitOne K (.ref C_InvalidProject) (.ref C_InvalidQuestion) = some false)
    (kt_InvalidProject_Refused : PySem.W.kitOne K (.ref C_InvalidProject) (.ref C_Refused) = some false)
    (kt_InvalidProject_InvalidCommand : PySem.W.kitOne K (.ref C_InvalidProject) (.ref C_InvalidCommand) = some false)
    (kt_InvalidQuestion_InvalidModule : PySem.W.kitOne K (.ref C_InvalidQuestion) (.ref C_InvalidModule) = some false)
    (kt_InvalidQuestion_InvalidText : PySem.W.kitOne K (.ref C_InvalidQuestion) (.ref C_InvalidText) = some false)
    (kt_InvalidQuestion_InvalidProject : PySem.W.kitOne K (.ref C_InvalidQuestion) (.ref C_InvalidProject) = some false)
    (kt_InvalidQuestion_InvalidQuestion : PySem.W.kitOne K (.ref C_InvalidQuestion) (.ref C_InvalidQuestion) = some true)
    (kt_InvalidQuestion_Refused : PySem.W.kitOne K (.ref C_InvalidQuestion) (.ref C_Refused) = some false)
    (kt_InvalidQuestion_InvalidCommand : PySem.W.kitOne K (.ref C_InvalidQuestion) (.ref C_InvalidCommand) = some false)
    (kt_Refused_InvalidModule : PySem.W.kitOne K (.ref C_Refused) (.ref C_InvalidModule) = some false)
    (kt_Refused_InvalidText : PySem.W.kitOne K (.ref C_Refused) (.ref C_InvalidText) = some false)
    (kt_Refused_InvalidProject : PySem.W.kitOne K (.ref C_Refused) (.ref C_InvalidProject) = some false)
    (kt_Refused_InvalidQuestion : PySem.W.kitOne K (.ref C_Refused) (.ref C_InvalidQuestion) = some false)
    (kt_Refused_Refused : PySem.W.kitOne K (.ref C_Refused) (.ref C_Refused) = some true)
    (kt_Refused_InvalidCommand : PySem.W.kitOne K (.ref C_Refused) (.ref C_InvalidCommand) = some false)
    (kt_InvalidCommand_InvalidModule : PySem.W.kitOne K (.ref C_InvalidCommand) (.ref C_InvalidModule) = some false)
    (kt_InvalidCommand_InvalidText : PySem.W.kitOne K (.ref C_InvalidCommand) (.ref C_InvalidText) = some false)
    (kt_InvalidCommand_InvalidProject : PySem.W.kitOne K (.ref C_InvalidCommand) (.ref C_InvalidProject) = some false)
    (kt_InvalidCommand_InvalidQuestion : PySem.W.kitOne K (.ref C_InvalidCommand) (.ref C_InvalidQuestion) = some false)
    (kt_InvalidCommand_Refused : PySem.W.kitOne K (.ref C_InvalidCommand) (.ref C_Refused) = some false)
    (kt_InvalidCommand_InvalidCommand : PySem.W.kitOne K (.ref C_InvalidCommand) (.ref C_InvalidCommand) = some true)
    (kv_InvalidModule : PySem.W.kitOne K (.ref C_InvalidModule) (.type "ValueError") = some true)
    (kv_InvalidText : PySem.W.kitOne K (.ref C_InvalidText) (.type "ValueError") = some true)
    (kv_InvalidProject : PySem.W.kitOne K (.ref C_InvalidProject) (.type "ValueError") = some true)
    (kv_InvalidQuestion : PySem.W.kitOne K (.ref C_InvalidQuestion) (.type "ValueError") = some true)
    (kv_Refused : PySem.W.kitOne K (.ref C_Refused) (.type "ValueError") = some true)
    (kv_InvalidCommand : PySem.W.kitOne K (.ref C_InvalidCommand) (.type "ValueError") = some true)
    (xa_SameError : PySem.W.nsIn K mainGlobals "SameError" = some (some (.ref B_SameError)))
    (xe_SameError_InvalidModule : PySem.W.exmOne K (.ref C_InvalidModule) (.ref B_SameError) = some true)
    (xe_SameError_InvalidText : PySem.W.exmOne K (.ref C_InvalidText) (.ref B_SameError) = some true)
    (xe_SameError_InvalidProject : PySem.W.exmOne K (.ref C_InvalidProject) (.ref B_SameError) = some true)
    (xe_SameError_InvalidQuestion : PySem.W.exmOne K (.ref C_InvalidQuestion) (.ref B_SameError) = some true)
    (xe_SameError_Refused : PySem.W.exmOne K (.ref C_Refused) (.ref B_SameError) = some true)
    (xe_SameError_InvalidCommand : PySem.W.exmOne K (.ref C_InvalidCommand) (.ref B_SameError) = some true) :
    ∃ fd : FuncData, (∀ (s : Shared) (v : Value), BindsTo s fd ⟨[v], []⟩ [("script", v)]) ∧ ∀ base : Heap, K.In base → base.Ns mainGlobals mg → FnOk PySem.Challenge.pw_samebehind_k00_errors_and_what_they_keep w K mg base (L2.CX PySem.Challenge.pw_samebehind_k00_errors_and_what_they_keep w) 6 fa fd ["script"] (spP K (clsK K) (.im) 1 r_law) := by
  have e := hfa.symm.trans (PySem.W.mg_of X G a_law)
  cases e
  have F_law_same := fun_mk (st := s_law_same) l_law_same c_law_same k_law_same
  have d_law_same : Df K mg "_law_same" s_law_same ["value", "due"] _ _ := ⟨F_law_same, PySem.W.mg_of X G a_law_same, F_law_same.binds fun _ _ _ _ _ _ us hl => match us, hl with | [_, _], _ => rfl⟩
  have F_law_marks := fun_mk (st := s_law_marks) l_law_marks c_law_marks k_law_marks
  have d_law_marks : Df K mg "_law_marks" s_law_marks ["e"] _ _ := ⟨F_law_marks, PySem.W.mg_of X G a_law_marks, F_law_marks.binds fun _ _ _ _ _ _ us hl => match us, hl with | [_], _ => rfl⟩
  have F_law_raise := fun_mk (st := s_law_raise) l_law_raise c_law_raise k_law_raise
  have d_law_raise : Df K mg "_law_raise" s_law_raise ["at", "thing"] _ _ := ⟨F_law_raise, PySem.W.mg_of X G a_law_raise, F_law_raise.binds fun _ _ _ _ _ _ us hl => match us, hl with | [_, _], _ => rfl⟩
  have F_law_heard := fun_mk (st := s_law_heard) l_law_heard c_law_heard k_law_heard
  have d_law_heard : Df K mg "_law_heard" s_law_heard ["at", "thing"] _ _ := ⟨F_law_heard, PySem.W.mg_of X G a_law_heard, F_law_heard.binds fun _ _ _ _ _ _ us hl => match us, hl with | [_, _], _ => rfl⟩
  have F_law_named := fun_mk (st := s_law_named) l_law_named c_law_named k_law_named
  have d_law_named : Df K mg "_law_named" s_law_named ["thing"] _ _ := ⟨F_law_named, PySem.W.mg_of X G a_law_named, F_law_named.binds fun _ _ _ _ _ _ us hl => match us, hl with | [_], _ => rfl⟩
  have F_law := fun_mk (st := s_law) l_law c_law k_law
  have d_law : Df K mg "law" s_law ["script"] _ _ := ⟨F_law, PySem.W.mg_of X G a_law, F_law.binds fun _ _ _ _ _ _ us hl => match us, hl with | [_], _ => rfl⟩
  have b_ValueError := PySem.W.mg_none_of X G z_ValueError
  have b_bool := PySem.W.mg_none_of X G z_bool
  have b_int := PySem.W.mg_none_of X G z_int
  have b_isinstance := PySem.W.mg_none_of X G z_isinstance
  have b_len := PySem.W.mg_none_of X G z_len
  have b_max := PySem.W.mg_none_of X G z_max
  have b_min := PySem.W.mg_none_of X G z_min
  have b_range := PySem.W.mg_none_of X G z_range
  have b_str := PySem.W.mg_none_of X G z_str
  have b_tuple := PySem.W.mg_none_of X G z_tuple
  have b_zip := PySem.W.mg_none_of X G z_zip
  have e_InvalidModule : ErC PySem.Challenge.pw_samebehind_k00_errors_and_what_they_keep K mg (clsK K) "InvalidModule" := erc_mk X G ea_InvalidModule eL_InvalidModule rfl e1_InvalidModule e2_InvalidModule e3_InvalidModule e4_InvalidModule e5_InvalidModule e6_InvalidModule rfl e7_InvalidModule e8_InvalidModule e9_InvalidModule e10_InvalidModule e11_InvalidModule e12_InvalidModule e13_InvalidModule e14_InvalidModule e15_InvalidModule e16_InvalidModule e17_InvalidModule e18_InvalidModule e19_InvalidModule e20_InvalidModule
  have e_InvalidProject : ErC PySem.Challenge.pw_samebehind_k00_errors_and_what_they_keep K mg (clsK K) "InvalidProject" := erc_mk X G ea_InvalidProject eL_InvalidProject rfl e1_InvalidProject e2_InvalidProject e3_InvalidProject e4_InvalidProject e5_InvalidProject e6_InvalidProject rfl e7_InvalidProject e8_InvalidProject e9_InvalidProject e10_InvalidProject e11_InvalidProject e12_InvalidProject e13_InvalidProject e14_InvalidProject e15_InvalidProject e16_InvalidProject e17_InvalidProject e18_InvalidProject e19_InvalidProject e20_InvalidProject
  have e_InvalidQuestion : ErC PySem.Challenge.pw_samebehind_k00_errors_and_what_they_keep K mg (clsK K) "InvalidQuestion" := erc_mk X G ea_InvalidQuestion eL_InvalidQuestion rfl e1_InvalidQuestion e2_InvalidQuestion e3_InvalidQuestion e4_InvalidQuestion e5_InvalidQuestion e6_InvalidQuestion rfl e7_InvalidQuestion e8_InvalidQuestion e9_InvalidQuestion e10_InvalidQuestion e11_InvalidQuestion e12_InvalidQuestion e13_InvalidQuestion e14_InvalidQuestion e15_InvalidQuestion e16_InvalidQuestion e17_InvalidQuestion e18_InvalidQuestion e19_InvalidQuestion e20_InvalidQuestion
  have e_InvalidText : ErC PySem.Challenge.pw_samebehind_k00_errors_and_what_they_keep K mg (clsK K) "InvalidText" := erc_mk X G ea_InvalidText eL_InvalidText rfl e1_InvalidText e2_InvalidText e3_InvalidText e4_InvalidText e5_InvalidText e6_InvalidText rfl e7_InvalidText e8_InvalidText e9_InvalidText e10_InvalidText e11_InvalidText e12_InvalidText e13_InvalidText e14_InvalidText e15_InvalidText e16_InvalidText e17_InvalidText e18_InvalidText e19_InvalidText e20_InvalidText
  have e_Refused : ErC PySem.Challenge.pw_samebehind_k00_errors_and_what_they_keep K mg (clsK K) "Refused" := erc_mk X G ea_Refused eL_Refused rfl e1_Refused e2_Refused e3_Refused e4_Refused e5_Refused e6_Refused rfl e7_Refused e8_Refused e9_Refused e10_Refused e11_Refused e12_Refused e13_Refused e14_Refused e15_Refused e16_Refused e17_Refused e18_Refused e19_Refused e20_Refused
  have ca_SameError : CaC K mg (clsK K) ["InvalidModule", "InvalidText", "InvalidProject", "InvalidQuestion", "Refused", "InvalidCommand"] "SameError" := (cac_cons (PySem.W.mg_of X G xa_SameError) ea_InvalidModule xe_SameError_InvalidModule (cac_cons (PySem.W.mg_of X G xa_SameError) ea_InvalidText xe_SameError_InvalidText (cac_cons (PySem.W.mg_of X G xa_SameError) ea_InvalidProject xe_SameError_InvalidProject (cac_cons (PySem.W.mg_of X G xa_SameError) ea_InvalidQuestion xe_SameError_InvalidQuestion (cac_cons (PySem.W.mg_of X G xa_SameError) ea_Refused xe_SameError_Refused (cac_cons (PySem.W.mg_of X G xa_SameError) ea_InvalidCommand xe_SameError_InvalidCommand (cac_nil X G xa_SameError)))))))
  have e0_InvalidCommand : Er0C PySem.Challenge.pw_samebehind_k00_errors_and_what_they_keep K mg (clsK K) "InvalidCommand" := er0_mk X G ea_InvalidCommand eL_InvalidCommand rfl e1_InvalidCommand e2_InvalidCommand e3_InvalidCommand e4_InvalidCommand e5_InvalidCommand e6_InvalidCommand rfl e7_InvalidCommand e8_InvalidCommand e9_InvalidCommand e10_InvalidCommand e11_InvalidCommand e12_InvalidCommand e13_InvalidCommand e14_InvalidCommand e15_InvalidCommand e17_InvalidCommand e18_InvalidCommand e19_InvalidCommand
  have m_InvalidModule : mg "InvalidModule" = some (.ref (clsK K "InvalidModule")) := by rw [clsK_of ea_InvalidModule]; exact PySem.W.mg_of X G ea_InvalidModule
  have m_InvalidText : mg "InvalidText" = some (.ref (clsK K "InvalidText")) := by rw [clsK_of ea_InvalidText]; exact PySem.W.mg_of X G ea_InvalidText
  have m_InvalidProject : mg "InvalidProject" = some (.ref (clsK K "InvalidProject")) := by rw [clsK_of ea_InvalidProject]; exact PySem.W.mg_of X G ea_InvalidProject
  have m_InvalidQuestion : mg "InvalidQuestion" = some (.ref (clsK K "InvalidQuestion")) := by rw [clsK_of ea_InvalidQuestion]; exact PySem.W.mg_of X G ea_InvalidQuestion
  have m_Refused : mg "Refused" = some (.ref (clsK K "Refused")) := by rw [clsK_of ea_Refused]; exact PySem.W.mg_of X G ea_Refused
  have m_InvalidCommand : mg "InvalidCommand" = some (.ref (clsK K "InvalidCommand")) := by rw [clsK_of ea_InvalidCommand]; exact PySem.W.mg_of X G ea_InvalidCommand
  have T_InvalidModule : IsT K (.ref (clsK K "InvalidModule")) tb_InvalidModule := by rw [clsK_of ea_InvalidModule]; exact (ist_cons ea_InvalidModule (kxB_ok kx_InvalidModule) kt_InvalidModule_InvalidModule (ist_cons ea_InvalidText (kxB_ok kx_InvalidText) kt_InvalidText_InvalidModule (ist_cons ea_InvalidProject (kxB_ok kx_InvalidProject) kt_InvalidProject_InvalidModule (ist_cons ea_InvalidQuestion (kxB_ok kx_InvalidQuestion) kt_InvalidQuestion_InvalidModule (ist_cons ea_Refused (kxB_ok kx_Refused) kt_Refused_InvalidModule (ist_cons ea_InvalidCommand (kxB_ok kx_InvalidCommand) kt_InvalidCommand_InvalidModule ist_nil))))))
  have T_InvalidText : IsT K (.ref (clsK K "InvalidText")) tb_InvalidText := by rw [clsK_of ea_InvalidText]; exact (ist_cons ea_InvalidModule (kxB_ok kx_InvalidModule) kt_InvalidModule_InvalidText (ist_cons ea_InvalidText (kxB_ok kx_InvalidText) kt_InvalidText_InvalidText (ist_cons ea_InvalidProject (kxB_ok kx_InvalidProject) kt_InvalidProject_InvalidText (ist_cons ea_InvalidQuestion (kxB_ok kx_InvalidQuestion) kt_InvalidQuestion_InvalidText (ist_cons ea_Refused (kxB_ok kx_Refused) kt_Refused_InvalidText (ist_cons ea_InvalidCommand (kxB_ok kx_InvalidCommand) kt_InvalidCommand_InvalidText ist_nil))))))
  have T_InvalidProject : IsT K (.ref (clsK K "InvalidProject")) tb_InvalidProject := by rw [clsK_of ea_InvalidProject]; exact (ist_cons ea_InvalidModule (kxB_ok kx_InvalidModule) kt_InvalidModule_InvalidProject (ist_cons ea_InvalidText (kxB_ok kx_InvalidText) kt_InvalidText_InvalidProject (ist_cons ea_InvalidProject (kxB_ok kx_InvalidProject) kt_InvalidProject_InvalidProject (ist_cons ea_InvalidQuestion (kxB_ok kx_InvalidQuestion) kt_InvalidQuestion_InvalidProject (ist_cons ea_Refused (kxB_ok kx_Refused) kt_Refused_InvalidProject (ist_cons ea_InvalidCommand (kxB_ok kx_InvalidCommand) kt_InvalidCommand_InvalidProject ist_nil))))))
  have T_InvalidQuestion : IsT K (.ref (clsK K "InvalidQuestion")) tb_InvalidQuestion := by rw [clsK_of ea_InvalidQuestion]; exact (ist_cons ea_InvalidModule (kxB_ok kx_InvalidModule) kt_InvalidModule_InvalidQuestion (ist_cons ea_InvalidText (kxB_ok kx_InvalidText) kt_InvalidText_InvalidQuestion (ist_cons ea_InvalidProject (kxB_ok kx_InvalidProject) kt_InvalidProject_InvalidQuestion (ist_cons ea_InvalidQuestion (kxB_ok kx_InvalidQuestion) kt_InvalidQuestion_InvalidQuestion (ist_cons ea_Refused (kxB_ok kx_Refused) kt_Refused_InvalidQuestion (ist_cons ea_InvalidCommand (kxB_ok kx_InvalidCommand) kt_InvalidCommand_InvalidQuestion ist_nil))))))
  have T_Refused : IsT K (.ref (clsK K "Refused")) tb_Refused := by rw [clsK_of ea_Refused]; exact (ist_cons ea_InvalidModule (kxB_ok kx_InvalidModule) kt_InvalidModule_Refused (ist_cons ea_InvalidText (kxB_ok kx_InvalidText) kt_InvalidText_Refused (ist_cons ea_InvalidProject (kxB_ok kx_InvalidProject) kt_InvalidProject_Refused (ist_cons ea_InvalidQuestion (kxB_ok kx_InvalidQuestion) kt_InvalidQuestion_Refused (ist_cons ea_Refused (kxB_ok kx_Refused) kt_Refused_Refused (ist_cons ea_InvalidCommand (kxB_ok kx_InvalidCommand) kt_InvalidCommand_Refused ist_nil))))))
  have T_InvalidCommand : IsT K (.ref (clsK K "InvalidCommand")) tb_InvalidCommand := by rw [clsK_of ea_InvalidCommand]; exact (ist_cons ea_InvalidModule (kxB_ok kx_InvalidModule) kt_InvalidModule_InvalidCommand (ist_cons ea_InvalidText (kxB_ok kx_InvalidText) kt_InvalidText_InvalidCommand (ist_cons ea_InvalidProject (kxB_ok kx_InvalidProject) kt_InvalidProject_InvalidCommand (ist_cons ea_InvalidQuestion (kxB_ok kx_InvalidQuestion) kt_InvalidQuestion_InvalidCommand (ist_cons ea_Refused (kxB_ok kx_Refused) kt_Refused_InvalidCommand (ist_cons ea_InvalidCommand (kxB_ok kx_InvalidCommand) kt_InvalidCommand_InvalidCommand ist_nil))))))
  have T_ValueError : IsT K (.type "ValueError") tb_ValueError := (ist_cons ea_InvalidModule (kxB_ok kx_InvalidModule) kv_InvalidModule (ist_cons ea_InvalidText (kxB_ok kx_InvalidText) kv_InvalidText (ist_cons ea_InvalidProject (kxB_ok kx_InvalidProject) kv_InvalidProject (ist_cons ea_InvalidQuestion (kxB_ok kx_InvalidQuestion) kv_InvalidQuestion (ist_cons ea_Refused (kxB_ok kx_Refused) kv_Refused (ist_cons ea_InvalidCommand (kxB_ok kx_InvalidCommand) kv_InvalidCommand ist_nil))))))
  have hns : NsA K (clsK K) ["InvalidModule", "InvalidText", "InvalidProject", "InvalidQuestion", "Refused", "InvalidCommand"] := (nsa_cons ea_InvalidModule (nsa_cons ea_InvalidText (nsa_cons ea_InvalidProject (nsa_cons ea_InvalidQuestion (nsa_cons ea_Refused (nsa_cons ea_InvalidCommand nsa_nil))))))
  refine ⟨PySem.W.fnOf "law" "law" (defArgs s_law) (defBody s_law) (defScope s_law) .none kV_law dc_law pm_law an_law cd_law ct_law, fun s v => .of_eq rfl, fun base _ _ => ?_⟩
  have h_law_same : Hs PySem.Challenge.pw_samebehind_k00_errors_and_what_they_keep w K mg base 3 "_law_same" s_law_same ["value", "due"] (spP K (clsK K) (.im) 2 (r_law_same 3)) := d_law_same.hs (ok_law_same d_law_same b_bool b_int b_isinstance b_len b_str b_tuple b_zip 3)
  have hS : HsH PySem.Challenge.pw_samebehind_k00_errors_and_what_they_keep w K mg base 3 "_law_same" s_law_same ["value", "due"] (spH K 2 (rH_law_same 3)) := d_law_same.hsH (okH_law_same d_law_same b_bool b_int b_isinstance b_len b_str b_tuple b_zip 3)
  have h_law_raise := ok_law_raise (w := w) (base := base) (cls := (clsK K)) d_law_raise e_InvalidModule e_InvalidText e_InvalidProject e_InvalidQuestion e_Refused e0_InvalidCommand
  have h_law_heard := ok_law_heard (w := w) (base := base) (cls := (clsK K)) d_law_heard h_law_raise hS d_law_marks k_law_marks ca_SameError hns e_InvalidModule e_InvalidText e_InvalidProject e_InvalidQuestion e_Refused m_InvalidModule T_InvalidModule m_InvalidText T_InvalidText m_InvalidProject T_InvalidProject m_InvalidQuestion T_InvalidQuestion m_Refused T_Refused m_InvalidCommand T_InvalidCommand T_ValueError b_ValueError b_isinstance b_range
  have h_law_named := ok_law_named (w := w) (base := base) (cls := (clsK K)) d_law_named h_law_same e_InvalidModule e_InvalidProject e_InvalidQuestion e_InvalidText e_Refused
  have h_law := ok_law (w := w) (base := base) (cls := (clsK K)) d_law h_law_heard h_law_named b_int b_len b_max b_min b_range b_str
  obtain ⟨f1, fd1, F1, m1, _, h1⟩ := h_law.ex
  rw [PySem.W.mg_of X G a_law] at m1
  cases m1
  obtain ⟨_, _, _, _, _, _, _, _, _, q1, q2, _⟩ := F1.ex
  subst q1
  rw [l_law] at q2
  cases q2
  exact h1
end Zd
open PySem PySem.W
open PyProof.Rows
set_option maxHeartbeats 0 in
theorem PySem.Challenge.cw_samebehind_k00_errors_and_what_they_keep_holds : PySem.Challenge.rw_samebehind_k00_errors_and_what_they_keep.Holds := by
  w_on; o_law; k_head
  (case hw => w_witness2)
  k_fill
  refine L2.walk_of (l := PySem.Challenge.rw_samebehind_k00_errors_and_what_they_keep) (n := 63) (k := 6) (x := "script") (CX := fun w => L2.CX PySem.Challenge.pw_samebehind_k00_errors_and_what_they_keep w) (sp := fun w => Zd.spK _ Zd.r_law) rfl (by decide) rfl ⟨rfl, by decide, by decide⟩ (fun w h Y => PySem.W.kIn_of Y) ?F (fun w H a ns hl hO hS => Zd.top_ok (by kernel_rfl) Zd.law_holds hl hO hS) (fun _ _ _ _ _ ⟨_, _, _, _, _, _, _, _, _, _, _, _, z⟩ => z)
  case F =>
    intro w mg fa h KX G hmg
    refine' Zd.all_mk KX G hmg ?a_law_same ?l_law_same ?c_law_same ?k_law_same ?a_law_marks ?l_law_marks ?c_law_marks ?k_law_marks ?a_law_raise ?l_law_raise ?c_law_raise ?k_law_raise ?a_law_heard ?l_law_heard ?c_law_heard ?k_law_heard ?a_law_named ?l_law_named ?c_law_named ?k_law_named ?a_law ?l_law ?c_law ?k_law ?z_ValueError ?z_bool ?z_int ?z_isinstance ?z_len ?z_max ?z_min ?z_range ?z_str ?z_tuple ?z_zip  ?ea_InvalidModule ?eL_InvalidModule ?e1_InvalidModule ?e2_InvalidModule ?e3_InvalidModule ?e4_InvalidModule ?e5_InvalidModule ?e6_InvalidModule ?e7_InvalidModule ?e8_InvalidModule ?e9_InvalidModule ?e10_InvalidModule ?e11_InvalidModule ?e12_InvalidModule ?e13_InvalidModule ?e14_InvalidModule ?e15_InvalidModule ?e16_InvalidModule ?e17_InvalidModule ?e18_InvalidModule ?e19_InvalidModule ?e20_InvalidModule ?ea_InvalidProject ?eL_InvalidProject ?e1_InvalidProject ?e2_InvalidProject ?e3_InvalidProject ?e4_InvalidProject ?e5_InvalidProject ?e6_InvalidProject ?e7_InvalidProject ?e8_InvalidProject ?e9_InvalidProject ?e10_InvalidProject ?e11_InvalidProject ?e12_InvalidProject ?e13_InvalidProject ?e14_InvalidProject ?e15_InvalidProject ?e16_InvalidProject ?e17_InvalidProject ?e18_InvalidProject ?e19_InvalidProject ?e20_InvalidProject ?ea_InvalidQuestion ?eL_InvalidQuestion ?e1_InvalidQuestion ?e2_InvalidQuestion ?e3_InvalidQuestion ?e4_InvalidQuestion ?e5_InvalidQuestion ?e6_InvalidQuestion ?e7_InvalidQuestion ?e8_InvalidQuestion ?e9_InvalidQuestion ?e10_InvalidQuestion ?e11_InvalidQuestion ?e12_InvalidQuestion ?e13_InvalidQuestion ?e14_InvalidQuestion ?e15_InvalidQuestion ?e16_InvalidQuestion ?e17_InvalidQuestion ?e18_InvalidQuestion ?e19_InvalidQuestion ?e20_InvalidQuestion ?ea_InvalidText ?eL_InvalidText ?e1_InvalidText ?e2_InvalidText ?e3_InvalidText ?e4_InvalidText ?e5_InvalidText ?e6_InvalidText ?e7_InvalidText ?e8_InvalidText ?e9_InvalidText ?e10_InvalidText ?e11_InvalidText ?e12_InvalidText ?e13_InvalidText ?e14_InvalidText ?e15_InvalidText ?e16_InvalidText ?e17_InvalidText ?e18_InvalidText ?e19_InvalidText ?e20_InvalidText ?ea_Refused ?eL_Refused ?e1_Refused ?e2_Refused ?e3_Refused ?e4_Refused ?e5_Refused ?e6_Refused ?e7_Refused ?e8_Refused ?e9_Refused ?e10_Refused ?e11_Refused ?e12_Refused ?e13_Refused ?e14_Refused ?e15_Refused ?e16_Refused ?e17_Refused ?e18_Refused ?e19_Refused ?e20_Refused ?ea_InvalidCommand ?eL_InvalidCommand ?e1_InvalidCommand ?e2_InvalidCommand ?e3_InvalidCommand ?e4_InvalidCommand ?e5_InvalidCommand ?e6_InvalidCommand ?e7_InvalidCommand ?e8_InvalidCommand ?e9_InvalidCommand ?e10_InvalidCommand ?e11_InvalidCommand ?e12_InvalidCommand ?e13_InvalidCommand ?e14_InvalidCommand ?e15_InvalidCommand ?e17_InvalidCommand ?e18_InvalidCommand ?e19_InvalidCommand ?kx_InvalidModule ?kx_InvalidText ?kx_InvalidProject ?kx_InvalidQuestion ?kx_Refused ?kx_InvalidCommand ?kt_InvalidModule_InvalidModule ?kt_InvalidModule_InvalidText ?kt_InvalidModule_InvalidProject ?kt_InvalidModule_InvalidQuestion ?kt_InvalidModule_Refused ?kt_InvalidModule_InvalidCommand ?kt_InvalidText_InvalidModule ?kt_InvalidText_InvalidText ?kt_InvalidText_InvalidProject ?kt_InvalidText_InvalidQuestion ?kt_InvalidText_Refused ?kt_InvalidText_InvalidCommand ?kt_InvalidProject_InvalidModule ?kt_InvalidProject_InvalidText ?kt_InvalidProject_InvalidProject ?kt_InvalidProject_InvalidQuestion ?kt_InvalidProject_Refused ?kt_InvalidProject_InvalidCommand ?kt_InvalidQuestion_InvalidModule ?kt_InvalidQuestion_InvalidText ?kt_InvalidQuestion_InvalidProject ?kt_InvalidQuestion_InvalidQuestion ?kt_InvalidQuestion_Refused ?kt_InvalidQuestion_InvalidCommand ?kt_Refused_InvalidModule ?kt_Refused_InvalidText ?kt_Refused_InvalidProject ?kt_Refused_InvalidQuestion ?kt_Refused_Refused ?kt_Refused_InvalidCommand ?kt_InvalidCommand_InvalidModule ?kt_InvalidCommand_InvalidText ?kt_InvalidCommand_InvalidProject ?kt_InvalidCommand_InvalidQuestion ?kt_InvalidCommand_Refused ?kt_InvalidCommand_InvalidCommand ?kv_InvalidModule ?kv_InvalidText ?kv_InvalidProject ?kv_InvalidQuestion ?kv_Refused ?kv_InvalidCommand ?xa_SameError ?xe_SameError_InvalidModule ?xe_SameError_InvalidText ?xe_SameError_InvalidProject ?xe_SameError_InvalidQuestion ?xe_SameError_Refused ?xe_SameError_InvalidCommand
    (case a_law_same => k_is)
    (case l_law_same => k_is)
    (case c_law_same => k_is)
    (case k_law_same => k_is)
    (case a_law_marks => k_is)
    (case l_law_marks => k_is)
    (case c_law_marks => k_is)
    (case k_law_marks => k_is)
    (case a_law_raise => k_is)
    (case l_law_raise => k_is)
    (case c_law_raise => k_is)
    (case k_law_raise => k_is)
    (case a_law_heard => k_is)
    (case l_law_heard => k_is)
    (case c_law_heard => k_is)
    (case k_law_heard => k_is)
    (case a_law_named => k_is)
    (case l_law_named => k_is)
    (case c_law_named => k_is)
    (case k_law_named => k_is)
    (case a_law => k_is)
    (case l_law => k_is)
    (case c_law => k_is)
    (case k_law => k_is)
    (case z_ValueError => k_is)
    (case z_bool => k_is)
    (case z_int => k_is)
    (case z_isinstance => k_is)
    (case z_len => k_is)
    (case z_max => k_is)
    (case z_min => k_is)
    (case z_range => k_is)
    (case z_str => k_is)
    (case z_tuple => k_is)
    (case z_zip => k_is)
    (case ea_InvalidModule => k_is)
    (case eL_InvalidModule => k_is)
    (case e1_InvalidModule => k_is)
    (case e2_InvalidModule => k_is)
    (case e3_InvalidModule => k_is)
    (case e4_InvalidModule => k_is)
    (case e17_InvalidModule => k_is)
    (case e5_InvalidModule => k_is)
    (case e6_InvalidModule => k_is)
    (case e7_InvalidModule => k_is)
    (case e8_InvalidModule => k_is)
    (case e9_InvalidModule => first | rfl | k_is)
    (case e10_InvalidModule => first | kernel_rfl | decide +kernel)
    (case e11_InvalidModule => k_is)
    (case e12_InvalidModule => k_is)
    (case e13_InvalidModule => k_is)
    (case e14_InvalidModule => first | k_is | kernel_rfl | rfl)
    (case e15_InvalidModule => k_is)
    (case e16_InvalidModule => k_is)
    (case e18_InvalidModule => k_is)
    (case e19_InvalidModule => decide +kernel)
    (case e20_InvalidModule => first | k_is | kernel_rfl)
    (case ea_InvalidProject => k_is)
    (case eL_InvalidProject => k_is)
    (case e1_InvalidProject => k_is)
    (case e2_InvalidProject => k_is)
    (case e3_InvalidProject => k_is)
    (case e4_InvalidProject => k_is)
    (case e17_InvalidProject => k_is)
    (case e5_InvalidProject => k_is)
    (case e6_InvalidProject => k_is)
    (case e7_InvalidProject => k_is)
    (case e8_InvalidProject => k_is)
    (case e9_InvalidProject => first | rfl | k_is)
    (case e10_InvalidProject => first | kernel_rfl | decide +kernel)
    (case e11_InvalidProject => k_is)
    (case e12_InvalidProject => k_is)
    (case e13_InvalidProject => k_is)
    (case e14_InvalidProject => first | k_is | kernel_rfl | rfl)
    (case e15_InvalidProject => k_is)
    (case e16_InvalidProject => k_is)
    (case e18_InvalidProject => k_is)
    (case e19_InvalidProject => decide +kernel)
    (case e20_InvalidProject => first | k_is | kernel_rfl)
    (case ea_InvalidQuestion => k_is)
    (case eL_InvalidQuestion => k_is)
    (case e1_InvalidQuestion => k_is)
    (case e2_InvalidQuestion => k_is)
    (case e3_InvalidQuestion => k_is)
    (case e4_InvalidQuestion => k_is)
    (case e17_InvalidQuestion => k_is)
    (case e5_InvalidQuestion => k_is)
    (case e6_InvalidQuestion => k_is)
    (case e7_InvalidQuestion => k_is)
    (case e8_InvalidQuestion => k_is)
    (case e9_InvalidQuestion => first | rfl | k_is)
    (case e10_InvalidQuestion => first | kernel_rfl | decide +kernel)
    (case e11_InvalidQuestion => k_is)
    (case e12_InvalidQuestion => k_is)
    (case e13_InvalidQuestion => k_is)
    (case e14_InvalidQuestion => first | k_is | kernel_rfl | rfl)
    (case e15_InvalidQuestion => k_is)
    (case e16_InvalidQuestion => k_is)
    (case e18_InvalidQuestion => k_is)
    (case e19_InvalidQuestion => decide +kernel)
    (case e20_InvalidQuestion => first | k_is | kernel_rfl)
    (case ea_InvalidText => k_is)
    (case eL_InvalidText => k_is)
    (case e1_InvalidText => k_is)
    (case e2_InvalidText => k_is)
    (case e3_InvalidText => k_is)
    (case e4_InvalidText => k_is)
    (case e17_InvalidText => k_is)
    (case e5_InvalidText => k_is)
    (case e6_InvalidText => k_is)
    (case e7_InvalidText => k_is)
    (case e8_InvalidText => k_is)
    (case e9_InvalidText => first | rfl | k_is)
    (case e10_InvalidText => first | kernel_rfl | decide +kernel)
    (case e11_InvalidText => k_is)
    (case e12_InvalidText => k_is)
    (case e13_InvalidText => k_is)
    (case e14_InvalidText => first | k_is | kernel_rfl | rfl)
    (case e15_InvalidText => k_is)
    (case e16_InvalidText => k_is)
    (case e18_InvalidText => k_is)
    (case e19_InvalidText => decide +kernel)
    (case e20_InvalidText => first | k_is | kernel_rfl)
    (case ea_Refused => k_is)
    (case eL_Refused => k_is)
    (case e1_Refused => k_is)
    (case e2_Refused => k_is)
    (case e3_Refused => k_is)
    (case e4_Refused => k_is)
    (case e17_Refused => k_is)
    (case e5_Refused => k_is)
    (case e6_Refused => k_is)
    (case e7_Refused => k_is)
    (case e8_Refused => k_is)
    (case e9_Refused => first | rfl | k_is)
    (case e10_Refused => first | kernel_rfl | decide +kernel)
    (case e11_Refused => k_is)
    (case e12_Refused => k_is)
    (case e13_Refused => k_is)
    (case e14_Refused => first | k_is | kernel_rfl | rfl)
    (case e15_Refused => k_is)
    (case e16_Refused => k_is)
    (case e18_Refused => k_is)
    (case e19_Refused => decide +kernel)
    (case e20_Refused => first | k_is | kernel_rfl)
    (case ea_InvalidCommand => k_is)
    (case eL_InvalidCommand => k_is)
    (case e1_InvalidCommand => k_is)
    (case e2_InvalidCommand => k_is)
    (case e3_InvalidCommand => k_is)
    (case e4_InvalidCommand => k_is)
    (case e17_InvalidCommand => k_is)
    (case e5_InvalidCommand => k_is)
    (case e6_InvalidCommand => k_is)
    (case e7_InvalidCommand => k_is)
    (case e8_InvalidCommand => k_is)
    (case e9_InvalidCommand => first | rfl | k_is)
    (case e10_InvalidCommand => first | kernel_rfl | decide +kernel)
    (case e11_InvalidCommand => k_is)
    (case e12_InvalidCommand => k_is)
    (case e13_InvalidCommand => k_is)
    (case e14_InvalidCommand => first | k_is | kernel_rfl | rfl)
    (case e15_InvalidCommand => k_is)
    (case e18_InvalidCommand => k_is)
    (case e19_InvalidCommand => decide +kernel)
    (case kx_InvalidModule => first | k_is | kernel_rfl)
    (case kx_InvalidText => first | k_is | kernel_rfl)
    (case kx_InvalidProject => first | k_is | kernel_rfl)
    (case kx_InvalidQuestion => first | k_is | kernel_rfl)
    (case kx_Refused => first | k_is | kernel_rfl)
    (case kx_InvalidCommand => first | k_is | kernel_rfl)
    (case kt_InvalidModule_InvalidModule => first | k_is | kernel_rfl)
    (case kt_InvalidModule_InvalidText => first | k_is | kernel_rfl)
    (case kt_InvalidModule_InvalidProject => first | k_is | kernel_rfl)
    (case kt_InvalidModule_InvalidQuestion => first | k_is | kernel_rfl)
    (case kt_InvalidModule_Refused => first | k_is | kernel_rfl)
    (case kt_InvalidModule_InvalidCommand => first | k_is | kernel_rfl)
    (case kt_InvalidText_InvalidModule => first | k_is | kernel_rfl)
    (case kt_InvalidText_InvalidText => first | k_is | kernel_rfl)
    (case kt_InvalidText_InvalidProject => first | k_is | kernel_rfl)
    (case kt_InvalidText_InvalidQuestion => first | k_is | kernel_rfl)
    (case kt_InvalidText_Refused => first | k_is | kernel_rfl)
    (case kt_InvalidText_InvalidCommand => first | k_is | kernel_rfl)
    (case kt_InvalidProject_InvalidModule => first | k_is | kernel_rfl)
    (case kt_InvalidProject_InvalidText => first | k_is | kernel_rfl)
    (case kt_InvalidProject_InvalidProject => first | k_is | kernel_rfl)
    (case kt_InvalidProject_InvalidQuestion => first | k_is | kernel_rfl)
    (case kt_InvalidProject_Refused => first | k_is | kernel_rfl)
    (case kt_InvalidProject_InvalidCommand => first | k_is | kernel_rfl)
    (case kt_InvalidQuestion_InvalidModule => first | k_is | kernel_rfl)
    (case kt_InvalidQuestion_InvalidText => first | k_is | kernel_rfl)
    (case kt_InvalidQuestion_InvalidProject => first | k_is | kernel_rfl)
    (case kt_InvalidQuestion_InvalidQuestion => first | k_is | kernel_rfl)
    (case kt_InvalidQuestion_Refused => first | k_is | kernel_rfl)
    (case kt_InvalidQuestion_InvalidCommand => first | k_is | kernel_rfl)
    (case kt_Refused_InvalidModule => first | k_is | kernel_rfl)
    (case kt_Refused_InvalidText => first | k_is | kernel_rfl)
    (case kt_Refused_InvalidProject => first | k_is | kernel_rfl)
    (case kt_Refused_InvalidQuestion => first | k_is | kernel_rfl)
    (case kt_Refused_Refused => first | k_is | kernel_rfl)
    (case kt_Refused_InvalidCommand => first | k_is | kernel_rfl)
    (case kt_InvalidCommand_InvalidModule => first | k_is | kernel_rfl)
    (case kt_InvalidCommand_InvalidText => first | k_is | kernel_rfl)
    (case kt_InvalidCommand_InvalidProject => first | k_is | kernel_rfl)
    (case kt_InvalidCommand_InvalidQuestion => first | k_is | kernel_rfl)
    (case kt_InvalidCommand_Refused => first | k_is | kernel_rfl)
    (case kt_InvalidCommand_InvalidCommand => first | k_is | kernel_rfl)
    (case kv_InvalidModule => first | k_is | kernel_rfl)
    (case kv_InvalidText => first | k_is | kernel_rfl)
    (case kv_InvalidProject => first | k_is | kernel_rfl)
    (case kv_InvalidQuestion => first | k_is | kernel_rfl)
    (case kv_Refused => first | k_is | kernel_rfl)
    (case kv_InvalidCommand => first | k_is | kernel_rfl)
    (case xa_SameError => k_is)
    (case xe_SameError_InvalidModule => first | k_is | kernel_rfl)
    (case xe_SameError_InvalidText => first | k_is | kernel_rfl)
    (case xe_SameError_InvalidProject => first | k_is | kernel_rfl)
    (case xe_SameError_InvalidQuestion => first | k_is | kernel_rfl)
    (case xe_SameError_Refused => first | k_is | kernel_rfl)
    (case xe_SameError_InvalidCommand => first | k_is | kernel_rfl)
    all_goals exact (fun _ => 0)
