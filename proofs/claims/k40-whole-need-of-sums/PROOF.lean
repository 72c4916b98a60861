import PyProof.Rows.All
import Wide.All
import OpenK.AllK
import Wide.FinOn
import HandS.ForMost
import HandS.Zip
import HandS.TupMul
import HandS.Codes
import KE.GoesMore
import KE.GoesEnum
import HandS.Defaults
import HandS.IsInst
import HandS.Wide
import HandS.WideBits
import HandS.NoneIn
import HandS.OwnEq
import HandS.Star
import HandS.SetTxtIn
import HandS.ExcInit
import HandS.ExcField
import HandS.ExcIs
import HandS.Nested
import HandS.ClsMeth
import HandS.HeadHook1
import KE.KSuper
import KE.KExcSuper
import HandS.WordsExc
import HandS.ExcInitHot
import KE.KExcIs
import HandS.HeadHook2
import HandS.Property
import HandS.Head0
import HandS.Head1
import HandS.Head2
import HandS.HeadEnd
import HandS.NamedTupGet
import HandS.ExcCtx
import HandS.ExcOwn
import HandS.More
import HandS.FStr
import HandS.SortKw
import KE.DatumOrd
import HandS.Strs
import KE.SortKeyHeap
import HandS.Conv
import HandS.Small
import KE.KOpsOwn
import HandS.Style
import HandS.TupAny
import PySem.Challenge.RW_signedpacts_k40_whole_need_of_sums
set_option Elab.async false
set_option linter.all false
set_option maxRecDepth 100000
set_option maxHeartbeats 4000000
namespace Z
open PySem PySem.Spec PyProof.Rows L2
/-! ### zip over two sequences, each a list (true) or a tuple (false) -/
def SqK (b : Bool) (K : PySem.W.Frag) (H : Hp) (a : Addr) (xs : List V) : Prop := match b with
  | true => SqL K H a xs
  | false => SqT K H a xs
def ItK (b : Bool) (h : Heap) (it l : Addr) (i : Nat) : Prop := match b with
  | true => h.IsListIter it l i
  | false => h.IsTupleIter it l i
def IsK (b : Bool) (h : Heap) (l : Addr) (xs : Array Value) : Prop := match b with
  | true => h.IsList l xs
  | false => h.IsTuple l xs
theorem ItK.at' {b : Bool} {h h' : Heap} {it l : Addr} {i : Nat} (x : ItK b h it l i) (k : ∀ o, h.get? it = some o → h'.get? it = some o) : ItK b h' it l i := by
  cases b
  · exact Heap.IsTupleIter.at x k
  · exact Heap.IsListIter.at x k
theorem ItK.obj {b : Bool} {h : Heap} {it l : Addr} {i : Nat} (x : ItK b h it l i) : ∃ o, h.get? it = some o ∧ ∀ v, o.data ≠ .cell v := by
  cases b
  · obtain ⟨o, e, _, d⟩ := (show h.IsTupleIter it l i from x)
    exact ⟨o, e, fun v q => by rw [d] at q; cases q⟩
  · obtain ⟨o, e, _, d⟩ := (show h.IsListIter it l i from x)
    exact ⟨o, e, fun v q => by rw [d] at q; cases q⟩
theorem sqk_is {X : Cx} {pins : List (Addr × Obj)} {σ : L2.St} {H : Hp} {s : Shared} {b : Bool} {a : Addr} {xs : List V} (I : Inv X pins σ H s) (h : SqK b X.K H a xs) :
    ∃ its : List Value, Vals xs its ∧ IsK b s.heap a its.toArray ∧ a < s.heap.objs.size := by
  cases b
  · obtain ⟨its, r, p, _⟩ := I.tuple h
    obtain ⟨o, ho, _⟩ := id p
    exact ⟨its, r, p, Heap.lt_size ho⟩
  · obtain ⟨its, r, p, _⟩ := I.list h
    exact ⟨its, r, p.isList, p.lt⟩
theorem sqk_inj {X : Cx} {pins : List (Addr × Obj)} {σ : L2.St} {H : Hp} {s : Shared} {b : Bool} {a : Addr} {xs ys : List V} (I : Inv X pins σ H s) (h : SqK b X.K H a xs) (h' : SqK b X.K H a ys) : xs = ys := by
  cases b
  · exact I.tuple_inj h h'
  · exact I.list_inj h h'
theorem drawsK {prog : Program} {w : World} {A : Around} (b : Bool) (hh : A.handled = none) (it l : Addr) (hne : l ≠ it) (items : Array Value) :
    Draws prog w A it [it, l] items.size (fun i v => items[i]? = some v) (fun i h => ItK b h it l i ∧ IsK b h l items) := by
  cases b
  · exact Draws.tuple hh it l hne items
  · exact Draws.list hh it l hne items
def ItzM (p q : Bool) (K : PySem.W.Frag) (a b : Addr) : It :=
  ⟨fun i H => ∃ (xs ys : List V) (x y : V), SqK p K H a xs ∧ SqK q K H b ys ∧ xs[i]? = some x ∧ ys[i]? = some y,
   fun i H v H' => ∃ T x y, v = .ref T ∧ H T = none ∧ H' = upd H T (.tup [x, y]) ∧ (∀ xs, SqK p K H a xs → xs[i]? = some x) ∧ (∀ ys, SqK q K H b ys → ys[i]? = some y),
   fun i H => ∃ xs ys : List V, SqK p K H a xs ∧ SqK q K H b ys ∧ (xs.length ≤ i ∨ ys.length ≤ i) ∧ i ≤ xs.length ∧ i ≤ ys.length⟩
theorem zsep {z TI TO i1 i2 a b : Addr} (D : ZipApart z TI TO i1 i2 a b) : ZipSep2 z TI TO i1 i2 [i1, a] [i2, b] where
  TIz := D.TIz
  TOz := D.TOz
  TITO := D.TITO
  TIi1 := D.TIi1
  mem1 := List.mem_cons_self
  zf1 := fun h => by rcases List.mem_cons.mp h with e | h; exact D.i1z e.symm; exact D.l1z (List.mem_singleton.mp h).symm
  Tf1 := fun h => by rcases List.mem_cons.mp h with e | h; exact D.TOi1 e; exact D.l1TO (List.mem_singleton.mp h).symm
  TIi2 := D.TIi2
  mem2 := List.mem_cons_self
  zf2 := fun h => by rcases List.mem_cons.mp h with e | h; exact D.i2z e.symm; exact D.l2z (List.mem_singleton.mp h).symm
  Tf2 := fun h => by rcases List.mem_cons.mp h with e | h; exact D.TOi2 e; exact D.l2TO (List.mem_singleton.mp h).symm
  sep1_2 := fun h => by rcases List.mem_cons.mp h with e | h; exact D.i12 e; exact D.l2i1 (List.mem_singleton.mp h).symm
  sep2_1 := fun h => by rcases List.mem_cons.mp h with e | h; exact D.i12 e.symm; exact D.l1i2 (List.mem_singleton.mp h).symm
theorem five {c z TI TO i1 i2 : Addr} {Pr : Addr → Prop} (hc : c ∈ [z, TI, TO, i1, i2]) (a : Pr z) (b : Pr TI) (d : Pr TO) (e : Pr i1) (f : Pr i2) : Pr c := by
  have q : c = z ∨ c = TI ∨ c = TO ∨ c = i1 ∨ c = i2 := by simpa using hc
  rcases q with rfl | rfl | rfl | rfl | rfl <;> assumption
theorem turn_zipM {p q : Bool} {P : Program} {w : World} {K : PySem.W.Frag} {elts : List Expr} {kk : Nat} {tpos : Pos} {a b z TI TO i1 i2 : Addr} (D : ZipApart z TI TO i1 i2 a b) :
    Turn P w K (.Tuple elts kk tpos) (ItzM p q K a b) [z, TI, TO, i1, i2] z (fun i h => IsZip h z TI TO .none ∧ IsTupOf2 h TI (.ref i1) (.ref i2) ∧ (∃ x y, IsTupOf2 h TO x y) ∧ ItK p h i1 a i ∧ ItK q h i2 b i) where
  mem := by simp
  obj := fun i h st c hc => by
    obtain ⟨hz, hI, ⟨x, y, hO⟩, h1, h2⟩ := st
    exact five (Pr := fun c => ∃ o, h.get? c = some o ∧ ∀ v, o.data ≠ .cell v) hc ⟨_, hz, fun v q => nomatch q⟩ ⟨_, hI, fun v q => nomatch q⟩ ⟨_, hO, fun v q => nomatch q⟩ h1.obj h2.obj
  keep := fun i h h' st k => by
    obtain ⟨hz, hI, ⟨x, y, hO⟩, h1, h2⟩ := st
    exact ⟨k z (by simp) _ hz, k TI (by simp) _ hI, ⟨x, y, k TO (by simp) _ hO⟩, h1.at' (fun o e => k i1 (by simp) o e), h2.at' (fun o e => k i2 (by simp) o e)⟩
  item := by
    intro X hP hw hK hc i pins s σ H E I hf st hg
    subst hP hw hK
    obtain ⟨hz, hI, ⟨x0, y0, hO⟩, h1, h2⟩ := st
    obtain ⟨xs, ys, x, y, qx, qy, ex, ey⟩ := hg
    obtain ⟨us, rx, kx, _⟩ := sqk_is I qx
    obtain ⟨vs, ry, ky, _⟩ := sqk_is I qy
    obtain ⟨u, eu, ru⟩ := rx.get ex
    obtain ⟨v, ev, rv⟩ := ry.get ey
    have hzl : z < s.heap.objs.size := Heap.lt_size hz
    have lu : i < us.toArray.size := by simpa using (List.getElem?_eq_some_iff.mp eu).1
    have lv : i < vs.toArray.size := by simpa using (List.getElem?_eq_some_iff.mp ev).1
    have hh : X.A.in1.handled = none := I.ok.hd hc
    refine wpAny_pyNext_zipD2_item (zsep D) (drawsK p hh i1 a D.l1i1 us.toArray) (drawsK q hh i2 b D.l2i2 vs.toArray) hz hI hO ⟨h1, kx⟩ ⟨h2, ky⟩ lu lv fun m1 m2 g tk p1 p2 gz gO g1 g2 gT gs gk => ?_
    have e1 : m1 = u := by
      have t1 : us.toArray[i]? = some u := by simpa using eu
      exact Option.some.inj (p1.symm.trans t1)
    have e2 : m2 = v := by
      have t1 : vs.toArray[i]? = some v := by simpa using ev
      exact Option.some.inj (p2.symm.trans t1)
    subst e1 e2
    refine ⟨_, rfl, wpAny_letOwnedTupleGo_zip (s := { s with heap := g, toks := tk }) gz fun g' gz' sb => ?_⟩
    have gT' : g'.get? s.heap.objs.size = some { cls := .type "tuple", data := .seq #[m1, m2] } := (sb.2 _ (Nat.ne_of_gt hzl)).trans gT
    have nw : ObjOk X.prog X.w (upd H s.heap.objs.size (.tup [x, y])) g' s.heap.objs.size (.tup [x, y]) := ⟨by show 2 ≤ sizeLine; decide, [m1, m2], .cons ru (.cons rv .nil), ⟨_, gT', rfl, _, rfl⟩⟩
    have I1 : Inv X pins σ (upd H s.heap.objs.size (.tup [x, y])) { s with heap := g', toks := tk } :=
      I.turnedNew (t' := tk) (ch := [z, TI, TO, i1, i2]) (fun c o nb e => (sb.2 c (fun w => nb (by simp [w]))).trans (gk c o (fun w => nb (by simp [w])) (fun w => nb (by simp [w])) (fun w => nb (by simp [w])) (fun w => nb (by simp [w])) e)) hf (Nat.le_refl _) nw
    refine ⟨.ref s.heap.objs.size, _, I1, rfl, ⟨_, x, y, rfl, I.hok.fresh (Nat.le_refl _), rfl, fun l hl => by rw [sqk_inj I hl qx]; exact ex, fun l hl => by rw [sqk_inj I hl qy]; exact ey⟩, ⟨gz', ?_, ⟨m1, m2, ?_⟩, ?_, ?_⟩, fun c hcm => ?_⟩
    · exact (sb.2 _ D.TIz).trans (gk _ _ D.TIz D.TITO D.TIi1 D.TIi2 hI)
    · exact (sb.2 _ D.TOz).trans gO
    · exact ItK.at' g1.1 (fun o e => (sb.2 _ D.i1z).trans e)
    · exact ItK.at' g2.1 (fun o e => (sb.2 _ D.i2z).trans e)
    · have lt : c < s.heap.objs.size := by
        obtain ⟨o1, q1, _⟩ := h1.obj
        obtain ⟨o2, q2, _⟩ := h2.obj
        exact five (Pr := fun c => c < s.heap.objs.size) hcm hzl (Heap.lt_size hI) (Heap.lt_size hO) (Heap.lt_size q1) (Heap.lt_size q2)
      rw [upd_ne (Nat.ne_of_lt lt)]
      exact (hf c hcm).1
  done := by
    intro X hP hw hK hc i pins s σ H E I hf st hg
    subst hP hw hK
    obtain ⟨hz, hI, ⟨x0, y0, hO⟩, h1, h2⟩ := st
    obtain ⟨xs, ys, qx, qy, hend, le1, le2⟩ := hg
    obtain ⟨us, rx, kx, _⟩ := sqk_is I qx
    obtain ⟨vs, ry, ky, _⟩ := sqk_is I qy
    have l1 := rx.length
    have l2 := ry.length
    have n1 : us.toArray.size = us.length := by simp
    have n2 : vs.toArray.size = vs.length := by simp
    have hh : X.A.in1.handled = none := I.ok.hd hc
    refine wpAny_pyNext_zipD2_end (i := i) (zsep D) (drawsK p hh i1 a D.l1i1 us.toArray) (drawsK q hh i2 b D.l2i2 vs.toArray) hz hI hO ⟨h1, kx⟩ ⟨h2, ky⟩ (by omega) (by omega) (by omega) fun g tk gk => ?_
    exact ⟨rfl, I.turnedL (t' := tk) (ch := [z, TI, TO, i1, i2]) (fun c o nb e => gk c o (fun w => nb (by simp [w])) (fun w => nb (by simp [w])) (fun w => nb (by simp [w])) (fun w => nb (by simp [w])) e) hf⟩
  self := fun A i s Q E st h => wpAny_pyIter_zip st.1 h
def iZipM (K : PySem.W.Frag) (ta : TA) : TI := fun σ H R => ta σ H fun vs H1 => ∃ p q a b xs ys, vs = [.ref a, .ref b] ∧ SqK p K H1 a xs ∧ SqK q K H1 b ys ∧ R (ItzM p q K a b) H1
theorem begK {p : Bool} {h : Heap} {a : Addr} {xs : Array Value} (k : IsK p h a xs) : ∃ o Hp', Begins (.ref a) o Hp' ∧ Hp' h ∧ ∀ h' it, h'.get? it = some o → ItK p h' it a 0 := by
  cases p
  · exact ⟨_, _, begins_tuple a xs, k, fun h' it e => ⟨_, e, rfl, rfl⟩⟩
  · exact ⟨_, _, begins_list a xs, k, fun h' it e => ⟨_, e, rfl, rfl⟩⟩
theorem pi_zipM {X : Cx} {e e2 : Expr} {ta : TA} {p pos tpos : Pos} {elts : List Expr} {kk : Nat} (hg : Gl X "zip") (hm : X.mg "zip" = none) (ha : PA X [e, e2] ta)
    (hs : starEach [e, e2] X.env = (false, eval e X.env) :: starEach [e2] X.env := by rfl) (hpl : (backTo pos (starEach [e2] X.env)).any (·.1) = false := by rfl) :
    PI X (.Tuple elts kk tpos) (.Call (.Name "zip" p) [e, e2] [] pos) (iZipM X.K ta) := by
  constructor
  intro pins s σ H R I h
  refine Call_ (ld_blt I hg hm PyProof.Rows.boot_zip (PyProof.Rows.callWith_type1 (thn (ha.run pos pins s σ H _ I h) fun us s1 ⟨vs, H1, I1, r1, q1⟩ => ?_) hs hpl))
  obtain ⟨k1, k2, a, b, xs, ys, ex, qx, qy, q⟩ := q1
  subst ex
  obtain ⟨u, v, rfl, ru, rv⟩ := Vals.two r1
  cases ru
  cases rv
  obtain ⟨i1, _, p1, lt1⟩ := sqk_is I1 qx
  obtain ⟨i2, _, p2, lt2⟩ := sqk_is I1 qy
  obtain ⟨o1, G1, B1, g1, w1⟩ := begK p1
  obtain ⟨o2, G2, B2, g2, w2⟩ := begK p2
  refine zip_begins2 B1 B2 g1 g2 fun h' hz hI hO e1 e2 hsz hk => wpAny_pyIter_zip hz ?_
  have I2 : Inv X pins σ H1 { s1 with heap := h' } := I1.kept (t' := s1.toks) hk
  refine ⟨s1.heap.objs.size + 4, [s1.heap.objs.size + 4, s1.heap.objs.size + 2, s1.heap.objs.size + 3, s1.heap.objs.size, s1.heap.objs.size + 1], _, _, H1, rfl, I2, turn_zipM (PySem.W.ktu_apart s1.heap.objs.size a b lt1 lt2), ⟨hz, hI, ⟨_, _, hO⟩, w1 _ _ e1, w2 _ _ e2⟩, fun c hcm => ?_, q⟩
  have hle : s1.heap.objs.size ≤ c := five (Pr := fun c => s1.heap.objs.size ≤ c) hcm (Nat.le_add_right _ _) (Nat.le_add_right _ _) (Nat.le_add_right _ _) (Nat.le_refl _) (Nat.le_add_right _ _)
  exact I1.fpOk hle (I1.hok.fresh hle)
end Z
set_option Elab.async false
set_option linter.all false
set_option maxRecDepth 100000
set_option maxHeartbeats 4000000
namespace Z
open PySem PySem.Spec PyProof.Rows L2
/-! ### (v,) * k for 0 ≤ k -/
theorem tmul0 (l : Addr) (v : Value) (n : Nat) (dd : Option Addr) (sl : Array (Option Value)) (u : Tok) :
    Meets (Builtin.«tuple.__mul__» ⟨[.ref l, .int 0 u], []⟩) (fun _ R s => s.heap.get? l = some { cls := .type "tuple", dict := dd, data := .seq #[v] n, slots := sl } ∧
      R (.ok (.ret (Value.ref s.heap.objs.size))) { s with heap := s.heap.push { cls := Value.type "tuple", data := Data.seq #[] }, toks := s.toks }) :=
  .of_wp fun prog w A R s h => by
    obtain ⟨hp, g, d, tk, os⟩ := s
    obtain ⟨hl, h⟩ := h
    have f1 := AutoSeq1.idx_int
    wp_walk using AutoSeq1.wpAny_loadPart' hl
    exact ⟨_, rfl, h⟩
theorem tmul1 (l : Addr) (items : Array Value) (n : Nat) (dd : Option Addr) (sl : Array (Option Value)) (u : Tok) :
    Meets (Builtin.«tuple.__mul__» ⟨[.ref l, .int 1 u], []⟩) (fun _ R s => s.heap.get? l = some { cls := .type "tuple", dict := dd, data := .seq items n, slots := sl } ∧ R (.ok (.ret (Value.ref l))) s) :=
  .of_wp fun prog w A R s h => by
    obtain ⟨hp, g, d, tk, os⟩ := s
    obtain ⟨hl, h⟩ := h
    have f1 := AutoSeq1.idx_int
    wp_walk using AutoSeq1.wpAny_loadPart' hl
    exact ⟨_, rfl, h⟩
theorem same_new {H : Hp} {p : Addr} {o : HO} (h : H p = none) : Same H (upd H p o) := fun b x e => by
  rw [upd_ne (ne_of_none e h)]
  exact e
def rRepU : R2 := fun x y H Q => ∃ l k v, x = .ref l ∧ y = .int k ∧ H l = some (.tup [v]) ∧ 0 ≤ k ∧ k ≤ 1000 ∧ ∀ p H', Same H H' → H' p = some (.tup (List.replicate k.toNat v)) → Q (.ref p) H'
theorem op_repU {X : Cx} : OpR X (binaryOp .Mult) rRepU := by
  intro pins s σ H x y vv uu Q I rx ry h
  obtain ⟨l, k, v, rfl, rfl, hT, h0, h1, q⟩ := id h
  by_cases k2 : 2 ≤ k
  · refine op_repT pins s σ H _ _ vv uu Q I rx ry ⟨l, k, [v], rfl, rfl, .inl (.inl hT), by simp, k2, h1, by simp, fun p np => q p _ (same_new np) ?_⟩
    rw [upd_same]
    congr 2
    generalize k.toNat = m
    induction m with
    | zero => rfl
    | succ m ih => rw [List.replicate_succ, List.flatten_cons, ih, List.replicate_succ]; rfl
  · cases rx
    obtain ⟨t, rfl⟩ := ry
    obtain ⟨its, r, ⟨⟨cls, dd, data, sl⟩, ho, hc, n, hd⟩, hs⟩ := I.tuple (.inl (.inl hT) : SqT X.K H l [v])
    simp only at hc hd
    subst hc hd
    obtain ⟨u, rfl, ru⟩ := Vals.one r
    by_cases k1 : k = 1
    · subst k1
      refine wpAny_binaryOp_repeat_ref (T := "tuple") (U := "int") (by decide) ⟨_, ho, rfl⟩ (fun s' => typeIs_int s' 1 t) noFill_tuple_mul F.fills_int_mul F.slot_int_rmul repeat_tuple F.slot_int_index.lookup
        (call_meets F.slot_int_rmul (typeIs_int s 1 t) F.entry_int_rmul (F.args_int_rmul_2 _ _) (int_rmul_tuple 1 t l [u].toArray n dd sl)
          ⟨ho, rfl, ⟨_, ho, rfl⟩, call_meets F.slot_tuple_mul ⟨_, ho, rfl⟩ F.entry_tuple_mul (F.args_tuple_mul_2 _ _) (tmul1 l [u].toArray n dd sl t) ⟨ho, ?_⟩⟩)
      exact ⟨.ref l, H, I, rfl, q l H (Same.refl H) hT⟩
    · have k0 : k = 0 := by omega
      subst k0
      refine wpAny_binaryOp_repeat_ref (T := "tuple") (U := "int") (by decide) ⟨_, ho, rfl⟩ (fun s' => typeIs_int s' 0 t) noFill_tuple_mul F.fills_int_mul F.slot_int_rmul repeat_tuple F.slot_int_index.lookup
        (call_meets F.slot_int_rmul (typeIs_int s 0 t) F.entry_int_rmul (F.args_int_rmul_2 _ _) (int_rmul_tuple 0 t l [u].toArray n dd sl)
          ⟨ho, rfl, ⟨_, ho, rfl⟩, call_meets F.slot_tuple_mul ⟨_, ho, rfl⟩ F.entry_tuple_mul (F.args_tuple_mul_2 _ _) (tmul0 l u n dd sl t) ⟨ho, ?_⟩⟩)
      refine ⟨.ref s.heap.objs.size, _, I.laid (t' := s.toks) (o := .tup []) (fun b ob z => Heap.get?_push_of_some _ z) (Nat.le_refl _) ?_, rfl, q _ _ (same_new (I.hok.fresh (Nat.le_refl _))) upd_same⟩
      exact ⟨Nat.zero_le _, [], .nil, IsTup.new _ _⟩
/-! ### loops and comprehensions over any iterator -/
def forW (J : It) (g : TG) (tb : TS) (D : Ends) (σ : L2.St) (H : Hp) : Prop := ∃ W : Nat → Nat → L2.St → Hp → Prop, (∃ m, W 0 m σ H) ∧ ∀ i m σ H, W i m σ H →
  (J.stop i H ∧ D.nx σ H) ∨ (J.go i H ∧ ∃ N : L2.St → Hp → Prop, (∀ σ' H', N σ' H' → ∃ m', m' < m ∧ W (i + 1) m' σ' H') ∧ ∀ x H', J.yld i H x H' → g x σ H' fun σ2 H2 => tb { D with nx := N, ct := N, bk := D.nx } σ2 H2)
theorem for_gen {J : It} {n : Nat} {g : TG} {tb : TS} {D : Ends} {σ : L2.St} {H : Hp} (Pv : Nat → L2.St → Hp → Prop) (h0 : Pv 0 σ H) (hgo : ∀ i σ H, i < n → Pv i σ H → J.go i H) (hst : ∀ σ H, Pv n σ H → J.stop n H)
    (hs : ∀ i σ H x H', i < n → Pv i σ H → J.yld i H x H' → g x σ H' fun σ2 H2 => tb { D with nx := Pv (i + 1), ct := Pv (i + 1), bk := D.nx } σ2 H2) (hd : ∀ σ H, Pv n σ H → D.nx σ H) : forW J g tb D σ H := by
  refine ⟨fun i m σ H => m = n - i ∧ i ≤ n ∧ Pv i σ H, ⟨n, by omega, Nat.zero_le _, h0⟩, fun i m σ H w => ?_⟩
  obtain ⟨rfl, hi, p⟩ := w
  by_cases hlt : i < n
  · exact .inr ⟨hgo i σ H hlt p, Pv (i + 1), fun σ' H' z => ⟨n - (i + 1), by omega, rfl, hlt, z⟩, fun x H' y => hs i σ H x H' hlt p y⟩
  · have e : i = n := by omega
    subst e
    exact .inl ⟨hst σ H p, hd σ H p⟩
def lcW (J : It) (g : TG) (tt : TT) (te : TE) (vs : List Nat) (σ : L2.St) (D : Addr) (Qd : Hp → Prop) (H1 : Hp) : Prop := ∃ W : Nat → Nat → Hp → Prop, (∃ m, W 0 m (upd H1 D (.lst []))) ∧ ∀ i m H, W i m H →
  (J.stop i H ∧ Qd H) ∨ (J.go i H ∧ ∃ Nx : Hp → Prop, (∀ H', Nx H' → ∃ m', m' < m ∧ W (i + 1) m' H') ∧ ∀ x H', J.yld i H x H' → g x (wipe σ vs) H' fun σ2 H2 => wipe σ2 vs = wipe σ vs ∧ tt σ2 H2 fun b H3 =>
    if b = true then te σ2 H3 fun y H4 => ∃ acc, H4 D = some (.lst acc) ∧ acc.length < sizeLine ∧ Nx (upd H4 D (.lst (acc ++ [y]))) else Nx H3)
theorem lc_gen {J : It} {n : Nat} {g : TG} {tt : TT} {te : TE} {vs : List Nat} {σ : L2.St} {H1 : Hp} {D : Addr} {Qd : Hp → Prop} (Pv : Nat → Hp → Prop) (h0 : Pv 0 (upd H1 D (.lst []))) (hgo : ∀ i H, i < n → Pv i H → J.go i H) (hst : ∀ H, Pv n H → J.stop n H)
    (hs : ∀ i H x H', i < n → Pv i H → J.yld i H x H' → g x (wipe σ vs) H' fun σ2 H2 => wipe σ2 vs = wipe σ vs ∧ tt σ2 H2 fun b H3 =>
      if b = true then te σ2 H3 fun y H4 => ∃ acc, H4 D = some (.lst acc) ∧ acc.length < sizeLine ∧ Pv (i + 1) (upd H4 D (.lst (acc ++ [y]))) else Pv (i + 1) H3) (hd : ∀ H, Pv n H → Qd H) : lcW J g tt te vs σ D Qd H1 := by
  refine ⟨fun i m H => m = n - i ∧ i ≤ n ∧ Pv i H, ⟨n, by omega, Nat.zero_le _, h0⟩, fun i m H w => ?_⟩
  obtain ⟨rfl, hi, p⟩ := w
  by_cases hlt : i < n
  · exact .inr ⟨hgo i H hlt p, Pv (i + 1), fun H' z => ⟨n - (i + 1), by omega, rfl, hlt, z⟩, fun x H' y => hs i H x H' hlt p y⟩
  · have e : i = n := by omega
    subst e
    exact .inl ⟨hst H p, hd H p⟩
/-! ### a def of the module that may be called by its name -/
structure Cal (P : Program) (w : World) (K : PySem.W.Frag) (mg : Str → Option Value) (base : Heap) (k : Nat) (x : Str) (sp : Sp) : Prop where
  ex : ∃ (f : Addr) (fd : FuncData) (ps : List Str), FnOk P w K mg base CX0 k f fd ps sp ∧ mg x = some (.ref f) ∧ PySem.W.keepIn K (.ref f) = true ∧ Binds K fd ps []
section
variable {X : Cx} {k j : Nat} {x : Str} {sp : Sp} {p pos : Pos} {e : Expr} {es : List Expr} {t : TA}
theorem pe_cl (c : Cal X.prog X.w X.K X.mg X.base k x sp) (hr : Room j X.A) (hk : k ≤ j) (hg : Gl X x) (ha : PA X (e :: es) t)
    (hdb : (x == ("__debug__" : Str)) = false := by decide) (he : starEach (e :: es) X.env = (false, eval e X.env) :: starEach es X.env := by rfl) (hpl : (backTo pos (starEach es X.env)).any (·.1) = false := by rfl) : PE X (.Call (.Name x p) (e :: es) [] pos) (tCall sp [] E0 t) := by
  obtain ⟨f, fd, ps, F, hm, kp, b⟩ := c.ex
  exact pe_call F (hr.mono hk) hg hm kp b .nil pass0 ha hdb he hpl
end
structure CalK (P : Program) (w : World) (K : PySem.W.Frag) (mg : Str → Option Value) (base : Heap) (k : Nat) (x : Str) (n : Nat) (ks : List Str) (gV : List V → List V → List V) (sp : Sp) : Prop where
  ex : ∃ (f : Addr) (fd : FuncData) (ps : List Str) (g : List Value → List Value → List Value), FnOk P w K mg base CX0 k f fd ps sp ∧ mg x = some (.ref f) ∧ PySem.W.keepIn K (.ref f) = true ∧ KBn K fd ps n ks g gV
section
variable {X : Cx} {k j n : Nat} {x : Str} {sp : Sp} {ks : List Str} {gV : List V → List V → List V} {p pos : Pos} {e : Expr} {es : List Expr} {kws : List Keyword} {t tk : TA}
theorem pe_clK (c : CalK X.prog X.w X.K X.mg X.base k x n ks gV sp) (hr : Room j X.A) (hk : k ≤ j) (hg : Gl X x) (ha : PA X (e :: es) t) (hkw : PK X kws tk)
    (hall : (backToKw pos (keywordEach kws X.env)).all (·.1.isSome) = true := by rfl) (hks : (backToKw pos (keywordEach kws X.env)).filterMap (·.1) = ks := by rfl) (hdb : (x == ("__debug__" : Str)) = false := by decide)
    (he : starEach (e :: es) X.env = (false, eval e X.env) :: starEach es X.env := by rfl) (hpl : ((backTo pos (starEach (e :: es) X.env)).any (·.1) || (backToKw pos (keywordEach kws X.env)).any (·.1.isNone)) = false := by rfl) :
    PE X (.Call (.Name x p) (e :: es) kws pos) (tCallN n ks.length sp gV E0 t tk) := by
  obtain ⟨f, fd, ps, g, F, hm, kp, b⟩ := c.ex
  exact pe_callN F (hr.mono hk) hg hm kp b pass0 ha hkw hall hks hdb he hpl
end
/-! ### heaps -/
/-- all but p stands -/
def SB (p : Addr) (H H' : Hp) : Prop := ∀ b o, b ≠ p → H b = some o → H' b = some o
theorem Same.sb {p : Addr} {H H' : Hp} (s : Same H H') : SB p H H' := fun b o _ h => s b o h
theorem SB.trans {p : Addr} {H H1 H2 : Hp} (a : SB p H H1) (b : SB p H1 H2) : SB p H H2 := fun c o n h => b c o n (a c o n h)
theorem SB.upd {p : Addr} {H H' : Hp} {o : HO} (s : SB p H H') : SB p H (upd H' p o) := fun b u n h => by
  rw [upd_ne n]
  exact s b u n h
theorem SB.same {p : Addr} {H H' : Hp} (s : SB p H H') (n : H p = none) : Same H H' := fun b o h => s b o (ne_of_none h n) h
theorem Same.mut {p : Addr} {H H' : Hp} {o : HO} (s : Same H H') (n : H p = none) : Same H (L2.upd H' p o) := fun b u h => by
  rw [upd_ne (ne_of_none h n)]
  exact s b u h
theorem SB.sq {K : PySem.W.Frag} {p a : Addr} {H H' : Hp} {xs : List V} (s : SB p H H') (n : a ≠ p) (h : SqL K H a xs) : SqL K H' a xs := by
  rcases h with (h | ⟨o, h⟩) | h
  · exact .inl (.inl (s _ _ n h))
  · exact .inl (.inr ⟨o, s _ _ n h⟩)
  · exact .inr h
theorem Same.sqT {K : PySem.W.Frag} {a : Addr} {H H' : Hp} {xs : List V} (s : Same H H') (h : SqT K H a xs) : SqT K H' a xs := by
  rcases h with (h | ⟨o, h⟩) | h
  · exact .inl (.inl (s _ _ h))
  · exact .inl (.inr ⟨o, s _ _ h⟩)
  · exact .inr h
theorem Same.sqK {b : Bool} {K : PySem.W.Frag} {a : Addr} {H H' : Hp} {xs : List V} (s : Same H H') (h : SqK b K H a xs) : SqK b K H' a xs := by
  cases b
  · exact Z.Same.sqT s h
  · exact s.seq h
theorem at_map {α : Type} {f : α → V} {xs : List α} {i : Nat} {x : α} (h : xs[i]? = some x) : atI (xs.map f) (i : Int) = some (f x) := atI_nat (by rw [List.getElem?_map, h]; rfl)
theorem of_map {α : Type} {f : α → V} {xs : List α} {i : Nat} {v : V} (h : (xs.map f)[i]? = some v) : ∃ x, xs[i]? = some x ∧ v = f x := by
  rw [List.getElem?_map] at h
  cases e : xs[i]? with
  | none => rw [e] at h; cases h
  | some x => rw [e] at h; exact ⟨x, rfl, (Option.some.inj h).symm⟩
end Z
set_option Elab.async false
set_option linter.all false
set_option maxRecDepth 100000
set_option maxHeartbeats 4000000
namespace Z
open PySem PySem.Spec PyProof.Rows L2
/-! ### data -/
def sqD (b : Bool) (ds : List PyData) : PyData := match b with
  | true => .list ds
  | false => .tuple ds
def intsD (b : Bool) (ns : List Int) : PyData := sqD b (ns.map PyData.int)
def matD (b : Bool) (rs : List (List Int)) : PyData := sqD b (rs.map (intsD b))
theorem dp_sq {b : Bool} {K : PySem.W.Frag} {H : Hp} {a : Addr} {xs : List V} {ds : List PyData} (h : SqK b K H a xs) (d : DpAll K H xs ds) : Dp K H (.ref a) (sqD b ds) := by
  cases b
  · exact .tup h d
  · exact .lst h d
theorem dpa_ints {K : PySem.W.Frag} {H : Hp} : ∀ ns : List Int, DpAll K H (ns.map V.int) (ns.map PyData.int)
  | [] => .nil
  | n :: r => .cons (.int n) (dpa_ints r)
theorem dp_ints {b : Bool} {K : PySem.W.Frag} {H : Hp} {a : Addr} {ns : List Int} (h : SqK b K H a (ns.map V.int)) : Dp K H (.ref a) (intsD b ns) := dp_sq h (dpa_ints ns)
/-- a matrix: a list (or tuple) of lists (or tuples) of ints, at ps -/
def Mat (b : Bool) (K : PySem.W.Frag) (H : Hp) (a : Addr) (ps : List Addr) (rs : List (List Int)) : Prop := SqK b K H a (ps.map V.ref) ∧ ps.length = rs.length ∧ ∀ (i : Nat) (p : Addr) (r : List Int), ps[i]? = some p → rs[i]? = some r → SqK b K H p (r.map V.int)
theorem Mat.mono {b : Bool} {K : PySem.W.Frag} {H H' : Hp} {a : Addr} {ps : List Addr} {rs : List (List Int)} (s : Same H H') (m : Mat b K H a ps rs) : Mat b K H' a ps rs := ⟨Z.Same.sqK s m.1, m.2.1, fun i p r h1 h2 => Z.Same.sqK s (m.2.2 i p r h1 h2)⟩
theorem dpa_mat {b : Bool} {K : PySem.W.Frag} {H : Hp} : ∀ (ps : List Addr) (rs : List (List Int)), ps.length = rs.length → (∀ (i : Nat) (p : Addr) (r : List Int), ps[i]? = some p → rs[i]? = some r → SqK b K H p (r.map V.int)) → DpAll K H (ps.map V.ref) (rs.map (intsD b))
  | [], [], _, _ => .nil
  | p :: ps, r :: rs, hl, h => .cons (dp_ints (h 0 p r rfl rfl)) (dpa_mat ps rs (by simpa using hl) fun i q s h1 h2 => h (i + 1) q s h1 h2)
theorem Mat.dp {b : Bool} {K : PySem.W.Frag} {H : Hp} {a : Addr} {ps : List Addr} {rs : List (List Int)} (m : Mat b K H a ps rs) : Dp K H (.ref a) (matD b rs) := dp_sq m.1 (dpa_mat ps rs m.2.1 m.2.2)
theorem lay_ints : ∀ ns : List Int, PyData.canLayAll0 (ns.map PyData.int) = true
  | [] => rfl
  | n :: r => by
    rw [List.map_cons, PyData.canLayAll0, lay_ints r]
    rfl
theorem dep_ints : ∀ ns : List Int, PyData.depthAll (ns.map PyData.int) = 0
  | [] => rfl
  | n :: r => by
    rw [List.map_cons, PyData.depthAll, dep_ints r]
    rfl
theorem shaped_ints (b : Bool) (ns : List Int) : SeqAt.shaped (intsD b ns) = true := by
  unfold SeqAt.shaped intsD
  cases b
  · show (PyData.canLayAll0 (ns.map PyData.int) && decide (PyData.depthAll (ns.map PyData.int) + 1 ≤ 64)) = true
    rw [lay_ints, dep_ints]
    rfl
  · show (PyData.canLayAll0 (ns.map PyData.int) && decide (PyData.depthAll (ns.map PyData.int) + 1 ≤ 64)) = true
    rw [lay_ints, dep_ints]
    rfl
theorem lay_mat (b : Bool) : ∀ rs : List (List Int), PyData.canLayAll0 (rs.map (intsD b)) = true
  | [] => rfl
  | n :: r => by
    rw [List.map_cons, PyData.canLayAll0, lay_mat b r, SeqAt.canLay_of_shaped (shaped_ints b n)]
    rfl
theorem dep_mat (b : Bool) : ∀ rs : List (List Int), PyData.depthAll (rs.map (intsD b)) ≤ 1
  | [] => Nat.zero_le _
  | n :: r => by
    rw [List.map_cons, PyData.depthAll]
    have h := dep_mat b r
    have h2 : (intsD b n).depth = 1 := by
      cases b
      · show PyData.depthAll (n.map PyData.int) + 1 = 1
        rw [dep_ints]
      · show PyData.depthAll (n.map PyData.int) + 1 = 1
        rw [dep_ints]
    omega
theorem shaped_mat (b : Bool) (rs : List (List Int)) : SeqAt.shaped (matD b rs) = true := by
  have h := dep_mat b rs
  unfold SeqAt.shaped matD
  cases b
  · show (PyData.canLayAll0 (rs.map (intsD false)) && decide (PyData.depthAll (rs.map (intsD false)) + 1 ≤ 64)) = true
    rw [lay_mat, decide_eq_true (by omega)]
    rfl
  · show (PyData.canLayAll0 (rs.map (intsD true)) && decide (PyData.depthAll (rs.map (intsD true)) + 1 ≤ 64)) = true
    rw [lay_mat, decide_eq_true (by omega)]
    rfl
theorem same2 {K : PySem.W.Frag} {H : Hp} {x y : V} {d : PyData} {R : PyData → PyData → Prop} (hx : Dp K H x d) (hy : Dp K H y d) (hs : SeqAt.shaped d = true) (q : R d d) : ∃ d' e', Dp K H x d' ∧ Dp K H y e' ∧ SeqAt.shaped d' = true ∧ SeqAt.shaped e' = true ∧ R d' e' := ⟨d, d, hx, hy, hs, hs, q⟩
theorem eqv_same {d : PyData} (hs : SeqAt.shaped d = true) : PyData.eqv d d = true := SeqAt.eqv_refl d (SeqAt.canLay_of_shaped hs)
/-! ### a target that is one of two kinds -/
def gOr (t u : TG) : TG := fun v σ H Q => t v σ H Q ∨ u v σ H Q
theorem pg_or {X : Cx} {e : Expr} {t u : TG} (h1 : PG X e t) (h2 : PG X e u) : PG X e (gOr t u) := by
  refine ⟨fun pins s σ H v uu Q I r hw => ?_⟩
  rcases hw with h | h
  · exact h1.run pins s σ H v uu Q I r h
  · exact h2.run pins s σ H v uu Q I r h
/-! ### isinstance of built-in kinds -/
theorem isi {K : PySem.W.Frag} {H : Hp} {x : V} {T c : String} {b : Bool} {R : Bool → Prop} (t : TyOf K H x (.type T)) (h : kitB T c = some b) (q : R b) : ∃ (x' c' : V) (t' u' : Value) (b' : Bool), [x, .ty c] = [x', c'] ∧ ClsV c' u' ∧ TyX K H x' t' ∧ PySem.W.kitOne K t' u' = some b' ∧ R b' :=
  ⟨x, .ty c, .type T, .type c, b, rfl, .ty c, .base t, kit_ty h, q⟩
/-! ### rules by the written part itself (within a comprehension's block) -/
section
variable {X : Cx} {K : PySem.W.Frag}
theorem ix_list_K (h : X.K = K) : IxR X (rIxL K) := by subst h; exact ix_list
theorem ix_tup_K (h : X.K = K) : IxR X (rIxT K) := by subst h; exact ix_tup
theorem ix_seq_K (h : X.K = K) : IxR X (rIx K) := by subst h; exact ix_seq
theorem call_len_seq_K (h : X.K = K) : CallR X (.builtin "len") (fun xs H Q => ∃ p ys, xs = [.ref p] ∧ (SqL K H p ys ∨ SqT K H p ys) ∧ Q (.int ys.length) H) := by subst h; exact call_len_seq
theorem call_list_of_K (h : X.K = K) : CallR X (.type "list") (fun xs H Q => ∃ p ys, xs = [.ref p] ∧ (SqL K H p ys ∨ SqT K H p ys) ∧ ∀ l, H l = none → Q (.ref l) (upd H l (.lst ys))) := by subst h; exact call_list_of
theorem call_tuple_of_K (h : X.K = K) : CallR X (.type "tuple") (fun xs H Q => ∃ p ys, xs = [.ref p] ∧ ((SqL K H p ys ∧ ∀ l, H l = none → Q (.ref l) (upd H l (.tup ys))) ∨ (SqT K H p ys ∧ Q (.ref p) H))) := by subst h; exact call_tuple_of
theorem op_in_seq_K (h : X.K = K) : OpR X (compareOp .In) (rIn K false) := by subst h; exact op_in_seq
theorem op_notIn_seq_K (h : X.K = K) : OpR X (compareOp .NotIn) (rIn K true) := by subst h; exact op_notIn_seq
theorem op_eqD_K (h : X.K = K) (hu : X.A.units + 64 < cLine) : OpR X (compareOp .Eq) (rEqD K) := by subst h; exact op_eqD hu
theorem op_neD_K (h : X.K = K) (hu : X.A.units + 64 < cLine) : OpR X (compareOp .NotEq) (rNeD K) := by subst h; exact op_neD hu
theorem call_isi_K (h : X.K = K) : CallR X (.builtin "isinstance") (rIsi K) := by subst h; exact call_isi
end
/-! ### great products -/
theorem big_mul {i j : Int} (hi : i.natAbs < 2 ^ 4000) (hj : j.natAbs < 2 ^ 4000) : CMulX i j := mulx_ok hi hj (by decide)
/-! ### sums of multiples of rows -/
def combN (rs : List (List Int)) (fs : List Int) (w : Nat) : Nat → List Int
  | 0 => List.replicate w 0
  | n + 1 => List.zipWith (fun a b => a + fs.getD n 0 * b) (combN rs fs w n) (rs.getD n [])
theorem combN_len {rs : List (List Int)} {fs : List Int} {w : Nat} (h : ∀ r ∈ rs, r.length = w) : ∀ n, n ≤ rs.length → (combN rs fs w n).length = w
  | 0, _ => List.length_replicate
  | n + 1, hn => by
    rw [combN, List.length_zipWith, combN_len h n (by omega), List.getD_eq_getElem?_getD, List.getElem?_eq_getElem (by omega), Option.getD_some, h _ (List.getElem_mem _)]
    omega
theorem combN_at {rs : List (List Int)} {fs : List Int} {w i c : Nat} (hi : i < rs.length) (hf : i < fs.length) (c1 : c < (combN rs fs w i).length) (c2 : c < rs[i].length) : (combN rs fs w (i + 1))[c]? = some ((combN rs fs w i)[c] + fs[i] * rs[i][c]) := by
  have g1 : fs.getD i 0 = fs[i] := by rw [List.getD_eq_getElem?_getD, List.getElem?_eq_getElem hf]; rfl
  have g2 : rs.getD i [] = rs[i] := by rw [List.getD_eq_getElem?_getD, List.getElem?_eq_getElem hi]; rfl
  rw [combN, List.getElem?_zipWith, g1, g2, List.getElem?_eq_getElem c1, List.getElem?_eq_getElem c2]
end Z
set_option Elab.async false
set_option linter.all false
set_option maxRecDepth 100000
set_option maxHeartbeats 4000000
namespace Z
open PySem PySem.Spec PyProof.Rows L2
open C8 (pss_cut tCut)
local macro_rules | `(tactic| walk_at "num") => `(tactic| first | omega | decide | exact ⟨by omega, by omega⟩ | exact ⟨by omega, by omega, by omega⟩ | exact ⟨by decide, by decide, by decide⟩ | exact Or.inl ⟨by omega, by omega⟩ | exact Or.inr ⟨by omega, by omega⟩)
local macro_rules | `(tactic| walk_at "go") => `(tactic| repeat (first | refine ⟨_, rfl, ?_⟩ | refine ⟨_, _, rfl, rfl, ?_⟩ | refine ⟨_, _, rfl, rfl, (by walk_at "num"), ?_⟩ | refine Or.inl ⟨_, rfl, ?_⟩ | refine ⟨rfl, ?_⟩ | refine And.intro (by walk_at "num") ?_))
def topS (i : Nat) : Stmt := PySem.Challenge.pw_signedpacts_k40_whole_need_of_sums.main.body.getD i (.Pass ⟨0, 0, 0, 0⟩)
abbrev s_cell : Stmt := topS 54
abbrev N_cell : List Str := ["_law_script", "_law_k"]
abbrev P_cell : List Str := ["_law_script", "_law_k"]
theorem sc_cell : FnScope N_cell P_cell (defScope s_cell) := ⟨rfl, rfl, rfl, by decide +kernel, rfl, by decide +kernel, by decide +kernel⟩
abbrev s_draws : Stmt := topS 55
abbrev N_draws : List Str := ["_law_cell_here", "_law_many", "_law_rest", "_law_large", "_law_seed", "_law_found", "_law_k"]
abbrev P_draws : List Str := ["_law_cell_here", "_law_many"]
theorem sc_draws : FnScope N_draws P_draws (defScope s_draws) := ⟨rfl, rfl, rfl, by decide +kernel, rfl, by decide +kernel, by decide +kernel⟩
abbrev s_take : Stmt := topS 56
abbrev N_take : List Str := ["_law_draws_here", "_law_place"]
abbrev P_take : List Str := ["_law_draws_here", "_law_place"]
theorem sc_take : FnScope N_take P_take (defScope s_take) := ⟨rfl, rfl, rfl, by decide +kernel, rfl, by decide +kernel, by decide +kernel⟩
abbrev FnP (K : PySem.W.Frag) (x : Str) (st : Stmt) (f : Addr) (fd : FuncData) : Prop := FunD K x x (defArgs st) (defBody st) (defScope st) [] [] f fd
section
variable {P : Program} {w : World} {K : PySem.W.Frag} {mg : Str → Option Value} {base : Heap} {f : Addr} {fd : FuncData}
theorem cal_of {k : Nat} {x : Str} {st : Stmt} {ps : List Str} {sp : Sp} (F : FnP K x st f fd) (g : mg x = some (.ref f)) (b : Binds K fd ps []) (h : FnOk P w K mg base CX0 k f fd ps sp) : Cal P w K mg base k x sp := ⟨f, fd, ps, h, g, F.kp, b⟩
/-! ### _law_cell -/
def spCell (K : PySem.W.Frag) : Sp := fun vs H Q _ => ∃ (a : Addr) (ns : List Int) (k : Nat), vs = [.ref a, .int (k : Int)] ∧ SqL K H a (ns.map V.int) ∧ Q (.int (ns.getD k 0)) H
theorem ok_cell (F : FnP K "_law_cell" s_cell f fd) (m_len : mg "len" = none) (m_int : mg "int" = none) : FnOk P w K mg base CX0 1 f fd P_cell (spCell K) := by
  refine F.ok sc_cell (fun vs H Q E h => ?_) (fun cdv A outer s H vs Q E hr h => ?_)
  · obtain ⟨a, ns, k, rfl, _⟩ := h
    rfl
  · obtain ⟨a, ns, k, rfl, hS, q⟩ := h
    refine ⟨_, PSs.nox (pss_cons (ps_if (pt_cmpR op_lt (pv 1) (pe_callB call_len_seq (by rfl) m_len PySem.boot_len (pa_cons (pv 0) pa_nil)) (nomark _)) (pss_one (ps_ret (pe_callTy call_int1 (by rfl) m_int (by decide +kernel) (pa_cons (pe_ix ix_list (pv 0) (pv 1) (fun _ _ => rfl)) pa_nil)))) pss_nil)
      (pss_one (ps_ret pe_int))), ?_⟩
    walk_at "go"
    refine ⟨a, _, rfl, .inl hS, ?_⟩
    walk_at "go"
    rw [List.length_map]
    refine ite2 (fun e => ?_) (fun e => ?_)
    · have hk : k < ns.length := by have := of_decide_eq_true e; omega
      walk_at "go"
      refine ⟨a, _, _, _, rfl, rfl, hS, at_map (List.getElem?_eq_getElem hk), ?_⟩
      walk_at "go"
      rw [List.getD_eq_getElem?_getD, List.getElem?_eq_getElem hk] at q
      exact q
    · have hk : ¬ k < ns.length := fun z => e (decide_eq_true (by omega))
      rw [List.getD_eq_getElem?_getD, List.getElem?_eq_none (by omega)] at q
      exact q
/-! ### _law_draws -/
def Dr (n : Nat) (ds : List Int) : Prop := ds.length = n ∧ ∀ d ∈ ds, 0 ≤ d ∧ d < 1000000
def spDraws : Sp := fun vs H Q _ => ∃ (c : Int) (n : Nat), vs = [.int c, .int (n : Int)] ∧ n ≤ 100000 ∧ ∀ p ds, H p = none → Dr n ds → Q (.ref p) (upd H p (.lst (ds.map V.int)))
theorem ok_draws (F : FnP K "_law_draws" s_draws f fd) (m_int : mg "int" = none) (m_abs : mg "abs" = none) (m_range : mg "range" = none) : FnOk P w K mg base CX0 1 f fd P_draws spDraws := by
  refine F.ok sc_draws (fun vs H Q E h => ?_) (fun cdv A outer s H vs Q E hr h => ?_)
  · obtain ⟨c, n, rfl, _⟩ := h
    rfl
  · obtain ⟨c, n, rfl, hn, q⟩ := h
    refine ⟨_, PSs.nox (pss_cons (ps_set (i := 2) sc_draws.nd rfl (by first | exact .inl rfl | exact .inr rfl) (pe_callB call_abs (by rfl) m_abs (by decide +kernel) (pa_cons (pe_callTy call_int1 (by rfl) m_int (by decide +kernel) (pa_cons (pv 0) pa_nil)) pa_nil)))
      (pss_cons (ps_set (i := 3) sc_draws.nd rfl (by first | exact .inl rfl | exact .inr rfl) (pe_cmpR op_ge (pv 2) (pe_op op_pow pe_int pe_int) (nomark _)))
      (pss_cons (ps_set (i := 4) sc_draws.nd rfl (by first | exact .inl rfl | exact .inr rfl) (pe_op op_mod (pe_callTy call_int1 (by rfl) m_int (by decide +kernel) (pa_cons (pv 2) pa_nil)) pe_int))
      (pss_cons (ps_set (i := 5) sc_draws.nd rfl (by first | exact .inl rfl | exact .inr rfl) (pe_lst pa_nil))
      (pss_cons (ps_for PassesOwn.never rfl (pi_range1 (by rfl) m_range (pa_cons (pv 1) pa_nil)) (pg_name (i := 6) sc_draws.nd rfl (by first | exact .inl rfl | exact .inr rfl))
        (pss_cons (ps_set (i := 4) sc_draws.nd rfl (by first | exact .inl rfl | exact .inr rfl) (pe_op op_mod (pe_callTy call_int1 (by rfl) m_int (by decide +kernel) (pa_cons (pe_op op_add (pe_op op_add (pe_op op_mul (pv 4) pe_int) (pe_op op_mul pe_int (pv 6))) pe_int) pa_nil)) pe_int))
      (pss_one (ps_if (PW.pt (pw_and (pt_val (pv 3)) (pw_and1 (pt_cmpR op_gt (pv 2) pe_int (nomark _))))) (pss_cons (ps_expr (pe_bm PySem.F.plainAttrs_list PySem.F.slot_list_append PySem.F.type_list_append mt_append (pv 5) (pa_cons (pe_op op_mod (pe_callTy call_int1 (by rfl) m_int (by decide +kernel) (pa_cons (pv 2) pa_nil)) pe_int) pa_nil)))
      (pss_one (ps_set (i := 2) sc_draws.nd rfl (by first | exact .inl rfl | exact .inr rfl) (pe_op op_fdiv (pv 2) pe_int)))) (pss_one (ps_expr (pe_bm PySem.F.plainAttrs_list PySem.F.slot_list_append PySem.F.type_list_append mt_append (pv 5) (pa_cons (pe_op op_mod (pe_callTy call_int1 (by rfl) m_int (by decide +kernel) (pa_cons (pe_op op_fdiv (pe_op op_mod (pe_callTy call_int1 (by rfl) m_int (by decide +kernel) (pa_cons (pe_op op_add (pe_op op_mul (pv 4) pe_int) (pe_op op_mul pe_int (pv 6))) pa_nil)) pe_int) pe_int) pa_nil)) pe_int) pa_nil))))))))
      (pss_one (ps_ret (pv 5)))))))), ?_⟩
    walk_at "go"
    intro p np
    walk_at "go"
    refine for_gen (n := n) (fun i σ H1 => ∃ (r : Int) (z : Int) (ds : List Int) (v : Option V), 0 ≤ r ∧ 0 ≤ z ∧ z < 2147483647 ∧ Dr i ds ∧ H1 = upd H p (.lst (ds.map V.int)) ∧
      σ = [some (.int c), some (.int (n : Int)), some (.int r), some (.bl (decide ((10 : Int) ^ 18 ≤ (if c < 0 then -c else c)))), some (.int z), some (.ref p), v]) ?_ ?_ ?_ ?_ ?_
    · refine ⟨_, _, [], none, ?_, ?_, ?_, ⟨rfl, fun d hd => nomatch hd⟩, rfl, rfl⟩
      · split <;> omega
      · omega
      · omega
    · intro i σ H1 hi _
      show i < (n : Int).toNat
      omega
    · intro σ H1 _
      show (n : Int).toNat ≤ n
      omega
    · rintro i σ H1 x H' hi ⟨r, z, ds, v, hr0, hz0, hz1, hd, rfl, rfl⟩ ⟨rfl, rfl⟩
      have hlen : (ds.map V.int).length < sizeLine := by
        rw [List.length_map, hd.1]
        exact Nat.lt_of_lt_of_le hi (Nat.le_trans hn (by decide))
      have fin : ∀ (r' z' d : Int) (u : Option V), 0 ≤ r' → 0 ≤ z' → z' < 2147483647 → 0 ≤ d → d < 1000000 → ∃ (r : Int) (z : Int) (es : List Int) (v : Option V), 0 ≤ r ∧ 0 ≤ z ∧ z < 2147483647 ∧ Dr (i + 1) es ∧ upd (upd H p (.lst (ds.map V.int))) p (.lst (ds.map V.int ++ [.int d])) = upd H p (.lst (es.map V.int)) ∧
          [some (.int c), some (.int (n : Int)), some (.int r'), some (.bl (decide ((10 : Int) ^ 18 ≤ (if c < 0 then -c else c)))), some (.int z'), some (.ref p), u] = [some (.int c), some (.int (n : Int)), some (.int r), some (.bl (decide ((10 : Int) ^ 18 ≤ (if c < 0 then -c else c)))), some (.int z), some (.ref p), v] := by
        intro r' z' d u a1 a2 a3 a4 a5
        refine ⟨r', z', ds ++ [d], u, a1, a2, a3, ⟨by rw [List.length_append, hd.1]; rfl, fun x hx => ?_⟩, ?_, rfl⟩
        · rcases List.mem_append.mp hx with h | h
          · exact hd.2 x h
          · rw [List.mem_singleton.mp h]
            exact ⟨a4, a5⟩
        · rw [upd_upd, List.map_append]
          rfl
      walk_at "go"
      refine ite2 (fun e => ?_) (fun e => ?_)
      · walk_at "go"
        refine ite2 (fun e2 => ?_) (fun e2 => ?_)
        · walk_at "go"
          refine ⟨.inl ⟨rfl, _, .inl (.inl upd_same)⟩, ?_⟩
          walk_at "go"
          refine ⟨_, _, _, rfl, rfl, upd_same, hlen, ?_⟩
          walk_at "go"
          exact fin _ _ _ _ (by omega) (by omega) (by omega) (by omega) (by omega)
        · walk_at "go"
          refine ⟨.inl ⟨rfl, _, .inl (.inl upd_same)⟩, ?_⟩
          walk_at "go"
          refine ⟨_, _, _, rfl, rfl, upd_same, hlen, ?_⟩
          walk_at "go"
          exact fin _ _ _ _ (by omega) (by omega) (by omega) (by omega) (by omega)
      · walk_at "go"
        refine ⟨.inl ⟨rfl, _, .inl (.inl upd_same)⟩, ?_⟩
        walk_at "go"
        refine ⟨_, _, _, rfl, rfl, upd_same, hlen, ?_⟩
        walk_at "go"
        exact fin _ _ _ _ (by omega) (by omega) (by omega) (by omega) (by omega)
    · rintro σ H1 ⟨r, z, ds, v, hr0, hz0, hz1, hd, rfl, rfl⟩
      walk_at "go"
      exact q p ds np hd
/-! ### _law_take -/
def spTake (K : PySem.W.Frag) : Sp := fun vs H Q _ => ∃ (a p : Addr) (n m : Nat) (ds : List Int), vs = [.ref a, .ref p] ∧ SqL K H a (ds.map V.int) ∧ Dr n ds ∧ H p = some (.lst [.int (m : Int)]) ∧ a ≠ p ∧ ∀ r : Int, 0 ≤ r → r < 1000000 → Q (.int r) (upd H p (.lst [.int ((m + 1 : Nat) : Int)]))
theorem ok_take (F : FnP K "_law_take" s_take f fd) (m_len : mg "len" = none) : FnOk P w K mg base CX0 1 f fd P_take (spTake K) := by
  refine F.ok sc_take (fun vs H Q E h => ?_) (fun cdv A outer s H vs Q E hr h => ?_)
  · obtain ⟨a, p, n, m, ds, rfl, _⟩ := h
    rfl
  · obtain ⟨a, p, n, m, ds, rfl, hS, hd, hp, ne, q⟩ := h
    refine ⟨_, PSs.nox (pss_cons (ps_asg (pe_op op_add (pe_ix ix_list (pv 1) pe_int (fun _ _ => rfl)) pe_int) (pg_sub (pv 1) pe_int set_list))
      (pss_cons (ps_if (pt_cmpR op_gt (pe_ix ix_list (pv 1) pe_int (fun _ _ => rfl)) (pe_callB call_len_seq (by rfl) m_len PySem.boot_len (pa_cons (pv 0) pa_nil)) (nomark _)) (pss_one (ps_ret pe_int)) pss_nil)
      (pss_one (ps_ret (pe_ix ix_list (pv 0) (pe_op op_sub (pe_ix ix_list (pv 1) pe_int (fun _ _ => rfl)) pe_int) (fun _ _ => rfl)))))), ?_⟩
    have sb : SB p H (upd H p (.lst [.int ((m + 1 : Nat) : Int)])) := SB.upd (Z.Same.sb (Same.refl H))
    have hS' := sb.sq ne hS
    walk_at "go"
    refine ⟨p, _, 0, _, rfl, rfl, SqL.of hp, rfl, ?_⟩
    walk_at "go"
    refine ⟨p, _, 0, 0, rfl, rfl, hp, rfl, ?_⟩
    show tSeq _ _ _ _ (upd H p (.lst [.int ((m : Int) + 1)]))
    rw [show ((m : Int) + 1) = ((m + 1 : Nat) : Int) by omega]
    walk_at "go"
    refine ⟨p, _, 0, _, rfl, rfl, SqL.of upd_same, rfl, ?_⟩
    walk_at "go"
    refine ⟨a, _, rfl, .inl hS', ?_⟩
    walk_at "go"
    rw [List.length_map]
    refine ite2 (fun e => ?_) (fun e => ?_)
    · exact q 0 (by omega) (by omega)
    · have hk : m < ds.length := by
        apply Decidable.byContradiction
        intro z
        exact e (decide_eq_true (by omega))
      walk_at "go"
      refine ⟨p, _, 0, _, rfl, rfl, SqL.of upd_same, rfl, ?_⟩
      walk_at "go"
      refine ⟨a, _, _, _, rfl, rfl, hS', at_of (by omega) (show (ds.map V.int)[m]? = some (.int ds[m]) by rw [List.getElem?_map, List.getElem?_eq_getElem hk]; rfl), ?_⟩
      have h1 := hd.2 ds[m] (List.getElem_mem hk)
      exact q _ h1.1 h1.2
end
end Z
set_option Elab.async false
set_option linter.all false
set_option maxRecDepth 100000
set_option maxHeartbeats 4000000
namespace Z
open PySem PySem.Spec PyProof.Rows L2
/-! ### own classes: making, methods, calls of instances, == -/
structure Mak (P : Program) (w : World) (K : PySem.W.Frag) (mg : Str → Option Value) (base : Heap) (k : Nat) (x : Str) (sp : Sp) : Prop where
  ex : ∃ (C f : Addr) (fd : FuncData) (ps : List Str) (si : Sp), Mk K C f ∧ FnOk P w K mg base CX0 k f fd ps si ∧ mg x = some (.ref C) ∧ Binds K fd ps [] ∧
    ∀ vs H Q E, sp vs H Q E → ∀ n dx, H n = none → H dx = none → dx ≠ n → si (.ref n :: vs) (upd (upd H dx (.own n)) n (.ins C dx [])) (fun v H2 => v = .non ∧ Q (.ref n) H2) E
structure Met (P : Program) (w : World) (K : PySem.W.Frag) (mg : Str → Option Value) (base : Heap) (k : Nat) (C : Addr) (m : Str) (sp : Sp) : Prop where
  ex : ∃ (f : Addr) (fd : FuncData) (ps : List Str), Cls K C ∧ Meth K C m f ∧ FnOk P w K mg base CX0 k f fd ps sp ∧ Binds K fd ps []
section
variable {X : Cx} {k j : Nat} {x m : Str} {sp : Sp} {C : Addr} {p pos apos : Pos} {e o : Expr} {es : List Expr} {t : TA} {ta : TE}
theorem pe_mk (c : Mak X.prog X.w X.K X.mg X.base k x sp) (hr : Room j X.A) (hk : k + 1 ≤ j) (hg : Gl X x) (ha : PA X (e :: es) t)
    (hdb : (x == ("__debug__" : Str)) = false := by decide) (he : starEach (e :: es) X.env = (false, eval e X.env) :: starEach es X.env := by rfl) (hpl : (backTo pos (starEach es X.env)).any (·.1) = false := by rfl) : PE X (.Call (.Name x p) (e :: es) [] pos) (tCall sp [] E0 t) := by
  obtain ⟨C, f, fd, ps, si, M, F, hm, b, imp⟩ := c.ex
  constructor
  intro pins s σ H Q I h
  refine wpAny_Call_Name_kw (ld_glob I hg hm ?_ hdb)
  refine PySem.W.callWith_K (h₀ := X.base) I.ok.mod.kin M.kp (thn (ha.run pos pins s σ H _ I h) fun us s1 ⟨vs, H1, I1, r, q⟩ => ⟨I1.kIn, ?_⟩) he hpl
  have q2 : sp vs H1 Q E0 := by
    have z : sp (vs ++ []) H1 Q E0 := q
    rw [List.append_nil] at z
    exact z
  refine run_make (dvs := []) M F (hr.mono hk) b .nil pass0 I1 r (fun n dx n1 n2 n3 => ?_)
  rw [List.append_nil]
  exact imp _ _ _ _ q2 n dx n1 n2 n3
theorem pe_me {pl : Sem Bool} (c : Met X.prog X.w X.K X.mg X.base k C m sp) (he : PE X o ta) (hr : Room j X.A) (hk : k ≤ j) (ha : PA X (e :: es) t)
    (hst : starEach (e :: es) X.env = (false, eval e X.env) :: starEach es X.env := by rfl) (hpl : (backTo pos (starEach es X.env)).any (·.1) = false := by rfl)
    (ht : eval (.Call (.Attribute o m apos) (e :: es) [] pos) X.env = (do
      let ov ← eval o X.env
      standAt apos.atName
      let (f, first) ← holding [ov] (getMethod ov m pl)
      callWith pos f first (backTo pos (starEach (e :: es) X.env)) (backToKw pos (keywordEach [] X.env))) := by rfl) : PE X (.Call (.Attribute o m apos) (e :: es) [] pos) (tMeth C m sp [] E0 ta t) := by
  obtain ⟨f, fd, ps, cl, me, F, b⟩ := c.ex
  exact pe_meth he cl me F (hr.mono hk) b .nil pass0 ha hst hpl ht
theorem pe_me0 {pl : Sem Bool} (c : Met X.prog X.w X.K X.mg X.base k C m sp) (he : PE X o ta) (hr : Room j X.A) (hk : k ≤ j)
    (ht : eval (.Call (.Attribute o m apos) [] [] pos) X.env = (do
      let ov ← eval o X.env
      standAt apos.atName
      let (f, first) ← holding [ov] (getMethod ov m pl)
      callWith pos f first (backTo pos (starEach [] X.env)) (backToKw pos (keywordEach [] X.env))) := by rfl) : PE X (.Call (.Attribute o m apos) [] [] pos) (tMeth C m sp [] E0 ta tNil) := by
  obtain ⟨f, fd, ps, cl, me, F, b⟩ := c.ex
  exact pe_meth0 he cl me F (hr.mono hk) b .nil pass0 ht
end
/-! ### f(e, ..), f an instance of C -/
structure Cob (P : Program) (w : World) (K : PySem.W.Frag) (mg : Str → Option Value) (base : Heap) (k : Nat) (C : Addr) (sp : Sp) : Prop where
  ex : ∃ g : Addr, StX.CallO K C g ∧ FnR P w K mg base CX0 k g sp
def tCo (C : Addr) (sp : Sp) (tf : TE) (t : TA) : TE := fun σ H Q => tf σ H fun y H1 => ∃ a, y = V.ref a ∧ t σ H1 fun vs H2 => (∃ dx fs, H2 a = some (.ins C dx fs)) ∧ sp (V.ref a :: vs) H2 Q E0
section
variable {X : Cx} {k j : Nat} {sp : Sp} {C : Addr} {pos : Pos} {e fe : Expr} {es : List Expr} {t : TA} {tf : TE}
theorem pe_co (c : Cob X.prog X.w X.K X.mg X.base k C sp) (hf : PE X fe tf) (hr : Room j X.A) (hk : k ≤ j) (ha : PA X (e :: es) t)
    (ht : eval (.Call fe (e :: es) [] pos) X.env = (do callWith pos (← eval fe X.env) [] (backTo pos (starEach (e :: es) X.env)) (backToKw pos (keywordEach [] X.env))) := by rfl)
    (he : starEach (e :: es) X.env = (false, eval e X.env) :: starEach es X.env := by rfl) (hpl : (backTo pos (starEach es X.env)).any (·.1) = false := by rfl) : PE X (.Call fe (e :: es) [] pos) (tCo C sp tf t) := by
  obtain ⟨g, co, F⟩ := c.ex
  constructor
  intro pins s σ H Q I h
  refine Call_ (thn (hf.run pins s σ H _ I h) fun u s1 ⟨y, H1, I1, ry, a, ey, q⟩ => ?_) ht
  subst ey
  obtain rfl : u = Value.ref a := ry
  refine StX.callO_with (thn (ha.run pos pins s1 σ H1 _ I1 q) fun us s2 ⟨vs, H2, I2, r, hi, q2⟩ => ?_) he hpl
  have hi2 : StX.InsC X H2 a C := .inr hi
  obtain ⟨ox, od, J, hd⟩ := StX.insC_at I2 hi2
  exact ⟨⟨C, ox, od, J, hd⟩, StX.run_callO co F (hr.mono hk) pass0 I2 hi2 r q2⟩
end
/-! ### a == b by the class's own __eq__ -/
structure Eqo (P : Program) (w : World) (K : PySem.W.Frag) (mg : Str → Option Value) (base : Heap) (k : Nat) (C : Addr) (sp : Sp) : Prop where
  ex : ∃ (f : Addr) (fd : FuncData) (ps : List Str), FnOk P w K mg base CX0 k f fd ps sp ∧ PySem.W.findIn K (.ref C) "__eq__" = some (some (.ref f)) ∧ PySem.W.isFn K (.ref f) = true ∧ Binds K fd ps []
def rOwn (C : Addr) (sp : Sp) : R2 := fun x y H Q => ∃ a b dx dy fs gs, x = .ref a ∧ y = .ref b ∧ H a = some (.ins C dx fs) ∧ H b = some (.ins C dy gs) ∧ sp [.ref a, .ref b] H (fun v H' => ∃ r, v = .bl r ∧ Q v H') E0
theorem op_own {X : Cx} {k j : Nat} {C : Addr} {sp : Sp} (c : Eqo X.prog X.w X.K X.mg X.base k C sp) (hr : Room j X.A) (hk : k ≤ j) : OpR X (compareOp .Eq) (rOwn C sp) := by
  intro pins s σ H x y v u Q I rx ry hq
  obtain ⟨f, fd, ps, F, hs, hf, hb⟩ := c.ex
  obtain ⟨a, b, dx, dy, fs, gs, rfl, rfl, ha, hb', q⟩ := hq
  cases rx
  cases ry
  obtain ⟨mA, J, _⟩ := ins_get I.hok ha
  obtain ⟨mB, J', _⟩ := ins_get I.hok hb'
  obtain ⟨od, J, _⟩ := J.look
  obtain ⟨od', J', _⟩ := J'.look
  obtain ⟨m, hF⟩ := I.fr
  show wpAny (model X.prog X.w) X.A (richCompare .Eq (Value.ref a) (Value.ref b)) (EP X pins σ Q) X.xe s
  refine PySem.W.cmp_K (op := .Eq) (tb := .ref C) (hr.mono hk).units0 hF I.ok.mod.kin J J'.type (by simp [PySem.W.notFirst]) hs hf ?_
  have r2 : Vals [V.ref a, V.ref b] [Value.ref a, Value.ref b] := .cons rfl (.cons rfl .nil)
  refine thn (run_fn (dvs := []) F (hr.mono hk) hb .nil pass0 I r2 q) fun r s' z => ?_
  obtain ⟨v, H', I', rv, b', rfl, q'⟩ := z
  cases rv
  exact ⟨.bl b', H', I', rfl, q'⟩
end Z
set_option Elab.async false
set_option linter.all false
set_option maxRecDepth 100000
set_option maxHeartbeats 4000000
namespace Z
open PySem PySem.Spec PyProof.Rows L2 NdefX
/-! ### an own exception whose __init__ begins with super().__init__(..) -/
/-- what the written part says of it: the function f of the class C (cell cc, code c) -/
structure SupK (P : Program) (K : PySem.W.Frag) (C f c cc : Addr) (fd : FuncData) : Prop where
  lk : ∃ oc od osl, K.lookup f = some ⟨oc, od, .func fd, osl⟩
  code : ∃ (ccl : Value) (cdd : Option Addr) (vs : Array Value) (ccs : Array (Option Value)) (file : Str) (tf : Tok), K.lookup c = some ⟨ccl, cdd, .fields vs, ccs⟩ ∧ vs[2]? = some (.str file tf) ∧ ((P.main.file : Str) == file) = true
  cell : ∃ cl cld csl, K.lookup cc = some ⟨cl, cld, .cell (some (.ref C)), csl⟩
  top : (P.main.scope.names.lookup ("super" : Str)).isSome = false
  mro : PySem.W.mroIn K C (.ref C) = some true
  opq : PySem.W.nsIn K cStatics "thirdparty.any" = some none
  ini : PySem.W.ks_superIn K C C "__init__" = some (some (.builtin "ValueError.__init__"))
  sub : PySem.W.subIn K (.ref C) (.type "ValueError") = some true
  exi : PySem.W.excInitIn K C He.veBase "ValueError.__new__" = true
  oex : OexC K C
section
variable {CX : CXT} {P : Program} {w : World} {K : PySem.W.Frag} {mg : Str → Option Value} {base : Heap} {N ps : List Str} {F : NF} {f C a cc : Addr} {A : Around} {outer : List Env} {s0 s : Shared} {H0 H : Hp} {E : XK} {σ : L2.St}
/-- the bound __init__ called -/
theorem call_mw {X : Cx} {pins : List (Addr × Obj)} {u : Addr} {us : List Value} {Q : Value → Shared → Prop} {E : Value → Shared → Prop} {A : Around} (S : SupK X.prog X.K C f c cc fd) (I : Inv X ((u, PySem.W.kxs_mw "ValueError.__init__" a) :: pins) σ H s) (e : H a = some (exo a C none)) (hz : us.length ≤ sizeLine)
    (h : ∀ s', Inv X ((u, PySem.W.kxs_mw "ValueError.__init__" a) :: pins) σ H s' → Q .none s') : wpAny (model X.prog X.w) A (call (.ref u) us) Q E s := by
  have FB := F.excBase_ValueError
  obtain ⟨nm, N', qn, bs, bm, hdct, sn, sub, ab, col, dd, k0, k1, k2, k3, k5, hC, hT⟩ := PySem.W.excInit_of I.kIn S.exi
  have hu := (I.pin (u, PySem.W.kxs_mw "ValueError.__init__" a) (List.mem_append_right _ (List.mem_cons_self ..))).1
  obtain ⟨t1, he⟩ := exo_at I.hok e
  obtain ⟨hh, g, d, tk, os⟩ := s
  refine wpAny_call (codeAny_of_tree ?_)
  show wpAny _ A.in1 (callAny (.ref u) ⟨us, []⟩) _ _ _
  simp only [callAny]
  refine wpAny_bind (wpAny_load hu ?_)
  simp only [PySem.W.kxs_mw, show (Value.type "method-wrapper" == Value.type "method" || Value.type "method-wrapper" == Value.type "builtin_function_or_method" || Value.type "method-wrapper" == Value.type "method-wrapper") = true by decide, if_true]
  refine PySem.W.KFB.if_so (by decide) ?_
  refine wpAny_bind (PySem.W.check_bound_init FB.toExcCallFacts hC he rfl ?_)
  refine wpAny_bind (wpAny_pure (wpAny_pure ?_))
  refine ⟨plainId_quiet FB.init.plain _, codeAny_builtin FB.initEntry ?_⟩
  refine PySem.W.exc_init_tree (cls := .ref C) (t0 := t1) (dv := none) (c2 := .none) (c3 := .none) (b4 := .bool false) he hz fun h' k hx _ => ?_
  have J := I.write (t' := tk) (x := a) (e := a) (o := exo a C none) (by rw [e]; exact True.intro) (.inl rfl) k ⟨_, hx⟩ (exo_ok hx)
  have eu : upd H a (exo a C none) = H := by
    funext b
    by_cases hb : b = a
    · rw [hb, upd_same, e]
    · rw [upd_ne hb]
  rw [eu] at J
  exact h _ J
/-- super().__init__(e, ..), the first statement -/
theorem super_first {pl : Sem Bool} {fd : FuncData} {ar : Arg} {t : TA} {e : Expr} {es : List Expr} {p0 p1 p2 pos pos2 : Pos} {Qn : Hp → Prop} (S : SupK P K C f F.c cc fd) (hcl : F.cl = [(("__class__" : Str), cc)]) (hp : (fd.params.posonlyargs ++ fd.params.args).head? = some ar)
    (hks : F.scope.names.lookup ("super" : Str) = some .globalImplicit) (hkc : F.scope.names.lookup ("__class__" : Str) = some .free) (hka : F.scope.names.lookup ar.arg = some .local) (hk : F.scope.kind = .function) (m_super : mg "super" = none)
    (hN : N[0]? = some ar.arg) (ha : PA (ncx CX P w K mg base N F f A outer s0 H0 E) (e :: es) t) (I : Inv (ncx CX P w K mg base N F f A outer s0 H0 E) [] σ H s) (hs : σ[0]? = some (some (.ref a))) (hx : H a = some (exo a C none))
    (ht : t σ H fun vs H1 => vs.length ≤ 1000 ∧ H1 a = some (exo a C none) ∧ Qn H1)
    (hint : interactive (ncx CX P w K mg base N F f A outer s0 H0 E).env = false := by rfl) (hsw : swapsWith (.Call (.Attribute (.Call (.Name "super" p0) [] [] p1) "__init__" p2) (e :: es) [] pos) none pos2.line (ncx CX P w K mg base N F f A outer s0 H0 E).env = pure false := by rfl)
    (hev : eval (.Call (.Attribute (.Call (.Name "super" p0) [] [] p1) "__init__" p2) (e :: es) [] pos) (ncx CX P w K mg base N F f A outer s0 H0 E).env = (do
      let ov ← attributeBase (.Call (.Name "super" p0) [] [] p1) "__init__" (ncx CX P w K mg base N F f A outer s0 H0 E).env (eval (.Call (.Name "super" p0) [] [] p1) (ncx CX P w K mg base N F f A outer s0 H0 E).env)
      standAt p2.atName
      let (g, first) ← holding [ov] (getMethod ov "__init__" pl)
      callWith pos g first (backTo pos (starEach (e :: es) (ncx CX P w K mg base N F f A outer s0 H0 E).env)) []) := by rfl)
    (he : starEach (e :: es) (ncx CX P w K mg base N F f A outer s0 H0 E).env = (false, eval e (ncx CX P w K mg base N F f A outer s0 H0 E).env) :: starEach es (ncx CX P w K mg base N F f A outer s0 H0 E).env := by rfl) (hpl : (backTo pos (starEach es (ncx CX P w K mg base N F f A outer s0 H0 E).env)).any (·.1) = false := by rfl) :
    _root_.PySem.wpAt (model P w) (ncx CX P w K mg base N F f A outer s0 H0 E).A (.func F.body (ncx CX P w K mg base N F f A outer s0 H0 E).env) (exec (.Expr (.Call (.Attribute (.Call (.Name "super" p0) [] [] p1) "__init__" p2) (e :: es) [] pos) pos2) (ncx CX P w K mg base N F f A outer s0 H0 E).env)
      (fun fl s' => fl = .next ∧ ∃ H1, Inv (ncx CX P w K mg base N F f A outer s0 H0 E) [] σ H1 s' ∧ H1 a = some (exo a C none) ∧ Qn H1) (ncx CX P w K mg base N F f A outer s0 H0 E).xe s := by
  obtain ⟨oc, od, osl, lkf⟩ := S.lk
  obtain ⟨ccl, cdd, vs, ccs, file, tf, lkc, hvs, hfile⟩ := S.code
  obtain ⟨cl, cld, csl, lkcc⟩ := S.cell
  have KX : K.In s.heap := I.kIn
  obtain ⟨m, hn, hl⟩ := I.loc
  obtain ⟨u, ru, lu⟩ := hl 0 ar.arg (.ref a) hN hs (.inl hka)
  obtain rfl : u = .ref a := ru
  have hma : m ar.arg = some (.ref a) := by
    rcases lu with ⟨_, z⟩ | ⟨z, _⟩
    · exact z
    · rcases z with z | z
      · rw [show (ncx CX P w K mg base N F f A outer s0 H0 E).env.kindOf ar.arg = some .local from hka] at z; cases z
      · rw [show (ncx CX P w K mg base N F f A outer s0 H0 E).env.kindOf ar.arg = some .local from hka] at z; cases z
  obtain ⟨nm, q, NN, bs, bm, sn, sub, ab, col, dd, k0, k1, k2, k3, k5, hC, hbm⟩ := S.oex.cls
  obtain ⟨t1, hox⟩ := exo_at I.hok hx
  refine ks_wpAt_Expr_any (ks_wpAt_MethodCall ?_ hev) hint hsw
  refine ks_wpAt_super_base (env := (ncx CX P w K mg base N F f A outer s0 H0 E).env) (cc := F.c) hks hkc (by decide) rfl (KX _ _ lkf) rfl hp rfl (KX _ _ lkc) rfl hvs hfile S.top ?_
  obtain ⟨mb, h1, h2⟩ := I.mod.blt
  refine PySem.W.ks_loadName_global hk hks (Calls.loadGlobal_builtin (by rw [I.ok.glob]; exact I.mod.glob.keeps I.bk) m_super (by rw [I.ok.blt]; exact h1.keeps I.bk) ((h2 "super" (by decide)).trans (by decide +kernel)) ⟨rfl, ?_⟩)
  refine wpAny_loadName_free hk hkc (c := cc) (by show F.cl.lookup _ = _; rw [hcl]; rfl) ⟨_, KX _ _ lkcc, rfl⟩ ?_
  refine wpAny_loadName_local hk hka hn hma ?_
  refine ks_wpAny_isType_cls (KX _ _ hC) rfl ⟨rfl, ?_⟩
  obtain ⟨hh, g, d, tk, os⟩ := s
  refine ks_wpAny_call_super (KX _ _ hC) rfl hox rfl (fun c z => by cases z) (PySem.W.looks_mroIn KX S.mro) (fun h' eso kso => ?_)
  have I2 : Inv (ncx CX P w K mg base N F f A outer s0 H0 E) [] σ H ⟨h', g, d, tk, os⟩ := I.kept kso
  have KX2 : K.In h' := I2.kIn
  have hox2 := kso _ _ hox
  have IA : PySem.W.InstAt h' a _ C none := ⟨hox2, rfl, rfl, trivial⟩
  have hI : PySem.W.Looks (model P w) h' (isInstance (.ref a) (.type "ValueError")) true := IA.type.andThen (PySem.W.looks_subIn KX2 S.sub)
  have hm := S.ini
  cases hc : PySem.W.clsIn K C with
  | none =>
    unfold PySem.W.ks_superIn at hm
    rw [hc] at hm
    cases hm
  | some cd =>
    unfold PySem.W.ks_superIn at hm
    rw [hc] at hm
    refine PySem.W.kxs_getMethod PySem.W.kxs_ValueError eso (PySem.W.looks_opaque KX2 S.opq) (l₀ := cd.mro) ?_ rfl KX2 hm hI (PySem.W.ks_ne KX2 IA hc) (by decide) ?_
    · exact fun A Q E s k q => wpAny_bind ((PySem.W.looks_clsIn KX2 hc) A _ E s k (wpAny_pure q))
    · have I3 : Inv (ncx CX P w K mg base N F f A outer s0 H0 E) [(h'.objs.size, PySem.W.kxs_mw "ValueError.__init__" a)] σ H ⟨h'.push (PySem.W.kxs_mw "ValueError.__init__" a), g, d, tk + 1, os⟩ := ClX.pin_new I2 (fun b o e => Heap.get?_push_of_some _ e) (Nat.le_refl _) (Heap.get?_push_at rfl rfl) (fun v z => by cases z)
      rw [he]
      refine PySem.W.kxs_callWith (i := "ValueError.__init__") (x := a) (by show (false || (backTo pos (starEach es _)).any (·.1)) = false; rw [hpl]; rfl) ?_
      refine PySem.Calls.evalArgs_plain ?_
      have hrun := ha.run pos _ _ σ H _ I3 ht
      rw [he] at hrun
      refine thn hrun fun us s3 ⟨ws, H3, I4, r, q1, q2, q3⟩ => ?_
      refine ⟨ClX.pin_at I4, ?_⟩
      refine call_mw (X := ncx CX P w K mg base N F f A outer s0 H0 E) S I4 q2 (by show us.length ≤ sizeLine; rw [← r.length]; exact Nat.le_trans q1 (by decide)) fun s' I5 => ⟨rfl, H3, ClX.unpin I5, q2, q3⟩
theorem wpAt_to {M : Model} {A : Around} {c : Code} {α : Type} {m : Sem α} {Q Q' : α → Shared → Prop} {E : Value → Shared → Prop} {s : Shared} (h : _root_.PySem.wpAt M A c m Q E s) (hq : ∀ a s', Q a s' → Q' a s') : _root_.PySem.wpAt M A c m Q' E s := ks_wpAt_mono h hq fun _ _ z => z
/-- THE RULE: such an __init__, the rest of its body by its readings -/
theorem sup_ok {pl : Sem Bool} {fd : FuncData} {dV kV doc pm ct : Value} {an : Option Addr} {ar : Arg} {k : Nat} {sp : Sp} {txt : Str} {j : Nat} {p0 p1 p2 p3 pos pos2 : Pos} {rest : List Stmt} (hfd : fd = PySem.W.fnX F.name F.qual F.params F.body F.scope F.cl dV kV doc pm an (.ref F.c) ct)
    (S : SupK P K C f F.c cc fd) (hcd : PySem.W.codeIn K (.ref F.c) F.qual = true) (NS : NScope N ps ["__class__"] F.scope) (hcl : F.cl = [(("__class__" : Str), cc)]) (hp : (F.params.posonlyargs ++ F.params.args).head? = some ar) (hks : F.scope.names.lookup ("super" : Str) = some .globalImplicit) (m_super : mg "super" = none)
    (hN : N[0]? = some ar.arg) (hka : F.scope.names.lookup ar.arg = some .local)
    (hb : F.body = .Expr (.Call (.Attribute (.Call (.Name "super" p0) [] [] p1) "__init__" p2) [.Constant (.str txt) j p3] [] pos) pos2 :: rest)
    (len : ∀ vs H Q E, sp vs H Q E → vs.length = ps.length) (hself : ∀ vs H Q E, sp vs H Q E → ∃ a vs', vs = .ref a :: vs' ∧ H a = some (exo a C none))
    (hint : ∀ (A : Around) (outer : List Env) (s : Shared) (H : Hp) (E : XK), interactive (ncx CX P w K mg base N F f A outer s H E).env = false)
    (hsw : ∀ (A : Around) (outer : List Env) (s : Shared) (H : Hp) (E : XK), swapsWith (.Call (.Attribute (.Call (.Name "super" p0) [] [] p1) "__init__" p2) [.Constant (.str txt) j p3] [] pos) none pos2.line (ncx CX P w K mg base N F f A outer s H E).env = pure false)
    (hev : ∀ (A : Around) (outer : List Env) (s : Shared) (H : Hp) (E : XK), eval (.Call (.Attribute (.Call (.Name "super" p0) [] [] p1) "__init__" p2) [.Constant (.str txt) j p3] [] pos) (ncx CX P w K mg base N F f A outer s H E).env = (do
      let ov ← attributeBase (.Call (.Name "super" p0) [] [] p1) "__init__" (ncx CX P w K mg base N F f A outer s H E).env (eval (.Call (.Name "super" p0) [] [] p1) (ncx CX P w K mg base N F f A outer s H E).env)
      standAt p2.atName
      let (g, first) ← holding [ov] (getMethod ov "__init__" pl)
      callWith pos g first (backTo pos (starEach [.Constant (.str txt) j p3] (ncx CX P w K mg base N F f A outer s H E).env)) []))
    (hrest : ∀ (A : Around) (outer : List Env) (s : Shared) (H : Hp) (vs : List V) (Q : VK) (E : XK), sp vs H Q E → ∃ t, PSs (ncx CX P w K mg base N F f A outer s H E) rest t ∧ t { nx := fun _ H' => Q .non H', rt := Q } (startF N vs [some (.ref C)]) H) : FnOk P w K mg base CX (k + 1) f fd ps sp := by
  refine ⟨len, fun A outer s H args us vs Q E hr e0 hbn r hsp => ?_⟩
  have hl := len _ _ _ _ hsp
  have KX : K.In s.heap := e0.mod.kin.keeps fun b o e => (e0.bs b o e).1
  have lim : s.heap.NoLimit := e0.mod.nolimit.keeps fun b o e => (e0.bs b o e).1
  obtain ⟨oc, od, osl, lkf⟩ := S.lk
  obtain ⟨cl, cld, csl, lkcc⟩ := S.cell
  have CA : CellsAt F.cl ["__class__"] [some (.ref C)] s.heap H := by
    refine ⟨rfl, fun y c e => ?_, fun x y c e1 e2 => ?_, fun i y e => ?_⟩
    · rw [hcl] at e
      have ec : c = cc := by
        unfold List.lookup at e
        split at e
        · exact (Option.some.inj e).symm
        · cases e
      subst ec
      exact ⟨(e0.bs _ _ (e0.mod.kin _ _ lkcc)).2, _, _, KX _ _ lkcc, rfl⟩
    · rw [hcl] at e1 e2
      have k : ∀ z : Str, ([(("__class__" : Str), cc)] : List (Str × Addr)).lookup z = some c → z = "__class__" := fun z e => by
        unfold List.lookup at e
        split at e
        · next h => exact beq_iff_eq.mp h
        · cases e
      rw [k x e1, k y e2]
    · have ey : y = "__class__" := by
        cases i with
        | zero => exact (Option.some.inj e).symm
        | succ i => cases e
      subst ey
      refine ⟨cc, by rw [hcl]; rfl, fun v hv => ?_⟩
      have ei : i = 0 := by
        cases i with
        | zero => rfl
        | succ i => cases e
      subst ei
      obtain rfl : V.ref C = v := Option.some.inj (Option.some.inj hv)
      exact ⟨.ref C, rfl, _, KX _ _ lkcc, rfl⟩
  subst hfd
  refine ks_codeAny_call_defAt hr.depth (KX _ _ lkf) rfl lim (PySem.W.codeRec_of KX hcd) rfl hbn NS.nocell (fun ⟨n, _⟩ hy => NS.par n (List.of_mem_zip hy).1) (fun h₁ hns kp => ?_) NS.co NS.gen NS.kind
  show _root_.PySem.wpAt _ (ncx CX P w K mg base N F f A outer s H E).A (.func F.body (ncx CX P w K mg base N F f A outer s H E).env) (execs F.body (ncx CX P w K mg base N F f A outer s H E).env) _ (ncx CX P w K mg base N F f A outer s H E).xe _
  have I : Inv (ncx CX P w K mg base N F f A outer s H E) [] (startF N vs [some (.ref C)]) H { s with heap := h₁, toks := s.toks + (ps.zip us).length } := inv_startN NS hr.hd e0 hl r CA hns kp
  obtain ⟨a, vs', rfl, hx⟩ := hself _ _ _ _ hsp
  have hexe : execs F.body (ncx CX P w K mg base N F f A outer s H E).env = execs (.Expr (.Call (.Attribute (.Call (.Name "super" p0) [] [] p1) "__init__" p2) [.Constant (.str txt) j p3] [] pos) pos2 :: rest) (ncx CX P w K mg base N F f A outer s H E).env := by rw [hb]
  rw [hexe]
  refine ks_wpAt_execs_cons (wpAt_to (super_first (Qn := fun H1 => H1 = H) S hcl hp hks (NS.frk _ (List.mem_cons_self ..)) hka NS.kind m_super hN (pa_cons pe_str pa_nil) I rfl hx ⟨by simp, hx, rfl⟩ (hint A outer s H E) (hsw A outer s H E) (hev A outer s H E)) ?_)
  rintro fl s1 ⟨rfl, H1, I1, _, rfl⟩
  obtain ⟨t, ht, hq⟩ := hrest A outer s H1 _ Q E hsp
  refine wpAt_of_wpAny (wpAny_mono (ht.run [] _ _ H1 _ I1 hq) (fun fl s' hs => ?_) fun e s' hs => hs)
  have fin : ∀ {σ' : L2.St} {H' : Hp} {v : V} {u : Value}, Inv (ncx CX P w K mg base N F f A outer s H1 E) [] σ' H' s' → L2.RelV v u → Q v H' → CE outer P w H1 s Q u s' :=
    fun {σ' H' v u} J rv q => ⟨v, H', J.os, J.bare, J.base, J.hok, rv, q⟩
  cases fl with
  | ret u =>
    obtain ⟨v, σ', H', J, rv, q⟩ := hs
    exact fin J rv q
  | next =>
    obtain ⟨σ', H', J, q⟩ := hs
    exact fin (v := V.non) (u := Value.none) J rfl q
  | brk =>
    obtain ⟨_, _, _, q⟩ := hs
    exact False.elim q
  | cont =>
    obtain ⟨_, _, _, q⟩ := hs
    exact False.elim q
end
end Z
set_option Elab.async false
set_option linter.all false
set_option maxRecDepth 100000
set_option maxHeartbeats 4000000
namespace Z
open PySem PySem.Spec PyProof.Rows L2 NdefX
/-! ### class X(..): def __init__(self, v): super().__init__("text"); self.field = v -/
def spEx (C : Addr) (field : Str) : Sp := fun vs H Q _ => ∃ (a : Addr) (v : V), vs = [.ref a, v] ∧ H a = some (exo a C none) ∧ ∀ dx, H dx = none → dx ≠ a → Q .non (upd (upd H dx (exd dx [(field, v)])) a (exo a C (some dx)))
theorem exn_ok {P : Program} {w : World} {K : PySem.W.Frag} {mg : Str → Option Value} {base : Heap} {F : NF} {f C cc : Addr} {pl : Sem Bool} {fd : FuncData} {dV kV doc pm ct : Value} {an : Option Addr} {ar : Arg} {txt v field : Str} {j : Nat} {p0 p1 p2 p3 pos pos2 q1 q2 q3 q4 : Pos} (hfd : fd = PySem.W.fnX F.name F.qual F.params F.body F.scope F.cl dV kV doc pm an (.ref F.c) ct)
    (S : SupK P K C f F.c cc fd) (hcd : PySem.W.codeIn K (.ref F.c) F.qual = true) (NS : NScope ["self", v, "__class__"] ["self", v] ["__class__"] F.scope) (hcl : F.cl = [(("__class__" : Str), cc)]) (hp : (F.params.posonlyargs ++ F.params.args).head? = some ar) (har : ar.arg = "self") (hks : F.scope.names.lookup ("super" : Str) = some .globalImplicit) (m_super : mg "super" = none)
    (hno : PySem.W.findIn K (.ref C) field = some none) (hvd : (v == ("__debug__" : Str)) = false) (hvc : (v == ("__classdict__" : Str)) = false)
    (hb : F.body = [.Expr (.Call (.Attribute (.Call (.Name "super" p0) [] [] p1) "__init__" p2) [.Constant (.str txt) j p3] [] pos) pos2, .Assign [.Attribute (.Name "self" q1) field q2] (.Name v q3) q4])
    (hint : ∀ (A : Around) (outer : List Env) (s : Shared) (H : Hp) (E : XK), interactive (ncx CX0 P w K mg base ["self", v, "__class__"] F f A outer s H E).env = false)
    (hsw : ∀ (A : Around) (outer : List Env) (s : Shared) (H : Hp) (E : XK), swapsWith (.Call (.Attribute (.Call (.Name "super" p0) [] [] p1) "__init__" p2) [.Constant (.str txt) j p3] [] pos) none pos2.line (ncx CX0 P w K mg base ["self", v, "__class__"] F f A outer s H E).env = pure false)
    (hev : ∀ (A : Around) (outer : List Env) (s : Shared) (H : Hp) (E : XK), eval (.Call (.Attribute (.Call (.Name "super" p0) [] [] p1) "__init__" p2) [.Constant (.str txt) j p3] [] pos) (ncx CX0 P w K mg base ["self", v, "__class__"] F f A outer s H E).env = (do
      let ov ← attributeBase (.Call (.Name "super" p0) [] [] p1) "__init__" (ncx CX0 P w K mg base ["self", v, "__class__"] F f A outer s H E).env (eval (.Call (.Name "super" p0) [] [] p1) (ncx CX0 P w K mg base ["self", v, "__class__"] F f A outer s H E).env)
      standAt p2.atName
      let (g, first) ← holding [ov] (getMethod ov "__init__" pl)
      callWith pos g first (backTo pos (starEach [.Constant (.str txt) j p3] (ncx CX0 P w K mg base ["self", v, "__class__"] F f A outer s H E).env)) []))
    (hs2 : ∀ (A : Around) (outer : List Env) (s : Shared) (H : Hp) (E : XK), swapsWith (.Name v q3) (some (.Attribute (.Name "self" q1) field q2)) q4.line (ncx CX0 P w K mg base ["self", v, "__class__"] F f A outer s H E).env = pure false) : FnOk P w K mg base CX0 1 f fd ["self", v] (spEx C field) := by
  refine sup_ok (k := 0) (rest := [.Assign [.Attribute (.Name "self" q1) field q2] (.Name v q3) q4]) hfd S hcd NS hcl hp hks m_super (by rw [har]; rfl) (by rw [har]; exact NS.par _ (List.mem_cons_self ..)) hb (fun vs H Q E h => ?_) (fun vs H Q E h => ?_) hint hsw hev (fun A outer s H vs Q E h => ?_)
  · obtain ⟨a, y, rfl, _⟩ := h
    rfl
  · obtain ⟨a, y, rfl, hx, _⟩ := h
    exact ⟨a, [y], rfl, hx⟩
  · obtain ⟨a, y, rfl, hx, q⟩ := h
    refine ⟨_, pss_one (ps_ost (pe_var (i := 0) rfl (.inl (NS.par _ (List.mem_cons_self ..)))) (pe_var (i := 1) rfl (.inl (NS.par _ (List.mem_cons_of_mem _ (List.mem_cons_self ..)))) hvd hvc) (hs2 A outer s H E)), ?_⟩
    refine ⟨y, rfl, .ref a, rfl, a, C, rfl, S.oex, hno, .inl ⟨hx, fun dx n1 n2 => ?_⟩⟩
    exact q dx n1 n2
/-! ### raise X(e) -/
structure Exn (P : Program) (w : World) (K : PySem.W.Frag) (mg : Str → Option Value) (base : Heap) (x : Str) (C : Addr) (field : Str) : Prop where
  oex : OexC K C
  gl : mg x = some (.ref C)
  ini : ∃ fI fd ps, PySem.W.findIn K (.ref C) "__init__" = some (some (.ref fI)) ∧ PySem.W.typeIn K (.ref fI) = some (.type "function") ∧ FnOk P w K mg base CX0 1 fI fd ps (spEx C field) ∧ Binds K fd ps []
/-! ### C(e): the exception's object has no context -/
section
variable {X : Cx} {x : Str} {C g : Addr} {k : Nat} {fd : FuncData} {ps : List Str} {sp : Sp} {e : Expr} {ta : TA} {p pos : Pos}
/-- the two objects that type.__call__ lays -/
abbrev hp2 (h : Heap) (C : Addr) (us : List Value) : Heap :=
  (h.push (PySem.W.kdv_tup us)).push (PySem.HandSPX.excO C h.objs.size)
theorem hp2_keep {h : Heap} {us : List Value} (b : Addr) (o : Obj) (z : h.get? b = some o) :
    (hp2 h C us).get? b = some o := Heap.get?_push_of_some _ (Heap.get?_push_of_some _ z)
theorem hp2_at {h : Heap} {us : List Value} :
    (hp2 h C us).get? (h.objs.size + 1) = some (PySem.HandSPX.excO C h.objs.size) := by heap_get
theorem inv2 {pins : List (Addr × Obj)} {σ : L2.St} {H : Hp} {h : Heap} {gs : Array GenState} {dr : Drawn} {tk : Nat} {os : OsState} {us : List Value}
    (I : Inv X pins σ H ⟨h, gs, dr, tk, os⟩) :
    Inv X pins σ (upd H (h.objs.size + 1) (exo (h.objs.size + 1) C none)) ⟨hp2 h C us, gs, dr, tk, os⟩ :=
  I.laid (t' := tk) (a := h.objs.size + 1) (o := exo (h.objs.size + 1) C none) (h' := hp2 h C us)
    hp2_keep (Nat.le_succ _) (exo_ok hp2_at)
theorem pmkN (T : OexC X.K C)
    (iC : PySem.W.findIn X.K (.ref C) "__init__" = some (some (.ref g)))
    (tI : PySem.W.typeIn X.K (.ref g) = some (.type "function"))
    (F : FnOk X.prog X.w X.K X.mg X.base CX0 k g fd ps sp) (hr : Room (k + 1) X.A) (hb : Binds X.K fd ps [])
    (hg : Gl X x) (hm : X.mg x = some (.ref C)) (ha : PA X [e] ta)
    (hdb : (x == ("__debug__" : Str)) = false := by decide)
    (he : starEach [e] X.env = (false, eval e X.env) :: starEach [] X.env := by rfl)
    (hpl : (backTo pos (starEach [] X.env)).any (·.1) = false := by rfl) :
    L2N.PMk X (.Call (.Name x p) [e] [] pos) (tMkO C sp [] ta) := by
  intro pins s σ H Q I h
  obtain ⟨_, _, _, _, vm, _, _, _, _, _, _, _, _, _, _, atC, inM⟩ := T.cls
  refine wpAny_Call_Name_kw (ld_glob I hg hm ?_ hdb)
  refine PySem.W.callWith_K (h₀ := X.base) I.ok.mod.kin T.kC ?_ he hpl
  refine thn (ha.run pos pins s σ H _ I h) fun us s1 hh => ?_
  obtain ⟨vs, H1, J, r, few, q⟩ := hh
  refine ⟨J.kIn, ?_⟩
  obtain ⟨hp, gs, dr, tk, os⟩ := s1
  have q := q (hp.objs.size + 1) (J.hok.fresh (Nat.le_succ _))
  rw [List.append_nil] at q
  have J2 := inv2 (C := C) (us := us) J
  have r2 : Vals (V.ref (hp.objs.size + 1) :: vs) (Value.ref (hp.objs.size + 1) :: us) := .cons rfl r
  have len2 : (Value.ref (hp.objs.size + 1) :: us ++ []).length = ps.length := by
    rw [List.append_nil, ← r2.length]
    exact F.len _ _ _ _ q
  have b2 := hb _ (Value.ref (hp.objs.size + 1) :: us) J2.kIn len2
  rw [List.append_nil] at b2
  have few2 : us.length ≤ sizeLine := by
    have := Paired.length r
    rw [sizeLine_eq]
    omega
  have run := F.run _ X.stack _ _ _ _ _ _ _ (hr.make C us []) (J2.env0.make C us []) b2 r2 q
  refine wpAny_call (PySem.HandSPX.call_own PySem.F.excBase_ValueError (fun Y => PySem.HandSPX.refsVE_contains Y vm inM)
    (J.kIn _ _ atC) (PySem.W.looks_findIn J.kIn iC) (fun self => PySem.W.bind_fn J.kIn self tI) few2
    (codeAny_mono run fun res s' z => ?_))
  match res, z with
  | .error er, z => exact z.elim
  | .ok (.ret u), z =>
    obtain ⟨v, H2, eo, bare, un, ok2, rv, ev, d, fs, ea, ed, nd, q2⟩ := z
    subst ev
    obtain ⟨h2, g2, d2, t2, os'⟩ := s'
    obtain ⟨t0, G, J3, kG, ge, hoe, na⟩ := mk_end0 (d2 := d2) (t2 := t2) J (Nat.le_succ _) hp2_keep un ok2 eo bare ea ed nd
    refine ⟨rv, hp.objs.size + 1, _, _, ⟨G, g2, d2, t2, os'⟩, _, .ref C, some d, rfl, J3, kG, ge, hoe, ⟨rfl, rfl, fun ws ew => ?_⟩, rfl, rfl, na, rfl, bare, raises_own T.exC T.tyC, q2⟩
    cases ew
    rfl
end
section
variable {X : Cx} {x field : Str} {C : Addr} {j : Nat} {e : Expr} {ta : TA} {p pos pos2 : Pos} {W : WX}
theorem pmk_exn (c : Exn X.prog X.w X.K X.mg X.base x C field) (hr : Room j X.A) (hk : 2 ≤ j) (hg : Gl X x) (ha : PA X [e] ta) (hdb : (x == ("__debug__" : Str)) = false := by decide) (he : starEach [e] X.env = (false, eval e X.env) :: starEach [] X.env := by rfl) (hpl : (backTo pos (starEach [] X.env)).any (·.1) = false := by rfl) :
    L2N.PMk X (.Call (.Name x p) [e] [] pos) (tMkO C (spEx C field) [] ta) := by
  obtain ⟨fI, fd, ps, iC, tI, F1, b⟩ := c.ini
  exact pmkN (X := X) (pos := pos) (p := p) c.oex iC tI F1 (hr.mono hk) b hg c.gl ha hdb he hpl
/-- raise X(e) -/
theorem ps_exn (hc : X.calm = true) (tk : L2N.Takes X W) (c : Exn X.prog X.w X.K X.mg X.base x C field) (hr : Room j X.A) (hk : 2 ≤ j) (hg : Gl X x) (ha : PA X [e] ta) (hdb : (x == ("__debug__" : Str)) = false := by decide) (he : starEach [e] X.env = (false, eval e X.env) :: starEach [] X.env := by rfl) (hpl : (backTo pos (starEach [] X.env)).any (·.1) = false := by rfl) :
    PS X (.Raise (some (.Call (.Name x p) [e] [] pos)) none pos2) (fun _ σ H => tMkO C (spEx C field) [] ta σ H fun cls d H' => W cls d σ H') := L2N.ps_raise hc tk (pmk_exn c hr hk hg ha hdb he hpl)
end
/-- what is left to show of X(v) -/
theorem mkx_of {C : Addr} {field : Str} {v : V} {H1 : Hp} {Q : XK} (q : ∀ d, H1 d = none → Q (.ref C) (some d) (upd H1 d (.xd [(field, v)]))) :
    [v].length ≤ 1000 ∧ ∀ a, H1 a = none → spEx C field (.ref a :: ([v] ++ [])) (upd H1 a (exo a C none)) (fun v H2 => v = .non ∧ ∃ (d : Addr) (fs : List (Str × V)), H2 a = some (exo a C (some d)) ∧ H2 d = some (exd d fs) ∧ H1 d = none ∧ Q (.ref C) (some d) (upd (del H2 a) d (.xd fs))) (fun _ _ _ => False) := by
  refine ⟨by simp, fun a na => ⟨a, v, rfl, upd_same, fun dx n1 n2 => ⟨rfl, dx, [(field, v)], upd_same, ?_, ?_, ?_⟩⟩⟩
  · rw [upd_ne n2, upd_same]
  · rw [← n1, upd_ne n2]
  · have n3 : H1 dx = none := by rw [← n1, upd_ne n2]
    have e1 : upd (del (upd (upd (upd H1 a (exo a C none)) dx (exd dx [(field, v)])) a (exo a C (some dx))) a) dx (.xd [(field, v)]) = upd H1 dx (.xd [(field, v)]) := by
      funext b
      by_cases hb : b = dx
      · rw [hb, upd_same, upd_same]
      · rw [upd_ne hb, upd_ne hb]
        by_cases ha2 : b = a
        · rw [ha2, del_same, na]
        · rw [del_ne ha2, upd_ne ha2, upd_ne hb, upd_ne ha2]
    rw [e1]
    exact q dx n3
/-! ### calls that may raise -/
structure CalX (P : Program) (w : World) (K : PySem.W.Frag) (mg : Str → Option Value) (base : Heap) (k : Nat) (x : Str) (sp : Sp) : Prop where
  ex : ∃ (f : Addr) (fd : FuncData) (ps : List Str), FnOk P w K mg base (L2N.CX P w) k f fd ps sp ∧ mg x = some (.ref f) ∧ PySem.W.keepIn K (.ref f) = true ∧ Binds K fd ps []
structure MakX (P : Program) (w : World) (K : PySem.W.Frag) (mg : Str → Option Value) (base : Heap) (k : Nat) (x : Str) (C : Addr) (sp : Sp) : Prop where
  ex : ∃ (f : Addr) (fd : FuncData) (ps : List Str), Mk K C f ∧ FnOk P w K mg base (L2N.CX P w) k f fd ps sp ∧ mg x = some (.ref C) ∧ Binds K fd ps []
structure MetX (P : Program) (w : World) (K : PySem.W.Frag) (mg : Str → Option Value) (base : Heap) (k : Nat) (C : Addr) (m : Str) (sp : Sp) : Prop where
  ex : ∃ (f : Addr) (fd : FuncData) (ps : List Str), Cls K C ∧ Meth K C m f ∧ FnOk P w K mg base (L2N.CX P w) k f fd ps sp ∧ Binds K fd ps []
structure CobX (P : Program) (w : World) (K : PySem.W.Frag) (mg : Str → Option Value) (base : Heap) (k : Nat) (C : Addr) (sp : Sp) : Prop where
  ex : ∃ (g : Addr) (fd : FuncData) (ps : List Str), StX.CallO K C g ∧ FnOk P w K mg base (L2N.CX P w) k g fd ps sp ∧ Binds K fd ps []
/-- C(e, ..) by its __init__'s promise; what is raised at the slots -/
def tMkW (C : Addr) (sp : Sp) (E : L2.St → XK) (t : TA) : TE := fun σ H Q => t σ H fun vs H1 => ∀ n dx, H1 n = none → H1 dx = none → dx ≠ n → sp (.ref n :: vs) (upd (upd H1 dx (.own n)) n (.ins C dx [])) (fun v H2 => v = .non ∧ Q (.ref n) H2) (E σ)
def tCoW (C : Addr) (sp : Sp) (E : L2.St → XK) (tf : TE) (t : TA) : TE := fun σ H Q => tf σ H fun y H1 => ∃ a, y = V.ref a ∧ t σ H1 fun vs H2 => (∃ dx fs, H2 a = some (.ins C dx fs)) ∧ sp (V.ref a :: vs) H2 Q (E σ)
def tMeW (C : Addr) (m : Str) (sp : Sp) (E : L2.St → XK) (ta : TE) (t : TA) : TE := fun σ H Q => ta σ H fun x H1 => ∃ a dx fs, x = V.ref a ∧ H1 a = some (.ins C dx fs) ∧ List.lookup m fs = none ∧ t σ H1 fun vs H2 => sp (x :: vs) H2 Q (E σ)
section
variable {X : Cx} {k j : Nat} {x m : Str} {sp : Sp} {C : Addr} {p pos apos : Pos} {e o fe : Expr} {es : List Expr} {t : TA} {ta tf : TE} {W : WX} {E : L2.St → XK}
theorem passS0 {σ : L2.St} : PassesAt (L2N.CX X.prog X.w) X σ E0 := fun _ _ _ _ _ _ h => by
  obtain ⟨_, _, _, _, _, _, _, _, _, _, _, _, z⟩ := h
  exact z.elim
/-- any result of a promise, at the slots -/
theorem back_at {σ : L2.St} {H : Hp} {s : Shared} {pins : List (Addr × Obj)} {Q : VK} {E : XK} {CX : CXT} (hx : PassesAt CX X σ E) (I : Inv X pins σ H s) : ∀ (r : Result) (s' : Shared), CR CX X.stack X.prog X.w H s Q E r s' → match r with
    | .ok (.ret v) => EP X pins σ Q v s'
    | .ok _ => False
    | .error e => X.xe e s'
  | .error e, s', h => hx pins H s e s' I h
  | .ok (.ret u), s', h => I.after h
  | .ok .next, s', h => h
  | .ok .brk, s', h => h
  | .ok .cont, s', h => h
theorem pe_clE (c : CalX X.prog X.w X.K X.mg X.base k x sp) (hx : ∀ σ, PassesAt (L2N.CX X.prog X.w) X σ (E σ)) (hr : Room j X.A) (hk : k ≤ j) (hg : Gl X x) (ha : PA X (e :: es) t) (hdb : (x == ("__debug__" : Str)) = false := by decide) (he : starEach (e :: es) X.env = (false, eval e X.env) :: starEach es X.env := by rfl) (hpl : (backTo pos (starEach es X.env)).any (·.1) = false := by rfl) :
    PE X (.Call (.Name x p) (e :: es) [] pos) (tCallS sp E t) := by
  obtain ⟨f, fd, ps, F, hm, kp, b⟩ := c.ex
  exact pe_callS F (hr.mono hk) hg hm kp b hx ha hdb he hpl
theorem pe_mkE (c : MakX X.prog X.w X.K X.mg X.base k x C sp) (hx : ∀ σ, PassesAt (L2N.CX X.prog X.w) X σ (E σ)) (hr : Room j X.A) (hk : k + 1 ≤ j) (hg : Gl X x) (ha : PA X (e :: es) t) (hdb : (x == ("__debug__" : Str)) = false := by decide) (he : starEach (e :: es) X.env = (false, eval e X.env) :: starEach es X.env := by rfl) (hpl : (backTo pos (starEach es X.env)).any (·.1) = false := by rfl) :
    PE X (.Call (.Name x p) (e :: es) [] pos) (tMkW C sp E t) := by
  obtain ⟨f, fd, ps, M, F, hm, b⟩ := c.ex
  constructor
  intro pins s σ H Q I h
  refine wpAny_Call_Name_kw (ld_glob I hg hm ?_ hdb)
  refine PySem.W.callWith_K (h₀ := X.base) I.ok.mod.kin M.kp (thn (ha.run pos pins s σ H _ I h) fun us s1 z => ?_) he hpl
  obtain ⟨vs, H1, I1, rr, q⟩ := z
  refine ⟨I1.kIn, ?_⟩
  obtain ⟨n, hn⟩ : ∃ n, n = s1.heap.objs.size := ⟨_, rfl⟩
  have q1 := q (n + 1) n (I1.hok.fresh (by rw [hn]; exact Nat.le_succ _)) (I1.hok.fresh (by rw [hn]; exact Nat.le_refl _)) (Nat.ne_of_lt (Nat.lt_succ_self _))
  subst hn
  have J := Inv.made (C := C) I1
  have r3 : Vals (V.ref (s1.heap.objs.size + 1) :: vs) (Value.ref (s1.heap.objs.size + 1) :: us) := .cons rfl rr
  have b3 := b { s1 with heap := (s1.heap.push PySem.W.emptyDict).push (PySem.W.instObj C s1.heap.objs.size) } (Value.ref (s1.heap.objs.size + 1) :: us) J.kIn (by rw [List.append_nil, ← r3.length]; exact F.len _ _ _ _ q1)
  rw [List.append_nil] at b3
  have run := F.run _ X.stack _ _ _ _ _ _ _ ((hr.mono hk).make C us []) (J.env0.make C us []) b3 r3 q1
  refine wpAny_call (make_map (f := f) I1.kIn M.makes M.init (beq_iff_eq.mp M.fn) (codeAny_mono run fun r s' hq => ?_))
  have z := back_at (hx σ) J r s' hq
  match r, z with
  | .error e, z => exact z
  | .ok (.ret u), ⟨v, H', J', rv, ev, q3⟩ =>
    subst ev
    exact ⟨rv, V.ref (s1.heap.objs.size + 1), H', J', rfl, q3⟩
theorem run_atE {f : Addr} {fd : FuncData} {ps : List Str} {σ : L2.St} {H : Hp} {s : Shared} {pins : List (Addr × Obj)} {Q : VK} {us : List Value} {vs : List V} (F : FnOk X.prog X.w X.K X.mg X.base (L2N.CX X.prog X.w) k f fd ps sp) (b : Binds X.K fd ps []) (hx : PassesAt (L2N.CX X.prog X.w) X σ (E σ)) (hr : Room k X.A) (I : Inv X pins σ H s) (r : Vals vs us) (h : sp vs H Q (E σ)) :
    codeAny (model X.prog X.w) X.A (.call (.ref f) ⟨us, []⟩) (fun r s' => match r with | .ok (.ret v) => EP X pins σ Q v s' | .ok _ => False | .error e => X.xe e s') s := by
  have b3 := b s us I.kIn (by rw [List.append_nil, ← r.length]; exact F.len _ _ _ _ h)
  rw [List.append_nil] at b3
  exact codeAny_mono (F.run _ X.stack _ _ _ _ _ _ _ hr I.env0 b3 r h) (back_at hx I)
theorem pe_coE (c : CobX X.prog X.w X.K X.mg X.base k C sp) (hf : PE X fe tf) (hx : ∀ σ, PassesAt (L2N.CX X.prog X.w) X σ (E σ)) (hr : Room j X.A) (hk : k ≤ j) (ha : PA X (e :: es) t)
    (ht : eval (.Call fe (e :: es) [] pos) X.env = (do callWith pos (← eval fe X.env) [] (backTo pos (starEach (e :: es) X.env)) (backToKw pos (keywordEach [] X.env))) := by rfl)
    (he : starEach (e :: es) X.env = (false, eval e X.env) :: starEach es X.env := by rfl) (hpl : (backTo pos (starEach es X.env)).any (·.1) = false := by rfl) : PE X (.Call fe (e :: es) [] pos) (tCoW C sp E tf t) := by
  obtain ⟨g, fd, ps, co, F, b⟩ := c.ex
  constructor
  intro pins s σ H Q I h
  refine Call_ (thn (hf.run pins s σ H _ I h) fun u s1 ⟨y, H1, I1, ry, a, ey, q⟩ => ?_) ht
  subst ey
  obtain rfl : u = Value.ref a := ry
  refine StX.callO_with (thn (ha.run pos pins s1 σ H1 _ I1 q) fun us s2 z => ?_) he hpl
  obtain ⟨vs, H2, I2, r, hi, q2⟩ := z
  have hi2 : StX.InsC X H2 a C := .inr hi
  obtain ⟨ox, od, J, hd⟩ := StX.insC_at I2 hi2
  exact ⟨⟨C, ox, od, J, hd⟩, wpAny_call (PySem.W.kco_code I2.kIn J hd co.at_ co.fn co.fi (run_atE (vs := .ref a :: vs) (us := .ref a :: us) F b (hx σ) (hr.mono hk) I2 (.cons rfl r) q2))⟩
theorem pe_meE {pl : Sem Bool} (c : MetX X.prog X.w X.K X.mg X.base k C m sp) (ho : PE X o ta) (hx : ∀ σ, PassesAt (L2N.CX X.prog X.w) X σ (E σ)) (hr : Room j X.A) (hk : k ≤ j) (ha : PA X (e :: es) t)
    (hst : starEach (e :: es) X.env = (false, eval e X.env) :: starEach es X.env := by rfl) (hpl : (backTo pos (starEach es X.env)).any (·.1) = false := by rfl)
    (ht : eval (.Call (.Attribute o m apos) (e :: es) [] pos) X.env = (do
      let ov ← eval o X.env
      standAt apos.atName
      let (g, first) ← holding [ov] (getMethod ov m pl)
      callWith pos g first (backTo pos (starEach (e :: es) X.env)) (backToKw pos (keywordEach [] X.env))) := by rfl) : PE X (.Call (.Attribute o m apos) (e :: es) [] pos) (tMeW C m sp E ta t) := by
  obtain ⟨f, fd, ps, cl, me, F, b⟩ := c.ex
  constructor
  intro pins s σ H Q I h
  refine PySem.W.methodCall_KW (pl := pl) (thn (ho.run pins s σ H _ I h) fun u s1 z => ?_) ht
  obtain ⟨y, H1, I1, ry, a, dx, fs, ey, ea, l, q⟩ := z
  subst ey
  obtain rfl : u = Value.ref a := ry
  refine getmeth_ok I1 ea cl me l ?_
  refine PySem.W.callWith_K (first := [.ref a]) (h₀ := X.base) I.ok.mod.kin me.kp (thn (ha.run pos pins s1 σ H1 _ I1 q) fun us s2 z => ?_) hst hpl
  obtain ⟨vs, H2, I2, r, q2⟩ := z
  exact ⟨I2.kIn, wpAny_call (run_atE (vs := .ref a :: vs) (us := .ref a :: us) F b (hx σ) (hr.mono hk) I2 (.cons rfl r) q2)⟩
theorem takes_fn {P : Program} {w : World} {K : PySem.W.Frag} {mg : Str → Option Value} {base : Heap} {N : List Str} {qual : Str} {scope : Scope} {f : Addr} {cd : Value} {A : Around} {outer : List Env} {s : Shared} {H : Hp} {E : XK} : L2N.Takes (cxOf (L2N.CX P w) P w K mg base N qual scope f cd A outer s H E) (fun cls d _ H' => E cls d H') := L2N.takes_of rfl rfl rfl rfl
end
end Z
set_option Elab.async false
set_option linter.all false
set_option maxRecDepth 100000
set_option maxHeartbeats 4000000
namespace Z
open PySem PySem.Spec PyProof.Rows L2 L2H
/-! ### calls within an except suite -/
section
variable {P : Program} {w : World} {K : PySem.W.Frag} {mg : Str → Option Value} {base : Heap} {x qual : Str} {params : Arguments} {body : List Stmt} {scope : Scope} {dvs : List V} {kws : List (Str × V)} {f : Addr} {fd : FuncData}
theorem fund_okH {N ps : List Str} {k : Nat} {sp : Sp} (F : FunD K x qual params body scope dvs kws f fd) (S : FnScope N ps scope) (len : ∀ vs H Q E, sp vs H Q E → vs.length = ps.length)
    (hbody : ∀ (cdv : Value) (A : Around) (outer : List Env) (s : Shared) (H : Hp) (vs : List V) (Q : VK) (E : XK) (p : Addr × Obj), Hot1 A p → RoomH k (A.deeper (envOfC qual scope s.heap.objs.size f cdv)) → sp vs H Q E →
      ∃ t, PSs (cxH CX0 P w K mg base N qual scope f cdv A outer s H E p) body t ∧ t { nx := fun _ H' => Q .non H', rt := Q } (L2.start N vs) H) : FnH P w K mg base CX0 (k + 1) f fd ps sp := by
  obtain ⟨oc, od, dV, kV, doc, pm, an, cdv, ct, osl, rfl, lk, hcd, _, _⟩ := F.ex
  exact fn_ofH lk hcd S len (hbody cdv)
structure CalH (P : Program) (w : World) (K : PySem.W.Frag) (mg : Str → Option Value) (base : Heap) (k : Nat) (x : Str) (sp : Sp) : Prop where
  ex : ∃ (f : Addr) (fd : FuncData) (ps : List Str), FnH P w K mg base CX0 k f fd ps sp ∧ mg x = some (.ref f) ∧ PySem.W.keepIn K (.ref f) = true ∧ Binds K fd ps []
end
section
variable {X : Cx} {k j : Nat} {x : Str} {sp : Sp} {p pos : Pos} {e : Expr} {es : List Expr} {t : TA}
theorem pe_clH (c : CalH X.prog X.w X.K X.mg X.base k x sp) (hr : RoomH j X.A) (hk : k ≤ j) (hc : HotC X) (hg : Gl X x) (ha : PA X (e :: es) t) (hdb : (x == ("__debug__" : Str)) = false := by decide) (he : starEach (e :: es) X.env = (false, eval e X.env) :: starEach es X.env := by rfl) (hpl : (backTo pos (starEach es X.env)).any (·.1) = false := by rfl) :
    PE X (.Call (.Name x p) (e :: es) [] pos) (tCallS sp (fun _ => E0) t) := by
  obtain ⟨f, fd, ps, F, hm, kp, b⟩ := c.ex
  exact pe_callH F (hr.mono hk) hc hg hm kp b (fun σ _ _ _ _ _ _ h => h.elim) ha hdb he hpl
theorem hotC_suite {a : Addr} {cls : Value} {d : Option Addr} {oe : Obj} {pn : List (Addr × Obj)} (hz : L2N.Zn cls d oe) (hf : ∃ vs, oe.data = .fields vs) : HotC (X.suite a ((a, oe) :: pn)) := by
  obtain ⟨vs, e⟩ := hf
  exact ⟨(a, oe), ⟨rfl, vs, e, hz.2.2 vs e⟩, List.mem_cons_self⟩
theorem room_mark {v : Option Value} {A : Around} (r : Room j A) : RoomH j (A.mark v) := roomH_mark r v
theorem takes0N : L2N.Takes X (fun _ _ _ _ => False) := fun _ _ x => by
  obtain ⟨_, _, _, _, _, _, _, _, _, _, _, _, _, _, _, _, z⟩ := x
  exact z.elim
end
theorem hotC_fn {P : Program} {w : World} {K : PySem.W.Frag} {mg : Str → Option Value} {base : Heap} {CX : CXT} {N : List Str} {qual : Str} {scope : Scope} {f : Addr} {cd : Value} {A : Around} {outer : List Env} {s : Shared} {H : Hp} {E : XK} {p : Addr × Obj} (h : Hot1 A p) : HotC (cxH CX P w K mg base N qual scope f cd A outer s H E p) :=
  ⟨p, ⟨h.1, h.2⟩, List.mem_cons_self⟩
end Z
set_option Elab.async false
set_option linter.all false
set_option maxRecDepth 100000
set_option maxHeartbeats 4000000
namespace Z
open PySem PySem.Spec PyProof.Rows L2 NdefX
/-! ### what the head tells of such a class -/
def oexB (K : PySem.W.Frag) (C : Addr) : Bool := (match K.lookup C with
  | some ⟨.type t, _, .cls cd, sl⟩ => (match cd.mro, sl.toList with
    | .ref D :: bm, [_, _, _, _, some (.builtin n), _] => decide (t = "type") && (decide (D = C) && (decide (n = "ValueError.__new__") && (!cd.hasDel && (cd.hasDict && PySem.HandSPX.refsVE bm))))
    | _, _ => false)
  | _ => false) && (He.eqO (PySem.W.findIn K (.ref C) "__setattr__") (some (some (.builtin "object.__setattr__"))) && (decide (PySem.W.subIn K (.ref C) (.type "BaseException") = some true) && (decide (PySem.W.typeIn K (.ref C) = some (.type "type")) && PySem.W.keepIn K (.ref C))))
theorem oexB_ok {K : PySem.W.Frag} {C : Addr} (h : oexB K C = true) : OexC K C := by
  obtain ⟨h0, h⟩ := He.ba h
  obtain ⟨h1, h⟩ := He.ba h
  obtain ⟨h2, h⟩ := He.ba h
  obtain ⟨h3, h4⟩ := He.ba h
  refine ⟨?_, He.eqO_ok h1, of_decide_eq_true h2, of_decide_eq_true h3, h4⟩
  split at h0
  · next t dd cd sl lk =>
    split at h0
    · next D bm a0 a1 a2 a3 n a5 em es =>
      obtain ⟨g1, h0⟩ := He.ba h0
      obtain ⟨g2, h0⟩ := He.ba h0
      obtain ⟨g3, h0⟩ := He.ba h0
      obtain ⟨g4, h0⟩ := He.ba h0
      obtain ⟨g5, g6⟩ := He.ba h0
      have g1 := of_decide_eq_true g1
      have g2 := of_decide_eq_true g2
      have g3 := of_decide_eq_true g3
      subst g1 g2 g3
      obtain ⟨c1, c2, c3, c4, c5, c6, c7, c8, c9, c10, c11⟩ := cd
      have k3 : c3 = .ref D :: bm := em
      have k4 : c11 = false := by
        have z : (!c11) = true := g4
        cases c11
        · rfl
        · cases z
      have k5 : c6 = true := g5
      clear em g4 g5
      subst k3 k4 k5
      refine ⟨c1, c5, c4, c2, bm, c7, c8, c9, c10, dd, a0, a1, a2, a3, a5, ?_, g6⟩
      rw [lk]
      have : sl = #[a0, a1, a2, a3, some (.builtin "ValueError.__new__"), a5] := by
        apply Array.toList_inj.mp
        rw [es]
      rw [this]
    · cases h0
  · cases h0
def initFd (K : PySem.W.Frag) (C : Addr) : Option FuncData := match K.lookup (He.ma K C "__init__") with
  | some ⟨_, _, .func fd, _⟩ => some fd
  | _ => none
abbrev SupV : Type := Option (Str × Str × Arguments × FuncBody × Scope × Addr × List Str × Value × Addr)
def supObs (K : PySem.W.Frag) (x : Str) : SupV := (initFd K (He.ga K x)).map fun fd => (fd.name, fd.qualname, fd.params, fd.body, fd.scope, fd.globals, fd.closure.map (·.1), fd.defaults, fd.builtins)
def supVal (q : Str) (st : Stmt) : SupV := some ("__init__", q, defArgs st, .stmts (defBody st), defScope st, mainGlobals, ["__class__"], .none, builtinsNs)
def supB (fl : Str) (K : PySem.W.Frag) (C : Addr) (q : Str) : Bool := (match initFd K C with
  | some fd => (match fd.code, fd.closure with
    | .ref c, [(_, cc)] => PySem.W.codeIn K (.ref c) q && ((match K.lookup c with
      | some ⟨_, _, .fields vs, _⟩ => (match (vs[2]? : Option Value) with
        | some (.str file _) => fl == file
        | _ => false)
      | _ => false) && (match K.lookup cc with
      | some ⟨_, _, .cell (some (.ref D)), _⟩ => decide (D = C)
      | _ => false))
    | _, _ => false)
  | none => false) && (decide (PySem.W.mroIn K C (.ref C) = some true) && (He.eqO (PySem.W.nsIn K cStatics "thirdparty.any") (some none) && (He.eqO (PySem.W.ks_superIn K C C "__init__") (some (some (.builtin "ValueError.__init__"))) && (decide (PySem.W.subIn K (.ref C) (.type "ValueError") = some true) && (PySem.W.excInitIn K C He.veBase "ValueError.__new__" && oexB K C)))))
theorem sup_of {P : Program} {K : PySem.W.Frag} {x q fl : Str} {st : Stmt} (h1 : supObs K x = supVal q st) (h2 : supB fl K (He.ga K x) q = true) (hfl : ((P.main.file : Str) == fl) = true) (htop : (P.main.scope.names.lookup ("super" : Str)).isSome = false) :
    ∃ (c cc : Addr) (fd : FuncData) (kV doc pm ct : Value) (an : Option Addr), fd = PySem.W.fnX "__init__" q (defArgs st) (defBody st) (defScope st) [(("__class__" : Str), cc)] .none kV doc pm an (.ref c) ct ∧ SupK P K (He.ga K x) (He.ma K (He.ga K x) "__init__") c cc fd ∧ PySem.W.codeIn K (.ref c) q = true := by
  obtain ⟨g0, h2⟩ := He.ba h2
  obtain ⟨g1, h2⟩ := He.ba h2
  obtain ⟨g2, h2⟩ := He.ba h2
  obtain ⟨g3, h2⟩ := He.ba h2
  obtain ⟨g4, h2⟩ := He.ba h2
  obtain ⟨g5, g6⟩ := He.ba h2
  unfold supObs at h1
  cases e : initFd K (He.ga K x) with
  | none =>
    rw [e] at h1
    cases h1
  | some fd =>
    rw [e] at h1 g0
    have lk : ∃ oc od osl, K.lookup (He.ma K (He.ga K x) "__init__") = some ⟨oc, od, .func fd, osl⟩ := by
      unfold initFd at e
      split at e
      · next oc od fd' osl l =>
        cases e
        exact ⟨_, _, _, l⟩
      · cases e
    obtain ⟨n1, n2, n3, n4, n5, n6, n7, n8, n9, n10, n11, n12, n13, n14, n15⟩ := fd
    have h1 : (some (n1, n2, n3, n4, n5, n6, n7.map (·.1), n8, n15) : SupV) = supVal q st := h1
    unfold supVal at h1
    simp only [Option.some.injEq, Prod.mk.injEq] at h1
    obtain ⟨a1, a2, a3, a4, a5, a6, a7, a8, a9⟩ := h1
    subst a1 a2 a3 a4 a5 a6 a8 a9
    dsimp only at g0
    split at g0
    · next c y cc =>
      obtain ⟨b1, g0⟩ := He.ba g0
      obtain ⟨b2, b3⟩ := He.ba g0
      have ey : y = "__class__" := by
        have := a7
        simpa using this
      subst ey
      refine ⟨c, cc, _, _, _, _, _, _, rfl, ⟨lk, ?_, ?_, htop, of_decide_eq_true g1, He.eqO_ok g2, He.eqO_ok g3, of_decide_eq_true g4, g5, oexB_ok g6⟩, b1⟩
      · split at b2
        · next u1 u2 vs u3 l =>
          split at b2
          · next file tf ev =>
            refine ⟨_, _, vs, _, file, tf, l, ev, ?_⟩
            rw [beq_iff_eq.mp b2] at hfl
            exact hfl
          · cases b2
        · cases b2
      · split at b3
        · next u1 u2 D u3 l =>
          have := of_decide_eq_true b3
          subst this
          exact ⟨_, _, _, l⟩
        · cases b3
    · cases g0
end Z
set_option Elab.async false
set_option linter.all false
set_option maxRecDepth 100000
set_option maxHeartbeats 4000000
namespace Z
open PySem PySem.Spec PyProof.Rows L2 NdefX
/-! ### isinstance(e, c), e a caught error with a dict of its own -/
def rIsX (K : PySem.W.Frag) (a : Addr) (cls : Value) (d : Option Addr) : List V → Hp → VK → Prop := fun xs H Q => ∃ (D dd : Addr) (fs : List (Str × V)) (c : V) (cv : Value) (b : Bool), cls = .ref D ∧ d = some dd ∧ ExcC K D ∧ H dd = some (.xd fs) ∧ xs = [.ref a, c] ∧ (∀ u, RelV c u → u = cv) ∧ PySem.W.kitOne K (.ref D) cv = some b ∧ Q (.bl b) H
theorem call_isX {X : Cx} {a : Addr} {cls : Value} {d : Option Addr} {oe : Obj} {pn : List (Addr × Obj)} (hz : Zc cls d oe) (hf : ∃ vs, oe.data = .fields vs) : CallR (X.suite a ((a, oe) :: pn)) (.builtin "isinstance") (rIsX X.K a cls d) := by
  intro pins s σ H xs us Q I r h
  obtain ⟨D, dd, fs, c, cv, b, rfl, rfl, C, ed, rfl, hcv, e, q⟩ := h
  obtain ⟨u1, u2, rfl, r1, r2⟩ := vals2 r
  cases r1
  have ec := hcv _ r2
  subst ec
  obtain ⟨hget, _⟩ := I.pin (a, oe) (List.mem_append.mpr (.inl List.mem_cons_self))
  obtain ⟨vs, hv⟩ := hf
  have hx : ObjOk X.prog X.w H s.heap dd (.xd fs) := I.hok dd _ ed
  obtain ⟨mA, hns, hr⟩ := hx
  obtain ⟨od, ho, hl⟩ := lookIn_ns hns
  have J : PySem.W.InstAt s.heap a oe D (some od) := ⟨hget, hz.1, by unfold PySem.W.notCls; rw [hv] <;> rfl, by rw [hz.2]; exact ho⟩
  have hcl : (PySem.W.clsIn X.K D).isSome = true := by
    obtain ⟨cd, hc, _⟩ := PySem.W.any_some C.hd
    rw [hc]
    rfl
  exact PySem.W.kia_one (PySem.W.kitx_exc hcl C.hg C.hk C.hs C.ha C.hn C.ht C.hm) I.kIn J e (fun z => nomatch z) fun tk => ⟨.bl b, H, I.kept (t' := tk) fun _ _ z => z, rfl, q⟩
end Z
set_option Elab.async false
set_option linter.all false
set_option maxRecDepth 100000
set_option maxHeartbeats 4000000
namespace Z
open PySem PySem.Spec PyProof.Rows L2 NdefX
/-! ### the head with own exceptions: facts of defs and classes, one more Bool, the __init__s -/
def asX (g : Addr → Option Obj) (n : Nat) : List Addr := He.asD g n ++ [cStatics]
def hookX (n : Nat) (fa : List He.Fa) (fn : List He.DefD) (xs : List Str) (vs : List SupV) (ex : PySem.W.Frag → Bool) : PySem.W.Hook where
  α := He.AlD × (List SupV × Bool)
  obs := fun s => (He.obsD fa fn (He.frG s.heap.get? (asX s.heap.get? n)), xs.map (supObs (He.frG s.heap.get? (asX s.heap.get? n))), ex (He.frG s.heap.get? (asX s.heap.get? n)))
  val := fun _ => (He.valD fn, vs, true)
  says := fun _ h => ∃ K : PySem.W.Frag, K.In h ∧ He.SaysD fa fn K ∧ xs.map (supObs K) = vs ∧ ex K = true
  of := fun _ _ e => ⟨_, He.frG_in, congrArg (fun z : He.AlD × (List SupV × Bool) => z.1) e, congrArg (fun z : He.AlD × (List SupV × Bool) => z.2.1) e, congrArg (fun z : He.AlD × (List SupV × Bool) => z.2.2) e⟩
  keeps := fun _ _ _ ⟨K, hK, c⟩ k => ⟨K, PySem.W.Frag.In.keeps hK k, c⟩
def obX (n : Nat) (fa : List He.Fa) (fn : List He.DefD) (xs : List Str) (ex : PySem.W.Frag → Bool) (g : Addr → Option Obj) : He.AlD × (List SupV × Bool) := (He.obsD fa fn (He.frG g (asX g n)), xs.map (supObs (He.frG g (asX g n))), ex (He.frG g (asX g n)))
theorem obX_eq {n : Nat} {fa : List He.Fa} {fn : List He.DefD} {xs : List Str} {vs : List SupV} {ex : PySem.W.Frag → Bool} {g : Addr → Option Obj} {s : Shared} (h : ∀ a, g a = s.heap.get? a) : obX n fa fn xs ex g = (hookX n fa fn xs vs ex).obs s := by
  have e : g = s.heap.get? := funext h
  rw [e] <;> rfl
theorem sup_at {xs : List Str} {vs : List SupV} {K : PySem.W.Frag} (e : xs.map (supObs K) = vs) (i : Nat) {x : Str} {v : SupV} (h1 : xs[i]? = some x := by rfl) (h2 : vs[i]? = some v := by rfl) : supObs K x = v := by
  have := congrArg (fun z : List SupV => z[i]?) e
  simp only [List.getElem?_map, h1, h2] at this
  exact Option.some.inj this
def excB (K : PySem.W.Frag) (D : Addr) : Bool := He.eqO (PySem.W.findIn K (.ref D) "__getattribute__") (some (some (.builtin "BaseException.__getattribute__"))) && (He.eqO (PySem.W.findIn K (.ref D) "__getattr__") (some none) && (decide (PySem.W.subIn K (.ref D) (.type "BaseException") = some true) && (PySem.W.hasDictIn K D && (He.eqO (PySem.W.findIn K (.ref D) "__class__") (some (some (.builtin "object.__class__"))) && (He.eqO (PySem.W.specialIn K (.builtin "object.__class__") "__get__") (some (some (.builtin "getset_descriptor.__get__"))) && (decide (PySem.W.takesIn K (.builtin "object.__class__") = some true) && decide (PySem.W.mroIn K D (.type "object") = some true)))))))
theorem excB_ok {K : PySem.W.Frag} {D : Addr} (h : excB K D = true) : ExcC K D ∧ XfC K D := by
  obtain ⟨h1, h⟩ := He.ba h
  obtain ⟨h2, h⟩ := He.ba h
  obtain ⟨h3, h⟩ := He.ba h
  obtain ⟨h4, h⟩ := He.ba h
  obtain ⟨h5, h⟩ := He.ba h
  obtain ⟨h6, h⟩ := He.ba h
  obtain ⟨h7, h8⟩ := He.ba h
  exact ⟨⟨He.eqO_ok h1, He.eqO_ok h2, of_decide_eq_true h3, h4, He.eqO_ok h5, He.eqO_ok h6, of_decide_eq_true h7, of_decide_eq_true h8⟩, ⟨He.eqO_ok h1, He.eqO_ok h2, of_decide_eq_true h3, h4⟩⟩
/-- an own exception class with the field -/
def exnB (fl q field : Str) (K : PySem.W.Frag) (C : Addr) : Bool := supB fl K C q && (He.eqO (PySem.W.findIn K (.ref C) "__init__") (some (some (.ref (He.ma K C "__init__")))) && (decide (PySem.W.typeIn K (.ref (He.ma K C "__init__")) = some (.type "function")) && (He.eqO (PySem.W.findIn K (.ref C) field) (some none) && excB K C)))
structure ExnF (K : PySem.W.Frag) (C : Addr) (q field fl : Str) : Prop where
  sup : supB fl K C q = true
  ini : PySem.W.findIn K (.ref C) "__init__" = some (some (.ref (He.ma K C "__init__")))
  ty : PySem.W.typeIn K (.ref (He.ma K C "__init__")) = some (.type "function")
  no : PySem.W.findIn K (.ref C) field = some none
  ec : ExcC K C
  xf : XfC K C
theorem exnB_ok {fl q field : Str} {K : PySem.W.Frag} {C : Addr} (h : exnB fl q field K C = true) : ExnF K C q field fl := by
  obtain ⟨h1, h⟩ := He.ba h
  obtain ⟨h2, h⟩ := He.ba h
  obtain ⟨h3, h⟩ := He.ba h
  obtain ⟨h4, h5⟩ := He.ba h
  exact ⟨h1, He.eqO_ok h2, of_decide_eq_true h3, He.eqO_ok h4, (excB_ok h5).1, (excB_ok h5).2⟩
def exmB (K : PySem.W.Frag) (a b : Addr) : Bool := decide (PySem.W.exmOne K (.ref a) (.ref b) = some true)
def kitVB (K : PySem.W.Frag) (a : Addr) (v : Value) (b : Bool) : Bool := decide (PySem.W.kitOne K (.ref a) v = some b)
end Z
set_option Elab.async false
set_option linter.all false
set_option maxRecDepth 100000
set_option maxHeartbeats 4000000
namespace Z
open PySem PySem.Spec PyProof.Rows L2 NdefX
/-! ### the head with own exceptions and properties: further observations are any functions of the written part -/
def hookY (n : Nat) (fa : List He.Fa) (fn : List He.DefD) (xs : List (PySem.W.Frag → SupV)) (vs : List SupV) (ex : PySem.W.Frag → Bool) : PySem.W.Hook where
  α := He.AlD × (List SupV × Bool)
  obs := fun s => (He.obsD fa fn (He.frG s.heap.get? (asX s.heap.get? n)), xs.map (fun f => f (He.frG s.heap.get? (asX s.heap.get? n))), ex (He.frG s.heap.get? (asX s.heap.get? n)))
  val := fun _ => (He.valD fn, vs, true)
  says := fun _ h => ∃ K : PySem.W.Frag, K.In h ∧ He.SaysD fa fn K ∧ xs.map (fun f => f K) = vs ∧ ex K = true
  of := fun _ _ e => ⟨_, He.frG_in, congrArg (fun z : He.AlD × (List SupV × Bool) => z.1) e, congrArg (fun z : He.AlD × (List SupV × Bool) => z.2.1) e, congrArg (fun z : He.AlD × (List SupV × Bool) => z.2.2) e⟩
  keeps := fun _ _ _ ⟨K, hK, c⟩ k => ⟨K, PySem.W.Frag.In.keeps hK k, c⟩
def obY (n : Nat) (fa : List He.Fa) (fn : List He.DefD) (xs : List (PySem.W.Frag → SupV)) (ex : PySem.W.Frag → Bool) (g : Addr → Option Obj) : He.AlD × (List SupV × Bool) := (He.obsD fa fn (He.frG g (asX g n)), xs.map (fun f => f (He.frG g (asX g n))), ex (He.frG g (asX g n)))
theorem obY_eq {n : Nat} {fa : List He.Fa} {fn : List He.DefD} {xs : List (PySem.W.Frag → SupV)} {vs : List SupV} {ex : PySem.W.Frag → Bool} {g : Addr → Option Obj} {s : Shared} (h : ∀ a, g a = s.heap.get? a) : obY n fa fn xs ex g = (hookY n fa fn xs vs ex).obs s := by
  have e : g = s.heap.get? := funext h
  rw [e] <;> rfl
theorem y_at {xs : List (PySem.W.Frag → SupV)} {vs : List SupV} {K : PySem.W.Frag} (e : xs.map (fun f => f K) = vs) (i : Nat) {f : PySem.W.Frag → SupV} {v : SupV} (h1 : xs[i]? = some f := by rfl) (h2 : vs[i]? = some v := by rfl) : f K = v := by
  have := congrArg (fun z : List SupV => z[i]?) e
  simp only [List.getElem?_map, h1, h2] at this
  exact Option.some.inj this
def isB (K : PySem.W.Frag) (C : Addr) : Bool := He.eqO (PySem.W.findIn K (.ref C) "__class__") (some (some (.builtin "object.__class__"))) && (He.eqO (PySem.W.specialIn K (.builtin "object.__class__") "__get__") (some (some (.builtin "getset_descriptor.__get__"))) && (decide (PySem.W.takesIn K (.builtin "object.__class__") = some true) && (decide (PySem.W.mroIn K C (.type "object") = some true) && decide (PySem.W.kitOne K (.ref C) (.ref C) = some true))))
theorem isB_ok {K : PySem.W.Frag} {C : Addr} (cl : Cls K C) (h : isB K C = true) : C8.InsC K C := by
  obtain ⟨h1, h⟩ := He.ba h
  obtain ⟨h2, h⟩ := He.ba h
  obtain ⟨h3, h⟩ := He.ba h
  obtain ⟨h4, h5⟩ := He.ba h
  exact ⟨cl, He.eqO_ok h1, He.eqO_ok h2, of_decide_eq_true h3, of_decide_eq_true h4, of_decide_eq_true h5⟩
def spB (K : PySem.W.Frag) (C : Addr) (m : Str) : Bool := He.eqO (PySem.W.findIn K (.ref C) m) (some (some (.ref (He.ma K C m)))) && (PySem.W.isFn K (.ref (He.ma K C m)) && PySem.W.fnIn K (He.ma K C m))
theorem spB_ok {K : PySem.W.Frag} {C : Addr} {m : Str} (h : spB K C m = true) : PySem.W.findIn K (.ref C) m = some (some (.ref (He.ma K C m))) ∧ PySem.W.isFn K (.ref (He.ma K C m)) = true ∧ PySem.W.fnIn K (He.ma K C m) = true := by
  obtain ⟨h1, h⟩ := He.ba h
  obtain ⟨h2, h3⟩ := He.ba h
  exact ⟨He.eqO_ok h1, h2, h3⟩
theorem all_at {bs : List Bool} (h : bs.all id = true) (i : Nat) {b : Bool} (e : bs[i]? = some b := by rfl) : b = true := List.all_eq_true.mp h b (List.mem_of_getElem? e)
theorem fnr_ok {P : Program} {w : World} {K : PySem.W.Frag} {mg : Str → Option Value} {base : Heap} {k : Nat} {f : Addr} {fd : FuncData} {ps : List Str} {sp : Sp} (F : FnOk P w K mg base CX0 k f fd ps sp) (b : Binds K fd ps []) : FnR P w K mg base CX0 k f sp := (FnOk.raw (dvs := []) F b .nil).imp fun vs H Q E h => by
  show sp (vs ++ []) H Q E
  rw [List.append_nil]
  exact h
/-! a property's getter -/
def gtA (K : PySem.W.Frag) (C : Addr) (m : Str) : Addr := match PySem.W.recIn K (He.ma K C m) "property" with
  | some (.ref g :: _) => g
  | _ => 0
def fdAt (K : PySem.W.Frag) (g : Addr) : Option FuncData := match K.lookup g with
  | some ⟨_, _, .func fd, _⟩ => some fd
  | _ => none
def propObs (x m : Str) (K : PySem.W.Frag) : SupV := (fdAt K (gtA K (He.ga K x) m)).map fun fd => (fd.name, fd.qualname, fd.params, fd.body, fd.scope, fd.globals, fd.closure.map (·.1), fd.defaults, fd.builtins)
def propVal (m q : Str) (st : Stmt) : SupV := some (m, q, defArgs st, .stmts (defBody st), defScope st, mainGlobals, [], .none, builtinsNs)
def propB (K : PySem.W.Frag) (C : Addr) (m q : Str) : Bool := He.eqO (PySem.W.findIn K (.ref C) m) (some (some (.ref (He.ma K C m)))) && (He.eqO (PySem.W.specialIn K (.ref (He.ma K C m)) "__get__") (some (some (.builtin "property.__get__"))) && (decide (PySem.W.takesIn K (.ref (He.ma K C m)) = some true) && ((match PySem.W.recIn K (He.ma K C m) "property" with
  | some (.ref _ :: _) => true
  | _ => false) && (PySem.W.keepIn K (.ref (gtA K C m)) && (match fdAt K (gtA K C m) with
  | some fd => PySem.W.codeIn K fd.code q && (He.dflB K fd.defaults [] && He.kwdB K fd.kwdefaults [])
  | none => false)))))
theorem prop_of {K : PySem.W.Frag} {x m q : Str} {st : Stmt} (h1 : propObs x m K = propVal m q st) (h2 : propB K (He.ga K x) m q = true) : ∃ fd : FuncData, PropOf K (He.ga K x) m (He.ma K (He.ga K x) m) (gtA K (He.ga K x) m) ∧ FunD K m q (defArgs st) (defBody st) (defScope st) [] [] (gtA K (He.ga K x) m) fd := by
  obtain ⟨g0, h2⟩ := He.ba h2
  obtain ⟨g1, h2⟩ := He.ba h2
  obtain ⟨g2, h2⟩ := He.ba h2
  obtain ⟨g3, h2⟩ := He.ba h2
  obtain ⟨g4, g5⟩ := He.ba h2
  have P : PropOf K (He.ga K x) m (He.ma K (He.ga K x) m) (gtA K (He.ga K x) m) := by
    refine ⟨He.eqO_ok g0, He.eqO_ok g1, of_decide_eq_true g2, ?_⟩
    unfold gtA
    split at g3
    · next g rest e =>
      rw [e]
      exact ⟨rest, rfl⟩
    · cases g3
  unfold propObs at h1
  cases e : fdAt K (gtA K (He.ga K x) m) with
  | none =>
    rw [e] at h1
    cases h1
  | some fd =>
    rw [e] at h1 g5
    have lk : ∃ oc od osl, K.lookup (gtA K (He.ga K x) m) = some ⟨oc, od, .func fd, osl⟩ := by
      unfold fdAt at e
      split at e
      · next oc od fd' osl l =>
        cases e
        exact ⟨_, _, _, l⟩
      · cases e
    obtain ⟨oc, od, osl, lk⟩ := lk
    obtain ⟨n1, n2, n3, n4, n5, n6, n7, n8, n9, n10, n11, n12, n13, n14, n15⟩ := fd
    have h1 : (some (n1, n2, n3, n4, n5, n6, n7.map (·.1), n8, n15) : SupV) = propVal m q st := h1
    unfold propVal at h1
    simp only [Option.some.injEq, Prod.mk.injEq] at h1
    obtain ⟨a1, a2, a3, a4, a5, a6, a7, a8, a9⟩ := h1
    have a7 : n7 = [] := List.map_eq_nil_iff.mp a7
    subst a1 a2 a3 a4 a5 a6 a7 a8 a9
    obtain ⟨k1, k2⟩ := He.ba (show (PySem.W.codeIn K n13 n2 && (He.dflB K .none [] && He.kwdB K n9 [])) = true from g5)
    obtain ⟨k3, k4⟩ := He.ba k2
    exact ⟨_, P, ⟨oc, od, _, n9, n10, n11, n12, n13, n14, osl, rfl, lk, k1, He.dflB_ok k3, He.kwdB_ok k4⟩, g4⟩
end Z
set_option pp.maxSteps 700
set_option Elab.async false
set_option linter.all false
set_option maxRecDepth 100000
set_option maxHeartbeats 4000000
set_option maxHeartbeats 0
namespace Zr
open PySem PySem.Spec PyProof.Rows L2 NdefX Z
abbrev s_value_at : Stmt := topS 11
abbrev s_joined : Stmt := topS 12
abbrev s_marks_of : Stmt := topS 13
abbrev s_track : Stmt := topS 14
abbrev s_rising_part : Stmt := topS 15
abbrev s_combined : Stmt := topS 16
abbrev s_composed : Stmt := topS 17
abbrev s_flat_point : Stmt := topS 18
abbrev s_greatest_value : Stmt := topS 23
abbrev s_Need___init__ : Stmt := inClass (topS 24) 0
abbrev s_Need_value_for : Stmt := inClass (topS 24) 1
abbrev s_Need___rshift__ : Stmt := inClass (topS 24) 5
abbrev s_Need___or__ : Stmt := inClass (topS 24) 6
abbrev s_Need___and__ : Stmt := inClass (topS 24) 7
abbrev s_Need___mul__ : Stmt := inClass (topS 24) 8
abbrev s_Need_mine : Stmt := inClass (topS 24) 9
abbrev s_Need_theirs : Stmt := inClass (topS 24) 10
abbrev s_Need_endless : Stmt := inClass (topS 24) 11
abbrev s_is_party : Stmt := topS 28
abbrev s_is_mark : Stmt := topS 29
abbrev s_check_party : Stmt := topS 30
abbrev s_check_mark : Stmt := topS 31
abbrev s_check_size : Stmt := topS 38
abbrev s_as_pact : Stmt := topS 47
abbrev s_Part___init__ : Stmt := inClass (topS 39) 1
abbrev s_Pact___init__ : Stmt := inClass (topS 46) 0
abbrev s_need_of_transfer : Stmt := topS 49
abbrev s_need_of_choice : Stmt := topS 50
abbrev s_need_of_part : Stmt := topS 51
abbrev s_need_of : Stmt := topS 52
abbrev s_cell : Stmt := topS 54
abbrev s_draws : Stmt := topS 55
abbrev s_take : Stmt := topS 56
abbrev s_parties : Stmt := topS 57
abbrev s_amount : Stmt := topS 58
abbrev s_pact : Stmt := topS 59
abbrev s_part : Stmt := topS 60
abbrev s_weight : Stmt := topS 61
abbrev s_part_weight : Stmt := topS 62
abbrev s_cut : Stmt := topS 63
abbrev s_build : Stmt := topS 64
abbrev s_build_part : Stmt := topS 65
abbrev s_is_number : Stmt := topS 66
abbrev s_fields : Stmt := topS 67
abbrev s_first_above : Stmt := topS 20
abbrev s_Need___call__ : Stmt := inClass (topS 24) 2
abbrev s_Need_excess : Stmt := inClass (topS 24) 4
abbrev s_Pact___add__ : Stmt := inClass (topS 46) 1
abbrev s_Pact___mul__ : Stmt := inClass (topS 46) 2
abbrev s_Pact___getitem__ : Stmt := inClass (topS 46) 6
abbrev s_same : Stmt := topS 68
abbrev s_law_joined : Stmt := topS 71
abbrev s_repeated : Stmt := topS 72
abbrev s_wrapped : Stmt := topS 73
abbrev s_unrolled : Stmt := topS 74
abbrev s_paid : Stmt := topS 75
abbrev s_idle : Stmt := topS 76
abbrev s_idle_part : Stmt := topS 77
abbrev s_pacts : Stmt := topS 69
abbrev s_size : Stmt := topS 70
abbrev s_law : Stmt := topS 78
abbrev s_Transfer___init__ : Stmt := inClass (topS 40) 1
abbrev s_Event___init__ : Stmt := inClass (topS 41) 1
abbrev s_Choice___init__ : Stmt := inClass (topS 42) 1
abbrev s_Rounds___init__ : Stmt := inClass (topS 43) 1
abbrev s_Endless___init__ : Stmt := inClass (topS 44) 1
abbrev s_Times___init__ : Stmt := inClass (topS 45) 1
/-- an own class whose __init__ ends with that of its own base B -/
def supP (fl : Str) (K : PySem.W.Frag) (C B : Addr) (q : Str) : Bool := (match initFd K C with
  | some fd => (match fd.code, fd.closure with
    | .ref c, [(_, cc)] => PySem.W.codeIn K (.ref c) q && ((match K.lookup c with
      | some ⟨_, _, .fields vs, _⟩ => (match (vs[2]? : Option Value) with
        | some (.str file _) => fl == file
        | _ => false)
      | _ => false) && (match K.lookup cc with
      | some ⟨_, _, .cell (some (.ref D)), _⟩ => decide (D = C)
      | _ => false))
    | _, _ => false)
  | none => false) && (decide (PySem.W.mroIn K C (.ref C) = some true) && (He.eqO (PySem.W.nsIn K cStatics "thirdparty.any") (some none) && (He.eqO (PySem.W.ks_superIn K C C "__init__") (some (some (.ref (He.ma K B "__init__")))) && (decide (PySem.W.typeIn K (.ref (He.ma K B "__init__")) = some (.type "function")) && PySem.W.fnIn K (He.ma K B "__init__")))))
/-- a text constant of a class -/
def conB (K : PySem.W.Frag) (C : Addr) (f z : Str) : Bool := match PySem.W.findIn K (.ref C) f with
  | some (some (.str y t)) => decide (y = z) && He.eqO (PySem.W.specialIn K (.str y t) "__get__") (some none)
  | _ => false
/-- the run's facts in two pieces (one piece alone wants too much memory) -/
theorem run_join {α β γ δ : Type} {o : Option α} {f : α → β} {g : α → γ} {h : α → δ} {b : β} {c : γ} {d : δ} (h1 : o.map (fun s => (f s, g s)) = some (b, c)) (h2 : o.map h = some d) : o.map (fun s => (f s, g s, h s)) = some (b, c, d) := by
  cases o with
  | none => cases h2
  | some s =>
    simp only [Option.map_some, Option.some.injEq, Prod.mk.injEq] at h1 h2 ⊢
    exact ⟨h1.1, h1.2, h2⟩
def d_value_at : He.DefD := ⟨("value_at", none), "value_at", "value_at", defArgs s_value_at, defBody s_value_at, defScope s_value_at, [], []⟩
def d_joined : He.DefD := ⟨("joined", none), "joined", "joined", defArgs s_joined, defBody s_joined, defScope s_joined, [], []⟩
def d_marks_of : He.DefD := ⟨("marks_of", none), "marks_of", "marks_of", defArgs s_marks_of, defBody s_marks_of, defScope s_marks_of, [], []⟩
def d_track : He.DefD := ⟨("track", none), "track", "track", defArgs s_track, defBody s_track, defScope s_track, [], []⟩
def d_rising_part : He.DefD := ⟨("rising_part", none), "rising_part", "rising_part", defArgs s_rising_part, defBody s_rising_part, defScope s_rising_part, [], []⟩
def d_combined : He.DefD := ⟨("combined", none), "combined", "combined", defArgs s_combined, defBody s_combined, defScope s_combined, [], []⟩
def d_composed : He.DefD := ⟨("composed", none), "composed", "composed", defArgs s_composed, defBody s_composed, defScope s_composed, [], []⟩
def d_flat_point : He.DefD := ⟨("flat_point", none), "flat_point", "flat_point", defArgs s_flat_point, defBody s_flat_point, defScope s_flat_point, [], []⟩
def d_greatest_value : He.DefD := ⟨("greatest_value", none), "greatest_value", "greatest_value", defArgs s_greatest_value, defBody s_greatest_value, defScope s_greatest_value, [], []⟩
def d_Need___init__ : He.DefD := ⟨("Need", some "__init__"), "__init__", "Need.__init__", defArgs s_Need___init__, defBody s_Need___init__, defScope s_Need___init__, [], []⟩
def d_Need_value_for : He.DefD := ⟨("Need", some "value_for"), "value_for", "Need.value_for", defArgs s_Need_value_for, defBody s_Need_value_for, defScope s_Need_value_for, [], []⟩
def d_Need___rshift__ : He.DefD := ⟨("Need", some "__rshift__"), "__rshift__", "Need.__rshift__", defArgs s_Need___rshift__, defBody s_Need___rshift__, defScope s_Need___rshift__, [], []⟩
def d_Need___or__ : He.DefD := ⟨("Need", some "__or__"), "__or__", "Need.__or__", defArgs s_Need___or__, defBody s_Need___or__, defScope s_Need___or__, [], []⟩
def d_Need___and__ : He.DefD := ⟨("Need", some "__and__"), "__and__", "Need.__and__", defArgs s_Need___and__, defBody s_Need___and__, defScope s_Need___and__, [], []⟩
def d_Need___mul__ : He.DefD := ⟨("Need", some "__mul__"), "__mul__", "Need.__mul__", defArgs s_Need___mul__, defBody s_Need___mul__, defScope s_Need___mul__, [], []⟩
def d_Need_mine : He.DefD := ⟨("Need", some "mine"), "mine", "Need.mine", defArgs s_Need_mine, defBody s_Need_mine, defScope s_Need_mine, [], []⟩
def d_Need_theirs : He.DefD := ⟨("Need", some "theirs"), "theirs", "Need.theirs", defArgs s_Need_theirs, defBody s_Need_theirs, defScope s_Need_theirs, [], []⟩
def d_Need_endless : He.DefD := ⟨("Need", some "endless"), "endless", "Need.endless", defArgs s_Need_endless, defBody s_Need_endless, defScope s_Need_endless, [], []⟩
def d_is_party : He.DefD := ⟨("is_party", none), "is_party", "is_party", defArgs s_is_party, defBody s_is_party, defScope s_is_party, [], []⟩
def d_is_mark : He.DefD := ⟨("is_mark", none), "is_mark", "is_mark", defArgs s_is_mark, defBody s_is_mark, defScope s_is_mark, [], []⟩
def d_check_party : He.DefD := ⟨("check_party", none), "check_party", "check_party", defArgs s_check_party, defBody s_check_party, defScope s_check_party, [], []⟩
def d_check_mark : He.DefD := ⟨("check_mark", none), "check_mark", "check_mark", defArgs s_check_mark, defBody s_check_mark, defScope s_check_mark, [], []⟩
def d_check_size : He.DefD := ⟨("check_size", none), "check_size", "check_size", defArgs s_check_size, defBody s_check_size, defScope s_check_size, [], []⟩
def d_as_pact : He.DefD := ⟨("as_pact", none), "as_pact", "as_pact", defArgs s_as_pact, defBody s_as_pact, defScope s_as_pact, [], []⟩
def d_Part___init__ : He.DefD := ⟨("Part", some "__init__"), "__init__", "Part.__init__", defArgs s_Part___init__, defBody s_Part___init__, defScope s_Part___init__, [], []⟩
def d_Pact___init__ : He.DefD := ⟨("Pact", some "__init__"), "__init__", "Pact.__init__", defArgs s_Pact___init__, defBody s_Pact___init__, defScope s_Pact___init__, [], []⟩
def d_need_of_transfer : He.DefD := ⟨("need_of_transfer", none), "need_of_transfer", "need_of_transfer", defArgs s_need_of_transfer, defBody s_need_of_transfer, defScope s_need_of_transfer, [], []⟩
def d_need_of_choice : He.DefD := ⟨("need_of_choice", none), "need_of_choice", "need_of_choice", defArgs s_need_of_choice, defBody s_need_of_choice, defScope s_need_of_choice, [], []⟩
def d_need_of_part : He.DefD := ⟨("need_of_part", none), "need_of_part", "need_of_part", defArgs s_need_of_part, defBody s_need_of_part, defScope s_need_of_part, [], []⟩
def d_need_of : He.DefD := ⟨("need_of", none), "need_of", "need_of", defArgs s_need_of, defBody s_need_of, defScope s_need_of, [], []⟩
def d_cell : He.DefD := ⟨("_law_cell", none), "_law_cell", "_law_cell", defArgs s_cell, defBody s_cell, defScope s_cell, [], []⟩
def d_draws : He.DefD := ⟨("_law_draws", none), "_law_draws", "_law_draws", defArgs s_draws, defBody s_draws, defScope s_draws, [], []⟩
def d_take : He.DefD := ⟨("_law_take", none), "_law_take", "_law_take", defArgs s_take, defBody s_take, defScope s_take, [], []⟩
def d_parties : He.DefD := ⟨("_law_parties", none), "_law_parties", "_law_parties", defArgs s_parties, defBody s_parties, defScope s_parties, [], []⟩
def d_amount : He.DefD := ⟨("_law_amount", none), "_law_amount", "_law_amount", defArgs s_amount, defBody s_amount, defScope s_amount, [], []⟩
def d_pact : He.DefD := ⟨("_law_pact", none), "_law_pact", "_law_pact", defArgs s_pact, defBody s_pact, defScope s_pact, [], []⟩
def d_part : He.DefD := ⟨("_law_part", none), "_law_part", "_law_part", defArgs s_part, defBody s_part, defScope s_part, [], []⟩
def d_weight : He.DefD := ⟨("_law_weight", none), "_law_weight", "_law_weight", defArgs s_weight, defBody s_weight, defScope s_weight, [], []⟩
def d_part_weight : He.DefD := ⟨("_law_part_weight", none), "_law_part_weight", "_law_part_weight", defArgs s_part_weight, defBody s_part_weight, defScope s_part_weight, [], []⟩
def d_cut : He.DefD := ⟨("_law_cut", none), "_law_cut", "_law_cut", defArgs s_cut, defBody s_cut, defScope s_cut, [], []⟩
def d_build : He.DefD := ⟨("_law_build", none), "_law_build", "_law_build", defArgs s_build, defBody s_build, defScope s_build, [], []⟩
def d_build_part : He.DefD := ⟨("_law_build_part", none), "_law_build_part", "_law_build_part", defArgs s_build_part, defBody s_build_part, defScope s_build_part, [], []⟩
def d_is_number : He.DefD := ⟨("_law_is_number", none), "_law_is_number", "_law_is_number", defArgs s_is_number, defBody s_is_number, defScope s_is_number, [], []⟩
def d_fields : He.DefD := ⟨("_law_fields", none), "_law_fields", "_law_fields", defArgs s_fields, defBody s_fields, defScope s_fields, [], []⟩
def d_first_above : He.DefD := ⟨("first_above", none), "first_above", "first_above", defArgs s_first_above, defBody s_first_above, defScope s_first_above, [], []⟩
def d_Need___call__ : He.DefD := ⟨("Need", some "__call__"), "__call__", "Need.__call__", defArgs s_Need___call__, defBody s_Need___call__, defScope s_Need___call__, [], []⟩
def d_Need_excess : He.DefD := ⟨("Need", some "excess"), "excess", "Need.excess", defArgs s_Need_excess, defBody s_Need_excess, defScope s_Need_excess, [], []⟩
def d_Pact___add__ : He.DefD := ⟨("Pact", some "__add__"), "__add__", "Pact.__add__", defArgs s_Pact___add__, defBody s_Pact___add__, defScope s_Pact___add__, [], []⟩
def d_Pact___mul__ : He.DefD := ⟨("Pact", some "__mul__"), "__mul__", "Pact.__mul__", defArgs s_Pact___mul__, defBody s_Pact___mul__, defScope s_Pact___mul__, [], []⟩
def d_Pact___getitem__ : He.DefD := ⟨("Pact", some "__getitem__"), "__getitem__", "Pact.__getitem__", defArgs s_Pact___getitem__, defBody s_Pact___getitem__, defScope s_Pact___getitem__, [], []⟩
def d_same : He.DefD := ⟨("_law_same", none), "_law_same", "_law_same", defArgs s_same, defBody s_same, defScope s_same, [], []⟩
def d_law_joined : He.DefD := ⟨("_law_joined", none), "_law_joined", "_law_joined", defArgs s_law_joined, defBody s_law_joined, defScope s_law_joined, [], []⟩
def d_repeated : He.DefD := ⟨("_law_repeated", none), "_law_repeated", "_law_repeated", defArgs s_repeated, defBody s_repeated, defScope s_repeated, [], []⟩
def d_wrapped : He.DefD := ⟨("_law_wrapped", none), "_law_wrapped", "_law_wrapped", defArgs s_wrapped, defBody s_wrapped, defScope s_wrapped, [], []⟩
def d_unrolled : He.DefD := ⟨("_law_unrolled", none), "_law_unrolled", "_law_unrolled", defArgs s_unrolled, defBody s_unrolled, defScope s_unrolled, [], []⟩
def d_paid : He.DefD := ⟨("_law_paid", none), "_law_paid", "_law_paid", defArgs s_paid, defBody s_paid, defScope s_paid, [], []⟩
def d_idle : He.DefD := ⟨("_law_idle", none), "_law_idle", "_law_idle", defArgs s_idle, defBody s_idle, defScope s_idle, [], []⟩
def d_idle_part : He.DefD := ⟨("_law_idle_part", none), "_law_idle_part", "_law_idle_part", defArgs s_idle_part, defBody s_idle_part, defScope s_idle_part, [], []⟩
def d_pacts : He.DefD := ⟨("_law_pacts", none), "_law_pacts", "_law_pacts", defArgs s_pacts, defBody s_pacts, defScope s_pacts, [], []⟩
def d_size : He.DefD := ⟨("_law_size", none), "_law_size", "_law_size", defArgs s_size, defBody s_size, defScope s_size, [], []⟩
def d_law : He.DefD := ⟨("law", none), "law", "law", defArgs s_law, defBody s_law, defScope s_law, [], []⟩
abbrev s_BadParty___init__ : Stmt := inClass (topS 8) 0
theorem xn_BadParty {P : Program} {w : World} {K : PySem.W.Frag} {mg : Str → Option Value} {base : Heap} {fl : Str} (h1 : supObs K "BadParty" = supVal "BadParty.__init__" s_BadParty___init__) (h : ExnF K (He.ga K "BadParty") "BadParty.__init__" "party" fl) (hfl : ((P.main.file : Str) == fl) = true) (htop : (P.main.scope.names.lookup ("super" : Str)).isSome = false) (g : mg "BadParty" = some (.ref (He.ga K "BadParty"))) (m_super : mg "super" = none) : Exn P w K mg base "BadParty" (He.ga K "BadParty") "party" := by
  obtain ⟨c, cc, fd, kV, doc, pm, ct, an, hfd, S, hcd⟩ := sup_of h1 h.sup hfl htop
  refine ⟨S.oex, g, He.ma K _ "__init__", fd, ["self", "party"], h.ini, h.ty, ?_, ?_⟩
  · exact exn_ok (v := "party") (F := ⟨"__init__", "BadParty.__init__", defArgs s_BadParty___init__, defBody s_BadParty___init__, defScope s_BadParty___init__, [("__class__", cc)], c⟩) hfd S hcd (NdefX.nscope_by (sc := defScope s_BadParty___init__) (by decide +kernel)) rfl rfl rfl (show (defScope s_BadParty___init__).names.lookup ("super" : Str) = some .globalImplicit by decide +kernel) m_super h.no (by decide) (by decide) rfl (fun _ _ _ _ _ => rfl) (fun _ _ _ _ _ => rfl) (fun _ _ _ _ _ => rfl) (fun _ _ _ _ _ => rfl)
  · subst hfd
    exact Binds.all fun us hl => match us, hl with | [_, _], _ => rfl
abbrev s_BadCount___init__ : Stmt := inClass (topS 4) 0
theorem xn_BadCount {P : Program} {w : World} {K : PySem.W.Frag} {mg : Str → Option Value} {base : Heap} {fl : Str} (h1 : supObs K "BadCount" = supVal "BadCount.__init__" s_BadCount___init__) (h : ExnF K (He.ga K "BadCount") "BadCount.__init__" "value" fl) (hfl : ((P.main.file : Str) == fl) = true) (htop : (P.main.scope.names.lookup ("super" : Str)).isSome = false) (g : mg "BadCount" = some (.ref (He.ga K "BadCount"))) (m_super : mg "super" = none) : Exn P w K mg base "BadCount" (He.ga K "BadCount") "value" := by
  obtain ⟨c, cc, fd, kV, doc, pm, ct, an, hfd, S, hcd⟩ := sup_of h1 h.sup hfl htop
  refine ⟨S.oex, g, He.ma K _ "__init__", fd, ["self", "value"], h.ini, h.ty, ?_, ?_⟩
  · exact exn_ok (v := "value") (F := ⟨"__init__", "BadCount.__init__", defArgs s_BadCount___init__, defBody s_BadCount___init__, defScope s_BadCount___init__, [("__class__", cc)], c⟩) hfd S hcd (NdefX.nscope_by (sc := defScope s_BadCount___init__) (by decide +kernel)) rfl rfl rfl (show (defScope s_BadCount___init__).names.lookup ("super" : Str) = some .globalImplicit by decide +kernel) m_super h.no (by decide) (by decide) rfl (fun _ _ _ _ _ => rfl) (fun _ _ _ _ _ => rfl) (fun _ _ _ _ _ => rfl) (fun _ _ _ _ _ => rfl)
  · subst hfd
    exact Binds.all fun us hl => match us, hl with | [_, _], _ => rfl
def xns : List (PySem.W.Frag → SupV) := [fun K => supObs K "BadParty", fun K => supObs K "BadCount", fun K => supObs K "Transfer", fun K => supObs K "Event", fun K => supObs K "Choice", fun K => supObs K "Rounds", fun K => supObs K "Endless", fun K => supObs K "Times"]
def exPr (K : PySem.W.Frag) : List Bool := []
def xvs : List SupV := [supVal "BadParty.__init__" s_BadParty___init__, supVal "BadCount.__init__" s_BadCount___init__, supVal "Transfer.__init__" s_Transfer___init__, supVal "Event.__init__" s_Event___init__, supVal "Choice.__init__" s_Choice___init__, supVal "Rounds.__init__" s_Rounds___init__, supVal "Endless.__init__" s_Endless___init__, supVal "Times.__init__" s_Times___init__]
def exXn (fl : Str) (K : PySem.W.Frag) : List Bool := [exnB fl "BadParty.__init__" "party" K (He.ga K "BadParty"), exnB fl "BadCount.__init__" "value" K (He.ga K "BadCount")]
def exSu (fl : Str) (K : PySem.W.Frag) : List Bool := [supP fl K (He.ga K "Transfer") (He.ga K "Part") "Transfer.__init__", supP fl K (He.ga K "Event") (He.ga K "Part") "Event.__init__", supP fl K (He.ga K "Choice") (He.ga K "Part") "Choice.__init__", supP fl K (He.ga K "Rounds") (He.ga K "Part") "Rounds.__init__", supP fl K (He.ga K "Endless") (He.ga K "Part") "Endless.__init__", supP fl K (He.ga K "Times") (He.ga K "Part") "Times.__init__"]
def fn : List He.DefD := [d_value_at, d_joined, d_marks_of, d_track, d_rising_part, d_combined, d_composed, d_flat_point, d_greatest_value, d_Need___init__, d_Need_value_for, d_Need___rshift__, d_Need___or__, d_Need___and__, d_Need___mul__, d_Need_mine, d_Need_theirs, d_Need_endless, d_is_party, d_is_mark, d_check_party, d_check_mark, d_check_size, d_as_pact, d_Part___init__, d_Pact___init__, d_need_of_transfer, d_need_of_choice, d_need_of_part, d_need_of, d_cell, d_draws, d_take, d_parties, d_amount, d_pact, d_part, d_weight, d_part_weight, d_cut, d_build, d_build_part, d_is_number, d_fields, d_first_above, d_Need___call__, d_Need_excess, d_Pact___add__, d_Pact___mul__, d_Pact___getitem__, d_same, d_law_joined, d_repeated, d_wrapped, d_unrolled, d_paid, d_idle, d_idle_part, d_pacts, d_size, d_law]
def fa : List He.Fa := [.glo "value_at", .glo "joined", .glo "marks_of", .glo "track", .glo "rising_part", .glo "combined", .glo "composed", .glo "flat_point", .glo "greatest_value", .glo "is_party", .glo "is_mark", .glo "check_party", .glo "check_mark", .glo "check_size", .glo "as_pact", .glo "need_of_transfer", .glo "need_of_choice", .glo "need_of_part", .glo "need_of", .glo "_law_cell", .glo "_law_draws", .glo "_law_take", .glo "_law_parties", .glo "_law_amount", .glo "_law_pact", .glo "_law_part", .glo "_law_weight", .glo "_law_part_weight", .glo "_law_cut", .glo "_law_build", .glo "_law_build_part", .glo "_law_is_number", .glo "_law_fields", .glo "first_above", .glo "_law_same", .glo "_law_joined", .glo "_law_repeated", .glo "_law_wrapped", .glo "_law_unrolled", .glo "_law_paid", .glo "_law_idle", .glo "_law_idle_part", .glo "_law_pacts", .glo "_law_size", .glo "law", .free "abs", .free "bool", .free "enumerate", .free "int", .free "isinstance", .free "len", .free "list", .free "max", .free "min", .free "range", .free "sorted", .free "sum", .free "super", .free "tuple", .glo "Need", .cls "Need", .mkr "Need", .noat "Need" "start", .noat "Need" "rises", .noat "Need" "never", .meth "Need" "value_for", .meth "Need" "mine", .meth "Need" "theirs", .meth "Need" "endless", .meth "Need" "excess", .glo "Part", .cls "Part", .mkr "Part", .glo "Pact", .cls "Pact", .mkr "Pact", .noat "Pact" "parts", .noat "Pact" "weight", .noat "Pact" "depth", .noat "Pact" "text", .glo "Transfer", .cls "Transfer", .mkr "Transfer", .noat "Transfer" "payer", .noat "Transfer" "payee", .noat "Transfer" "amount", .noat "Transfer" "weight", .noat "Transfer" "depth", .noat "Transfer" "text", .glo "Event", .cls "Event", .mkr "Event", .noat "Event" "mark", .noat "Event" "weight", .noat "Event" "depth", .noat "Event" "text", .glo "Choice", .cls "Choice", .mkr "Choice", .noat "Choice" "owner", .noat "Choice" "options", .noat "Choice" "weight", .noat "Choice" "depth", .noat "Choice" "text", .glo "Rounds", .cls "Rounds", .mkr "Rounds", .noat "Rounds" "owner", .noat "Rounds" "body", .noat "Rounds" "weight", .noat "Rounds" "depth", .noat "Rounds" "text", .glo "Endless", .cls "Endless", .mkr "Endless", .noat "Endless" "body", .noat "Endless" "weight", .noat "Endless" "depth", .noat "Endless" "text", .glo "Times", .cls "Times", .mkr "Times", .noat "Times" "count", .noat "Times" "body", .noat "Times" "weight", .noat "Times" "depth", .noat "Times" "text", .int "MOST_AMOUNT" (1000000000000000000000000000000000000000000000000000000000000), .int "MOST_WEIGHT" (400), .int "MOST_DEPTH" (30), .int "MOST_COUNT" (100), .int "MOST_OPTIONS" (6), .int "MOST_TIMES" (400), .str "PARTIES" "abcdef", .str "MARKS" "ABCDEFGHIJKLMNOPQRSTUVWXYZ", .glo "BadParty", .glo "BadCount"]
def loose : List Str := [("_wall" : Str), ("HouseError" : Str), ("BadAmount" : Str), ("BadCount" : Str), ("BadMark" : Str), ("BadNeed" : Str), ("BadPart" : Str), ("BadParty" : Str), ("TooLarge" : Str), ("value_at" : Str), ("joined" : Str), ("marks_of" : Str), ("track" : Str), ("rising_part" : Str), ("combined" : Str), ("composed" : Str), ("flat_point" : Str), ("rise_point" : Str), ("first_above" : Str), ("MOST_TIMES" : Str), ("greatest_value" : Str), ("Need" : Str), ("PARTIES" : Str), ("MARKS" : Str), ("is_party" : Str), ("is_mark" : Str), ("check_party" : Str), ("check_mark" : Str), ("MOST_AMOUNT" : Str), ("MOST_WEIGHT" : Str), ("MOST_DEPTH" : Str), ("MOST_COUNT" : Str), ("MOST_OPTIONS" : Str), ("check_size" : Str), ("Part" : Str), ("Transfer" : Str), ("Event" : Str), ("Choice" : Str), ("Rounds" : Str), ("Endless" : Str), ("Times" : Str), ("Pact" : Str), ("as_pact" : Str), ("need_of_transfer" : Str), ("need_of_choice" : Str), ("need_of_part" : Str), ("need_of" : Str), ("_law_cell" : Str), ("_law_draws" : Str), ("_law_take" : Str), ("_law_parties" : Str), ("_law_amount" : Str), ("_law_pact" : Str), ("_law_part" : Str), ("_law_weight" : Str), ("_law_part_weight" : Str), ("_law_cut" : Str), ("_law_build" : Str), ("_law_build_part" : Str), ("_law_is_number" : Str), ("_law_fields" : Str), ("_law_same" : Str), ("_law_pacts" : Str), ("_law_size" : Str), ("_law_joined" : Str), ("_law_repeated" : Str), ("_law_wrapped" : Str), ("_law_unrolled" : Str), ("_law_paid" : Str), ("_law_idle" : Str), ("_law_idle_part" : Str)]
def fl : Str := PySem.Challenge.pw_signedpacts_k40_whole_need_of_sums.main.file
def exL0 (K : PySem.W.Frag) : List Bool := [isB K (He.ga K "Need"), isB K (He.ga K "Pact"), spB K (He.ga K "Need") "__rshift__", spB K (He.ga K "Need") "__or__", spB K (He.ga K "Need") "__and__", spB K (He.ga K "Need") "__mul__",
  PySem.W.selfFirst K (He.ga K "Need"), He.eqO (PySem.W.findIn K (.ref (He.ga K "Need")) "__rmul__") (some none), (PySem.W.findIn K (.type "int") "__mul__").isSome, (PySem.W.findIn K (.type "int") "__rmul__").isSome, decide (PySem.W.subIn K (.type "int") (.ref (He.ga K "Need")) = some false),
  spB K (He.ga K "Need") "__call__", spB K (He.ga K "Pact") "__add__", spB K (He.ga K "Pact") "__mul__", spB K (He.ga K "Pact") "__getitem__", PySem.W.selfFirst K (He.ga K "Pact"), He.eqO (PySem.W.findIn K (.ref (He.ga K "Pact")) "__rmul__") (some none), decide (PySem.W.subIn K (.type "int") (.ref (He.ga K "Pact")) = some false), PySem.W.noSeq K (He.ga K "Pact")]
def exL1 (K : PySem.W.Frag) : List Bool := [isB K (He.ga K "Transfer"), isB K (He.ga K "Event"), isB K (He.ga K "Choice"), isB K (He.ga K "Rounds"), isB K (He.ga K "Endless"), isB K (He.ga K "Times")]
def exL2 (K : PySem.W.Frag) : List Bool := [kitVB K (He.ga K "Transfer") (.ref (He.ga K "Part")) true, kitVB K (He.ga K "Event") (.ref (He.ga K "Part")) true, kitVB K (He.ga K "Choice") (.ref (He.ga K "Part")) true, kitVB K (He.ga K "Rounds") (.ref (He.ga K "Part")) true, kitVB K (He.ga K "Endless") (.ref (He.ga K "Part")) true, kitVB K (He.ga K "Times") (.ref (He.ga K "Part")) true]
def exL3 (K : PySem.W.Frag) : List Bool := [conB K (He.ga K "Transfer") "KIND" "transfer", conB K (He.ga K "Event") "KIND" "event", conB K (He.ga K "Choice") "KIND" "choice", conB K (He.ga K "Rounds") "KIND" "rounds", conB K (He.ga K "Endless") "KIND" "endless", conB K (He.ga K "Times") "KIND" "times"]
def ex1 (K : PySem.W.Frag) : Bool := (exL0 K).all id && (exXn fl K).all id
def ex2 (K : PySem.W.Frag) : Bool := (exPr K).all id && (exSu fl K).all id
def ex3 (K : PySem.W.Frag) : Bool := (exL1 K).all id && ((exL2 K).all id && (exL3 K).all id)
def ex (K : PySem.W.Frag) : Bool := ex1 K && (ex2 K && ex3 K)
abbrev R : PySem.W.OpenRow := PySem.W.OpenLaw.row PySem.Challenge.rw_signedpacts_k40_whole_need_of_sums
abbrev hk : PySem.W.Hook := hookY 4 fa fn xns xvs ex
def ob (s : PySem.W.SharedT) : He.AlD × (List SupV × Bool) := obY 4 fa fn xns ex (HandSHeadRun.getT s)
theorem ob_eq (s : PySem.W.SharedT) : ob s = hk.obs s.abs := obY_eq (HandSHeadRun.getT_eq s)
open HandSHeadRun PySem.W PySem.Calls in
theorem run_a (w : World) (os : OsState) : (endF (stepQ (denQ tabQ) Zr.R.prog w) 8000 Zr.R.prog w os).map (fun s => (looksF Zr.R.prog (boot_heap w.params) s.abs, seenQ (PySem.W.view Zr.R.prog [78]) loose (importedModules Zr.R.prog.main.body) (fun s => xlAt (PySem.W.view Zr.R.prog [78]) [] s && recOk Zr.R.toRowW.records s) s.abs)) = some (true, openGood (PySem.W.view Zr.R.prog [78]) loose) := by kernel_rfl
open HandSHeadRun in
theorem run_b1 (w : World) (os : OsState) : (endF (stepQ (denQ tabQ) Zr.R.prog w) 8000 Zr.R.prog w os).map (fun s => He.obsD fa fn (He.frG (getT s) (asX (getT s) 4))) = some (He.valD fn) := by kernel_rfl
open HandSHeadRun in
theorem run_b2 (w : World) (os : OsState) : (endF (stepQ (denQ tabQ) Zr.R.prog w) 8000 Zr.R.prog w os).map (fun s => (xns.map (fun f => f (He.frG (getT s) (asX (getT s) 4))), ex (He.frG (getT s) (asX (getT s) 4)))) = some (xvs, true) := by kernel_rfl
theorem pair_join {α β γ : Type} {o : Option α} {f : α → β} {g : α → γ} {b : β} {c : γ} (h1 : o.map f = some b) (h2 : o.map g = some c) : o.map (fun s => (f s, g s)) = some (b, c) := by
  cases o with
  | none => cases h2
  | some s =>
    simp only [Option.map_some, Option.some.injEq] at h1 h2 ⊢
    rw [h1, h2]
open HandSHeadRun in
theorem run_b (w : World) (os : OsState) : (endF (stepQ (denQ tabQ) Zr.R.prog w) 8000 Zr.R.prog w os).map ob = some (hk.val w) := pair_join (run_b1 w os) (run_b2 w os)
theorem run (w : World) : HandSHeadRun.RunEq Zr.R (PySem.W.view Zr.R.prog [78]) hk ob 8000 loose w := by
  intro os
  have z := run_join (run_a w os) (run_b w os)
  exact z
end Zr
set_option Elab.async false
set_option linter.all false
set_option maxRecDepth 100000
set_option maxHeartbeats 4000000
namespace Z
open PySem PySem.Spec PyProof.Rows L2
/-! ### comprehensions that give ints, over a list of ints and over a range -/
theorem lc_ofs {K : PySem.W.Frag} {J : It} {D : Addr} {n : Nat} {H0 : Hp} {i : Nat} {te : TE} {vs : List Nat} {σ : L2.St} {Qd : Hp → Prop} (g : Nat → Int) (xv : Nat → V) (hn : n ≤ 1000000) (nD : H0 D = none)
    (hgo : ∀ k H1, k < n → Same H0 H1 → J.go k H1) (hst : ∀ H1, Same H0 H1 → J.stop n H1) (hy : ∀ k H1 x H2, k < n → Same H0 H1 → J.yld k H1 x H2 → H2 = H1 ∧ x = xv k)
    (hw : ∀ k, wipe ((wipe σ vs).set i (some (xv k))) vs = wipe σ vs)
    (ht : ∀ k H1 (Q : VK), k < n → Same H0 H1 → (∀ H2, Same H1 H2 → Q (.int (g k)) H2) → te ((wipe σ vs).set i (some (xv k))) H1 Q)
    (hd : ∀ H1, Same H0 H1 → H1 D = some (.lst (((List.range n).map g).map V.int)) → Qd H1) : lcW J (gName i) tYes te vs σ D Qd H0 := by
  refine lc_gen (n := n) (fun k H1 => Same H0 H1 ∧ H1 D = some (.lst (((List.range k).map g).map V.int))) ⟨same_new nD, upd_same⟩ (fun k H1 hk p => hgo k H1 hk p.1) (fun H1 p => hst H1 p.1) ?_ (fun H1 p => hd H1 p.1 p.2)
  rintro k H1 x H2 hk ⟨s, e⟩ y
  obtain ⟨rfl, rfl⟩ := hy k H1 x H2 hk s y
  refine ⟨hw k, ?_⟩
  refine ht k _ _ hk s (fun H3 s3 => ⟨_, s3 _ _ e, ?_, Z.Same.mut (s.trans s3) nD, ?_⟩)
  · rw [List.length_map, List.length_map, List.length_range]
    exact Nat.lt_of_lt_of_le hk (Nat.le_trans hn (by decide))
  · rw [upd_same, List.range_succ, List.map_append, List.map_append]
    rfl
theorem lc_rng {K : PySem.W.Frag} {lo : Int} {D : Addr} {n : Nat} {H0 : Hp} {i : Nat} {te : TE} {vs : List Nat} {σ : L2.St} {Qd : Hp → Prop} (g : Nat → Int) (hn : n ≤ 1000000) (nD : H0 D = none) (hw : ∀ k : Nat, wipe ((wipe σ vs).set i (some (.int (lo + k)))) vs = wipe σ vs)
    (ht : ∀ (k : Nat) H1 (Q : VK), k < n → Same H0 H1 → (∀ H2, Same H1 H2 → Q (.int (g k)) H2) → te ((wipe σ vs).set i (some (.int (lo + k)))) H1 Q)
    (hd : ∀ H1, Same H0 H1 → H1 D = some (.lst (((List.range n).map g).map V.int)) → Qd H1) : lcW (Itr lo n) (gName i) tYes te vs σ D Qd H0 :=
  lc_ofs (K := K) g (fun k => .int (lo + k)) hn nD (fun k H1 hk _ => hk) (fun H1 _ => Nat.le_refl _) (fun k H1 x H2 _ _ y => y) hw ht hd
theorem lc_lst {K : PySem.W.Frag} {a D : Addr} {xs : List Int} {H0 : Hp} {i : Nat} {te : TE} {vs : List Nat} {σ : L2.St} {Qd : Hp → Prop} (hS : SqL K H0 a (xs.map V.int)) (g : Int → Int) (hn : xs.length ≤ 1000000) (nD : H0 D = none) (hw : ∀ x : Int, wipe ((wipe σ vs).set i (some (.int x))) vs = wipe σ vs)
    (ht : ∀ x H1 (Q : VK), x ∈ xs → Same H0 H1 → (∀ H2, Same H1 H2 → Q (.int (g x)) H2) → te ((wipe σ vs).set i (some (.int x))) H1 Q)
    (hd : ∀ H1, Same H0 H1 → H1 D = some (.lst ((xs.map g).map V.int)) → Qd H1) : lcW (Itl K a) (gName i) tYes te vs σ D Qd H0 := by
  have ex : ∀ k, k < xs.length → (xs.map V.int)[k]? = some (.int (xs.getD k 0)) := fun k hk => by
    rw [List.getElem?_map, List.getD_eq_getElem?_getD, List.getElem?_eq_getElem hk]
    rfl
  refine lc_ofs (K := K) (n := xs.length) (fun k => g (xs.getD k 0)) (fun k => .int (xs.getD k 0)) hn nD (fun k H1 hk s => ⟨_, _, s.seq hS, ex k hk⟩) (fun H1 s => ⟨_, s.seq hS, by rw [List.length_map]; exact Nat.le_refl _⟩) (fun k H1 x H2 hk s y => ⟨y.1, Option.some.inj ((y.2 _ (s.seq hS)).symm.trans (ex k hk))⟩) (fun k => hw _) (fun k H1 Q hk s q => ht _ H1 Q ?_ s q) (fun H1 s e => hd H1 s ?_)
  · rw [List.getD_eq_getElem?_getD, List.getElem?_eq_getElem hk]
    exact List.getElem_mem hk
  · rw [e]
    congr 2
    congr 1
    apply List.ext_getElem
    · rw [List.length_map, List.length_map, List.length_range]
    · intro k h1 h2
      rw [List.length_map] at h2
      rw [List.getElem_map, List.getElem_map, List.getElem_range, List.getD_eq_getElem?_getD, List.getElem?_eq_getElem h2]
      rfl
/-- for x in xs, ints -/
theorem for_lst {K : PySem.W.Frag} {a : Addr} {xs : List Int} {H0 H : Hp} {i : Nat} {tb : TS} {D : Ends} {σ : L2.St} (hS : SqL K H0 a (xs.map V.int)) (Pv : Nat → L2.St → Hp → Prop) (h0 : Pv 0 σ H) (hq : ∀ k σ H1, Pv k σ H1 → Same H0 H1)
    (hs : ∀ (k : Nat) (x : Int) (σ : L2.St) (H1 : Hp), xs[k]? = some x → Pv k σ H1 → tb { D with nx := Pv (k + 1), ct := Pv (k + 1), bk := D.nx } (σ.set i (some (.int x))) H1)
    (hd : ∀ σ H1, Pv xs.length σ H1 → D.nx σ H1) : forW (Itl K a) (gName i) tb D σ H := by
  have ex : ∀ k, k < xs.length → (xs.map V.int)[k]? = some (.int (xs.getD k 0)) := fun k hk => by
    rw [List.getElem?_map, List.getD_eq_getElem?_getD, List.getElem?_eq_getElem hk]
    rfl
  refine for_gen (n := xs.length) Pv h0 (fun k σ H1 hk p => ⟨_, _, (hq k σ H1 p).seq hS, ex k hk⟩) (fun σ H1 p => ⟨_, (hq _ σ H1 p).seq hS, by rw [List.length_map]; exact Nat.le_refl _⟩) ?_ hd
  intro k σ H1 x H2 hk p y
  obtain ⟨rfl, e⟩ := y
  have e2 := Option.some.inj ((e _ ((hq k σ _ p).seq hS)).symm.trans (ex k hk))
  subst e2
  refine hs k _ σ _ ?_ p
  rw [List.getD_eq_getElem?_getD, List.getElem?_eq_getElem hk]
  rfl
/-- for x in xs, any values -/
theorem for_vs {K : PySem.W.Frag} {a : Addr} {xs : List V} {H0 H : Hp} {i : Nat} {tb : TS} {D : Ends} {σ : L2.St} (hS : SqL K H0 a xs) (Pv : Nat → L2.St → Hp → Prop) (h0 : Pv 0 σ H) (hq : ∀ k σ H1, Pv k σ H1 → Same H0 H1)
    (hs : ∀ (k : Nat) (x : V) (σ : L2.St) (H1 : Hp), xs[k]? = some x → Pv k σ H1 → tb { D with nx := Pv (k + 1), ct := Pv (k + 1), bk := D.nx } (σ.set i (some x)) H1)
    (hd : ∀ σ H1, Pv xs.length σ H1 → D.nx σ H1) : forW (Itl K a) (gName i) tb D σ H := by
  refine for_gen (n := xs.length) Pv h0 (fun k σ H1 hk p => ⟨_, _, (hq k σ H1 p).seq hS, List.getElem?_eq_getElem hk⟩) (fun σ H1 p => ⟨_, (hq _ σ H1 p).seq hS, Nat.le_refl _⟩) ?_ hd
  intro k σ H1 x H2 hk p y
  obtain ⟨rfl, e⟩ := y
  exact hs k x σ _ (e _ ((hq k σ _ p).seq hS)) p
theorem pe_fld_K {X : Cx} {K : PySem.W.Frag} {e : Expr} {f : Str} {pos : Pos} {ta : TE} (h : X.K = K) (he : PE X e ta) (hb : attributeBase e f X.env (eval e X.env) = eval e X.env) : PE X (.Attribute e f pos) (tFld K ta f) := by
  subst h
  exact pe_fld he hb
/-! ### reads -/
theorem at_nat {xs : List Int} {i : Int} (h0 : 0 ≤ i) (h1 : i < xs.length) : atI (xs.map V.int) i = some (.int (xs.getD i.toNat 0)) := by
  have hk : i.toNat < xs.length := by omega
  rw [show i = ((i.toNat : Nat) : Int) by omega, List.getD_eq_getElem?_getD, Int.toNat_natCast, List.getElem?_eq_getElem hk]
  exact at_map (List.getElem?_eq_getElem hk)
theorem rd_at {K : PySem.W.Frag} {H : Hp} {a : Addr} {xs : List Int} {i : Int} {R : V → Prop} (h : SqL K H a (xs.map V.int)) (h0 : 0 ≤ i) (h1 : i < xs.length) (q : R (.int (xs.getD i.toNat 0))) : ∃ a' ys j v, V.ref a = .ref a' ∧ V.int i = .int j ∧ SqL K H a' ys ∧ atI ys j = some v ∧ R v := ⟨a, _, i, _, rfl, rfl, h, at_nat h0 h1, q⟩
theorem rd_atT {K : PySem.W.Frag} {H : Hp} {a : Addr} {xs : List Int} {i : Int} {R : V → Prop} (h : SqT K H a (xs.map V.int)) (h0 : 0 ≤ i) (h1 : i < xs.length) (q : R (.int (xs.getD i.toNat 0))) : ∃ a' ys j v, V.ref a = .ref a' ∧ V.int i = .int j ∧ SqT K H a' ys ∧ atI ys j = some v ∧ R v := ⟨a, _, i, _, rfl, rfl, h, at_nat h0 h1, q⟩
end Z
set_option Elab.async false
set_option linter.all false
set_option maxRecDepth 100000
set_option maxHeartbeats 4000000
namespace Z
open PySem PySem.Spec PyProof.Rows L2
/-! ### enumerate(x) of one argument: x a list, a tuple or a text -/
theorem enum_new1 {v : Value} {o : Obj} {G : Heap → Prop} (B : Begins v o G) :
    Meets (Builtin.«enumerate.__new__» ⟨[.type "enumerate", v], []⟩) (fun _ R s => G s.heap ∧
      R (.ok (.ret (.ref (s.heap.push o).objs.size))) { s with heap := (s.heap.push o).push { cls := .type "enumerate", data := .fields #[.none, .bool false, .ref s.heap.objs.size, rawInt 0, .none, .none] } }) :=
  .of_wp fun prog w A R s h => by
    obtain ⟨hp, gl, dd, tok, oo⟩ := s
    obtain ⟨g1, h⟩ := h
    have hsub := sub_enumerate
    have step : ∀ {A' : Around} {E : Value → Shared → Prop} {Q : Value → Shared → Prop}, Q (.ref hp.objs.size) ⟨hp.push o, gl, dd, tok, oo⟩ → wpAny (model prog w) A' (pyIter v) Q E ⟨hp, gl, dd, tok, oo⟩ := fun z => B.iter prog w _ _ ⟨hp, gl, dd, tok, oo⟩ _ g1 z
    wp_walk using step
    refine wpAny_stack_any fun _ => wpAny_pure ?_
    split
    · rename_i cc _ _ _ _ _
      cases (cc == Value.type "enumerate") <;>
        (wp_walk using step
         exact ⟨_, rfl, h⟩)
    · wp_walk using step
      exact ⟨_, rfl, h⟩
section
variable {prog : Program} {w : World} {A : Around} {E : Value → Shared → Prop} {s : Shared}
theorem enum_begins1 {v : Value} {o : Obj} {G : Heap → Prop} {Q : Value → Shared → Prop} (B : Begins v o G) (g : G s.heap)
    (h : ∀ h', IsEnum h' (s.heap.objs.size + 1) s.heap.objs.size 0 .none → h'.get? s.heap.objs.size = some o → (∀ b ob, s.heap.get? b = some ob → h'.get? b = some ob) → Q (.ref (s.heap.objs.size + 1)) { s with heap := h' }) :
    wpAny (model prog w) A (call (.type "enumerate") [v]) Q E s := by
  refine callType_new F.called_enumerate (by decide) (F.typeCall_enumerate_1 v) (F.newCall_enumerate_1 v) (fun ob => F.args_object_init_2 ob _) F.entry_enumerate_new (enum_new1 B) ⟨g, ?_⟩
  have sz : (s.heap.push o).objs.size = s.heap.objs.size + 1 := Heap.size_push ..
  show _ ∧ _
  rw [sz]
  have ie : IsEnum ((s.heap.push o).push { cls := .type "enumerate", data := .fields #[.none, .bool false, .ref s.heap.objs.size, rawInt 0, .none, .none] }) (s.heap.objs.size + 1) s.heap.objs.size 0 .none := by
    have z := Heap.get?_push_size (s.heap.push o) (o := { cls := .type "enumerate", data := .fields #[.none, .bool false, .ref s.heap.objs.size, rawInt 0, .none, .none] }) rfl
    rw [sz] at z
    exact z
  exact ⟨⟨_, ie, rfl⟩, h _ ie (Heap.get?_push_of_some _ (Heap.get?_push_size _ B.free)) fun b ob z => Heap.get?_push_of_some _ (Heap.get?_push_of_some _ z)⟩
end
/-- pairs of a turn's number and its item -/
def ItEM (p : Bool) (K : PySem.W.Frag) (a : Addr) : It :=
  ⟨fun i H => ∃ (xs : List V) (x : V), SqK p K H a xs ∧ xs[i]? = some x,
   fun i H v H' => ∃ T x, v = .ref T ∧ H T = none ∧ H' = upd H T (.tup [.int (i : Nat), x]) ∧ (∀ xs, SqK p K H a xs → xs[i]? = some x),
   fun i H => ∃ xs : List V, SqK p K H a xs ∧ xs.length = i⟩
def ItES (z : Str) : It :=
  ⟨fun i _ => i < z.cps.size,
   fun i H v H' => ∃ T c, v = .ref T ∧ H T = none ∧ H' = upd H T (.tup [.int (i : Nat), .str ⟨#[c]⟩]) ∧ z.cps[i]? = some c,
   fun i _ => z.cps.size = i⟩
theorem enum_item {X : Cx} {pins : List (Addr × Obj)} {σ : L2.St} {H : Hp} {s : Shared} {e it : Addr} {fp : List Addr} {n i : Nat} {Pi : Nat → Value → Prop} {Si : Nat → Heap → Prop} {old : Value} {elts : List Expr} {kk : Nat} {tpos : Pos} {E : Value → Shared → Prop}
    (I : Inv X pins σ H s) (hf : ∀ b ∈ [e, it], FpOk X pins H b) (D : Draws X.prog X.w X.A.in1 it fp n Pi Si) (he : IsEnum s.heap e it ((i : Nat) : Int) old) (st : Si i s.heap) (lt : i < n) (ne : e ≠ it) (ef : e ∉ fp)
    (x : V) (ru : ∀ v, Pi i v → L2.RelV x v) :
    wpAny (model X.prog X.w) X.A (pyNext (.ref e)) (fun r s1 => ∃ u, r = some u ∧ wpAny (model X.prog X.w) X.A (letOwnedTupleGo (.Tuple elts kk tpos) (.ref e) u) (fun _ s2 => ∃ T, u = .ref T ∧ H T = none ∧ Inv X pins σ (upd H T (.tup [.int (i : Nat), x])) s2 ∧ (∃ o, IsEnum s2.heap e it ((i + 1 : Nat) : Int) o) ∧ Si (i + 1) s2.heap ∧ ∀ b ∈ [e, it], upd H T (.tup [.int (i : Nat), x]) b = none) E s1) E s := by
  have el : e < s.heap.objs.size := Heap.lt_size he
  have il : it < s.heap.objs.size := by
    obtain ⟨_, z⟩ := D.live _ _ st
    exact Heap.lt_size z
  refine wpAny_pyNext_enum_itemC D he st lt ne ef fun v g tk pv go st' gT gs gk => ?_
  refine ⟨_, rfl, wpAny_letOwnedTupleGo_enum (s := { s with heap := g, toks := tk + 1 }) go fun g2 ge sb => ?_⟩
  have gT2 : g2.get? s.heap.objs.size = some { cls := .type "tuple", data := .seq #[.int i tk, v] } := (sb.2 _ (Nat.ne_of_gt el)).trans gT
  have nw : ObjOk X.prog X.w (upd H s.heap.objs.size (.tup [.int (i : Nat), x])) g2 s.heap.objs.size (.tup [.int (i : Nat), x]) := ⟨by show 2 ≤ sizeLine; decide, [.int i tk, v], .cons ⟨tk, rfl⟩ (.cons (ru v pv) .nil), ⟨_, gT2, rfl, _, rfl⟩⟩
  have I1 : Inv X pins σ (upd H s.heap.objs.size (.tup [.int (i : Nat), x])) { s with heap := g2, toks := tk + 1 } :=
    I.turnedNew (t' := tk + 1) (ch := [e, it]) (fun b ob nb z => (sb.2 b (fun w => nb (by simp [w]))).trans (gk b ob (fun w => nb (by simp [w])) (fun w => nb (by simp [w])) z)) hf (Nat.le_refl _) nw
  refine ⟨_, rfl, I.hok.fresh (Nat.le_refl _), I1, ⟨v, ?_⟩, D.frame _ _ _ st' fun b hb o z => (sb.2 b fun w => ef (w ▸ hb)).trans z, fun b hb => ?_⟩
  · rw [show ((i + 1 : Nat) : Int) = (i : Int) + 1 by omega]
    exact ge
  · have lb : b < s.heap.objs.size := by
      rcases (show b = e ∨ b = it by simpa using hb) with z | z
      · rw [z]
        exact el
      · rw [z]
        exact il
    rw [upd_ne (Nat.ne_of_lt lb)]
    exact (hf b hb).1
theorem enum_done {X : Cx} {pins : List (Addr × Obj)} {σ : L2.St} {H : Hp} {s : Shared} {e it : Addr} {fp : List Addr} {n : Nat} {Pi : Nat → Value → Prop} {Si : Nat → Heap → Prop} {old : Value} {c : Int} {E : Value → Shared → Prop}
    (I : Inv X pins σ H s) (hf : ∀ b ∈ [e, it], FpOk X pins H b) (D : Draws X.prog X.w X.A.in1 it fp n Pi Si) (he : IsEnum s.heap e it c old) (st : Si n s.heap) :
    wpAny (model X.prog X.w) X.A (pyNext (.ref e)) (fun r s1 => r = none ∧ Inv X pins σ H s1) E s := by
  obtain ⟨f0, f1, f2, f3, f4, f5⟩ := hf it (by simp)
  exact wpAny_pyNext_enum_endD D he st fun g gk => ⟨rfl, I.turned (t' := s.toks) (fun b o hb z => gk b o hb z) f0 f1 f3 f4 f5⟩
theorem turn_enumM {p : Bool} {P : Program} {w : World} {K : PySem.W.Frag} {elts : List Expr} {kk : Nat} {tpos : Pos} (a e it : Addr) (ea : e ≠ a) (ia : a ≠ it) :
    Turn P w K (.Tuple elts kk tpos) (ItEM p K a) [e, it] e (fun i h => (∃ old, IsEnum h e it ((i : Nat) : Int) old) ∧ ItK p h it a i ∧ e ≠ it) where
  mem := by simp
  obj := fun i h st b hb => by
    obtain ⟨⟨old, he⟩, hi, _⟩ := st
    rcases (show b = e ∨ b = it by simpa using hb) with z | z
    · rw [z]
      exact ⟨_, he, fun v q => nomatch q⟩
    · rw [z]
      exact hi.obj
  keep := fun i h h' st k => by
    obtain ⟨⟨old, he⟩, hi, ne⟩ := st
    exact ⟨⟨old, k e (by simp) _ he⟩, hi.at' (fun o z => k it (by simp) o z), ne⟩
  item := by
    intro X hP hw hK hc i pins s σ H E I hf st hg
    subst hP hw hK
    obtain ⟨⟨old, he⟩, hi, ne⟩ := st
    obtain ⟨xs, x, qx, ex⟩ := hg
    obtain ⟨us, rx, kx, _⟩ := sqk_is I qx
    obtain ⟨u, eu, ru⟩ := rx.get ex
    have lu : i < us.toArray.size := by simpa using (List.getElem?_eq_some_iff.mp eu).1
    have hh : X.A.in1.handled = none := I.ok.hd hc
    have key : ∀ v, us.toArray[i]? = some v → L2.RelV x v := fun v pv => by
      have t1 : us.toArray[i]? = some u := by simpa using eu
      have t2 : u = v := Option.some.inj (t1.symm.trans pv)
      exact t2 ▸ ru
    refine thn (enum_item (elts := elts) (kk := kk) (tpos := tpos) (E := E) I hf (drawsK p hh it a ia us.toArray) he ⟨hi, kx⟩ lu ne (by simp [ne, ea]) x key) fun r s1 hr => ?_
    obtain ⟨v, er, hv⟩ := hr
    refine ⟨v, er, thn hv fun _ s2 z => ?_⟩
    obtain ⟨T, eT, nT, I2, ie, si, fr⟩ := z
    subst eT
    exact ⟨.ref T, _, I2, rfl, ⟨T, x, rfl, nT, rfl, fun l hl => by rw [sqk_inj I hl qx]; exact ex⟩, ⟨ie, si.1, ne⟩, fr⟩
  done := by
    intro X hP hw hK hc i pins s σ H E I hf st hg
    subst hP hw hK
    obtain ⟨⟨old, he⟩, hi, ne⟩ := st
    obtain ⟨xs, qx, el⟩ := hg
    obtain ⟨us, rx, kx, _⟩ := sqk_is I qx
    have lx := rx.length
    have hh : X.A.in1.handled = none := I.ok.hd hc
    have hn : us.toArray.size = i := by
      rw [List.size_toArray]
      omega
    exact enum_done I hf (drawsK p hh it a ia us.toArray) he (by rw [hn]; exact ⟨hi, kx⟩)
  self := fun A i s Q E st h => by
    obtain ⟨⟨_, he⟩, _⟩ := st
    exact wpAny_pyIter_enum he h
def iEnumM (K : PySem.W.Frag) (ta : TA) : TI := fun σ H R => ta σ H fun vs H1 => ∃ p a xs, vs = [.ref a] ∧ SqK p K H1 a xs ∧ R (ItEM p K a) H1
theorem pi_enumM {X : Cx} {e : Expr} {ta : TA} {p pos tpos : Pos} {elts : List Expr} {kk : Nat} (hg : Gl X "enumerate") (hm : X.mg "enumerate" = none) (ha : PA X [e] ta) (hs : starEach [e] X.env = [(false, eval e X.env)] := by rfl) :
    PI X (.Tuple elts kk tpos) (.Call (.Name "enumerate" p) [e] [] pos) (iEnumM X.K ta) := by
  constructor
  intro pins s σ H R I h
  refine Call_ (ld_blt I hg hm PyProof.Rows.boot_enumerate (PyProof.Rows.callWith_type1 (thn (ha.run pos pins s σ H _ I h) fun us s1 ⟨vs, H1, I1, r1, q1⟩ => ?_) hs rfl))
  obtain ⟨k1, a, xs, ex, qx, q⟩ := q1
  subst ex
  cases r1 with
  | cons r rr =>
    cases rr
    cases r
    obtain ⟨i1, _, p1, lt1⟩ := sqk_is I1 qx
    obtain ⟨o1, G1, B1, g1, w1⟩ := begK p1
    refine enum_begins1 B1 g1 fun h' he e1 hk => wpAny_pyIter_enum he ?_
    have I2 : Inv X pins σ H1 { s1 with heap := h' } := I1.kept (t' := s1.toks) hk
    refine ⟨s1.heap.objs.size + 1, [s1.heap.objs.size + 1, s1.heap.objs.size], _, _, H1, rfl, I2, turn_enumM a (s1.heap.objs.size + 1) s1.heap.objs.size (Nat.ne_of_gt (Nat.lt_succ_of_lt lt1)) (Nat.ne_of_lt lt1), ⟨⟨.none, he⟩, w1 _ _ e1, Nat.succ_ne_self _⟩, fun b hb => ?_, q⟩
    have lb : s1.heap.objs.size ≤ b := by
      rcases (show b = s1.heap.objs.size + 1 ∨ b = s1.heap.objs.size by simpa using hb) with z | z
      · rw [z]
        exact Nat.le_add_right _ _
      · rw [z]
        exact Nat.le_refl _
    exact I1.fpOk lb (I1.hok.fresh lb)
/-! over a text -/
theorem drawsS {prog : Program} {w : World} {A : Around} (hh : A.handled = none) (it : Addr) (z : Str) (t : Tok) :
    Draws prog w A it [it] z.cps.size (fun i v => ∃ c u, z.cps[i]? = some c ∧ v = .str ⟨#[c]⟩ u) (fun i h => h.IsStrIter it (strIterType z) z t i) := by
  unfold strIterType
  cases z.cps.all (· < 128)
  · exact Draws.strWide hh it z t
  · exact Draws.strAscii hh it z t
theorem turn_enumS {P : Program} {w : World} {K : PySem.W.Frag} {elts : List Expr} {kk : Nat} {tpos : Pos} (z : Str) (t : Tok) (e it : Addr) :
    Turn P w K (.Tuple elts kk tpos) (ItES z) [e, it] e (fun i h => (∃ old, IsEnum h e it ((i : Nat) : Int) old) ∧ h.IsStrIter it (strIterType z) z t i ∧ e ≠ it) where
  mem := by simp
  obj := fun i h st b hb => by
    obtain ⟨⟨old, he⟩, ⟨o, eo, _, d⟩, _⟩ := st
    rcases (show b = e ∨ b = it by simpa using hb) with y | y
    · rw [y]
      exact ⟨_, he, fun v q => nomatch q⟩
    · rw [y]
      exact ⟨o, eo, fun v q => by rw [d] at q; cases q⟩
  keep := fun i h h' st k => by
    obtain ⟨⟨old, he⟩, ⟨o, eo, r⟩, ne⟩ := st
    exact ⟨⟨old, k e (by simp) _ he⟩, ⟨o, k it (by simp) o eo, r⟩, ne⟩
  item := by
    intro X hP hw hK hc i pins s σ H E I hf st hg
    subst hP hw hK
    obtain ⟨⟨old, he⟩, hi, ne⟩ := st
    have lt : i < z.cps.size := hg
    have hh : X.A.in1.handled = none := I.ok.hd hc
    have ec : z.cps[i]? = some z.cps[i] := Array.getElem?_eq_getElem lt
    refine thn (enum_item (elts := elts) (kk := kk) (tpos := tpos) (E := E) I hf (drawsS hh it z t) he hi lt ne (by simp [ne]) (.str ⟨#[z.cps[i]]⟩) (fun v pv => ?_)) fun r s1 hr => ?_
    · obtain ⟨c, u, e1, e2⟩ := pv
      rw [ec] at e1
      cases e1
      subst e2
      exact ⟨u, rfl⟩
    obtain ⟨v, er, hv⟩ := hr
    refine ⟨v, er, thn hv fun _ s2 y => ?_⟩
    obtain ⟨T, eT, nT, I2, ie, si, fr⟩ := y
    subst eT
    exact ⟨.ref T, _, I2, rfl, ⟨T, _, rfl, nT, rfl, ec⟩, ⟨ie, si, ne⟩, fr⟩
  done := by
    intro X hP hw hK hc i pins s σ H E I hf st hg
    subst hP hw hK
    obtain ⟨⟨old, he⟩, hi, ne⟩ := st
    have el : z.cps.size = i := hg
    have hh : X.A.in1.handled = none := I.ok.hd hc
    exact enum_done I hf (drawsS hh it z t) he (by rw [el]; exact hi)
  self := fun A i s Q E st h => by
    obtain ⟨⟨_, he⟩, _⟩ := st
    exact wpAny_pyIter_enum he h
def iEnumS (ta : TA) : TI := fun σ H R => ta σ H fun vs H1 => ∃ z, vs = [.str z] ∧ R (ItES z) H1
theorem pi_enumS {X : Cx} {e : Expr} {ta : TA} {p pos tpos : Pos} {elts : List Expr} {kk : Nat} (hg : Gl X "enumerate") (hm : X.mg "enumerate" = none) (ha : PA X [e] ta) (hs : starEach [e] X.env = [(false, eval e X.env)] := by rfl) :
    PI X (.Tuple elts kk tpos) (.Call (.Name "enumerate" p) [e] [] pos) (iEnumS ta) := by
  constructor
  intro pins s σ H R I h
  refine Call_ (ld_blt I hg hm PyProof.Rows.boot_enumerate (PyProof.Rows.callWith_type1 (thn (ha.run pos pins s σ H _ I h) fun us s1 ⟨vs, H1, I1, r1, q1⟩ => ?_) hs rfl))
  obtain ⟨z, ex, q⟩ := q1
  subst ex
  cases r1 with
  | cons r rr =>
    cases rr
    obtain ⟨t, rfl⟩ := r
    refine enum_begins1 (begins_text z t) trivial fun h' he e1 hk => wpAny_pyIter_enum he ?_
    have I2 : Inv X pins σ H1 { s1 with heap := h' } := I1.kept (t' := s1.toks) hk
    refine ⟨s1.heap.objs.size + 1, [s1.heap.objs.size + 1, s1.heap.objs.size], _, _, H1, rfl, I2, turn_enumS z t (s1.heap.objs.size + 1) s1.heap.objs.size, ⟨⟨.none, he⟩, ⟨_, e1, rfl, rfl⟩, Nat.succ_ne_self _⟩, fun b hb => ?_, q⟩
    have lb : s1.heap.objs.size ≤ b := by
      rcases (show b = s1.heap.objs.size + 1 ∨ b = s1.heap.objs.size by simpa using hb) with y | y
      · rw [y]
        exact Nat.le_add_right _ _
      · rw [y]
        exact Nat.le_refl _
    exact I1.fpOk lb (I1.hok.fresh lb)
end Z
set_option Elab.async false
set_option linter.all false
set_option maxRecDepth 100000
set_option maxHeartbeats 4000000
namespace Z
open PySem PySem.Spec PyProof.Rows L2
/-! ### walks over a list (true) or a tuple (false) -/
inductive SeqOr (A B : Prop) : Prop
  | l : A → SeqOr A B
  | r : B → SeqOr A B
def iSeq (K : PySem.W.Frag) (tl : TE) : TI := fun σ H R => SeqOr (iList K tl σ H R) (iTup K tl σ H R)
theorem pi_sq {X : Cx} {tg l : Expr} {tl : TE} (he : PE X l tl) : PI X tg l (iSeq X.K tl) := by
  constructor
  intro pins s σ H R I h
  rcases h with h | h
  · exact (pi_list he).run pins s σ H R I h
  · exact (pi_tup he).run pins s σ H R I h
theorem pi_sq_K {X : Cx} {K : PySem.W.Frag} {tg l : Expr} {tl : TE} (h : X.K = K) (he : PE X l tl) : PI X tg l (iSeq K tl) := by
  subst h
  exact pi_sq he
theorem pi_list_K {X : Cx} {K : PySem.W.Frag} {tg l : Expr} {tl : TE} (h : X.K = K) (he : PE X l tl) : PI X tg l (iList K tl) := by
  subst h
  exact pi_list he
theorem pi_tup_K {X : Cx} {K : PySem.W.Frag} {tg l : Expr} {tl : TE} (h : X.K = K) (he : PE X l tl) : PI X tg l (iTup K tl) := by
  subst h
  exact pi_tup he
def ItQ (b : Bool) (K : PySem.W.Frag) (a : Addr) : It := match b with
  | true => Itl K a
  | false => Itt K a
theorem itq_go {b : Bool} {K : PySem.W.Frag} {H : Hp} {a : Addr} {xs : List V} {i : Nat} {x : V} (h : SqK b K H a xs) (e : xs[i]? = some x) : (ItQ b K a).go i H := by
  cases b <;> exact ⟨_, _, h, e⟩
theorem itq_stop {b : Bool} {K : PySem.W.Frag} {H : Hp} {a : Addr} {xs : List V} {i : Nat} (h : SqK b K H a xs) (e : xs.length ≤ i) : (ItQ b K a).stop i H := by
  cases b <;> exact ⟨_, h, e⟩
theorem itq_yld {b : Bool} {K : PySem.W.Frag} {H H' : Hp} {a : Addr} {xs : List V} {i : Nat} {x : V} (h : SqK b K H a xs) (y : (ItQ b K a).yld i H x H') : H' = H ∧ xs[i]? = some x := by
  cases b <;> exact ⟨y.1, y.2 _ h⟩
theorem rd_sq {b : Bool} {K : PySem.W.Frag} {σ : L2.St} {H : Hp} {i : Nat} {a : Addr} {xs : List V} {R : It → Hp → Prop} (e : σ[i]? = some (some (.ref a))) (h : SqK b K H a xs) (r : R (ItQ b K a) H) : iSeq K (tVar i) σ H R := by
  cases b
  · exact .r ⟨_, e, a, rfl, ⟨xs, h⟩, r⟩
  · exact .l ⟨_, e, a, rfl, ⟨xs, h⟩, r⟩
theorem lc_sq {b : Bool} {K : PySem.W.Frag} {a D : Addr} {xs : List Int} {H0 : Hp} {i : Nat} {te : TE} {vs : List Nat} {σ : L2.St} {Qd : Hp → Prop} (hS : SqK b K H0 a (xs.map V.int)) (g : Int → Int) (hn : xs.length ≤ 1000000) (nD : H0 D = none) (hw : ∀ x : Int, wipe ((wipe σ vs).set i (some (.int x))) vs = wipe σ vs)
    (ht : ∀ x H1 (Q : VK), x ∈ xs → Same H0 H1 → (∀ H2, Same H1 H2 → Q (.int (g x)) H2) → te ((wipe σ vs).set i (some (.int x))) H1 Q)
    (hd : ∀ H1, Same H0 H1 → H1 D = some (.lst ((xs.map g).map V.int)) → Qd H1) : lcW (ItQ b K a) (gName i) tYes te vs σ D Qd H0 := by
  have ex : ∀ k, k < xs.length → (xs.map V.int)[k]? = some (.int (xs.getD k 0)) := fun k hk => by
    rw [List.getElem?_map, List.getD_eq_getElem?_getD, List.getElem?_eq_getElem hk]
    rfl
  refine lc_ofs (K := K) (n := xs.length) (fun k => g (xs.getD k 0)) (fun k => .int (xs.getD k 0)) hn nD (fun k H1 hk s => itq_go (Z.Same.sqK s hS) (ex k hk)) (fun H1 s => itq_stop (Z.Same.sqK s hS) (by rw [List.length_map]; exact Nat.le_refl _)) (fun k H1 x H2 hk s y => ?_) (fun k => hw _) (fun k H1 Q hk s q => ht _ H1 Q ?_ s q) (fun H1 s e => hd H1 s ?_)
  · obtain ⟨e1, e2⟩ := itq_yld (Z.Same.sqK s hS) y
    exact ⟨e1, Option.some.inj (e2.symm.trans (ex k hk))⟩
  · rw [List.getD_eq_getElem?_getD, List.getElem?_eq_getElem hk]
    exact List.getElem_mem hk
  · rw [e]
    congr 2
    congr 1
    apply List.ext_getElem
    · rw [List.length_map, List.length_map, List.length_range]
    · intro k h1 h2
      rw [List.length_map] at h2
      rw [List.getElem_map, List.getElem_map, List.getElem_range, List.getD_eq_getElem?_getD, List.getElem?_eq_getElem h2]
      rfl
/-- for x in xs, any values -/
theorem for_sq {b : Bool} {K : PySem.W.Frag} {a : Addr} {xs : List V} {H0 H : Hp} {i : Nat} {tb : TS} {D : Ends} {σ : L2.St} (hS : SqK b K H0 a xs) (Pv : Nat → L2.St → Hp → Prop) (h0 : Pv 0 σ H) (hq : ∀ k σ H1, Pv k σ H1 → Same H0 H1)
    (hs : ∀ (k : Nat) (x : V) (σ : L2.St) (H1 : Hp), xs[k]? = some x → Pv k σ H1 → tb { D with nx := Pv (k + 1), ct := Pv (k + 1), bk := D.nx } (σ.set i (some x)) H1)
    (hd : ∀ σ H1, Pv xs.length σ H1 → D.nx σ H1) : forW (ItQ b K a) (gName i) tb D σ H := by
  refine for_gen (n := xs.length) Pv h0 (fun k σ H1 hk p => itq_go (Z.Same.sqK (hq k σ H1 p) hS) (List.getElem?_eq_getElem hk)) (fun σ H1 p => itq_stop (Z.Same.sqK (hq _ σ H1 p) hS) (Nat.le_refl _)) ?_ hd
  intro k σ H1 x H2 hk p y
  obtain ⟨rfl, e⟩ := itq_yld (Z.Same.sqK (hq k σ H1 p) hS) y
  exact hs k x σ _ e p
/-- for i, x in enumerate(xs) -/
theorem for_enum {b : Bool} {K : PySem.W.Frag} {a : Addr} {xs : List V} {H0 H : Hp} {i j : Nat} {tb : TS} {D : Ends} {σ : L2.St} (hS : SqK b K H0 a xs) (Pv : Nat → L2.St → Hp → Prop) (h0 : Pv 0 σ H) (hq : ∀ k σ H1, Pv k σ H1 → Same H0 H1)
    (hs : ∀ (k : Nat) (x : V) (σ : L2.St) (H1 H2 : Hp), xs[k]? = some x → Pv k σ H1 → Same H1 H2 → tb { D with nx := Pv (k + 1), ct := Pv (k + 1), bk := D.nx } ((σ.set i (some (.int (k : Nat)))).set j (some x)) H2)
    (hd : ∀ σ H1, Pv xs.length σ H1 → D.nx σ H1) : forW (ItEM b K a) (gTup K 2 (gCons (gName i) (gCons (gName j) gNil))) tb D σ H := by
  refine for_gen (n := xs.length) Pv h0 (fun k σ H1 hk p => ⟨xs, _, Z.Same.sqK (hq k σ H1 p) hS, List.getElem?_eq_getElem hk⟩) (fun σ H1 p => ⟨xs, Z.Same.sqK (hq _ σ H1 p) hS, rfl⟩) ?_ hd
  intro k σ H1 x H2 hk p y
  obtain ⟨T, z, rfl, nT, rfl, e⟩ := y
  exact ⟨T, _, rfl, SqT.of upd_same, rfl, _, _, rfl, _, _, rfl, rfl, hs k z σ H1 _ (e _ (Z.Same.sqK (hq k σ H1 p) hS)) p (same_new nT)⟩
/-- for i, c in enumerate(text) -/
theorem for_enumS {K : PySem.W.Frag} {z : Str} {H : Hp} {i j : Nat} {tb : TS} {D : Ends} {σ : L2.St} (Pv : Nat → L2.St → Hp → Prop) (h0 : Pv 0 σ H)
    (hs : ∀ (k : Nat) (c : Nat) (σ : L2.St) (H1 H2 : Hp), z.cps[k]? = some c → Pv k σ H1 → Same H1 H2 → tb { D with nx := Pv (k + 1), ct := Pv (k + 1), bk := D.nx } ((σ.set i (some (.int (k : Nat)))).set j (some (.str ⟨#[c]⟩))) H2)
    (hd : ∀ σ H1, Pv z.cps.size σ H1 → D.nx σ H1) : forW (ItES z) (gTup K 2 (gCons (gName i) (gCons (gName j) gNil))) tb D σ H := by
  refine for_gen (n := z.cps.size) Pv h0 (fun k σ H1 hk p => hk) (fun σ H1 p => rfl) ?_ hd
  intro k σ H1 x H2 hk p y
  obtain ⟨T, c, rfl, nT, rfl, e⟩ := y
  exact ⟨T, _, rfl, SqT.of upd_same, rfl, _, _, rfl, _, _, rfl, rfl, hs k c σ H1 _ e p (same_new nT)⟩
/-! ### built-ins within a comprehension's block -/
theorem cr_min_K {X : Cx} {K : PySem.W.Frag} (h : X.K = K) (hc : X.calm = true) : CallR X (.builtin "min") (rMin K) := by
  subst h
  exact cr_min hc
theorem cr_max_K {X : Cx} {K : PySem.W.Frag} (h : X.K = K) (hc : X.calm = true) : CallR X (.builtin "max") (rMax K) := by
  subst h
  exact cr_max hc
theorem cr_sum_K {X : Cx} {K : PySem.W.Frag} (h : X.K = K) (hc : X.calm = true) : CallR X (.builtin "sum") (rSum K) := by
  subst h
  exact cr_sum hc
theorem cr_all_K {X : Cx} {K : PySem.W.Frag} (h : X.K = K) (hc : X.calm = true) : CallR X (.builtin "all") (rAll K) := by
  subst h
  exact cr_all hc
theorem cr_any_K {X : Cx} {K : PySem.W.Frag} (h : X.K = K) (hc : X.calm = true) : CallR X (.builtin "any") (rAny K) := by
  subst h
  exact cr_any hc
/-! ### comprehensions with a test, any values -/
def fltL (kb : Nat → Bool) (g : Nat → V) (n : Nat) : List V := ((List.range n).filter kb).map g
theorem flt_succ (kb : Nat → Bool) (g : Nat → V) (n : Nat) : fltL kb g (n + 1) = fltL kb g n ++ (if kb n then [g n] else []) := by
  unfold fltL
  rw [List.range_succ, List.filter_append, List.map_append]
  cases e : kb n <;> simp [e]
theorem flt_len (kb : Nat → Bool) (g : Nat → V) (n : Nat) : (fltL kb g n).length ≤ n := by
  unfold fltL
  rw [List.length_map]
  exact Nat.le_trans (List.length_filter_le ..) (by rw [List.length_range]; exact Nat.le_refl _)
theorem lc_flt {J : It} {D : Addr} {n : Nat} {H0 : Hp} {i : Nat} {tt : TT} {te : TE} {vs : List Nat} {σ : L2.St} {Qd : Hp → Prop} (xv : Nat → V) (kb : Nat → Bool) (g : Nat → V) (hn : n ≤ 1000000) (nD : H0 D = none)
    (hgo : ∀ k H1, k < n → Same H0 H1 → J.go k H1) (hst : ∀ H1, Same H0 H1 → J.stop n H1) (hy : ∀ k H1 x H2, k < n → Same H0 H1 → J.yld k H1 x H2 → Same H1 H2 ∧ x = xv k)
    (hw : ∀ k, wipe ((wipe σ vs).set i (some (xv k))) vs = wipe σ vs)
    (hb : ∀ k H1 (Q : Bool → Hp → Prop), k < n → Same H0 H1 → (∀ H2, Same H1 H2 → Q (kb k) H2) → tt ((wipe σ vs).set i (some (xv k))) H1 Q)
    (ht : ∀ k H1 (Q : VK), k < n → kb k = true → Same H0 H1 → (∀ H2, Same H1 H2 → Q (g k) H2) → te ((wipe σ vs).set i (some (xv k))) H1 Q)
    (hd : ∀ H1, Same H0 H1 → H1 D = some (.lst (fltL kb g n)) → Qd H1) : lcW J (gName i) tt te vs σ D Qd H0 := by
  refine lc_gen (n := n) (fun k H1 => Same H0 H1 ∧ H1 D = some (.lst (fltL kb g k))) ⟨same_new nD, upd_same⟩ (fun k H1 hk p => hgo k H1 hk p.1) (fun H1 p => hst H1 p.1) ?_ (fun H1 p => hd H1 p.1 p.2)
  rintro k H1 x H2 hk ⟨s, e⟩ y
  obtain ⟨s2, rfl⟩ := hy k H1 x H2 hk s y
  refine ⟨hw k, ?_⟩
  refine hb k _ _ hk (s.trans s2) (fun H3 s3 => ?_)
  cases eb : kb k
  · rw [if_neg (by decide)]
    refine ⟨s.trans (s2.trans s3), ?_⟩
    rw [flt_succ, eb]
    simpa using s3 _ _ (s2 _ _ e)
  · rw [if_pos rfl]
    refine ht k _ _ hk eb (s.trans (s2.trans s3)) (fun H4 s4 => ⟨_, s4 _ _ (s3 _ _ (s2 _ _ e)), ?_, Z.Same.mut (s.trans (s2.trans (s3.trans s4))) nD, ?_⟩)
    · exact Nat.lt_of_le_of_lt (flt_len kb g k) (Nat.lt_of_lt_of_le hk (Nat.le_trans hn (by decide)))
    · rw [upd_same, flt_succ, eb]
      rfl
end Z
set_option Elab.async false
set_option linter.all false
set_option maxRecDepth 100000
set_option maxHeartbeats 4000000
namespace Z
open PySem PySem.Spec PyProof PyProof.Rows L2 F
/-! ### len(x), x an instance of a class with __len__ -/
structure LenO (P : Program) (w : World) (K : PySem.W.Frag) (mg : Str → Option Value) (base : Heap) (k : Nat) (C : Addr) (sp : Sp) : Prop where
  ex : ∃ (f : Addr) (fd : FuncData) (ps : List Str), FnOk P w K mg base CX0 k f fd ps sp ∧ PySem.W.findIn K (.ref C) "__len__" = some (some (.ref f)) ∧ PySem.W.isFn K (.ref f) = true ∧ Binds K fd ps []
def rLenO (C : Addr) (sp : Sp) : List V → Hp → VK → Prop := fun xs H Q => ∃ a dx fs, xs = [.ref a] ∧ H a = some (.ins C dx fs) ∧ sp [.ref a] H (fun v H' => ∃ n : Int, v = .int n ∧ 0 ≤ n ∧ n < 2 ^ 63 ∧ Q (.int n) H') E0
theorem call_lenO {X : Cx} {k j : Nat} {C : Addr} {sp : Sp} (c : LenO X.prog X.w X.K X.mg X.base k C sp) (hr : Room j X.A) (hk : k + 1 ≤ j) : CallR X (.builtin "len") (rLenO C sp) := by
  intro pins s σ H xs us Q I r h
  obtain ⟨f, fd, ps, F, hs, hf, hb⟩ := c.ex
  obtain ⟨a, dx, fs, rfl, ha, q⟩ := h
  obtain ⟨u, rfl, ru⟩ := vals1 r
  obtain rfl : u = Value.ref a := ru
  obtain ⟨mA, J, _⟩ := ins_get I.hok ha
  obtain ⟨od, J, _⟩ := J.look
  refine Calls.call_function_entry kind_len plain_len entry_len (args_len1 _) ?_
  unfold Builtin.«len»
  refine wpAny_bind (m := oneArg "len" _) (wpAny_pure ?_)
  have e0 : Env0 X.prog X.w X.K X.mg X.base X.A.in1 X.stack s H := by
    have e := I.env0
    exact ⟨e.frames, e.mod, e.bs, e.bsz, e.funs, e.frf, e.hok, e.bare⟩
  refine wpAny_bind (m := callSpecial? (.ref a) (PySem.Str.ofString "__len__")) (PySem.W.special_fn (name := "__len__") (args := []) I.kIn J hs (beq_iff_eq.mp hf) ?_)
  have hl := F.len _ _ _ _ q
  refine wpAny_call (codeAny_mono (F.run X.A.in1 X.stack s H ⟨[.ref a], []⟩ [.ref a] [.ref a] _ E0 (hr.mono hk).in1 e0 (by
    have := hb s [.ref a] I.kIn (by simpa using hl)
    simpa using this) (.cons rfl .nil) q) fun r s' hq => ?_)
  cases r with
  | error e => exact pass0 pins σ H s e s' I hq
  | ok fl =>
    cases fl with
    | next => exact False.elim hq
    | brk => exact False.elim hq
    | cont => exact False.elim hq
    | ret u =>
      obtain ⟨v, H1, I1, rv, n, rfl, h0, h1, q1⟩ := I.after hq
      obtain ⟨t, rfl⟩ := rv
      refine wpAny_bind (wpAny_holding (wpAny_pure ?_))
      refine wpAny_bind (wpAny_letGo ?_)
      show wpAny _ _ (if n < 0 then _ else _) _ _ _
      rw [if_neg (by omega)]
      show wpAny _ _ (if n ≥ 2 ^ 63 then _ else _) _ _ _
      rw [if_neg (by omega)]
      exact wpAny_bind (wpAny_mkInt (wpAny_pure ⟨_, rfl, .int n, H1, I1.tok _, ⟨_, rfl⟩, q1⟩))
end Z
set_option Elab.async false
set_option linter.all false
set_option maxRecDepth 100000
set_option maxHeartbeats 4000000
namespace L2N
open PySem PySem.Spec PyProof.Rows L2
/-! ### several clauses `except c as n` -/
/-- a clause: its class, the slot of its name, its suite's reading -/
abbrev Cl := Value × Nat × (Addr → Value → Option Addr → TS)
def wManyA (K : PySem.W.Frag) (Wout : WX) (D : Ends) : List Cl → WX
  | [] => Wout
  | h :: r => wAs K h.1 h.2.1 h.2.2 (wManyA K Wout D r) D
inductive HdsA (X : Cx) : List ExceptHandler → List Cl → Prop
  | nil : HdsA X [] []
  | cons {x n : Str} {c : Value} {i : Nat} {ts : Addr → Value → Option Addr → TS} {b₀ : Stmt} {suite : List Stmt} {np pos' : Pos} {hds : List ExceptHandler} {l : List Cl} (hi : X.N[i]? = some n) (hln : X.env.kindOf n = some .local) (hc : Names X x c)
      (hsu : ∀ (a : Addr) (oe : Obj) (cls : Value) (d : Option Addr) (pn : List (Addr × Obj)), Zn cls d oe → (∃ vs, oe.data = .fields vs) → PSs (X.suite a ((a, oe) :: pn)) (b₀ :: suite) (ts a cls d)) (r : HdsA X hds l) :
      HdsA X (.ExceptHandler (some (.Name x np)) (some n) (b₀ :: suite) pos' :: hds) ((c, i, ts) :: l)
section
variable {X : Cx} {body : List Stmt} {h₀ : ExceptHandler} {hds : List ExceptHandler} {l : List Cl} {pos : Pos} {tb : WX → TS} {Wout : WX}
theorem ps_try_manyA (hs : X.stack = X.env :: X.outer) (hf : X.env.frame = some X.env.locals) (hN : X.N.Nodup) (tk : Takes X Wout)
    (hb : ∀ (W : WX) (pn : List (Addr × Obj)) (xe : Value → Shared → Prop), Takes (X.tr pn xe) W → PassesOwn (model X.prog X.w) X.A X.env xe → PSs (X.tr pn xe) body (tb W))
    (hh : HdsA X (h₀ :: hds) l) : PS X (.Try body (h₀ :: hds) [] [] pos) (fun D σ H => tb (wManyA X.K Wout D l) D σ H) := by
  refine ⟨fun pins s σ H D I h => ?_⟩
  have ok := I.ok
  have hfr : X.A.frames = some (X.env :: X.outer) := by rw [ok.frames, hs]
  have calm : ∀ (f : Flow) (s1 : Shared) , SP (X.tr (X.pn ++ pins) (fun e s₁ => wpAny (model X.prog X.w) X.A (noteFrame e X.env) (fun _ s₂ => wpAny (model X.prog X.w) X.A (setFlight e none) (fun _ s₃ =>
      wpAny (model X.prog X.w) X.A (handleBy e X.env (h₀ :: hds)) (SP X pins D) X.xe s₃) X.xe s₂) X.xe s₁)) [] D f s1 → SP X pins D f s1 := fun f s1 hsp => by
    cases f with
    | next =>
      obtain ⟨σ', H', J', q⟩ := hsp
      exact ⟨σ', H', J'.ofTry ok, q⟩
    | brk =>
      obtain ⟨σ', H', J', q⟩ := hsp
      exact ⟨σ', H', J'.ofTry ok, q⟩
    | cont =>
      obtain ⟨σ', H', J', q⟩ := hsp
      exact ⟨σ', H', J'.ofTry ok, q⟩
    | ret u =>
      obtain ⟨v, σ', H', J', r, q⟩ := hsp
      exact ⟨v, σ', H', J'.ofTry ok, r, q⟩
  refine wpAny_Try_except ?_
  refine wpAny_mono ((hb (wManyA X.K Wout D l) (X.pn ++ pins) (fun e s₁ => wpAny (model X.prog X.w) X.A (noteFrame e X.env) (fun _ s₂ => wpAny (model X.prog X.w) X.A (setFlight e none) (fun _ s₃ =>
    wpAny (model X.prog X.w) X.A (handleBy e X.env (h₀ :: hds)) (SP X pins D) X.xe s₃) X.xe s₂) X.xe s₁) (fun u s' xx => ?_) PassesOwn.looking).run [] s σ H D (I.toTry _) h) (fun f s1 hsp => ?_) (fun e s1 he => he)
  · obtain ⟨a, B, sI, pins', σ', H', cls, d, rfl, J', nb, up, sky, na, os, ag, w⟩ := xx
    have J : Inv X pins σ' H' sI := J'.ofTry ok
    have sky' : Sky B (X.env :: X.outer) a (Zn cls d) X.env.locals s'.heap := by rw [← hs]; exact sky
    show wpAny (model X.prog X.w) X.A (noteFrame (.ref a) X.env) _ _ _
    refine Sky.land Zn.steady hfr hf sky' fun h3 fl3 up3 => ?_
    have J3 : Inv X pins σ' H' { s' with heap := h3 } := J.landed nb fl3.1 (up.trans up3) os ag
    obtain ⟨oe3, vs3, he3, hz3, hd3⟩ := fl3.there
    have nfr : a ∉ frs (X.env :: X.outer) := fun hm => by
      obtain ⟨_, o', e', hnf⟩ := fl3.2.2.1.mem hm
      rw [he3] at e'
      cases e'
      exact hnf _ hd3
    have nL : a ≠ X.env.locals := fun z => nfr (List.mem_filterMap.mpr ⟨X.env, List.mem_cons_self, by rw [hf, z]⟩)
    have nF : a ∉ X.fs := fun hm => by
      obtain ⟨e, he, q⟩ := List.mem_filterMap.mp hm
      exact nfr (List.mem_filterMap.mpr ⟨e, List.mem_cons_of_mem _ he, q⟩)
    have S3 := J3.suite he3 hd3 na nL nF
    have go : ∀ {hds' : List ExceptHandler} {l' : List Cl}, HdsA X hds' l' → wManyA X.K Wout D l' cls d σ' H' →
        wpAny (model X.prog X.w) X.A (handleBy (.ref a) X.env hds') (SP X pins D) X.xe { s' with heap := h3 } := by
      intro hds' l' hk
      induction hk with
      | nil =>
        intro w
        refine wpAny_handleBy_nil ?_
        obtain ⟨k1, k2, k3, oe, vs, T, oT, ts', he, hz, hd, h1, hr⟩ := id fl3
        unfold PySem.passOn
        refine wpAny_bind (wpAny_field he hd h1 ?_)
        rw [if_neg (show ¬ ((Value.ref T == Value.none) = true) from by simp)]
        have fin : wpAny (model X.prog X.w) X.A (setFlight (.ref a) X.env.frame) (fun _ s4 => wpAny (model X.prog X.w) X.A (throw (.ref a) : Sem Flow) (SP X pins D) X.xe s4) X.xe { s' with heap := h3 } := by
          rw [hf]
          refine HandSPX.setFlight_upZ fl3 fun h4 hh4 up4 => wpAny_throw (tk _ _ ?_)
          exact ⟨a, B, sI, pins, σ', H', cls, d, rfl, J, nb, (up.trans up3).trans up4, .inr (.inr (by rw [hs]; exact hh4)), na, os, ag, w⟩
        first
          | exact wpAny_bind (wpAny_pure (wpAny_bind fin))
          | exact wpAny_bind fin
      | @cons x n c i ts b₀ suite np pos' hds2 l2 hi hln hc hsu r ih =>
        intro w
        obtain ⟨b, hb1, hyes, hno⟩ := w
        have hloc : Loc X.env.scope n := .inl hln
        refine wpAny_handleBy_cons (codeAny_handlers_test ?_) (by intro q; cases q)
        have LT : PySem.W.Looks (model X.prog X.w) h3 (typeOf (.ref a)) cls := fun A Q E s k q => wpAny_typeOf_ref (k _ _ he3) (by rw [hz3.1]; exact q)
        have LM := PySem.W.exm_one (M := model X.prog X.w) (J3.kIn) LT hb1
        have test : ∀ {Q : Value → Shared → Prop} {E : Value → Shared → Prop}, Q c { s' with heap := h3 } → wpAny (model X.prog X.w) (X.A.mark (some (.ref a))) (eval (.Name x np) X.env) Q E { s' with heap := h3 } := fun {Q E} q => by
          obtain ⟨hg, hdbg, hm | ⟨hm, hv, hnn⟩⟩ := hc
          · exact ld_glob (X := X.suite a ((a, oe3) :: (X.pn ++ pins))) S3 hg hm q hdbg
          · exact ld_blt (X := X.suite a ((a, oe3) :: (X.pn ++ pins))) S3 hg hm hv q hnn hdbg
        refine test (LM.here ?_)
        cases b with
        | true =>
          refine codeAny_handlers_suite_as ?_
          refine HandSPX.lands_againZ fl3 fun h4 fl4 up4 => ?_
          have J4 : Inv X pins σ' H' { s' with heap := h4 } := J.landed nb fl4.1 ((up.trans up3).trans up4) os ag
          obtain ⟨oe4, vs4, he4, hz4, hd4⟩ := fl4.there
          have S4 := J4.suite he4 hd4 na nL nF
          refine store_ok (X := X.suite a ((a, oe4) :: (X.pn ++ pins))) (v := .ref a) S4 hN hi hloc rfl (fun s5 S5 => ?_) (.inr hln)
          refine wpAny_mono ((hsu a oe4 cls d (X.pn ++ pins) hz4 ⟨_, hd4⟩).run [] s5 _ H' _ S5 (hyes rfl a na)) (fun f s6 hsp => ?_) (fun _ _ z => False.elim z)
          have end_ : ∀ {σ6 : L2.St} {H6 : Hp} {Q : Shared → Prop}, Inv (X.suite a ((a, oe4) :: (X.pn ++ pins))) [] σ6 H6 s6 → (∀ s7, Inv X pins (σ6.set i none) H6 s7 → Q s7) →
              wpAny (model X.prog X.w) X.A (do bindName X.env n .none; unbindBehindTheSuite X.env n pos') (fun _ s7 => Q s7) X.xe s6 := fun {σ6 H6 Q} S6 hq => gone_ok (S6.unsuite ok) hN hi hln hq
          cases f with
          | next =>
            obtain ⟨σ6, H6, S6, q6⟩ := hsp
            exact end_ S6 fun s7 J7 => ⟨_, _, J7, q6⟩
          | brk =>
            obtain ⟨σ6, H6, S6, q6⟩ := hsp
            exact end_ S6 fun s7 J7 => ⟨_, _, J7, q6⟩
          | cont =>
            obtain ⟨σ6, H6, S6, q6⟩ := hsp
            exact end_ S6 fun s7 J7 => ⟨_, _, J7, q6⟩
          | ret u =>
            obtain ⟨v6, σ6, H6, S6, r6, q6⟩ := hsp
            exact end_ S6 fun s7 J7 => ⟨_, _, _, J7, r6, q6⟩
        | false =>
          show wpAny _ X.A (handleBy (.ref a) X.env hds2) _ _ _
          exact ih (hno rfl)
    exact go hh w
  · cases f with
    | next => exact wpAny_execs_nil (calm .next s1 hsp)
    | brk => exact calm .brk s1 hsp
    | cont => exact calm .cont s1 hsp
    | ret u => exact calm (.ret u) s1 hsp
end
end L2N
set_option Elab.async false
set_option linter.all false
set_option maxRecDepth 100000
set_option maxHeartbeats 4000000
namespace Z
open PySem PySem.Spec PyProof.Rows L2
/-! ### f(e, .., k = v), what is raised at the slots -/
structure CalKX (P : Program) (w : World) (K : PySem.W.Frag) (mg : Str → Option Value) (base : Heap) (k : Nat) (x : Str) (n : Nat) (ks : List Str) (gV : List V → List V → List V) (sp : Sp) : Prop where
  ex : ∃ (f : Addr) (fd : FuncData) (ps : List Str) (g : List Value → List Value → List Value), FnOk P w K mg base (L2N.CX P w) k f fd ps sp ∧ mg x = some (.ref f) ∧ PySem.W.keepIn K (.ref f) = true ∧ KBn K fd ps n ks g gV
def tClKW (n m : Nat) (sp : Sp) (gV : List V → List V → List V) (E : L2.St → XK) (t tk : TA) : TE := fun σ H Q => t σ H fun vs H1 => tk σ H1 fun zs H2 => vs.length = n ∧ zs.length = m ∧ sp (gV vs zs) H2 Q (E σ)
section
variable {X : Cx} {k j n : Nat} {x : Str} {sp : Sp} {ks : List Str} {gV : List V → List V → List V} {p pos : Pos} {e : Expr} {es : List Expr} {kws : List Keyword} {t tk : TA} {E : L2.St → XK}
theorem pe_clKE (c : CalKX X.prog X.w X.K X.mg X.base k x n ks gV sp) (hx : ∀ σ, PassesAt (L2N.CX X.prog X.w) X σ (E σ)) (hr : Room j X.A) (hk : k ≤ j) (hg : Gl X x) (ha : PA X (e :: es) t) (hkw : PK X kws tk)
    (hall : (backToKw pos (keywordEach kws X.env)).all (·.1.isSome) = true := by rfl) (hks : (backToKw pos (keywordEach kws X.env)).filterMap (·.1) = ks := by rfl) (hdb : (x == ("__debug__" : Str)) = false := by decide)
    (he : starEach (e :: es) X.env = (false, eval e X.env) :: starEach es X.env := by rfl) (hpl : ((backTo pos (starEach (e :: es) X.env)).any (·.1) || (backToKw pos (keywordEach kws X.env)).any (·.1.isNone)) = false := by rfl) :
    PE X (.Call (.Name x p) (e :: es) kws pos) (tClKW n ks.length sp gV E t tk) := by
  obtain ⟨f, fd, ps, g, F, hm, kp, hb⟩ := c.ex
  refine ⟨fun pins s σ H Q I h => ?_⟩
  refine wpAny_Call_Name_kw (ld_glob I hg hm ?_ hdb)
  refine PySem.W.callWith_KW (h₀ := X.base) I.ok.mod.kin kp hall (thn (ha.run pos pins s σ H _ I h) fun us s1 ⟨vs, H1, I1, r, q⟩ => ?_) hpl he
  refine thn (hkw.run pos pins s1 σ H1 _ I1 q) fun ws s2 ⟨zs, H2, I2, rz, l1, l2, q2⟩ => ⟨I2.kIn, ?_⟩
  rw [hks]
  have r2 := hb.rel r rz
  refine wpAny_call (codeAny_mono (F.run X.A X.stack s2 H2 ⟨us, ks.zip ws⟩ (g us ws) (gV vs zs) Q (E σ) (hr.mono hk) I2.env0 (hb.to s2 us ws I2.kIn (by rw [← r.length]; exact l1) (by rw [← rz.length]; exact l2)) r2 q2) fun r s' hq => ?_)
  exact back_at (hx σ) I2 r s' hq
end
end Z
set_option Elab.async false
set_option linter.all false
set_option maxRecDepth 100000
set_option maxHeartbeats 4000000
namespace Z
open PySem PySem.Spec PyProof.Rows L2
/-! ### raise X(), X an own class without own __init__ -/
structure Exn0 (K : PySem.W.Frag) (mg : Str → Option Value) (x : Str) (C : Addr) : Prop where
  ex : PySem.W.excIn K C He.veBase "ValueError.__new__" = true
  kp : PySem.W.keepIn K (.ref C) = true
  sub : PySem.W.subIn K (.ref C) (.type "BaseException") = some true
  ty : PySem.W.typeIn K (.ref C) = some (.type "type")
  gl : mg x = some (.ref C)
theorem pmk_ex0 {X : Cx} {x : Str} {C : Addr} {p pos : Pos} (c : Exn0 X.K X.mg x C) (hg : Gl X x) (hdb : (x == ("__debug__" : Str)) = false := by decide) :
    L2N.PMk X (.Call (.Name x p) [] [] pos) (fun _ H Q => Q (.ref C) none H) := by
  intro pins s σ H Q I h
  refine wpAny_Call_Name_kw (ld_glob I hg c.gl ?_ hdb)
  refine PySem.W.callWith_K0 I.kIn c.kp ?_
  obtain ⟨bm, N, nm, qn, bs, hdct, sn, sub, ab, col, dd, k0, k1, k2, k3, k5, mN, hC, hN, hni, T⟩ := exc_obj I.kIn c.ex
  refine wpAny_call_exc_subT PySem.F.excBase_ValueError T hC hN hni (fun h' e hm => ?_) (by decide)
  exact L2N.mk_of I hm (raises_own c.sub c.ty) h (I.hok.gone hm.new)
theorem ps_ex0 {X : Cx} {x : Str} {C : Addr} {p pos pos2 : Pos} {W : WX} (hc : X.calm = true) (tk : L2N.Takes X W) (c : Exn0 X.K X.mg x C) (hg : Gl X x) (hdb : (x == ("__debug__" : Str)) = false := by decide) :
    PS X (.Raise (some (.Call (.Name x p) [] [] pos)) none pos2) (fun _ σ H => W (.ref C) none σ H) := L2N.ps_raise hc tk (pmk_ex0 c hg hdb)
/-! ### isinstance(e, c), e a caught error without a dict -/
def rIs0 (K : PySem.W.Frag) (a : Addr) (cls : Value) (d : Option Addr) : List V → Hp → VK → Prop := fun xs H Q => ∃ (D : Addr) (c : V) (cv : Value) (b : Bool), cls = .ref D ∧ d = none ∧ ExcC K D ∧ xs = [.ref a, c] ∧ (∀ u, RelV c u → u = cv) ∧ PySem.W.kitOne K (.ref D) cv = some b ∧ Q (.bl b) H
theorem call_is0 {X : Cx} {a : Addr} {cls : Value} {d : Option Addr} {oe : Obj} {pn : List (Addr × Obj)} (hz : Zc cls d oe) (hf : ∃ vs, oe.data = .fields vs) : CallR (X.suite a ((a, oe) :: pn)) (.builtin "isinstance") (rIs0 X.K a cls d) := by
  intro pins s σ H xs us Q I r h
  obtain ⟨D, c, cv, b, rfl, rfl, C, rfl, hcv, e, q⟩ := h
  exact call_isE C hz hf pins s σ H _ us Q I r ⟨c, cv, b, rfl, hcv, e, q⟩
end Z
set_option Elab.async false
set_option linter.all false
set_option maxRecDepth 100000
set_option maxHeartbeats 4000000
namespace Z
open PySem PySem.Spec PyProof.Rows L2 NdefX
/-! ### a method whose last statement is super().__init__(..), the base an own class -/
/-- what the written part says: the function f of the class C (cell cc, code c), the base's __init__ at g -/
structure SupP (P : Program) (K : PySem.W.Frag) (C f c cc g : Addr) (fd : FuncData) : Prop where
  lk : ∃ oc od osl, K.lookup f = some ⟨oc, od, .func fd, osl⟩
  code : ∃ (ccl : Value) (cdd : Option Addr) (vs : Array Value) (ccs : Array (Option Value)) (file : Str) (tf : Tok), K.lookup c = some ⟨ccl, cdd, .fields vs, ccs⟩ ∧ vs[2]? = some (.str file tf) ∧ ((P.main.file : Str) == file) = true
  cell : ∃ cl cld csl, K.lookup cc = some ⟨cl, cld, .cell (some (.ref C)), csl⟩
  top : (P.main.scope.names.lookup ("super" : Str)).isSome = false
  mro : PySem.W.mroIn K C (.ref C) = some true
  opq : PySem.W.nsIn K cStatics "thirdparty.any" = some none
  ini : PySem.W.ks_superIn K C C "__init__" = some (some (.ref g))
  ty : PySem.W.typeIn K (.ref g) = some (.type "function")
  fi : PySem.W.fnIn K g = true
theorem takes_ncx {P : Program} {w : World} {K : PySem.W.Frag} {mg : Str → Option Value} {base : Heap} {N : List Str} {F : NF} {f : Addr} {A : Around} {outer : List Env} {s : Shared} {H : Hp} {E : XK} : L2N.Takes (ncx (L2N.CX P w) P w K mg base N F f A outer s H E) (fun cls d _ H' => E cls d H') := L2N.takes_of rfl rfl rfl rfl
theorem wpAt_to' {M : Model} {A : Around} {c : Code} {α : Type} {m : Sem α} {Q Q' : α → Shared → Prop} {E : Value → Shared → Prop} {s : Shared} (h : _root_.PySem.wpAt M A c m Q E s) (hq : ∀ a s', Q a s' → Q' a s') : _root_.PySem.wpAt M A c m Q' E s := ks_wpAt_mono h hq fun _ _ z => z
/-- statements, then one more -/
theorem wp_snoc {M : Model} {Γ : PySem.Ctx} {env : Env} {last : Stmt} {QQ : Flow → Pos → Shared → Prop} {EE : Value → Pos → Shared → Prop} : ∀ (pre : List Stmt) (p : Pos) (s : Shared),
    Sem.wp M Γ (execs pre env) (fun f p' s' => match f with | .next => Sem.wp M Γ (exec last env) QQ EE p' s' | f => QQ f p' s') EE p s → Sem.wp M Γ (execs (pre ++ [last]) env) QQ EE p s
  | [], p, s, h => by
    have h : Sem.wp M Γ (exec last env) QQ EE p s := h
    show Sem.wp M Γ (execs [last] env) QQ EE p s
    rw [execs_cons, Sem.wp_bind']
    refine Sem.wp_mono M Γ _ (fun f p' s' h' => ?_) (fun _ _ _ h' => h') _ _ h
    cases f <;> exact h'
  | st :: pre, p, s, h => by
    rw [List.cons_append, execs_cons, Sem.wp_bind']
    rw [execs_cons, Sem.wp_bind'] at h
    refine Sem.wp_mono M Γ _ (fun f p' s' h' => ?_) (fun _ _ _ h' => h') _ _ h
    cases f
    case next => exact wp_snoc pre p' s' h'
    all_goals exact h'
theorem wpAt_execs_snoc {M : Model} {A : Around} {c : Code} {env : Env} {E : Value → Shared → Prop} {last : Stmt} {Q : Flow → Shared → Prop} {pre : List Stmt} {s : Shared}
    (h : _root_.PySem.wpAt M A c (execs pre env) (fun f s' => match f with | .next => _root_.PySem.wpAt M A c (exec last env) Q E s' | f => Q f s') E s) : _root_.PySem.wpAt M A c (execs (pre ++ [last]) env) Q E s := fun Γ p hc hΓ =>
  wp_snoc (QQ := fun a _ s' => Q a s') (EE := fun e _ s' => E e s') pre p s (Sem.wp_mono M Γ _ (fun f p' s' h' => by cases f <;> first | exact h' Γ p' hc hΓ | exact h') (fun _ _ _ h' => h') _ _ (h Γ p hc hΓ))
section
variable {P : Program} {w : World} {K : PySem.W.Frag} {mg : Str → Option Value} {base : Heap} {N ps : List Str} {F : NF} {f C a cc g : Addr} {A : Around} {outer : List Env} {s0 s : Shared} {H0 H : Hp} {E : XK} {σ : L2.St}
/-- super().__init__(e, ..) of an own base class -/
theorem super_stmt {pl : Sem Bool} {fd : FuncData} {ar : Arg} {t : TA} {e : Expr} {es : List Expr} {p0 p1 p2 pos pos2 : Pos} {k : Nat} {sp : Sp} {dx : Addr} {fs : List (Str × V)} {Qn : Hp → Prop} (S : SupP P K C f F.c cc g fd) (hcl : F.cl = [(("__class__" : Str), cc)]) (hp : (fd.params.posonlyargs ++ fd.params.args).head? = some ar)
    (hks : F.scope.names.lookup ("super" : Str) = some .globalImplicit) (hkc : F.scope.names.lookup ("__class__" : Str) = some .free) (hka : F.scope.names.lookup ar.arg = some .local) (hk : F.scope.kind = .function) (m_super : mg "super" = none)
    (hN : N[0]? = some ar.arg) (ha : PA (ncx (L2N.CX P w) P w K mg base N F f A outer s0 H0 E) (e :: es) t) (Fg : FnR P w K mg base (L2N.CX P w) k g sp) (hr : Room k (ncx (L2N.CX P w) P w K mg base N F f A outer s0 H0 E).A)
    (I : Inv (ncx (L2N.CX P w) P w K mg base N F f A outer s0 H0 E) [] σ H s) (hs : σ[0]? = some (some (.ref a))) (hx : H a = some (.ins C dx fs))
    (ht : t σ H fun vs H1 => sp (.ref a :: vs) H1 (fun _ H2 => Qn H2) E)
    (hint : interactive (ncx (L2N.CX P w) P w K mg base N F f A outer s0 H0 E).env = false := by rfl) (hsw : swapsWith (.Call (.Attribute (.Call (.Name "super" p0) [] [] p1) "__init__" p2) (e :: es) [] pos) none pos2.line (ncx (L2N.CX P w) P w K mg base N F f A outer s0 H0 E).env = pure false := by rfl)
    (hev : eval (.Call (.Attribute (.Call (.Name "super" p0) [] [] p1) "__init__" p2) (e :: es) [] pos) (ncx (L2N.CX P w) P w K mg base N F f A outer s0 H0 E).env = (do
      let ov ← attributeBase (.Call (.Name "super" p0) [] [] p1) "__init__" (ncx (L2N.CX P w) P w K mg base N F f A outer s0 H0 E).env (eval (.Call (.Name "super" p0) [] [] p1) (ncx (L2N.CX P w) P w K mg base N F f A outer s0 H0 E).env)
      standAt p2.atName
      let (g, first) ← holding [ov] (getMethod ov "__init__" pl)
      callWith pos g first (backTo pos (starEach (e :: es) (ncx (L2N.CX P w) P w K mg base N F f A outer s0 H0 E).env)) []) := by rfl)
    (he : starEach (e :: es) (ncx (L2N.CX P w) P w K mg base N F f A outer s0 H0 E).env = (false, eval e (ncx (L2N.CX P w) P w K mg base N F f A outer s0 H0 E).env) :: starEach es (ncx (L2N.CX P w) P w K mg base N F f A outer s0 H0 E).env := by rfl) (hpl : (backTo pos (starEach es (ncx (L2N.CX P w) P w K mg base N F f A outer s0 H0 E).env)).any (·.1) = false := by rfl) :
    _root_.PySem.wpAt (model P w) (ncx (L2N.CX P w) P w K mg base N F f A outer s0 H0 E).A (.func F.body (ncx (L2N.CX P w) P w K mg base N F f A outer s0 H0 E).env) (exec (.Expr (.Call (.Attribute (.Call (.Name "super" p0) [] [] p1) "__init__" p2) (e :: es) [] pos) pos2) (ncx (L2N.CX P w) P w K mg base N F f A outer s0 H0 E).env)
      (fun fl s' => fl = .next ∧ ∃ H1, Inv (ncx (L2N.CX P w) P w K mg base N F f A outer s0 H0 E) [] σ H1 s' ∧ Qn H1) (ncx (L2N.CX P w) P w K mg base N F f A outer s0 H0 E).xe s := by
  obtain ⟨oc, od, osl, lkf⟩ := S.lk
  obtain ⟨ccl, cdd, vs, ccs, file, tf, lkc, hvs, hfile⟩ := S.code
  obtain ⟨cl, cld, csl, lkcc⟩ := S.cell
  have KX : K.In s.heap := I.kIn
  obtain ⟨m, hn, hl⟩ := I.loc
  obtain ⟨u, ru, lu⟩ := hl 0 ar.arg (.ref a) hN hs (.inl hka)
  obtain rfl : u = .ref a := ru
  have hma : m ar.arg = some (.ref a) := by
    rcases lu with ⟨_, z⟩ | ⟨z, _⟩
    · exact z
    · rcases z with z | z
      · rw [show (ncx (L2N.CX P w) P w K mg base N F f A outer s0 H0 E).env.kindOf ar.arg = some .local from hka] at z; cases z
      · rw [show (ncx (L2N.CX P w) P w K mg base N F f A outer s0 H0 E).env.kindOf ar.arg = some .local from hka] at z; cases z
  obtain ⟨mA, J, _⟩ := ins_get I.hok hx
  obtain ⟨oda, J, _⟩ := J.look
  cases hc : PySem.W.clsIn K C with
  | none =>
    have hm := S.ini
    unfold PySem.W.ks_superIn at hm
    rw [hc] at hm
    cases hm
  | some cd =>
    obtain ⟨oC, hC1, hC2⟩ : ∃ oC, s.heap.get? C = some oC ∧ oC.data = .cls cd := by
      unfold PySem.W.clsIn at hc
      split at hc
      · rename_i c d cd' sl ho
        cases hc
        exact ⟨_, KX _ _ ho, rfl⟩
      · cases hc
    refine ks_wpAt_Expr_any (ks_wpAt_MethodCall ?_ hev) hint hsw
    refine ks_wpAt_super_base (env := (ncx (L2N.CX P w) P w K mg base N F f A outer s0 H0 E).env) (cc := F.c) hks hkc (by decide) rfl (KX _ _ lkf) rfl hp rfl (KX _ _ lkc) rfl hvs hfile S.top ?_
    obtain ⟨mb, h1, h2⟩ := I.mod.blt
    refine PySem.W.ks_loadName_global hk hks (Calls.loadGlobal_builtin (by rw [I.ok.glob]; exact I.mod.glob.keeps I.bk) m_super (by rw [I.ok.blt]; exact h1.keeps I.bk) ((h2 "super" (by decide)).trans (by decide +kernel)) ⟨rfl, ?_⟩)
    refine wpAny_loadName_free hk hkc (c := cc) (by show F.cl.lookup _ = _; rw [hcl]; rfl) ⟨_, KX _ _ lkcc, rfl⟩ ?_
    refine wpAny_loadName_local hk hka hn hma ?_
    refine ks_wpAny_isType_cls hC1 hC2 ⟨rfl, ?_⟩
    obtain ⟨hh, gn, d, tk, os⟩ := s
    refine ks_wpAny_call_super hC1 hC2 J.at_ J.cls (fun c z => ?_) (PySem.W.looks_mroIn KX S.mro) (fun h' eso kso => ?_)
    · have := J.no
      unfold PySem.W.notCls at this
      rw [z] at this
      exact Bool.noConfusion this
    have I2 : Inv (ncx (L2N.CX P w) P w K mg base N F f A outer s0 H0 E) [] σ H ⟨h', gn, d, tk, os⟩ := I.kept kso
    have KX2 : K.In h' := I2.kIn
    obtain ⟨mA2, J2, _⟩ := ins_get I2.hok hx
    obtain ⟨oda2, J2, _⟩ := J2.look
    have hm := S.ini
    unfold PySem.W.ks_superIn at hm
    rw [hc] at hm
    obtain ⟨of, hof, hofc⟩ : ∃ of, h'.get? g = some of ∧ of.cls = .type "function" := by
      have ht' : (K.lookup g).map (·.cls) = some (.type "function") := S.ty
      cases z : K.lookup g with
      | none => rw [z] at ht'; cases ht'
      | some of => rw [z] at ht'; exact ⟨of, KX2 _ _ z, Option.some.inj ht'⟩
    refine ks_wpAny_getMethod_super eso (PySem.W.looks_opaque KX2 S.opq) (l₀ := cd.mro) ?_ rfl KX2 hm hof hofc (PySem.W.ks_ne KX2 J2 hc) (by decide) ?_
    · exact fun A Q E s k q => wpAny_bind ((PySem.W.looks_clsIn KX2 hc) A _ E s k (wpAny_pure q))
    have I3 := ClX.met_new (g := g) (C := a) I2
    refine ClX.callwith_cm I3 (ClX.base_none I2 (Nat.le_refl _)) S.fi ?_ he hpl
    have hrun := ha.run pos _ _ σ H _ I3 ht
    refine thn hrun fun us s3 ⟨ws, H3, I4, r, q1⟩ => ?_
    refine ⟨⟨ClX.pin_at I4, I4.kIn⟩, ?_⟩
    refine thn (ClX.run_cm Fg hr (L2N.passes_call takes_ncx (fun _ _ _ _ h => h)) I4 r q1) fun v s' ⟨_, H4, I5, _, q2⟩ => ⟨rfl, H4, I5, q2⟩
/-- THE RULE: a method that ends with super().__init__(..), the statements ahead by their readings -/
theorem sup_last {pl : Sem Bool} {fd : FuncData} {dV kV doc pm ct : Value} {an : Option Addr} {ar : Arg} {j k : Nat} {sp spB : Sp} {e : Expr} {es : List Expr} {p0 p1 p2 pos pos2 : Pos} {pre : List Stmt} (hfd : fd = PySem.W.fnX F.name F.qual F.params F.body F.scope F.cl dV kV doc pm an (.ref F.c) ct)
    (S : SupP P K C f F.c cc g fd) (hcd : PySem.W.codeIn K (.ref F.c) F.qual = true) (NS : NScope N ps ["__class__"] F.scope) (hcl : F.cl = [(("__class__" : Str), cc)]) (hp : (F.params.posonlyargs ++ F.params.args).head? = some ar) (hks : F.scope.names.lookup ("super" : Str) = some .globalImplicit) (m_super : mg "super" = none)
    (hN : N[0]? = some ar.arg) (hka : F.scope.names.lookup ar.arg = some .local)
    (hb : F.body = pre ++ [.Expr (.Call (.Attribute (.Call (.Name "super" p0) [] [] p1) "__init__" p2) (e :: es) [] pos) pos2]) (Fg : FnR P w K mg base (L2N.CX P w) k g spB) (hkj : k ≤ j)
    (len : ∀ vs H Q E, sp vs H Q E → vs.length = ps.length)
    (hint : ∀ (A : Around) (outer : List Env) (s : Shared) (H : Hp) (E : XK), interactive (ncx (L2N.CX P w) P w K mg base N F f A outer s H E).env = false)
    (hsw : ∀ (A : Around) (outer : List Env) (s : Shared) (H : Hp) (E : XK), swapsWith (.Call (.Attribute (.Call (.Name "super" p0) [] [] p1) "__init__" p2) (e :: es) [] pos) none pos2.line (ncx (L2N.CX P w) P w K mg base N F f A outer s H E).env = pure false)
    (hev : ∀ (A : Around) (outer : List Env) (s : Shared) (H : Hp) (E : XK), eval (.Call (.Attribute (.Call (.Name "super" p0) [] [] p1) "__init__" p2) (e :: es) [] pos) (ncx (L2N.CX P w) P w K mg base N F f A outer s H E).env = (do
      let ov ← attributeBase (.Call (.Name "super" p0) [] [] p1) "__init__" (ncx (L2N.CX P w) P w K mg base N F f A outer s H E).env (eval (.Call (.Name "super" p0) [] [] p1) (ncx (L2N.CX P w) P w K mg base N F f A outer s H E).env)
      standAt p2.atName
      let (g, first) ← holding [ov] (getMethod ov "__init__" pl)
      callWith pos g first (backTo pos (starEach (e :: es) (ncx (L2N.CX P w) P w K mg base N F f A outer s H E).env)) []))
    (he : ∀ (A : Around) (outer : List Env) (s : Shared) (H : Hp) (E : XK), starEach (e :: es) (ncx (L2N.CX P w) P w K mg base N F f A outer s H E).env = (false, eval e (ncx (L2N.CX P w) P w K mg base N F f A outer s H E).env) :: starEach es (ncx (L2N.CX P w) P w K mg base N F f A outer s H E).env)
    (hpl : ∀ (A : Around) (outer : List Env) (s : Shared) (H : Hp) (E : XK), (backTo pos (starEach es (ncx (L2N.CX P w) P w K mg base N F f A outer s H E).env)).any (·.1) = false)
    (hrest : ∀ (A : Around) (outer : List Env) (s : Shared) (H : Hp) (vs : List V) (Q : VK) (E : XK), Room j (ncx (L2N.CX P w) P w K mg base N F f A outer s H E).A → sp vs H Q E → ∃ t ta, PSs (ncx (L2N.CX P w) P w K mg base N F f A outer s H E) pre t ∧ PA (ncx (L2N.CX P w) P w K mg base N F f A outer s H E) (e :: es) ta ∧
      t { nx := fun σ1 H1 => ∃ (a dx : Addr) (fs : List (Str × V)), σ1[0]? = some (some (.ref a)) ∧ H1 a = some (.ins C dx fs) ∧ ta σ1 H1 fun ws H2 => spB (.ref a :: ws) H2 (fun _ H3 => Q .non H3) E, rt := Q } (startF N vs [some (.ref C)]) H) : FnOk P w K mg base (L2N.CX P w) (j + 1) f fd ps sp := by
  refine ⟨len, fun A outer s H args us vs Q E hr e0 hbn r hsp => ?_⟩
  have hl := len _ _ _ _ hsp
  have KX : K.In s.heap := e0.mod.kin.keeps fun b o e => (e0.bs b o e).1
  have lim : s.heap.NoLimit := e0.mod.nolimit.keeps fun b o e => (e0.bs b o e).1
  obtain ⟨oc, od, osl, lkf⟩ := S.lk
  obtain ⟨cl, cld, csl, lkcc⟩ := S.cell
  have CA : CellsAt F.cl ["__class__"] [some (.ref C)] s.heap H := by
    refine ⟨rfl, fun y c e => ?_, fun x y c e1 e2 => ?_, fun i y e => ?_⟩
    · rw [hcl] at e
      have ec : c = cc := by
        unfold List.lookup at e
        split at e
        · exact (Option.some.inj e).symm
        · cases e
      subst ec
      exact ⟨(e0.bs _ _ (e0.mod.kin _ _ lkcc)).2, _, _, KX _ _ lkcc, rfl⟩
    · rw [hcl] at e1 e2
      have k : ∀ z : Str, ([(("__class__" : Str), cc)] : List (Str × Addr)).lookup z = some c → z = "__class__" := fun z e => by
        unfold List.lookup at e
        split at e
        · next h => exact beq_iff_eq.mp h
        · cases e
      rw [k x e1, k y e2]
    · have ey : y = "__class__" := by
        cases i with
        | zero => exact (Option.some.inj e).symm
        | succ i => cases e
      subst ey
      refine ⟨cc, by rw [hcl]; rfl, fun v hv => ?_⟩
      have ei : i = 0 := by
        cases i with
        | zero => rfl
        | succ i => cases e
      subst ei
      obtain rfl : V.ref C = v := Option.some.inj (Option.some.inj hv)
      exact ⟨.ref C, rfl, _, KX _ _ lkcc, rfl⟩
  subst hfd
  refine ks_codeAny_call_defAt hr.depth (KX _ _ lkf) rfl lim (PySem.W.codeRec_of KX hcd) rfl hbn NS.nocell (fun ⟨n, _⟩ hy => NS.par n (List.of_mem_zip hy).1) (fun h₁ hns kp => ?_) NS.co NS.gen NS.kind
  show _root_.PySem.wpAt _ (ncx (L2N.CX P w) P w K mg base N F f A outer s H E).A (.func F.body (ncx (L2N.CX P w) P w K mg base N F f A outer s H E).env) (execs F.body (ncx (L2N.CX P w) P w K mg base N F f A outer s H E).env) _ (ncx (L2N.CX P w) P w K mg base N F f A outer s H E).xe _
  have I : Inv (ncx (L2N.CX P w) P w K mg base N F f A outer s H E) [] (startF N vs [some (.ref C)]) H { s with heap := h₁, toks := s.toks + (ps.zip us).length } := inv_startN NS hr.hd e0 hl r CA hns kp
  have hrN : Room j (ncx (L2N.CX P w) P w K mg base N F f A outer s H E).A := hr.deeper _
  obtain ⟨t, ta, ht, hta, hq⟩ := hrest A outer s H vs Q E hrN hsp
  have fin : ∀ {σ' : L2.St} {H' : Hp} {v : V} {u : Value} {s' : Shared}, Inv (ncx (L2N.CX P w) P w K mg base N F f A outer s H E) [] σ' H' s' → L2.RelV v u → Q v H' → CE outer P w H s Q u s' :=
    fun {σ' H' v u s'} J rv q => ⟨v, H', J.os, J.bare, J.base, J.hok, rv, q⟩
  rw [show execs F.body (ncx (L2N.CX P w) P w K mg base N F f A outer s H E).env = execs (pre ++ [.Expr (.Call (.Attribute (.Call (.Name "super" p0) [] [] p1) "__init__" p2) (e :: es) [] pos) pos2]) (ncx (L2N.CX P w) P w K mg base N F f A outer s H E).env by rw [hb]]
  refine wpAt_execs_snoc (wpAt_of_wpAny (wpAny_mono (ht.run [] _ _ H _ I hq) (fun fl s' hs => ?_) fun e s' hs => hs))
  cases fl with
  | ret u =>
    obtain ⟨v, σ', H', J, rv, q⟩ := hs
    exact fin J rv q
  | next =>
    obtain ⟨σ', H', J, a, dx, fs, hσ, hx, q⟩ := hs
    refine wpAt_to' (super_stmt (Qn := fun H3 => Q .non H3) S hcl hp hks (NS.frk _ (List.mem_cons_self ..)) hka NS.kind m_super hN hta Fg (hrN.mono hkj) J hσ hx q (hint A outer s H E) (hsw A outer s H E) (hev A outer s H E) (he A outer s H E) (hpl A outer s H E)) ?_
    rintro fl s1 ⟨rfl, H1, I1, q1⟩
    exact fin (v := V.non) (u := Value.none) I1 rfl q1
  | brk =>
    obtain ⟨_, _, _, q⟩ := hs
    exact False.elim q
  | cont =>
    obtain ⟨_, _, _, q⟩ := hs
    exact False.elim q
end
end Z
set_option Elab.async false
set_option linter.all false
set_option maxRecDepth 100000
set_option maxHeartbeats 4000000
namespace Z
open PySem PySem.Spec PyProof.Rows L2
/-! ### a class made by its name: the promise speaks of the made instance alone; it may raise -/
structure MakY (P : Program) (w : World) (K : PySem.W.Frag) (mg : Str → Option Value) (base : Heap) (k : Nat) (x : Str) (sp : Sp) : Prop where
  ex : ∃ (C : Addr) (si : Sp), MakX P w K mg base k x C si ∧ ∀ vs H Q E, sp vs H Q E → ∀ n dx, H n = none → H dx = none → dx ≠ n → si (.ref n :: vs) (upd (upd H dx (.own n)) n (.ins C dx [])) (fun v H2 => v = .non ∧ Q (.ref n) H2) E
section
variable {X : Cx} {k j : Nat} {x : Str} {sp : Sp} {E : L2.St → XK} {p pos : Pos} {e : Expr} {es : List Expr} {t : TA}
theorem pe_mkY (c : MakY X.prog X.w X.K X.mg X.base k x sp) (hx : ∀ σ, PassesAt (L2N.CX X.prog X.w) X σ (E σ)) (hr : Room j X.A) (hk : k + 1 ≤ j) (hg : Gl X x) (ha : PA X (e :: es) t) (hdb : (x == ("__debug__" : Str)) = false := by decide) (he : starEach (e :: es) X.env = (false, eval e X.env) :: starEach es X.env := by rfl) (hpl : (backTo pos (starEach es X.env)).any (·.1) = false := by rfl) :
    PE X (.Call (.Name x p) (e :: es) [] pos) (fun σ H Q => t σ H fun vs H1 => sp vs H1 Q (E σ)) := by
  obtain ⟨C, si, ⟨f, fd, ps, M, F, hm, b⟩, imp⟩ := c.ex
  constructor
  intro pins s σ H Q I h
  refine wpAny_Call_Name_kw (ld_glob I hg hm ?_ hdb)
  refine PySem.W.callWith_K (h₀ := X.base) I.ok.mod.kin M.kp (thn (ha.run pos pins s σ H _ I h) fun us s1 z => ?_) he hpl
  obtain ⟨vs, H1, I1, rr, q⟩ := z
  refine ⟨I1.kIn, ?_⟩
  obtain ⟨n, hn⟩ : ∃ n, n = s1.heap.objs.size := ⟨_, rfl⟩
  have q1 := imp _ _ _ _ q (n + 1) n (I1.hok.fresh (by rw [hn]; exact Nat.le_succ _)) (I1.hok.fresh (by rw [hn]; exact Nat.le_refl _)) (Nat.ne_of_lt (Nat.lt_succ_self _))
  subst hn
  have J := Inv.made (C := C) I1
  have r3 : Vals (V.ref (s1.heap.objs.size + 1) :: vs) (Value.ref (s1.heap.objs.size + 1) :: us) := .cons rfl rr
  have b3 := b { s1 with heap := (s1.heap.push PySem.W.emptyDict).push (PySem.W.instObj C s1.heap.objs.size) } (Value.ref (s1.heap.objs.size + 1) :: us) J.kIn (by rw [List.append_nil, ← r3.length]; exact F.len _ _ _ _ q1)
  rw [List.append_nil] at b3
  have run := F.run _ X.stack _ _ _ _ _ _ _ ((hr.mono hk).make C us []) (J.env0.make C us []) b3 r3 q1
  refine wpAny_call (make_map (f := f) I1.kIn M.makes M.init (beq_iff_eq.mp M.fn) (codeAny_mono run fun r s' hq => ?_))
  have z := back_at (hx σ) J r s' hq
  match r, z with
  | .error e, z => exact z
  | .ok (.ret u), ⟨v, H', J', rv, ev, q3⟩ =>
    subst ev
    exact ⟨rv, V.ref (s1.heap.objs.size + 1), H', J', rfl, q3⟩
end
end Z
set_option Elab.async false
set_option linter.all false
set_option maxRecDepth 100000
set_option maxHeartbeats 4000000
namespace Z
open PySem PySem.Spec PyProof.Rows L2
/-! ### max(xs, default=d), xs a list of ints -/
def mxD (d : Int) (ns : List Int) : Int := match ns with | [] => d | n :: r => r.foldl max n
def rMaxD (K : PySem.W.Frag) : List V → List V → Hp → VK → Prop := fun vs zs H Q => ∃ (a : Addr) (ns : List Int) (d : Int), vs = [.ref a] ∧ zs = [.int d] ∧ SqL K H a (ns.map V.int) ∧ Q (.int (mxD d ns)) H
theorem holdI {h : Heap} : ∀ {ns : List Int} {us : List Value}, Vals (ns.map V.int) us → PySem.W.HoldAll h us ns
  | [], _, .nil => PySem.W.HoldAll.nil
  | n :: ns, _, .cons r rs => by
    obtain ⟨t, rfl⟩ := r
    exact PySem.W.HoldAll.cons (PySem.W.holds_int n t) (holdI rs)
theorem maxOf_int : ∀ (r : List Int) (n : Int), PySem.W.maxOf n r = r.foldl max n
  | [], n => rfl
  | x :: r, n => by
    have e : (if PySem.W.DatumOrd.lt n x = true then x else n) = max n x := by
      show (if decide (n < x) = true then x else n) = max n x
      by_cases h : n < x
      · rw [decide_eq_true h, if_pos rfl]
        omega
      · rw [decide_eq_false h, if_neg (by decide)]
        omega
    show PySem.W.maxOf (if PySem.W.DatumOrd.lt n x = true then x else n) r = r.foldl max (max n x)
    rw [e, maxOf_int r]
theorem cr_maxD {X : Cx} (hc : X.calm = true) (hu : X.A.units + 64 < cLine) : CallRK X (.builtin "max") [Str.ofString "default"] (rMaxD X.K) := by
  intro pins s σ H vs zs us ws Q I r rz h
  obtain ⟨a, ns, d, rfl, rfl, hs, q⟩ := h
  obtain rfl := Vals.ref1 r
  obtain ⟨w1, rfl, t, rfl⟩ := vals1 rz
  obtain ⟨its, rv, hl, hz⟩ := I.list hs
  refine PySem.W.max_list_datum_default (α := Int) (I.ok.hd hc) hl.isList (holdI rv) (by show X.A.units + 1 + 0 < cLine; omega) (fun e h' tk k => ?_) (fun y ys i v h' tk e hi hv k => ?_)
  · subst e
    exact ⟨.int d, H, I.kept k, ⟨_, rfl⟩, q⟩
  · subst e
    obtain ⟨m, t2, rfl⟩ : ∃ m t2, v = .int m t2 := by
      have hj : its[i]? = some v := by simpa using hi
      have hlt := (List.getElem?_eq_some_iff.mp hj).1
      have e1 := rv.length
      obtain ⟨z, hz2⟩ : ∃ z, ((y :: ys).map V.int)[i]? = some z := ⟨_, List.getElem?_eq_getElem (by omega)⟩
      obtain ⟨z2, e2, rz2⟩ := Vals.get rv hz2
      rw [hj] at e2
      cases e2
      rw [List.getElem?_map] at hz2
      cases e3 : (y :: ys)[i]? with
      | none => rw [e3] at hz2; cases hz2
      | some n =>
        rw [e3] at hz2
        cases hz2
        obtain ⟨t2, e4⟩ := rz2
        exact ⟨n, t2, e4⟩
    obtain ⟨as, hr⟩ := hv
    have em : PySem.W.maxOf y ys = m := by
      have hr : Reads h' (.int m t2) (.int (PySem.W.maxOf y ys)) as := hr
      cases hr
      rfl
    rw [maxOf_int] at em
    refine ⟨.int m, H, I.kept k, ⟨_, rfl⟩, ?_⟩
    rw [← em]
    exact q
end Z
set_option linter.all false
set_option maxRecDepth 100000
namespace Pk
/-! ### pacts as data -/
inductive Pt where
  | tr (p q m : Nat)
  | ev (k : Nat)
  | ch (o : Nat) (os : List (List Pt))
  | rd (o : Nat) (b : List Pt)
  | en (b : List Pt)
  | ti (c : Nat) (b : List Pt)
mutual
def wt : Pt → Nat
  | .tr _ _ _ => 1
  | .ev _ => 1
  | .ch _ os => 1 + wtLL os
  | .rd _ b => wtL b + 1
  | .en b => wtL b + 1
  | .ti c b => wtL b * (if c < 1 then 1 else c) + 1
def wtL : List Pt → Nat
  | [] => 0
  | p :: l => wt p + wtL l
def wtLL : List (List Pt) → Nat
  | [] => 0
  | b :: l => wtL b + wtLL l
end
mutual
def dp : Pt → Nat
  | .tr _ _ _ => 1
  | .ev _ => 1
  | .ch _ os => 1 + dpLL os
  | .rd _ b => dpL b + 1
  | .en b => dpL b + 1
  | .ti _ b => dpL b + 1
def dpL : List Pt → Nat
  | [] => 0
  | p :: l => max (dp p) (dpL l)
def dpLL : List (List Pt) → Nat
  | [] => 0
  | b :: l => max (dpL b) (dpLL l)
end
def dig (n : Nat) : List Nat := (Nat.toDigits 10 n).map Char.toNat
/-- texts with a text between them -/
def jn (s : List Nat) : List (List Nat) → List Nat
  | [] => []
  | [a] => a
  | a :: b :: r => a ++ s ++ jn s (b :: r)
mutual
def tx : Pt → List Nat
  | .tr p q m => [p] ++ [q] ++ dig m
  | .ev k => [k]
  | .ch o os => [o] ++ [40] ++ jn [32, 124, 32] (txLL os) ++ [41]
  | .rd o b => [o] ++ [91] ++ txB b ++ [93]
  | .en b => [91] ++ txB b ++ [93]
  | .ti c b => dig c ++ [40] ++ txB b ++ [41]
def txs : List Pt → List (List Nat)
  | [] => []
  | p :: l => tx p :: txs l
def txB : List Pt → List Nat
  | [] => [46]
  | p :: l => jn [44, 32] (tx p :: txs l)
def txLL : List (List Pt) → List (List Nat)
  | [] => []
  | b :: l => txB b :: txLL l
end
theorem txB_cons (p : Pt) (l : List Pt) : txB (p :: l) = jn [44, 32] (txs (p :: l)) := by
  rw [txB, txs]
theorem wtL_app : ∀ l m : List Pt, wtL (l ++ m) = wtL l + wtL m
  | [], m => by rw [List.nil_append, wtL, Nat.zero_add]
  | p :: l, m => by rw [List.cons_append, wtL, wtL, wtL_app l m, Nat.add_assoc]
theorem dpL_app : ∀ l m : List Pt, dpL (l ++ m) = max (dpL l) (dpL m)
  | [], m => by rw [List.nil_append, dpL]; omega
  | p :: l, m => by rw [List.cons_append, dpL, dpL, dpL_app l m]; omega
theorem wt_pos : ∀ p : Pt, 1 ≤ wt p := fun p => by cases p <;> rw [wt] <;> omega
theorem wtL_sum : ∀ l : List Pt, wtL l = (l.map wt).sum
  | [] => by rw [wtL]; rfl
  | p :: l => by rw [wtL, wtL_sum l]; rfl
theorem wtLL_sum : ∀ l : List (List Pt), wtLL l = (l.map wtL).sum
  | [] => by rw [wtLL]; rfl
  | p :: l => by rw [wtLL, wtLL_sum l]; rfl
theorem txs_map : ∀ l : List Pt, txs l = l.map tx
  | [] => by rw [txs]; rfl
  | p :: l => by rw [txs, txs_map l]; rfl
theorem txLL_map : ∀ l : List (List Pt), txLL l = l.map txB
  | [] => by rw [txLL]; rfl
  | p :: l => by rw [txLL, txLL_map l]; rfl
theorem le_sum : ∀ {l : List Nat} {x : Nat}, x ∈ l → x ≤ l.sum
  | y :: l, x, h => by
    rw [List.sum_cons]
    rcases List.mem_cons.mp h with h | h
    · omega
    · have := le_sum h
      omega
theorem wtL_mem {p : Pt} {l : List Pt} (h : p ∈ l) : wt p ≤ wtL l := by
  rw [wtL_sum]
  exact le_sum (List.mem_map.mpr ⟨p, h, rfl⟩)
theorem dpL_mem {p : Pt} : ∀ {l : List Pt}, p ∈ l → dp p ≤ dpL l
  | q :: l, h => by
    rw [dpL]
    rcases List.mem_cons.mp h with h | h
    · rw [h]; omega
    · have := dpL_mem h
      omega
theorem wtLL_mem {b : List Pt} {l : List (List Pt)} (h : b ∈ l) : wtL b ≤ wtLL l := by
  rw [wtLL_sum]
  exact le_sum (List.mem_map.mpr ⟨b, h, rfl⟩)
theorem dpLL_mem {b : List Pt} : ∀ {l : List (List Pt)}, b ∈ l → dpL b ≤ dpLL l
  | q :: l, h => by
    rw [dpLL]
    rcases List.mem_cons.mp h with h | h
    · rw [h]; omega
    · have := dpLL_mem h
      omega
/-! ### right pacts -/
def PAR : List Nat := [97, 98, 99, 100, 101, 102]
def MRK : List Nat := (List.range 26).map (· + 65)
mutual
def Ok : Pt → Prop
  | .tr p q m => p ∈ PAR ∧ q ∈ PAR ∧ p ≠ q ∧ m ≤ 10 ^ 60
  | .ev k => k ∈ MRK
  | .ch o os => o ∈ PAR ∧ 2 ≤ os.length ∧ os.length ≤ 6 ∧ OkLL os
  | .rd o b => o ∈ PAR ∧ OkL b
  | .en b => OkL b
  | .ti c b => c ≤ 100 ∧ OkL b
def OkL : List Pt → Prop
  | [] => True
  | p :: l => Ok p ∧ OkL l
def OkLL : List (List Pt) → Prop
  | [] => True
  | b :: l => OkL b ∧ OkLL l
end
theorem okL_iff : ∀ {l : List Pt}, OkL l ↔ ∀ p ∈ l, Ok p
  | [] => ⟨fun _ p h => absurd h List.not_mem_nil, fun _ => by rw [OkL]; trivial⟩
  | q :: l => by
    rw [OkL, okL_iff (l := l)]
    exact ⟨fun ⟨a, b⟩ p h => by
      rcases List.mem_cons.mp h with h | h
      · rw [h]; exact a
      · exact b p h, fun h => ⟨h q List.mem_cons_self, fun p hp => h p (List.mem_cons_of_mem _ hp)⟩⟩
theorem okLL_iff : ∀ {l : List (List Pt)}, OkLL l ↔ ∀ p ∈ l, OkL p
  | [] => ⟨fun _ p h => absurd h List.not_mem_nil, fun _ => by rw [OkLL]; trivial⟩
  | q :: l => by
    rw [OkLL, okLL_iff (l := l)]
    exact ⟨fun ⟨a, b⟩ p h => by
      rcases List.mem_cons.mp h with h | h
      · rw [h]; exact a
      · exact b p h, fun h => ⟨h q List.mem_cons_self, fun p hp => h p (List.mem_cons_of_mem _ hp)⟩⟩
/-! ### how long the texts are -/
theorem dig_len {m : Nat} (h : m ≤ 10 ^ 60) : (dig m).length ≤ 61 := by
  unfold dig
  rw [List.length_map]
  exact (Nat.length_toDigits_le_iff (by decide) (by decide)).mpr (by omega)
theorem dig_len3 {m : Nat} (h : m ≤ 100) : (dig m).length ≤ 3 := by
  unfold dig
  rw [List.length_map]
  exact (Nat.length_toDigits_le_iff (by decide) (by decide)).mpr (by omega)
theorem jn_len (s : List Nat) : ∀ ts : List (List Nat), (jn s ts).length ≤ (ts.map fun t => t.length + s.length).sum
  | [] => Nat.zero_le _
  | [a] => by
    show a.length ≤ _
    simp
  | a :: b :: r => by
    have := jn_len s (b :: r)
    show (a ++ s ++ jn s (b :: r)).length ≤ _
    rw [List.map_cons, List.sum_cons, List.length_append, List.length_append]
    omega
mutual
theorem tx_len : ∀ p : Pt, Ok p → (tx p).length + 2 ≤ 66 * wt p
  | .tr p q m, h => by
    rw [Ok] at h
    have := dig_len h.2.2.2
    rw [tx, wt]
    simp only [List.length_append, List.length_cons, List.length_nil]
    omega
  | .ev k, h => by
    rw [tx, wt]
    show 1 + 2 ≤ 66 * 1
    decide
  | .ch o os, h => by
    rw [Ok] at h
    have h1 := txLL_len os h.2.2.2
    have h2 : (jn [32, 124, 32] (txLL os)).length ≤ ((txLL os).map fun t => t.length + 3).sum := jn_len [32, 124, 32] (txLL os)
    rw [tx, wt]
    simp only [List.length_append, List.length_cons, List.length_nil]
    omega
  | .rd o b, h => by
    rw [Ok] at h
    have := txB_len b h.2
    rw [tx, wt]
    simp only [List.length_append, List.length_cons, List.length_nil]
    omega
  | .en b, h => by
    rw [Ok] at h
    have := txB_len b h
    rw [tx, wt]
    simp only [List.length_append, List.length_cons, List.length_nil]
    omega
  | .ti c b, h => by
    rw [Ok] at h
    have := txB_len b h.2
    have h3 := dig_len3 h.1
    have h4 : wtL b ≤ wtL b * (if c < 1 then 1 else c) := Nat.le_mul_of_pos_right _ (by split <;> omega)
    rw [tx, wt]
    simp only [List.length_append, List.length_cons, List.length_nil]
    omega
theorem txs_len : ∀ l : List Pt, OkL l → ((txs l).map fun t => t.length + 2).sum ≤ 66 * wtL l
  | [], h => by rw [txs]; exact Nat.zero_le _
  | p :: l, h => by
    rw [OkL] at h
    have h1 := tx_len p h.1
    have h2 := txs_len l h.2
    rw [txs, wtL, List.map_cons, List.sum_cons]
    omega
theorem txB_len : ∀ l : List Pt, OkL l → (txB l).length ≤ 66 * wtL l + 1
  | [], h => by rw [txB, wtL]; decide
  | p :: l, h => by
    rw [OkL] at h
    have h1 := tx_len p h.1
    have h2 := txs_len l h.2
    have h3 : (jn [44, 32] (tx p :: txs l)).length ≤ ((tx p :: txs l).map fun t => t.length + 2).sum := jn_len [44, 32] (tx p :: txs l)
    rw [txB, wtL]
    rw [List.map_cons, List.sum_cons] at h3
    omega
theorem txLL_len : ∀ l : List (List Pt), OkLL l → ((txLL l).map fun t => t.length + 3).sum ≤ 66 * wtLL l + 4 * l.length
  | [], h => by rw [txLL]; exact Nat.zero_le _
  | b :: l, h => by
    rw [OkLL] at h
    have h1 := txB_len b h.1
    have h2 := txLL_len l h.2
    rw [txLL, wtLL, List.map_cons, List.sum_cons, List.length_cons]
    omega
end
end Pk
set_option Elab.async false
set_option linter.all false
set_option maxRecDepth 100000
set_option maxHeartbeats 4000000
namespace Z
open PySem PySem.Spec PyProof.Rows L2 Pk
open SX (S S_inj S_len S_cat)
/-! ### pacts in the heap -/
/-- the classes -/
structure Cs where
  T : Addr
  E : Addr
  C : Addr
  R : Addr
  N : Addr
  M : Addr
  P : Addr
def tl3 (w d : Nat) (t : List Nat) : List (Str × V) := [("weight", .int (w : Int)), ("depth", .int (d : Int)), ("text", .str (S t))]
def tlP (p : Pt) : List (Str × V) := tl3 (wt p) (dp p) (tx p)
/-- the fields of a pact -/
def pfl (t : Addr) (l : List Pt) : List (Str × V) := ("parts", .ref t) :: tl3 (wtL l) (dpL l) (txB l)
mutual
def PtAt (c : Cs) (K : PySem.W.Frag) (H : Hp) : Pt → Addr → Prop
  | .tr p q m, a => ∃ dx, H a = some (.ins c.T dx (("payer", .str (S [p])) :: ("payee", .str (S [q])) :: ("amount", .int (m : Int)) :: tlP (.tr p q m)))
  | .ev k, a => ∃ dx, H a = some (.ins c.E dx (("mark", .str (S [k])) :: tlP (.ev k)))
  | .ch o os, a => ∃ (dx t : Addr) (as : List Addr), H a = some (.ins c.C dx (("owner", .str (S [o])) :: ("options", .ref t) :: tlP (.ch o os))) ∧ SqT K H t (as.map V.ref) ∧ PasAt c K H os as
  | .rd o b, a => ∃ (dx x dy t : Addr) (as : List Addr), H a = some (.ins c.R dx (("owner", .str (S [o])) :: ("body", .ref x) :: tlP (.rd o b))) ∧ H x = some (.ins c.P dy (pfl t b)) ∧ SqT K H t (as.map V.ref) ∧ PtsAt c K H b as
  | .en b, a => ∃ (dx x dy t : Addr) (as : List Addr), H a = some (.ins c.N dx (("body", .ref x) :: tlP (.en b))) ∧ H x = some (.ins c.P dy (pfl t b)) ∧ SqT K H t (as.map V.ref) ∧ PtsAt c K H b as
  | .ti n b, a => ∃ (dx x dy t : Addr) (as : List Addr), H a = some (.ins c.M dx (("count", .int (n : Int)) :: ("body", .ref x) :: tlP (.ti n b))) ∧ H x = some (.ins c.P dy (pfl t b)) ∧ SqT K H t (as.map V.ref) ∧ PtsAt c K H b as
def PtsAt (c : Cs) (K : PySem.W.Frag) (H : Hp) : List Pt → List Addr → Prop
  | [], as => as = []
  | p :: l, as => ∃ a r, as = a :: r ∧ PtAt c K H p a ∧ PtsAt c K H l r
def PasAt (c : Cs) (K : PySem.W.Frag) (H : Hp) : List (List Pt) → List Addr → Prop
  | [], as => as = []
  | b :: l, as => ∃ x r, as = x :: r ∧ (∃ (dy t : Addr) (bs : List Addr), H x = some (.ins c.P dy (pfl t b)) ∧ SqT K H t (bs.map V.ref) ∧ PtsAt c K H b bs) ∧ PasAt c K H l r
end
/-- a pact -/
def PaAt (c : Cs) (K : PySem.W.Frag) (H : Hp) (b : List Pt) (x : Addr) : Prop := ∃ (dy t : Addr) (as : List Addr), H x = some (.ins c.P dy (pfl t b)) ∧ SqT K H t (as.map V.ref) ∧ PtsAt c K H b as
/-- all that is no new instance and no list stands as before -/
def SmW (H H' : Hp) : Prop := ∀ a o, H a = some o → (∀ C dx, o ≠ .ins C dx []) → (∀ xs, o ≠ .lst xs) → H' a = some o
/-- all that is no new instance stands as before -/
def SmN (H H' : Hp) : Prop := ∀ a o, H a = some o → (∀ C dx, o ≠ .ins C dx []) → H' a = some o
section
variable {c : Cs} {K : PySem.W.Frag} {H H' : Hp}
theorem SmN.ins (s : SmN H H') {a C dx : Addr} {x : Str × V} {fs : List (Str × V)} (h : H a = some (.ins C dx (x :: fs))) : H' a = some (.ins C dx (x :: fs)) := s _ _ h (fun _ _ z => by cases z)
theorem SmW.ins (s : SmW H H') {a C dx : Addr} {x : Str × V} {fs : List (Str × V)} (h : H a = some (.ins C dx (x :: fs))) : H' a = some (.ins C dx (x :: fs)) := s _ _ h (fun _ _ z => by cases z) (fun _ z => by cases z)
theorem SmW.tup (s : SmW H H') {a : Addr} {xs : List V} (h : SqT K H a xs) : SqT K H' a xs := by
  rcases h with (h | ⟨o, h⟩) | h
  · exact .inl (.inl (s _ _ h (fun _ _ z => by cases z) (fun _ z => by cases z)))
  · exact .inl (.inr ⟨o, s _ _ h (fun _ _ z => by cases z) (fun _ z => by cases z)⟩)
  · exact .inr h
theorem SmN.w (s : SmN H H') : SmW H H' := fun a o e h _ => s a o e h
theorem SmN.tup (s : SmN H H') {a : Addr} {xs : List V} (h : SqT K H a xs) : SqT K H' a xs := s.w.tup h
theorem smW_of (s : Same H H') : SmW H H' := fun a o e _ _ => s a o e
theorem SmW.trans {H2 : Hp} (s : SmW H H') (t : SmW H' H2) : SmW H H2 := fun a o e h l => t a o (s a o e h l) h l
theorem SmN.sqK (s : SmN H H') {q : Bool} {a : Addr} {xs : List V} (h : SqK q K H a xs) : SqK q K H' a xs := by
  cases q
  · exact s.tup h
  · rcases h with (h | ⟨o, h⟩) | h
    · exact .inl (.inl (s _ _ h (fun _ _ z => by cases z)))
    · exact .inl (.inr ⟨o, s _ _ h (fun _ _ z => by cases z)⟩)
    · exact .inr h
theorem smN_of (s : Same H H') : SmN H H' := fun a o e _ => s a o e
theorem SmN.trans {H2 : Hp} (s : SmN H H') (t : SmN H' H2) : SmN H H2 := fun a o e h => t a o (s a o e h) h
theorem smN_sb {n C dx : Addr} (s : SB n H H') (e : H n = some (.ins C dx [])) : SmN H H' := fun a o h nz => s a o (fun z => by rw [z, e] at h; cases h; exact nz _ _ rfl) h
mutual
theorem PtAt.monoW (s : SmW H H') : ∀ (p : Pt) (a : Addr), PtAt c K H p a → PtAt c K H' p a
  | .tr p q m, a, h => by
    rw [PtAt] at h ⊢
    obtain ⟨dx, h⟩ := h
    exact ⟨dx, s.ins h⟩
  | .ev k, a, h => by
    rw [PtAt] at h ⊢
    obtain ⟨dx, h⟩ := h
    exact ⟨dx, s.ins h⟩
  | .ch o os, a, h => by
    rw [PtAt] at h ⊢
    obtain ⟨dx, t, as, h1, h2, h3⟩ := h
    exact ⟨dx, t, as, s.ins h1, (s.tup h2), PasAt.monoW s os as h3⟩
  | .rd o b, a, h => by
    rw [PtAt] at h ⊢
    obtain ⟨dx, x, dy, t, as, h1, h2, h3, h4⟩ := h
    exact ⟨dx, x, dy, t, as, s.ins h1, s.ins h2, (s.tup h3), PtsAt.monoW s b as h4⟩
  | .en b, a, h => by
    rw [PtAt] at h ⊢
    obtain ⟨dx, x, dy, t, as, h1, h2, h3, h4⟩ := h
    exact ⟨dx, x, dy, t, as, s.ins h1, s.ins h2, (s.tup h3), PtsAt.monoW s b as h4⟩
  | .ti n b, a, h => by
    rw [PtAt] at h ⊢
    obtain ⟨dx, x, dy, t, as, h1, h2, h3, h4⟩ := h
    exact ⟨dx, x, dy, t, as, s.ins h1, s.ins h2, (s.tup h3), PtsAt.monoW s b as h4⟩
theorem PtsAt.monoW (s : SmW H H') : ∀ (l : List Pt) (as : List Addr), PtsAt c K H l as → PtsAt c K H' l as
  | [], as, h => by
    rw [PtsAt] at h ⊢
    exact h
  | p :: l, as, h => by
    rw [PtsAt] at h ⊢
    obtain ⟨a, r, h1, h2, h3⟩ := h
    exact ⟨a, r, h1, PtAt.monoW s p a h2, PtsAt.monoW s l r h3⟩
theorem PasAt.monoW (s : SmW H H') : ∀ (l : List (List Pt)) (as : List Addr), PasAt c K H l as → PasAt c K H' l as
  | [], as, h => by
    rw [PasAt] at h ⊢
    exact h
  | b :: l, as, h => by
    rw [PasAt] at h ⊢
    obtain ⟨x, r, h1, ⟨dy, t, bs, h2, h3, h4⟩, h5⟩ := h
    exact ⟨x, r, h1, ⟨dy, t, bs, s.ins h2, (s.tup h3), PtsAt.monoW s b bs h4⟩, PasAt.monoW s l r h5⟩
end
theorem PaAt.monoW (s : SmW H H') {b : List Pt} {x : Addr} (h : PaAt c K H b x) : PaAt c K H' b x := by
  obtain ⟨dy, t, bs, h2, h3, h4⟩ := h
  exact ⟨dy, t, bs, s.ins h2, (s.tup h3), PtsAt.monoW s b bs h4⟩
theorem PaAt.monoN (s : SmN H H') {b : List Pt} {x : Addr} (h : PaAt c K H b x) : PaAt c K H' b x := h.monoW s.w
theorem PtAt.monoN (s : SmN H H') (p : Pt) (a : Addr) (h : PtAt c K H p a) : PtAt c K H' p a := PtAt.monoW s.w p a h
theorem PtsAt.monoN (s : SmN H H') (l : List Pt) (as : List Addr) (h : PtsAt c K H l as) : PtsAt c K H' l as := PtsAt.monoW s.w l as h
theorem PasAt.monoN (s : SmN H H') (l : List (List Pt)) (as : List Addr) (h : PasAt c K H l as) : PasAt c K H' l as := PasAt.monoW s.w l as h
theorem PaAt.mono (s : Same H H') {b : List Pt} {x : Addr} (h : PaAt c K H b x) : PaAt c K H' b x := h.monoN (smN_of s)
theorem PtAt.mono (s : Same H H') (p : Pt) (a : Addr) (h : PtAt c K H p a) : PtAt c K H' p a := h.monoN (smN_of s)
theorem PtsAt.mono (s : Same H H') (l : List Pt) (as : List Addr) (h : PtsAt c K H l as) : PtsAt c K H' l as := h.monoN (smN_of s)
theorem PasAt.mono (s : Same H H') (l : List (List Pt)) (as : List Addr) (h : PasAt c K H l as) : PasAt c K H' l as := h.monoN (smN_of s)
theorem PaAt.sbN {n C dx : Addr} (h : PaAt c K H b x) (s : SB n H H') (e : H n = some (.ins C dx [])) : PaAt c K H' b x := h.monoN (smN_sb s e)
theorem ptsAt_app : ∀ (l m : List Pt) (as bs : List Addr), PtsAt c K H l as → PtsAt c K H m bs → PtsAt c K H (l ++ m) (as ++ bs)
  | [], m, as, bs, h, h2 => by
    rw [PtsAt] at h
    rw [h]
    exact h2
  | p :: l, m, as, bs, h, h2 => by
    rw [PtsAt] at h
    obtain ⟨a, r, rfl, h1, h3⟩ := h
    rw [List.cons_append, PtsAt]
    exact ⟨a, r ++ bs, rfl, h1, ptsAt_app l m r bs h3 h2⟩
theorem PtsAt.len : ∀ (l : List Pt) (as : List Addr), PtsAt c K H l as → as.length = l.length
  | [], as, h => by
    rw [PtsAt] at h
    rw [h]
    rfl
  | p :: l, as, h => by
    rw [PtsAt] at h
    obtain ⟨a, r, rfl, h1, h3⟩ := h
    rw [List.length_cons, List.length_cons, PtsAt.len l r h3]
theorem PtsAt.get : ∀ (l : List Pt) (as : List Addr), PtsAt c K H l as → ∀ (i : Nat) (p : Pt), l[i]? = some p → ∃ a, as[i]? = some a ∧ PtAt c K H p a
  | [], as, h, i, p, e => by cases e
  | q :: l, as, h, i, p, e => by
    rw [PtsAt] at h
    obtain ⟨a, r, rfl, h1, h3⟩ := h
    cases i with
    | zero =>
      cases e
      exact ⟨a, rfl, h1⟩
    | succ i => exact PtsAt.get l r h3 i p e
theorem ptsAt_of : ∀ (l : List Pt) (as : List Addr), as.length = l.length → (∀ (i : Nat) (p : Pt) (a : Addr), l[i]? = some p → as[i]? = some a → PtAt c K H p a) → PtsAt c K H l as
  | [], as, e, h => by
    rw [PtsAt]
    exact List.length_eq_zero_iff.mp e
  | p :: l, as, e, h => by
    cases as with
    | nil => cases e
    | cons a r =>
      rw [PtsAt]
      exact ⟨a, r, rfl, h 0 p a rfl rfl, ptsAt_of l r (by rw [List.length_cons, List.length_cons] at e; omega) fun i => h (i + 1)⟩
theorem PasAt.len : ∀ (l : List (List Pt)) (as : List Addr), PasAt c K H l as → as.length = l.length
  | [], as, h => by
    rw [PasAt] at h
    rw [h]
    rfl
  | p :: l, as, h => by
    rw [PasAt] at h
    obtain ⟨a, r, rfl, h1, h3⟩ := h
    rw [List.length_cons, List.length_cons, PasAt.len l r h3]
theorem PasAt.get : ∀ (l : List (List Pt)) (as : List Addr), PasAt c K H l as → ∀ (i : Nat) (b : List Pt), l[i]? = some b → ∃ x, as[i]? = some x ∧ PaAt c K H b x
  | [], as, h, i, p, e => by cases e
  | q :: l, as, h, i, p, e => by
    rw [PasAt] at h
    obtain ⟨a, r, rfl, h1, h3⟩ := h
    cases i with
    | zero =>
      cases e
      exact ⟨a, rfl, h1⟩
    | succ i => exact PasAt.get l r h3 i p e
theorem pasAt_of : ∀ (l : List (List Pt)) (as : List Addr), as.length = l.length → (∀ (i : Nat) (b : List Pt) (x : Addr), l[i]? = some b → as[i]? = some x → PaAt c K H b x) → PasAt c K H l as
  | [], as, e, h => by
    rw [PasAt]
    exact List.length_eq_zero_iff.mp e
  | p :: l, as, e, h => by
    cases as with
    | nil => cases e
    | cons a r =>
      rw [PasAt]
      exact ⟨a, r, rfl, h 0 p a rfl rfl, pasAt_of l r (by rw [List.length_cons, List.length_cons] at e; omega) fun i => h (i + 1)⟩
end
/-! ### described pacts: tuples and lists -/
mutual
def DtAt (H : Hp) : Pt → Addr → Prop
  | .tr p q m, a => H a = some (.tup [.str "transfer", .str (S [p]), .str (S [q]), .int (m : Int)])
  | .ev k, a => H a = some (.tup [.str "event", .str (S [k])])
  | .ch o os, a => ∃ (L : Addr) (as : List Addr), H a = some (.tup [.str "choice", .str (S [o]), .ref L]) ∧ H L = some (.lst (as.map V.ref)) ∧ DasAt H os as
  | .rd o b, a => ∃ (L : Addr) (as : List Addr), H a = some (.tup [.str "rounds", .str (S [o]), .ref L]) ∧ H L = some (.lst (as.map V.ref)) ∧ DtsAt H b as
  | .en b, a => ∃ (L : Addr) (as : List Addr), H a = some (.tup [.str "endless", .ref L]) ∧ H L = some (.lst (as.map V.ref)) ∧ DtsAt H b as
  | .ti n b, a => ∃ (L : Addr) (as : List Addr), H a = some (.tup [.str "times", .int (n : Int), .ref L]) ∧ H L = some (.lst (as.map V.ref)) ∧ DtsAt H b as
def DtsAt (H : Hp) : List Pt → List Addr → Prop
  | [], as => as = []
  | p :: l, as => ∃ a r, as = a :: r ∧ DtAt H p a ∧ DtsAt H l r
def DasAt (H : Hp) : List (List Pt) → List Addr → Prop
  | [], as => as = []
  | b :: l, as => ∃ L r, as = L :: r ∧ (∃ bs : List Addr, H L = some (.lst (bs.map V.ref)) ∧ DtsAt H b bs) ∧ DasAt H l r
end
/-- a described pact -/
def DaAt (H : Hp) (b : List Pt) (L : Addr) : Prop := ∃ bs : List Addr, H L = some (.lst (bs.map V.ref)) ∧ DtsAt H b bs
section
variable {H H' : Hp}
mutual
theorem DtAt.mono (s : Same H H') : ∀ (p : Pt) (a : Addr), DtAt H p a → DtAt H' p a
  | .tr p q m, a, h => by
    rw [DtAt] at h ⊢
    exact s _ _ h
  | .ev k, a, h => by
    rw [DtAt] at h ⊢
    exact s _ _ h
  | .ch o os, a, h => by
    rw [DtAt] at h ⊢
    obtain ⟨t, as, h1, h2, h3⟩ := h
    exact ⟨t, as, s _ _ h1, s _ _ h2, DasAt.mono s os as h3⟩
  | .rd o b, a, h => by
    rw [DtAt] at h ⊢
    obtain ⟨t, as, h1, h2, h3⟩ := h
    exact ⟨t, as, s _ _ h1, s _ _ h2, DtsAt.mono s b as h3⟩
  | .en b, a, h => by
    rw [DtAt] at h ⊢
    obtain ⟨t, as, h1, h2, h3⟩ := h
    exact ⟨t, as, s _ _ h1, s _ _ h2, DtsAt.mono s b as h3⟩
  | .ti n b, a, h => by
    rw [DtAt] at h ⊢
    obtain ⟨t, as, h1, h2, h3⟩ := h
    exact ⟨t, as, s _ _ h1, s _ _ h2, DtsAt.mono s b as h3⟩
theorem DtsAt.mono (s : Same H H') : ∀ (l : List Pt) (as : List Addr), DtsAt H l as → DtsAt H' l as
  | [], as, h => by
    rw [DtsAt] at h ⊢
    exact h
  | p :: l, as, h => by
    rw [DtsAt] at h ⊢
    obtain ⟨a, r, h1, h2, h3⟩ := h
    exact ⟨a, r, h1, DtAt.mono s p a h2, DtsAt.mono s l r h3⟩
theorem DasAt.mono (s : Same H H') : ∀ (l : List (List Pt)) (as : List Addr), DasAt H l as → DasAt H' l as
  | [], as, h => by
    rw [DasAt] at h ⊢
    exact h
  | b :: l, as, h => by
    rw [DasAt] at h ⊢
    obtain ⟨x, r, h1, ⟨bs, h3, h4⟩, h5⟩ := h
    exact ⟨x, r, h1, ⟨bs, s _ _ h3, DtsAt.mono s b bs h4⟩, DasAt.mono s l r h5⟩
end
theorem DaAt.mono (s : Same H H') {b : List Pt} {x : Addr} (h : DaAt H b x) : DaAt H' b x := by
  obtain ⟨bs, h3, h4⟩ := h
  exact ⟨bs, s _ _ h3, DtsAt.mono s b bs h4⟩
theorem dtsAt_app : ∀ (l m : List Pt) (as bs : List Addr), DtsAt H l as → DtsAt H m bs → DtsAt H (l ++ m) (as ++ bs)
  | [], m, as, bs, h, h2 => by
    rw [DtsAt] at h
    rw [h]
    exact h2
  | p :: l, m, as, bs, h, h2 => by
    rw [DtsAt] at h
    obtain ⟨a, r, rfl, h1, h3⟩ := h
    rw [List.cons_append, DtsAt]
    exact ⟨a, r ++ bs, rfl, h1, dtsAt_app l m r bs h3 h2⟩
theorem dtsAt_one {p : Pt} {a : Addr} (h : DtAt H p a) : DtsAt H [p] [a] := by
  rw [DtsAt]
  exact ⟨a, [], rfl, h, by rw [DtsAt]⟩
theorem dasAt_app : ∀ (l m : List (List Pt)) (as bs : List Addr), DasAt H l as → DasAt H m bs → DasAt H (l ++ m) (as ++ bs)
  | [], m, as, bs, h, h2 => by
    rw [DasAt] at h
    rw [h]
    exact h2
  | p :: l, m, as, bs, h, h2 => by
    rw [DasAt] at h
    obtain ⟨a, r, rfl, h1, h3⟩ := h
    rw [List.cons_append, DasAt]
    exact ⟨a, r ++ bs, rfl, h1, dasAt_app l m r bs h3 h2⟩
theorem dasAt_one {b : List Pt} {a : Addr} (h : DaAt H b a) : DasAt H [b] [a] := by
  rw [DasAt]
  exact ⟨a, [], rfl, h, by rw [DasAt]⟩
theorem DtsAt.len : ∀ (l : List Pt) (as : List Addr), DtsAt H l as → as.length = l.length
  | [], as, h => by
    rw [DtsAt] at h
    rw [h]
    rfl
  | p :: l, as, h => by
    rw [DtsAt] at h
    obtain ⟨a, r, rfl, h1, h3⟩ := h
    rw [List.length_cons, List.length_cons, DtsAt.len l r h3]
theorem DtsAt.get : ∀ (l : List Pt) (as : List Addr), DtsAt H l as → ∀ (i : Nat) (p : Pt), l[i]? = some p → ∃ a, as[i]? = some a ∧ DtAt H p a
  | [], as, h, i, p, e => by cases e
  | q :: l, as, h, i, p, e => by
    rw [DtsAt] at h
    obtain ⟨a, r, rfl, h1, h3⟩ := h
    cases i with
    | zero =>
      cases e
      exact ⟨a, rfl, h1⟩
    | succ i => exact DtsAt.get l r h3 i p e
theorem DtsAt.gets {H : Hp} : ∀ (l : List Pt) (as : List Addr), DtsAt H l as → ∀ (i : Nat) (x : V), (as.map V.ref)[i]? = some x → ∃ y p, x = .ref y ∧ l[i]? = some p ∧ DtAt H p y
  | [], as, h, i, x, e => by
    rw [DtsAt] at h
    rw [h] at e
    cases e
  | q :: l, as, h, i, x, e => by
    rw [DtsAt] at h
    obtain ⟨a, r, rfl, h1, h3⟩ := h
    cases i with
    | zero =>
      cases e
      exact ⟨a, q, rfl, rfl, h1⟩
    | succ i => exact DtsAt.gets l r h3 i x e
theorem DasAt.gets {H : Hp} : ∀ (l : List (List Pt)) (as : List Addr), DasAt H l as → ∀ (i : Nat) (x : V), (as.map V.ref)[i]? = some x → ∃ y p, x = .ref y ∧ l[i]? = some p ∧ DaAt H p y
  | [], as, h, i, x, e => by
    rw [DasAt] at h
    rw [h] at e
    cases e
  | q :: l, as, h, i, x, e => by
    rw [DasAt] at h
    obtain ⟨a, r, rfl, h1, h3⟩ := h
    cases i with
    | zero =>
      cases e
      exact ⟨a, q, rfl, rfl, h1⟩
    | succ i => exact DasAt.gets l r h3 i x e
theorem dtsAt_of : ∀ (l : List Pt) (as : List Addr), as.length = l.length → (∀ (i : Nat) (p : Pt) (a : Addr), l[i]? = some p → as[i]? = some a → DtAt H p a) → DtsAt H l as
  | [], as, e, h => by
    rw [DtsAt]
    exact List.length_eq_zero_iff.mp e
  | p :: l, as, e, h => by
    cases as with
    | nil => cases e
    | cons a r =>
      rw [DtsAt]
      exact ⟨a, r, rfl, h 0 p a rfl rfl, dtsAt_of l r (by rw [List.length_cons, List.length_cons] at e; omega) fun i => h (i + 1)⟩
theorem DasAt.len : ∀ (l : List (List Pt)) (as : List Addr), DasAt H l as → as.length = l.length
  | [], as, h => by
    rw [DasAt] at h
    rw [h]
    rfl
  | p :: l, as, h => by
    rw [DasAt] at h
    obtain ⟨a, r, rfl, h1, h3⟩ := h
    rw [List.length_cons, List.length_cons, DasAt.len l r h3]
theorem DasAt.get : ∀ (l : List (List Pt)) (as : List Addr), DasAt H l as → ∀ (i : Nat) (b : List Pt), l[i]? = some b → ∃ x, as[i]? = some x ∧ DaAt H b x
  | [], as, h, i, p, e => by cases e
  | q :: l, as, h, i, p, e => by
    rw [DasAt] at h
    obtain ⟨a, r, rfl, h1, h3⟩ := h
    cases i with
    | zero =>
      cases e
      exact ⟨a, rfl, h1⟩
    | succ i => exact DasAt.get l r h3 i p e
end
/-! ### numbers as texts -/
theorem str_dig (n : Nat) : Str.ofString (toString (n : Int)) = S (dig n) := by
  rw [Str.ofString_eq_toList, show toString (n : Int) = Nat.repr n from rfl]
  unfold dig Nat.repr
  rw [String.toList_ofList]
end Z
set_option linter.all false
set_option maxRecDepth 100000
namespace Z
open PySem PySem.Spec PyProof.Rows L2
theorem none_of {H J : Hp} {p : Addr} (s : Same H J) (n : J p = none) : H p = none := by
  cases e : H p with
  | none => rfl
  | some o =>
    have := s p o e
    rw [n] at this
    cases this
theorem szC {n : Nat} (h : n ≤ 10000000) : n < sizeLine := Nat.lt_of_le_of_lt h (by decide)
theorem ixN_nat {n j : Nat} (h : j < n) : ixN n (j : Int) = some j := by
  unfold ixN
  rw [if_pos (by omega)]
  first
    | (rw [if_pos (by omega)]; congr 1)
    | simp [h]
theorem sqk_or {q : Bool} {K : PySem.W.Frag} {H : Hp} {a : Addr} {xs : List V} (h : SqK q K H a xs) : SqL K H a xs ∨ SqT K H a xs := by
  cases q
  · exact .inr h
  · exact .inl h
theorem nd_inj {l : List Nat} (nd : l.Nodup) {i j c : Nat} (hi : l[i]? = some c) (hj : l[j]? = some c) : i = j := by
  obtain ⟨h1, e1⟩ := List.getElem?_eq_some_iff.mp hi
  exact (List.getElem?_inj h1 nd).mp (hi.trans hj.symm)
theorem relv_ref {a : Addr} : L2.RelV (.ref a) (.ref a) := rfl
end Z
set_option Elab.async false
set_option linter.all false
set_option maxRecDepth 100000
set_option maxHeartbeats 4000000
namespace Z
open PySem PySem.Spec PyProof.Rows L2
/-! ### [e for x in xs], xs a list or tuple of any values, the values of e known -/
theorem lc_vs {b : Bool} {K : PySem.W.Frag} {a D : Addr} {xs : List V} {H0 : Hp} {i : Nat} {te : TE} {vs : List Nat} {σ : L2.St} {Qd : Hp → Prop} (hS : SqK b K H0 a xs) (ys : List V) (hl : ys.length = xs.length) (hn : xs.length ≤ 1000000) (nD : H0 D = none)
    (hw : ∀ x : V, wipe ((wipe σ vs).set i (some x)) vs = wipe σ vs)
    (ht : ∀ (k : Nat) (x y : V) J (Q : VK), xs[k]? = some x → ys[k]? = some y → Same H0 J → (∀ J2, Same J J2 → Q y J2) → te ((wipe σ vs).set i (some x)) J Q)
    (hd : ∀ J, Same H0 J → J D = some (.lst ys) → Qd J) : lcW (ItQ b K a) (gName i) tYes te vs σ D Qd H0 := by
  have gx : ∀ k, k < xs.length → xs[k]? = some (xs.getD k .non) := fun k hk => by
    rw [List.getD_eq_getElem?_getD, List.getElem?_eq_getElem hk]
    rfl
  have gy : ∀ k, k < xs.length → ys[k]? = some (ys.getD k .non) := fun k hk => by
    rw [List.getD_eq_getElem?_getD, List.getElem?_eq_getElem (by omega)]
    rfl
  refine lc_flt (n := xs.length) (fun k => xs.getD k .non) (fun _ => true) (fun k => ys.getD k .non) hn nD (fun k J hk s => itq_go (Z.Same.sqK s hS) (gx k hk)) (fun J s => itq_stop (Z.Same.sqK s hS) (Nat.le_refl _)) (fun k J x J2 hk s y => ?_) (fun k => hw _) (fun k J Q1 _ _ q1 => q1 _ (Same.refl _)) (fun k J Q1 hk _ s q1 => ?_) (fun J s eD => hd J s ?_)
  · obtain ⟨rfl, ex⟩ := itq_yld (Z.Same.sqK s hS) y
    rw [gx k hk] at ex
    cases ex
    exact ⟨Same.refl _, rfl⟩
  · exact ht k _ _ J Q1 (gx k hk) (gy k hk) s q1
  · rw [eD]
    congr 2
    unfold fltL
    rw [List.filter_eq_self.mpr (fun _ _ => rfl)]
    refine List.ext_getElem? fun k => ?_
    rw [List.getElem?_map]
    by_cases hk : k < xs.length
    · rw [List.getElem?_range hk, gy k hk]
      rfl
    · rw [List.getElem?_eq_none (by rw [List.length_range]; omega), List.getElem?_eq_none (by omega)]
      rfl
/-- the list form of a walk -/
theorem lc_vsL {K : PySem.W.Frag} {a D : Addr} {xs : List V} {H0 : Hp} {i : Nat} {te : TE} {vs : List Nat} {σ : L2.St} {Qd : Hp → Prop} (hS : SqL K H0 a xs) (ys : List V) (hl : ys.length = xs.length) (hn : xs.length ≤ 1000000) (nD : H0 D = none)
    (hw : ∀ x : V, wipe ((wipe σ vs).set i (some x)) vs = wipe σ vs)
    (ht : ∀ (k : Nat) (x y : V) J (Q : VK), xs[k]? = some x → ys[k]? = some y → Same H0 J → (∀ J2, Same J J2 → Q y J2) → te ((wipe σ vs).set i (some x)) J Q)
    (hd : ∀ J, Same H0 J → J D = some (.lst ys) → Qd J) : lcW (Itl K a) (gName i) tYes te vs σ D Qd H0 := lc_vs (b := true) hS ys hl hn nD hw ht hd
/-! ### tuple(xs), xs a list or a tuple -/
theorem tup_sq {K : PySem.W.Frag} {q : Bool} {H : Hp} {a : Addr} {xs : List V} {Q : VK} (h : SqK q K H a xs) (hq : ∀ t H', Same H H' → SqT K H' t xs → Q (.ref t) H') : (SqL K H a xs ∧ ∀ l, H l = none → Q (.ref l) (upd H l (.tup xs))) ∨ (SqT K H a xs ∧ Q (.ref a) H) := by
  cases q
  · exact .inr ⟨h, hq a H (Same.refl _) h⟩
  · exact .inl ⟨h, fun l nl => hq l _ (same_new nl) (SqT.of upd_same)⟩
def rTupSq (K : PySem.W.Frag) : List V → Hp → VK → Prop := fun vs H Q => ∃ (q : Bool) (a : Addr) (xs : List V), vs = [.ref a] ∧ SqK q K H a xs ∧ ∀ t H', Same H H' → SqT K H' t xs → Q (.ref t) H'
theorem call_tupleSq {X : Cx} : CallR X (.type "tuple") (rTupSq X.K) := by
  intro pins s σ H vs us Q I r h
  obtain ⟨q, a, xs, rfl, hS, hq⟩ := h
  exact call_tuple_of pins s σ H _ us Q I r ⟨a, xs, rfl, tup_sq hS hq⟩
end Z
set_option Elab.async false
set_option linter.all false
set_option maxRecDepth 100000
set_option maxHeartbeats 4000000
namespace Z
open PySem PySem.Spec PyProof.Rows L2
open SX (S S_inj S_len S_cat)
/-! ### draws and their place -/
structure Tk (K : PySem.W.Frag) (a p : Addr) (ds : List Int) (n : Nat) (H0 H1 : Hp) : Prop where
  hA : H1 a = some (.lst (ds.map V.int))
  hd : Dr n ds
  ne : a ≠ p
  sb : SB p H0 H1
  pl : ∃ m : Nat, H1 p = some (.lst [.int (m : Int)])
section
variable {K : PySem.W.Frag} {a p : Addr} {ds : List Int} {n m : Nat} {H0 H1 H2 : Hp}
theorem Tk.more (t : Tk K a p ds n H0 H1) (s : Same H1 H2) : Tk K a p ds n H0 H2 := by
  obtain ⟨m, e⟩ := t.pl
  exact ⟨s _ _ t.hA, t.hd, t.ne, t.sb.trans (Z.Same.sb s), m, s _ _ e⟩
theorem Tk.next (t : Tk K a p ds n H0 H1) (e : H1 p = some (.lst [.int (m : Int)])) : Tk K a p ds n H0 (upd H1 p (.lst [.int ((m + 1 : Nat) : Int)])) ∧ SB p H1 (upd H1 p (.lst [.int ((m + 1 : Nat) : Int)])) := by
  have sb : SB p H1 (upd H1 p (.lst [.int ((m + 1 : Nat) : Int)])) := SB.upd (Z.Same.sb (Same.refl H1))
  exact ⟨⟨sb _ _ t.ne t.hA, t.hd, t.ne, t.sb.trans sb, m + 1, upd_same⟩, sb⟩
theorem Tk.slf (t : Tk K a p ds n H0 H1) : Tk K a p ds n H1 H1 := ⟨t.hA, t.hd, t.ne, Z.Same.sb (Same.refl _), t.pl⟩
theorem Tk.tr (t : Tk K a p ds n H0 H1) (u : Tk K a p ds n H1 H2) : Tk K a p ds n H0 H2 := ⟨u.hA, u.hd, u.ne, t.sb.trans u.sb, u.pl⟩
theorem Tk.nn {q : Addr} (t : Tk K a p ds n H0 H1) (h : H1 q = none) : H0 q = none := by
  cases e : H0 q with
  | none => rfl
  | some o =>
    have pq : q ≠ p := fun z => by
      obtain ⟨m, em⟩ := t.pl
      rw [z, em] at h
      cases h
    rw [t.sb _ _ pq e] at h
    cases h
theorem Tk.at_ {q : Addr} {o : HO} (t : Tk K a p ds n H0 H1) (h : H0 q = none) (hp : p ≠ q) (ha : a ≠ q) : Tk K a p ds n H0 (upd H1 q o) := by
  obtain ⟨m, em⟩ := t.pl
  refine ⟨by rw [upd_ne ha]; exact t.hA, t.hd, t.ne, fun b u n1 n2 => ?_, m, by rw [upd_ne hp]; exact em⟩
  have bq : b ≠ q := fun z => by rw [z, h] at n2; cases n2
  rw [upd_ne bq]
  exact t.sb _ _ n1 n2
/-- an object other than the place lives on -/
theorem Tk.up (t : Tk K a p ds n H0 H1) {b : Addr} {o : HO} (e : H0 b = some o) (h : b ≠ p) : H1 b = some o := t.sb _ _ h e
end
theorem at_0 {α : Type} {x : α} {xs : List α} : atI (x :: xs) 0 = some x := show atI _ ((0 : Nat) : Int) = _ from atI_nat rfl
theorem at_1 {α : Type} {x y : α} {xs : List α} : atI (x :: y :: xs) 1 = some y := show atI _ ((1 : Nat) : Int) = _ from atI_nat rfl
theorem at_2 {α : Type} {x y z : α} {xs : List α} : atI (x :: y :: z :: xs) 2 = some z := show atI _ ((2 : Nat) : Int) = _ from atI_nat rfl
theorem at_3 {α : Type} {x y z u : α} {xs : List α} : atI (x :: y :: z :: u :: xs) 3 = some u := show atI _ ((3 : Nat) : Int) = _ from atI_nat rfl
theorem sum_one : ∀ l : List Nat, (l.map fun _ => 1).sum = l.length
  | [] => rfl
  | _ :: r => by
    rw [List.map_cons, List.sum_cons, sum_one r, List.length_cons]
    omega
theorem join_one : ∀ l : List Nat, TL.joinL [] (l.map fun c => [c]) = l
  | [] => rfl
  | [c] => rfl
  | c :: d :: r => by
    have ih := join_one (d :: r)
    show [c] ++ ([] ++ TL.joinL [] ((d :: r).map fun c => [c])) = _
    rw [ih]
    rfl
theorem ixv {b : Bool} {K : PySem.W.Frag} {H : Hp} {a : Addr} {xs : List V} {i : Int} {v : V} {Q : VK} (hS : SqK b K H a xs) (e : atI xs i = some v) (q : Q v H) : rIx K (.ref a) (.int i) H Q := by
  cases b
  · exact .inr (.inl ⟨a, _, _, _, rfl, rfl, hS, e, q⟩)
  · exact .inl ⟨a, _, _, _, rfl, rfl, hS, e, q⟩
theorem sgn_at (z : Str) (r : Int) (h : 0 < z.length) : ∃ c, atI z.cps.toList (r % (z.length : Int)) = some c := by
  have h1 := Int.emod_nonneg r (show (z.length : Int) ≠ 0 by omega)
  have h2 := Int.emod_lt_of_pos r (show 0 < (z.length : Int) by omega)
  obtain ⟨j, hj⟩ : ∃ j : Nat, r % (z.length : Int) = (j : Int) := ⟨(r % (z.length : Int)).toNat, by omega⟩
  rw [hj] at h2 ⊢
  have hl : j < z.cps.toList.length := by
    show j < z.cps.size
    have : z.length = z.cps.size := rfl
    omega
  exact ⟨z.cps.toList[j], atI_nat (List.getElem?_eq_getElem hl)⟩
theorem modN (r : Int) {n : Nat} (h : 0 < n) : ∃ c : Nat, r % (n : Int) = (c : Int) ∧ c < n := by
  have h1 := Int.emod_nonneg r (show (n : Int) ≠ 0 by omega)
  have h2 := Int.emod_lt_of_pos r (show 0 < (n : Int) by omega)
  exact ⟨(r % (n : Int)).toNat, by omega, by omega⟩
/-! ### what is new -/
/-- the objects that are new -/
def nw (H H' : Hp) : Hp := fun a => match H a with | none => H' a | some _ => none
/-- the new objects other than D -/
def nwD (H : Hp) (D : Addr) (H' : Hp) : Hp := fun a => if a = D then none else nw H H' a
def del (H : Hp) (D : Addr) : Hp := fun a => if a = D then none else H a
section
variable {H H1 H2 H3 : Hp} {D p : Addr}
theorem nw_some {a : Addr} {o : HO} (h : nw H H1 a = some o) : H a = none ∧ H1 a = some o := by
  unfold nw at h
  cases e : H a with
  | none =>
    rw [e] at h
    exact ⟨rfl, h⟩
  | some u =>
    rw [e] at h
    cases h
theorem nw_of {a : Addr} {o : HO} (h : H a = none) (h2 : H1 a = some o) : nw H H1 a = some o := by
  unfold nw
  rw [h]
  exact h2
theorem nwD_some {a : Addr} {o : HO} (h : nwD H D H1 a = some o) : a ≠ D ∧ H a = none ∧ H1 a = some o := by
  unfold nwD at h
  by_cases c : a = D
  · rw [if_pos c] at h
    cases h
  · rw [if_neg c] at h
    exact ⟨c, nw_some h⟩
theorem nwD_of {a : Addr} {o : HO} (n : a ≠ D) (h : H a = none) (h2 : H1 a = some o) : nwD H D H1 a = some o := by
  unfold nwD
  rw [if_neg n]
  exact nw_of h h2
theorem nw_same : Same (nw H H1) H1 := fun _ _ h => (nw_some h).2
theorem nwD_nw : Same (nwD H D H1) (nw H H1) := fun _ _ h => nw_of (nwD_some h).2.1 (nwD_some h).2.2
theorem nwD_same : Same (nwD H D H1) H1 := fun _ _ h => (nwD_some h).2.2
theorem del_same : Same (del H D) H := fun a o h => by
  unfold del at h
  by_cases c : a = D
  · rw [if_pos c] at h
    cases h
  · rw [if_neg c] at h
    exact h
theorem del_of {a : Addr} {o : HO} (n : a ≠ D) (h : H a = some o) : del H D a = some o := by
  unfold del
  rw [if_neg n]
  exact h
theorem del_mono (s : Same H H1) : Same (del H D) (del H1 D) := fun a o h => by
  unfold del at h
  by_cases c : a = D
  · rw [if_pos c] at h
    cases h
  · rw [if_neg c] at h
    exact del_of c (s _ _ h)
theorem del_sb (s : SB D H H1) : Same (del H D) (del H1 D) := fun a o h => by
  unfold del at h
  by_cases c : a = D
  · rw [if_pos c] at h
    cases h
  · rw [if_neg c] at h
    exact del_of c (s _ _ c h)
/-- objects of a heap where D is not yet -/
theorem del_new (s : Same H H1) (n : H D = none) : Same H (del H1 D) := fun a o h => del_of (fun e => by rw [e, n] at h; cases h) (s _ _ h)
/-- what is new from H1 to H2, told from H on -/
theorem nw_tail (nn : ∀ q, H1 q = none → H q = none) (hD : H1 D ≠ none) : Same (nw H1 H2) (nwD H D H2) := fun a o h => nwD_of (fun e => hD (e ▸ (nw_some h).1)) (nn _ (nw_some h).1) (nw_some h).2
theorem nwD_sb (s : SB p H1 H2) (hp : H p ≠ none) : Same (nwD H D H1) (nwD H D H2) := fun a o h => nwD_of (nwD_some h).1 (nwD_some h).2.1 (s _ _ (fun e => hp (e ▸ (nwD_some h).2.1)) (nwD_some h).2.2)
theorem nwD_upd {o : HO} : Same (nwD H D H1) (nwD H D (upd H1 D o)) := fun a u h => nwD_of (nwD_some h).1 (nwD_some h).2.1 (by rw [upd_ne (nwD_some h).1]; exact (nwD_some h).2.2)
theorem nw_trans (nn : ∀ q, H1 q = none → H q = none) : Same (nw H1 H2) (nw H H2) := fun a o h => nw_of (nn _ (nw_some h).1) (nw_some h).2
theorem nw_sb (s : SB p H1 H2) (hp : H p ≠ none) : Same (nw H H1) (nw H H2) := fun a o h => nw_of (nw_some h).1 (s _ _ (fun e => hp (e ▸ (nw_some h).1)) (nw_some h).2)
end
theorem Tk.hp {K : PySem.W.Frag} {a p : Addr} {ds : List Int} {n : Nat} {H0 H1 : Hp} (t : Tk K a p ds n H0 H1) : H1 p ≠ none := by
  obtain ⟨m, e⟩ := t.pl
  rw [e]
  exact fun z => by cases z
/-- [e for ..], the values drawn: each value is told by its new objects -/
theorem lc_nw {K : PySem.W.Frag} {a p : Addr} {ds : List Int} {m : Nat} {J : It} {D : Addr} {n : Nat} {H0 : Hp} {i : Nat} {te : TE} {vs : List Nat} {σ : L2.St} {Qd : Hp → Prop} (G : Nat → Hp → V → Prop) (mono : ∀ i X Y y, Same X Y → G i X y → G i Y y) (hT : Tk K a p ds m H0 H0) (nD : H0 D = none) (hn : n ≤ 1000000)
    (hgo : ∀ k J', k < n → J.go k J') (hst : ∀ J', J.stop n J') (hy : ∀ k J1 x J2, k < n → J.yld k J1 x J2 → J2 = J1)
    (hw : ∀ x : V, wipe ((wipe σ vs).set i (some x)) vs = wipe σ vs)
    (ht : ∀ (k : Nat) (x : V) J1 (Q : VK), k < n → J.yld k J1 x J1 → Tk K a p ds m H0 J1 → (∀ y J2, Tk K a p ds m J1 J2 → G k (nw J1 J2) y → Q y J2) → te ((wipe σ vs).set i (some x)) J1 Q)
    (hd : ∀ J1 ys, Tk K a p ds m H0 J1 → J1 D = some (.lst ys) → ys.length = n → (∀ k y, ys[k]? = some y → G k (nwD H0 D J1) y) → Qd J1) : lcW J (gName i) tYes te vs σ D Qd H0 := by
  have Dp : p ≠ D := fun e => hT.hp (e ▸ nD)
  have aD : a ≠ D := fun e => by have := hT.hA; rw [e, nD] at this; cases this
  refine lc_gen (n := n) (fun k J1 => Tk K a p ds m H0 J1 ∧ ∃ ys, J1 D = some (.lst ys) ∧ ys.length = k ∧ ∀ k y, ys[k]? = some y → G k (nwD H0 D J1) y) ⟨hT.more (same_new nD), [], upd_same, rfl, fun k y e => by cases e⟩ (fun k J1 hk _ => hgo k J1 hk) (fun J1 _ => hst J1) (fun k J1 x J2 hk ⟨hT1, ys, eD, ly, hG⟩ y => ?_) (fun J1 ⟨hT1, ys, eD, ly, hG⟩ => hd J1 ys hT1 eD ly hG)
  obtain rfl := hy k J1 x J2 hk y
  refine ⟨hw x, ?_⟩
  show te ((wipe σ vs).set i (some x)) J2 _
  refine ht k x J2 _ hk y hT1 fun v J3 hT3 hv => ?_
  have eD3 := hT3.up eD Dp.symm
  refine ⟨ys, eD3, Nat.lt_of_le_of_lt (show ys.length ≤ 1000000 by omega) (by decide), (hT1.tr hT3).at_ nD Dp aD, ys ++ [v], upd_same, by rw [List.length_append, ly]; rfl, fun k2 y2 e => ?_⟩
  refine mono _ _ _ _ nwD_upd ?_
  by_cases c : k2 < ys.length
  · rw [List.getElem?_append_left c] at e
    exact mono _ _ _ _ (nwD_sb hT3.sb hT.hp) (hG _ _ e)
  · rw [List.getElem?_append_right (by omega)] at e
    have k0 : k2 = k := by
      have := (List.getElem?_eq_some_iff.mp e).1
      simp only [List.length_cons, List.length_nil] at this
      omega
    subst k0
    rw [ly, Nat.sub_self] at e
    cases e
    exact mono _ _ _ _ (nw_tail (fun q h => hT1.nn h) (by rw [eD]; exact fun z => by cases z)) hv
/-- [e for x in xs], each value told by what stays if only lists change -/
theorem lc_rel {b : Bool} {K : PySem.W.Frag} {a D : Addr} {xs : List V} {H0 : Hp} {i : Nat} {te : TE} {vs : List Nat} {σ : L2.St} {Qd : Hp → Prop} (G : Nat → Hp → V → Prop) (mono : ∀ i X Y y, SmW X Y → G i X y → G i Y y) (hS : SqK b K H0 a xs) (hn : xs.length ≤ 1000000) (nD : H0 D = none)
    (hw : ∀ x : V, wipe ((wipe σ vs).set i (some x)) vs = wipe σ vs)
    (ht : ∀ (k : Nat) (x : V) J1 (Q : VK), xs[k]? = some x → Same H0 J1 → (∀ y J2, Same J1 J2 → G k J2 y → Q y J2) → te ((wipe σ vs).set i (some x)) J1 Q)
    (hd : ∀ J1 ys, Same H0 J1 → J1 D = some (.lst ys) → ys.length = xs.length → (∀ k y, ys[k]? = some y → G k J1 y) → Qd J1) : lcW (ItQ b K a) (gName i) tYes te vs σ D Qd H0 := by
  have gx : ∀ k, k < xs.length → xs[k]? = some (xs.getD k .non) := fun k hk => by
    rw [List.getD_eq_getElem?_getD, List.getElem?_eq_getElem hk]
    rfl
  refine lc_gen (n := xs.length) (fun k J1 => Same H0 J1 ∧ ∃ ys, J1 D = some (.lst ys) ∧ ys.length = k ∧ ∀ k y, ys[k]? = some y → G k J1 y) ⟨same_new nD, [], upd_same, rfl, fun k y e => by cases e⟩ (fun k J1 hk h => itq_go (Z.Same.sqK h.1 hS) (gx k hk)) (fun J1 h => itq_stop (Z.Same.sqK h.1 hS) (Nat.le_refl _)) (fun k J1 x J2 hk ⟨s1, ys, eD, ly, hG⟩ y => ?_) (fun J1 ⟨s1, ys, eD, ly, hG⟩ => hd J1 ys s1 eD ly hG)
  obtain ⟨rfl, ex⟩ := itq_yld (Z.Same.sqK s1 hS) y
  refine ⟨hw x, ?_⟩
  show te ((wipe σ vs).set i (some x)) J2 _
  refine ht k x J2 _ ex s1 fun v J3 s3 hv => ?_
  have eD3 := s3 _ _ eD
  have sw : SmW J3 (upd J3 D (.lst (ys ++ [v]))) := fun c o e _ nl => by
    by_cases cD : c = D
    · rw [cD, eD3] at e
      cases e
      exact absurd rfl (nl _)
    · rw [upd_ne cD]
      exact e
  refine ⟨ys, eD3, Nat.lt_of_le_of_lt (show ys.length ≤ 1000000 by omega) (by decide), Z.Same.mut (s1.trans s3) nD, ys ++ [v], upd_same, by rw [List.length_append, ly]; rfl, fun k2 y2 e => ?_⟩
  refine mono _ _ _ _ sw ?_
  by_cases c : k2 < ys.length
  · rw [List.getElem?_append_left c] at e
    exact mono _ _ _ _ (smW_of s3) (hG _ _ e)
  · rw [List.getElem?_append_right (by omega)] at e
    have k0 : k2 = k := by
      have := (List.getElem?_eq_some_iff.mp e).1
      simp only [List.length_cons, List.length_nil] at this
      omega
    subst k0
    rw [ly, Nat.sub_self] at e
    cases e
    exact hv
theorem lc_relL {K : PySem.W.Frag} {a D : Addr} {xs : List V} {H0 : Hp} {i : Nat} {te : TE} {vs : List Nat} {σ : L2.St} {Qd : Hp → Prop} (G : Nat → Hp → V → Prop) (mono : ∀ i X Y y, SmW X Y → G i X y → G i Y y) (hS : SqL K H0 a xs) (hn : xs.length ≤ 1000000) (nD : H0 D = none)
    (hw : ∀ x : V, wipe ((wipe σ vs).set i (some x)) vs = wipe σ vs)
    (ht : ∀ (k : Nat) (x : V) J1 (Q : VK), xs[k]? = some x → Same H0 J1 → (∀ y J2, Same J1 J2 → G k J2 y → Q y J2) → te ((wipe σ vs).set i (some x)) J1 Q)
    (hd : ∀ J1 ys, Same H0 J1 → J1 D = some (.lst ys) → ys.length = xs.length → (∀ k y, ys[k]? = some y → G k J1 y) → Qd J1) : lcW (Itl K a) (gName i) tYes te vs σ D Qd H0 := lc_rel (b := true) G mono hS hn nD hw ht hd
/-- values that are all references -/
theorem refs_of : ∀ (ys : List V), (∀ (k : Nat) y, ys[k]? = some y → ∃ x, y = V.ref x) → ∃ as : List Addr, ys = as.map V.ref
  | [], _ => ⟨[], rfl⟩
  | y :: ys, h => by
    obtain ⟨x, rfl⟩ := h 0 y rfl
    obtain ⟨as, rfl⟩ := refs_of ys fun k y e => h (k + 1) y e
    exact ⟨x :: as, rfl⟩
end Z
set_option pp.maxSteps 700
set_option Elab.async false
set_option linter.all false
set_option maxRecDepth 100000
set_option maxHeartbeats 4000000
open SX (S S_inj S_len S_cat)
namespace Z
open Pk NdefX
open PySem PySem.Spec PyProof.Rows L2
open C8 (pss_cut tCut)
local macro_rules | `(tactic| walk_at "num") => `(tactic| first | rfl | omega | decide | exact Nat.le_of_lt (small1000 (by simp)) | exact ⟨by omega, by omega⟩ | exact ⟨by omega, by omega, by omega⟩ | exact ⟨by decide, by decide, by decide⟩ | exact Or.inl ⟨by omega, by omega⟩ | exact Or.inr ⟨by omega, by omega⟩)
local macro_rules | `(tactic| walk_at "go") => `(tactic| repeat (first | refine ⟨_, rfl, ?_⟩ | refine ⟨_, _, rfl, rfl, ?_⟩ | refine ⟨_, _, rfl, ?_⟩ | (refine ⟨_, _, rfl, rfl, ?_, ?_⟩; focus walk_at "num") | refine Or.inl ⟨_, rfl, ?_⟩ | refine ⟨_, _, _, _, rfl, rfl, (by assumption), (by rfl), ?_⟩ | refine ⟨_, _, _, _, _, rfl, (by assumption), (by assumption), (by assumption), (by rfl), ?_⟩ | refine ⟨rfl, ?_⟩ | (refine And.intro ?_ ?_; focus walk_at "num")))
abbrev s_is_party : Stmt := topS 28
abbrev N_is_party : List Str := ["text"]
abbrev P_is_party : List Str := ["text"]
theorem sc_is_party : FnScope N_is_party P_is_party (defScope s_is_party) := ⟨rfl, rfl, rfl, by decide +kernel, rfl, by decide +kernel, by decide +kernel⟩
abbrev s_is_mark : Stmt := topS 29
abbrev N_is_mark : List Str := ["text"]
abbrev P_is_mark : List Str := ["text"]
theorem sc_is_mark : FnScope N_is_mark P_is_mark (defScope s_is_mark) := ⟨rfl, rfl, rfl, by decide +kernel, rfl, by decide +kernel, by decide +kernel⟩
abbrev s_check_party : Stmt := topS 30
abbrev N_check_party : List Str := ["party"]
abbrev P_check_party : List Str := ["party"]
theorem sc_check_party : FnScope N_check_party P_check_party (defScope s_check_party) := ⟨rfl, rfl, rfl, by decide +kernel, rfl, by decide +kernel, by decide +kernel⟩
abbrev s_check_mark : Stmt := topS 31
abbrev N_check_mark : List Str := ["mark"]
abbrev P_check_mark : List Str := ["mark"]
theorem sc_check_mark : FnScope N_check_mark P_check_mark (defScope s_check_mark) := ⟨rfl, rfl, rfl, by decide +kernel, rfl, by decide +kernel, by decide +kernel⟩
abbrev s_check_size : Stmt := topS 38
abbrev N_check_size : List Str := ["weight", "depth"]
abbrev P_check_size : List Str := ["weight", "depth"]
theorem sc_check_size : FnScope N_check_size P_check_size (defScope s_check_size) := ⟨rfl, rfl, rfl, by decide +kernel, rfl, by decide +kernel, by decide +kernel⟩
abbrev s_Part___init__ : Stmt := inClass (topS 39) 1
abbrev N_Part___init__ : List Str := ["self", "weight", "depth", "text"]
abbrev P_Part___init__ : List Str := ["self", "weight", "depth", "text"]
theorem sc_Part___init__ : FnScope N_Part___init__ P_Part___init__ (defScope s_Part___init__) := ⟨rfl, rfl, rfl, by decide +kernel, rfl, by decide +kernel, by decide +kernel⟩
theorem relv_str {x : Str} {t : Tok} : L2.RelV (.str x) (.str x t) := ⟨t, rfl⟩
theorem szl {n : Nat} (h : n ≤ 100000) : n ≤ sizeLine := Nat.le_trans h (by decide)
abbrev FnM (K : PySem.W.Frag) (x q : Str) (st : Stmt) (f : Addr) (fd : FuncData) : Prop := FunD K x q (defArgs st) (defBody st) (defScope st) [] [] f fd
theorem emS (a : List Nat) : Str.empty ++ S a = S a := S_cat [] a
theorem lg60 {m : Nat} (h : m ≤ 10 ^ 60) : ((m : Int)).natAbs.log2 < 1920 := by
  rw [Int.natAbs_natCast]
  by_cases c : m = 0
  · rw [c]
    decide
  · exact (Nat.log2_lt c).mpr (Nat.lt_of_le_of_lt h (by decide +kernel))
def isPy (t : List Nat) : Bool := decide (t.length = 1) && t.all fun c => decide (c ∈ PAR)
def isMk (t : List Nat) : Bool := decide (t.length = 1) && t.all fun c => decide (c ∈ MRK)
theorem par_eq : (Str.ofString "abcdef").cps.toList = PAR := by decide +kernel
theorem mrk_eq : (Str.ofString "ABCDEFGHIJKLMNOPQRSTUVWXYZ").cps.toList = MRK := by decide +kernel
theorem isPy_one {c : Nat} (h : c ∈ PAR) : isPy [c] = true := by
  unfold isPy
  rw [List.all_cons, decide_eq_true h]
  rfl
theorem isMk_one {c : Nat} (h : c ∈ MRK) : isMk [c] = true := by
  unfold isMk
  rw [List.all_cons, decide_eq_true h]
  rfl
section
variable {P : Program} {w : World} {K : PySem.W.Frag} {mg : Str → Option Value} {base : Heap} {f C CP CM : Addr} {fd : FuncData}
def spIsP : Sp := fun vs H Q _ => ∃ t : List Nat, vs = [.str (S t)] ∧ t.length ≤ 10000 ∧ ∀ b : Bool, b = isPy t → Q (.bl b) H
theorem ok_is_party (F : FnP K "is_party" s_is_party f fd) (m_len : mg "len" = none) (tok_PARTIES : Tok) (g_PARTIES : mg "PARTIES" = some (.str "abcdef" tok_PARTIES)) : FnOk P w K mg base CX0 1 f fd P_is_party spIsP := by
  refine F.ok sc_is_party (fun vs H Q E h => ?_) (fun cdv A outer s H vs Q E hr h => ?_)
  · obtain ⟨t, rfl, _⟩ := h
    rfl
  · obtain ⟨t, rfl, lt, q⟩ := h
    refine ⟨_, PSs.nox (pss_one (ps_ret (pe_and (pe_cmpR op_eq (pe_callB call_len_str (by rfl) m_len PySem.boot_len (pa_cons (pv 0) pa_nil)) pe_int (nomark _)) (pe_one (pe_cmpR op_in_sign (pv 0) (pe_glob (by rfl) g_PARTIES (relv_str (x := "abcdef"))) (by rfl)))))), ?_⟩
    walk_at "go"
    refine ⟨by rw [S_len]; exact szl (by omega), ?_⟩
    rw [S_len]
    refine ⟨rfl, _, rfl, ?_⟩
    by_cases c1 : t.length = 1
    · rw [decide_eq_true (show V.int (t.length : Int) = V.int 1 by rw [c1]; rfl)]
      match t, c1 with
      | [c], _ =>
        walk_at "go"
        refine q _ ?_
        rw [par_eq]
        unfold isPy
        rw [List.all_cons, List.all_nil, Bool.and_true]
        exact (Bool.true_and _).symm
    · rw [decide_eq_false (show ¬ V.int (t.length : Int) = V.int 1 from fun h => by injection h with h; omega)]
      walk_at "go"
      refine q _ ?_
      unfold isPy
      rw [decide_eq_false c1]
      rfl
def spIsM : Sp := fun vs H Q _ => ∃ t : List Nat, vs = [.str (S t)] ∧ t.length ≤ 10000 ∧ ∀ b : Bool, b = isMk t → Q (.bl b) H
theorem ok_is_mark (F : FnP K "is_mark" s_is_mark f fd) (m_len : mg "len" = none) (tok_MARKS : Tok) (g_MARKS : mg "MARKS" = some (.str "ABCDEFGHIJKLMNOPQRSTUVWXYZ" tok_MARKS)) : FnOk P w K mg base CX0 1 f fd P_is_mark spIsM := by
  refine F.ok sc_is_mark (fun vs H Q E h => ?_) (fun cdv A outer s H vs Q E hr h => ?_)
  · obtain ⟨t, rfl, _⟩ := h
    rfl
  · obtain ⟨t, rfl, lt, q⟩ := h
    refine ⟨_, PSs.nox (pss_one (ps_ret (pe_and (pe_cmpR op_eq (pe_callB call_len_str (by rfl) m_len PySem.boot_len (pa_cons (pv 0) pa_nil)) pe_int (nomark _)) (pe_one (pe_cmpR op_in_sign (pv 0) (pe_glob (by rfl) g_MARKS (relv_str (x := "ABCDEFGHIJKLMNOPQRSTUVWXYZ"))) (by rfl)))))), ?_⟩
    walk_at "go"
    refine ⟨by rw [S_len]; exact szl (by omega), ?_⟩
    rw [S_len]
    refine ⟨rfl, _, rfl, ?_⟩
    by_cases c1 : t.length = 1
    · rw [decide_eq_true (show V.int (t.length : Int) = V.int 1 by rw [c1]; rfl)]
      match t, c1 with
      | [c], _ =>
        walk_at "go"
        refine q _ ?_
        rw [mrk_eq]
        unfold isMk
        rw [List.all_cons, List.all_nil, Bool.and_true]
        exact (Bool.true_and _).symm
    · rw [decide_eq_false (show ¬ V.int (t.length : Int) = V.int 1 from fun h => by injection h with h; omega)]
      walk_at "go"
      refine q _ ?_
      unfold isMk
      rw [decide_eq_false c1]
      rfl
def spChP (CP : Addr) : Sp := fun vs H Q E => ∃ t : List Nat, vs = [.str (S t)] ∧ t.length ≤ 10000 ∧ (isPy t = true → Q .non H) ∧ (isPy t = false → ∀ d, H d = none → E (.ref CP) (some d) (upd H d (.xd [("party", .str (S t))])))
theorem ok_check_party (F : FnP K "check_party" s_check_party f fd) (c_is_party : Cal P w K mg base 1 "is_party" spIsP) (x_BadParty : Exn P w K mg base "BadParty" CP "party") : FnOk P w K mg base (L2N.CX P w) 3 f fd P_check_party (spChP CP) := by
  refine F.ok sc_check_party (fun vs H Q E h => ?_) (fun cdv A outer s H vs Q E hr h => ?_)
  · obtain ⟨t, rfl, _⟩ := h
    rfl
  · obtain ⟨t, rfl, lt, q1, q2⟩ := h
    have tk := takes_fn (P := P) (w := w) (K := K) (mg := mg) (base := base) (N := N_check_party) (qual := "check_party") (scope := defScope s_check_party) (f := f) (cd := cdv) (A := A) (outer := outer) (s := s) (H := H) (E := E)
    refine ⟨_, (pss_one (ps_if (pt_not (pt_val (pe_cl c_is_party hr (by decide) (by rfl) (pa_cons (pv 0) pa_nil)))) (pss_one (ps_exn rfl tk x_BadParty hr (by decide) (by rfl) (pa_cons (pv 0) pa_nil))) pss_nil)), ?_⟩
    walk_at "go"
    intro b hb
    subst hb
    cases c : isPy t with
    | true =>
      walk_at "go"
      exact q1 c
    | false =>
      walk_at "go"
      exact mkx_of fun d nd => (show E (.ref CP) (some d) (upd H d (.xd [("party", .str (S t))])) from q2 c d nd)
/-- (in right pacts the marks are right) -/
def spChM : Sp := fun vs H Q _ => ∃ t : List Nat, vs = [.str (S t)] ∧ t.length ≤ 10000 ∧ isMk t = true ∧ Q .non H
theorem ok_check_mark (F : FnP K "check_mark" s_check_mark f fd) (c_is_mark : Cal P w K mg base 1 "is_mark" spIsM) : FnOk P w K mg base (L2N.CX P w) 3 f fd P_check_mark spChM := by
  refine F.ok sc_check_mark (fun vs H Q E h => ?_) (fun cdv A outer s H vs Q E hr h => ?_)
  · obtain ⟨t, rfl, _⟩ := h
    rfl
  · obtain ⟨t, rfl, lt, c, q1⟩ := h
    refine ⟨_, (pss_one (ps_if (pt_not (pt_val (pe_cl c_is_mark hr (by decide) (by rfl) (pa_cons (pv 0) pa_nil)))) (pss_one ps_never) pss_nil)), ?_⟩
    walk_at "go"
    intro b hb
    subst hb
    rw [c]
    walk_at "go"
    exact q1
def spSize : Sp := fun vs H Q _ => ∃ w d : Nat, vs = [.int (w : Int), .int (d : Int)] ∧ w ≤ 400 ∧ d ≤ 30 ∧ Q .non H
theorem ok_check_size (F : FnP K "check_size" s_check_size f fd) (tok_MOST_WEIGHT : Tok) (g_MOST_WEIGHT : mg "MOST_WEIGHT" = some (.int 400 tok_MOST_WEIGHT)) (tok_MOST_DEPTH : Tok) (g_MOST_DEPTH : mg "MOST_DEPTH" = some (.int 30 tok_MOST_DEPTH)) : FnOk P w K mg base (L2N.CX P w) 3 f fd P_check_size spSize := by
  refine F.ok sc_check_size (fun vs H Q E h => ?_) (fun cdv A outer s H vs Q E hr h => ?_)
  · obtain ⟨w, d, rfl, _⟩ := h
    rfl
  · obtain ⟨w, d, rfl, h1, h2, q1⟩ := h
    refine ⟨_, (pss_one (ps_if (PW.pt (pw_or (pt_cmpR op_gt (pv 0) (pe_glob (v := .int 400) (by rfl) g_MOST_WEIGHT ⟨_, rfl⟩) (nomark _)) (pw_or1 (pt_cmpR op_gt (pv 1) (pe_glob (v := .int 30) (by rfl) g_MOST_DEPTH ⟨_, rfl⟩) (nomark _))))) (pss_one ps_never) pss_nil)), ?_⟩
    walk_at "go"
    rw [decide_eq_false (by omega : ¬ (400 : Int) < (w : Int))]
    walk_at "go"
    rw [decide_eq_false (by omega : ¬ (30 : Int) < (d : Int))]
    walk_at "go"
    exact q1
/-- the three fields that every part has -/
structure Fl3 (K : PySem.W.Frag) (C : Addr) : Prop where
  cls : Cls K C
  nw : NoAttr K C "weight"
  nd : NoAttr K C "depth"
  nt : NoAttr K C "text"
def put3 (w d : Nat) (t : Str) (fs : List (Str × V)) : List (Str × V) := putF "text" (.str t) (putF "depth" (.int (d : Int)) (putF "weight" (.int (w : Int)) fs))
def spPart (K : PySem.W.Frag) : Sp := fun vs H Q _ => ∃ (n C dx : Addr) (fs : List (Str × V)) (w d : Nat) (t : Str), vs = [.ref n, .int (w : Int), .int (d : Int), .str t] ∧ H n = some (.ins C dx fs) ∧ Fl3 K C ∧ fs.length ≤ 10 ∧ w ≤ 400 ∧ d ≤ 30 ∧ Q .non (upd H n (.ins C dx (put3 w d t fs)))
theorem put_len (x : Str) (v : V) : ∀ fs : List (Str × V), (putF x v fs).length ≤ fs.length + 1
  | [] => Nat.le_refl _
  | (g, y) :: fs => by
    unfold putF
    split
    · exact Nat.le_succ _
    · have := put_len x v fs
      rw [List.length_cons, List.length_cons]
      omega
theorem ok_part (F : FnM K "__init__" "Part.__init__" s_Part___init__ f fd) (c_check_size : CalX P w K mg base 3 "check_size" spSize) : FnOk P w K mg base (L2N.CX P w) 4 f fd P_Part___init__ (spPart K) := by
  refine F.ok sc_Part___init__ (fun vs H Q E h => ?_) (fun cdv A outer s H vs Q E hr h => ?_)
  · obtain ⟨n, C, dx, fs, w, d, t, rfl, _⟩ := h
    rfl
  · obtain ⟨n, C, dx, fs, w, d, t, rfl, hn, fl, lf, h1, h2, q⟩ := h
    refine ⟨_, (pss_cons (ps_expr (pe_clE c_check_size (fun _ => passS0) hr (by decide) (by rfl) (pa_cons (pv 1) (pa_cons (pv 2) pa_nil))))
      (pss_cons (ps_fld (pv 0) (pv 1) rfl)
      (pss_cons (ps_fld (pv 0) (pv 2) rfl)
      (pss_one (ps_fld (pv 0) (pv 3) rfl))))), ?_⟩
    have l1 := put_len "weight" (V.int (w : Int)) fs
    have l2 := put_len "depth" (V.int (d : Int)) (putF "weight" (V.int (w : Int)) fs)
    walk_at "go"
    refine ⟨n, C, dx, _, rfl, hn, fl.cls, fl.nw, by omega, ?_⟩
    walk_at "go"
    refine ⟨n, C, dx, _, rfl, upd_same, fl.cls, fl.nd, by omega, ?_⟩
    walk_at "go"
    refine ⟨n, C, dx, _, rfl, upd_same, fl.cls, fl.nt, by omega, ?_⟩
    rw [upd_upd, upd_upd]
    exact q
end
abbrev s_Transfer___init__ : Stmt := inClass (topS 40) 1
abbrev N_Transfer___init__ : List Str := ["self", "payer", "payee", "amount", "__class__"]
abbrev P_Transfer___init__ : List Str := ["self", "payer", "payee", "amount"]
theorem sc_Transfer___init__ : NdefX.NScope N_Transfer___init__ P_Transfer___init__ [("__class__" : Str)] (defScope s_Transfer___init__) := NdefX.nscope_by (by decide +kernel)
abbrev s_Event___init__ : Stmt := inClass (topS 41) 1
abbrev N_Event___init__ : List Str := ["self", "mark", "__class__"]
abbrev P_Event___init__ : List Str := ["self", "mark"]
theorem sc_Event___init__ : NdefX.NScope N_Event___init__ P_Event___init__ [("__class__" : Str)] (defScope s_Event___init__) := NdefX.nscope_by (by decide +kernel)
section
variable {P : Program} {w : World} {K : PySem.W.Frag} {mg : Str → Option Value} {base : Heap} {f c cc g CP CM : Addr} {k : Cs} {fd : FuncData}
abbrev FnB (P : Program) (w : World) (K : PySem.W.Frag) (mg : Str → Option Value) (base : Heap) (g : Addr) : Prop := FnR P w K mg base (L2N.CX P w) 4 g (spPart K)
/-- what the class of the part x says: its __init__ ends with super().__init__(..) -/
structure SupI (P : Program) (K : PySem.W.Frag) (C f g : Addr) (q : Str) (st : Stmt) (fd : FuncData) : Prop where
  ex : ∃ (c cc : Addr) (dV kV doc pm ct : Value) (an : Option Addr), fd = PySem.W.fnX "__init__" q (defArgs st) (defBody st) (defScope st) [(("__class__" : Str), cc)] dV kV doc pm an (.ref c) ct ∧ SupP P K C f c cc g fd ∧ PySem.W.codeIn K (.ref c) q = true
def tF (p q m : Nat) : List (Str × V) := ("payer", .str (S [p])) :: ("payee", .str (S [q])) :: ("amount", .int (m : Int)) :: tlP (.tr p q m)
def spTI (C : Addr) : Sp := fun vs H Q _ => ∃ (n dx : Addr) (p q m : Nat), vs = [.ref n, .str (S [p]), .str (S [q]), .int (m : Int)] ∧ H n = some (.ins C dx []) ∧ Ok (.tr p q m) ∧ Q .non (upd H n (.ins C dx (tF p q m)))
theorem ok_tinit {C : Addr} (SI : SupI P K C f g "Transfer.__init__" s_Transfer___init__ fd) (FB : FnB P w K mg base g) (m_super : mg "super" = none) (fl : Fl3 K C) (n1 : NoAttr K C "payer") (n2 : NoAttr K C "payee") (n3 : NoAttr K C "amount") (tok_MOST_AMOUNT : Tok) (g_MOST_AMOUNT : mg "MOST_AMOUNT" = some (.int (10 ^ 60) tok_MOST_AMOUNT)) (c_check_party : CalX P w K mg base 3 "check_party" (spChP CP)) : FnOk P w K mg base (L2N.CX P w) 5 f fd P_Transfer___init__ (spTI C) := by
  obtain ⟨c, cc, dV, kV, doc, pm, ct, an, hfd, SS, hcd⟩ := SI.ex
  refine sup_last (F := ⟨"__init__", "Transfer.__init__", defArgs s_Transfer___init__, defBody s_Transfer___init__, defScope s_Transfer___init__, [(("__class__" : Str), cc)], c⟩) (N := N_Transfer___init__) (pre := (defBody s_Transfer___init__).dropLast) (j := 4) (k := 4) hfd SS hcd sc_Transfer___init__ rfl rfl (show (defScope s_Transfer___init__).names.lookup ("super" : Str) = some .globalImplicit by decide +kernel) m_super rfl (show (defScope s_Transfer___init__).names.lookup ("self" : Str) = some .local by decide +kernel) rfl FB (Nat.le_refl _) (fun vs H Q E h => ?_) (fun _ _ _ _ _ => rfl) (fun _ _ _ _ _ => rfl) (fun _ _ _ _ _ => rfl) (fun _ _ _ _ _ => rfl) (fun _ _ _ _ _ => rfl) (fun A outer s H vs Q E hr h => ?_)
  · obtain ⟨n, dx, p, q, m, rfl, _⟩ := h
    rfl
  · obtain ⟨n, dx, p, q, m, rfl, hn, ok, qq⟩ := h
    rw [Ok] at ok
    obtain ⟨hp, hq, pq, hm⟩ := ok
    refine ⟨_, _, (pss_cons (ps_expr (pe_clE c_check_party (fun _ => passS0) hr (by decide) (by rfl) (pa_cons (pv 1) pa_nil)))
      (pss_cons (ps_expr (pe_clE c_check_party (fun _ => passS0) hr (by decide) (by rfl) (pa_cons (pv 2) pa_nil)))
      (pss_cons (ps_if (pt_cmpR op_eq (pv 2) (pv 1) (nomark _)) (pss_one ps_never) pss_nil)
      (pss_cons (ps_if (PW.pt (pw_or (pt_cmpR op_lt (pv 3) pe_int (nomark _)) (pw_or1 (pt_cmpR op_gt (pv 3) (pe_glob (v := .int 1000000000000000000000000000000000000000000000000000000000000) (by rfl) g_MOST_AMOUNT ⟨_, rfl⟩) (nomark _))))) (pss_one ps_never) pss_nil)
      (pss_cons (ps_fld (pv 0) (pv 1) rfl)
      (pss_cons (ps_fld (pv 0) (pv 2) rfl)
      (pss_one (ps_fld (pv 0) (pv 3) rfl)))))))), (pa_cons pe_int (pa_cons pe_int (pa_cons (pe_joined (.cons (pe_fmt (pv 1)) (.cons (pe_fmt (pv 2)) (.cons (pe_fmt (pv 3)) .nil)))) pa_nil))), ?_⟩
    walk_at "go"
    refine ⟨(show 1 ≤ 10000 by decide), fun _ => ?_, fun z => by rw [isPy_one hp] at z; cases z⟩
    walk_at "go"
    refine ⟨(show 1 ≤ 10000 by decide), fun _ => ?_, fun z => by rw [isPy_one hq] at z; cases z⟩
    walk_at "go"
    rw [decide_eq_false (show ¬ V.str (S [q]) = V.str (S [p]) from fun z => by
      injection z with z
      have := S_inj z
      injection this with this
      exact pq this.symm)]
    walk_at "go"
    refine ite2 (fun e => by have := of_decide_eq_true e; omega) (fun _ => ?_)
    walk_at "go"
    refine ⟨n, C, dx, _, rfl, hn, fl.cls, n1, (show 0 < 1000 by decide), ?_⟩
    walk_at "go"
    refine ⟨n, C, dx, _, rfl, upd_same, fl.cls, n2, (show 1 < 1000 by decide), ?_⟩
    walk_at "go"
    refine ⟨n, C, dx, _, rfl, upd_same, fl.cls, n3, (show 2 < 1000 by decide), ?_⟩
    refine ⟨n, dx, _, rfl, upd_same, ?_⟩
    walk_at "go"
    refine ⟨by rw [S_len]; exact szl (show 1 ≤ 100000 by decide), S [p], rfl, by rw [emS, S_len]; exact szl (show 1 ≤ 100000 by decide), ?_⟩
    rw [emS]
    walk_at "go"
    refine ⟨by rw [S_len]; exact szl (show 1 ≤ 100000 by decide), S [q], rfl, by rw [S_cat, S_len]; exact szl (show 2 ≤ 100000 by decide), ?_⟩
    rw [S_cat]
    have ld := dig_len hm
    refine ⟨_, rfl, .inr ⟨(m : Int), rfl, lg60 hm, ?_⟩⟩
    rw [str_dig]
    refine ⟨S (dig m), rfl, by rw [S_cat, S_len]; exact szl (by rw [List.length_append]; show 2 + (dig m).length ≤ 100000; omega), ?_⟩
    rw [S_cat]
    refine ⟨n, C, dx, _, 1, 1, S (tx (.tr p q m)), by rw [tx]; rfl, upd_same, fl, (show 3 ≤ 10 by decide), by decide, by decide, ?_⟩
    rw [upd_upd, upd_upd, upd_upd]
    have e : tF p q m = put3 1 1 (S (tx (.tr p q m))) (putF "amount" (V.int (m : Int)) (putF "payee" (V.str (S [q])) (putF "payer" (V.str (S [p])) []))) := by
      unfold tF tlP
      rw [wt, dp]
      rfl
    rw [← e]
    exact qq
end
end Z
set_option pp.maxSteps 700
set_option Elab.async false
set_option linter.all false
set_option maxRecDepth 100000
set_option maxHeartbeats 4000000
open SX (S S_inj S_len S_cat)
namespace Z
open Pk NdefX
open PySem PySem.Spec PyProof.Rows L2
open C8 (pss_cut tCut)
local macro_rules | `(tactic| walk_at "num") => `(tactic| first | rfl | omega | decide | exact Nat.le_of_lt (small1000 (by simp)) | exact ⟨by omega, by omega⟩ | exact ⟨by omega, by omega, by omega⟩ | exact ⟨by decide, by decide, by decide⟩ | exact Or.inl ⟨by omega, by omega⟩ | exact Or.inr ⟨by omega, by omega⟩)
local macro_rules | `(tactic| walk_at "go") => `(tactic| repeat (first | refine ⟨_, rfl, ?_⟩ | refine ⟨_, _, rfl, rfl, ?_⟩ | refine ⟨_, _, rfl, ?_⟩ | (refine ⟨_, _, rfl, rfl, ?_, ?_⟩; focus walk_at "num") | refine Or.inl ⟨_, rfl, ?_⟩ | refine ⟨_, _, _, _, rfl, rfl, (by assumption), (by rfl), ?_⟩ | refine ⟨_, _, _, _, _, rfl, (by assumption), (by assumption), (by assumption), (by rfl), ?_⟩ | refine ⟨rfl, ?_⟩ | (refine And.intro ?_ ?_; focus walk_at "num")))
abbrev s_as_pact : Stmt := topS 47
abbrev N_as_pact : List Str := ["value"]
abbrev P_as_pact : List Str := ["value"]
theorem sc_as_pact : FnScope N_as_pact P_as_pact (defScope s_as_pact) := ⟨rfl, rfl, rfl, by decide +kernel, rfl, by decide +kernel, by decide +kernel⟩
abbrev s_Rounds___init__ : Stmt := inClass (topS 43) 1
abbrev N_Rounds___init__ : List Str := ["self", "owner", "body", "__class__"]
abbrev P_Rounds___init__ : List Str := ["self", "owner", "body"]
theorem sc_Rounds___init__ : NdefX.NScope N_Rounds___init__ P_Rounds___init__ [("__class__" : Str)] (defScope s_Rounds___init__) := NdefX.nscope_by (by decide +kernel)
abbrev s_Endless___init__ : Stmt := inClass (topS 44) 1
abbrev N_Endless___init__ : List Str := ["self", "body", "__class__"]
abbrev P_Endless___init__ : List Str := ["self", "body"]
theorem sc_Endless___init__ : NdefX.NScope N_Endless___init__ P_Endless___init__ [("__class__" : Str)] (defScope s_Endless___init__) := NdefX.nscope_by (by decide +kernel)
abbrev s_Times___init__ : Stmt := inClass (topS 45) 1
abbrev N_Times___init__ : List Str := ["self", "count", "body", "__class__"]
abbrev P_Times___init__ : List Str := ["self", "count", "body"]
theorem sc_Times___init__ : NdefX.NScope N_Times___init__ P_Times___init__ [("__class__" : Str)] (defScope s_Times___init__) := NdefX.nscope_by (by decide +kernel)
section
variable {P : Program} {w : World} {K : PySem.W.Frag} {mg : Str → Option Value} {base : Heap} {f C g CP : Addr} {k : Cs} {fd : FuncData}
def eF (c : Nat) : List (Str × V) := ("mark", .str (S [c])) :: tlP (.ev c)
def spEI (C : Addr) : Sp := fun vs H Q _ => ∃ (n dx : Addr) (c : Nat), vs = [.ref n, .str (S [c])] ∧ H n = some (.ins C dx []) ∧ Ok (.ev c) ∧ Q .non (upd H n (.ins C dx (eF c)))
theorem ok_einit (SI : SupI P K C f g "Event.__init__" s_Event___init__ fd) (FB : FnB P w K mg base g) (m_super : mg "super" = none) (fl : Fl3 K C) (n1 : NoAttr K C "mark") (c_check_mark : CalX P w K mg base 3 "check_mark" spChM) : FnOk P w K mg base (L2N.CX P w) 5 f fd P_Event___init__ (spEI C) := by
  obtain ⟨c, cc, dV, kV, doc, pm, ct, an, hfd, SS, hcd⟩ := SI.ex
  refine sup_last (F := ⟨"__init__", "Event.__init__", defArgs s_Event___init__, defBody s_Event___init__, defScope s_Event___init__, [(("__class__" : Str), cc)], c⟩) (N := N_Event___init__) (pre := (defBody s_Event___init__).dropLast) (j := 4) (k := 4) hfd SS hcd sc_Event___init__ rfl rfl (show (defScope s_Event___init__).names.lookup ("super" : Str) = some .globalImplicit by decide +kernel) m_super rfl (show (defScope s_Event___init__).names.lookup ("self" : Str) = some .local by decide +kernel) rfl FB (Nat.le_refl _) (fun vs H Q E h => ?_) (fun _ _ _ _ _ => rfl) (fun _ _ _ _ _ => rfl) (fun _ _ _ _ _ => rfl) (fun _ _ _ _ _ => rfl) (fun _ _ _ _ _ => rfl) (fun A outer s H vs Q E hr h => ?_)
  · obtain ⟨n, dx, c, rfl, _⟩ := h
    rfl
  · obtain ⟨n, dx, c, rfl, hn, ok, qq⟩ := h
    rw [Ok] at ok
    refine ⟨_, _, (pss_cons (ps_expr (pe_clE c_check_mark (fun _ => passS0) hr (by decide) (by rfl) (pa_cons (pv 1) pa_nil)))
      (pss_one (ps_fld (pv 0) (pv 1) rfl))), (pa_cons pe_int (pa_cons pe_int (pa_cons (pv 1) pa_nil))), ?_⟩
    walk_at "go"
    refine ⟨(show 1 ≤ 10000 by decide), isMk_one ok, ?_⟩
    walk_at "go"
    refine ⟨n, C, dx, _, rfl, hn, fl.cls, n1, (show 0 < 1000 by decide), ?_⟩
    refine ⟨n, dx, _, rfl, upd_same, ?_⟩
    walk_at "go"
    refine ⟨n, C, dx, _, 1, 1, S (tx (.ev c)), by rw [tx]; rfl, upd_same, fl, (show 1 ≤ 10 by decide), by decide, by decide, ?_⟩
    rw [upd_upd]
    have e : eF c = put3 1 1 (S (tx (.ev c))) (putF "mark" (V.str (S [c])) []) := by
      unfold eF tlP
      rw [wt, dp]
      rfl
    rw [← e]
    exact qq
/-- the facts of the class Pact -/
structure PaK (K : PySem.W.Frag) (C : Addr) : Prop where
  is : C8.InsC K C
  fl : Fl3 K C
  np : NoAttr K C "parts"
def spAsP (k : Cs) (K : PySem.W.Frag) : Sp := fun vs H Q _ => ∃ (x : Addr) (b : List Pt), vs = [.ref x] ∧ PaAt k K H b x ∧ Q (.ref x) H
theorem ok_as_pact (F : FnP K "as_pact" s_as_pact f fd) (m_isinstance : mg "isinstance" = none) (pk : PaK K k.P) (g_Pact : mg "Pact" = some (.ref k.P)) : FnOk P w K mg base (L2N.CX P w) 1 f fd P_as_pact (spAsP k K) := by
  refine F.ok sc_as_pact (fun vs H Q E h => ?_) (fun cdv A outer s H vs Q E hr h => ?_)
  · obtain ⟨x, b, rfl, _⟩ := h
    rfl
  · obtain ⟨x, b, rfl, ⟨dy, t, as, hx, _⟩, q⟩ := h
    have isP := pk.is
    refine ⟨_, (pss_cons (ps_if (pt_not (pt_val (pe_callB (C8.call_isC isP) (by rfl) m_isinstance (by decide +kernel) (pa_cons (pv 0) (pa_cons (pe_glob (by rfl) g_Pact relv_ref) pa_nil))))) (pss_one ps_never) pss_nil)
      (pss_one (ps_ret (pv 0)))), ?_⟩
    walk_at "go"
    refine ⟨x, dy, _, rfl, hx, ?_⟩
    walk_at "go"
    exact q
theorem put_at {fs : List (Str × V)} {C dx : Addr} {n : Addr} {H : Hp} (e : H n = some (.ins C dx fs)) : (upd H n (.ins C dx fs)) n = some (.ins C dx fs) := upd_same
def rF (o : Nat) (b : List Pt) (x : Addr) : List (Str × V) := ("owner", .str (S [o])) :: ("body", .ref x) :: tlP (.rd o b)
def spRI (C : Addr) (k : Cs) (K : PySem.W.Frag) : Sp := fun vs H Q _ => ∃ (n dx x : Addr) (o : Nat) (b : List Pt), vs = [.ref n, .str (S [o]), .ref x] ∧ H n = some (.ins C dx []) ∧ Ok (.rd o b) ∧ PaAt k K H b x ∧ wt (.rd o b) ≤ 400 ∧ dp (.rd o b) ≤ 30 ∧ Q .non (upd H n (.ins C dx (rF o b x)))
theorem ok_rinit (SI : SupI P K C f g "Rounds.__init__" s_Rounds___init__ fd) (FB : FnB P w K mg base g) (m_super : mg "super" = none) (fl : Fl3 K C) (n1 : NoAttr K C "owner") (n2 : NoAttr K C "body") (pk : PaK K k.P) (c_check_party : CalX P w K mg base 3 "check_party" (spChP CP)) (c_as_pact : CalX P w K mg base 1 "as_pact" (spAsP k K)) : FnOk P w K mg base (L2N.CX P w) 5 f fd P_Rounds___init__ (spRI C k K) := by
  obtain ⟨c, cc, dV, kV, doc, pm, ct, an, hfd, SS, hcd⟩ := SI.ex
  refine sup_last (F := ⟨"__init__", "Rounds.__init__", defArgs s_Rounds___init__, defBody s_Rounds___init__, defScope s_Rounds___init__, [(("__class__" : Str), cc)], c⟩) (N := N_Rounds___init__) (pre := (defBody s_Rounds___init__).dropLast) (j := 4) (k := 4) hfd SS hcd sc_Rounds___init__ rfl rfl (show (defScope s_Rounds___init__).names.lookup ("super" : Str) = some .globalImplicit by decide +kernel) m_super rfl (show (defScope s_Rounds___init__).names.lookup ("self" : Str) = some .local by decide +kernel) rfl FB (Nat.le_refl _) (fun vs H Q E h => ?_) (fun _ _ _ _ _ => rfl) (fun _ _ _ _ _ => rfl) (fun _ _ _ _ _ => rfl) (fun _ _ _ _ _ => rfl) (fun _ _ _ _ _ => rfl) (fun A outer s H vs Q E hr h => ?_)
  · obtain ⟨n, dx, x, o, b, rfl, _⟩ := h
    rfl
  · obtain ⟨n, dx, x, o, b, rfl, hn, ok, hb, hw, hd, qq⟩ := h
    rw [Ok] at ok
    obtain ⟨ho, okb⟩ := ok
    have lb := txB_len b okb
    have lS : (S (txB b)).length = (txB b).length := S_len _
    obtain ⟨dy, t, as, hx, ht, hps⟩ := id hb
    have xn : x ≠ n := fun e => by rw [e, hn] at hx; cases hx
    rw [wt] at hw
    rw [dp] at hd
    refine ⟨_, _, (pss_cons (ps_expr (pe_clE c_check_party (fun _ => passS0) hr (by decide) (by rfl) (pa_cons (pv 1) pa_nil)))
      (pss_cons (ps_fld (pv 0) (pv 1) rfl)
      (pss_one (ps_fld (pv 0) (pe_clE c_as_pact (fun _ => passS0) hr (by decide) (by rfl) (pa_cons (pv 2) pa_nil)) rfl)))), (pa_cons (pe_op op_add (pe_fld (pv 2) rfl) pe_int) (pa_cons (pe_op op_add (pe_fld (pv 2) rfl) pe_int) (pa_cons (pe_joined (.cons (pe_fmt (pv 1)) (.cons pe_str (.cons (pe_fmt (pe_fld (pv 2) rfl)) (.cons pe_str .nil))))) pa_nil))), ?_⟩
    walk_at "go"
    refine ⟨(show 1 ≤ 10000 by decide), fun _ => ?_, fun z => by rw [isPy_one ho] at z; cases z⟩
    walk_at "go"
    refine ⟨n, C, dx, _, rfl, hn, fl.cls, n1, (show 0 < 1000 by decide), ?_⟩
    walk_at "go"
    have sb : SB n H (upd H n (.ins C dx (putF "owner" (V.str (S [o])) []))) := SB.upd (Z.Same.sb (Same.refl _))
    refine ⟨x, b, rfl, hb.sbN sb hn, ?_⟩
    walk_at "go"
    refine ⟨n, C, dx, _, rfl, upd_same, fl.cls, n2, (show 1 < 1000 by decide), ?_⟩
    rw [upd_upd]
    have hx2 : (upd H n (.ins C dx (putF "body" (V.ref x) (putF "owner" (V.str (S [o])) [])))) x = some (.ins k.P dy (pfl t b)) := by rw [upd_ne xn]; exact hx
    refine ⟨n, dx, _, rfl, upd_same, ?_⟩
    walk_at "go"
    refine ⟨x, k.P, dy, _, _, rfl, hx2, pk.fl.cls, pk.fl.nw, rfl, ?_⟩
    walk_at "go"
    refine ⟨x, k.P, dy, _, _, rfl, hx2, pk.fl.cls, pk.fl.nd, rfl, ?_⟩
    walk_at "go"
    refine ⟨by rw [S_len]; exact szl (show 1 ≤ 100000 by decide), S [o], rfl, by rw [emS, S_len]; exact szl (show 1 ≤ 100000 by decide), ?_⟩
    rw [emS]
    refine ⟨S [91], rfl, by rw [S_cat, S_len]; exact szl (by simp only [List.length_append, List.length_cons, List.length_nil]; omega), ?_⟩
    rw [S_cat]
    refine ⟨_, rfl, ?_⟩
    refine ⟨x, k.P, dy, _, _, rfl, hx2, pk.fl.cls, pk.fl.nt, rfl, ?_⟩
    refine .inl ⟨S (txB b), rfl, by rw [S_len]; exact szl (by omega), S (txB b), rfl, by rw [S_cat, S_len]; exact szl (by simp only [List.length_append, List.length_cons, List.length_nil]; omega), ?_⟩
    rw [S_cat]
    refine ⟨S [93], rfl, by rw [S_cat, S_len]; exact szl (by simp only [List.length_append, List.length_cons, List.length_nil]; omega), ?_⟩
    rw [S_cat]
    refine ⟨n, C, dx, _, wtL b + 1, dpL b + 1, S (tx (.rd o b)), by rw [tx]; rfl, upd_same, fl, (show 2 ≤ 10 by decide), hw, hd, ?_⟩
    rw [upd_upd]
    have e : rF o b x = put3 (wtL b + 1) (dpL b + 1) (S (tx (.rd o b))) (putF "body" (V.ref x) (putF "owner" (V.str (S [o])) [])) := by
      unfold rF tlP
      rw [wt, dp]
      rfl
    rw [← e]
    exact qq
def nF (b : List Pt) (x : Addr) : List (Str × V) := ("body", .ref x) :: tlP (.en b)
def spNI (C : Addr) (k : Cs) (K : PySem.W.Frag) : Sp := fun vs H Q _ => ∃ (n dx x : Addr) (b : List Pt), vs = [.ref n, .ref x] ∧ H n = some (.ins C dx []) ∧ Ok (.en b) ∧ PaAt k K H b x ∧ wt (.en b) ≤ 400 ∧ dp (.en b) ≤ 30 ∧ Q .non (upd H n (.ins C dx (nF b x)))
theorem ok_ninit (SI : SupI P K C f g "Endless.__init__" s_Endless___init__ fd) (FB : FnB P w K mg base g) (m_super : mg "super" = none) (fl : Fl3 K C) (n2 : NoAttr K C "body") (pk : PaK K k.P) (c_as_pact : CalX P w K mg base 1 "as_pact" (spAsP k K)) : FnOk P w K mg base (L2N.CX P w) 5 f fd P_Endless___init__ (spNI C k K) := by
  obtain ⟨c, cc, dV, kV, doc, pm, ct, an, hfd, SS, hcd⟩ := SI.ex
  refine sup_last (F := ⟨"__init__", "Endless.__init__", defArgs s_Endless___init__, defBody s_Endless___init__, defScope s_Endless___init__, [(("__class__" : Str), cc)], c⟩) (N := N_Endless___init__) (pre := (defBody s_Endless___init__).dropLast) (j := 4) (k := 4) hfd SS hcd sc_Endless___init__ rfl rfl (show (defScope s_Endless___init__).names.lookup ("super" : Str) = some .globalImplicit by decide +kernel) m_super rfl (show (defScope s_Endless___init__).names.lookup ("self" : Str) = some .local by decide +kernel) rfl FB (Nat.le_refl _) (fun vs H Q E h => ?_) (fun _ _ _ _ _ => rfl) (fun _ _ _ _ _ => rfl) (fun _ _ _ _ _ => rfl) (fun _ _ _ _ _ => rfl) (fun _ _ _ _ _ => rfl) (fun A outer s H vs Q E hr h => ?_)
  · obtain ⟨n, dx, x, b, rfl, _⟩ := h
    rfl
  · obtain ⟨n, dx, x, b, rfl, hn, ok, hb, hw, hd, qq⟩ := h
    rw [Ok] at ok
    have lb := txB_len b ok
    have lS : (S (txB b)).length = (txB b).length := S_len _
    obtain ⟨dy, t, as, hx, ht, hps⟩ := id hb
    have xn : x ≠ n := fun e => by rw [e, hn] at hx; cases hx
    rw [wt] at hw
    rw [dp] at hd
    refine ⟨_, _, (pss_one (ps_fld (pv 0) (pe_clE c_as_pact (fun _ => passS0) hr (by decide) (by rfl) (pa_cons (pv 1) pa_nil)) rfl)), (pa_cons (pe_op op_add (pe_fld (pv 1) rfl) pe_int) (pa_cons (pe_op op_add (pe_fld (pv 1) rfl) pe_int) (pa_cons (pe_joined (.cons pe_str (.cons (pe_fmt (pe_fld (pv 1) rfl)) (.cons pe_str .nil)))) pa_nil))), ?_⟩
    walk_at "go"
    refine ⟨x, b, rfl, hb, ?_⟩
    walk_at "go"
    refine ⟨n, C, dx, _, rfl, hn, fl.cls, n2, (show 0 < 1000 by decide), ?_⟩
    have hx2 : (upd H n (.ins C dx (putF "body" (V.ref x) []))) x = some (.ins k.P dy (pfl t b)) := by rw [upd_ne xn]; exact hx
    refine ⟨n, dx, _, rfl, upd_same, ?_⟩
    walk_at "go"
    refine ⟨x, k.P, dy, _, _, rfl, hx2, pk.fl.cls, pk.fl.nw, rfl, ?_⟩
    walk_at "go"
    refine ⟨x, k.P, dy, _, _, rfl, hx2, pk.fl.cls, pk.fl.nd, rfl, ?_⟩
    walk_at "go"
    rw [show Str.empty ++ Str.ofString "[" = S [91] by decide +kernel]
    refine ⟨x, k.P, dy, _, _, rfl, hx2, pk.fl.cls, pk.fl.nt, rfl, ?_⟩
    refine .inl ⟨S (txB b), rfl, by rw [S_len]; exact szl (by omega), S (txB b), rfl, by rw [S_cat, S_len]; exact szl (by simp only [List.length_append, List.length_cons, List.length_nil]; omega), ?_⟩
    rw [S_cat]
    refine ⟨S [93], rfl, by rw [S_cat, S_len]; exact szl (by simp only [List.length_append, List.length_cons, List.length_nil]; omega), ?_⟩
    rw [S_cat]
    refine ⟨n, C, dx, _, wtL b + 1, dpL b + 1, S (tx (.en b)), by rw [tx]; rfl, upd_same, fl, (show 1 ≤ 10 by decide), hw, hd, ?_⟩
    rw [upd_upd]
    have e : nF b x = put3 (wtL b + 1) (dpL b + 1) (S (tx (.en b))) (putF "body" (V.ref x) []) := by
      unfold nF tlP
      rw [wt, dp]
      rfl
    rw [← e]
    exact qq
def mF (c : Nat) (b : List Pt) (x : Addr) : List (Str × V) := ("count", .int (c : Int)) :: ("body", .ref x) :: tlP (.ti c b)
def spMI (C : Addr) (k : Cs) (K : PySem.W.Frag) : Sp := fun vs H Q _ => ∃ (n dx x : Addr) (c : Nat) (b : List Pt), vs = [.ref n, .int (c : Int), .ref x] ∧ H n = some (.ins C dx []) ∧ Ok (.ti c b) ∧ PaAt k K H b x ∧ wt (.ti c b) ≤ 400 ∧ dp (.ti c b) ≤ 30 ∧ Q .non (upd H n (.ins C dx (mF c b x)))
theorem ok_timesinit (SI : SupI P K C f g "Times.__init__" s_Times___init__ fd) (FB : FnB P w K mg base g) (m_super : mg "super" = none) (m_max : mg "max" = none) (tok_MOST_COUNT : Tok) (g_MOST_COUNT : mg "MOST_COUNT" = some (.int 100 tok_MOST_COUNT)) (fl : Fl3 K C) (n1 : NoAttr K C "count") (n2 : NoAttr K C "body") (pk : PaK K k.P) (c_as_pact : CalX P w K mg base 1 "as_pact" (spAsP k K)) : FnOk P w K mg base (L2N.CX P w) 5 f fd P_Times___init__ (spMI C k K) := by
  obtain ⟨c, cc, dV, kV, doc, pm, ct, an, hfd, SS, hcd⟩ := SI.ex
  refine sup_last (F := ⟨"__init__", "Times.__init__", defArgs s_Times___init__, defBody s_Times___init__, defScope s_Times___init__, [(("__class__" : Str), cc)], c⟩) (N := N_Times___init__) (pre := (defBody s_Times___init__).dropLast) (j := 4) (k := 4) hfd SS hcd sc_Times___init__ rfl rfl (show (defScope s_Times___init__).names.lookup ("super" : Str) = some .globalImplicit by decide +kernel) m_super rfl (show (defScope s_Times___init__).names.lookup ("self" : Str) = some .local by decide +kernel) rfl FB (Nat.le_refl _) (fun vs H Q E h => ?_) (fun _ _ _ _ _ => rfl) (fun _ _ _ _ _ => rfl) (fun _ _ _ _ _ => rfl) (fun _ _ _ _ _ => rfl) (fun _ _ _ _ _ => rfl) (fun A outer s H vs Q E hr h => ?_)
  · obtain ⟨n, dx, x, o, b, rfl, _⟩ := h
    rfl
  · obtain ⟨n, dx, x, o, b, rfl, hn, ok, hb, hw, hd, qq⟩ := h
    rw [Ok] at ok
    obtain ⟨ho, okb⟩ := ok
    have lb := txB_len b okb
    have lS : (S (txB b)).length = (txB b).length := S_len _
    have ld := dig_len3 ho
    obtain ⟨dy, t, as, hx, ht, hps⟩ := id hb
    have xn : x ≠ n := fun e => by rw [e, hn] at hx; cases hx
    rw [wt] at hw
    rw [dp] at hd
    have lg : ((o : Int)).natAbs.log2 < 1920 := lg60 (Nat.le_trans ho (by decide +kernel))
    refine ⟨_, _, (pss_cons (ps_if (pt_not (pt_chain op_le op_le pe_int (pv 1) (pe_glob (v := .int 100) (by rfl) g_MOST_COUNT ⟨_, rfl⟩))) (pss_one ps_never) pss_nil)
      (pss_cons (ps_fld (pv 0) (pv 1) rfl)
      (pss_one (ps_fld (pv 0) (pe_clE c_as_pact (fun _ => passS0) hr (by decide) (by rfl) (pa_cons (pv 2) pa_nil)) rfl)))), (pa_cons (pe_op op_add (pe_op op_mul (pe_fld (pv 2) rfl) (pe_callB (call_max2 rfl) (by rfl) m_max (by decide +kernel) (pa_cons pe_int (pa_cons (pv 1) pa_nil)))) pe_int) (pa_cons (pe_op op_add (pe_fld (pv 2) rfl) pe_int) (pa_cons (pe_joined (.cons (pe_fmt (pv 1)) (.cons pe_str (.cons (pe_fmt (pe_fld (pv 2) rfl)) (.cons pe_str .nil))))) pa_nil))), ?_⟩
    walk_at "go"
    rw [decide_eq_true (show (o : Int) ≤ 100 by omega)]
    walk_at "go"
    refine ⟨n, C, dx, _, rfl, hn, fl.cls, n1, (show 0 < 1000 by decide), ?_⟩
    walk_at "go"
    have sb : SB n H (upd H n (.ins C dx (putF "count" (V.int (o : Int)) []))) := SB.upd (Z.Same.sb (Same.refl _))
    refine ⟨x, b, rfl, hb.sbN sb hn, ?_⟩
    walk_at "go"
    refine ⟨n, C, dx, _, rfl, upd_same, fl.cls, n2, (show 1 < 1000 by decide), ?_⟩
    rw [upd_upd]
    have hx2 : (upd H n (.ins C dx (putF "body" (V.ref x) (putF "count" (V.int (o : Int)) [])))) x = some (.ins k.P dy (pfl t b)) := by rw [upd_ne xn]; exact hx
    refine ⟨n, dx, _, rfl, upd_same, ?_⟩
    walk_at "go"
    refine ⟨x, k.P, dy, _, _, rfl, hx2, pk.fl.cls, pk.fl.nw, rfl, ?_⟩
    obtain ⟨z, hz⟩ : ∃ z : Nat, z = if o < 1 then 1 else o := ⟨_, rfl⟩
    have hz2 : (if (o : Int) > 1 then (o : Int) else 1) = (z : Int) := by
      rw [hz]
      by_cases c : o < 1
      · rw [if_pos c, if_neg (by omega)]
        rfl
      · rw [if_neg c]
        by_cases c2 : (o : Int) > 1
        · rw [if_pos c2]
        · rw [if_neg c2]
          omega
    have z1 : 1 ≤ z := by rw [hz]; split <;> omega
    have wb : wtL b ≤ wtL b * z := Nat.le_mul_of_pos_right _ z1
    rw [← hz] at hw
    walk_at "go"
    rw [hz2]
    refine ⟨x, k.P, dy, _, _, rfl, hx2, pk.fl.cls, pk.fl.nd, rfl, ?_⟩
    walk_at "go"
    refine .inr ⟨_, rfl, lg, ?_⟩
    rw [str_dig, ]
    refine ⟨_, rfl, by rw [emS, S_len]; exact szl (by omega), ?_⟩
    rw [emS]
    refine ⟨S [40], rfl, by rw [S_cat, S_len]; exact szl (by simp only [List.length_append, List.length_cons, List.length_nil]; omega), ?_⟩
    rw [S_cat]
    refine ⟨_, rfl, ?_⟩
    refine ⟨x, k.P, dy, _, _, rfl, hx2, pk.fl.cls, pk.fl.nt, rfl, ?_⟩
    refine .inl ⟨S (txB b), rfl, by rw [S_len]; exact szl (by omega), S (txB b), rfl, by rw [S_cat, S_len]; exact szl (by simp only [List.length_append, List.length_cons, List.length_nil]; omega), ?_⟩
    rw [S_cat]
    refine ⟨S [41], rfl, by rw [S_cat, S_len]; exact szl (by simp only [List.length_append, List.length_cons, List.length_nil]; omega), ?_⟩
    rw [S_cat]
    refine ⟨n, C, dx, _, wtL b * z + 1, dpL b + 1, S (tx (.ti o b)), by rw [tx]; rfl, upd_same, fl, (show 2 ≤ 10 by decide), hw, hd, ?_⟩
    rw [upd_upd]
    have e : mF o b x = put3 (wtL b * z + 1) (dpL b + 1) (S (tx (.ti o b))) (putF "body" (V.ref x) (putF "count" (V.int (o : Int)) [])) := by
      unfold mF tlP
      rw [wt, dp, ← hz]
      rfl
    rw [← e]
    exact qq
end
end Z
set_option pp.maxSteps 700
set_option Elab.async false
set_option linter.all false
set_option maxRecDepth 100000
set_option maxHeartbeats 4000000
open SX (S S_inj S_len S_cat)
namespace Z
open Pk NdefX
open PySem PySem.Spec PyProof.Rows L2
open C8 (pss_cut tCut)
local macro_rules | `(tactic| walk_at "num") => `(tactic| first | rfl | omega | decide | exact Nat.le_of_lt (small1000 (by simp)) | exact ⟨by omega, by omega⟩ | exact ⟨by omega, by omega, by omega⟩ | exact ⟨by decide, by decide, by decide⟩ | exact Or.inl ⟨by omega, by omega⟩ | exact Or.inr ⟨by omega, by omega⟩)
local macro_rules | `(tactic| walk_at "go") => `(tactic| repeat (first | refine ⟨_, rfl, ?_⟩ | refine ⟨_, _, rfl, rfl, ?_⟩ | refine ⟨_, _, rfl, ?_⟩ | (refine ⟨_, _, rfl, rfl, ?_, ?_⟩; focus walk_at "num") | refine Or.inl ⟨_, rfl, ?_⟩ | refine ⟨_, _, _, _, rfl, rfl, (by assumption), (by rfl), ?_⟩ | refine ⟨_, _, _, _, _, rfl, (by assumption), (by assumption), (by assumption), (by rfl), ?_⟩ | refine ⟨rfl, ?_⟩ | (refine And.intro ?_ ?_; focus walk_at "num")))
abbrev s_Choice___init__ : Stmt := inClass (topS 42) 1
abbrev N_Choice___init__ : List Str := ["self", "owner", "options", "__class__", "option", "weight", "depth", "inner"]
abbrev P_Choice___init__ : List Str := ["self", "owner", "options"]
theorem sc_Choice___init__ : NdefX.NScope N_Choice___init__ P_Choice___init__ [("__class__" : Str)] (defScope s_Choice___init__) := NdefX.nscope_by (by decide +kernel)
section
variable {P : Program} {w : World} {K : PySem.W.Frag} {mg : Str → Option Value} {base : Heap} {f C g CP : Addr} {k : Cs} {fd : FuncData}
theorem jn_eq (s : List Nat) : ∀ ts : List (List Nat), TL.joinL s ts = jn s ts
  | [] => rfl
  | [a] => rfl
  | a :: b :: r => by
    have := jn_eq s (b :: r)
    show a ++ (s ++ TL.joinL s (b :: r)) = a ++ s ++ jn s (b :: r)
    rw [this, List.append_assoc]
theorem len3 (ts : List (List Nat)) : ((ts.map S).map fun x => x.length).sum + (ts.map S).length * 3 = (ts.map fun t => t.length + 3).sum := by
  induction ts with
  | nil => rfl
  | cons t ts ih =>
    rw [List.map_cons, List.map_cons, List.map_cons, List.sum_cons, List.sum_cons, List.length_cons, S_len, ← ih]
    omega
theorem max_is {ns : List Int} {m : Int} (h1 : m ∈ ns) (h2 : ∀ x ∈ ns, x ≤ m) : ∀ m2, m2 ∈ ns → (∀ x ∈ ns, x ≤ m2) → m2 = m := fun m2 g1 g2 => by
  have := h2 m2 g1
  have := g2 m h1
  omega
theorem dpLL_max : ∀ {os : List (List Pt)} {m : Int}, m ∈ os.map (fun b => (dpL b : Int)) → (∀ x ∈ os.map (fun b => (dpL b : Int)), x ≤ m) → m = (dpLL os : Int)
  | [], m, h, _ => by cases h
  | b :: os, m, h, h2 => by
    rw [dpLL]
    have hb : (dpL b : Int) ≤ m := h2 (dpL b : Int) (List.mem_map.mpr ⟨b, List.mem_cons_self, rfl⟩)
    by_cases c : os = []
    · subst c
      rw [dpLL]
      have : m = (dpL b : Int) := List.mem_singleton.mp h
      omega
    · obtain ⟨m2, hm2, hx2⟩ : ∃ m2 : Int, m2 ∈ os.map (fun b => (dpL b : Int)) ∧ ∀ x ∈ os.map (fun b => (dpL b : Int)), x ≤ m2 := by
        refine ⟨(dpLL os : Int), ?_, fun x hx => ?_⟩
        · clear h h2 hb
          induction os with
          | nil => exact absurd rfl c
          | cons d os ih =>
            rw [dpLL]
            by_cases e : os = []
            · subst e
              rw [dpLL, Nat.max_eq_left (Nat.zero_le _)]
              exact List.mem_map.mpr ⟨d, List.mem_cons_self, rfl⟩
            · by_cases l : dpLL os ≤ dpL d
              · rw [Nat.max_eq_left l]
                exact List.mem_map.mpr ⟨d, List.mem_cons_self, rfl⟩
              · rw [Nat.max_eq_right (by omega)]
                have := ih e
                rw [List.map_cons]
                exact List.mem_cons_of_mem _ this
        · obtain ⟨d, hd, rfl⟩ := List.mem_map.mp hx
          have := dpLL_mem hd
          show (dpL d : Int) ≤ _
          omega
      have e2 := dpLL_max hm2 hx2
      rw [List.map_cons] at h
      rcases List.mem_cons.mp h with h | h
      · have h : m = (dpL b : Int) := h
        have : m2 ≤ m := h2 m2 (by rw [List.map_cons]; exact List.mem_cons_of_mem _ hm2)
        omega
      · have g1 := hx2 m h
        have g2 : m2 ≤ m := h2 m2 (by rw [List.map_cons]; exact List.mem_cons_of_mem _ hm2)
        omega
theorem isum (g : α → Nat) : ∀ l : List α, (l.map fun x => (g x : Int)).sum = ((l.map g).sum : Nat)
  | [] => rfl
  | x :: l => by
    rw [List.map_cons, List.map_cons, List.sum_cons, List.sum_cons, isum g l]
    omega
def cF (o : Nat) (os : List (List Pt)) (t : Addr) : List (Str × V) := ("owner", .str (S [o])) :: ("options", .ref t) :: tlP (.ch o os)
def spCI (C : Addr) (k : Cs) (K : PySem.W.Frag) : Sp := fun vs H Q _ => ∃ (q : Bool) (n dx a : Addr) (o : Nat) (os : List (List Pt)) (as : List Addr), vs = [.ref n, .str (S [o]), .ref a] ∧ H n = some (.ins C dx []) ∧ Ok (.ch o os) ∧ SqK q K H a (as.map V.ref) ∧ PasAt k K H os as ∧ wt (.ch o os) ≤ 400 ∧ dp (.ch o os) ≤ 30 ∧ ∀ (t : Addr) H', SB n H H' → SqT K H' t (as.map V.ref) → H' n = some (.ins C dx (cF o os t)) → Q .non H'
theorem ok_cinit (SI : SupI P K C f g "Choice.__init__" s_Choice___init__ fd) (FB : FnB P w K mg base g) (m_super : mg "super" = none) (m_len : mg "len" = none) (m_tuple : mg "tuple" = none) (m_sum : mg "sum" = none) (m_max : mg "max" = none) (tok_MOST_OPTIONS : Tok) (g_MOST_OPTIONS : mg "MOST_OPTIONS" = some (.int 6 tok_MOST_OPTIONS)) (fl : Fl3 K C) (n1 : NoAttr K C "owner") (n2 : NoAttr K C "options") (pk : PaK K k.P) (c_check_party : CalX P w K mg base 3 "check_party" (spChP CP)) (c_as_pact : CalX P w K mg base 1 "as_pact" (spAsP k K)) : FnOk P w K mg base (L2N.CX P w) 5 f fd P_Choice___init__ (spCI C k K) := by
  obtain ⟨c, cc, dV, kV, doc, pm, ct, an, hfd, SS, hcd⟩ := SI.ex
  refine sup_last (F := ⟨"__init__", "Choice.__init__", defArgs s_Choice___init__, defBody s_Choice___init__, defScope s_Choice___init__, [(("__class__" : Str), cc)], c⟩) (N := N_Choice___init__) (pre := (defBody s_Choice___init__).dropLast) (j := 4) (k := 4) hfd SS hcd sc_Choice___init__ rfl rfl (show (defScope s_Choice___init__).names.lookup ("super" : Str) = some .globalImplicit by decide +kernel) m_super rfl (show (defScope s_Choice___init__).names.lookup ("self" : Str) = some .local by decide +kernel) rfl FB (Nat.le_refl _) (fun vs H Q E h => ?_) (fun _ _ _ _ _ => rfl) (fun _ _ _ _ _ => rfl) (fun _ _ _ _ _ => rfl) (fun _ _ _ _ _ => rfl) (fun _ _ _ _ _ => rfl) (fun A outer s H vs Q E hr h => ?_)
  · obtain ⟨q, n, dx, a, o, os, as, rfl, _⟩ := h
    rfl
  · obtain ⟨q, n, dx, a, o, os, as, rfl, hn, ok, hS, hP, hw, hd, qq⟩ := h
    rw [Ok] at ok
    obtain ⟨ho, l2, l6, okb⟩ := ok
    have la := PasAt.len _ _ hP
    rw [wt] at hw
    rw [dp] at hd
    refine ⟨_, _, (pss_cons (ps_expr (pe_clE c_check_party (fun _ => passS0) hr (by decide) (by rfl) (pa_cons (pv 1) pa_nil)))
      (pss_cons (ps_if (pt_not (pt_chain op_le op_le pe_int (pe_callB call_len_seq (by rfl) m_len PySem.boot_len (pa_cons (pv 2) pa_nil)) (pe_glob (v := .int 6) (by rfl) g_MOST_OPTIONS ⟨_, rfl⟩))) (pss_one ps_never) pss_nil)
      (pss_cons (ps_for (passes_of rfl) rfl (pi_sq (pv 2)) (pg_name (i := 4) sc_Choice___init__.nd rfl (by first | exact .inl rfl | exact .inr rfl))
        (pss_one (ps_expr (pe_clE c_as_pact (fun _ => passS0) hr (by decide) (by rfl) (pa_cons (pv 4) pa_nil)))))
      (pss_cons (ps_fld (pv 0) (pv 1) rfl)
      (pss_cons (ps_fld (pv 0) (pe_callTy call_tupleSq (by rfl) m_tuple (by decide +kernel) (pa_cons (pv 2) pa_nil)) rfl)
      (pss_cons (ps_set (i := 5) sc_Choice___init__.nd rfl (by first | exact .inl rfl | exact .inr rfl) (pe_op op_add pe_int (pe_callB (cr_sum rfl) (by rfl) m_sum (by decide +kernel) (pa_cons (pe_lc (own := [("option", 4)]) (g := (gName 4)) (tt := tYes) (by rfl) sc_Choice___init__.nd (pi_sq (pv 2)) (blkOk_by (own := [("option", 4)]) (N := N_Choice___init__) (sc := defScope s_Choice___init__) (by decide +kernel)) (fun _ _ _ _ _ => (pg_name (i := 4) sc_Choice___init__.nd rfl (by first | exact .inl rfl | exact .inr rfl))) (fun _ _ _ _ _ => pts_nil) (fun _ _ _ _ _ => (pe_fld_K (K := K) rfl (pv 4) rfl))) pa_nil))))
      (pss_cons (ps_set (i := 6) sc_Choice___init__.nd rfl (by first | exact .inl rfl | exact .inr rfl) (pe_op op_add pe_int (pe_callB (cr_max rfl) (by rfl) m_max (by decide +kernel) (pa_cons (pe_lc (own := [("option", 4)]) (g := (gName 4)) (tt := tYes) (by rfl) sc_Choice___init__.nd (pi_sq (pv 2)) (blkOk_by (own := [("option", 4)]) (N := N_Choice___init__) (sc := defScope s_Choice___init__) (by decide +kernel)) (fun _ _ _ _ _ => (pg_name (i := 4) sc_Choice___init__.nd rfl (by first | exact .inl rfl | exact .inr rfl))) (fun _ _ _ _ _ => pts_nil) (fun _ _ _ _ _ => (pe_fld_K (K := K) rfl (pv 4) rfl))) pa_nil))))
      (pss_one (ps_set (i := 7) sc_Choice___init__.nd rfl (by first | exact .inl rfl | exact .inr rfl) (pe_join pe_str (pe_lc (own := [("option", 4)]) (g := (gName 4)) (tt := tYes) (by rfl) sc_Choice___init__.nd (pi_sq (pv 2)) (blkOk_by (own := [("option", 4)]) (N := N_Choice___init__) (sc := defScope s_Choice___init__) (by decide +kernel)) (fun _ _ _ _ _ => (pg_name (i := 4) sc_Choice___init__.nd rfl (by first | exact .inl rfl | exact .inr rfl))) (fun _ _ _ _ _ => pts_nil) (fun _ _ _ _ _ => (pe_fld_K (K := K) rfl (pv 4) rfl))))))))))))), (pa_cons (pv 5) (pa_cons (pv 6) (pa_cons (pe_joined (.cons (pe_fmt (pv 1)) (.cons pe_str (.cons (pe_fmt (pv 7)) (.cons pe_str .nil))))) pa_nil))), ?_⟩
    walk_at "go"
    refine ⟨(show 1 ≤ 10000 by decide), fun _ => ?_, fun z => by rw [isPy_one ho] at z; cases z⟩
    walk_at "go"
    refine ⟨a, _, rfl, sqk_or hS, ?_⟩
    rw [List.length_map]
    walk_at "go"
    rw [decide_eq_true (show (2 : Int) ≤ (as.length : Int) by omega)]
    walk_at "go"
    rw [decide_eq_true (show (as.length : Int) ≤ 6 by omega)]
    walk_at "go"
    have gx : ∀ (i : Nat) (x : V), (as.map V.ref)[i]? = some x → ∃ (y : Addr) (b : List Pt), x = .ref y ∧ os[i]? = some b ∧ PaAt k K H b y := fun i x e => by
      rw [List.getElem?_map] at e
      cases e1 : as[i]? with
      | none => rw [e1] at e; cases e
      | some y =>
        rw [e1] at e
        cases e
        have li := (List.getElem?_eq_some_iff.mp e1).1
        obtain ⟨y2, e2, hp⟩ := PasAt.get _ _ hP i (os[i]'(by omega)) (List.getElem?_eq_getElem (by omega))
        rw [e1] at e2
        cases e2
        exact ⟨y, _, rfl, List.getElem?_eq_getElem (by omega), hp⟩
    refine rd_sq (b := q) rfl hS ?_
    refine for_sq hS (fun i σ J => J = H ∧ ∃ v4 : Option V, σ = [some (.ref n), some (.str (S [o])), some (.ref a), some (.ref C), v4, none, none, none]) ⟨rfl, none, rfl⟩ (fun i σ J h => by rw [h.1]; exact Same.refl _) (fun i x σ J ex h => ?_) (fun σ J h => ?_)
    · obtain ⟨rfl, v4, rfl⟩ := h
      obtain ⟨y, b, rfl, _, hp⟩ := gx i x ex
      walk_at "go"
      refine ⟨y, b, rfl, hp, ?_⟩
      exact ⟨rfl, _, rfl⟩
    obtain ⟨rfl, v4, rfl⟩ := h
    walk_at "go"
    refine ⟨n, C, dx, _, rfl, hn, fl.cls, n1, (show 0 < 1000 by decide), ?_⟩
    have sb1 : SB n J (upd J n (.ins C dx (putF "owner" (V.str (S [o])) []))) := SB.upd (Z.Same.sb (Same.refl _))
    have sm1 := smN_sb sb1 hn
    have hn1 : (upd J n (.ins C dx (putF "owner" (V.str (S [o])) []))) n = some (.ins C dx (putF "owner" (V.str (S [o])) [])) := upd_same
    generalize upd J n (.ins C dx (putF "owner" (V.str (S [o])) [])) = J1 at sb1 sm1 hn1
    have hS1 := sm1.sqK hS
    walk_at "go"
    refine ⟨q, a, _, rfl, hS1, fun t J2 s2 hT => ?_⟩
    have hn2 := s2 _ _ hn1
    walk_at "go"
    refine ⟨n, C, dx, _, rfl, hn2, fl.cls, n2, (show 1 < 1000 by decide), ?_⟩
    have sb3 : SB n J2 (upd J2 n (.ins C dx (putF "options" (V.ref t) (putF "owner" (V.str (S [o])) [])))) := SB.upd (Z.Same.sb (Same.refl _))
    have hn3 : (upd J2 n (.ins C dx (putF "options" (V.ref t) (putF "owner" (V.str (S [o])) [])))) n = some (.ins C dx (putF "options" (V.ref t) (putF "owner" (V.str (S [o])) []))) := upd_same
    have hT3 : SqT K (upd J2 n (.ins C dx (putF "options" (V.ref t) (putF "owner" (V.str (S [o])) [])))) t (as.map V.ref) := by
      rcases hT with (h | ⟨ob, h⟩) | h
      · exact .inl (.inl (sb3 _ _ (fun e => by rw [e, hn2] at h; cases h) h))
      · exact .inl (.inr ⟨ob, sb3 _ _ (fun e => by rw [e, hn2] at h; cases h) h⟩)
      · exact .inr h
    generalize upd J2 n (.ins C dx (putF "options" (V.ref t) (putF "owner" (V.str (S [o])) []))) = J3 at sb3 hn3 hT3
    have sb03 : SB n J J3 := (sb1.trans (Z.Same.sb s2)).trans sb3
    have sm3 := smN_sb sb03 hn
    have hS3 := sm3.sqK hS
    have gx3 : ∀ (i : Nat) (x : V), (as.map V.ref)[i]? = some x → ∃ (y dy tt : Addr) (b : List Pt), x = .ref y ∧ os[i]? = some b ∧ J3 y = some (.ins k.P dy (pfl tt b)) := fun i x e => by
      obtain ⟨y, b, rfl, eb, hp⟩ := gx i x e
      obtain ⟨dy, tt, bs, h1, _⟩ := hp.monoN sm3
      exact ⟨y, dy, tt, b, rfl, eb, h1⟩
    clear s2 sb1 sm1 hn1 hS1 hn2 hT hn gx
    walk_at "go"
    refine rd_sq (b := q) rfl hS3 ?_
    walk_at "go"
    intro D nD
    refine lc_vs hS3 (os.map fun b => .int (wtL b : Int)) (by rw [List.length_map, List.length_map, la]) (by rw [List.length_map]; omega) nD (fun x => rfl) (fun i x y J4 Q4 ex ey s4 q4 => ?_) (fun J4 s4 eD => ?_)
    · obtain ⟨y2, dy, tt, b, rfl, eb, hy⟩ := gx3 i x ex
      rw [List.getElem?_map, eb] at ey
      cases ey
      walk_at "go"
      refine ⟨y2, k.P, dy, _, _, rfl, s4 _ _ hy, pk.fl.cls, pk.fl.nw, rfl, ?_⟩
      exact q4 _ (Same.refl _)
    walk_at "go"
    refine ⟨D, os.map fun b => (wtL b : Int), rfl, SqL.of (by rw [List.map_map]; exact eD), ?_⟩
    rw [isum, ← wtLL_sum]
    have gx4 : ∀ (i : Nat) (x : V), (as.map V.ref)[i]? = some x → ∃ (y dy tt : Addr) (b : List Pt), x = .ref y ∧ os[i]? = some b ∧ J4 y = some (.ins k.P dy (pfl tt b)) := fun i x e => by
      obtain ⟨y, dy, tt, b, h1, h2, h3⟩ := gx3 i x e
      exact ⟨y, dy, tt, b, h1, h2, s4 _ _ h3⟩
    have hS4 := Z.Same.sqK s4 hS3
    have sb04 := sb03.trans (Z.Same.sb s4)
    have hn4 := s4 _ _ hn3
    have hT4 : SqT K J4 t (as.map V.ref) := Z.Same.sqK (b := false) s4 hT3
    clear eD nD s4 gx3 sb03 sm3 hn3 hT3 sb3 hS3
    walk_at "go"
    refine rd_sq (b := q) rfl hS4 ?_
    walk_at "go"
    intro D nD
    refine lc_vs hS4 (os.map fun b => .int (dpL b : Int)) (by rw [List.length_map, List.length_map, la]) (by rw [List.length_map]; omega) nD (fun x => rfl) (fun i x y J5 Q4 ex ey s4 q4 => ?_) (fun J5 s4 eD => ?_)
    · obtain ⟨y2, dy, tt, b, rfl, eb, hy⟩ := gx4 i x ex
      rw [List.getElem?_map, eb] at ey
      cases ey
      walk_at "go"
      refine ⟨y2, k.P, dy, _, _, rfl, s4 _ _ hy, pk.fl.cls, pk.fl.nd, rfl, ?_⟩
      exact q4 _ (Same.refl _)
    walk_at "go"
    refine ⟨D, os.map fun b => (dpL b : Int), rfl, SqL.of (by rw [List.map_map]; exact eD), (by rw [List.length_map]; omega), fun m hm hx => ?_⟩
    rw [dpLL_max hm hx]
    have gx5 : ∀ (i : Nat) (x : V), (as.map V.ref)[i]? = some x → ∃ (y dy tt : Addr) (b : List Pt), x = .ref y ∧ os[i]? = some b ∧ J5 y = some (.ins k.P dy (pfl tt b)) := fun i x e => by
      obtain ⟨y, dy, tt, b, h1, h2, h3⟩ := gx4 i x e
      exact ⟨y, dy, tt, b, h1, h2, s4 _ _ h3⟩
    have hS5 := Z.Same.sqK s4 hS4
    have sb05 := sb04.trans (Z.Same.sb s4)
    have hn5 := s4 _ _ hn4
    have hT5 : SqT K J5 t (as.map V.ref) := Z.Same.sqK (b := false) s4 hT4
    clear eD nD s4 gx4 sb04 hn4 hT4 hS4
    walk_at "go"
    refine ⟨⟨_, rfl⟩, ?_⟩
    walk_at "go"
    refine rd_sq (b := q) rfl hS5 ?_
    walk_at "go"
    intro D nD
    refine lc_vs hS5 (os.map fun b => .str (S (txB b))) (by rw [List.length_map, List.length_map, la]) (by rw [List.length_map]; omega) nD (fun x => rfl) (fun i x y J6 Q4 ex ey s4 q4 => ?_) (fun J6 s4 eD => ?_)
    · obtain ⟨y2, dy, tt, b, rfl, eb, hy⟩ := gx5 i x ex
      rw [List.getElem?_map, eb] at ey
      cases ey
      walk_at "go"
      refine ⟨y2, k.P, dy, _, _, rfl, s4 _ _ hy, pk.fl.cls, pk.fl.nt, rfl, ?_⟩
      exact q4 _ (Same.refl _)
    have hT6 : SqT K J6 t (as.map V.ref) := Z.Same.sqK (b := false) s4 hT5
    have sb06 := sb05.trans (Z.Same.sb s4)
    have hn6 := s4 _ _ hn5
    have ljn := txLL_len os okb
    have ljn2 := jn_len [32, 124, 32] (txLL os)
    walk_at "go"
    refine ⟨S [32, 124, 32], D, (txLL os).map S, rfl, rfl, .inl (SqL.of (by rw [txLL_map, List.map_map, List.map_map]; exact eD)), ?_, ?_⟩
    · rw [show (S [32, 124, 32]).length = 3 from S_len _, len3]
      omega
    rw [SX.join_S, jn_eq]
    have ljn3 : (jn [32, 124, 32] (txLL os)).length ≤ ((txLL os).map fun t => t.length + 3).sum := ljn2
    generalize hjn : jn [32, 124, 32] (txLL os) = inner at ljn3
    have lS : (S inner).length = inner.length := S_len _
    refine ⟨n, dx, _, rfl, hn6, ?_⟩
    walk_at "go"
    refine ⟨by rw [S_len]; exact szl (show 1 ≤ 100000 by decide), S [o], rfl, by rw [emS, S_len]; exact szl (show 1 ≤ 100000 by decide), ?_⟩
    rw [emS]
    refine ⟨S [40], rfl, by rw [S_cat, S_len]; exact szl (by simp only [List.length_append, List.length_cons, List.length_nil]; omega), ?_⟩
    rw [S_cat]
    refine ⟨_, rfl, .inl ⟨S inner, rfl, by rw [S_len]; exact szl (by omega), S inner, rfl, by rw [S_cat, S_len]; exact szl (by simp only [List.length_append, List.length_cons, List.length_nil]; omega), ?_⟩⟩
    rw [S_cat]
    refine ⟨S [41], rfl, by rw [S_cat, S_len]; exact szl (by simp only [List.length_append, List.length_cons, List.length_nil]; omega), ?_⟩
    rw [S_cat]
    have etx : tx (.ch o os) = [o] ++ [40] ++ inner ++ [41] := by rw [tx, hjn]
    refine ⟨n, C, dx, _, 1 + wtLL os, 1 + dpLL os, S (tx (.ch o os)), by rw [etx]; rfl, hn6, fl, (show 2 ≤ 10 by decide), hw, hd, ?_⟩
    have e : cF o os t = put3 (1 + wtLL os) (1 + dpLL os) (S (tx (.ch o os))) (putF "options" (V.ref t) (putF "owner" (V.str (S [o])) [])) := by
      unfold cF tlP
      rw [wt, dp]
      rfl
    rw [← e]
    refine qq t _ (sb06.trans (SB.upd (Z.Same.sb (Same.refl _)))) ?_ upd_same
    rcases hT6 with (h | ⟨ob, h⟩) | h
    · exact .inl (.inl (by rw [upd_ne (fun e => by rw [e, hn6] at h; cases h)]; exact h))
    · exact .inl (.inr ⟨ob, by rw [upd_ne (fun e => by rw [e, hn6] at h; cases h)]; exact h⟩)
    · exact .inr h
/-- what every part class says: its instances are parts, with the three fields -/
structure PtK (K : PySem.W.Frag) (cP C : Addr) : Prop where
  fl : Fl3 K C
  is : PySem.W.kitOne K (.ref C) (.ref cP) = some true
  ic : C8.InsC K C
/-- the facts of all part classes (cP: the class Part) -/
structure PtsK (K : PySem.W.Frag) (cP : Addr) (k : Cs) : Prop where
  t : PtK K cP k.T
  e : PtK K cP k.E
  c : PtK K cP k.C
  r : PtK K cP k.R
  n : PtK K cP k.N
  m : PtK K cP k.M
/-- a part is an instance of some part class with its three fields -/
theorem PtAt.ins {cP : Addr} (pk : PtsK K cP k) {H : Hp} : ∀ {p : Pt} {a : Addr}, PtAt k K H p a → ∃ (C dx : Addr) (fs : List (Str × V)), PtK K cP C ∧ H a = some (.ins C dx fs) ∧ fs.lookup ("weight" : Str) = some (.int (wt p : Int)) ∧ fs.lookup ("depth" : Str) = some (.int (dp p : Int)) ∧ fs.lookup ("text" : Str) = some (.str (S (tx p)))
  | .tr p q m, a, h => by
    rw [PtAt] at h
    obtain ⟨dx, h⟩ := h
    exact ⟨_, dx, _, pk.t, h, rfl, rfl, rfl⟩
  | .ev c, a, h => by
    rw [PtAt] at h
    obtain ⟨dx, h⟩ := h
    exact ⟨_, dx, _, pk.e, h, rfl, rfl, rfl⟩
  | .ch o os, a, h => by
    rw [PtAt] at h
    obtain ⟨dx, t, as, h, _⟩ := h
    exact ⟨_, dx, _, pk.c, h, rfl, rfl, rfl⟩
  | .rd o b, a, h => by
    rw [PtAt] at h
    obtain ⟨dx, x, dy, t, as, h, _⟩ := h
    exact ⟨_, dx, _, pk.r, h, rfl, rfl, rfl⟩
  | .en b, a, h => by
    rw [PtAt] at h
    obtain ⟨dx, x, dy, t, as, h, _⟩ := h
    exact ⟨_, dx, _, pk.n, h, rfl, rfl, rfl⟩
  | .ti c b, a, h => by
    rw [PtAt] at h
    obtain ⟨dx, x, dy, t, as, h, _⟩ := h
    exact ⟨_, dx, _, pk.m, h, rfl, rfl, rfl⟩
end
end Z
set_option pp.maxSteps 700
set_option Elab.async false
set_option linter.all false
set_option maxRecDepth 100000
set_option maxHeartbeats 4000000
open SX (S S_inj S_len S_cat)
namespace Z
open Pk NdefX
open PySem PySem.Spec PyProof.Rows L2
open C8 (pss_cut tCut)
local macro_rules | `(tactic| walk_at "num") => `(tactic| first | rfl | omega | decide | exact Nat.le_of_lt (small1000 (by simp)) | exact ⟨by omega, by omega⟩ | exact ⟨by omega, by omega, by omega⟩ | exact ⟨by decide, by decide, by decide⟩ | exact Or.inl ⟨by omega, by omega⟩ | exact Or.inr ⟨by omega, by omega⟩)
local macro_rules | `(tactic| walk_at "go") => `(tactic| repeat (first | refine ⟨_, rfl, ?_⟩ | refine ⟨_, _, rfl, rfl, ?_⟩ | refine ⟨_, _, rfl, ?_⟩ | (refine ⟨_, _, rfl, rfl, ?_, ?_⟩; focus walk_at "num") | refine Or.inl ⟨_, rfl, ?_⟩ | refine ⟨_, _, _, _, rfl, rfl, (by assumption), (by rfl), ?_⟩ | refine ⟨_, _, _, _, _, rfl, (by assumption), (by assumption), (by assumption), (by rfl), ?_⟩ | refine ⟨rfl, ?_⟩ | (refine And.intro ?_ ?_; focus walk_at "num")))
abbrev s_Pact___init__ : Stmt := inClass (topS 46) 0
abbrev N_Pact___init__ : List Str := ["self", "parts", "part"]
abbrev P_Pact___init__ : List Str := ["self", "parts"]
theorem sc_Pact___init__ : FnScope N_Pact___init__ P_Pact___init__ (defScope s_Pact___init__) := ⟨rfl, rfl, rfl, by decide +kernel, rfl, by decide +kernel, by decide +kernel⟩
section
variable {P : Program} {w : World} {K : PySem.W.Frag} {mg : Str → Option Value} {base : Heap} {f C g CP cP : Addr} {k : Cs} {fd : FuncData}
theorem mxf : ∀ (r : List Pt) (d : Nat), (r.map fun p => (dp p : Int)).foldl max (d : Int) = ((max d (dpL r) : Nat) : Int)
  | [], d => by
    rw [dpL]
    show (d : Int) = _
    omega
  | p :: r, d => by
    rw [dpL, List.map_cons, List.foldl_cons, show max (d : Int) (dp p : Int) = ((max d (dp p) : Nat) : Int) by omega, mxf r]
    omega
theorem mxD_dp : ∀ l : List Pt, mxD 0 (l.map fun p => (dp p : Int)) = (dpL l : Int)
  | [] => by rw [dpL]; rfl
  | p :: r => by
    rw [dpL]
    exact mxf r (dp p)
theorem len2 (ts : List (List Nat)) : ((ts.map S).map fun x => x.length).sum + (ts.map S).length * 2 = (ts.map fun t => t.length + 2).sum := by
  induction ts with
  | nil => rfl
  | cons t ts ih =>
    rw [List.map_cons, List.map_cons, List.map_cons, List.sum_cons, List.sum_cons, List.length_cons, S_len, ← ih]
    omega
theorem len_wt : ∀ l : List Pt, l.length ≤ wtL l
  | [] => Nat.zero_le _
  | p :: l => by
    have := wt_pos p
    have := len_wt l
    rw [wtL, List.length_cons]
    omega
/-- what the walk needs of the part at i -/
def PtX (cP : Addr) (k : Cs) (K : PySem.W.Frag) (J : Hp) (l : List Pt) (i : Nat) (x : V) : Prop := ∃ (y C dy : Addr) (fs : List (Str × V)) (p : Pt), x = .ref y ∧ l[i]? = some p ∧ PtK K cP C ∧ J y = some (.ins C dy fs) ∧ fs.lookup ("weight" : Str) = some (.int (wt p : Int)) ∧ fs.lookup ("depth" : Str) = some (.int (dp p : Int)) ∧ fs.lookup ("text" : Str) = some (.str (S (tx p)))
theorem ptx_of (pk : PtsK K cP k) {H : Hp} {l : List Pt} {as : List Addr} (hP : PtsAt k K H l as) : ∀ (i : Nat) (x : V), (as.map V.ref)[i]? = some x → PtX cP k K H l i x := fun i x e => by
  have la := PtsAt.len _ _ hP
  rw [List.getElem?_map] at e
  cases e1 : as[i]? with
  | none => rw [e1] at e; cases e
  | some y =>
    rw [e1] at e
    cases e
    have li := (List.getElem?_eq_some_iff.mp e1).1
    obtain ⟨y2, e2, hp⟩ := PtsAt.get _ _ hP i (l[i]'(by omega)) (List.getElem?_eq_getElem (by omega))
    rw [e1] at e2
    cases e2
    obtain ⟨C, e, fs, pt, hy, h1, h2, h3⟩ := hp.ins pk
    exact ⟨y, C, e, fs, _, rfl, List.getElem?_eq_getElem (by omega), pt, hy, h1, h2, h3⟩
theorem sb_tup {J J2 : Hp} {n t : Addr} {x : List V} {C dx : Addr} {fs : List (Str × V)} (s : SB n J J2) (hn : J n = some (.ins C dx fs)) (hT : SqT K J t x) : SqT K J2 t x := by
  rcases hT with (h | ⟨ob, h⟩) | h
  · exact .inl (.inl (s _ _ (fun e => by rw [e, hn] at h; cases h) h))
  · exact .inl (.inr ⟨ob, s _ _ (fun e => by rw [e, hn] at h; cases h) h⟩)
  · exact .inr h
def spPI (k : Cs) (K : PySem.W.Frag) : Sp := fun vs H Q _ => ∃ (q : Bool) (n dx a : Addr) (l : List Pt) (as : List Addr), vs = [.ref n, .ref a] ∧ H n = some (.ins k.P dx []) ∧ OkL l ∧ SqK q K H a (as.map V.ref) ∧ PtsAt k K H l as ∧ wtL l ≤ 400 ∧ dpL l ≤ 30 ∧ ∀ (t : Addr) H', SB n H H' → SqT K H' t (as.map V.ref) → H' n = some (.ins k.P dx (pfl t l)) → Q .non H'
theorem ok_pinit {cP : Addr} (F : FnM K "__init__" "Pact.__init__" s_Pact___init__ f fd) (m_len : mg "len" = none) (m_tuple : mg "tuple" = none) (m_sum : mg "sum" = none) (m_max : mg "max" = none) (m_isinstance : mg "isinstance" = none) (g_Part : mg "Part" = some (.ref cP)) (pa : PaK K k.P) (pk : PtsK K cP k) (c_check_size : CalX P w K mg base 3 "check_size" spSize) : FnOk P w K mg base (L2N.CX P w) 4 f fd P_Pact___init__ (spPI k K) := by
  refine F.ok sc_Pact___init__ (fun vs H Q E h => ?_) (fun cdv A outer s H vs Q E hr h => ?_)
  · obtain ⟨q, n, dx, a, l, as, rfl, _⟩ := h
    rfl
  · obtain ⟨q, n, dx, a, l, as, rfl, hn, ok, hS, hP, hw, hd, qq⟩ := h
    have la := PtsAt.len _ _ hP
    have lw := len_wt l
    refine ⟨_, (pss_cons (ps_for (passes_of rfl) rfl (pi_sq (pv 1)) (pg_name (i := 2) sc_Pact___init__.nd rfl (by first | exact .inl rfl | exact .inr rfl))
        (pss_one (ps_if (pt_not (pt_val (pe_callB call_isi (by rfl) m_isinstance (by decide +kernel) (pa_cons (pv 2) (pa_cons (pe_glob (by rfl) g_Part relv_ref) pa_nil))))) (pss_one ps_never) pss_nil)))
      (pss_cons (ps_fld (pv 0) (pe_callTy call_tupleSq (by rfl) m_tuple (by decide +kernel) (pa_cons (pv 1) pa_nil)) rfl)
      (pss_cons (ps_fld (pv 0) (pe_callB (cr_sum rfl) (by rfl) m_sum (by decide +kernel) (pa_cons (pe_lc (own := [("part", 2)]) (g := (gName 2)) (tt := tYes) (by rfl) sc_Pact___init__.nd (pi_sq (pv 1)) (blkOk_by (own := [("part", 2)]) (N := N_Pact___init__) (sc := defScope s_Pact___init__) (by decide +kernel)) (fun _ _ _ _ _ => (pg_name (i := 2) sc_Pact___init__.nd rfl (by first | exact .inl rfl | exact .inr rfl))) (fun _ _ _ _ _ => pts_nil) (fun _ _ _ _ _ => (pe_fld_K (K := K) rfl (pv 2) rfl))) pa_nil)) rfl)
      (pss_cons (ps_fld (pv 0) (pe_callBK (cr_maxD rfl hr.units) (by rfl) m_max (by decide +kernel) (pa_cons (pe_lc (own := [("part", 2)]) (g := (gName 2)) (tt := tYes) (by rfl) sc_Pact___init__.nd (pi_sq (pv 1)) (blkOk_by (own := [("part", 2)]) (N := N_Pact___init__) (sc := defScope s_Pact___init__) (by decide +kernel)) (fun _ _ _ _ _ => (pg_name (i := 2) sc_Pact___init__.nd rfl (by first | exact .inl rfl | exact .inr rfl))) (fun _ _ _ _ _ => pts_nil) (fun _ _ _ _ _ => (pe_fld_K (K := K) rfl (pv 2) rfl))) pa_nil) (pk_cons pe_int pk_nil)) rfl)
      (pss_cons (ps_expr (pe_clE c_check_size (fun _ => passS0) hr (by decide) (by rfl) (pa_cons (pe_fld (pv 0) rfl) (pa_cons (pe_fld (pv 0) rfl) pa_nil))))
      (pss_one (ps_fld (pv 0) (pe_ifExp (pt_cmpR op_gt (pe_callB call_len_seq (by rfl) m_len PySem.boot_len (pa_cons (pv 1) pa_nil)) pe_int (nomark _)) (pe_join pe_str (pe_lc (own := [("part", 2)]) (g := (gName 2)) (tt := tYes) (by rfl) sc_Pact___init__.nd (pi_sq (pv 1)) (blkOk_by (own := [("part", 2)]) (N := N_Pact___init__) (sc := defScope s_Pact___init__) (by decide +kernel)) (fun _ _ _ _ _ => (pg_name (i := 2) sc_Pact___init__.nd rfl (by first | exact .inl rfl | exact .inr rfl))) (fun _ _ _ _ _ => pts_nil) (fun _ _ _ _ _ => (pe_fld_K (K := K) rfl (pv 2) rfl)))) pe_str) rfl))))))), ?_⟩
    walk_at "go"
    refine rd_sq (b := q) rfl hS ?_
    refine for_sq hS (fun i σ J => J = H ∧ ∃ v2 : Option V, σ = [some (.ref n), some (.ref a), v2]) ⟨rfl, none, rfl⟩ (fun i σ J h => by rw [h.1]; exact Same.refl _) (fun i x σ J ex h => ?_) (fun σ J h => ?_)
    · obtain ⟨rfl, v2, rfl⟩ := h
      obtain ⟨y, C, e, fs, p, rfl, _, pt, hy, _⟩ := ptx_of pk hP i x ex
      walk_at "go"
      refine ⟨.ref y, .ref cP, .ref C, .ref cP, true, rfl, .own cP, .base (.ins hy pt.ic.cl pt.ic.ha pt.ic.hn pt.ic.htk pt.ic.hm), pt.is, ?_⟩
      walk_at "go"
      first
        | exact ⟨rfl, _, rfl⟩
        | exact ⟨_, rfl⟩
        | skip
    obtain ⟨rfl, v2, rfl⟩ := h
    walk_at "go"
    refine ⟨q, a, _, rfl, hS, fun t J2 s2 hT => ?_⟩
    have hn2 := s2 _ _ hn
    walk_at "go"
    refine ⟨n, k.P, dx, _, rfl, hn2, pa.fl.cls, pa.np, (show 0 < 1000 by decide), ?_⟩
    have sb3 : SB n J2 (upd J2 n (.ins k.P dx (putF "parts" (V.ref t) []))) := SB.upd (Z.Same.sb (Same.refl _))
    have hn3 : (upd J2 n (.ins k.P dx (putF "parts" (V.ref t) []))) n = some (.ins k.P dx (putF "parts" (V.ref t) [])) := upd_same
    have hT3 := sb_tup sb3 hn2 hT
    generalize upd J2 n (.ins k.P dx (putF "parts" (V.ref t) [])) = J3 at sb3 hn3 hT3
    have sb03 : SB n J J3 := (Z.Same.sb s2).trans sb3
    have sm3 := smN_sb sb03 hn
    have hS3 := sm3.sqK hS
    have gx3 := ptx_of pk (PtsAt.monoN sm3 _ _ hP)
    clear s2 hn2 hT
    walk_at "go"
    refine rd_sq (b := q) rfl hS3 ?_
    walk_at "go"
    intro D nD
    refine lc_vs hS3 (l.map fun b => .int (wt b : Int)) (by rw [List.length_map, List.length_map, la]) (by rw [List.length_map]; omega) nD (fun x => rfl) (fun i x y J4 Q4 ex ey s4 q4 => ?_) (fun J4 s4 eD => ?_)
    · obtain ⟨y2, C, dy, fs, p, rfl, eb, pt, hy, h1, h2, h3⟩ := gx3 i x ex
      rw [List.getElem?_map, eb] at ey
      cases ey
      walk_at "go"
      refine ⟨y2, C, dy, _, _, rfl, s4 _ _ hy, pt.fl.cls, pt.fl.nw, h1, ?_⟩
      exact q4 _ (Same.refl _)
    walk_at "go"
    refine ⟨D, l.map fun b => (wt b : Int), rfl, SqL.of (by rw [List.map_map]; exact eD), ?_⟩
    rw [isum, ← wtL_sum]
    have hn4 := s4 _ _ hn3
    walk_at "go"
    refine ⟨n, k.P, dx, _, rfl, hn4, pa.fl.cls, pa.fl.nw, (show 1 < 1000 by decide), ?_⟩
    have sb5 : SB n J4 (upd J4 n (.ins k.P dx (putF "weight" (V.int (wtL l : Int)) (putF "parts" (V.ref t) [])))) := SB.upd (Z.Same.sb (Same.refl _))
    have hn5 : (upd J4 n (.ins k.P dx (putF "weight" (V.int (wtL l : Int)) (putF "parts" (V.ref t) [])))) n = some (.ins k.P dx (putF "weight" (V.int (wtL l : Int)) (putF "parts" (V.ref t) []))) := upd_same
    have hT5 := sb_tup sb5 hn4 (Z.Same.sqK (b := false) s4 hT3)
    generalize upd J4 n (.ins k.P dx (putF "weight" (V.int (wtL l : Int)) (putF "parts" (V.ref t) []))) = J5 at sb5 hn5 hT5
    have sb05 : SB n J J5 := (sb03.trans (Z.Same.sb s4)).trans sb5
    have sm5 := smN_sb sb05 hn
    have hS5 := sm5.sqK hS
    have gx5 := ptx_of pk (PtsAt.monoN sm5 _ _ hP)
    clear s4 hn3 hn4 hT3 hS3 eD nD
    walk_at "go"
    refine rd_sq (b := q) rfl hS5 ?_
    walk_at "go"
    intro D nD
    refine lc_vs hS5 (l.map fun b => .int (dp b : Int)) (by rw [List.length_map, List.length_map, la]) (by rw [List.length_map]; omega) nD (fun x => rfl) (fun i x y J6 Q4 ex ey s4 q4 => ?_) (fun J6 s4 eD => ?_)
    · obtain ⟨y2, C, dy, fs, p, rfl, eb, pt, hy, h1, h2, h3⟩ := gx5 i x ex
      rw [List.getElem?_map, eb] at ey
      cases ey
      walk_at "go"
      refine ⟨y2, C, dy, _, _, rfl, s4 _ _ hy, pt.fl.cls, pt.fl.nd, h2, ?_⟩
      exact q4 _ (Same.refl _)
    walk_at "go"
    refine ⟨D, l.map fun b => (dp b : Int), 0, rfl, rfl, SqL.of (by rw [List.map_map]; exact eD), ?_⟩
    rw [mxD_dp]
    have hn6 := s4 _ _ hn5
    walk_at "go"
    refine ⟨n, k.P, dx, _, rfl, hn6, pa.fl.cls, pa.fl.nd, (show 2 < 1000 by decide), ?_⟩
    have sb7 : SB n J6 (upd J6 n (.ins k.P dx (putF "depth" (V.int (dpL l : Int)) (putF "weight" (V.int (wtL l : Int)) (putF "parts" (V.ref t) []))))) := SB.upd (Z.Same.sb (Same.refl _))
    have hn7 : (upd J6 n (.ins k.P dx (putF "depth" (V.int (dpL l : Int)) (putF "weight" (V.int (wtL l : Int)) (putF "parts" (V.ref t) []))))) n = some (.ins k.P dx (putF "depth" (V.int (dpL l : Int)) (putF "weight" (V.int (wtL l : Int)) (putF "parts" (V.ref t) [])))) := upd_same
    have hT7 := sb_tup sb7 hn6 (Z.Same.sqK (b := false) s4 hT5)
    generalize upd J6 n (.ins k.P dx (putF "depth" (V.int (dpL l : Int)) (putF "weight" (V.int (wtL l : Int)) (putF "parts" (V.ref t) [])))) = J7 at sb7 hn7 hT7
    have sb07 : SB n J J7 := (sb05.trans (Z.Same.sb s4)).trans sb7
    have sm7 := smN_sb sb07 hn
    have hS7 := sm7.sqK hS
    have gx7 := ptx_of pk (PtsAt.monoN sm7 _ _ hP)
    clear s4 hn5 hn6 hT5 hS5 eD nD
    walk_at "go"
    refine ⟨n, k.P, dx, _, _, rfl, hn7, pa.fl.cls, pa.fl.nw, rfl, ?_⟩
    walk_at "go"
    refine ⟨n, k.P, dx, _, _, rfl, hn7, pa.fl.cls, pa.fl.nd, rfl, ?_⟩
    walk_at "go"
    refine ⟨a, _, rfl, sqk_or hS7, ?_⟩
    rw [List.length_map, la]
    walk_at "go"
    have fin : ∀ J9, Same J7 J9 → Q .non (upd J9 n (.ins k.P dx (putF "text" (V.str (S (txB l))) (putF "depth" (V.int (dpL l : Int)) (putF "weight" (V.int (wtL l : Int)) (putF "parts" (V.ref t) [])))))) := fun J9 s9 => by
      have hn9 := s9 _ _ hn7
      have sb9 : SB n J9 (upd J9 n (.ins k.P dx (putF "text" (V.str (S (txB l))) (putF "depth" (V.int (dpL l : Int)) (putF "weight" (V.int (wtL l : Int)) (putF "parts" (V.ref t) [])))))) := SB.upd (Z.Same.sb (Same.refl _))
      refine qq t _ ((sb07.trans (Z.Same.sb s9)).trans sb9) (sb_tup sb9 hn9 (Z.Same.sqK (b := false) s9 hT7)) ?_
      rw [upd_same]
      rfl
    match l, fin, la, gx7, lw with
    | [], fin, la, _, _ =>
      rw [decide_eq_false (show ¬ (0 : Int) < (([] : List Pt).length : Int) by decide)]
      walk_at "go"
      refine ⟨n, k.P, dx, _, rfl, hn7, pa.fl.cls, pa.fl.nt, (show 3 < 1000 by decide), ?_⟩
      refine (show _ → _ from fun h => h) (fin J7 (Same.refl _))
    | p0 :: l0, fin, la, gx7, lw =>
      rw [decide_eq_true (show (0 : Int) < ((p0 :: l0).length : Int) by rw [List.length_cons]; omega)]
      walk_at "go"
      refine ⟨⟨_, rfl⟩, ?_⟩
      walk_at "go"
      refine rd_sq (b := q) rfl hS7 ?_
      walk_at "go"
      intro D nD
      refine lc_vs hS7 ((p0 :: l0).map fun b => .str (S (tx b))) (by rw [List.length_map, List.length_map, la]) (by rw [List.length_map]; omega) nD (fun x => rfl) (fun i x y J8 Q4 ex ey s4 q4 => ?_) (fun J8 s4 eD => ?_)
      · obtain ⟨y2, C, dy, fs, p, rfl, eb, pt, hy, h1, h2, h3⟩ := gx7 i x ex
        rw [List.getElem?_map, eb] at ey
        cases ey
        walk_at "go"
        refine ⟨y2, C, dy, _, _, rfl, s4 _ _ hy, pt.fl.cls, pt.fl.nt, h3, ?_⟩
        exact q4 _ (Same.refl _)
      have lt := txs_len (p0 :: l0) ok
      walk_at "go"
      refine ⟨S [44, 32], D, (txs (p0 :: l0)).map S, rfl, rfl, .inl (SqL.of (by rw [txs_map, List.map_map, List.map_map]; exact eD)), ?_, ?_⟩
      · rw [show (S [44, 32]).length = 2 from S_len _, len2]
        omega
      rw [SX.join_S, jn_eq, ← txB_cons]
      have hn8 := s4 _ _ hn7
      walk_at "go"
      refine ⟨n, k.P, dx, _, rfl, hn8, pa.fl.cls, pa.fl.nt, (show 3 < 1000 by decide), ?_⟩
      exact fin J8 s4
end
end Z
set_option pp.maxSteps 700
set_option Elab.async false
set_option linter.all false
set_option maxRecDepth 100000
set_option maxHeartbeats 4000000
open SX (S S_inj S_len S_cat)
namespace Z
open Pk NdefX
open PySem PySem.Spec PyProof.Rows L2
open C8 (pss_cut tCut)
local macro_rules | `(tactic| walk_at "num") => `(tactic| first | rfl | omega | decide | exact Nat.le_of_lt (small1000 (by simp)) | exact ⟨by omega, by omega⟩ | exact ⟨by omega, by omega, by omega⟩ | exact ⟨by decide, by decide, by decide⟩ | exact Or.inl ⟨by omega, by omega⟩ | exact Or.inr ⟨by omega, by omega⟩)
local macro_rules | `(tactic| walk_at "go") => `(tactic| repeat (first | refine ⟨_, rfl, ?_⟩ | refine ⟨_, _, rfl, rfl, ?_⟩ | refine ⟨_, _, rfl, ?_⟩ | (refine ⟨_, _, rfl, rfl, ?_, ?_⟩; focus walk_at "num") | refine Or.inl ⟨_, rfl, ?_⟩ | refine ⟨_, _, _, _, rfl, rfl, (by assumption), (by rfl), ?_⟩ | refine ⟨_, _, _, _, _, rfl, (by assumption), (by assumption), (by assumption), (by rfl), ?_⟩ | refine ⟨rfl, ?_⟩ | (refine And.intro ?_ ?_; focus walk_at "num")))
/-! ### the classes' promises -/
section
variable {H H' : Hp} {n dx C : Addr}
theorem made_new {o : HO} (hn : H n = none) (hd : H dx = none) (h : SB n (upd (upd H dx (.own n)) n (.ins C dx [])) H') : Same H H' := fun a u e => h a u (fun z => by rw [z, hn] at e; cases e) (by rw [upd_ne (fun z => by rw [z, hn] at e; cases e), upd_ne (fun z => by rw [z, hd] at e; cases e)]; exact e)
theorem made_same (hn : H n = none) (hd : H dx = none) : Same H (upd (upd H dx (.own n)) n (.ins C dx [])) := made_new (o := .own n) hn hd (Z.Same.sb (Same.refl _))
theorem made_upd {o : HO} (hn : H n = none) (hd : H dx = none) : Same H (upd (upd (upd H dx (.own n)) n (.ins C dx [])) n o) := made_new (o := o) hn hd (SB.upd (Z.Same.sb (Same.refl _)))
end
section
variable {P : Program} {w : World} {K : PySem.W.Frag} {mg : Str → Option Value} {base : Heap} {k : Cs}
def spT (k : Cs) (K : PySem.W.Frag) : Sp := fun vs H Q _ => ∃ p q m : Nat, vs = [.str (S [p]), .str (S [q]), .int (m : Int)] ∧ Ok (.tr p q m) ∧ ∀ x H', Same H H' → H x = none → PtAt k K H' (.tr p q m) x → Q (.ref x) H'
theorem mk_T (h : MakX P w K mg base 5 "Transfer" k.T (spTI k.T)) : MakY P w K mg base 5 "Transfer" (spT k K) := ⟨k.T, _, h, fun vs H Q E hq n dx hn hd ne => by
  obtain ⟨p, q, m, rfl, ok, cc⟩ := hq
  refine ⟨n, dx, p, q, m, rfl, upd_same, ok, rfl, cc n _ (made_upd hn hd) hn ?_⟩
  rw [PtAt]
  exact ⟨dx, upd_same⟩⟩
def spE (k : Cs) (K : PySem.W.Frag) : Sp := fun vs H Q _ => ∃ c : Nat, vs = [.str (S [c])] ∧ Ok (.ev c) ∧ ∀ x H', Same H H' → H x = none → PtAt k K H' (.ev c) x → Q (.ref x) H'
theorem mk_E (h : MakX P w K mg base 5 "Event" k.E (spEI k.E)) : MakY P w K mg base 5 "Event" (spE k K) := ⟨k.E, _, h, fun vs H Q E hq n dx hn hd ne => by
  obtain ⟨c, rfl, ok, cc⟩ := hq
  refine ⟨n, dx, c, rfl, upd_same, ok, rfl, cc n _ (made_upd hn hd) hn ?_⟩
  rw [PtAt]
  exact ⟨dx, upd_same⟩⟩
def spC (k : Cs) (K : PySem.W.Frag) : Sp := fun vs H Q _ => ∃ (q : Bool) (a : Addr) (o : Nat) (os : List (List Pt)) (as : List Addr), vs = [.str (S [o]), .ref a] ∧ Ok (.ch o os) ∧ SqK q K H a (as.map V.ref) ∧ PasAt k K H os as ∧ wt (.ch o os) ≤ 400 ∧ dp (.ch o os) ≤ 30 ∧ ∀ x H', Same H H' → H x = none → PtAt k K H' (.ch o os) x → Q (.ref x) H'
theorem mk_C (h : MakX P w K mg base 5 "Choice" k.C (spCI k.C k K)) : MakY P w K mg base 5 "Choice" (spC k K) := ⟨k.C, _, h, fun vs H Q E hq n dx hn hd ne => by
  obtain ⟨q, a, o, os, as, rfl, ok, hS, hP, hw, hdp, cc⟩ := hq
  have s1 : Same H (upd (upd H dx (.own n)) n (.ins k.C dx [])) := made_same hn hd
  refine ⟨q, n, dx, a, o, os, as, rfl, upd_same, ok, Z.Same.sqK s1 hS, PasAt.mono s1 _ _ hP, hw, hdp, fun t H' sb hT hN => ⟨rfl, cc n H' (made_new (o := .own n) hn hd sb) hn ?_⟩⟩
  rw [PtAt]
  exact ⟨dx, t, as, hN, hT, PasAt.monoN (smN_sb sb upd_same) _ _ (PasAt.mono s1 _ _ hP)⟩⟩
def spR (k : Cs) (K : PySem.W.Frag) : Sp := fun vs H Q _ => ∃ (y : Addr) (o : Nat) (b : List Pt), vs = [.str (S [o]), .ref y] ∧ Ok (.rd o b) ∧ PaAt k K H b y ∧ wt (.rd o b) ≤ 400 ∧ dp (.rd o b) ≤ 30 ∧ ∀ x H', Same H H' → H x = none → PtAt k K H' (.rd o b) x → Q (.ref x) H'
theorem sb_self {H H1 : Hp} {n C dx : Addr} {o : HO} (s : SB n H (upd H1 n o)) (e : H n = some (.ins C dx [])) : SmN H (upd H1 n o) := smN_sb s e
theorem mk_R (h : MakX P w K mg base 5 "Rounds" k.R (spRI k.R k K)) : MakY P w K mg base 5 "Rounds" (spR k K) := ⟨k.R, _, h, fun vs H Q E hq n dx hn hd ne => by
  obtain ⟨y, o, b, rfl, ok, hP, hw, hdp, cc⟩ := hq
  have s1 : Same H (upd (upd H dx (.own n)) n (.ins k.R dx [])) := made_same hn hd
  refine ⟨n, dx, y, o, b, rfl, upd_same, ok, hP.mono s1, hw, hdp, rfl, cc n _ (made_upd hn hd) hn ?_⟩
  obtain ⟨dy, t, as, h1, h2, h3⟩ := (hP.mono s1).monoN (sb_self (SB.upd (o := .ins k.R dx (rF o b y)) (Z.Same.sb (Same.refl _))) upd_same)
  rw [PtAt]
  exact ⟨dx, y, dy, t, as, upd_same, h1, h2, h3⟩⟩
def spN (k : Cs) (K : PySem.W.Frag) : Sp := fun vs H Q _ => ∃ (y : Addr) (b : List Pt), vs = [.ref y] ∧ Ok (.en b) ∧ PaAt k K H b y ∧ wt (.en b) ≤ 400 ∧ dp (.en b) ≤ 30 ∧ ∀ x H', Same H H' → H x = none → PtAt k K H' (.en b) x → Q (.ref x) H'
theorem mk_N (h : MakX P w K mg base 5 "Endless" k.N (spNI k.N k K)) : MakY P w K mg base 5 "Endless" (spN k K) := ⟨k.N, _, h, fun vs H Q E hq n dx hn hd ne => by
  obtain ⟨y, b, rfl, ok, hP, hw, hdp, cc⟩ := hq
  have s1 : Same H (upd (upd H dx (.own n)) n (.ins k.N dx [])) := made_same hn hd
  refine ⟨n, dx, y, b, rfl, upd_same, ok, hP.mono s1, hw, hdp, rfl, cc n _ (made_upd hn hd) hn ?_⟩
  obtain ⟨dy, t, as, h1, h2, h3⟩ := (hP.mono s1).monoN (sb_self (SB.upd (o := .ins k.N dx (nF b y)) (Z.Same.sb (Same.refl _))) upd_same)
  rw [PtAt]
  exact ⟨dx, y, dy, t, as, upd_same, h1, h2, h3⟩⟩
def spM (k : Cs) (K : PySem.W.Frag) : Sp := fun vs H Q _ => ∃ (y : Addr) (c : Nat) (b : List Pt), vs = [.int (c : Int), .ref y] ∧ Ok (.ti c b) ∧ PaAt k K H b y ∧ wt (.ti c b) ≤ 400 ∧ dp (.ti c b) ≤ 30 ∧ ∀ x H', Same H H' → H x = none → PtAt k K H' (.ti c b) x → Q (.ref x) H'
theorem mk_M (h : MakX P w K mg base 5 "Times" k.M (spMI k.M k K)) : MakY P w K mg base 5 "Times" (spM k K) := ⟨k.M, _, h, fun vs H Q E hq n dx hn hd ne => by
  obtain ⟨y, c, b, rfl, ok, hP, hw, hdp, cc⟩ := hq
  have s1 : Same H (upd (upd H dx (.own n)) n (.ins k.M dx [])) := made_same hn hd
  refine ⟨n, dx, y, c, b, rfl, upd_same, ok, hP.mono s1, hw, hdp, rfl, cc n _ (made_upd hn hd) hn ?_⟩
  obtain ⟨dy, t, as, h1, h2, h3⟩ := (hP.mono s1).monoN (sb_self (SB.upd (o := .ins k.M dx (mF c b y)) (Z.Same.sb (Same.refl _))) upd_same)
  rw [PtAt]
  exact ⟨dx, y, dy, t, as, upd_same, h1, h2, h3⟩⟩
def spP (k : Cs) (K : PySem.W.Frag) : Sp := fun vs H Q _ => ∃ (q : Bool) (a : Addr) (l : List Pt) (as : List Addr), vs = [.ref a] ∧ OkL l ∧ SqK q K H a (as.map V.ref) ∧ PtsAt k K H l as ∧ wtL l ≤ 400 ∧ dpL l ≤ 30 ∧ ∀ x H', Same H H' → H x = none → PaAt k K H' l x → Q (.ref x) H'
theorem mk_P (h : MakX P w K mg base 4 "Pact" k.P (spPI k K)) : MakY P w K mg base 4 "Pact" (spP k K) := ⟨k.P, _, h, fun vs H Q E hq n dx hn hd ne => by
  obtain ⟨q, a, l, as, rfl, ok, hS, hP, hw, hdp, cc⟩ := hq
  have s1 : Same H (upd (upd H dx (.own n)) n (.ins k.P dx [])) := made_same hn hd
  refine ⟨q, n, dx, a, l, as, rfl, upd_same, ok, Z.Same.sqK s1 hS, PtsAt.mono s1 _ _ hP, hw, hdp, fun t H' sb hT hN => ⟨rfl, cc n H' (made_new (o := .own n) hn hd sb) hn ?_⟩⟩
  exact ⟨dx, t, as, hN, hT, PtsAt.monoN (smN_sb sb upd_same) _ _ (PtsAt.mono s1 _ _ hP)⟩⟩
end
end Z
set_option pp.maxSteps 700
set_option Elab.async false
set_option linter.all false
set_option maxRecDepth 100000
set_option maxHeartbeats 4000000
open SX (S S_inj S_len S_cat)
namespace Z
open Pk NdefX
open PySem PySem.Spec PyProof.Rows L2
open C8 (pss_cut tCut)
local macro_rules | `(tactic| walk_at "num") => `(tactic| first | rfl | omega | decide | exact Nat.le_of_lt (small1000 (by simp)) | exact ⟨by omega, by omega⟩ | exact ⟨by omega, by omega, by omega⟩ | exact ⟨by decide, by decide, by decide⟩ | exact Or.inl ⟨by omega, by omega⟩ | exact Or.inr ⟨by omega, by omega⟩)
local macro_rules | `(tactic| walk_at "go") => `(tactic| repeat (first | refine ⟨_, rfl, ?_⟩ | refine ⟨_, _, rfl, rfl, ?_⟩ | refine ⟨_, _, rfl, ?_⟩ | (refine ⟨_, _, rfl, rfl, ?_, ?_⟩; focus walk_at "num") | refine Or.inl ⟨_, rfl, ?_⟩ | refine ⟨_, _, _, _, rfl, rfl, (by assumption), (by rfl), ?_⟩ | refine ⟨_, _, _, _, _, rfl, (by assumption), (by assumption), (by assumption), (by rfl), ?_⟩ | refine ⟨rfl, ?_⟩ | (refine And.intro ?_ ?_; focus walk_at "num")))
abbrev s_build : Stmt := topS 64
abbrev N_build : List Str := ["_law_pact_here", "_law_part_here"]
abbrev P_build : List Str := ["_law_pact_here"]
theorem sc_build : FnScope N_build P_build (defScope s_build) := ⟨rfl, rfl, rfl, by decide +kernel, rfl, by decide +kernel, by decide +kernel⟩
abbrev s_build_part : Stmt := topS 65
abbrev N_build_part : List Str := ["_law_part_here", "_law_option"]
abbrev P_build_part : List Str := ["_law_part_here"]
theorem sc_build_part : FnScope N_build_part P_build_part (defScope s_build_part) := ⟨rfl, rfl, rfl, by decide +kernel, rfl, by decide +kernel, by decide +kernel⟩
section
variable {P : Program} {w : World} {K : PySem.W.Frag} {mg : Str → Option Value} {base : Heap} {f : Addr} {k : Cs} {fd : FuncData}
theorem Same.back {H H' : Hp} {x : Addr} (s : Same H H') (h : H' x = none) : H x = none := by
  cases e : H x with
  | none => rfl
  | some o => rw [s _ _ e] at h; cases h
theorem no_fn {CX : CXT} {m : Nat} {ps : List Str} {sp : Sp} (h : ∀ vs H Q E, ¬ sp vs H Q E) : FnOk P w K mg base CX m f fd ps sp := ⟨fun _ _ _ _ z => (h _ _ _ _ z).elim, fun _ _ _ _ _ _ _ _ _ _ _ _ _ z => (h _ _ _ _ z).elim⟩
def spBl (k : Cs) (K : PySem.W.Frag) (d : Nat) : Sp := fun vs H Q _ => ∃ (L : Addr) (l : List Pt), vs = [.ref L] ∧ DaAt H l L ∧ OkL l ∧ wtL l ≤ 400 ∧ dpL l ≤ 30 ∧ dpL l + 1 ≤ d ∧ ∀ x H', Same H H' → H x = none → PaAt k K H' l x → Q (.ref x) H'
def spBp (k : Cs) (K : PySem.W.Frag) (d : Nat) : Sp := fun vs H Q _ => ∃ (a : Addr) (p : Pt), vs = [.ref a] ∧ DtAt H p a ∧ Ok p ∧ wt p ≤ 400 ∧ dp p ≤ 30 ∧ dp p ≤ d ∧ ∀ x H', Same H H' → H x = none → PtAt k K H' p x → Q (.ref x) H'
theorem ok_build {d : Nat} (F : FnP K "_law_build" s_build f fd) (y_Pact : MakY P w K mg base 4 "Pact" (spP k K)) (c_build_part : Cal P w K mg base (2 * d + 7) "_law_build_part" (spBp k K d)) : FnOk P w K mg base CX0 (2 * d + 8) f fd P_build (spBl k K (d + 1)) := by
  refine F.ok sc_build (fun vs H Q E h => ?_) (fun cdv A outer s H vs Q E hr h => ?_)
  · obtain ⟨L, l, rfl, _⟩ := h
    rfl
  · obtain ⟨L, l, rfl, ⟨bs, hL, hD⟩, ok, hw, hd, hd2, qq⟩ := h
    refine ⟨_, PSs.nox (pss_one (ps_ret (pe_mkY y_Pact (fun _ => passS0) hr (by omega) (by rfl) (pa_cons (pe_lc (own := [("_law_part_here", 1)]) (g := (gName 1)) (tt := tYes) (by rfl) sc_build.nd (pi_list (pv 0)) (blkOk_by (own := [("_law_part_here", 1)]) (N := N_build) (sc := defScope s_build) (by decide +kernel)) (fun _ _ _ _ _ => (pg_name (i := 1) sc_build.nd rfl (by first | exact .inl rfl | exact .inr rfl))) (fun _ _ _ _ _ => pts_nil) (fun _ _ _ _ _ => (pe_cl c_build_part hr (by omega) (by rfl) (pa_cons (pv 1) pa_nil)))) pa_nil)))), ?_⟩
    have lw := len_wt l
    have lb := DtsAt.len _ _ hD
    walk_at "go"
    refine ⟨⟨_, SqL.of hL⟩, ?_⟩
    intro D nD
    refine lc_relL (fun i J y => ∃ x p, y = .ref x ∧ l[i]? = some p ∧ PtAt k K J p x) (fun i X Y y s h => ?_) (SqL.of hL) (by rw [List.length_map]; omega) nD (fun x => rfl) (fun i x J Q4 ex s4 q4 => ?_) (fun J ys s4 eD ly hG => ?_)
    · obtain ⟨x, p, h1, h2, h3⟩ := h
      exact ⟨x, p, h1, h2, PtAt.monoW s _ _ h3⟩
    · obtain ⟨y, p, rfl, ep, hp⟩ := DtsAt.gets _ _ hD i x ex
      have pm := List.mem_of_getElem? ep
      have := wtL_mem pm
      have := dpL_mem pm
      walk_at "go"
      refine ⟨y, p, rfl, hp.mono s4, okL_iff.mp ok p pm, by omega, by omega, by omega, fun z J2 s2 _ hz => q4 _ _ s2 ⟨z, p, rfl, ep, hz⟩⟩
    obtain ⟨as, rfl⟩ := refs_of ys fun i y e => by
      obtain ⟨x, p, h1, _⟩ := hG i y e
      exact ⟨x, h1⟩
    rw [List.length_map, List.length_map, lb] at ly
    walk_at "go"
    refine ⟨true, D, l, as, rfl, ok, SqL.of eD, ptsAt_of l as ly fun i p a ep ea => ?_, hw, hd, fun x H' s5 hx hP => qq x H' (s4.trans s5) (Same.back s4 hx) hP⟩
    obtain ⟨x, p2, h1, h2, h3⟩ := hG i (.ref a) (by rw [List.getElem?_map, ea]; rfl)
    cases h1
    rw [ep] at h2
    cases h2
    exact h3
theorem ok_build_part {d : Nat} (F : FnP K "_law_build_part" s_build_part f fd) (y_Transfer : MakY P w K mg base 5 "Transfer" (spT k K)) (y_Event : MakY P w K mg base 5 "Event" (spE k K)) (y_Choice : MakY P w K mg base 5 "Choice" (spC k K)) (y_Rounds : MakY P w K mg base 5 "Rounds" (spR k K)) (y_Endless : MakY P w K mg base 5 "Endless" (spN k K)) (y_Times : MakY P w K mg base 5 "Times" (spM k K)) (c_build : Cal P w K mg base (2 * d + 6) "_law_build" (spBl k K d)) : FnOk P w K mg base CX0 (2 * d + 7) f fd P_build_part (spBp k K d) := by
  refine F.ok sc_build_part (fun vs H Q E h => ?_) (fun cdv A outer s H vs Q E hr h => ?_)
  · obtain ⟨a, p, rfl, _⟩ := h
    rfl
  · obtain ⟨a, p, rfl, hD, ok, hw, hd, hd2, qq⟩ := h
    refine ⟨_, PSs.nox (pss_cons (ps_if (pt_cmpR op_eq (pe_ix ix_tup (pv 0) pe_int (fun _ _ => rfl)) pe_str (nomark _)) (pss_one (ps_ret (pe_mkY y_Transfer (fun _ => passS0) hr (by omega) (by rfl) (pa_cons (pe_ix ix_tup (pv 0) pe_int (fun _ _ => rfl)) (pa_cons (pe_ix ix_tup (pv 0) pe_int (fun _ _ => rfl)) (pa_cons (pe_ix ix_tup (pv 0) pe_int (fun _ _ => rfl)) pa_nil)))))) pss_nil)
      (pss_cons (ps_if (pt_cmpR op_eq (pe_ix ix_tup (pv 0) pe_int (fun _ _ => rfl)) pe_str (nomark _)) (pss_one (ps_ret (pe_mkY y_Event (fun _ => passS0) hr (by omega) (by rfl) (pa_cons (pe_ix ix_tup (pv 0) pe_int (fun _ _ => rfl)) pa_nil)))) pss_nil)
      (pss_cons (ps_if (pt_cmpR op_eq (pe_ix ix_tup (pv 0) pe_int (fun _ _ => rfl)) pe_str (nomark _)) (pss_one (ps_ret (pe_mkY y_Choice (fun _ => passS0) hr (by omega) (by rfl) (pa_cons (pe_ix ix_tup (pv 0) pe_int (fun _ _ => rfl)) (pa_cons (pe_lc (own := [("_law_option", 1)]) (g := (gName 1)) (tt := tYes) (by rfl) sc_build_part.nd (pi_list (pe_ix ix_tup (pv 0) pe_int (fun _ _ => rfl))) (blkOk_by (own := [("_law_option", 1)]) (N := N_build_part) (sc := defScope s_build_part) (by decide +kernel)) (fun _ _ _ _ _ => (pg_name (i := 1) sc_build_part.nd rfl (by first | exact .inl rfl | exact .inr rfl))) (fun _ _ _ _ _ => pts_nil) (fun _ _ _ _ _ => (pe_cl c_build hr (by omega) (by rfl) (pa_cons (pv 1) pa_nil)))) pa_nil))))) pss_nil)
      (pss_cons (ps_if (pt_cmpR op_eq (pe_ix ix_tup (pv 0) pe_int (fun _ _ => rfl)) pe_str (nomark _)) (pss_one (ps_ret (pe_mkY y_Rounds (fun _ => passS0) hr (by omega) (by rfl) (pa_cons (pe_ix ix_tup (pv 0) pe_int (fun _ _ => rfl)) (pa_cons (pe_cl c_build hr (by omega) (by rfl) (pa_cons (pe_ix ix_tup (pv 0) pe_int (fun _ _ => rfl)) pa_nil)) pa_nil))))) pss_nil)
      (pss_cons (ps_if (pt_cmpR op_eq (pe_ix ix_tup (pv 0) pe_int (fun _ _ => rfl)) pe_str (nomark _)) (pss_one (ps_ret (pe_mkY y_Endless (fun _ => passS0) hr (by omega) (by rfl) (pa_cons (pe_cl c_build hr (by omega) (by rfl) (pa_cons (pe_ix ix_tup (pv 0) pe_int (fun _ _ => rfl)) pa_nil)) pa_nil)))) pss_nil)
      (pss_one (ps_ret (pe_mkY y_Times (fun _ => passS0) hr (by omega) (by rfl) (pa_cons (pe_ix ix_tup (pv 0) pe_int (fun _ _ => rfl)) (pa_cons (pe_cl c_build hr (by omega) (by rfl) (pa_cons (pe_ix ix_tup (pv 0) pe_int (fun _ _ => rfl)) pa_nil)) pa_nil)))))))))), ?_⟩
    have hD0 := hD
    match p, hD, ok, hw, hd, hd2, qq with
    | .tr p q m, hD, ok, hw, hd, hd2, qq =>
      rw [DtAt] at hD
      have hT : SqT K H a _ := SqT.of hD
      walk_at "go"
      exact ⟨p, q, m, rfl, ok, qq⟩
    | .ev c, hD, ok, hw, hd, hd2, qq =>
      rw [DtAt] at hD
      have hT : SqT K H a _ := SqT.of hD
      walk_at "go"
      exact qq
    | .ch o os, hD, ok, hw, hd, hd2, qq =>
      rw [DtAt] at hD
      obtain ⟨L, as, hD, hL, hA⟩ := hD
      have hT : SqT K H a _ := SqT.of hD
      walk_at "go"
      refine ⟨⟨_, SqL.of hL⟩, ?_⟩
      intro D nD
      have la := DasAt.len _ _ hA
      have okk := ok
      rw [Ok] at okk
      have hw2 := hw
      rw [wt] at hw2
      have hd3 := hd
      have hd4 := hd2
      rw [dp] at hd3 hd4
      refine lc_relL (fun i J y => ∃ x b, y = .ref x ∧ os[i]? = some b ∧ PaAt k K J b x) (fun i X Y y s h => ?_) (SqL.of hL) (by rw [List.length_map]; omega) nD (fun x => rfl) (fun i x J Q4 ex s4 q4 => ?_) (fun J ys s4 eD ly hG => ?_)
      · obtain ⟨x, p, h1, h2, h3⟩ := h
        exact ⟨x, p, h1, h2, PaAt.monoW s h3⟩
      · obtain ⟨y, b, rfl, ep, hp⟩ := DasAt.gets _ _ hA i x ex
        have pm := List.mem_of_getElem? ep
        have := wtLL_mem pm
        have := dpLL_mem pm
        walk_at "go"
        refine ⟨y, b, rfl, hp.mono s4, okLL_iff.mp okk.2.2.2 b pm, by omega, by omega, by omega, fun z J2 s2 _ hz => q4 _ _ s2 ⟨z, b, rfl, ep, hz⟩⟩
      obtain ⟨bs, rfl⟩ := refs_of ys fun i y e => by
        obtain ⟨x, p, h1, _⟩ := hG i y e
        exact ⟨x, h1⟩
      rw [List.length_map, List.length_map, la] at ly
      walk_at "go"
      refine ⟨true, D, o, os, bs, rfl, ok, SqL.of eD, pasAt_of os bs ly fun i p a ep ea => ?_, hw, hd, fun x H' s5 hx hP => qq x H' (s4.trans s5) (Same.back s4 hx) hP⟩
      obtain ⟨x, p2, h1, h2, h3⟩ := hG i (.ref a) (by rw [List.getElem?_map, ea]; rfl)
      cases h1
      rw [ep] at h2
      cases h2
      exact h3
    | .rd o b, hD, ok, hw, hd, hd2, qq =>
      rw [DtAt] at hD
      obtain ⟨L, as, hD, hL, hA⟩ := hD
      have hT : SqT K H a _ := SqT.of hD
      walk_at "go"
      rw [Ok] at ok
      rw [wt] at hw
      rw [dp] at hd hd2
      refine ⟨L, b, rfl, ⟨as, hL, hA⟩, ok.2, by omega, by omega, by omega, fun y H1 s1 ny hy => ?_⟩
      refine ⟨y, o, b, rfl, by rw [Ok]; exact ok, hy, by rw [wt]; exact hw, by rw [dp]; exact hd, fun x H2 s2 nx hx => qq x H2 (s1.trans s2) (Same.back s1 nx) hx⟩
    | .en b, hD, ok, hw, hd, hd2, qq =>
      rw [DtAt] at hD
      obtain ⟨L, as, hD, hL, hA⟩ := hD
      have hT : SqT K H a _ := SqT.of hD
      walk_at "go"
      rw [Ok] at ok
      rw [wt] at hw
      rw [dp] at hd hd2
      refine ⟨L, b, rfl, ⟨as, hL, hA⟩, ok, by omega, by omega, by omega, fun y H1 s1 ny hy => ?_⟩
      refine ⟨y, b, rfl, by rw [Ok]; exact ok, hy, by rw [wt]; exact hw, by rw [dp]; exact hd, fun x H2 s2 nx hx => qq x H2 (s1.trans s2) (Same.back s1 nx) hx⟩
    | .ti c b, hD, ok, hw, hd, hd2, qq =>
      rw [DtAt] at hD
      obtain ⟨L, as, hD, hL, hA⟩ := hD
      have hT : SqT K H a _ := SqT.of hD
      walk_at "go"
      rw [Ok] at ok
      rw [wt] at hw
      rw [dp] at hd hd2
      have h4 : wtL b ≤ wtL b * (if c < 1 then 1 else c) := Nat.le_mul_of_pos_right _ (by split <;> omega)
      refine ⟨L, b, rfl, ⟨as, hL, hA⟩, ok.2, by omega, by omega, by omega, fun y H1 s1 ny hy => ?_⟩
      refine ⟨y, c, b, rfl, by rw [Ok]; exact ok, hy, by rw [wt]; exact hw, by rw [dp]; exact hd, fun x H2 s2 nx hx => qq x H2 (s1.trans s2) (Same.back s1 nx) hx⟩
end
end Z
set_option pp.maxSteps 700
set_option Elab.async false
set_option linter.all false
set_option maxRecDepth 100000
set_option maxHeartbeats 4000000
open SX (S S_inj S_len S_cat)
namespace Z
open Pk NdefX
open PySem PySem.Spec PyProof.Rows L2
open C8 (pss_cut tCut)
local macro_rules | `(tactic| walk_at "num") => `(tactic| first | rfl | omega | decide | exact Nat.le_of_lt (small1000 (by simp)) | exact ⟨by omega, by omega⟩ | exact ⟨by omega, by omega, by omega⟩ | exact ⟨by decide, by decide, by decide⟩ | exact Or.inl ⟨by omega, by omega⟩ | exact Or.inr ⟨by omega, by omega⟩)
local macro_rules | `(tactic| walk_at "go") => `(tactic| repeat (first | refine ⟨_, rfl, ?_⟩ | refine ⟨_, _, rfl, rfl, ?_⟩ | refine ⟨_, _, rfl, ?_⟩ | (refine ⟨_, _, rfl, rfl, ?_, ?_⟩; focus walk_at "num") | refine Or.inl ⟨_, rfl, ?_⟩ | refine ⟨_, _, _, _, rfl, rfl, (by assumption), (by rfl), ?_⟩ | refine ⟨_, _, _, _, _, rfl, (by assumption), (by assumption), (by assumption), (by rfl), ?_⟩ | refine ⟨rfl, ?_⟩ | (refine And.intro ?_ ?_; focus walk_at "num")))
abbrev s_weight : Stmt := topS 61
abbrev N_weight : List Str := ["_law_pact_here", "_law_part_here"]
abbrev P_weight : List Str := ["_law_pact_here"]
theorem sc_weight : FnScope N_weight P_weight (defScope s_weight) := ⟨rfl, rfl, rfl, by decide +kernel, rfl, by decide +kernel, by decide +kernel⟩
abbrev s_part_weight : Stmt := topS 62
abbrev N_part_weight : List Str := ["_law_part_here", "_law_option"]
abbrev P_part_weight : List Str := ["_law_part_here"]
theorem sc_part_weight : FnScope N_part_weight P_part_weight (defScope s_part_weight) := ⟨rfl, rfl, rfl, by decide +kernel, rfl, by decide +kernel, by decide +kernel⟩
abbrev s_cut : Stmt := topS 63
abbrev N_cut : List Str := ["_law_pact_here", "_law_limit", "_law_kept", "_law_part_here"]
abbrev P_cut : List Str := ["_law_pact_here", "_law_limit"]
theorem sc_cut : FnScope N_cut P_cut (defScope s_cut) := ⟨rfl, rfl, rfl, by decide +kernel, rfl, by decide +kernel, by decide +kernel⟩
section
variable {P : Program} {w : World} {K : PySem.W.Frag} {mg : Str → Option Value} {base : Heap} {f : Addr} {k : Cs} {fd : FuncData}
def spWl (d : Nat) : Sp := fun vs H Q _ => ∃ (L : Addr) (l : List Pt), vs = [.ref L] ∧ DaAt H l L ∧ OkL l ∧ wtL l ≤ 1000000 ∧ dpL l + 1 ≤ d ∧ ∀ H', Same H H' → Q (.int (wtL l : Int)) H'
def spWp (d : Nat) : Sp := fun vs H Q _ => ∃ (a : Addr) (p : Pt), vs = [.ref a] ∧ DtAt H p a ∧ Ok p ∧ wt p ≤ 1000000 ∧ dp p ≤ d ∧ ∀ H', Same H H' → Q (.int (wt p : Int)) H'
theorem ok_weight {d : Nat} (F : FnP K "_law_weight" s_weight f fd) (m_sum : mg "sum" = none) (c_part_weight : Cal P w K mg base (2 * d + 7) "_law_part_weight" (spWp d)) : FnOk P w K mg base CX0 (2 * d + 8) f fd P_weight (spWl (d + 1)) := by
  refine F.ok sc_weight (fun vs H Q E h => ?_) (fun cdv A outer s H vs Q E hr h => ?_)
  · obtain ⟨L, l, rfl, _⟩ := h
    rfl
  · obtain ⟨L, l, rfl, ⟨bs, hL, hD⟩, ok, hw, hd, qq⟩ := h
    refine ⟨_, PSs.nox (pss_one (ps_ret (pe_callB (cr_sum rfl) (by rfl) m_sum (by decide +kernel) (pa_cons (pe_lc (own := [("_law_part_here", 1)]) (g := (gName 1)) (tt := tYes) (by rfl) sc_weight.nd (pi_list (pv 0)) (blkOk_by (own := [("_law_part_here", 1)]) (N := N_weight) (sc := defScope s_weight) (by decide +kernel)) (fun _ _ _ _ _ => (pg_name (i := 1) sc_weight.nd rfl (by first | exact .inl rfl | exact .inr rfl))) (fun _ _ _ _ _ => pts_nil) (fun _ _ _ _ _ => (pe_cl c_part_weight hr (by omega) (by rfl) (pa_cons (pv 1) pa_nil)))) pa_nil)))), ?_⟩
    have lw := len_wt l
    have lb := DtsAt.len _ _ hD
    walk_at "go"
    refine ⟨⟨_, SqL.of hL⟩, ?_⟩
    intro D nD
    refine lc_vsL (SqL.of hL) (l.map fun p => .int (wt p : Int)) (by rw [List.length_map, List.length_map, lb]) (by rw [List.length_map]; omega) nD (fun x => rfl) (fun i x y J Q4 ex ey s4 q4 => ?_) (fun J s4 eD => ?_)
    · obtain ⟨y2, p, rfl, ep, hp⟩ := DtsAt.gets _ _ hD i x ex
      rw [List.getElem?_map, ep] at ey
      cases ey
      have pm := List.mem_of_getElem? ep
      have := wtL_mem pm
      have := dpL_mem pm
      walk_at "go"
      exact ⟨y2, p, rfl, hp.mono s4, okL_iff.mp ok p pm, by omega, by omega, fun J2 s2 => q4 _ s2⟩
    walk_at "go"
    refine ⟨D, l.map fun p => (wt p : Int), rfl, SqL.of (by rw [List.map_map]; exact eD), ?_⟩
    rw [isum, ← wtL_sum]
    exact qq _ s4
theorem ok_part_weight {d : Nat} (F : FnP K "_law_part_weight" s_part_weight f fd) (m_sum : mg "sum" = none) (m_max : mg "max" = none) (c_weight : Cal P w K mg base (2 * d + 6) "_law_weight" (spWl d)) : FnOk P w K mg base CX0 (2 * d + 7) f fd P_part_weight (spWp d) := by
  refine F.ok sc_part_weight (fun vs H Q E h => ?_) (fun cdv A outer s H vs Q E hr h => ?_)
  · obtain ⟨a, p, rfl, _⟩ := h
    rfl
  · obtain ⟨a, p, rfl, hD, ok, hw, hd, qq⟩ := h
    refine ⟨_, PSs.nox (pss_cons (ps_if (PW.pt (pw_or (pt_cmpR op_eq (pe_ix ix_tup (pv 0) pe_int (fun _ _ => rfl)) pe_str (nomark _)) (pw_or1 (pt_cmpR op_eq (pe_ix ix_tup (pv 0) pe_int (fun _ _ => rfl)) pe_str (nomark _))))) (pss_one (ps_ret pe_int)) pss_nil)
      (pss_cons (ps_if (pt_cmpR op_eq (pe_ix ix_tup (pv 0) pe_int (fun _ _ => rfl)) pe_str (nomark _)) (pss_one (ps_ret (pe_op op_add pe_int (pe_callB (cr_sum rfl) (by rfl) m_sum (by decide +kernel) (pa_cons (pe_lc (own := [("_law_option", 1)]) (g := (gName 1)) (tt := tYes) (by rfl) sc_part_weight.nd (pi_list (pe_ix ix_tup (pv 0) pe_int (fun _ _ => rfl))) (blkOk_by (own := [("_law_option", 1)]) (N := N_part_weight) (sc := defScope s_part_weight) (by decide +kernel)) (fun _ _ _ _ _ => (pg_name (i := 1) sc_part_weight.nd rfl (by first | exact .inl rfl | exact .inr rfl))) (fun _ _ _ _ _ => pts_nil) (fun _ _ _ _ _ => (pe_cl c_weight hr (by omega) (by rfl) (pa_cons (pv 1) pa_nil)))) pa_nil))))) pss_nil)
      (pss_cons (ps_if (pt_cmpR op_eq (pe_ix ix_tup (pv 0) pe_int (fun _ _ => rfl)) pe_str (nomark _)) (pss_one (ps_ret (pe_op op_add pe_int (pe_op op_mul (pe_callB (call_max2 rfl) (by rfl) m_max (by decide +kernel) (pa_cons pe_int (pa_cons (pe_ix ix_tup (pv 0) pe_int (fun _ _ => rfl)) pa_nil))) (pe_cl c_weight hr (by omega) (by rfl) (pa_cons (pe_ix ix_tup (pv 0) pe_int (fun _ _ => rfl)) pa_nil)))))) pss_nil)
      (pss_cons (ps_if (pt_cmpR op_eq (pe_ix ix_tup (pv 0) pe_int (fun _ _ => rfl)) pe_str (nomark _)) (pss_one (ps_ret (pe_op op_add pe_int (pe_cl c_weight hr (by omega) (by rfl) (pa_cons (pe_ix ix_tup (pv 0) pe_int (fun _ _ => rfl)) pa_nil))))) pss_nil)
      (pss_one (ps_ret (pe_op op_add pe_int (pe_cl c_weight hr (by omega) (by rfl) (pa_cons (pe_ix ix_tup (pv 0) pe_int (fun _ _ => rfl)) pa_nil))))))))), ?_⟩
    match p, hD, ok, hw, hd, qq with
    | .tr p q m, hD, ok, hw, hd, qq =>
      rw [DtAt] at hD
      have hT : SqT K H a _ := SqT.of hD
      rw [wt] at qq
      walk_at "go"
      exact qq _ (Same.refl _)
    | .ev c, hD, ok, hw, hd, qq =>
      rw [DtAt] at hD
      have hT : SqT K H a _ := SqT.of hD
      rw [wt] at qq
      walk_at "go"
      exact qq _ (Same.refl _)
    | .ch o os, hD, ok, hw, hd, qq =>
      rw [DtAt] at hD
      obtain ⟨L, as, hD, hL, hA⟩ := hD
      have hT : SqT K H a _ := SqT.of hD
      rw [wt] at hw qq
      rw [dp] at hd
      have la := DasAt.len _ _ hA
      rw [Ok] at ok
      walk_at "go"
      refine ⟨⟨_, SqL.of hL⟩, ?_⟩
      intro D nD
      refine lc_vsL (SqL.of hL) (os.map fun p => .int (wtL p : Int)) (by rw [List.length_map, List.length_map, la]) (by rw [List.length_map]; omega) nD (fun x => rfl) (fun i x y J Q4 ex ey s4 q4 => ?_) (fun J s4 eD => ?_)
      · obtain ⟨y2, p, rfl, ep, hp⟩ := DasAt.gets _ _ hA i x ex
        rw [List.getElem?_map, ep] at ey
        cases ey
        have pm := List.mem_of_getElem? ep
        have := wtLL_mem pm
        have := dpLL_mem pm
        walk_at "go"
        exact ⟨y2, p, rfl, hp.mono s4, okLL_iff.mp ok.2.2.2 p pm, by omega, by omega, fun J2 s2 => q4 _ s2⟩
      walk_at "go"
      refine ⟨D, os.map fun p => (wtL p : Int), rfl, SqL.of (by rw [List.map_map]; exact eD), ?_⟩
      rw [isum, ← wtLL_sum]
      walk_at "go"
      show Q (V.int (1 + (wtLL os : Int))) J
      rw [show 1 + (wtLL os : Int) = ((1 + wtLL os : Nat) : Int) by omega]
      exact qq _ s4
    | .rd o b, hD, ok, hw, hd, qq =>
      rw [DtAt] at hD
      obtain ⟨L, as, hD, hL, hA⟩ := hD
      have hT : SqT K H a _ := SqT.of hD
      rw [wt] at hw qq
      rw [dp] at hd
      rw [Ok] at ok
      walk_at "go"
      refine ⟨L, b, rfl, ⟨as, hL, hA⟩, ok.2, by omega, by omega, fun H1 s1 => ?_⟩
      walk_at "go"
      show Q (V.int (1 + (wtL b : Int))) H1
      rw [show 1 + (wtL b : Int) = ((wtL b + 1 : Nat) : Int) by omega]
      exact qq _ s1
    | .en b, hD, ok, hw, hd, qq =>
      rw [DtAt] at hD
      obtain ⟨L, as, hD, hL, hA⟩ := hD
      have hT : SqT K H a _ := SqT.of hD
      rw [wt] at hw qq
      rw [dp] at hd
      rw [Ok] at ok
      walk_at "go"
      refine ⟨L, b, rfl, ⟨as, hL, hA⟩, ok, by omega, by omega, fun H1 s1 => ?_⟩
      walk_at "go"
      show Q (V.int (1 + (wtL b : Int))) H1
      rw [show 1 + (wtL b : Int) = ((wtL b + 1 : Nat) : Int) by omega]
      exact qq _ s1
    | .ti c b, hD, ok, hw, hd, qq =>
      rw [DtAt] at hD
      obtain ⟨L, as, hD, hL, hA⟩ := hD
      have hT : SqT K H a _ := SqT.of hD
      rw [wt] at hw qq
      rw [dp] at hd
      rw [Ok] at ok
      have h4 : wtL b ≤ wtL b * (if c < 1 then 1 else c) := Nat.le_mul_of_pos_right _ (by split <;> omega)
      walk_at "go"
      refine ⟨L, b, rfl, ⟨as, hL, hA⟩, ok.2, by omega, by omega, fun H1 s1 => ?_⟩
      obtain ⟨z, hz⟩ : ∃ z : Nat, z = if c < 1 then 1 else c := ⟨_, rfl⟩
      have hz2 : (if (c : Int) > 1 then (c : Int) else 1) = (z : Int) := by
        rw [hz]
        by_cases c1 : c < 1
        · rw [if_pos c1, if_neg (by omega)]
          rfl
        · rw [if_neg c1]
          by_cases c2 : (c : Int) > 1
          · rw [if_pos c2]
          · rw [if_neg c2]
            omega
      have zl : z ≤ 100 := by rw [hz]; split <;> omega
      rw [hz2]
      rw [← hz] at qq
      refine ⟨_, _, rfl, rfl, .inl ⟨by omega, by omega⟩, ?_⟩
      walk_at "go"
      show Q (V.int (1 + (z : Int) * (wtL b : Int))) H1
      rw [show 1 + (z : Int) * (wtL b : Int) = ((wtL b * z + 1 : Nat) : Int) by rw [Nat.mul_comm]; push_cast; omega]
      exact qq _ s1
def spCut (d : Nat) : Sp := fun vs H Q _ => ∃ (L : Addr) (l : List Pt) (n : Nat), vs = [.ref L, .int (n : Int)] ∧ DaAt H l L ∧ OkL l ∧ wtL l ≤ 1000000 ∧ dpL l + 1 ≤ d ∧ ∀ (D : Addr) (m : List Pt) (bs : List Addr) H', Same H H' → H D = none → H' D = some (.lst (bs.map V.ref)) → DtsAt H m bs → OkL m → wtL m ≤ n → dpL m ≤ dpL l → m.length ≤ l.length → Q (.ref D) H'
theorem ok_cut {d : Nat} (F : FnP K "_law_cut" s_cut f fd) (c_weight : Cal P w K mg base (2 * d + 6) "_law_weight" (spWl d)) (c_part_weight : Cal P w K mg base (2 * d + 7) "_law_part_weight" (spWp d)) : FnOk P w K mg base CX0 (2 * d + 8) f fd P_cut (spCut d) := by
  refine F.ok sc_cut (fun vs H Q E h => ?_) (fun cdv A outer s H vs Q E hr h => ?_)
  · obtain ⟨L, l, n, rfl, _⟩ := h
    rfl
  · obtain ⟨L, l, n, rfl, ⟨as, hL, hD⟩, ok, hw, hd, qq⟩ := h
    refine ⟨_, PSs.nox (pss_cons (ps_set (i := 2) sc_cut.nd rfl (by first | exact .inl rfl | exact .inr rfl) (pe_lst pa_nil))
      (pss_cons (ps_for PassesOwn.never rfl (pi_list (pv 0)) (pg_name (i := 3) sc_cut.nd rfl (by first | exact .inl rfl | exact .inr rfl))
        (pss_one (ps_if (pt_cmpR op_le (pe_op op_add (pe_cl c_weight hr (by omega) (by rfl) (pa_cons (pv 2) pa_nil)) (pe_cl c_part_weight hr (by omega) (by rfl) (pa_cons (pv 3) pa_nil))) (pv 1) (nomark _)) (pss_one (ps_expr (pe_bm PySem.F.plainAttrs_list PySem.F.slot_list_append PySem.F.type_list_append mt_append (pv 2) (pa_cons (pv 3) pa_nil)))) pss_nil)))
      (pss_one (ps_ret (pv 2))))), ?_⟩
    have lw := len_wt l
    have lb := DtsAt.len _ _ hD
    walk_at "go"
    intro D nD
    walk_at "go"
    refine ⟨⟨_, SqL.of (same_new nD _ _ hL)⟩, ?_⟩
    refine for_vs (SqL.of hL) (fun i σ J => Same H J ∧ ∃ (m : List Pt) (bs : List Addr) (v : Option V), J D = some (.lst (bs.map V.ref)) ∧ DtsAt H m bs ∧ OkL m ∧ (0 < m.length → wtL m ≤ n) ∧ wtL m ≤ wtL (l.take i) ∧ dpL m ≤ dpL l ∧ m.length ≤ i ∧ σ = [some (.ref L), some (.int (n : Int)), some (.ref D), v]) ⟨same_new nD, [], [], none, upd_same, by rw [DtsAt], by rw [OkL]; trivial, fun h => absurd h (Nat.lt_irrefl _), Nat.zero_le _, Nat.zero_le _, Nat.le_refl _, rfl⟩ (fun i σ J h => h.1) (fun i x σ J ex h => ?_) (fun σ J h => ?_)
    · obtain ⟨s1, m, bs, v, eD, hm, okm, hwm, hwm2, hdm, lm, rfl⟩ := h
      obtain ⟨y, p, rfl, ep, hp⟩ := DtsAt.gets _ _ hD i x ex
      have pm := List.mem_of_getElem? ep
      have wp := wtL_mem pm
      have dpp := dpL_mem pm
      have okp := okL_iff.mp ok p pm
      have li := (List.getElem?_eq_some_iff.mp ep).1
      have et : wtL (l.take (i + 1)) = wtL (l.take i) + wt p := by
        rw [List.take_add_one, ep, wtL_app]
        show _ + wtL [p] = _
        rw [wtL, wtL, Nat.add_zero]
      have tl : wtL (l.take i) + wt p ≤ wtL l := by
        have : wtL l = wtL (l.take (i + 1)) + wtL (l.drop (i + 1)) := by rw [← wtL_app, List.take_append_drop]
        omega
      walk_at "go"
      refine ⟨D, m, rfl, ⟨bs, eD, hm.mono s1⟩, okm, by omega, by omega, fun J2 s2 => ?_⟩
      walk_at "go"
      refine ⟨y, p, rfl, hp.mono (s1.trans s2), okp, by omega, by omega, fun J3 s3 => ?_⟩
      walk_at "go"
      have s123 := (s1.trans s2).trans s3
      have eD3 := s3 _ _ (s2 _ _ eD)
      refine ite2 (fun e => ?_) (fun e => ?_)
      · have e := of_decide_eq_true e
        walk_at "go"
        refine ⟨.inl ⟨rfl, _, SqL.of eD3⟩, ?_⟩
        walk_at "go"
        refine ⟨D, _, _, rfl, rfl, eD3, Nat.lt_of_le_of_lt (show (bs.map V.ref).length ≤ 1000000 by rw [List.length_map, DtsAt.len _ _ hm]; omega) (by decide), ?_⟩
        refine ⟨Z.Same.mut s123 nD, m ++ [p], bs ++ [y], _, by rw [upd_same, List.map_append]; rfl, dtsAt_app _ _ _ _ hm (dtsAt_one hp), okL_iff.mpr fun q hq => ?_, fun _ => ?_, ?_, ?_, ?_, rfl⟩
        · rcases List.mem_append.mp hq with hq | hq
          · exact okL_iff.mp okm q hq
          · rw [List.mem_singleton.mp hq]
            exact okp
        · rw [wtL_app, wtL, wtL]
          omega
        · rw [wtL_app, wtL, wtL]
          omega
        · rw [dpL_app, dpL, dpL]
          omega
        · rw [List.length_append, List.length_cons, List.length_nil]
          omega
      · exact ⟨s123, m, bs, _, eD3, hm, okm, hwm, by omega, hdm, by omega, rfl⟩
    · obtain ⟨s1, m, bs, v, eD, hm, okm, hwm, hwm2, hdm, lm, rfl⟩ := h
      walk_at "go"
      refine qq D m bs J s1 nD eD hm okm ?_ hdm (by rw [List.length_map, lb] at lm; exact lm)
      match m, hwm with
      | [], _ => exact Nat.zero_le _
      | p :: m, h => exact h (Nat.succ_pos _)
end
end Z
set_option pp.maxSteps 700
set_option Elab.async false
set_option linter.all false
set_option maxRecDepth 100000
set_option maxHeartbeats 4000000
open SX (S S_inj S_len S_cat)
namespace Z
open Pk NdefX
open PySem PySem.Spec PyProof.Rows L2
open C8 (pss_cut tCut)
local macro_rules | `(tactic| walk_at "num") => `(tactic| first | rfl | omega | decide | exact Nat.le_of_lt (small1000 (by simp)) | exact ⟨by omega, by omega⟩ | exact ⟨by omega, by omega, by omega⟩ | exact ⟨by decide, by decide, by decide⟩ | exact Or.inl ⟨by omega, by omega⟩ | exact Or.inr ⟨by omega, by omega⟩)
local macro_rules | `(tactic| walk_at "go") => `(tactic| repeat (first | refine ⟨_, rfl, ?_⟩ | refine ⟨_, _, rfl, rfl, ?_⟩ | refine ⟨_, _, rfl, ?_⟩ | (refine ⟨_, _, rfl, rfl, ?_, ?_⟩; focus walk_at "num") | refine Or.inl ⟨_, rfl, ?_⟩ | refine ⟨_, _, _, _, rfl, rfl, (by assumption), (by rfl), ?_⟩ | refine ⟨_, _, _, _, _, rfl, (by assumption), (by assumption), (by assumption), (by rfl), ?_⟩ | refine ⟨rfl, ?_⟩ | (refine And.intro ?_ ?_; focus walk_at "num")))
abbrev s_amount : Stmt := topS 58
abbrev N_amount : List Str := ["_law_draw", "_law_value", "_law_k"]
abbrev P_amount : List Str := ["_law_draw"]
theorem sc_amount : FnScope N_amount P_amount (defScope s_amount) := ⟨rfl, rfl, rfl, by decide +kernel, rfl, by decide +kernel, by decide +kernel⟩
abbrev s_pact : Stmt := topS 59
abbrev N_pact : List Str := ["_law_draws_here", "_law_place", "_law_depth", "_law_parties_here", "_law_marks", "_law_size_here", "_law_k"]
abbrev P_pact : List Str := ["_law_draws_here", "_law_place", "_law_depth", "_law_parties_here", "_law_marks"]
theorem sc_pact : FnScope N_pact P_pact (defScope s_pact) := ⟨rfl, rfl, rfl, by decide +kernel, rfl, by decide +kernel, by decide +kernel⟩
abbrev s_part : Stmt := topS 60
abbrev N_part : List Str := ["_law_draws_here", "_law_place", "_law_depth", "_law_parties_here", "_law_marks", "_law_kind", "_law_draw", "_law_many", "_law_owner", "_law_payee", "_law_size_here", "_law_k", "_law_body"]
abbrev P_part : List Str := ["_law_draws_here", "_law_place", "_law_depth", "_law_parties_here", "_law_marks"]
theorem sc_part : FnScope N_part P_part (defScope s_part) := ⟨rfl, rfl, rfl, by decide +kernel, rfl, by decide +kernel, by decide +kernel⟩
section
variable {P : Program} {w : World} {K : PySem.W.Frag} {mg : Str → Option Value} {base : Heap} {f : Addr} {k : Cs} {fd : FuncData}
def spAm : Sp := fun vs H Q _ => ∃ d : Int, vs = [.int d] ∧ 0 ≤ d ∧ d < 1000000 ∧ ∀ m : Nat, m ≤ 10 ^ 57 → Q (.int (m : Int)) H
theorem ok_amount (F : FnP K "_law_amount" s_amount f fd) (m_int : mg "int" = none) (m_range : mg "range" = none) : FnOk P w K mg base CX0 1 f fd P_amount spAm := by
  refine F.ok sc_amount (fun vs H Q E h => ?_) (fun cdv A outer s H vs Q E hr h => ?_)
  · obtain ⟨d, rfl, _⟩ := h
    rfl
  · obtain ⟨d, rfl, d0, d1, q⟩ := h
    refine ⟨_, PSs.nox (pss_cons (ps_if (pt_cmpR op_ne (pe_op op_mod (pe_callTy call_int1 (by rfl) m_int (by decide +kernel) (pa_cons (pv 0) pa_nil)) pe_int) pe_int (nomark _)) (pss_one (ps_ret (pe_op op_mod (pe_callTy call_int1 (by rfl) m_int (by decide +kernel) (pa_cons (pe_op op_fdiv (pv 0) pe_int) pa_nil)) pe_int))) pss_nil)
      (pss_cons (ps_set (i := 1) sc_amount.nd rfl (by first | exact .inl rfl | exact .inr rfl) (pe_op op_add (pe_op op_mod (pe_callTy call_int1 (by rfl) m_int (by decide +kernel) (pa_cons (pe_op op_fdiv (pv 0) pe_int) pa_nil)) pe_int) pe_int))
      (pss_cons (ps_for PassesOwn.never rfl (pi_range1 (by rfl) m_range (pa_cons (pe_op op_mod (pe_callTy call_int1 (by rfl) m_int (by decide +kernel) (pa_cons (pe_op op_fdiv (pv 0) pe_int) pa_nil)) pe_int) pa_nil)) (pg_name (i := 2) sc_amount.nd rfl (by first | exact .inl rfl | exact .inr rfl))
        (pss_one (ps_set (i := 1) sc_amount.nd rfl (by first | exact .inl rfl | exact .inr rfl) (pe_op op_mul (pv 1) pe_int))))
      (pss_one (ps_ret (pv 1)))))), ?_⟩
    walk_at "go"
    refine ite2 (fun e => ?_) (fun e => ?_)
    · walk_at "go"
      have := q (d / 9 % 12).toNat (Nat.le_trans (show _ ≤ 12 by omega) (by decide +kernel))
      rw [Int.toNat_of_nonneg (by omega)] at this
      exact this
    · walk_at "go"
      obtain ⟨c, ec, hc⟩ : ∃ c : Nat, d / 9000 % 55 = (c : Int) ∧ c ≤ 54 := ⟨(d / 9000 % 55).toNat, by omega, by omega⟩
      obtain ⟨b, eb, hb⟩ : ∃ b : Nat, d / 9 % 1000 + 1 = (b : Int) ∧ b ≤ 1000 := ⟨(d / 9 % 1000 + 1).toNat, by omega, by omega⟩
      refine for_gen (n := c) (fun k σ J => J = H ∧ ∃ v : Option V, σ = [some (.int d), some (.int ((b * 10 ^ k : Nat) : Int)), v]) ⟨rfl, none, ?_⟩ ?_ ?_ ?_ ?_
      · rw [Nat.pow_zero, Nat.mul_one, ← eb]
        rfl
      · intro k σ J hk _
        show k < (d / 9000 % 55).toNat
        omega
      · intro σ J _
        show (d / 9000 % 55).toNat ≤ c
        omega
      · rintro k σ J x J' hk ⟨rfl, v, rfl⟩ ⟨rfl, rfl⟩
        walk_at "go"
        refine ⟨some (.int (0 + (k : Int))), ?_⟩
        rw [Nat.pow_succ, ← Nat.mul_assoc]
        rfl
      · rintro σ J ⟨rfl, v, rfl⟩
        walk_at "go"
        refine q _ (Nat.le_trans (Nat.mul_le_mul hb (Nat.pow_le_pow_right (by decide) hc)) (by decide +kernel))
/-- the weight of a drawn part -/
def mxw : Nat → Nat
  | 0 => 1
  | e + 1 => 1 + 18 * mxw e
theorem mxw_pos : ∀ e, 1 ≤ mxw e
  | 0 => Nat.le_refl _
  | e + 1 => Nat.le_add_right _ _
structure PM (ps ms : List Nat) : Prop where
  nd : ps.Nodup
  l2 : 2 ≤ ps.length
  l6 : ps.length ≤ 6
  par : ∀ c ∈ ps, c ∈ PAR
  mk0 : 0 < ms.length
  mk1 : ms.length ≤ 100
  mrk : ∀ c ∈ ms, c ∈ MRK
/-- the drawn values as a list -/
theorem drawn_l {X : Hp} {W D : Nat} : ∀ ys : List V, (∀ (k : Nat) y, ys[k]? = some y → ∃ b x, y = .ref b ∧ DtAt X x b ∧ Ok x ∧ wt x ≤ W ∧ dp x ≤ D) → ∃ (l : List Pt) (bs : List Addr), ys = bs.map V.ref ∧ DtsAt X l bs ∧ OkL l ∧ wtL l ≤ ys.length * W ∧ dpL l ≤ D ∧ l.length = ys.length
  | [], _ => ⟨[], [], rfl, by rw [DtsAt], by rw [OkL]; trivial, Nat.zero_le _, Nat.zero_le _, rfl⟩
  | y :: ys, h => by
    obtain ⟨l, bs, e, h1, h2, h3, h4, h5⟩ := drawn_l ys fun k z hz => h (k + 1) z hz
    obtain ⟨b, x, rfl, g1, g2, g3, g4⟩ := h 0 y rfl
    refine ⟨x :: l, b :: bs, by rw [e]; rfl, by rw [DtsAt]; exact ⟨b, bs, rfl, g1, h1⟩, by rw [OkL]; exact ⟨g2, h2⟩, ?_, ?_, by rw [List.length_cons, List.length_cons, h5]⟩
    · rw [wtL, List.length_cons, Nat.succ_mul]
      omega
    · rw [dpL]
      omega
theorem drawn_ll {X : Hp} {W D : Nat} : ∀ ys : List V, (∀ (k : Nat) y, ys[k]? = some y → ∃ b x, y = .ref b ∧ DaAt X x b ∧ OkL x ∧ wtL x ≤ W ∧ dpL x ≤ D) → ∃ (l : List (List Pt)) (bs : List Addr), ys = bs.map V.ref ∧ DasAt X l bs ∧ OkLL l ∧ wtLL l ≤ ys.length * W ∧ dpLL l ≤ D ∧ l.length = ys.length
  | [], _ => ⟨[], [], rfl, by rw [DasAt], by rw [OkLL]; trivial, Nat.zero_le _, Nat.zero_le _, rfl⟩
  | y :: ys, h => by
    obtain ⟨l, bs, e, h1, h2, h3, h4, h5⟩ := drawn_ll ys fun k z hz => h (k + 1) z hz
    obtain ⟨b, x, rfl, g1, g2, g3, g4⟩ := h 0 y rfl
    refine ⟨x :: l, b :: bs, by rw [e]; rfl, by rw [DasAt]; exact ⟨b, bs, rfl, g1, h1⟩, by rw [OkLL]; exact ⟨g2, h2⟩, ?_, ?_, by rw [List.length_cons, List.length_cons, h5]⟩
    · rw [wtLL, List.length_cons, Nat.succ_mul]
      omega
    · rw [dpLL]
      omega
def spPc (K : PySem.W.Frag) (d : Nat) : Sp := fun vs H Q _ => ∃ (a p : Addr) (n e : Nat) (ds : List Int) (ps ms : List Nat), vs = [.ref a, .ref p, .int (e : Int), .str (S ps), .str (S ms)] ∧ Tk K a p ds n H H ∧ PM ps ms ∧ e + 1 ≤ d ∧ ∀ (D : Addr) (l : List Pt) H', Tk K a p ds n H H' → DaAt (nw H H') l D → OkL l → wtL l ≤ 3 * mxw e → dpL l ≤ e + 1 → l.length ≤ 3 → Q (.ref D) H'
def spPp (K : PySem.W.Frag) (d : Nat) : Sp := fun vs H Q _ => ∃ (a p : Addr) (n e : Nat) (ds : List Int) (ps ms : List Nat), vs = [.ref a, .ref p, .int (e : Int), .str (S ps), .str (S ms)] ∧ Tk K a p ds n H H ∧ PM ps ms ∧ e ≤ d ∧ ∀ (y : Addr) (x : Pt) H', Tk K a p ds n H H' → DtAt (nw H H') x y → Ok x → wt x ≤ mxw e → dp x ≤ e + 1 → Q (.ref y) H'
theorem ok_pact {d : Nat} (F : FnP K "_law_pact" s_pact f fd) (m_int : mg "int" = none) (m_range : mg "range" = none) (c_take : Cal P w K mg base 1 "_law_take" (spTake K)) (c_part : Cal P w K mg base (2 * d + 7) "_law_part" (spPp K d)) : FnOk P w K mg base CX0 (2 * d + 8) f fd P_pact (spPc K (d + 1)) := by
  refine F.ok sc_pact (fun vs H Q E h => ?_) (fun cdv A outer s H vs Q E hr h => ?_)
  · obtain ⟨a, p, n, e, ds, ps, ms, rfl, _⟩ := h
    rfl
  · obtain ⟨a, p, n, e, ds, ps, ms, rfl, hT, pm, he, qq⟩ := h
    refine ⟨_, PSs.nox (pss_cons (ps_set (i := 5) sc_pact.nd rfl (by first | exact .inl rfl | exact .inr rfl) (pe_op op_mod (pe_callTy call_int1 (by rfl) m_int (by decide +kernel) (pa_cons (pe_cl c_take hr (by omega) (by rfl) (pa_cons (pv 0) (pa_cons (pv 1) pa_nil))) pa_nil)) pe_int))
      (pss_one (ps_ret (pe_lc (own := [("_law_k", 6)]) (g := (gName 6)) (tt := tYes) (by rfl) sc_pact.nd (pi_range1 (by rfl) m_range (pa_cons (pv 5) pa_nil)) (blkOk_by (own := [("_law_k", 6)]) (N := N_pact) (sc := defScope s_pact) (by decide +kernel)) (fun _ _ _ _ _ => (pg_name (i := 6) sc_pact.nd rfl (by first | exact .inl rfl | exact .inr rfl))) (fun _ _ _ _ _ => pts_nil) (fun _ _ _ _ _ => (pe_cl c_part hr (by omega) (by rfl) (pa_cons (pv 0) (pa_cons (pv 1) (pa_cons (pv 2) (pa_cons (pv 3) (pa_cons (pv 4) pa_nil))))))))))), ?_⟩
    obtain ⟨mm, em⟩ := hT.pl
    walk_at "go"
    refine ⟨a, p, n, mm, ds, rfl, SqL.of hT.hA, hT.hd, em, hT.ne, fun r r0 r1 => ?_⟩
    obtain ⟨hT1, _⟩ := hT.next em
    generalize upd H p (.lst [.int ((mm + 1 : Nat) : Int)]) = H1 at hT1
    obtain ⟨c, ec, hc⟩ : ∃ c : Nat, r % 4 = (c : Int) ∧ c ≤ 3 := ⟨(r % 4).toNat, by omega, by omega⟩
    walk_at "go"
    intro D nD
    refine lc_nw (G := fun i X y => ∃ b x, y = .ref b ∧ DtAt X x b ∧ Ok x ∧ wt x ≤ mxw e ∧ dp x ≤ e + 1) (n := c) (fun i X Y y s h => ?_) hT1.slf nD (by omega) (fun k J' hk => ?_) (fun J' => ?_) (fun k J1 x J2 hk h => ?_) (fun x => rfl) (fun k x J1 Q1 hk h hT2 q1 => ?_) (fun J1 ys hT2 eD ly hG => ?_)
    · obtain ⟨b, x, h1, h2, h3⟩ := h
      exact ⟨b, x, h1, h2.mono s, h3⟩
    · show k < (r % 4).toNat
      omega
    · show (r % 4).toNat ≤ c
      omega
    · exact h.1
    · walk_at "go"
      refine ⟨a, p, n, e, ds, ps, ms, rfl, hT2.slf, pm, by omega, fun y x H' hT3 hx okx hwx hdx => q1 _ _ hT3 ⟨y, x, rfl, hx, okx, hwx, hdx⟩⟩
    · obtain ⟨l, bs, rfl, h1, h2, h3, h4, h5⟩ := drawn_l ys hG
      rw [ly] at h3 h5
      have := Nat.mul_le_mul_right (mxw e) hc
      exact qq D l J1 (hT1.tr hT2) ⟨bs, nw_of (hT1.nn nD) eD, h1.mono (fun a o h => nw_trans (fun _ h => hT1.nn h) _ _ (nwD_nw _ _ h)) _ _⟩ h2 (by omega) (by omega) (by omega)
theorem at_S {ps : List Nat} {j : Nat} (h : j < ps.length) : atI (S ps).cps.toList (j : Int) = some ps[j] := atI_nat (show ps.toArray.toList[j]? = some ps[j] by rw [List.getElem?_eq_getElem h])
theorem modNd (r : Int) {n : Nat} (h : 0 < n) : ∃ c : Nat, r % (n : Int) = (c : Int) ∧ c < n := modN r h
theorem ok_part_ {d : Nat} (F : FnP K "_law_part" s_part f fd) (m_int : mg "int" = none) (m_len : mg "len" = none) (m_range : mg "range" = none) (c_take : Cal P w K mg base 1 "_law_take" (spTake K)) (c_amount : Cal P w K mg base 1 "_law_amount" spAm) (c_pact : Cal P w K mg base (2 * d + 6) "_law_pact" (spPc K d)) : FnOk P w K mg base CX0 (2 * d + 7) f fd P_part (spPp K d) := by
  refine F.ok sc_part (fun vs H Q E h => ?_) (fun cdv A outer s H vs Q E hr h => ?_)
  · obtain ⟨a, p, n, e, ds, ps, ms, rfl, _⟩ := h
    rfl
  · obtain ⟨a, p, n, e, ds, ps, ms, rfl, hT, pm, he, qq⟩ := h
    refine ⟨_, PSs.nox (pss_cons (ps_set (i := 5) sc_part.nd rfl (by first | exact .inl rfl | exact .inr rfl) (pe_op op_mod (pe_callTy call_int1 (by rfl) m_int (by decide +kernel) (pa_cons (pe_cl c_take hr (by omega) (by rfl) (pa_cons (pv 0) (pa_cons (pv 1) pa_nil))) pa_nil)) pe_int))
      (pss_cons (ps_set (i := 6) sc_part.nd rfl (by first | exact .inl rfl | exact .inr rfl) (pe_cl c_take hr (by omega) (by rfl) (pa_cons (pv 0) (pa_cons (pv 1) pa_nil))))
      (pss_cons (ps_set (i := 7) sc_part.nd rfl (by first | exact .inl rfl | exact .inr rfl) (pe_callB call_len_str (by rfl) m_len PySem.boot_len (pa_cons (pv 3) pa_nil)))
      (pss_cons (ps_set (i := 8) sc_part.nd rfl (by first | exact .inl rfl | exact .inr rfl) (pe_ix ix_str (pv 3) (pe_op op_mod (pe_callTy call_int1 (by rfl) m_int (by decide +kernel) (pa_cons (pv 6) pa_nil)) (pv 7)) (fun _ _ => rfl)))
      (pss_cons (ps_if (PW.pt (pw_or (pt_cmpR op_eq (pv 5) pe_int (nomark _)) (pw_or (pt_cmpR op_eq (pv 5) pe_int (nomark _)) (pw_or1 (PW.pt (pw_and (pt_cmpR op_eq (pv 2) pe_int (nomark _)) (pw_and1 (pt_cmpR op_eq (pe_op op_mod (pe_callTy call_int1 (by rfl) m_int (by decide +kernel) (pa_cons (pv 5) pa_nil)) pe_int) pe_int (nomark _))))))))) (pss_one (ps_ret (pe_tup (pa_cons pe_str (pa_cons (pe_ix ix_str (pv 4) (pe_op op_mod (pe_callTy call_int1 (by rfl) m_int (by decide +kernel) (pa_cons (pv 6) pa_nil)) (pe_callB call_len_str (by rfl) m_len PySem.boot_len (pa_cons (pv 4) pa_nil))) (fun _ _ => rfl)) pa_nil))))) pss_nil)
      (pss_cons (ps_if (PW.pt (pw_or (pt_cmpR op_lt (pv 5) pe_int (nomark _)) (pw_or1 (pt_cmpR op_eq (pv 2) pe_int (nomark _))))) (pss_cons (ps_set (i := 9) sc_part.nd rfl (by first | exact .inl rfl | exact .inr rfl) (pe_ix ix_str (pv 3) (pe_op op_mod (pe_callTy call_int1 (by rfl) m_int (by decide +kernel) (pa_cons (pe_op op_add (pe_op op_add (pe_op op_mod (pe_callTy call_int1 (by rfl) m_int (by decide +kernel) (pa_cons (pv 6) pa_nil)) (pv 7)) pe_int) (pe_op op_mod (pe_callTy call_int1 (by rfl) m_int (by decide +kernel) (pa_cons (pe_op op_fdiv (pv 6) (pv 7)) pa_nil)) (pe_op op_sub (pv 7) pe_int))) pa_nil)) (pv 7)) (fun _ _ => rfl)))
      (pss_one (ps_ret (pe_tup (pa_cons pe_str (pa_cons (pv 8) (pa_cons (pv 9) (pa_cons (pe_cl c_amount hr (by omega) (by rfl) (pa_cons (pe_cl c_take hr (by omega) (by rfl) (pa_cons (pv 0) (pa_cons (pv 1) pa_nil))) pa_nil)) pa_nil)))))))) pss_nil)
      (pss_cons (ps_if (pt_cmpR op_lt (pv 5) pe_int (nomark _)) (pss_cons (ps_set (i := 10) sc_part.nd rfl (by first | exact .inl rfl | exact .inr rfl) (pe_op op_add pe_int (pe_op op_mod (pe_callTy call_int1 (by rfl) m_int (by decide +kernel) (pa_cons (pe_op op_fdiv (pv 6) pe_int) pa_nil)) pe_int)))
      (pss_cut (ps_if (pt_cmpR op_eq (pe_op op_mod (pe_callTy call_int1 (by rfl) m_int (by decide +kernel) (pa_cons (pe_op op_fdiv (pv 6) pe_int) pa_nil)) pe_int) pe_int (nomark _)) (pss_one (ps_set (i := 10) sc_part.nd rfl (by first | exact .inl rfl | exact .inr rfl) (pe_op op_add pe_int (pe_op op_mod (pe_callTy call_int1 (by rfl) m_int (by decide +kernel) (pa_cons (pe_op op_fdiv (pv 6) pe_int) pa_nil)) pe_int)))) pss_nil)
      (pss_one (ps_ret (pe_tup (pa_cons pe_str (pa_cons (pv 8) (pa_cons (pe_lc (own := [("_law_k", 11)]) (g := (gName 11)) (tt := tYes) (by rfl) sc_part.nd (pi_range1 (by rfl) m_range (pa_cons (pv 10) pa_nil)) (blkOk_by (own := [("_law_k", 11)]) (N := N_part) (sc := defScope s_part) (by decide +kernel)) (fun _ _ _ _ _ => (pg_name (i := 11) sc_part.nd rfl (by first | exact .inl rfl | exact .inr rfl))) (fun _ _ _ _ _ => pts_nil) (fun _ _ _ _ _ => (pe_cl c_pact hr (by omega) (by rfl) (pa_cons (pv 0) (pa_cons (pv 1) (pa_cons (pe_op op_sub (pv 2) pe_int) (pa_cons (pv 3) (pa_cons (pv 4) pa_nil)))))))) pa_nil)))))))) pss_nil)
      (pss_cons (ps_set (i := 12) sc_part.nd rfl (by first | exact .inl rfl | exact .inr rfl) (pe_cl c_pact hr (by omega) (by rfl) (pa_cons (pv 0) (pa_cons (pv 1) (pa_cons (pe_op op_sub (pv 2) pe_int) (pa_cons (pv 3) (pa_cons (pv 4) pa_nil)))))))
      (pss_cons (ps_if (pt_cmpR op_eq (pv 5) pe_int (nomark _)) (pss_one (ps_ret (pe_tup (pa_cons pe_str (pa_cons (pe_op op_mod (pe_callTy call_int1 (by rfl) m_int (by decide +kernel) (pa_cons (pe_op op_fdiv (pv 6) pe_int) pa_nil)) pe_int) (pa_cons (pv 12) pa_nil)))))) pss_nil)
      (pss_cons (ps_if (PW.pt (pw_and (pt_cmpR op_eq (pv 5) pe_int (nomark _)) (pw_and1 (pt_cmpR op_eq (pe_op op_mod (pe_callTy call_int1 (by rfl) m_int (by decide +kernel) (pa_cons (pv 6) pa_nil)) pe_int) pe_int (nomark _))))) (pss_one (ps_ret (pe_tup (pa_cons pe_str (pa_cons (pv 12) pa_nil))))) pss_nil)
      (pss_one (ps_ret (pe_tup (pa_cons pe_str (pa_cons (pv 8) (pa_cons (pv 12) pa_nil)))))))))))))))), ?_⟩
    have lps : (S ps).length = ps.length := S_len _
    have lms : (S ms).length = ms.length := S_len _
    have l2 := pm.l2
    have l6 := pm.l6
    have mk0 := pm.mk0
    have mk1 := pm.mk1
    obtain ⟨mm, em⟩ := hT.pl
    walk_at "go"
    refine ⟨a, p, n, mm, ds, rfl, SqL.of hT.hA, hT.hd, em, hT.ne, fun r r0 r1 => ?_⟩
    obtain ⟨hT1, _⟩ := hT.next em
    generalize upd H p (.lst [.int ((mm + 1 : Nat) : Int)]) = H1 at hT1
    obtain ⟨m1, em1⟩ := hT1.pl
    walk_at "go"
    refine ⟨a, p, n, m1, ds, rfl, SqL.of hT1.hA, hT1.hd, em1, hT1.ne, fun r2 r20 r21 => ?_⟩
    obtain ⟨hT2, _⟩ := hT1.next em1
    generalize upd H1 p (.lst [.int ((m1 + 1 : Nat) : Int)]) = H2 at hT2
    have sps : (S ps).length ≤ sizeLine := by rw [lps]; exact szl (by omega)
    have sms : (S ms).length ≤ sizeLine := by rw [lms]; exact szl (by omega)
    obtain ⟨kd, ekd, hkd⟩ : ∃ kd : Int, r % 12 = kd ∧ 0 ≤ kd ∧ kd < 12 := ⟨_, rfl, by omega, by omega⟩
    walk_at "go"
    obtain ⟨io, eio, hio⟩ := modN r2 (show 0 < ps.length by omega)
    rw [lps]
    refine ⟨S ps, (io : Int), ps[io], rfl, (show V.int (r2 % (ps.length : Int)) = V.int (io : Int) from congrArg V.int eio), sps, at_S hio, ?_⟩
    have hpo := pm.par _ (List.getElem_mem hio)
    rw [show L2.start N_part [V.ref a, V.ref p, V.int (e : Int), V.str (S ps), V.str (S ms)] = [some (V.ref a), some (V.ref p), some (V.int (e : Int)), some (V.str (S ps)), some (V.str (S ms)), none, none, none, none, none, none, none, none] from rfl]
    dsimp only [List.set]
    rw [ekd]
    clear ekd em em1 hT1
    -- leaves
    have fE : ∀ (y : Addr) (c : Nat), H2 y = none → c ∈ MRK → Q (.ref y) (upd H2 y (.tup [.str "event", .str (S [c])])) := fun y c ny hc => by
      have := mxw_pos e
      refine qq y (.ev c) _ (hT2.more (same_new ny)) ?_ ?_ ?_ ?_
      · rw [DtAt]
        exact nw_of (hT2.nn ny) upd_same
      · rw [Ok]
        exact hc
      · rw [wt]
        exact this
      · rw [dp]
        omega
    have ixm : ∃ im, ∃ h : im < ms.length, r2 % (ms.length : Int) = (im : Int) ∧ ms[im] ∈ MRK := by
      obtain ⟨im, e1, h1⟩ := modN r2 mk0
      exact ⟨im, h1, e1, pm.mrk _ (List.getElem_mem h1)⟩
    obtain ⟨im, him, eim, hmm⟩ := ixm
    have ixp : ∃ j, ∃ h : j < ps.length, (r2 % (ps.length : Int) + 1 + r2 / (ps.length : Int) % ((ps.length : Int) - 1)) % (ps.length : Int) = (j : Int) ∧ ps[io] ≠ ps[j] ∧ ps[j] ∈ PAR := by
      obtain ⟨t, e1, h1⟩ := modN (r2 / (ps.length : Int)) (show 0 < ps.length - 1 by omega)
      rw [eio, show ((ps.length : Int) - 1) = ((ps.length - 1 : Nat) : Int) by omega, e1]
      obtain ⟨j, e2, h2⟩ := modN ((io : Int) + 1 + (t : Int)) (show 0 < ps.length by omega)
      refine ⟨j, h2, e2, fun z => ?_, pm.par _ (List.getElem_mem h2)⟩
      have := (List.getElem_inj pm.nd).mp z
      subst this
      by_cases c : io + 1 + t < ps.length
      · rw [Int.emod_eq_of_lt (by omega) (by omega)] at e2
        omega
      · rw [show ((io : Int) + 1 + (t : Int)) = ((io : Int) + 1 + (t : Int) - (ps.length : Int)) + (ps.length : Int) by omega, Int.add_emod_right, Int.emod_eq_of_lt (by omega) (by omega)] at e2
        omega
    obtain ⟨ip, hip, eip, npp, hpp⟩ := ixp
    have fT : ∀ (y : Addr) (q m : Nat) H3, Tk K a p ds n H H3 → H3 y = none → ps[io] ≠ q → q ∈ PAR → m ≤ 10 ^ 57 → Q (.ref y) (upd H3 y (.tup [.str "transfer", .str (S [ps[io]]), .str (S [q]), .int (m : Int)])) := fun y q m H3 hT3 ny nq hq hm => by
      have := mxw_pos e
      refine qq y (.tr ps[io] q m) _ (hT3.more (same_new ny)) ?_ ?_ ?_ ?_
      · rw [DtAt]
        exact nw_of (hT3.nn ny) upd_same
      · rw [Ok]
        exact ⟨hpo, hq, nq, Nat.le_trans hm (by decide +kernel)⟩
      · rw [wt]
        exact this
      · rw [dp]
        omega
    generalize hpoe : ps[io] = po at hpo npp fT
    -- a drawn pact
    have hdm : e = 0 ∨ 1 ≤ e := by omega
    rcases hdm with rfl | he1
    · have hz : decide (V.int ((0 : Nat) : Int) = V.int 0) = true := decide_eq_true rfl
      rcases (show kd = 0 ∨ kd = 1 ∨ kd = 2 ∨ kd = 3 ∨ kd = 4 ∨ kd = 5 ∨ kd = 6 ∨ kd = 7 ∨ kd = 8 ∨ kd = 9 ∨ kd = 10 ∨ kd = 11 by omega) with rfl | rfl | rfl | rfl | rfl | rfl | rfl | rfl | rfl | rfl | rfl | rfl
      · walk_at "go"
        refine ⟨S ps, (ip : Int), ps[ip], rfl, (show V.int _ = V.int (ip : Int) from congrArg V.int eip), sps, at_S hip, ?_⟩
        walk_at "go"
        obtain ⟨m2, em2⟩ := hT2.pl
        refine ⟨a, p, n, m2, ds, rfl, SqL.of hT2.hA, hT2.hd, em2, hT2.ne, fun r3 r30 r31 => ?_⟩
        obtain ⟨hT3, _⟩ := hT2.next em2
        generalize upd H2 p (.lst [.int ((m2 + 1 : Nat) : Int)]) = H3 at hT3
        walk_at "go"
        first | refine ⟨r3, rfl, r30, r31, fun m hm => ?_⟩ | intro m hm
        walk_at "go"
        intro y ny
        exact fT y _ m H3 hT3 ny npp hpp hm
      · walk_at "go"
        refine ⟨S ms, (im : Int), ms[im], rfl, (show V.int (r2 % ((S ms).length : Int)) = V.int (im : Int) by rw [lms, eim]), sms, at_S him, ?_⟩
        walk_at "go"
        intro y ny
        exact fE y _ ny hmm
      · walk_at "go"
        refine ⟨S ps, (ip : Int), ps[ip], rfl, (show V.int _ = V.int (ip : Int) from congrArg V.int eip), sps, at_S hip, ?_⟩
        walk_at "go"
        obtain ⟨m2, em2⟩ := hT2.pl
        refine ⟨a, p, n, m2, ds, rfl, SqL.of hT2.hA, hT2.hd, em2, hT2.ne, fun r3 r30 r31 => ?_⟩
        obtain ⟨hT3, _⟩ := hT2.next em2
        generalize upd H2 p (.lst [.int ((m2 + 1 : Nat) : Int)]) = H3 at hT3
        walk_at "go"
        first | refine ⟨r3, rfl, r30, r31, fun m hm => ?_⟩ | intro m hm
        walk_at "go"
        intro y ny
        exact fT y _ m H3 hT3 ny npp hpp hm
      · walk_at "go"
        refine ⟨S ms, (im : Int), ms[im], rfl, (show V.int (r2 % ((S ms).length : Int)) = V.int (im : Int) by rw [lms, eim]), sms, at_S him, ?_⟩
        walk_at "go"
        intro y ny
        exact fE y _ ny hmm
      · walk_at "go"
        refine ⟨S ps, (ip : Int), ps[ip], rfl, (show V.int _ = V.int (ip : Int) from congrArg V.int eip), sps, at_S hip, ?_⟩
        walk_at "go"
        obtain ⟨m2, em2⟩ := hT2.pl
        refine ⟨a, p, n, m2, ds, rfl, SqL.of hT2.hA, hT2.hd, em2, hT2.ne, fun r3 r30 r31 => ?_⟩
        obtain ⟨hT3, _⟩ := hT2.next em2
        generalize upd H2 p (.lst [.int ((m2 + 1 : Nat) : Int)]) = H3 at hT3
        walk_at "go"
        first | refine ⟨r3, rfl, r30, r31, fun m hm => ?_⟩ | intro m hm
        walk_at "go"
        intro y ny
        exact fT y _ m H3 hT3 ny npp hpp hm
      · walk_at "go"
        refine ⟨S ms, (im : Int), ms[im], rfl, (show V.int (r2 % ((S ms).length : Int)) = V.int (im : Int) by rw [lms, eim]), sms, at_S him, ?_⟩
        walk_at "go"
        intro y ny
        exact fE y _ ny hmm
      · walk_at "go"
        refine ⟨S ms, (im : Int), ms[im], rfl, (show V.int (r2 % ((S ms).length : Int)) = V.int (im : Int) by rw [lms, eim]), sms, at_S him, ?_⟩
        walk_at "go"
        intro y ny
        exact fE y _ ny hmm
      · walk_at "go"
        refine ⟨S ms, (im : Int), ms[im], rfl, (show V.int (r2 % ((S ms).length : Int)) = V.int (im : Int) by rw [lms, eim]), sms, at_S him, ?_⟩
        walk_at "go"
        intro y ny
        exact fE y _ ny hmm
      · walk_at "go"
        refine ⟨S ps, (ip : Int), ps[ip], rfl, (show V.int _ = V.int (ip : Int) from congrArg V.int eip), sps, at_S hip, ?_⟩
        walk_at "go"
        obtain ⟨m2, em2⟩ := hT2.pl
        refine ⟨a, p, n, m2, ds, rfl, SqL.of hT2.hA, hT2.hd, em2, hT2.ne, fun r3 r30 r31 => ?_⟩
        obtain ⟨hT3, _⟩ := hT2.next em2
        generalize upd H2 p (.lst [.int ((m2 + 1 : Nat) : Int)]) = H3 at hT3
        walk_at "go"
        first | refine ⟨r3, rfl, r30, r31, fun m hm => ?_⟩ | intro m hm
        walk_at "go"
        intro y ny
        exact fT y _ m H3 hT3 ny npp hpp hm
      · walk_at "go"
        refine ⟨S ms, (im : Int), ms[im], rfl, (show V.int (r2 % ((S ms).length : Int)) = V.int (im : Int) by rw [lms, eim]), sms, at_S him, ?_⟩
        walk_at "go"
        intro y ny
        exact fE y _ ny hmm
      · walk_at "go"
        refine ⟨S ps, (ip : Int), ps[ip], rfl, (show V.int _ = V.int (ip : Int) from congrArg V.int eip), sps, at_S hip, ?_⟩
        walk_at "go"
        obtain ⟨m2, em2⟩ := hT2.pl
        refine ⟨a, p, n, m2, ds, rfl, SqL.of hT2.hA, hT2.hd, em2, hT2.ne, fun r3 r30 r31 => ?_⟩
        obtain ⟨hT3, _⟩ := hT2.next em2
        generalize upd H2 p (.lst [.int ((m2 + 1 : Nat) : Int)]) = H3 at hT3
        walk_at "go"
        first | refine ⟨r3, rfl, r30, r31, fun m hm => ?_⟩ | intro m hm
        walk_at "go"
        intro y ny
        exact fT y _ m H3 hT3 ny npp hpp hm
      · walk_at "go"
        refine ⟨S ms, (im : Int), ms[im], rfl, (show V.int (r2 % ((S ms).length : Int)) = V.int (im : Int) by rw [lms, eim]), sms, at_S him, ?_⟩
        walk_at "go"
        intro y ny
        exact fE y _ ny hmm
    · have hz : decide (V.int (e : Int) = V.int 0) = false := decide_eq_false (fun z => by injection z with z; omega)
      rcases (show kd = 0 ∨ kd = 1 ∨ kd = 2 ∨ kd = 3 ∨ kd = 4 ∨ kd = 5 ∨ kd = 6 ∨ kd = 7 ∨ kd = 8 ∨ kd = 9 ∨ kd = 10 ∨ kd = 11 by omega) with rfl | rfl | rfl | rfl | rfl | rfl | rfl | rfl | rfl | rfl | rfl | rfl
      · walk_at "go"
        rw [hz]
        walk_at "go"
        refine ⟨S ps, (ip : Int), ps[ip], rfl, (show V.int _ = V.int (ip : Int) from congrArg V.int eip), sps, at_S hip, ?_⟩
        walk_at "go"
        obtain ⟨m2, em2⟩ := hT2.pl
        refine ⟨a, p, n, m2, ds, rfl, SqL.of hT2.hA, hT2.hd, em2, hT2.ne, fun r3 r30 r31 => ?_⟩
        obtain ⟨hT3, _⟩ := hT2.next em2
        generalize upd H2 p (.lst [.int ((m2 + 1 : Nat) : Int)]) = H3 at hT3
        walk_at "go"
        first | refine ⟨r3, rfl, r30, r31, fun m hm => ?_⟩ | intro m hm
        walk_at "go"
        intro y ny
        exact fT y _ m H3 hT3 ny npp hpp hm
      · walk_at "go"
        rw [hz]
        walk_at "go"
        refine ⟨S ps, (ip : Int), ps[ip], rfl, (show V.int _ = V.int (ip : Int) from congrArg V.int eip), sps, at_S hip, ?_⟩
        walk_at "go"
        obtain ⟨m2, em2⟩ := hT2.pl
        refine ⟨a, p, n, m2, ds, rfl, SqL.of hT2.hA, hT2.hd, em2, hT2.ne, fun r3 r30 r31 => ?_⟩
        obtain ⟨hT3, _⟩ := hT2.next em2
        generalize upd H2 p (.lst [.int ((m2 + 1 : Nat) : Int)]) = H3 at hT3
        walk_at "go"
        first | refine ⟨r3, rfl, r30, r31, fun m hm => ?_⟩ | intro m hm
        walk_at "go"
        intro y ny
        exact fT y _ m H3 hT3 ny npp hpp hm
      · walk_at "go"
        rw [hz]
        walk_at "go"
        refine ⟨S ps, (ip : Int), ps[ip], rfl, (show V.int _ = V.int (ip : Int) from congrArg V.int eip), sps, at_S hip, ?_⟩
        walk_at "go"
        obtain ⟨m2, em2⟩ := hT2.pl
        refine ⟨a, p, n, m2, ds, rfl, SqL.of hT2.hA, hT2.hd, em2, hT2.ne, fun r3 r30 r31 => ?_⟩
        obtain ⟨hT3, _⟩ := hT2.next em2
        generalize upd H2 p (.lst [.int ((m2 + 1 : Nat) : Int)]) = H3 at hT3
        walk_at "go"
        first | refine ⟨r3, rfl, r30, r31, fun m hm => ?_⟩ | intro m hm
        walk_at "go"
        intro y ny
        exact fT y _ m H3 hT3 ny npp hpp hm
      · walk_at "go"
        rw [hz]
        walk_at "go"
        refine ⟨S ps, (ip : Int), ps[ip], rfl, (show V.int _ = V.int (ip : Int) from congrArg V.int eip), sps, at_S hip, ?_⟩
        walk_at "go"
        obtain ⟨m2, em2⟩ := hT2.pl
        refine ⟨a, p, n, m2, ds, rfl, SqL.of hT2.hA, hT2.hd, em2, hT2.ne, fun r3 r30 r31 => ?_⟩
        obtain ⟨hT3, _⟩ := hT2.next em2
        generalize upd H2 p (.lst [.int ((m2 + 1 : Nat) : Int)]) = H3 at hT3
        walk_at "go"
        first | refine ⟨r3, rfl, r30, r31, fun m hm => ?_⟩ | intro m hm
        walk_at "go"
        intro y ny
        exact fT y _ m H3 hT3 ny npp hpp hm
      · walk_at "go"
        rw [hz]
        walk_at "go"
        refine ⟨S ps, (ip : Int), ps[ip], rfl, (show V.int _ = V.int (ip : Int) from congrArg V.int eip), sps, at_S hip, ?_⟩
        walk_at "go"
        obtain ⟨m2, em2⟩ := hT2.pl
        refine ⟨a, p, n, m2, ds, rfl, SqL.of hT2.hA, hT2.hd, em2, hT2.ne, fun r3 r30 r31 => ?_⟩
        obtain ⟨hT3, _⟩ := hT2.next em2
        generalize upd H2 p (.lst [.int ((m2 + 1 : Nat) : Int)]) = H3 at hT3
        walk_at "go"
        first | refine ⟨r3, rfl, r30, r31, fun m hm => ?_⟩ | intro m hm
        walk_at "go"
        intro y ny
        exact fT y _ m H3 hT3 ny npp hpp hm
      · walk_at "go"
        refine ⟨S ms, (im : Int), ms[im], rfl, (show V.int (r2 % ((S ms).length : Int)) = V.int (im : Int) by rw [lms, eim]), sms, at_S him, ?_⟩
        walk_at "go"
        intro y ny
        exact fE y _ ny hmm
      · walk_at "go"
        refine ⟨S ms, (im : Int), ms[im], rfl, (show V.int (r2 % ((S ms).length : Int)) = V.int (im : Int) by rw [lms, eim]), sms, at_S him, ?_⟩
        walk_at "go"
        intro y ny
        exact fE y _ ny hmm
      · walk_at "go"
        rw [hz]
        walk_at "go"
        have hmx : mxw e = 1 + 18 * mxw (e - 1) := by
          obtain ⟨e2, rfl⟩ : ∃ e2, e = e2 + 1 := ⟨e - 1, by omega⟩
          rfl
        rw [hz]
        walk_at "go"
        refine ⟨fun σ J => J = H2 ∧ ∃ (c : Nat) (v5 : Option V), 2 ≤ c ∧ c ≤ 6 ∧ σ = [some (V.ref a), some (V.ref p), some (V.int (e : Int)), some (V.str (S ps)), some (V.str (S ms)), v5, some (V.int r2), some (V.int (ps.length : Int)), some (V.str (S [po])), none, some (V.int (c : Int)), none, none], ?_, ?_⟩
        · walk_at "go"
          refine ite2 (fun _ => ?_) (fun _ => ?_)
          · walk_at "go"
            exact ⟨(2 + r2 / 96 % 5).toNat, _, by omega, by omega, by rw [Int.toNat_of_nonneg (by omega)]; rfl⟩
          · exact ⟨rfl, (2 + r2 / 6 % 2).toNat, _, by omega, by omega, by rw [Int.toNat_of_nonneg (by omega)]; rfl⟩
        rintro σ J ⟨rfl, c, v5, c2, c6, rfl⟩
        walk_at "go"
        intro D nD
        refine lc_nw (G := fun i X y => ∃ b x, y = .ref b ∧ DaAt X x b ∧ OkL x ∧ wtL x ≤ 3 * mxw (e - 1) ∧ dpL x ≤ e) (n := c) (fun i X Y y s h => ?_) hT2.slf nD (by omega) (fun k J' hk => ?_) (fun J' => ?_) (fun k J1 x J2 hk h => ?_) (fun x => rfl) (fun k x J1 Q1 hk h hT3 q1 => ?_) (fun J1 ys hT3 eD ly hG => ?_)
        · obtain ⟨b, x, h1, h2, h3⟩ := h
          exact ⟨b, x, h1, h2.mono s, h3⟩
        · show k < ((c : Int)).toNat
          omega
        · show ((c : Int)).toNat ≤ c
          omega
        · exact h.1
        · walk_at "go"
          refine ⟨a, p, n, e - 1, ds, ps, ms, by show [V.ref a, V.ref p, V.int ((e : Int) - 1), V.str (S ps), V.str (S ms)] = _; rw [show ((e : Int) - 1) = ((e - 1 : Nat) : Int) by omega], hT3.slf, pm, by omega, fun y x H' hT4 hx okx hwx hdx lx => q1 _ _ hT4 ⟨y, x, rfl, hx, okx, hwx, by omega⟩⟩
        · obtain ⟨os, bs, rfl, h1, h2, h3, h4, h5⟩ := drawn_ll ys hG
          rw [ly] at h3 h5
          have := Nat.mul_le_mul_right (3 * mxw (e - 1)) c6
          walk_at "go"
          intro y ny
          have sy := same_new (o := .tup [.str "choice", .str (S [po]), .ref D]) ny
          refine qq y (.ch po os) _ ((hT2.tr hT3).more sy) ?_ ?_ ?_ ?_
          · rw [DtAt]
            refine ⟨D, bs, nw_of (hT2.nn (hT3.nn ny)) upd_same, nw_of (hT2.nn nD) (sy _ _ eD), h1.mono (fun b o h => nw_of (hT2.nn (nwD_some h).2.1) (sy _ _ (nwD_some h).2.2)) _ _⟩
          · rw [Ok]
            exact ⟨hpo, by omega, by omega, h2⟩
          · rw [wt, hmx]
            omega
          · rw [dp]
            omega
      · walk_at "go"
        rw [hz]
        walk_at "go"
        have hmx : mxw e = 1 + 18 * mxw (e - 1) := by
          obtain ⟨e2, rfl⟩ : ∃ e2, e = e2 + 1 := ⟨e - 1, by omega⟩
          rfl
        rw [hz]
        walk_at "go"
        refine ⟨fun σ J => J = H2 ∧ ∃ (c : Nat) (v5 : Option V), 2 ≤ c ∧ c ≤ 6 ∧ σ = [some (V.ref a), some (V.ref p), some (V.int (e : Int)), some (V.str (S ps)), some (V.str (S ms)), v5, some (V.int r2), some (V.int (ps.length : Int)), some (V.str (S [po])), none, some (V.int (c : Int)), none, none], ?_, ?_⟩
        · walk_at "go"
          refine ite2 (fun _ => ?_) (fun _ => ?_)
          · walk_at "go"
            exact ⟨(2 + r2 / 96 % 5).toNat, _, by omega, by omega, by rw [Int.toNat_of_nonneg (by omega)]; rfl⟩
          · exact ⟨rfl, (2 + r2 / 6 % 2).toNat, _, by omega, by omega, by rw [Int.toNat_of_nonneg (by omega)]; rfl⟩
        rintro σ J ⟨rfl, c, v5, c2, c6, rfl⟩
        walk_at "go"
        intro D nD
        refine lc_nw (G := fun i X y => ∃ b x, y = .ref b ∧ DaAt X x b ∧ OkL x ∧ wtL x ≤ 3 * mxw (e - 1) ∧ dpL x ≤ e) (n := c) (fun i X Y y s h => ?_) hT2.slf nD (by omega) (fun k J' hk => ?_) (fun J' => ?_) (fun k J1 x J2 hk h => ?_) (fun x => rfl) (fun k x J1 Q1 hk h hT3 q1 => ?_) (fun J1 ys hT3 eD ly hG => ?_)
        · obtain ⟨b, x, h1, h2, h3⟩ := h
          exact ⟨b, x, h1, h2.mono s, h3⟩
        · show k < ((c : Int)).toNat
          omega
        · show ((c : Int)).toNat ≤ c
          omega
        · exact h.1
        · walk_at "go"
          refine ⟨a, p, n, e - 1, ds, ps, ms, by show [V.ref a, V.ref p, V.int ((e : Int) - 1), V.str (S ps), V.str (S ms)] = _; rw [show ((e : Int) - 1) = ((e - 1 : Nat) : Int) by omega], hT3.slf, pm, by omega, fun y x H' hT4 hx okx hwx hdx lx => q1 _ _ hT4 ⟨y, x, rfl, hx, okx, hwx, by omega⟩⟩
        · obtain ⟨os, bs, rfl, h1, h2, h3, h4, h5⟩ := drawn_ll ys hG
          rw [ly] at h3 h5
          have := Nat.mul_le_mul_right (3 * mxw (e - 1)) c6
          walk_at "go"
          intro y ny
          have sy := same_new (o := .tup [.str "choice", .str (S [po]), .ref D]) ny
          refine qq y (.ch po os) _ ((hT2.tr hT3).more sy) ?_ ?_ ?_ ?_
          · rw [DtAt]
            refine ⟨D, bs, nw_of (hT2.nn (hT3.nn ny)) upd_same, nw_of (hT2.nn nD) (sy _ _ eD), h1.mono (fun b o h => nw_of (hT2.nn (nwD_some h).2.1) (sy _ _ (nwD_some h).2.2)) _ _⟩
          · rw [Ok]
            exact ⟨hpo, by omega, by omega, h2⟩
          · rw [wt, hmx]
            omega
          · rw [dp]
            omega
      · walk_at "go"
        rw [hz]
        walk_at "go"
        have hmx : mxw e = 1 + 18 * mxw (e - 1) := by
          obtain ⟨e2, rfl⟩ : ∃ e2, e = e2 + 1 := ⟨e - 1, by omega⟩
          rfl
        rw [hz]
        walk_at "go"
        refine ⟨a, p, n, e - 1, ds, ps, ms, by show [V.ref a, V.ref p, V.int ((e : Int) - 1), V.str (S ps), V.str (S ms)] = _; rw [show ((e : Int) - 1) = ((e - 1 : Nat) : Int) by omega], hT2.slf, pm, by omega, fun D l H3 hT3 hl okl hwl hdl ll => ?_⟩
        obtain ⟨bs, hD, hl⟩ := hl
        have nD := (nw_some hD).1
        have eD := (nw_some hD).2
        walk_at "go"
        intro y ny
        have sy := same_new (o := .tup [.str "rounds", .str (S [po]), .ref D]) ny
        refine qq y (.rd po l) _ ((hT2.tr hT3).more sy) ?_ ?_ ?_ ?_
        · rw [DtAt]
          refine ⟨D, bs, nw_of (hT2.nn (hT3.nn ny)) upd_same, nw_of (hT2.nn nD) (sy _ _ eD), hl.mono (fun b o h => nw_of (hT2.nn (nw_some h).1) (sy _ _ (nw_some h).2)) _ _⟩
        · rw [Ok]
          exact ⟨hpo, okl⟩
        · rw [wt, hmx]
          omega
        · rw [dp]
          omega
      · walk_at "go"
        rw [hz]
        walk_at "go"
        have hmx : mxw e = 1 + 18 * mxw (e - 1) := by
          obtain ⟨e2, rfl⟩ : ∃ e2, e = e2 + 1 := ⟨e - 1, by omega⟩
          rfl
        rw [hz]
        walk_at "go"
        refine ⟨a, p, n, e - 1, ds, ps, ms, by show [V.ref a, V.ref p, V.int ((e : Int) - 1), V.str (S ps), V.str (S ms)] = _; rw [show ((e : Int) - 1) = ((e - 1 : Nat) : Int) by omega], hT2.slf, pm, by omega, fun D l H3 hT3 hl okl hwl hdl ll => ?_⟩
        obtain ⟨bs, hD, hl⟩ := hl
        have nD := (nw_some hD).1
        have eD := (nw_some hD).2
        walk_at "go"
        obtain ⟨c, ec, hc⟩ : ∃ c : Nat, r2 / 6 % 4 = (c : Int) ∧ c ≤ 3 := ⟨(r2 / 6 % 4).toNat, by omega, by omega⟩
        show ∀ y, H3 y = none → Q (.ref y) (upd H3 y (.tup [.str "times", .int (r2 / 6 % 4), .ref D]))
        rw [ec]
        intro y ny
        have sy := same_new (o := .tup [.str "times", .int (c : Int), .ref D]) ny
        refine qq y (.ti c l) _ ((hT2.tr hT3).more sy) ?_ ?_ ?_ ?_
        · rw [DtAt]
          refine ⟨D, bs, nw_of (hT2.nn (hT3.nn ny)) upd_same, nw_of (hT2.nn nD) (sy _ _ eD), hl.mono (fun b o h => nw_of (hT2.nn (nw_some h).1) (sy _ _ (nw_some h).2)) _ _⟩
        · rw [Ok]
          exact ⟨by omega, okl⟩
        · have : wtL l * (if c < 1 then 1 else c) ≤ wtL l * 3 := Nat.mul_le_mul_left _ (by split <;> omega)
          rw [wt, hmx]
          omega
        · rw [dp]
          omega
      · walk_at "go"
        rw [hz]
        walk_at "go"
        have hmx : mxw e = 1 + 18 * mxw (e - 1) := by
          obtain ⟨e2, rfl⟩ : ∃ e2, e = e2 + 1 := ⟨e - 1, by omega⟩
          rfl
        rw [hz]
        walk_at "go"
        refine ⟨a, p, n, e - 1, ds, ps, ms, by show [V.ref a, V.ref p, V.int ((e : Int) - 1), V.str (S ps), V.str (S ms)] = _; rw [show ((e : Int) - 1) = ((e - 1 : Nat) : Int) by omega], hT2.slf, pm, by omega, fun D l H3 hT3 hl okl hwl hdl ll => ?_⟩
        obtain ⟨bs, hD, hl⟩ := hl
        have nD := (nw_some hD).1
        have eD := (nw_some hD).2
        walk_at "go"
        refine ite2 (fun _ => ?_) (fun _ => ?_)
        · walk_at "go"
          intro y ny
          have sy := same_new (o := .tup [.str "endless", .ref D]) ny
          refine qq y (.en l) _ ((hT2.tr hT3).more sy) ?_ ?_ ?_ ?_
          · rw [DtAt]
            refine ⟨D, bs, nw_of (hT2.nn (hT3.nn ny)) upd_same, nw_of (hT2.nn nD) (sy _ _ eD), hl.mono (fun b o h => nw_of (hT2.nn (nw_some h).1) (sy _ _ (nw_some h).2)) _ _⟩
          · rw [Ok]
            exact okl
          · rw [wt, hmx]
            omega
          · rw [dp]
            omega
        · walk_at "go"
          intro y ny
          have sy := same_new (o := .tup [.str "rounds", .str (S [po]), .ref D]) ny
          refine qq y (.rd po l) _ ((hT2.tr hT3).more sy) ?_ ?_ ?_ ?_
          · rw [DtAt]
            refine ⟨D, bs, nw_of (hT2.nn (hT3.nn ny)) upd_same, nw_of (hT2.nn nD) (sy _ _ eD), hl.mono (fun b o h => nw_of (hT2.nn (nw_some h).1) (sy _ _ (nw_some h).2)) _ _⟩
          · rw [Ok]
            exact ⟨hpo, okl⟩
          · rw [wt, hmx]
            omega
          · rw [dp]
            omega
end
end Z
set_option pp.maxSteps 700
set_option Elab.async false
set_option linter.all false
set_option maxRecDepth 100000
set_option maxHeartbeats 4000000
open SX (S S_inj S_len S_cat)
namespace Z
open Pk NdefX
open PySem PySem.Spec PyProof.Rows L2
open C8 (pss_cut tCut)
local macro_rules | `(tactic| walk_at "num") => `(tactic| first | rfl | omega | decide | exact Nat.le_of_lt (small1000 (by simp)) | exact ⟨by omega, by omega⟩ | exact ⟨by omega, by omega, by omega⟩ | exact ⟨by decide, by decide, by decide⟩ | exact Or.inl ⟨by omega, by omega⟩ | exact Or.inr ⟨by omega, by omega⟩)
local macro_rules | `(tactic| walk_at "go") => `(tactic| repeat (first | refine ⟨_, rfl, ?_⟩ | refine ⟨_, _, rfl, rfl, ?_⟩ | refine ⟨_, _, rfl, ?_⟩ | (refine ⟨_, _, rfl, rfl, ?_, ?_⟩; focus walk_at "num") | refine Or.inl ⟨_, rfl, ?_⟩ | refine ⟨_, _, _, _, rfl, rfl, (by assumption), (by rfl), ?_⟩ | refine ⟨_, _, _, _, _, rfl, (by assumption), (by assumption), (by assumption), (by rfl), ?_⟩ | refine ⟨rfl, ?_⟩ | (refine And.intro ?_ ?_; focus walk_at "num")))
abbrev s_parties : Stmt := topS 57
abbrev N_parties : List Str := ["_law_draws_here", "_law_place", "_law_rest", "_law_size_here", "_law_chosen", "_law_k"]
abbrev P_parties : List Str := ["_law_draws_here", "_law_place"]
theorem sc_parties : FnScope N_parties P_parties (defScope s_parties) := ⟨rfl, rfl, rfl, by decide +kernel, rfl, by decide +kernel, by decide +kernel⟩
section
variable {P : Program} {w : World} {K : PySem.W.Frag} {mg : Str → Option Value} {base : Heap} {f : Addr} {k : Cs} {fd : FuncData}
theorem szl2 {n : Nat} (h : n ≤ 2000000) : n ≤ sizeLine := Nat.le_trans h (by decide)
def sgs (l : List Nat) : List V := l.map fun c => V.str (S [c])
theorem perm_pop : ∀ (l : List Nat) (j : Nat) (h : j < l.length), (l[j] :: l.eraseIdx j).Perm l
  | x :: l, 0, _ => List.Perm.refl _
  | x :: l, j + 1, h => (List.Perm.swap x (l[j]'(Nat.lt_of_succ_lt_succ h)) (l.eraseIdx j)).trans ((perm_pop l j (Nat.lt_of_succ_lt_succ h)).cons x)
theorem sgs_erase : ∀ (l : List Nat) (j : Nat), (sgs l).eraseIdx j = sgs (l.eraseIdx j)
  | [], _ => rfl
  | x :: l, 0 => rfl
  | x :: l, j + 1 => congrArg (V.str (S [x]) :: ·) (sgs_erase l j)
theorem seqIx {j n : Nat} (h : j < n) : seqIndex? (j : Int) n = some j := by
  obtain ⟨k, e1, e2, e3, _⟩ := atI_get (atI_nat (show (List.range n)[j]? = some j by rw [List.getElem?_range h]))
  rw [List.length_range] at e1
  rw [e1]
  have := (List.getElem?_eq_some_iff.mp e2).2
  rw [List.getElem_range] at this
  rw [this]
def spPar (K : PySem.W.Frag) : Sp := fun vs H Q _ => ∃ (a p : Addr) (n : Nat) (ds : List Int), vs = [.ref a, .ref p] ∧ Tk K a p ds n H H ∧ ∀ (l : List Nat) H', Tk K a p ds n H H' → l.Nodup → 2 ≤ l.length → l.length ≤ 6 → (∀ c ∈ l, c ∈ PAR) → Q (.str (S l)) H'
theorem ok_parties (F : FnP K "_law_parties" s_parties f fd) (m_int : mg "int" = none) (m_len : mg "len" = none) (m_range : mg "range" = none) (c_take : Cal P w K mg base 1 "_law_take" (spTake K)) : FnOk P w K mg base CX0 2 f fd P_parties (spPar K) := by
  refine F.ok sc_parties (fun vs H Q E h => ?_) (fun cdv A outer s H vs Q E hr h => ?_)
  · obtain ⟨a, p, n, ds, rfl, _⟩ := h
    rfl
  · obtain ⟨a, p, n, ds, rfl, hT, q⟩ := h
    refine ⟨_, PSs.nox (pss_cons (ps_set (i := 2) sc_parties.nd rfl (by first | exact .inl rfl | exact .inr rfl) (pe_lst (pa_cons pe_str (pa_cons pe_str (pa_cons pe_str (pa_cons pe_str (pa_cons pe_str (pa_cons pe_str pa_nil))))))))
      (pss_cons (ps_set (i := 3) sc_parties.nd rfl (by first | exact .inl rfl | exact .inr rfl) (pe_op op_add pe_int (pe_op op_mod (pe_callTy call_int1 (by rfl) m_int (by decide +kernel) (pa_cons (pe_cl c_take hr (by decide) (by rfl) (pa_cons (pv 0) (pa_cons (pv 1) pa_nil))) pa_nil)) pe_int)))
      (pss_cut (ps_if (pt_cmpR op_eq (pe_op op_mod (pe_callTy call_int1 (by rfl) m_int (by decide +kernel) (pa_cons (pe_cl c_take hr (by decide) (by rfl) (pa_cons (pv 0) (pa_cons (pv 1) pa_nil))) pa_nil)) pe_int) pe_int (nomark _)) (pss_one (ps_set (i := 3) sc_parties.nd rfl (by first | exact .inl rfl | exact .inr rfl) (pe_op op_add pe_int (pe_op op_mod (pe_callTy call_int1 (by rfl) m_int (by decide +kernel) (pa_cons (pe_cl c_take hr (by decide) (by rfl) (pa_cons (pv 0) (pa_cons (pv 1) pa_nil))) pa_nil)) pe_int)))) pss_nil)
      (pss_cons (ps_set (i := 4) sc_parties.nd rfl (by first | exact .inl rfl | exact .inr rfl) pe_str)
      (pss_cons (ps_for PassesOwn.never rfl (pi_range1 (by rfl) m_range (pa_cons (pv 3) pa_nil)) (pg_name (i := 5) sc_parties.nd rfl (by first | exact .inl rfl | exact .inr rfl))
        (pss_one (ps_set (i := 4) sc_parties.nd rfl (by first | exact .inl rfl | exact .inr rfl) (pe_op op_add_str (pv 4) (pe_bm PySem.F.plainAttrs_list PySem.F.slot_list_pop PySem.F.type_list_pop mt_popAt (pv 2) (pa_cons (pe_op op_mod (pe_callTy call_int1 (by rfl) m_int (by decide +kernel) (pa_cons (pe_cl c_take hr (by decide) (by rfl) (pa_cons (pv 0) (pa_cons (pv 1) pa_nil))) pa_nil)) (pe_callB call_len_seq (by rfl) m_len PySem.boot_len (pa_cons (pv 2) pa_nil))) pa_nil))))))
      (pss_one (ps_ret (pv 4)))))))), ?_⟩
    walk_at "go"
    intro R nR
    have hT1 := hT.more (same_new (o := .lst (sgs PAR)) nR)
    have eR : (upd H R (.lst (sgs PAR))) R = some (.lst (sgs PAR)) := upd_same
    have Rp : R ≠ p := fun e => hT.hp (e ▸ nR)
    have aR : a ≠ R := fun e => by have := hT.hA; rw [e, nR] at this; cases this
    rw [show ([V.str "a", V.str "b", V.str "c", V.str "d", V.str "e", V.str "f"] : List V) = sgs PAR by decide +kernel]
    generalize upd H R (.lst (sgs PAR)) = H1 at hT1 eR
    obtain ⟨mm, em⟩ := hT1.pl
    walk_at "go"
    refine ⟨a, p, n, mm, ds, rfl, SqL.of hT1.hA, hT1.hd, em, hT1.ne, fun r r0 r1 => ?_⟩
    obtain ⟨hT2, sb2⟩ := hT1.next em
    have eR2 := sb2 _ _ Rp eR
    generalize upd H1 p (.lst [.int ((mm + 1 : Nat) : Int)]) = H2 at hT2 eR2
    walk_at "go"
    refine ⟨fun σ J => Tk K a p ds n H J ∧ J R = some (.lst (sgs PAR)) ∧ ∃ c : Nat, 2 ≤ c ∧ c ≤ 6 ∧ σ = [some (.ref a), some (.ref p), some (.ref R), some (.int (c : Int)), none, none], ?_, ?_⟩
    · obtain ⟨m2, em2⟩ := hT2.pl
      walk_at "go"
      refine ⟨a, p, n, m2, ds, rfl, SqL.of hT2.hA, hT2.hd, em2, hT2.ne, fun r2 r20 r21 => ?_⟩
      obtain ⟨hT3, sb3⟩ := hT2.next em2
      have eR3 := sb3 _ _ Rp eR2
      generalize upd H2 p (.lst [.int ((m2 + 1 : Nat) : Int)]) = H3 at hT3 eR3
      walk_at "go"
      refine ite2 (fun _ => ?_) (fun _ => ?_)
      · obtain ⟨m3, em3⟩ := hT3.pl
        walk_at "go"
        refine ⟨a, p, n, m3, ds, rfl, SqL.of hT3.hA, hT3.hd, em3, hT3.ne, fun r3 r30 r31 => ?_⟩
        obtain ⟨hT4, sb4⟩ := hT3.next em3
        have eR4 := sb4 _ _ Rp eR3
        generalize upd H3 p (.lst [.int ((m3 + 1 : Nat) : Int)]) = H4 at hT4 eR4
        walk_at "go"
        exact ⟨(2 + r3 % 5).toNat, by omega, by omega, by rw [Int.toNat_of_nonneg (by omega)]; rfl⟩
      · exact ⟨hT3, eR3, (2 + r % 2).toNat, by omega, by omega, by rw [Int.toNat_of_nonneg (by omega)]; rfl⟩
    rintro σ J ⟨hT3, eR3, c, c2, c6, rfl⟩
    walk_at "go"
    refine for_gen (n := c) (fun i σ J => Tk K a p ds n H J ∧ ∃ (ch rest : List Nat) (v5 : Option V), J R = some (.lst (sgs rest)) ∧ (ch ++ rest).Nodup ∧ (∀ x ∈ ch ++ rest, x ∈ PAR) ∧ ch.length = i ∧ ch.length + rest.length = 6 ∧ σ = [some (.ref a), some (.ref p), some (.ref R), some (.int (c : Int)), some (.str (S ch)), v5]) ⟨hT3, [], PAR, none, eR3, by decide, fun x h => h, rfl, by decide, rfl⟩ ?_ ?_ ?_ ?_
    · intro k σ J hk _
      show k < ((c : Int)).toNat
      omega
    · intro σ J _
      show ((c : Int)).toNat ≤ c
      omega
    · rintro i σ J x J' hk ⟨hT4, ch, rest, v5, eR4, nd, hm, lc, l6, rfl⟩ ⟨rfl, rfl⟩
      obtain ⟨m4, em4⟩ := hT4.pl
      walk_at "go"
      refine ⟨.inl ⟨rfl, _, SqL.of eR4⟩, ?_⟩
      walk_at "go"
      refine ⟨a, p, n, m4, ds, rfl, SqL.of hT4.hA, hT4.hd, em4, hT4.ne, fun r2 r20 r21 => ?_⟩
      obtain ⟨hT5, sb5⟩ := hT4.next em4
      have eR5 := sb5 _ _ Rp eR4
      generalize upd J' p (.lst [.int ((m4 + 1 : Nat) : Int)]) = J5 at hT5 eR5
      have lr : (sgs rest).length = rest.length := List.length_map ..
      walk_at "go"
      refine ⟨R, _, rfl, .inl (SqL.of eR5), ?_⟩
      rw [lr]
      obtain ⟨j, ej, hj⟩ := modN r2 (show 0 < rest.length by omega)
      walk_at "go"
      refine ⟨R, sgs rest, (j : Int), j, .str (S [rest[j]]), rfl, (show [V.int (r2 % (rest.length : Int))] = [V.int (j : Int)] by rw [ej]), eR5, by omega, by omega, by rw [lr]; exact seqIx hj, ?_, ?_⟩
      · unfold sgs
        rw [List.getElem?_map, List.getElem?_eq_getElem hj]
        rfl
      rw [sgs_erase]
      refine ⟨S ch, S [rest[j]], rfl, rfl, by rw [S_len, S_len]; exact szl (by show ch.length + 1 ≤ 100000; omega), ?_⟩
      rw [S_cat]
      have pp : (ch ++ [rest[j]] ++ rest.eraseIdx j).Perm (ch ++ rest) := by
        rw [List.append_assoc]
        exact (perm_pop rest j hj).append_left ch
      refine ⟨hT5.at_ nR Rp.symm aR, ch ++ [rest[j]], rest.eraseIdx j, _, upd_same, pp.nodup_iff.mpr nd, fun x hx => hm x (pp.mem_iff.mp hx), by rw [List.length_append, lc]; rfl, ?_, rfl⟩
      rw [List.length_append, List.length_eraseIdx_of_lt hj]
      show ch.length + 1 + _ = 6
      omega
    · rintro σ J ⟨hT4, ch, rest, v5, eR4, nd, hm, lc, l6, rfl⟩
      walk_at "go"
      exact q ch J hT4 (List.nodup_append.mp nd).1 (by omega) (by omega) fun x hx => hm x (List.mem_append_left _ hx)
theorem pay_ix {ps : List Nat} (nd : ps.Nodup) (l2 : 2 ≤ ps.length) (r2 : Int) {io : Nat} (hio : io < ps.length) (eio : r2 % (ps.length : Int) = (io : Int)) : ∃ j, ∃ h : j < ps.length, (r2 % (ps.length : Int) + 1 + r2 / (ps.length : Int) % ((ps.length : Int) - 1)) % (ps.length : Int) = (j : Int) ∧ ps[io] ≠ ps[j] := by
  obtain ⟨t, e1, h1⟩ := modN (r2 / (ps.length : Int)) (show 0 < ps.length - 1 by omega)
  rw [eio, show ((ps.length : Int) - 1) = ((ps.length - 1 : Nat) : Int) by omega, e1]
  obtain ⟨j, e2, h2⟩ := modN ((io : Int) + 1 + (t : Int)) (show 0 < ps.length by omega)
  refine ⟨j, h2, e2, fun z => ?_⟩
  have := (List.getElem_inj nd).mp z
  subst this
  by_cases c : io + 1 + t < ps.length
  · rw [Int.emod_eq_of_lt (by omega) (by omega)] at e2
    omega
  · rw [show ((io : Int) + 1 + (t : Int)) = ((io : Int) + 1 + (t : Int) - (ps.length : Int)) + (ps.length : Int) by omega, Int.add_emod_right, Int.emod_eq_of_lt (by omega) (by omega)] at e2
    omega
/-- the parties of a law -/
structure PY (ps : List Nat) : Prop where
  nd : ps.Nodup
  l2 : 2 ≤ ps.length
  l6 : ps.length ≤ 6
  par : ∀ c ∈ ps, c ∈ PAR
end
end Z
set_option Elab.async false
set_option linter.all false
namespace Nd
/-! ### needs: the mathematics -/
abbrev Rs := List (Int × Option Int)
def rise (k : Int) (p : Int × Option Int) : Int := if k ≤ p.1 then 0 else match p.2 with
  | none => k - p.1
  | some h => if k < h then k - p.1 else h - p.1
def Fs (rs : Rs) (k : Int) : Int := (rs.map (rise k)).sum
/-- the pairs lie behind the edge e, one behind another with gaps, none but the last is open -/
def Good : Int → Rs → Prop
  | _, [] => True
  | e, (l, none) :: r => e < l ∧ r = []
  | e, (l, some h) :: r => e < l ∧ l < h ∧ Good h r
theorem Good.weak {e e' : Int} (h : e' ≤ e) : ∀ {rs : Rs}, Good e rs → Good e' rs
  | [], _ => trivial
  | (l, none) :: r, g => ⟨by have := g.1; omega, g.2⟩
  | (l, some x) :: r, g => ⟨by have := g.1; omega, g.2⟩
theorem Fs_nil (k : Int) : Fs [] k = 0 := rfl
theorem Fs_cons (p : Int × Option Int) (rs : Rs) (k : Int) : Fs (p :: rs) k = rise k p + Fs rs k := by
  unfold Fs
  rw [List.map_cons, List.sum_cons]
theorem Fs_append (a b : Rs) (k : Int) : Fs (a ++ b) k = Fs a k + Fs b k := by
  unfold Fs
  rw [List.map_append, List.sum_append]
theorem rise_zero {k : Int} {p : Int × Option Int} (h : k ≤ p.1) : rise k p = 0 := if_pos h
theorem rise_none {k l : Int} (h : l < k) : rise k (l, none) = k - l := if_neg (by omega : ¬ k ≤ l)
theorem rise_some {k l x : Int} (h : l < k) : rise k (l, some x) = if k < x then k - l else x - l := if_neg (by omega : ¬ k ≤ l)
theorem Fs_zero {k : Int} : ∀ {e : Int} {rs : Rs}, Good e rs → k ≤ e → Fs rs k = 0
  | _, [], _, _ => rfl
  | e, (l, none) :: r, g, h => by
    have g1 := g.1
    rw [Fs_cons, rise_zero (show k ≤ l by omega), g.2]
    rfl
  | e, (l, some x) :: r, g, h => by
    have g1 := g.1
    have g2 := g.2.1
    rw [Fs_cons, rise_zero (show k ≤ l by omega), Fs_zero g.2.2 (by omega)]
    rfl
theorem Good.drop : ∀ {e : Int} {rs : Rs} (i : Nat), Good e rs → ∃ e', Good e' (rs.drop i)
  | e, rs, 0, g => ⟨e, g⟩
  | e, [], i + 1, _ => ⟨e, trivial⟩
  | e, (l, none) :: r, i + 1, g => by
    rw [g.2]
    exact ⟨e, by simp [Good]⟩
  | e, (l, some x) :: r, i + 1, g => Good.drop i g.2.2
/-- behind a low edge that k does not pass nothing is added -/
theorem Fs_stop {rs : Rs} {e k : Int} (g : Good e rs) {i : Nat} {l : Int} {h : Option Int} (hi : rs[i]? = some (l, h)) (hk : k ≤ l) : Fs rs k = Fs (rs.take i) k := by
  obtain ⟨e', g'⟩ := g.drop i
  have hd : rs.drop i = (l, h) :: rs.drop (i + 1) := by
    obtain ⟨hlt, e1⟩ := List.getElem?_eq_some_iff.mp hi
    rw [List.drop_eq_getElem_cons hlt, e1]
  have e2 : Fs (rs.drop i) k = 0 := by
    rw [hd] at g' ⊢
    rw [Fs_cons, rise_zero hk]
    cases h with
    | none => rw [g'.2]; rfl
    | some x =>
      rw [Fs_zero g'.2.2 (by have := g'.2.1; omega)]
      rfl
  have e3 : Fs rs k = Fs (rs.take i ++ rs.drop i) k := by rw [List.take_append_drop]
  rw [e3, Fs_append, e2]
  omega
theorem Fs_take {rs : Rs} {k : Int} {i : Nat} {p : Int × Option Int} (hi : rs[i]? = some p) : Fs (rs.take (i + 1)) k = Fs (rs.take i) k + rise k p := by
  rw [List.take_add_one, hi, Fs_append]
  show _ = _
  rw [show (some p).toList = [p] from rfl, Fs_cons, Fs_nil]
  omega
theorem rise_bounds {x y l : Int} {h : Option Int} (hl : ∀ v, h = some v → l < v) (hxy : x ≤ y) : 0 ≤ rise y (l, h) - rise x (l, h) ∧ 0 ≤ rise x (l, h) := by
  unfold rise
  dsimp only
  cases h with
  | none => dsimp only; constructor <;> (repeat' split) <;> omega
  | some v =>
    have := hl v rfl
    dsimp only
    constructor <;> (repeat' split) <;> omega
/-- the sum does not fall, and it grows by at most one for one -/
theorem Fs_slope {x y : Int} (hxy : x ≤ y) : ∀ {e : Int} {rs : Rs}, Good e rs → 0 ≤ Fs rs x ∧ Fs rs x ≤ Fs rs y ∧ (Fs rs y - Fs rs x ≤ y - x) ∧ (e ≤ y → Fs rs y ≤ y - e)
  | e, [], _ => ⟨by rw [Fs_nil]; omega, by rw [Fs_nil, Fs_nil]; omega, by rw [Fs_nil, Fs_nil]; omega, fun _ => by rw [Fs_nil]; omega⟩
  | e, (l, none) :: r, g => by
    have g1 := g.1
    rw [g.2, Fs_cons, Fs_cons, Fs_nil, Fs_nil]
    unfold rise
    dsimp only
    refine ⟨?_, ?_, ?_, fun _ => ?_⟩ <;> (repeat' split) <;> omega
  | e, (l, some h) :: r, g => by
    have g1 := g.1
    have g2 := g.2.1
    obtain ⟨i1, i2, i3, i4⟩ := Fs_slope hxy g.2.2
    rw [Fs_cons, Fs_cons]
    have z1 : x ≤ h → Fs r x = 0 := fun q => Fs_zero g.2.2 q
    have z2 : y ≤ h → Fs r y = 0 := fun q => Fs_zero g.2.2 q
    by_cases hy : y ≤ h
    · have a1 := z2 hy
      have a2 := z1 (by omega)
      rw [a1, a2]
      unfold rise
      dsimp only
      refine ⟨?_, ?_, ?_, fun _ => ?_⟩ <;> (repeat' split) <;> omega
    · have a4 := i4 (by omega)
      by_cases hx : x ≤ h
      · have a2 := z1 hx
        rw [a2]
        unfold rise
        dsimp only
        refine ⟨?_, ?_, ?_, fun _ => ?_⟩ <;> (repeat' split) <;> omega
      · unfold rise
        dsimp only
        refine ⟨?_, ?_, ?_, fun _ => ?_⟩ <;> (repeat' split) <;> omega
/-- flat_point as it goes -/
def fp : Rs → Int → Int → Option Int
  | [], left, edge => some (edge + left)
  | (l, h) :: r, left, edge => if left ≤ l - edge then some (edge + left) else match h with
    | none => none
    | some x => fp r (left - (l - edge)) x
theorem fp_spec : ∀ {rs : Rs} {A E : Int}, Good (E - 1) rs → 0 ≤ A → match fp rs A E with
    | some x => E ≤ x ∧ ∀ y, E ≤ y → (A ≤ (y - E) - Fs rs y ↔ x ≤ y)
    | none => ∀ y, E ≤ y → (y - E) - Fs rs y < A
  | [], A, E, _, hA => ⟨by omega, fun y hy => by rw [Fs_nil]; constructor <;> intro h <;> omega⟩
  | (l, h) :: r, A, E, g, hA => by
    unfold fp
    by_cases c : A ≤ l - E
    · rw [if_pos c]
      refine ⟨by omega, fun y hy => ?_⟩
      by_cases yl : y ≤ l
      · have z : Fs ((l, h) :: r) y = 0 := Fs_stop g (i := 0) rfl yl
        rw [z]
        constructor <;> intro <;> omega
      · have z : Fs ((l, h) :: r) l = 0 := Fs_stop g (i := 0) rfl (Int.le_refl l)
        have s := (Fs_slope (x := l) (y := y) (by omega) g).2.2.1
        rw [z] at s
        constructor <;> intro <;> omega
    · rw [if_neg c]
      cases h with
      | none =>
        have g2 := g.2
        subst g2
        intro y hy
        rw [Fs_cons, Fs_nil]
        by_cases yl : y ≤ l
        · rw [rise_zero yl]; omega
        · rw [rise_none (by omega)]; omega
      | some x =>
        have g1 := g.1
        have g2 := g.2.1
        have ih := fp_spec (rs := r) (A := A - (l - E)) (E := x) (g.2.2.weak (by omega)) (by omega)
        dsimp only
        have low : ∀ y, E ≤ y → y < x → (y - E) - Fs ((l, some x) :: r) y < A := fun y hy hx => by
          rw [Fs_cons, Fs_zero g.2.2 (by omega)]
          by_cases yl : y ≤ l
          · rw [rise_zero yl]; omega
          · rw [rise_some (by omega), if_pos hx]; omega
        have high : ∀ y, x ≤ y → (y - E) - Fs ((l, some x) :: r) y = (y - x) - Fs r y + (l - E) := fun y hx => by
          rw [Fs_cons, rise_some (by omega), if_neg (by omega)]
          omega
        cases e : fp r (A - (l - E)) x with
        | some q =>
          rw [e] at ih
          refine ⟨by have := ih.1; omega, fun y hy => ?_⟩
          by_cases hx : y < x
          · have a := low y hy hx
            have b := ih.1
            constructor <;> intro <;> omega
          · have a := high y (by omega)
            have b := ih.2 y (by omega)
            rw [a]
            constructor
            · intro h1
              exact b.mp (by omega)
            · intro h1
              have := b.mpr h1
              omega
        | none =>
          rw [e] at ih
          intro y hy
          by_cases hx : y < x
          · exact low y hy hx
          · have a := high y (by omega)
            have b := ih y (by omega)
            omega
end Nd
set_option Elab.async false
set_option linter.all false
namespace Nd
def top : Int → Rs → Option Int
  | t, [] => some t
  | _, (_, none) :: _ => none
  | t, (l, some h) :: r => top (t + h - l) r
def bnd : Int → Rs → Int
  | t, [] => t
  | t, (l, none) :: _ => if l > t then l else t
  | t, (l, some h) :: r => bnd (t + h - l) r
/-- the last pair is open, from l on -/
def opn : Rs → Option Int
  | [] => none
  | [(l, none)] => some l
  | [(_, some _)] => none
  | _ :: q :: r => opn (q :: r)
theorem ends_spec : ∀ {rs : Rs} {e t : Int}, Good e rs → match opn rs with
    | some l => e < l ∧ bnd t rs = (if l > t + Fs rs l then l else t + Fs rs l) ∧ (∀ y, l ≤ y → Fs rs y = Fs rs l + (y - l)) ∧ top t rs = none
    | none => (∀ y, t + Fs rs y ≤ bnd t rs) ∧ top t rs = some (bnd t rs)
  | [], e, t, _ => ⟨fun y => by rw [Fs_nil]; show t + 0 ≤ t; omega, rfl⟩
  | [(l, none)], e, t, g => by
    have z : Fs [(l, none)] l = 0 := by rw [Fs_cons, rise_zero (Int.le_refl l), Fs_nil]; rfl
    refine ⟨g.1, ?_, fun y hy => ?_, rfl⟩
    · rw [z]; show (if l > t then l else t) = _; rw [Int.add_zero]
    · rw [z, Fs_cons, Fs_nil]
      by_cases h : y ≤ l
      · rw [rise_zero h]; omega
      · rw [rise_none (by omega)]; omega
  | [(l, some h)], e, t, g => by
    have g2 := g.2.1
    refine ⟨fun y => ?_, rfl⟩
    rw [Fs_cons, Fs_nil]
    show t + (rise y (l, some h) + 0) ≤ t + h - l
    unfold rise
    dsimp only
    (repeat' split) <;> omega
  | (l, none) :: q :: r, e, t, g => by
    have := g.2
    cases this
  | (l, some h) :: q :: r, e, t, g => by
    have g2 := g.2.1
    have ih := ends_spec (rs := q :: r) (e := h) (t := t + h - l) g.2.2
    show match opn (q :: r) with
      | some l' => _
      | none => _
    cases c : opn (q :: r) with
    | some l' =>
      rw [c] at ih
      obtain ⟨i1, i2, i3, i4⟩ := ih
      have e1 : ∀ y, h ≤ y → Fs ((l, some h) :: q :: r) y = (h - l) + Fs (q :: r) y := fun y hy => by
        rw [Fs_cons, rise_some (by omega), if_neg (by omega)]
      have g1 := g.1
      refine ⟨by omega, ?_, fun y hy => ?_, i4⟩
      · show bnd (t + h - l) (q :: r) = _
        rw [i2, e1 l' (by omega)]
        rw [show t + h - l + Fs (q :: r) l' = t + (h - l + Fs (q :: r) l') by omega]
      · rw [e1 y (by omega), e1 l' (by omega), i3 y hy]
        omega
    | none =>
      rw [c] at ih
      refine ⟨fun y => ?_, ih.2⟩
      have := ih.1 y
      rw [Fs_cons]
      show t + (rise y (l, some h) + Fs (q :: r) y) ≤ bnd (t + h - l) (q :: r)
      have b : rise y (l, some h) ≤ h - l := by
        unfold rise
        dsimp only
        (repeat' split) <;> omega
      omega
def val (st : Option Int) (rs : Rs) (nv : Option Int) (k : Option Int) : Option Int := match st, k with
  | some s, some k => some (s + Fs rs k)
  | _, _ => nv
/-- the greatest x with f(x) ≥ x; the least with f(x) ≤ x -/
def grt (s : Int) (rs : Rs) : Option Int := (fp rs (s + 1) 0).map (· - 1)
def lst (s : Int) (rs : Rs) : Option Int := fp rs s 0
theorem lst_spec {s : Int} {rs : Rs} (g : Good (-1) rs) (hs : 0 ≤ s) : match lst s rs with
    | some x => 0 ≤ x ∧ ∀ y, 0 ≤ y → (s + Fs rs y ≤ y ↔ x ≤ y)
    | none => ∀ y, 0 ≤ y → y < s + Fs rs y := by
  have h := fp_spec (rs := rs) (A := s) (E := 0) g hs
  unfold lst
  cases e : fp rs s 0 with
  | some x =>
    rw [e] at h
    refine ⟨h.1, fun y hy => ?_⟩
    have := h.2 y hy
    constructor
    · intro z
      exact this.mp (by omega)
    · intro z
      have := this.mpr z
      omega
  | none =>
    rw [e] at h
    intro y hy
    have := h y hy
    omega
theorem grt_spec {s : Int} {rs : Rs} (g : Good (-1) rs) (hs : 0 ≤ s) : match grt s rs with
    | some x => 0 ≤ x ∧ ∀ y, 0 ≤ y → (y ≤ s + Fs rs y ↔ y ≤ x)
    | none => ∀ y, 0 ≤ y → y ≤ s + Fs rs y := by
  have h := fp_spec (rs := rs) (A := s + 1) (E := 0) g (by omega)
  unfold grt
  cases e : fp rs (s + 1) 0 with
  | some x =>
    rw [e] at h
    have pos := h.2 0 (by omega)
    have z0 := (Fs_slope (x := 0) (y := 0) (by omega) g).1
    have x1 : ¬ x ≤ 0 := fun z => by
      have := pos.mpr z
      omega
    show 0 ≤ x - 1 ∧ ∀ y, 0 ≤ y → (y ≤ s + Fs rs y ↔ y ≤ x - 1)
    refine ⟨by omega, fun y hy => ?_⟩
    have := h.2 y hy
    constructor
    · intro z
      apply Decidable.byContradiction
      intro q
      have := this.mpr (by omega)
      omega
    · intro z
      apply Decidable.byContradiction
      intro q
      have := this.mp (by omega)
      omega
  | none =>
    rw [e] at h
    intro y hy
    have := h y hy
    omega
theorem grt_none {s l : Int} {rs : Rs} (g : Good (-1) rs) (hs : 0 ≤ s) (ho : opn rs = some l) (hl : l ≤ s + Fs rs l) : grt s rs = none := by
  have h := grt_spec g hs
  have e := ends_spec (t := s) g
  rw [ho] at e
  cases c : grt s rs with
  | none => rfl
  | some x =>
    rw [c] at h
    exfalso
    have h1 := h.2 (max l (x + 1)) (by omega)
    have h2 := e.2.2.1 (max l (x + 1)) (by omega)
    have h3 := h1.mp (by omega)
    omega
theorem lst_none {s l : Int} {rs : Rs} (g : Good (-1) rs) (hs : 0 ≤ s) (ho : opn rs = some l) (hl : l < s + Fs rs l) : lst s rs = none := by
  have h := lst_spec g hs
  have e := ends_spec (t := s) g
  rw [ho] at e
  cases c : lst s rs with
  | none => rfl
  | some x =>
    rw [c] at h
    exfalso
    have h1 := h.2 (max l x) (by omega)
    have h2 := e.2.2.1 (max l x) (by omega)
    have h3 := h1.mpr (by omega)
    omega
/-- where the search for the greatest one begins -/
theorem grt_top {s : Int} {rs : Rs} (g : Good (-1) rs) (hs : 0 ≤ s) (hn : ∀ l, opn rs = some l → ¬ l ≤ s + Fs rs l) : s + Fs rs (bnd s rs + 1) < bnd s rs + 1 ∧ 0 ≤ bnd s rs := by
  have e := ends_spec (t := s) g
  have z0 := (Fs_slope (x := 0) (y := 0) (by omega) g).1
  cases c : opn rs with
  | some l =>
    rw [c] at e
    have h1 := hn l c
    obtain ⟨e1, e2, e3, e4⟩ := e
    rw [if_pos (by omega)] at e2
    rw [e2, e3 (l + 1) (by omega)]
    omega
  | none =>
    rw [c] at e
    have h1 := e.1 (bnd s rs + 1)
    have h2 := e.1 0
    omega
theorem lst_top {s : Int} {rs : Rs} (g : Good (-1) rs) (hs : 0 ≤ s) (hn : ∀ l, opn rs = some l → ¬ l < s + Fs rs l) : s + Fs rs (bnd s rs) ≤ bnd s rs ∧ 0 ≤ bnd s rs := by
  have e := ends_spec (t := s) g
  have z0 := (Fs_slope (x := 0) (y := 0) (by omega) g).1
  cases c : opn rs with
  | some l =>
    rw [c] at e
    have h1 := hn l c
    obtain ⟨e1, e2, e3, e4⟩ := e
    by_cases q : l > s + Fs rs l
    · rw [if_pos q] at e2
      rw [e2]
      omega
    · rw [if_neg q] at e2
      have q2 : s + Fs rs l = l := by omega
      rw [e2, q2]
      omega
  | none =>
    rw [c] at e
    have h1 := e.1 (bnd s rs)
    have h2 := e.1 0
    omega
theorem grt_is {s x : Int} {rs : Rs} (g : Good (-1) rs) (hs : 0 ≤ s) (h0 : 0 ≤ x) (h1 : x ≤ s + Fs rs x) (h2 : s + Fs rs (x + 1) < x + 1) : grt s rs = some x := by
  have h := grt_spec g hs
  cases c : grt s rs with
  | none =>
    rw [c] at h
    have := h (x + 1) (by omega)
    omega
  | some y =>
    rw [c] at h
    have a := (h.2 x h0).mp h1
    have b : ¬ x + 1 ≤ y := fun z => by
      have := (h.2 (x + 1) (by omega)).mpr z
      omega
    rw [show y = x by omega]
theorem lst_is {s x : Int} {rs : Rs} (g : Good (-1) rs) (hs : 0 ≤ s) (h0 : 0 ≤ x) (h1 : s + Fs rs x ≤ x) (h2 : x = 0 ∨ x - 1 < s + Fs rs (x - 1)) : lst s rs = some x := by
  have h := lst_spec g hs
  cases c : lst s rs with
  | none =>
    rw [c] at h
    have := h x h0
    omega
  | some y =>
    rw [c] at h
    have a := (h.2 x h0).mp h1
    have b := h.1
    rcases h2 with z | z
    · rw [show y = x by omega]
    · by_cases hx : x = 0
      · rw [show y = x by omega]
      · have d : ¬ y ≤ x - 1 := fun q => by
          have := (h.2 (x - 1) (by omega)).mpr q
          omega
        rw [show y = x by omega]
end Nd
set_option Elab.async false
set_option linter.all false
set_option maxRecDepth 100000
set_option maxHeartbeats 4000000
namespace Zn
open Z
open PySem PySem.Spec PyProof.Rows L2 Nd
/-! ### None or a number; pairs; lists of pairs -/
def oV : Option Int → V
  | none => .non
  | some i => .int i
theorem oV_non {o : Option Int} : decide (oV o = V.non) = o.isNone := by cases o <;> rfl
def Ris (b c : Bool) (K : PySem.W.Frag) (H : Hp) (a : Addr) (ps : List Addr) (rs : Rs) : Prop := SqK b K H a (ps.map V.ref) ∧ ps.length = rs.length ∧ ∀ (i : Nat) (p : Addr) (q : Int × Option Int), ps[i]? = some p → rs[i]? = some q → SqK c K H p [.int q.1, oV q.2]
theorem Ris.mono {b c : Bool} {K : PySem.W.Frag} {H H' : Hp} {a : Addr} {ps : List Addr} {rs : Rs} (s : Same H H') (r : Ris b c K H a ps rs) : Ris b c K H' a ps rs := ⟨Z.Same.sqK s r.1, r.2.1, fun i p q h1 h2 => Z.Same.sqK s (r.2.2 i p q h1 h2)⟩
theorem _root_.Z.SqK.or {b : Bool} {K : PySem.W.Frag} {H : Hp} {a : Addr} {xs : List V} (h : SqK b K H a xs) : SqL K H a xs ∨ SqT K H a xs := by
  cases b
  · exact .inr h
  · exact .inl h
/-! ### what is walked: a list or a tuple -/
inductive Eor (A B : Prop) : Prop
  | l : A → Eor A B
  | r : B → Eor A B
def iOr (a b : TI) : TI := fun σ H R => Eor (a σ H R) (b σ H R)
theorem pi_or {X : Cx} {tg e : Expr} {a b : TI} (h1 : PI X tg e a) (h2 : PI X tg e b) : PI X tg e (iOr a b) := by
  constructor
  intro pins s σ H R I h
  rcases h with h | h
  · exact h1.run pins s σ H R I h
  · exact h2.run pins s σ H R I h
theorem pi_seq {X : Cx} {tg l : Expr} {tl : TE} (h : PE X l tl) : PI X tg l (iOr (iList X.K tl) (iTup X.K tl)) := pi_or (pi_list h) (pi_tup h)
def ItS (b : Bool) (K : PySem.W.Frag) (a : Addr) : It := match b with
  | true => Itl K a
  | false => Itt K a
theorem its_go {b : Bool} {K : PySem.W.Frag} {H : Hp} {a : Addr} {xs : List V} {i : Nat} {x : V} (h : SqK b K H a xs) (e : xs[i]? = some x) : (ItS b K a).go i H := by
  cases b
  · exact ⟨_, _, h, e⟩
  · exact ⟨_, _, h, e⟩
theorem its_stop {b : Bool} {K : PySem.W.Frag} {H : Hp} {a : Addr} {xs : List V} {i : Nat} (h : SqK b K H a xs) (e : xs.length ≤ i) : (ItS b K a).stop i H := by
  cases b
  · exact ⟨_, h, e⟩
  · exact ⟨_, h, e⟩
theorem its_yld {b : Bool} {K : PySem.W.Frag} {H H' : Hp} {a : Addr} {xs : List V} {i : Nat} {x : V} (h : SqK b K H a xs) (y : (ItS b K a).yld i H x H') : H' = H ∧ xs[i]? = some x := by
  cases b
  · exact ⟨y.1, y.2 _ h⟩
  · exact ⟨y.1, y.2 _ h⟩
theorem iSeq_of {b : Bool} {K : PySem.W.Frag} {σ : L2.St} {H : Hp} {tl : TE} {R : It → Hp → Prop} {a : Addr} {xs : List V} (h : ∀ Q : VK, Q (.ref a) H → tl σ H Q) (hs : SqK b K H a xs) (q : R (ItS b K a) H) : iOr (iList K tl) (iTup K tl) σ H R := by
  cases b
  · exact .r (h _ ⟨a, rfl, ⟨_, hs⟩, q⟩)
  · exact .l (h _ ⟨a, rfl, ⟨_, hs⟩, q⟩)
abbrev gPair (K : PySem.W.Frag) (i j : Nat) : TG := gOr (gUnl K 2 (gCons (gName i) (gCons (gName j) gNil))) (gTup K 2 (gCons (gName i) (gCons (gName j) gNil)))
theorem gpair_of {c : Bool} {K : PySem.W.Frag} {i j : Nat} {p : Addr} {x y : V} {σ : L2.St} {H : Hp} {Q : L2.St → Hp → Prop} (h : SqK c K H p [x, y]) (q : Q ((σ.set i (some x)).set j (some y)) H) : gPair K i j (.ref p) σ H Q := by
  cases c
  · exact .inr ⟨p, _, rfl, h, rfl, x, [y], rfl, y, [], rfl, rfl, q⟩
  · exact .inl ⟨p, _, rfl, h, rfl, x, [y], rfl, y, [], rfl, rfl, q⟩
/-- for low, high in rises, the list standing still -/
theorem for_pairs {b c : Bool} {K : PySem.W.Frag} {a : Addr} {ps : List Addr} {rs : Rs} {H0 : Hp} {i1 i2 j : Nat} {tb : TS} {D : Ends} {σ : L2.St} {H : Hp} (hR : Ris b c K H0 a ps rs) (s0 : Same H0 H) (hj : σ[j]? = some (some (.ref a))) (Pv : Nat → L2.St → Hp → Prop) (h0 : Pv 0 σ H) (hq : ∀ i σ H1, Pv i σ H1 → Same H0 H1)
    (hs : ∀ (i : Nat) (l : Int) (h : Option Int) (σ : L2.St) (H1 : Hp), rs[i]? = some (l, h) → Pv i σ H1 → tb { D with nx := Pv (i + 1), ct := Pv (i + 1), bk := D.nx } ((σ.set i1 (some (.int l))).set i2 (some (oV h))) H1)
    (hd : ∀ σ H1, Pv rs.length σ H1 → D.nx σ H1) : tFor (iOr (iList K (tVar j)) (iTup K (tVar j))) (gPair K i1 i2) tb D σ H := by
  refine iSeq_of (b := b) (fun Q q => ⟨_, hj, q⟩) (Z.Same.sqK s0 hR.1) ?_
  refine for_gen (n := rs.length) Pv h0 ?_ ?_ ?_ hd
  · intro i σ1 H1 hi p
    have hi2 : i < ps.length := by rw [hR.2.1]; exact hi
    exact its_go (x := .ref ps[i]) (Z.Same.sqK (hq i σ1 H1 p) hR.1) (by rw [List.getElem?_map, List.getElem?_eq_getElem hi2]; rfl)
  · intro σ1 H1 p
    exact its_stop (Z.Same.sqK (hq _ σ1 H1 p) hR.1) (by rw [List.length_map, hR.2.1]; exact Nat.le_refl _)
  · intro i σ1 H1 x H' hi p y
    have s1 := hq i σ1 H1 p
    obtain ⟨rfl, ex⟩ := its_yld (Z.Same.sqK s1 hR.1) y
    obtain ⟨q, eq, rfl⟩ := of_map ex
    have er : rs[i]? = some (rs[i].1, rs[i].2) := List.getElem?_eq_getElem hi
    exact gpair_of (Z.Same.sqK s1 (hR.2.2 i q _ eq er)) (hs i _ _ σ1 H' er p)
abbrev FnM (K : PySem.W.Frag) (x q : Str) (st : Stmt) (f : Addr) (fd : FuncData) : Prop := FunD K x q (defArgs st) (defBody st) (defScope st) [] [] f fd
theorem fnr_of {P : Program} {w : World} {K : PySem.W.Frag} {mg : Str → Option Value} {base : Heap} {k : Nat} {f : Addr} {fd : FuncData} {ps : List Str} {sp : Sp} (F : FnOk P w K mg base CX0 k f fd ps sp) (b : Binds K fd ps []) : FnR P w K mg base CX0 k f sp := (FnOk.raw (dvs := []) F b .nil).imp fun vs H Q E h => by
  show sp (vs ++ []) H Q E
  rw [List.append_nil]
  exact h
theorem relv_ref {a : Addr} : L2.RelV (.ref a) (.ref a) := rfl
/-- an if that only guards -/
theorem cut_stay {t u : TS} {D : Ends} {σ : L2.St} {H : Hp} (h : t { D with nx := fun σ' H' => σ' = σ ∧ H' = H } σ H) (h2 : u D σ H) : C8.tCut t u D σ H := ⟨_, h, fun σ' H' z => by
  obtain ⟨rfl, rfl⟩ := z
  exact h2⟩
/-- the fields of a need -/
def NeedAt (C : Addr) (K : PySem.W.Frag) (H : Hp) (n : Addr) (st : Option Int) (rs : Rs) (nv : Option Int) : Prop := ∃ dx r ps, H n = some (.ins C dx [("start", oV st), ("rises", .ref r), ("never", oV nv)]) ∧ Ris false false K H r ps rs ∧ H r = some (.tup (ps.map V.ref))
theorem NeedAt.mono {C : Addr} {K : PySem.W.Frag} {H H' : Hp} {n : Addr} {st nv : Option Int} {rs : Rs} (s : Same H H') (h : NeedAt C K H n st rs nv) : NeedAt C K H' n st rs nv := by
  obtain ⟨dx, r, ps, e, h2, h3⟩ := h
  exact ⟨dx, r, ps, s _ _ e, h2.mono s, s _ _ h3⟩
/-- for pair in rises, a tuple standing still -/
theorem for_prs {c : Bool} {K : PySem.W.Frag} {a : Addr} {ps : List Addr} {rs : Rs} {H0 : Hp} {i1 : Nat} {tb : TS} {D : Ends} {σ : L2.St} {H : Hp} (hR : Ris false c K H0 a ps rs) (Pv : Nat → L2.St → Hp → Prop) (h0 : Pv 0 σ H) (hq : ∀ i σ H1, Pv i σ H1 → Same H0 H1)
    (hs : ∀ (i : Nat) (p : Addr) (l : Int) (h : Option Int) (σ : L2.St) (H1 : Hp), rs[i]? = some (l, h) → SqK c K H1 p [.int l, oV h] → Pv i σ H1 → tb { D with nx := Pv (i + 1), ct := Pv (i + 1), bk := D.nx } (σ.set i1 (some (.ref p))) H1)
    (hd : ∀ σ H1, Pv rs.length σ H1 → D.nx σ H1) : forW (Itt K a) (gName i1) tb D σ H := by
  refine for_gen (n := rs.length) Pv h0 ?_ ?_ ?_ hd
  · intro i σ1 H1 hi p
    have hi2 : i < ps.length := by rw [hR.2.1]; exact hi
    exact its_go (b := false) (x := .ref ps[i]) (Z.Same.sqK (hq i σ1 H1 p) hR.1) (by rw [List.getElem?_map, List.getElem?_eq_getElem hi2]; rfl)
  · intro σ1 H1 p
    exact its_stop (b := false) (Z.Same.sqK (hq _ σ1 H1 p) hR.1) (by rw [List.length_map, hR.2.1]; exact Nat.le_refl _)
  · intro i σ1 H1 x H' hi p y
    have s1 := hq i σ1 H1 p
    obtain ⟨rfl, ex⟩ := its_yld (b := false) (Z.Same.sqK s1 hR.1) y
    obtain ⟨q, eq, rfl⟩ := of_map ex
    have er : rs[i]? = some (rs[i].1, rs[i].2) := List.getElem?_eq_getElem hi
    exact hs i q _ _ σ1 H' er (Z.Same.sqK s1 (hR.2.2 i q _ eq er)) p
end Zn
set_option pp.maxSteps 700
set_option Elab.async false
set_option linter.all false
set_option maxRecDepth 100000
set_option maxHeartbeats 4000000
namespace Zn
open Z
open Nd
open PySem PySem.Spec PyProof.Rows L2
open C8 (pss_cut tCut)
local macro_rules | `(tactic| walk_at "num") => `(tactic| first | rfl | omega | decide | exact Nat.le_of_lt (small1000 (by simp)) | exact ⟨by omega, by omega⟩ | exact ⟨by omega, by omega, by omega⟩ | exact ⟨by decide, by decide, by decide⟩ | exact Or.inl ⟨by omega, by omega⟩ | exact Or.inr ⟨by omega, by omega⟩)
local macro_rules | `(tactic| walk_at "go") => `(tactic| repeat (first | refine ⟨_, rfl, ?_⟩ | refine ⟨_, _, rfl, rfl, ?_⟩ | refine ⟨_, _, rfl, ?_⟩ | (refine ⟨_, _, rfl, rfl, ?_, ?_⟩; focus walk_at "num") | refine Or.inl ⟨_, rfl, ?_⟩ | refine ⟨_, _, _, _, rfl, rfl, (by assumption), (by rfl), ?_⟩ | refine ⟨_, _, _, _, _, rfl, (by assumption), (by assumption), (by assumption), (by rfl), ?_⟩ | refine ⟨rfl, ?_⟩ | (refine And.intro ?_ ?_; focus walk_at "num")))
abbrev s_value_at : Stmt := topS 11
abbrev N_value_at : List Str := ["start", "rises", "k", "value", "low", "high", "top"]
abbrev P_value_at : List Str := ["start", "rises", "k"]
theorem sc_value_at : FnScope N_value_at P_value_at (defScope s_value_at) := ⟨rfl, rfl, rfl, by decide +kernel, rfl, by decide +kernel, by decide +kernel⟩
abbrev s_greatest_value : Stmt := topS 23
abbrev N_greatest_value : List Str := ["start", "rises", "top", "edge", "low", "high"]
abbrev P_greatest_value : List Str := ["start", "rises"]
theorem sc_greatest_value : FnScope N_greatest_value P_greatest_value (defScope s_greatest_value) := ⟨rfl, rfl, rfl, by decide +kernel, rfl, by decide +kernel, by decide +kernel⟩
abbrev s_flat_point : Stmt := topS 18
abbrev N_flat_point : List Str := ["rises", "amount", "left", "edge", "low", "high"]
abbrev P_flat_point : List Str := ["rises", "amount"]
theorem sc_flat_point : FnScope N_flat_point P_flat_point (defScope s_flat_point) := ⟨rfl, rfl, rfl, by decide +kernel, rfl, by decide +kernel, by decide +kernel⟩
abbrev s_Need___init__ : Stmt := inClass (topS 24) 0
abbrev N_Need___init__ : List Str := ["self", "start", "rises", "never", "top", "low", "high"]
abbrev P_Need___init__ : List Str := ["self", "start", "rises", "never"]
theorem sc_Need___init__ : FnScope N_Need___init__ P_Need___init__ (defScope s_Need___init__) := ⟨rfl, rfl, rfl, by decide +kernel, rfl, by decide +kernel, by decide +kernel⟩
abbrev s_Need_value_for : Stmt := inClass (topS 24) 1
abbrev N_Need_value_for : List Str := ["self", "k"]
abbrev P_Need_value_for : List Str := ["self", "k"]
theorem sc_Need_value_for : FnScope N_Need_value_for P_Need_value_for (defScope s_Need_value_for) := ⟨rfl, rfl, rfl, by decide +kernel, rfl, by decide +kernel, by decide +kernel⟩
abbrev s_Need___call__ : Stmt := inClass (topS 24) 2
abbrev N_Need___call__ : List Str := ["self", "needed"]
abbrev P_Need___call__ : List Str := ["self", "needed"]
theorem sc_Need___call__ : FnScope N_Need___call__ P_Need___call__ (defScope s_Need___call__) := ⟨rfl, rfl, rfl, by decide +kernel, rfl, by decide +kernel, by decide +kernel⟩
abbrev s_Need_mine : Stmt := inClass (topS 24) 9
abbrev N_Need_mine : List Str := ["self", "point", "rises"]
abbrev P_Need_mine : List Str := ["self"]
theorem sc_Need_mine : FnScope N_Need_mine P_Need_mine (defScope s_Need_mine) := ⟨rfl, rfl, rfl, by decide +kernel, rfl, by decide +kernel, by decide +kernel⟩
abbrev s_Need_theirs : Stmt := inClass (topS 24) 10
abbrev N_Need_theirs : List Str := ["self", "point"]
abbrev P_Need_theirs : List Str := ["self"]
theorem sc_Need_theirs : FnScope N_Need_theirs P_Need_theirs (defScope s_Need_theirs) := ⟨rfl, rfl, rfl, by decide +kernel, rfl, by decide +kernel, by decide +kernel⟩
abbrev s_Need_endless : Stmt := inClass (topS 24) 11
abbrev N_Need_endless : List Str := ["self", "point"]
abbrev P_Need_endless : List Str := ["self"]
theorem sc_Need_endless : FnScope N_Need_endless P_Need_endless (defScope s_Need_endless) := ⟨rfl, rfl, rfl, by decide +kernel, rfl, by decide +kernel, by decide +kernel⟩
section
variable {P : Program} {w : World} {K : PySem.W.Frag} {mg : Str → Option Value} {base : Heap} {f C : Addr} {fd : FuncData}
/-! ### value_at -/
def spValueAt (K : PySem.W.Frag) : Sp := fun vs H Q _ => ∃ (b c : Bool) (s k : Int) (r : Addr) (ps : List Addr) (rs : Rs), vs = [.int s, .ref r, .int k] ∧ Ris b c K H r ps rs ∧ Good (-1) rs ∧ Q (.int (s + Fs rs k)) H
theorem ok_value_at (F : FnP K "value_at" s_value_at f fd) : FnOk P w K mg base CX0 1 f fd P_value_at (spValueAt K) := by
  refine F.ok sc_value_at (fun vs H Q E h => ?_) (fun cdv A outer s H vs Q E hr h => ?_)
  · obtain ⟨b, c, s, k, r, ps, rs, rfl, _⟩ := h
    rfl
  · obtain ⟨b, c, s, k, r, ps, rs, rfl, hR, hg, q⟩ := h
    refine ⟨_, PSs.nox (pss_cons (ps_set (i := 3) sc_value_at.nd rfl (by first | exact .inl rfl | exact .inr rfl) (pv 0))
      (pss_cons (ps_for PassesOwn.never rfl (pi_seq (pv 1)) (pg_or (pg_unl rfl (pgs_cons (pg_name (i := 4) sc_value_at.nd rfl (by first | exact .inl rfl | exact .inr rfl)) (pgs_cons (pg_name (i := 5) sc_value_at.nd rfl (by first | exact .inl rfl | exact .inr rfl)) pgs_nil))) (pg_tup rfl (pgs_cons (pg_name (i := 4) sc_value_at.nd rfl (by first | exact .inl rfl | exact .inr rfl)) (pgs_cons (pg_name (i := 5) sc_value_at.nd rfl (by first | exact .inl rfl | exact .inr rfl)) pgs_nil))))
        (pss_cons (ps_if (pt_cmpR op_le (pv 2) (pv 4) (nomark _)) (pss_one ps_break) pss_nil)
      (pss_cons (ps_set (i := 6) sc_value_at.nd rfl (by first | exact .inl rfl | exact .inr rfl) (pe_ifExp (PW.pt (pw_or (pt_cmpR op_isN (pv 5) pe_non (nomark _)) (pw_or1 (pt_cmpR op_lt (pv 2) (pv 5) (nomark _))))) (pv 2) (pv 5)))
      (pss_one (ps_set (i := 3) sc_value_at.nd rfl (by first | exact .inl rfl | exact .inr rfl) (pe_op op_sub (pe_op op_add (pv 3) (pv 6)) (pv 4)))))))
      (pss_one (ps_ret (pv 3))))), ?_⟩
    walk_at "go"
    refine for_pairs (j := 1) hR (Same.refl H) (by rfl) (fun i σ H1 => H1 = H ∧ ∃ (x : Int) (v4 v5 v6 : Option V), x = s + Fs (rs.take i) k ∧ σ = [some (.int s), some (.ref r), some (.int k), some (.int x), v4, v5, v6]) ⟨rfl, s, none, none, none, ?_, rfl⟩ ?_ ?_ ?_
    · rw [List.take_zero, Fs_nil, Int.add_zero]
    · rintro i σ H1 ⟨rfl, _⟩
      exact Same.refl _
    · rintro i l h σ H1 hi ⟨rfl, x, v4, v5, v6, ex, rfl⟩
      walk_at "go"
      refine ite2 (fun e => ?_) (fun e => ?_)
      · have hk : k ≤ l := of_decide_eq_true e
        refine ⟨_, rfl, ?_⟩
        rw [ex, ← Fs_stop hg hi hk]
        exact q
      · have hk : ¬ k ≤ l := fun z => e (decide_eq_true z)
        have et := Fs_take (k := k) hi
        cases h with
        | none =>
          rw [rise_none (by omega)] at et
          walk_at "go"
          refine ⟨_, _, _, _, ?_, rfl⟩
          omega
        | some y =>
          rw [rise_some (by omega)] at et
          walk_at "go"
          refine ite2 (fun e2 => ?_) (fun e2 => ?_)
          · have hx : k < y := of_decide_eq_true e2
            rw [if_pos hx] at et
            walk_at "go"
            refine ⟨_, _, _, _, ?_, rfl⟩
            omega
          · have hx : ¬ k < y := fun z => e2 (decide_eq_true z)
            rw [if_neg hx] at et
            walk_at "go"
            refine ⟨_, _, _, _, ?_, rfl⟩
            omega
    · rintro σ H1 ⟨rfl, x, v4, v5, v6, ex, rfl⟩
      rw [List.take_length] at ex
      walk_at "go"
      rw [ex]
      exact q
/-! ### greatest_value -/
def tops : Option Int → Rs → Option Int
  | none, _ => none
  | some s, rs => top s rs
def Fit : Option Int → Rs → Prop
  | none, rs => rs = []
  | some _, rs => Good (-1) rs
def spGreatest (K : PySem.W.Frag) : Sp := fun vs H Q _ => ∃ (b c : Bool) (st : Option Int) (r : Addr) (ps : List Addr) (rs : Rs), vs = [oV st, .ref r] ∧ Ris b c K H r ps rs ∧ Fit st rs ∧ Q (oV (tops st rs)) H
theorem ok_greatest_value (F : FnP K "greatest_value" s_greatest_value f fd) (m_len : mg "len" = none) : FnOk P w K mg base CX0 1 f fd P_greatest_value (spGreatest K) := by
  refine F.ok sc_greatest_value (fun vs H Q E h => ?_) (fun cdv A outer s H vs Q E hr h => ?_)
  · obtain ⟨b, c, st, r, ps, rs, rfl, _⟩ := h
    rfl
  · obtain ⟨b, c, st, r, ps, rs, rfl, hR, hg, q⟩ := h
    refine ⟨_, PSs.nox (pss_cons (ps_if (pt_cmpR op_isN (pv 0) pe_non (nomark _)) (pss_cons (ps_if (pt_cmpR op_gt (pe_callB call_len_seq (by rfl) m_len PySem.boot_len (pa_cons (pv 1) pa_nil)) pe_int (nomark _)) (pss_one ps_never) pss_nil)
      (pss_one (ps_ret pe_non))) pss_nil)
      (pss_cons (ps_par (i := 2) (j := 3) (by rfl) sc_greatest_value.nd rfl rfl (by decide) rfl rfl (pa_cons (pv 0) (pa_cons (pe_un un_neg pe_int) pa_nil)) (by rfl))
      (pss_cons (ps_for PassesOwn.never rfl (pi_seq (pv 1)) (pg_or (pg_unl rfl (pgs_cons (pg_name (i := 4) sc_greatest_value.nd rfl (by first | exact .inl rfl | exact .inr rfl)) (pgs_cons (pg_name (i := 5) sc_greatest_value.nd rfl (by first | exact .inl rfl | exact .inr rfl)) pgs_nil))) (pg_tup rfl (pgs_cons (pg_name (i := 4) sc_greatest_value.nd rfl (by first | exact .inl rfl | exact .inr rfl)) (pgs_cons (pg_name (i := 5) sc_greatest_value.nd rfl (by first | exact .inl rfl | exact .inr rfl)) pgs_nil))))
        (pss_cons (ps_if (PW.pt (pw_or (pt_cmpR op_isN (pv 3) pe_non (nomark _)) (pw_or (pt_cmpR op_le (pv 4) (pv 3) (nomark _)) (pw_or1 (PW.pt (pw_and (pt_cmpR op_notN (pv 5) pe_non (nomark _)) (pw_and1 (pt_cmpR op_le (pv 5) (pv 4) (nomark _))))))))) (pss_one ps_never) pss_nil)
      (pss_cons (ps_set (i := 2) sc_greatest_value.nd rfl (by first | exact .inl rfl | exact .inr rfl) (pe_ifExp (pt_cmpR op_isN (pv 5) pe_non (nomark _)) pe_non (pe_op op_sub (pe_op op_add (pv 2) (pv 5)) (pv 4))))
      (pss_one (ps_set (i := 3) sc_greatest_value.nd rfl (by first | exact .inl rfl | exact .inr rfl) (pv 5))))))
      (pss_one (ps_ret (pv 2)))))), ?_⟩
    cases st with
    | none =>
      have hg : rs = [] := hg
      subst hg
      walk_at "go"
      refine ⟨r, _, rfl, hR.1.or, ?_⟩
      walk_at "go"
      have e0 : ps = [] := List.length_eq_zero_iff.mp hR.2.1
      subst e0
      walk_at "go"
      refine ite2 (fun e => ?_) (fun e => ?_)
      · cases e
      walk_at "go"
      exact q
    | some s =>
      have hg : Good (-1) rs := hg
      walk_at "go"
      refine for_pairs (j := 1) hR (Same.refl H) (by rfl) (fun i σ H1 => H1 = H ∧ ∃ (t e : Option Int) (v4 v5 : Option V), σ = [some (.int s), some (.ref r), some (oV t), some (oV e), v4, v5] ∧ match t, e with
        | some t, some e => Good e (rs.drop i) ∧ top t (rs.drop i) = top s rs
        | t, none => rs.drop i = [] ∧ t = none ∧ top s rs = none
        | none, some e => False) ⟨rfl, some s, some (-1), none, none, rfl, hg, rfl⟩ ?_ ?_ ?_
      · rintro i σ H1 ⟨rfl, _⟩
        exact Same.refl _
      · rintro i l h σ H1 hi ⟨rfl, t, e, v4, v5, rfl, z⟩
        have hd : rs.drop i = (l, h) :: rs.drop (i + 1) := by
          rw [List.drop_eq_getElem?_toList_append, hi]
          rfl
        rw [hd] at z
        cases e with
        | none => cases t <;> cases z.1
        | some e =>
          cases t with
          | none => cases z
          | some t =>
            obtain ⟨z1, z2⟩ := z
            have z0 : e < l := by cases h <;> exact z1.1
            walk_at "go"
            refine ite2 (fun e => ?_) (fun e => ?_)
            · have := of_decide_eq_true e
              omega
            · cases h with
              | none =>
                walk_at "go"
                exact ⟨none, none, _, _, rfl, z1.2, rfl, z2.symm⟩
              | some y =>
                walk_at "go"
                refine ite2 (fun e => ?_) (fun e => ?_)
                · have := of_decide_eq_true e
                  have := z1.2.1
                  omega
                · walk_at "go"
                  exact ⟨some (t + y - l), some y, _, _, rfl, z1.2.2, z2⟩
      · rintro σ H1 ⟨rfl, t, e, v4, v5, rfl, z⟩
        rw [List.drop_length] at z
        walk_at "go"
        have et : t = top s rs := by
          cases e with
          | none => cases t <;> rw [z.2.2] <;> first | rfl | exact z.2.1
          | some e =>
            cases t with
            | none => cases z
            | some t => exact z.2
        rw [et]
        exact q
/-! ### flat_point -/
theorem fp_cons (l : Int) (h : Option Int) (r : Rs) (t e : Int) : fp ((l, h) :: r) t e = if t ≤ l - e then some (e + t) else match h with
    | none => none
    | some x => fp r (t - (l - e)) x := rfl
def spFlat (K : PySem.W.Frag) : Sp := fun vs H Q _ => ∃ (b c : Bool) (m : Int) (r : Addr) (ps : List Addr) (rs : Rs), vs = [.ref r, .int m] ∧ Ris b c K H r ps rs ∧ Q (oV (fp rs m 0)) H
theorem ok_flat_point (F : FnP K "flat_point" s_flat_point f fd) : FnOk P w K mg base CX0 1 f fd P_flat_point (spFlat K) := by
  refine F.ok sc_flat_point (fun vs H Q E h => ?_) (fun cdv A outer s H vs Q E hr h => ?_)
  · obtain ⟨b, c, m, r, ps, rs, rfl, _⟩ := h
    rfl
  · obtain ⟨b, c, m, r, ps, rs, rfl, hR, q⟩ := h
    refine ⟨_, PSs.nox (pss_cons (ps_par (i := 2) (j := 3) (by rfl) sc_flat_point.nd rfl rfl (by decide) rfl rfl (pa_cons (pv 1) (pa_cons pe_int pa_nil)) (by rfl))
      (pss_cons (ps_for PassesOwn.never rfl (pi_seq (pv 0)) (pg_or (pg_unl rfl (pgs_cons (pg_name (i := 4) sc_flat_point.nd rfl (by first | exact .inl rfl | exact .inr rfl)) (pgs_cons (pg_name (i := 5) sc_flat_point.nd rfl (by first | exact .inl rfl | exact .inr rfl)) pgs_nil))) (pg_tup rfl (pgs_cons (pg_name (i := 4) sc_flat_point.nd rfl (by first | exact .inl rfl | exact .inr rfl)) (pgs_cons (pg_name (i := 5) sc_flat_point.nd rfl (by first | exact .inl rfl | exact .inr rfl)) pgs_nil))))
        (pss_cons (ps_if (pt_cmpR op_ge (pe_op op_sub (pv 4) (pv 3)) (pv 2) (nomark _)) (pss_one (ps_ret (pe_op op_add (pv 3) (pv 2)))) pss_nil)
      (pss_cons (ps_if (pt_cmpR op_isN (pv 5) pe_non (nomark _)) (pss_one (ps_ret pe_non)) pss_nil)
      (pss_cons (ps_set (i := 2) sc_flat_point.nd rfl (by first | exact .inl rfl | exact .inr rfl) (pe_op op_sub (pv 2) (pe_op op_sub (pv 4) (pv 3))))
      (pss_one (ps_set (i := 3) sc_flat_point.nd rfl (by first | exact .inl rfl | exact .inr rfl) (pv 5)))))))
      (pss_one (ps_ret (pe_op op_add (pv 3) (pv 2)))))), ?_⟩
    walk_at "go"
    refine for_pairs (j := 0) hR (Same.refl H) (by rfl) (fun i σ H1 => H1 = H ∧ ∃ (t e : Int) (v4 v5 : Option V), σ = [some (.ref r), some (.int m), some (.int t), some (.int e), v4, v5] ∧ fp (rs.drop i) t e = fp rs m 0) ⟨rfl, _, _, none, none, rfl, rfl⟩ ?_ ?_ ?_
    · rintro i σ H1 ⟨rfl, _⟩
      exact Same.refl _
    · rintro i l h σ H1 hi ⟨rfl, t, e, v4, v5, rfl, z⟩
      have hd : rs.drop i = (l, h) :: rs.drop (i + 1) := by
        rw [List.drop_eq_getElem?_toList_append, hi]
        rfl
      rw [hd] at z
      rw [fp_cons] at z
      walk_at "go"
      refine ite2 (fun e1 => ?_) (fun e1 => ?_)
      · have := of_decide_eq_true e1
        rw [if_pos this] at z
        walk_at "go"
        rw [← z] at q
        exact q
      · have : ¬ t ≤ l - e := fun z => e1 (decide_eq_true z)
        rw [if_neg this] at z
        cases h with
        | none =>
          walk_at "go"
          refine ite2 (fun e2 => ?_) (fun e2 => absurd rfl e2)
          walk_at "go"
          rw [← z] at q
          exact q
        | some y =>
          walk_at "go"
          exact ⟨_, _, _, _, rfl, z⟩
    · rintro σ H1 ⟨rfl, t, e, v4, v5, rfl, z⟩
      rw [List.drop_length] at z
      walk_at "go"
      rw [← z] at q
      exact q
end
end Zn
set_option pp.maxSteps 700
set_option Elab.async false
set_option linter.all false
set_option maxRecDepth 100000
set_option maxHeartbeats 4000000
namespace Zn
open Z
open Nd
open PySem PySem.Spec PyProof.Rows L2
open C8 (pss_cut tCut)
local macro_rules | `(tactic| walk_at "num") => `(tactic| first | rfl | omega | decide | exact Nat.le_of_lt (small1000 (by simp)) | exact ⟨by omega, by omega⟩ | exact ⟨by omega, by omega, by omega⟩ | exact ⟨by decide, by decide, by decide⟩ | exact Or.inl ⟨by omega, by omega⟩ | exact Or.inr ⟨by omega, by omega⟩)
local macro_rules | `(tactic| walk_at "go") => `(tactic| repeat (first | refine ⟨_, rfl, ?_⟩ | refine ⟨_, _, rfl, rfl, ?_⟩ | refine ⟨_, _, rfl, ?_⟩ | (refine ⟨_, _, rfl, rfl, ?_, ?_⟩; focus walk_at "num") | refine Or.inl ⟨_, rfl, ?_⟩ | refine ⟨_, _, _, _, rfl, rfl, (by assumption), (by rfl), ?_⟩ | refine ⟨_, _, _, _, _, rfl, (by assumption), (by assumption), (by assumption), (by rfl), ?_⟩ | refine ⟨rfl, ?_⟩ | (refine And.intro ?_ ?_; focus walk_at "num")))
/-- the comprehension that copies the pairs -/
theorem lc_copy {b c : Bool} {K : PySem.W.Frag} {a D : Addr} {ps : List Addr} {rs : Rs} {H0 : Hp} {i j : Nat} {te : TE} {vs : List Nat} {σ : L2.St} {Qd : Hp → Prop} (hR : Ris b c K H0 a ps rs) (hb : rs.length ≤ 100000) (nD : H0 D = none)
    (hw : ∀ x y : V, wipe (((wipe σ vs).set i (some x)).set j (some y)) vs = wipe σ vs)
    (ht : ∀ x y H1 (Q : VK), Same H0 H1 → (∀ T, H1 T = none → Q (.ref T) (upd H1 T (.tup [.int x, oV y]))) → te (((wipe σ vs).set i (some (.int x))).set j (some (oV y))) H1 Q)
    (hd : ∀ H1 (qs : List Addr), Same H0 H1 → H1 D = some (.lst (qs.map V.ref)) → qs.length = rs.length → (∀ (k : Nat) (p : Addr) (q : Int × Option Int), qs[k]? = some p → rs[k]? = some q → H1 p = some (.tup [.int q.1, oV q.2])) → Qd H1) : lcW (ItS b K a) (gPair K i j) tYes te vs σ D Qd H0 := by
  refine lc_gen (n := rs.length) (fun k H1 => Same H0 H1 ∧ ∃ qs : List Addr, H1 D = some (.lst (qs.map V.ref)) ∧ qs.length = k ∧ ∀ (k : Nat) (p : Addr) (q : Int × Option Int), qs[k]? = some p → rs[k]? = some q → H1 p = some (.tup [.int q.1, oV q.2])) ⟨same_new nD, [], upd_same, rfl, fun k p q h => nomatch h⟩ ?_ ?_ ?_ ?_
  · rintro k H1 hk ⟨s, _⟩
    have hi2 : k < ps.length := by rw [hR.2.1]; exact hk
    exact its_go (x := .ref ps[k]) (Z.Same.sqK s hR.1) (by rw [List.getElem?_map, List.getElem?_eq_getElem hi2]; rfl)
  · rintro H1 ⟨s, _⟩
    exact its_stop (Z.Same.sqK s hR.1) (by rw [List.length_map, hR.2.1]; exact Nat.le_refl _)
  · rintro k H1 v H' hk ⟨s, qs, eD, el, eq⟩ y
    obtain ⟨rfl, ex⟩ := its_yld (Z.Same.sqK s hR.1) y
    obtain ⟨p, ep, rfl⟩ := of_map ex
    have er : rs[k]? = some (rs[k].1, rs[k].2) := List.getElem?_eq_getElem hk
    refine gpair_of (Z.Same.sqK s (hR.2.2 k p _ ep er)) ⟨hw _ _, ?_⟩
    refine ht _ _ _ _ s (fun T nT => ?_)
    have sT : Same H' (upd H' T (.tup [.int rs[k].1, oV rs[k].2])) := same_new nT
    refine ⟨_, sT _ _ eD, ?_, ?_, qs ++ [T], ?_, ?_, ?_⟩
    · rw [List.length_map, el]
      exact Nat.lt_of_lt_of_le hk (Nat.le_trans hb (by decide))
    · exact Z.Same.mut (s.trans sT) nD
    · rw [upd_same, List.map_append]
      rfl
    · rw [List.length_append, el]
      rfl
    · intro k2 p2 q2 h1 h2
      have tD : T ≠ D := (ne_of_none eD nT).symm
      by_cases hlt : k2 < qs.length
      · rw [List.getElem?_append_left hlt] at h1
        have z := eq k2 p2 q2 h1 h2
        have pD : p2 ≠ D := fun e => by
          rw [e, eD] at z
          cases z
        rw [upd_ne pD]
        exact sT _ _ z
      · rw [List.getElem?_append_right (by omega)] at h1
        have h3 : k2 - qs.length = 0 := by
          have := (List.getElem?_eq_some_iff.mp h1).1
          simp at this
          omega
        rw [h3] at h1
        obtain rfl : T = p2 := Option.some.inj h1
        have h4 : k2 = k := by omega
        subst h4
        rw [er] at h2
        obtain rfl := Option.some.inj h2
        rw [upd_ne tD, upd_same]
  · rintro H1 ⟨s, qs, eD, el, eq⟩
    exact hd H1 qs s eD el eq
theorem sq_ins {b : Bool} {K : PySem.W.Frag} {H H' : Hp} {n C dx a : Addr} {fs : List (Str × V)} {xs : List V} (s : SB n H H') (hn : H n = some (.ins C dx fs)) (h : SqK b K H a xs) : SqK b K H' a xs := by
  have ne : ∀ {o : HO}, H a = some o → (∀ C dx fs, o ≠ .ins C dx fs) → a ≠ n := fun e z w => by
    rw [w, hn] at e
    exact z _ _ _ (Option.some.inj e).symm
  cases b
  · rcases h with (h | ⟨o, h⟩) | h
    · exact .inl (.inl (s _ _ (ne h fun _ _ _ => nofun) h))
    · exact .inl (.inr ⟨o, s _ _ (ne h fun _ _ _ => nofun) h⟩)
    · exact .inr h
  · rcases h with (h | ⟨o, h⟩) | h
    · exact .inl (.inl (s _ _ (ne h fun _ _ _ => nofun) h))
    · exact .inl (.inr ⟨o, s _ _ (ne h fun _ _ _ => nofun) h⟩)
    · exact .inr h
theorem Ris.ins {b c : Bool} {K : PySem.W.Frag} {H H' : Hp} {n C dx a : Addr} {fs : List (Str × V)} {ps : List Addr} {rs : Rs} (s : SB n H H') (hn : H n = some (.ins C dx fs)) (r : Ris b c K H a ps rs) : Ris b c K H' a ps rs := ⟨sq_ins s hn r.1, r.2.1, fun i p q h1 h2 => sq_ins s hn (r.2.2 i p q h1 h2)⟩
section
variable {P : Program} {w : World} {K : PySem.W.Frag} {mg : Str → Option Value} {base : Heap} {f C : Addr} {fd : FuncData}
def Ok (st : Option Int) (rs : Rs) (nv : Option Int) : Prop := Fit st rs ∧ (∀ s, st = some s → 0 ≤ s) ∧ ∀ v, nv = some v → ∃ t, tops st rs = some t ∧ t ≤ v
/-! ### Need.__init__ -/
def spInit (C : Addr) (K : PySem.W.Frag) : Sp := fun vs H Q _ => ∃ (b c : Bool) (st nv : Option Int) (n dx r : Addr) (ps : List Addr) (rs : Rs), vs = [.ref n, oV st, .ref r, oV nv] ∧ H n = some (.ins C dx []) ∧ Ris b c K H r ps rs ∧ rs.length ≤ 100000 ∧ Ok st rs nv ∧
  ∀ H', SB n H H' → NeedAt C K H' n st rs nv → Q .non H'
theorem ok_init (F : FnM K "__init__" "Need.__init__" s_Need___init__ f fd) (cls : Cls K C) (n_start : NoAttr K C "start") (n_rises : NoAttr K C "rises") (n_never : NoAttr K C "never") (m_tuple : mg "tuple" = none) (c_greatest_value : Cal P w K mg base 1 "greatest_value" (spGreatest K)) : FnOk P w K mg base CX0 2 f fd P_Need___init__ (spInit C K) := by
  refine F.ok sc_Need___init__ (fun vs H Q E h => ?_) (fun cdv A outer s H vs Q E hr h => ?_)
  · obtain ⟨b, c, st, nv, n, dx, r, ps, rs, rfl, _⟩ := h
    rfl
  · obtain ⟨b, c, st, nv, n, dx, r, ps, rs, rfl, hn, hR, hb, ok, q⟩ := h
    refine ⟨_, PSs.nox (pss_cut (ps_if (PW.pt (pw_and (pt_cmpR op_notN (pv 1) pe_non (nomark _)) (pw_and1 (pt_cmpR op_lt (pv 1) pe_int (nomark _))))) (pss_one ps_never) pss_nil)
      (pss_cons (ps_set (i := 4) sc_Need___init__.nd rfl (by first | exact .inl rfl | exact .inr rfl) (pe_cl c_greatest_value hr (by decide) (by rfl) (pa_cons (pv 1) (pa_cons (pv 2) pa_nil))))
      (pss_cut (ps_if (PW.pt (pw_and (pt_cmpR op_notN (pv 3) pe_non (nomark _)) (pw_and1 (PW.pt (pw_or (pt_cmpR op_isN (pv 4) pe_non (nomark _)) (pw_or1 (pt_cmpR op_lt (pv 3) (pv 4) (nomark _)))))))) (pss_one ps_never) pss_nil)
      (pss_cons (ps_fld (pv 0) (pv 1) rfl)
      (pss_cons (ps_fld (pv 0) (pe_callTy call_tuple_of (by rfl) m_tuple (by decide +kernel) (pa_cons (pe_lc (own := [("low", 5), ("high", 6)]) (g := (gOr (gUnl K 2 (gCons (gName 5) (gCons (gName 6) gNil))) (gTup K 2 (gCons (gName 5) (gCons (gName 6) gNil))))) (tt := tYes) (by rfl) sc_Need___init__.nd (pi_seq (pv 2)) (blkOk_by (own := [("low", 5), ("high", 6)]) (N := N_Need___init__) (sc := defScope s_Need___init__) (by decide +kernel)) (fun _ _ _ _ _ => (pg_or (pg_unl rfl (pgs_cons (pg_name (i := 5) sc_Need___init__.nd rfl (by first | exact .inl rfl | exact .inr rfl)) (pgs_cons (pg_name (i := 6) sc_Need___init__.nd rfl (by first | exact .inl rfl | exact .inr rfl)) pgs_nil))) (pg_tup rfl (pgs_cons (pg_name (i := 5) sc_Need___init__.nd rfl (by first | exact .inl rfl | exact .inr rfl)) (pgs_cons (pg_name (i := 6) sc_Need___init__.nd rfl (by first | exact .inl rfl | exact .inr rfl)) pgs_nil))))) (fun _ _ _ _ _ => pts_nil) (fun _ _ _ _ _ => (pe_tup (pa_cons (pv 5) (pa_cons (pv 6) pa_nil))))) pa_nil)) rfl)
      (pss_one (ps_fld (pv 0) (pv 3) rfl))))))), ?_⟩
    refine cut_stay ?_ ?_
    · cases st with
      | none =>
        walk_at "go"
        rfl
      | some s =>
        walk_at "go"
        refine ite2 (fun e => ?_) (fun e => ?_)
        · have := of_decide_eq_true e
          have := ok.2.1 s rfl
          omega
        · exact ⟨rfl, rfl⟩
    walk_at "go"
    refine ⟨b, c, st, r, ps, rs, rfl, hR, ok.1, ?_⟩
    walk_at "go"
    refine cut_stay ?_ ?_
    · cases nv with
      | none =>
        walk_at "go"
        rfl
      | some v =>
        obtain ⟨t, e1, e2⟩ := ok.2.2 v rfl
        rw [e1]
        walk_at "go"
        refine ite2 (fun e => ?_) (fun e => ?_)
        · have := of_decide_eq_true e
          omega
        · walk_at "go"
          rfl
    walk_at "go"
    refine ⟨n, C, dx, _, rfl, hn, cls, n_start, by decide, ?_⟩
    walk_at "go"
    have s1 : SB n H (upd H n (.ins C dx [("start", oV st)])) := SB.upd (fun _ _ _ h => h)
    refine iSeq_of (b := b) (fun Q q => ⟨_, rfl, q⟩) (hR.ins s1 hn).1 ?_
    intro D nD
    refine lc_copy (hR.ins s1 hn) hb nD (fun _ _ => rfl) ?_ ?_
    · intro x y H1 Q1 s2 q1
      walk_at "go"
      exact q1
    · intro H1 qs s2 eD el eq
      walk_at "go"
      refine ⟨D, _, rfl, .inl ⟨.inl (.inl eD), fun t nt => ?_⟩⟩
      walk_at "go"
      have s3 : Same H1 (upd H1 t (.tup (qs.map V.ref))) := same_new nt
      have hn3 := s3 _ _ (s2 _ _ upd_same)
      have nt' : t ≠ n := (ne_of_none (s2 _ _ upd_same) nt).symm
      refine ⟨n, C, dx, _, rfl, hn3, cls, n_rises, (by show (1 : Nat) < 1000; decide), ?_⟩
      walk_at "go"
      refine ⟨n, C, dx, _, rfl, upd_same, cls, n_never, (by show (2 : Nat) < 1000; decide), ?_⟩
      walk_at "go"
      refine q _ ?_ ?_
      · exact SB.upd (SB.upd ((s1.trans (Z.Same.sb s2)).trans (Z.Same.sb s3)))
      · refine ⟨dx, t, qs, upd_same, ⟨?_, el, fun i p q h1 h2 => ?_⟩, ?_⟩
        · exact .inl (.inl (by rw [upd_ne nt', upd_ne nt', upd_same]))
        · have z := eq i p q h1 h2
          have pt : p ≠ t := ne_of_none z nt
          have pn : p ≠ n := fun e => by
            rw [e, s2 _ _ upd_same] at z
            cases z
          exact .inl (.inl (by rw [upd_ne pn, upd_ne pn, upd_ne pt, z]))
        · rw [upd_ne nt', upd_ne nt', upd_same]
/-! ### Need(..) -/
def spNeed (C : Addr) (K : PySem.W.Frag) : Sp := fun vs H Q _ => ∃ (b c : Bool) (st nv : Option Int) (r : Addr) (ps : List Addr) (rs : Rs), vs = [oV st, .ref r, oV nv] ∧ Ris b c K H r ps rs ∧ rs.length ≤ 100000 ∧ Ok st rs nv ∧
  ∀ n H', Same H H' → H n = none → NeedAt C K H' n st rs nv → Q (.ref n) H'
theorem mak_need {si : FnOk P w K mg base CX0 2 f fd P_Need___init__ (spInit C K)} (M : Mk K C f) (hm : mg "Need" = some (.ref C)) (hb : Binds K fd P_Need___init__ []) : Mak P w K mg base 2 "Need" (spNeed C K) := by
  refine ⟨C, f, fd, _, _, M, si, hm, hb, ?_⟩
  rintro vs H Q E ⟨b, c, st, nv, r, ps, rs, rfl, hR, hl, ok, q⟩ n dx n1 n2 n3
  have s1 : Same H (upd (upd H dx (.own n)) n (.ins C dx [])) := Z.Same.mut (same_new n2) n1
  exact ⟨b, c, st, nv, n, dx, r, ps, rs, rfl, upd_same, hR.mono s1, hl, ok, fun H' z1 z2 => ⟨rfl, q n H' (fun a o h => z1 a o (ne_of_none h n1) (s1 a o h)) n1 z2⟩⟩
/-! ### value_for, a call -/
def spCallN (C : Addr) (K : PySem.W.Frag) : Sp := fun vs H Q _ => ∃ (st nv k : Option Int) (n : Addr) (rs : Rs), vs = [.ref n, oV k] ∧ NeedAt C K H n st rs nv ∧ Ok st rs nv ∧ (∀ i, k = some i → 0 ≤ i) ∧ Q (oV (val st rs nv k)) H
theorem ok_value_for (F : FnM K "value_for" "Need.value_for" s_Need_value_for f fd) (cls : Cls K C) (n_start : NoAttr K C "start") (n_rises : NoAttr K C "rises") (n_never : NoAttr K C "never") (c_value_at : Cal P w K mg base 1 "value_at" (spValueAt K)) : FnOk P w K mg base CX0 2 f fd P_Need_value_for (spCallN C K) := by
  refine F.ok sc_Need_value_for (fun vs H Q E h => ?_) (fun cdv A outer s H vs Q E hr h => ?_)
  · obtain ⟨st, nv, k, n, rs, rfl, _⟩ := h
    rfl
  · obtain ⟨st, nv, k, n, rs, rfl, ⟨dx, r, ps, hn, hR, _⟩, ok, hk, q⟩ := h
    refine ⟨_, PSs.nox (pss_cons (ps_if (PW.pt (pw_or (pt_cmpR op_isN (pv 1) pe_non (nomark _)) (pw_or1 (pt_cmpR op_isN (pe_fld (pv 0) rfl) pe_non (nomark _))))) (pss_one (ps_ret (pe_fld (pv 0) rfl))) pss_nil)
      (pss_one (ps_ret (pe_cl c_value_at hr (by decide) (by rfl) (pa_cons (pe_fld (pv 0) rfl) (pa_cons (pe_fld (pv 0) rfl) (pa_cons (pv 1) pa_nil))))))), ?_⟩
    cases st with
    | none =>
      cases k with
      | none =>
        walk_at "go"
        exact q
      | some i =>
        walk_at "go"
        exact q
    | some s =>
      cases k with
      | none =>
        walk_at "go"
        exact q
      | some i =>
        walk_at "go"
        refine ⟨_, _, s, i, r, ps, rs, rfl, hR, ok.1, ?_⟩
        exact q
theorem ok_call (F : FnM K "__call__" "Need.__call__" s_Need___call__ f fd) (me_value_for : Met P w K mg base 2 C "value_for" (spCallN C K)) : FnOk P w K mg base CX0 3 f fd P_Need___call__ (spCallN C K) := by
  refine F.ok sc_Need___call__ (fun vs H Q E h => ?_) (fun cdv A outer s H vs Q E hr h => ?_)
  · obtain ⟨st, nv, k, n, rs, rfl, _⟩ := h
    rfl
  · obtain ⟨st, nv, k, n, rs, rfl, hN, ok, hk, q⟩ := h
    have hN2 := hN
    obtain ⟨dx, r, ps, hn, hR, _⟩ := hN2
    refine ⟨_, PSs.nox (pss_cut (ps_if (PW.pt (pw_and (pt_cmpR op_notN (pv 1) pe_non (nomark _)) (pw_and1 (pt_cmpR op_lt (pv 1) pe_int (nomark _))))) (pss_one ps_never) pss_nil)
      (pss_one (ps_ret (pe_me me_value_for (pv 0) hr (by decide) (pa_cons (pv 1) pa_nil))))), ?_⟩
    refine cut_stay ?_ ?_
    · cases k with
      | none =>
        walk_at "go"
        rfl
      | some i =>
        walk_at "go"
        refine ite2 (fun e => ?_) (fun e => ?_)
        · have := of_decide_eq_true e
          have := hk i rfl
          omega
        · exact ⟨rfl, rfl⟩
    walk_at "go"
    refine ⟨n, dx, _, rfl, hn, rfl, ?_⟩
    walk_at "go"
    exact ⟨st, nv, k, n, rs, rfl, hN, ok, hk, q⟩
end
end Zn
set_option pp.maxSteps 700
set_option Elab.async false
set_option linter.all false
set_option maxRecDepth 100000
set_option maxHeartbeats 4000000
namespace Zn
open Z
open Nd
open PySem PySem.Spec PyProof.Rows L2
open C8 (pss_cut tCut)
local macro_rules | `(tactic| walk_at "num") => `(tactic| first | rfl | omega | decide | exact Nat.le_of_lt (small1000 (by simp)) | exact ⟨by omega, by omega⟩ | exact ⟨by omega, by omega, by omega⟩ | exact ⟨by decide, by decide, by decide⟩ | exact Or.inl ⟨by omega, by omega⟩ | exact Or.inr ⟨by omega, by omega⟩)
local macro_rules | `(tactic| walk_at "go") => `(tactic| repeat (first | refine ⟨_, rfl, ?_⟩ | refine ⟨_, _, rfl, rfl, ?_⟩ | refine ⟨_, _, rfl, ?_⟩ | (refine ⟨_, _, rfl, rfl, ?_, ?_⟩; focus walk_at "num") | refine Or.inl ⟨_, rfl, ?_⟩ | refine ⟨_, _, _, _, rfl, rfl, (by assumption), (by rfl), ?_⟩ | refine ⟨_, _, _, _, _, rfl, (by assumption), (by assumption), (by assumption), (by rfl), ?_⟩ | refine ⟨rfl, ?_⟩ | (refine And.intro ?_ ?_; focus walk_at "num")))
theorem ris_nil {c : Bool} {K : PySem.W.Frag} {H : Hp} {a : Addr} (h : SqT K H a []) : Ris false c K H a [] [] := ⟨h, rfl, fun i p q h => nomatch h⟩
theorem ris_one {c : Bool} {K : PySem.W.Frag} {H : Hp} {a p : Addr} {x : Int} {y : Option Int} (h : SqT K H a [.ref p]) (h2 : SqK c K H p [.int x, oV y]) : Ris false c K H a [p] [(x, y)] := by
  refine ⟨h, rfl, fun i p2 q h3 h4 => ?_⟩
  cases i with
  | zero =>
    obtain rfl := Option.some.inj h3
    obtain rfl := Option.some.inj h4
    exact h2
  | succ i => cases h3
/-! ### mine, theirs, endless -/
abbrev Nn := Option Int × Rs × Option Int
def mineP (nv : Option Int) : Option Int → Nn
  | none => (some 0, [(0, none)], none)
  | some p => (some 0, if p > 1 then [(0, some (p - 1))] else [], nv.map fun _ => p - 1)
def theirsP : Option Int → Nn
  | none => (none, [], none)
  | some p => (some p, [(p, none)], none)
def endlessP (p : Option Int) : Nn := (p, [], p)
def pt (d : Int) (st : Option Int) (rs : Rs) : Option Int := match st with
  | none => none
  | some s => fp rs (s + d) 0
theorem fp_pos {rs : Rs} {A p : Int} (g : Good (-1) rs) (hA : 0 ≤ A) (h : fp rs A 0 = some p) : 0 ≤ p := by
  have z := fp_spec (rs := rs) (A := A) (E := 0) g hA
  rw [h] at z
  exact z.1
theorem pt_pos {d : Int} {st nv : Option Int} {rs : Rs} {p : Int} (ok : Ok st rs nv) (hd : 0 ≤ d) (h : pt d st rs = some p) : 0 ≤ p := by
  cases st with
  | none => cases h
  | some s =>
    have := ok.2.1 s rfl
    exact fp_pos ok.1 (by omega) h
theorem pt_pos1 {st nv : Option Int} {rs : Rs} {p : Int} (ok : Ok st rs nv) (h : pt 1 st rs = some p) : 1 ≤ p := by
  cases st with
  | none => cases h
  | some s =>
    have hs := ok.2.1 s rfl
    have z := grt_spec (s := s) (rs := rs) ok.1 hs
    have h : fp rs (s + 1) 0 = some p := h
    unfold grt at z
    rw [h] at z
    have z1 : 0 ≤ p - 1 := z.1
    omega
theorem pt0 (s : Int) (rs : Rs) : pt 0 (some s) rs = fp rs s 0 := congrArg (fun x => fp rs x 0) (Int.add_zero s)
theorem mine_ok {st nv : Option Int} {rs : Rs} (ok : Ok st rs nv) : Ok (mineP nv (pt 1 st rs)).1 (mineP nv (pt 1 st rs)).2.1 (mineP nv (pt 1 st rs)).2.2 := by
  cases e : pt 1 st rs with
  | none => exact ⟨⟨by omega, rfl⟩, fun s h => by cases h; omega, nofun⟩
  | some p =>
    have hp := pt_pos1 ok e
    show Ok (some 0) (if p > 1 then [(0, some (p - 1))] else []) (nv.map fun _ => p - 1)
    by_cases c : p > 1
    · rw [if_pos c]
      refine ⟨⟨by omega, by omega, trivial⟩, fun s h => by cases h; omega, fun v h => ?_⟩
      cases nv with
      | none => cases h
      | some w => cases h; exact ⟨0 + (p - 1) - 0, rfl, by show 0 + (p - 1) - 0 ≤ p - 1; omega⟩
    · rw [if_neg c]
      refine ⟨trivial, fun s h => by cases h; omega, fun v h => ?_⟩
      cases nv with
      | none => cases h
      | some w => cases h; exact ⟨0, rfl, by show 0 ≤ p - 1; omega⟩
theorem theirs_ok {st nv : Option Int} {rs : Rs} (ok : Ok st rs nv) : Ok (theirsP (pt 0 st rs)).1 (theirsP (pt 0 st rs)).2.1 (theirsP (pt 0 st rs)).2.2 := by
  cases e : pt 0 st rs with
  | none => exact ⟨rfl, nofun, nofun⟩
  | some p =>
    have hp := pt_pos ok (by omega) e
    exact ⟨⟨by omega, rfl⟩, fun s h => by cases h; omega, nofun⟩
theorem endless_ok {st nv : Option Int} {rs : Rs} (ok : Ok st rs nv) : Ok (endlessP (pt 0 st rs)).1 (endlessP (pt 0 st rs)).2.1 (endlessP (pt 0 st rs)).2.2 := by
  cases e : pt 0 st rs with
  | none => exact ⟨rfl, nofun, nofun⟩
  | some p =>
    have hp := pt_pos ok (by omega) e
    exact ⟨trivial, fun s h => by cases h; omega, fun v h => by cases h; exact ⟨p, rfl, by omega⟩⟩
section
variable {P : Program} {w : World} {K : PySem.W.Frag} {mg : Str → Option Value} {base : Heap} {f C : Addr} {fd : FuncData}
def spUn (R : Option Int → Rs → Option Int → Nn) (C : Addr) (K : PySem.W.Frag) : Sp := fun vs H Q _ => ∃ (st nv : Option Int) (n : Addr) (rs : Rs), vs = [.ref n] ∧ NeedAt C K H n st rs nv ∧ Ok st rs nv ∧
  ∀ n' H', Same H H' → NeedAt C K H' n' (R st rs nv).1 (R st rs nv).2.1 (R st rs nv).2.2 → Q (.ref n') H'
abbrev spMine := spUn fun st rs nv => mineP nv (pt 1 st rs)
abbrev spTheirs := spUn fun st rs _ => theirsP (pt 0 st rs)
abbrev spEndless := spUn fun st rs _ => endlessP (pt 0 st rs)
theorem ok_endless (F : FnM K "endless" "Need.endless" s_Need_endless f fd) (cls : Cls K C) (n_start : NoAttr K C "start") (n_rises : NoAttr K C "rises") (n_never : NoAttr K C "never") (c_flat_point : Cal P w K mg base 1 "flat_point" (spFlat K)) (k_Need : Mak P w K mg base 2 "Need" (spNeed C K)) : FnOk P w K mg base CX0 4 f fd P_Need_endless (spEndless C K) := by
  refine F.ok sc_Need_endless (fun vs H Q E h => ?_) (fun cdv A outer s H vs Q E hr h => ?_)
  · obtain ⟨st, nv, n, rs, rfl, _⟩ := h
    rfl
  · obtain ⟨st, nv, n, rs, rfl, ⟨dx, r, ps, hn, hR, _⟩, ok, q⟩ := h
    refine ⟨_, PSs.nox (pss_cut (ps_set (i := 1) sc_Need_endless.nd rfl (by first | exact .inl rfl | exact .inr rfl) (pe_ifExp (pt_cmpR op_isN (pe_fld (pv 0) rfl) pe_non (nomark _)) pe_non (pe_cl c_flat_point hr (by decide) (by rfl) (pa_cons (pe_fld (pv 0) rfl) (pa_cons (pe_fld (pv 0) rfl) pa_nil)))))
      (pss_one (ps_ret (pe_mk k_Need hr (by decide) (by rfl) (pa_cons (pv 1) (pa_cons (pe_tup pa_nil) (pa_cons (pv 1) pa_nil))))))), ?_⟩
    refine ⟨fun σ' H' => σ' = [some (.ref n), some (oV (pt 0 st rs))] ∧ H' = H, ?_, ?_⟩
    · cases st with
      | none =>
        walk_at "go"
        rfl
      | some s =>
        rw [pt0]
        walk_at "go"
        exact ⟨false, false, _, r, ps, rs, rfl, hR, rfl, rfl⟩
    · rintro σ' H' ⟨rfl, rfl⟩
      walk_at "go"
      intro p np
      walk_at "go"
      have s1 : Same H' (upd H' p (.tup [])) := same_new np
      refine ⟨false, false, pt 0 st rs, pt 0 st rs, p, [], [], rfl, ris_nil (.inl (.inl upd_same)), by decide, endless_ok ok, fun n' H2 s2 _ h2 => ?_⟩
      exact q n' H2 (s1.trans s2) h2
theorem ok_theirs (F : FnM K "theirs" "Need.theirs" s_Need_theirs f fd) (cls : Cls K C) (n_start : NoAttr K C "start") (n_rises : NoAttr K C "rises") (n_never : NoAttr K C "never") (c_flat_point : Cal P w K mg base 1 "flat_point" (spFlat K)) (k_Need : Mak P w K mg base 2 "Need" (spNeed C K)) : FnOk P w K mg base CX0 4 f fd P_Need_theirs (spTheirs C K) := by
  refine F.ok sc_Need_theirs (fun vs H Q E h => ?_) (fun cdv A outer s H vs Q E hr h => ?_)
  · obtain ⟨st, nv, n, rs, rfl, _⟩ := h
    rfl
  · obtain ⟨st, nv, n, rs, rfl, ⟨dx, r, ps, hn, hR, _⟩, ok, q⟩ := h
    refine ⟨_, PSs.nox (pss_cut (ps_set (i := 1) sc_Need_theirs.nd rfl (by first | exact .inl rfl | exact .inr rfl) (pe_ifExp (pt_cmpR op_isN (pe_fld (pv 0) rfl) pe_non (nomark _)) pe_non (pe_cl c_flat_point hr (by decide) (by rfl) (pa_cons (pe_fld (pv 0) rfl) (pa_cons (pe_fld (pv 0) rfl) pa_nil)))))
      (pss_cons (ps_if (pt_cmpR op_isN (pv 1) pe_non (nomark _)) (pss_one (ps_ret (pe_mk k_Need hr (by decide) (by rfl) (pa_cons pe_non (pa_cons (pe_tup pa_nil) (pa_cons pe_non pa_nil)))))) pss_nil)
      (pss_one (ps_ret (pe_mk k_Need hr (by decide) (by rfl) (pa_cons (pv 1) (pa_cons (pe_tup (pa_cons (pe_tup (pa_cons (pv 1) (pa_cons pe_non pa_nil))) pa_nil)) (pa_cons pe_non pa_nil)))))))), ?_⟩
    refine ⟨fun σ' H' => σ' = [some (.ref n), some (oV (pt 0 st rs))] ∧ H' = H, ?_, ?_⟩
    · cases st with
      | none =>
        walk_at "go"
        rfl
      | some s =>
        rw [pt0]
        walk_at "go"
        exact ⟨false, false, _, r, ps, rs, rfl, hR, rfl, rfl⟩
    · rintro σ' H' ⟨rfl, rfl⟩
      have ok2 := theirs_ok ok
      cases e : pt 0 st rs with
      | none =>
        dsimp only at q
        rw [e] at q ok2
        walk_at "go"
        intro p np
        walk_at "go"
        have s1 : Same H' (upd H' p (.tup [])) := same_new np
        refine ⟨false, false, none, none, p, [], [], rfl, ris_nil (.inl (.inl upd_same)), by decide, ok2, fun n' H2 s2 _ h2 => ?_⟩
        exact q n' H2 (s1.trans s2) h2
      | some z =>
        dsimp only at q
        rw [e] at q ok2
        walk_at "go"
        intro p np
        walk_at "go"
        intro p2 np2
        walk_at "go"
        have s1 : Same H' (upd H' p (.tup [.int z, .non])) := same_new np
        have s2 := same_new (o := .tup [.ref p]) np2
        refine ⟨false, false, some z, none, p2, [p], [(z, none)], rfl, ris_one (.inl (.inl upd_same)) (.inl (.inl (s2 _ _ upd_same))), (by show (1 : Nat) ≤ 100000; decide), ok2, fun n' H2 s3 _ h2 => ?_⟩
        exact q n' H2 ((s1.trans s2).trans s3) h2
theorem ok_mine (F : FnM K "mine" "Need.mine" s_Need_mine f fd) (cls : Cls K C) (n_start : NoAttr K C "start") (n_rises : NoAttr K C "rises") (n_never : NoAttr K C "never") (c_flat_point : Cal P w K mg base 1 "flat_point" (spFlat K)) (k_Need : Mak P w K mg base 2 "Need" (spNeed C K)) : FnOk P w K mg base CX0 4 f fd P_Need_mine (spMine C K) := by
  refine F.ok sc_Need_mine (fun vs H Q E h => ?_) (fun cdv A outer s H vs Q E hr h => ?_)
  · obtain ⟨st, nv, n, rs, rfl, _⟩ := h
    rfl
  · obtain ⟨st, nv, n, rs, rfl, ⟨dx, r, ps, hn, hR, _⟩, ok, q⟩ := h
    refine ⟨_, PSs.nox (pss_cut (ps_set (i := 1) sc_Need_mine.nd rfl (by first | exact .inl rfl | exact .inr rfl) (pe_ifExp (pt_cmpR op_isN (pe_fld (pv 0) rfl) pe_non (nomark _)) pe_non (pe_cl c_flat_point hr (by decide) (by rfl) (pa_cons (pe_fld (pv 0) rfl) (pa_cons (pe_op op_add (pe_fld (pv 0) rfl) pe_int) pa_nil)))))
      (pss_cons (ps_if (pt_cmpR op_isN (pv 1) pe_non (nomark _)) (pss_one (ps_ret (pe_mk k_Need hr (by decide) (by rfl) (pa_cons pe_int (pa_cons (pe_tup (pa_cons (pe_tup (pa_cons pe_int (pa_cons pe_non pa_nil))) pa_nil)) (pa_cons pe_non pa_nil)))))) pss_nil)
      (pss_cut (ps_set (i := 2) sc_Need_mine.nd rfl (by first | exact .inl rfl | exact .inr rfl) (pe_ifExp (pt_cmpR op_gt (pv 1) pe_int (nomark _)) (pe_tup (pa_cons (pe_tup (pa_cons pe_int (pa_cons (pe_op op_sub (pv 1) pe_int) pa_nil))) pa_nil)) (pe_tup pa_nil)))
      (pss_one (ps_ret (pe_mk k_Need hr (by decide) (by rfl) (pa_cons pe_int (pa_cons (pv 2) (pa_cons (pe_ifExp (pt_cmpR op_isN (pe_fld (pv 0) rfl) pe_non (nomark _)) pe_non (pe_op op_sub (pv 1) pe_int)) pa_nil))))))))), ?_⟩
    refine ⟨fun σ' H' => σ' = [some (.ref n), some (oV (pt 1 st rs)), none] ∧ H' = H, ?_, ?_⟩
    · cases st with
      | none =>
        walk_at "go"
        rfl
      | some s =>
        walk_at "go"
        exact ⟨false, false, _, r, ps, rs, rfl, hR, rfl, rfl⟩
    · rintro σ' H' ⟨rfl, rfl⟩
      have ok2 := mine_ok ok
      cases e : pt 1 st rs with
      | none =>
        dsimp only at q
        rw [e] at q ok2
        walk_at "go"
        intro p np
        walk_at "go"
        intro p2 np2
        walk_at "go"
        have s1 : Same H' (upd H' p (.tup [.int 0, .non])) := same_new np
        have s2 := same_new (o := .tup [.ref p]) np2
        refine ⟨false, false, some 0, none, p2, [p], [(0, none)], rfl, ris_one (.inl (.inl upd_same)) (.inl (.inl (s2 _ _ upd_same))), (by decide), ok2, fun n' H2 s3 _ h2 => ?_⟩
        exact q n' H2 ((s1.trans s2).trans s3) h2
      | some z =>
        dsimp only at q
        rw [e] at q ok2
        walk_at "go"
        refine ite2 (fun e => nomatch (of_decide_eq_true e)) (fun e => ?_)
        refine ⟨fun σ' H1 => ∃ (r2 : Addr) (ps2 : List Addr), σ' = [some (.ref n), some (.int z), some (.ref r2)] ∧ Same H' H1 ∧ Ris false false K H1 r2 ps2 (if z > 1 then [(0, some (z - 1))] else []), ?_, ?_⟩
        · walk_at "go"
          refine ite2 (fun e => ?_) (fun e => ?_)
          · have hz : z > 1 := of_decide_eq_true e
            rw [if_pos hz]
            walk_at "go"
            intro p np
            walk_at "go"
            intro p2 np2
            walk_at "go"
            have s1 : Same H' (upd H' p (.tup [.int 0, .int (z - 1)])) := same_new np
            have s2 := same_new (o := .tup [.ref p]) np2
            exact ⟨_, _, rfl, s1.trans s2, ris_one (.inl (.inl upd_same)) (.inl (.inl (s2 _ _ upd_same)))⟩
          · have hz : ¬ z > 1 := fun z => e (decide_eq_true z)
            rw [if_neg hz]
            walk_at "go"
            intro p np
            walk_at "go"
            exact ⟨_, _, rfl, same_new np, ris_nil (.inl (.inl upd_same))⟩
        · rintro σ' H1 ⟨r2, ps2, rfl, s1, hR2⟩
          have hn1 := s1 _ _ hn
          have hl : (if z > 1 then [((0 : Int), some (z - 1))] else []).length ≤ 100000 := by split <;> simp
          cases nv with
          | none =>
            walk_at "go"
            refine ⟨false, false, some 0, none, r2, ps2, _, rfl, hR2, hl, ok2, fun n' H2 s3 _ h2 => ?_⟩
            exact q n' H2 (s1.trans s3) h2
          | some v =>
            walk_at "go"
            refine ⟨false, false, some 0, some (z - 1), r2, ps2, _, rfl, hR2, hl, ok2, fun n' H2 s3 _ h2 => ?_⟩
            exact q n' H2 (s1.trans s3) h2
end
end Zn
set_option Elab.async false
set_option linter.all false
set_option maxRecDepth 100000
set_option maxHeartbeats 4000000
namespace Zn
open Z
open PySem PySem.Spec PyProof.Rows L2
/-! ### sorted(xs, key=int), xs a list of ints -/
def IsI (v : Value) (i : Int) : Prop := ∃ t, v = .int i t
theorem eachI : ∀ {ns : List Int} {us : List Value}, Vals (ns.map V.int) us → PySem.W.EachIs IsI us ns
  | [], _, .nil => .nil
  | n :: ns, _, .cons h r => .cons h (eachI r)
theorem eachV : ∀ {ns : List Int} {us : List Value}, PySem.W.EachIs IsI us ns → Vals (ns.map V.int) us
  | _, _, .nil => .nil
  | _, _, .cons h r => .cons h (eachV r)
theorem le_int (a b : Int) : PySem.W.dataLe false PyData.int a b = decide (a ≤ b) := by
  show (!PyProof.Rows.lexLt PyProof.Rows.itemOrd [.inl b] [.inl a]) = _
  have e : PyProof.Rows.lexLt PyProof.Rows.itemOrd [.inl b] [.inl a] = decide (b < a) := by
    by_cases h : b < a
    · simp [PyProof.Rows.lexLt, PyProof.Rows.itemLt, h]
    · simp [PyProof.Rows.lexLt, PyProof.Rows.itemLt, h]
  rw [e]
  by_cases h : b < a
  · rw [decide_eq_true h, decide_eq_false (by omega)]
    rfl
  · rw [decide_eq_false h, decide_eq_true (by omega)]
    rfl
theorem cr_sortedInt {X : Cx} (hu : X.A.units + 64 < cLine) : CallRK X (.builtin "sorted") [Str.ofString "key"] (rSortedKw X.K false [.ty "int"]) := by
  intro pins s σ H vs zs us ws Q I r rz h
  obtain ⟨a, ns, rfl, rfl, hs, q⟩ := h
  obtain rfl := Vals.ref1 r
  obtain ⟨w1, rfl, e1⟩ := vals1 rz
  obtain rfl : w1 = Value.type "int" := e1
  obtain ⟨its, rv, hl, hz⟩ := I.list hs
  have hE := eachI rv
  rw [List.length_map] at hz
  refine PySem.W.sorted_key_data (β := Int) (b := false) (f := .type "int") PyData.int hl.isList hE ?_ ?_ hz ?_ (PyProof.Rows.ksk_s1 _ _) (fun _ => PyProof.Rows.ksk_l1 _ _) (fun _ => rfl) ?_ ?_
  · intro d hd d' hd'
    obtain ⟨x, _, rfl⟩ := List.mem_map.mp hd
    obtain ⟨y, _, rfl⟩ := List.mem_map.mp hd'
    rfl
  · refine .inr fun d hd => ?_
    obtain ⟨x, _, rfl⟩ := List.mem_map.mp hd
    exact ⟨nofun, nofun⟩
  · intro x _
    show X.A.units + 2 + 0 < cLine
    omega
  · rintro v x ⟨t, rfl⟩ _ h tk hk
    exact call_int_int ⟨h, tk, rfl, fun _ _ e => e, .int x t⟩
  · intro out c h' tk hk hn ha hlen he
    have hp : (ns.mergeSort (PySem.W.dataLe false PyData.int)).Perm ns := List.mergeSort_perm _ _
    have hs2 : (ns.mergeSort (PySem.W.dataLe false PyData.int)).Pairwise (· ≤ ·) := by
      have := PySem.W.sort_pairwise (PySem.W.sortLe_total (PyProof.Rows.listOrd PyProof.Rows.itemOrd) false fun b : Int => PySem.W.keyToks (PyData.int b)) ns
      refine List.Pairwise.imp ?_ this
      intro x y h
      have h : PySem.W.dataLe false PyData.int x y = true := h
      rw [le_int] at h
      exact of_decide_eq_true h
    refine ⟨.ref _, upd H (s.heap.objs.size + 1) (.lst ((ns.mergeSort (PySem.W.dataLe false PyData.int)).map V.int)), I.laid (t' := tk) hk (Nat.le_succ _) ⟨?_, out, c, eachV he, ha⟩, rfl, q _ _ hp hs2 (I.hok.fresh (Nat.le_succ _))⟩
    rw [List.length_map, hp.length_eq]
    exact hz
end Zn
set_option Elab.async false
set_option linter.all false
namespace Nd
/-! ### does the function rise behind m -/
def upP (m : Int) (p : Int × Option Int) : Bool := decide (p.1 ≤ m) && (match p.2 with
  | none => true
  | some h => decide (m < h))
def up (rs : Rs) (m : Int) : Bool := rs.any (upP m)
theorem up_nil (m : Int) : up [] m = false := rfl
theorem up_cons (p : Int × Option Int) (rs : Rs) (m : Int) : up (p :: rs) m = (upP m p || up rs m) := rfl
def Edge (rs : Rs) (x : Int) : Prop := ∃ p ∈ rs, p.1 = x ∨ p.2 = some x
theorem Edge.tail {p : Int × Option Int} {rs : Rs} {x : Int} (h : Edge rs x) : Edge (p :: rs) x := by
  obtain ⟨q, hq, h⟩ := h
  exact ⟨q, List.mem_cons_of_mem _ hq, h⟩
theorem Edge.lo {l : Int} {h : Option Int} {rs : Rs} : Edge ((l, h) :: rs) l := ⟨_, List.mem_cons_self .., .inl rfl⟩
theorem Edge.hi {l h : Int} {rs : Rs} : Edge ((l, some h) :: rs) h := ⟨_, List.mem_cons_self .., .inr rfl⟩
/-- no end lies strictly between m and k -/
def Calm (rs : Rs) (m k : Int) : Prop := ∀ x, Edge rs x → ¬ (m < x ∧ x < k)
theorem up_low : ∀ {rs : Rs} {e m : Int}, Good e rs → m ≤ e → up rs m = false
  | [], _, _, _, _ => rfl
  | (l, none) :: r, e, m, g, h => by
    have g1 := g.1
    have g2 := g.2
    subst g2
    rw [up_cons, up_nil]
    show ((decide (l ≤ m) && true) || false) = false
    rw [decide_eq_false (by omega)]
    rfl
  | (l, some y) :: r, e, m, g, h => by
    have g1 := g.1
    have g2 := g.2.1
    rw [up_cons, up_low g.2.2 (show m ≤ y by omega)]
    show ((decide (l ≤ m) && decide (m < y)) || false) = false
    rw [decide_eq_false (by omega)]
    rfl
theorem aff : ∀ {rs : Rs} {e m k : Int}, Good e rs → m ≤ k → Calm rs m k → (up rs m = true ∧ Fs rs k = Fs rs m + (k - m)) ∨ (up rs m = false ∧ Fs rs k = Fs rs m)
  | [], _, _, _, _, _, _ => .inr ⟨rfl, rfl⟩
  | (l, none) :: r, e, m, k, g, hk, hc => by
    have g2 := g.2
    subst g2
    have c1 := hc l Edge.lo
    rw [up_cons, up_nil, Fs_cons, Fs_cons, Fs_nil, Fs_nil]
    by_cases h : l ≤ m
    · refine .inl ⟨?_, ?_⟩
      · show ((decide (l ≤ m) && true) || false) = true
        rw [decide_eq_true h]
        rfl
      · unfold rise
        dsimp only
        (repeat' split) <;> omega
    · refine .inr ⟨?_, ?_⟩
      · show ((decide (l ≤ m) && true) || false) = false
        rw [decide_eq_false h]
        rfl
      · rw [rise_zero (show k ≤ l by omega), rise_zero (show m ≤ l by omega)]
  | (l, some y) :: r, e, m, k, g, hk, hc => by
    have g1 := g.1
    have g2 := g.2.1
    have c1 := hc l Edge.lo
    have c2 := hc y Edge.hi
    have ih := aff g.2.2 hk (fun x hx => hc x hx.tail)
    rw [up_cons, Fs_cons, Fs_cons]
    have eu : upP m (l, some y) = (decide (l ≤ m) && decide (m < y)) := rfl
    by_cases h : l ≤ m
    · by_cases h2 : m < y
      · have z1 : Fs r k = 0 := Fs_zero g.2.2 (by omega)
        have z2 : Fs r m = 0 := Fs_zero g.2.2 (by omega)
        refine .inl ⟨?_, ?_⟩
        · rw [eu, decide_eq_true h, decide_eq_true h2]
          rfl
        · rw [z1, z2]
          unfold rise
          dsimp only
          (repeat' split) <;> omega
      · rw [eu, decide_eq_false h2, Bool.and_false, Bool.false_or]
        have e1 : rise k (l, some y) = y - l := by
          rw [rise_some (by omega), if_neg (by omega)]
        have e2 : rise m (l, some y) = y - l := by
          rw [rise_some (by omega), if_neg (by omega)]
        rw [e1, e2]
        rcases ih with ⟨i1, i2⟩ | ⟨i1, i2⟩
        · exact .inl ⟨i1, by omega⟩
        · exact .inr ⟨i1, by omega⟩
    · rw [eu, decide_eq_false h, Bool.false_and, Bool.false_or, rise_zero (show k ≤ l by omega), rise_zero (show m ≤ l by omega)]
      rcases ih with ⟨i1, i2⟩ | ⟨i1, i2⟩
      · exact .inl ⟨i1, by omega⟩
      · exact .inr ⟨i1, by omega⟩
theorem Fs0 {rs : Rs} (g : Good (-1) rs) : Fs rs 0 = 0 := by
  cases rs with
  | nil => rfl
  | cons p r =>
    obtain ⟨l, h⟩ := p
    have : 0 ≤ l := by
      cases h with
      | none => have := g.1; omega
      | some y => have := g.1; omega
    exact Fs_stop g (i := 0) rfl this
/-- behind pairs that have ended -/
theorem up_skip {l h m : Int} {r : Rs} (hm : h ≤ m) : up ((l, some h) :: r) m = up r m := by
  rw [up_cons]
  show ((decide (l ≤ m) && decide (m < h)) || _) = _
  rw [decide_eq_false (show ¬ m < h by omega), Bool.and_false, Bool.false_or]
theorem up_now {e l m : Int} {h : Option Int} {r : Rs} (g : Good e ((l, h) :: r)) (hm : ∀ y, h = some y → m < y) : up ((l, h) :: r) m = decide (l ≤ m) := by
  cases h with
  | none =>
    have g2 := g.2
    subst g2
    rw [up_cons, up_nil]
    show ((decide (l ≤ m) && true) || false) = _
    simp
  | some y =>
    have h1 := hm y rfl
    rw [up_cons, up_low g.2.2 (show m ≤ y by omega)]
    show ((decide (l ≤ m) && decide (m < y)) || false) = _
    rw [decide_eq_true h1]
    simp
/-- flat behind all ends: not above the bound -/
theorem flat_bnd : ∀ {rs : Rs} {e t x : Int}, Good e rs → up rs x = false → (∀ z, Edge rs z → z ≤ x) → t + Fs rs x ≤ bnd t rs
  | [], _, t, x, _, _, _ => by
    rw [Fs_nil]
    show t + 0 ≤ t
    omega
  | (l, none) :: r, e, t, x, g, hu, he => by
    rw [up_now g (fun y hy => by cases hy), decide_eq_true (he l Edge.lo)] at hu
    cases hu
  | (l, some h) :: r, e, t, x, g, hu, he => by
    have g2 := g.2.1
    have h1 := he h Edge.hi
    rw [up_skip h1] at hu
    have ih := flat_bnd (t := t + h - l) g.2.2 hu (fun z hz => he z hz.tail)
    rw [Fs_cons, rise_some (by omega), if_neg (by omega)]
    show _ ≤ bnd (t + h - l) r
    omega
theorem bnd_add : ∀ (rs : Rs) {t c : Int}, 0 ≤ c → bnd (t + c) rs ≤ bnd t rs + c
  | [], t, c, _ => Int.le_refl _
  | (l, none) :: r, t, c, h => by
    show (if l > t + c then l else t + c) ≤ (if l > t then l else t) + c
    (repeat' split) <;> omega
  | (l, some x) :: r, t, c, h => by
    have := bnd_add r (t := t + x - l) h
    show bnd (t + c + x - l) r ≤ bnd (t + x - l) r + c
    rw [show t + c + x - l = t + x - l + c by omega]
    exact this
/-! ### the least k with d k above 0 -/
def Below (d : Int → Int) (b : Int) : Prop := ∀ k, 0 ≤ k → k < b → d k ≤ 0
def FA (d : Int → Int) : Option Int → Prop
  | some x => 0 ≤ x ∧ 0 < d x ∧ Below d x
  | none => ∀ k, 0 ≤ k → d k ≤ 0
theorem FA.uniq {d : Int → Int} {a b : Option Int} (ha : FA d a) (hb : FA d b) : a = b := by
  cases a with
  | none =>
    cases b with
    | none => rfl
    | some y =>
      have h1 := ha y hb.1
      have h2 := hb.2.1
      omega
  | some x =>
    cases b with
    | none =>
      have h1 := hb x ha.1
      have h2 := ha.2.1
      omega
    | some y =>
      obtain ⟨x1, x2, x3⟩ := ha
      obtain ⟨y1, y2, y3⟩ := hb
      by_cases h : x < y
      · have := y3 x x1 h
        omega
      by_cases h2 : y < x
      · have := x3 y y1 h2
        omega
      · congr 1
        omega
def dif (s : Int) (rs : Rs) (s' : Int) (rs' : Rs) (k : Int) : Int := (s + Fs rs k) - (s' + Fs rs' k)
section
variable {s s' m M : Int} {rs rs' : Rs}
/-- one stretch: the difference keeps its slope -/
theorem stretch (g : Good (-1) rs) (g' : Good (-1) rs') (hc : Calm rs m M) (hc' : Calm rs' m M) {k : Int} (h1 : m ≤ k) (h2 : k ≤ M) :
    (up rs m = true ∧ up rs' m = false ∧ dif s rs s' rs' k = dif s rs s' rs' m + (k - m)) ∨ ((up rs m && !up rs' m) = false ∧ dif s rs s' rs' k ≤ dif s rs s' rs' m) := by
  have a := aff (k := k) g h1 (fun x hx z => hc x hx ⟨z.1, by omega⟩)
  have b := aff (k := k) g' h1 (fun x hx z => hc' x hx ⟨z.1, by omega⟩)
  unfold dif
  rcases a with ⟨a1, a2⟩ | ⟨a1, a2⟩ <;> rcases b with ⟨b1, b2⟩ | ⟨b1, b2⟩
  · exact .inr ⟨by rw [a1, b1]; rfl, by omega⟩
  · exact .inl ⟨a1, b1, by omega⟩
  · exact .inr ⟨by rw [a1, b1]; rfl, by omega⟩
  · exact .inr ⟨by rw [a1, b1]; rfl, by omega⟩
theorem below_next (g : Good (-1) rs) (g' : Good (-1) rs') (hc : Calm rs m M) (hc' : Calm rs' m M) (hb : Below (dif s rs s' rs') m) (hd : dif s rs s' rs' m ≤ 0) (h : (up rs m && !up rs' m) = false ∨ M ≤ m + 1 - dif s rs s' rs' m) : Below (dif s rs s' rs') M := by
  intro k k0 k1
  by_cases hk : k < m
  · exact hb k k0 hk
  · rcases stretch (s := s) (s' := s') g g' hc hc' (k := k) (by omega) (by omega) with ⟨u1, u2, e⟩ | ⟨_, e⟩
    · rcases h with h | h
      · rw [u1, u2] at h
        cases h
      · omega
    · omega
theorem found_next (g : Good (-1) rs) (g' : Good (-1) rs') (hc : Calm rs m M) (hc' : Calm rs' m M) (h0 : 0 ≤ m) (hb : Below (dif s rs s' rs') m) (hd : dif s rs s' rs' m ≤ 0) (hu : (up rs m && !up rs' m) = true) (hM : m + 1 - dif s rs s' rs' m ≤ M) : FA (dif s rs s' rs') (some (m + 1 - dif s rs s' rs' m)) := by
  have st : ∀ k, m ≤ k → k ≤ M → dif s rs s' rs' k = dif s rs s' rs' m + (k - m) := fun k k1 k2 => by
    rcases stretch (s := s) (s' := s') g g' hc hc' k1 k2 with ⟨u1, u2, e⟩ | ⟨u, e⟩
    · exact e
    · rw [hu] at u
      cases u
  refine ⟨by omega, ?_, fun k k0 k1 => ?_⟩
  · rw [st _ (by omega) hM]
    omega
  · by_cases hk : k < m
    · exact hb k k0 hk
    · rw [st k (by omega) (by omega)]
      omega
/-- the law's way: look at the place by the gap -/
theorem found_gap (g : Good (-1) rs) (g' : Good (-1) rs') (hc : Calm rs m M) (hc' : Calm rs' m M) (h0 : 0 ≤ m) (hb : Below (dif s rs s' rs') m) (hd : dif s rs s' rs' m ≤ 0) (hM : m + 1 - dif s rs s' rs' m ≤ M) (hp : 0 < dif s rs s' rs' (m + 1 - dif s rs s' rs' m)) : FA (dif s rs s' rs') (some (m + 1 - dif s rs s' rs' m)) := by
  refine found_next g g' hc hc' h0 hb hd ?_ hM
  rcases stretch (s := s) (s' := s') g g' hc hc' (k := m + 1 - dif s rs s' rs' m) (by omega) hM with ⟨u1, u2, e⟩ | ⟨u, e⟩
  · rw [u1, u2]
    rfl
  · omega
theorem below_gap (g : Good (-1) rs) (g' : Good (-1) rs') (hc : Calm rs m M) (hc' : Calm rs' m M) (hb : Below (dif s rs s' rs') m) (hd : dif s rs s' rs' m ≤ 0) (h : m + 1 - dif s rs s' rs' m < M → dif s rs s' rs' (m + 1 - dif s rs s' rs' m) ≤ 0) : Below (dif s rs s' rs') M := by
  refine below_next g g' hc hc' hb hd ?_
  by_cases hM : m + 1 - dif s rs s' rs' m < M
  · have hh := h hM
    rcases stretch (s := s) (s' := s') g g' hc hc' (k := m + 1 - dif s rs s' rs' m) (by omega) (by omega) with ⟨u1, u2, e⟩ | ⟨u, e⟩
    · omega
    · exact .inl u
  · exact .inr (by omega)
/-- behind the last end -/
theorem below_all (g : Good (-1) rs) (g' : Good (-1) rs') (he : ∀ x, Edge rs x → x ≤ m) (he' : ∀ x, Edge rs' x → x ≤ m) (hb : Below (dif s rs s' rs') m) (hd : dif s rs s' rs' m ≤ 0) (h : (up rs m && !up rs' m) = false) : FA (dif s rs s' rs') none := by
  intro k k0
  have c : ∀ {q : Rs}, (∀ x, Edge q x → x ≤ m) → Calm q m (k + 1) := fun hq x hx z => by
    have := hq x hx
    omega
  by_cases hk : k < m
  · exact hb k k0 hk
  · exact below_next g g' (c he) (c he') hb hd (.inl h) k k0 (by omega)
theorem below_far (g : Good (-1) rs) (g' : Good (-1) rs') (hs : 0 ≤ s) (he : ∀ x, Edge rs x → x ≤ m) (he' : ∀ x, Edge rs' x → x ≤ m) (h0 : 0 ≤ m) {B : Int} (hB : bnd s' rs' + 1 < B) (hb : Below (dif s rs s' rs') (m + B)) (hB0 : 0 < B) : FA (dif s rs s' rs') none := by
  have hd : dif s rs s' rs' m ≤ 0 := hb m h0 (by omega)
  cases hu : (up rs m && !up rs' m) with
  | false => exact below_all g g' he he' (fun k k0 k1 => hb k k0 (by omega)) hd hu
  | true =>
    have hu2 : up rs' m = false := by
      cases e : up rs' m with
      | false => rfl
      | true =>
        rw [e] at hu
        simp at hu
    have b1 := flat_bnd (t := s') g' hu2 he'
    have f0 := (Fs_slope (x := m) (y := m) (Int.le_refl _) g).1
    have hgap : - dif s rs s' rs' m ≤ bnd s' rs' := by
      unfold dif
      omega
    have c : ∀ {q : Rs}, (∀ x, Edge q x → x ≤ m) → Calm q m (m + B) := fun hq x hx z => by
      have := hq x hx
      omega
    have fd := found_next g g' (c he) (c he') h0 (fun k k0 k1 => hb k k0 (by omega)) hd hu (by omega)
    have h1 := hb _ fd.1 (by omega)
    have h2 := fd.2.1
    omega
end
/-! ### where the rises come to an amount -/
def rp : Rs → Int → Option Int
  | [], _ => none
  | (l, none) :: _, A => some (l + A)
  | (l, some h) :: r, A => if h - l ≥ A then some (l + A) else rp r (A - (h - l))
theorem rp_spec : ∀ {rs : Rs} {e A : Int}, Good e rs → 1 ≤ A → match rp rs A with
    | some x => e + 1 < x ∧ ∀ y, A ≤ Fs rs y ↔ x ≤ y
    | none => ∀ y, Fs rs y < A
  | [], e, A, _, hA => fun y => by rw [Fs_nil]; omega
  | (l, none) :: r, e, A, g, hA => by
    have g1 := g.1
    have g2 := g.2
    subst g2
    refine ⟨by omega, fun y => ?_⟩
    rw [Fs_cons, Fs_nil]
    by_cases h : y ≤ l
    · rw [rise_zero h]
      constructor <;> intro <;> omega
    · rw [rise_none (by omega)]
      constructor <;> intro <;> omega
  | (l, some h) :: r, e, A, g, hA => by
    have g1 := g.1
    have g2 := g.2.1
    unfold rp
    by_cases c : h - l ≥ A
    · rw [if_pos c]
      refine ⟨by omega, fun y => ?_⟩
      rw [Fs_cons]
      by_cases h1 : y ≤ l
      · rw [rise_zero h1, Fs_zero g.2.2 (by omega)]
        constructor <;> intro <;> omega
      · rw [rise_some (by omega)]
        by_cases h2 : y < h
        · rw [if_pos h2, Fs_zero g.2.2 (by omega)]
          constructor <;> intro <;> omega
        · rw [if_neg h2]
          have := (Fs_slope (x := y) (y := y) (Int.le_refl _) g.2.2).1
          constructor <;> intro <;> omega
    · rw [if_neg c]
      have ih := rp_spec (rs := r) (e := h) (A := A - (h - l)) g.2.2 (by omega)
      have low : ∀ y, y < h → Fs ((l, some h) :: r) y < A := fun y hy => by
        rw [Fs_cons, Fs_zero g.2.2 (by omega)]
        by_cases h1 : y ≤ l
        · rw [rise_zero h1]; omega
        · rw [rise_some (by omega), if_pos hy]; omega
      have high : ∀ y, h ≤ y → Fs ((l, some h) :: r) y = (h - l) + Fs r y := fun y hy => by
        rw [Fs_cons, rise_some (by omega), if_neg (by omega)]
      cases er : rp r (A - (h - l)) with
      | some x =>
        rw [er] at ih
        obtain ⟨i1, i2⟩ := ih
        refine ⟨by omega, fun y => ?_⟩
        by_cases hy : y < h
        · have := low y hy
          constructor <;> intro <;> omega
        · have a := high y (by omega)
          have b := i2 y
          rw [a]
          constructor
          · intro z
            exact b.mp (by omega)
          · intro z
            have := b.mpr z
            omega
      | none =>
        rw [er] at ih
        intro y
        by_cases hy : y < h
        · exact low y hy
        · have a := high y (by omega)
          have b := ih y
          omega
def sur (st : Option Int) (rs : Rs) (p : Int) : Option Int := match st with
  | none => some (-1)
  | some s => if s > p then some (-1) else (rp rs (p - s + 1)).map (· - 1)
/-- a value is within the purse exactly for the sums up to what is surely left -/
theorem sur_spec {s p : Int} {rs : Rs} (g : Good (-1) rs) (hs : s ≤ p) : match sur (some s) rs p with
    | some x => 0 ≤ x ∧ ∀ k, s + Fs rs k ≤ p ↔ k ≤ x
    | none => ∀ k, s + Fs rs k ≤ p := by
  have sp := rp_spec g (A := p - s + 1) (by omega)
  have es : sur (some s) rs p = (rp rs (p - s + 1)).map (· - 1) := if_neg (by omega)
  rw [es]
  cases e : rp rs (p - s + 1) with
  | none =>
    rw [e] at sp
    intro k
    have := sp k
    omega
  | some x =>
    rw [e] at sp
    obtain ⟨s1, s2⟩ := sp
    refine ⟨?_, fun k => ?_⟩
    · show 0 ≤ x - 1
      omega
    · show _ ↔ k ≤ x - 1
      have := s2 k
      constructor
      · intro h
        refine Int.not_lt.mp fun h2 => ?_
        have := this.mpr (by omega)
        omega
      · intro h
        refine Int.not_lt.mp fun h2 => ?_
        have := this.mp (by omega)
        omega
theorem sur_none {s p : Int} {rs : Rs} (g : Good (-1) rs) (hs : s ≤ p) : sur (some s) rs p = none ↔ ∃ T, top s rs = some T ∧ T ≤ p := by
  have sp := sur_spec g hs
  have en := ends_spec (t := s) g
  constructor
  · intro h
    rw [h] at sp
    cases eo : opn rs with
    | some l =>
      rw [eo] at en
      obtain ⟨_, _, e3, _⟩ := en
      have h1 := sp (l + (p + 1 - (s + Fs rs l)).toNat)
      rw [e3 _ (by omega)] at h1
      omega
    | none =>
      rw [eo] at en
      refine ⟨_, en.2, ?_⟩
      have tp : ∀ {rs : Rs} {e t T : Int}, Good e rs → top t rs = some T → ∃ k, t + Fs rs k = T := by
        intro rs
        induction rs with
        | nil =>
          intro e t T _ h
          exact ⟨0, by rw [Fs_nil]; have := Option.some.inj h; omega⟩
        | cons q r ih =>
          intro e t T g h
          obtain ⟨l, y⟩ := q
          cases y with
          | none => cases h
          | some y =>
            have g2 := g.2.1
            obtain ⟨k, hk⟩ := ih (t := t + y - l) g.2.2 h
            by_cases c : k ≤ y
            · refine ⟨y, ?_⟩
              rw [Fs_zero g.2.2 c] at hk
              rw [Fs_cons, rise_some (by omega), if_neg (by omega), Fs_zero g.2.2 (Int.le_refl _)]
              omega
            · refine ⟨k, ?_⟩
              rw [Fs_cons, rise_some (by omega), if_neg (by omega)]
              omega
      obtain ⟨k, hk⟩ := tp g en.2
      have := sp k
      omega
  · rintro ⟨T, hT, hp⟩
    cases eo : opn rs with
    | some l =>
      rw [eo] at en
      rw [en.2.2.2] at hT
      cases hT
    | none =>
      rw [eo] at en
      obtain ⟨e1, e2⟩ := en
      rw [e2] at hT
      cases hT
      cases e : sur (some s) rs p with
      | none => rfl
      | some x =>
        rw [e] at sp
        have h1 := (sp.2 (x + 1)).mp (by have := e1 (x + 1); omega)
        omega
end Nd
set_option pp.maxSteps 700
set_option Elab.async false
set_option linter.all false
set_option maxRecDepth 100000
set_option maxHeartbeats 4000000
namespace Zn
open Z
open Nd
open PySem PySem.Spec PyProof.Rows L2
open C8 (pss_cut tCut)
local macro_rules | `(tactic| walk_at "num") => `(tactic| first | rfl | omega | decide | exact Nat.le_of_lt (small1000 (by simp)) | exact ⟨by omega, by omega⟩ | exact ⟨by omega, by omega, by omega⟩ | exact ⟨by decide, by decide, by decide⟩ | exact Or.inl ⟨by omega, by omega⟩ | exact Or.inr ⟨by omega, by omega⟩)
local macro_rules | `(tactic| walk_at "go") => `(tactic| repeat (first | refine ⟨_, rfl, ?_⟩ | refine ⟨_, _, rfl, rfl, ?_⟩ | refine ⟨_, _, rfl, ?_⟩ | (refine ⟨_, _, rfl, rfl, ?_, ?_⟩; focus walk_at "num") | refine Or.inl ⟨_, rfl, ?_⟩ | refine ⟨_, _, _, _, rfl, rfl, (by assumption), (by rfl), ?_⟩ | refine ⟨_, _, _, _, _, rfl, (by assumption), (by assumption), (by assumption), (by rfl), ?_⟩ | refine ⟨rfl, ?_⟩ | (refine And.intro ?_ ?_; focus walk_at "num")))
abbrev s_marks_of : Stmt := topS 13
abbrev N_marks_of : List Str := ["first", "second", "found", "low", "high"]
abbrev P_marks_of : List Str := ["first", "second"]
theorem sc_marks_of : FnScope N_marks_of P_marks_of (defScope s_marks_of) := ⟨rfl, rfl, rfl, by decide +kernel, rfl, by decide +kernel, by decide +kernel⟩
theorem good_at : ∀ {rs : Rs} {e : Int} {i : Nat} {l : Int} {h : Option Int}, Good e rs → rs[i]? = some (l, h) → e < l ∧ ∀ y, h = some y → l < y
  | [], _, i, _, _, _, z => by cases i <;> cases z
  | (l, none) :: r, e, 0, _, _, g, z => by
    cases z
    exact ⟨g.1, nofun⟩
  | (l, some x) :: r, e, 0, _, _, g, z => by
    cases z
    exact ⟨g.1, fun y hy => by cases hy; exact g.2.1⟩
  | (l, none) :: r, e, i + 1, _, _, g, z => by
    have : r = [] := g.2
    subst this
    cases i <;> cases z
  | (l, some x) :: r, e, i + 1, _, _, g, z => by
    have g1 := g.1
    have g2 := g.2.1
    have ih := good_at (i := i) g.2.2 z
    exact ⟨by omega, ih.2⟩
def RisH (H : Hp) (a : Addr) (ps : List Addr) (rs : Rs) : Prop := H a = some (.lst (ps.map V.ref)) ∧ ps.length = rs.length ∧ ∀ (i : Nat) (p : Addr) (q : Int × Option Int), ps[i]? = some p → rs[i]? = some q → H p = some (.tup [.int q.1, oV q.2])
theorem RisH.sb {H H' : Hp} {a p : Addr} {ps : List Addr} {rs : Rs} {xs : List V} (s : SB p H H') (ne : a ≠ p) (hp : H p = some (.lst xs)) (r : RisH H a ps rs) : RisH H' a ps rs := ⟨s _ _ ne r.1, r.2.1, fun i q z h1 h2 => by
  have e := r.2.2 i q z h1 h2
  refine s _ _ (fun w => ?_) e
  rw [w, hp] at e
  cases e⟩
theorem RisH.more {H H' : Hp} {a : Addr} {ps : List Addr} {rs : Rs} (s : Same H H') (r : RisH H a ps rs) : RisH H' a ps rs := ⟨s _ _ r.1, r.2.1, fun i q z h1 h2 => s _ _ (r.2.2 i q z h1 h2)⟩
theorem RisH.ris {K : PySem.W.Frag} {H : Hp} {a : Addr} {ps : List Addr} {rs : Rs} (r : RisH H a ps rs) : Ris true false K H a ps rs := ⟨SqL.of r.1, r.2.1, fun i q z h1 h2 => .inl (.inl (r.2.2 i q z h1 h2))⟩
theorem RisH.snoc {H : Hp} {a T : Addr} {ps : List Addr} {rs : Rs} {x : Int} {y : Option Int} (r : RisH H a ps rs) (hT : H T = some (.tup [.int x, oV y])) : RisH (upd H a (.lst (ps.map V.ref ++ [.ref T]))) a (ps ++ [T]) (rs ++ [(x, y)]) := by
  have ne : ∀ {q : Addr} {xs : List V}, H q = some (.tup xs) → q ≠ a := fun e w => by
    rw [w, r.1] at e
    cases e
  refine ⟨by rw [upd_same, List.map_append]; rfl, by rw [List.length_append, List.length_append, r.2.1]; rfl, fun i q z h1 h2 => ?_⟩
  by_cases hlt : i < ps.length
  · rw [List.getElem?_append_left hlt] at h1
    rw [List.getElem?_append_left (by rw [← r.2.1]; exact hlt)] at h2
    have e := r.2.2 i q z h1 h2
    rw [upd_ne (ne e)]
    exact e
  · rw [List.getElem?_append_right (by omega)] at h1
    rw [List.getElem?_append_right (by rw [← r.2.1]; omega)] at h2
    have h3 : i - ps.length = 0 := by
      have := (List.getElem?_eq_some_iff.mp h1).1
      simp at this
      omega
    rw [h3] at h1
    rw [← r.2.1, h3] at h2
    obtain rfl : T = q := Option.some.inj h1
    obtain rfl := Option.some.inj h2
    rw [upd_ne (ne hT)]
    exact hT
def am : Option Int → Option Int → Bool
  | _, none => true
  | none, some _ => false
  | some x, some y => decide (x ≤ y)
theorem rm1 {k : Nat} {A : Around} (r : Room k A) : A.units + 1 < cLine := by have := r.units; omega
/-- for low, high in (a list of pairs standing still) -/
theorem for_pairsL {c : Bool} {K : PySem.W.Frag} {a : Addr} {ps : List Addr} {rs : Rs} {i1 i2 : Nat} {tb : TS} {D : Ends} {σ : L2.St} {H : Hp} (Pv : Nat → L2.St → Hp → Prop) (h0 : Pv 0 σ H) (hq : ∀ i σ H1, Pv i σ H1 → Ris true c K H1 a ps rs)
    (hs : ∀ (i : Nat) (l : Int) (h : Option Int) (σ : L2.St) (H1 : Hp), rs[i]? = some (l, h) → Pv i σ H1 → tb { D with nx := Pv (i + 1), ct := Pv (i + 1), bk := D.nx } ((σ.set i1 (some (.int l))).set i2 (some (oV h))) H1)
    (hd : ∀ σ H1, Pv rs.length σ H1 → D.nx σ H1) : forW (Itl K a) (gPair K i1 i2) tb D σ H := by
  refine for_gen (n := rs.length) Pv h0 ?_ ?_ ?_ hd
  · intro i σ1 H1 hi p
    have hR := hq i σ1 H1 p
    have hi2 : i < ps.length := by rw [hR.2.1]; exact hi
    exact its_go (b := true) (x := .ref ps[i]) hR.1 (by rw [List.getElem?_map, List.getElem?_eq_getElem hi2]; rfl)
  · intro σ1 H1 p
    have hR := hq _ σ1 H1 p
    exact its_stop (b := true) hR.1 (by rw [List.length_map, hR.2.1]; exact Nat.le_refl _)
  · intro i σ1 H1 x H' hi p y
    have hR := hq i σ1 H1 p
    obtain ⟨rfl, ex⟩ := its_yld (b := true) hR.1 y
    obtain ⟨q, eq, rfl⟩ := of_map ex
    have er : rs[i]? = some (rs[i].1, rs[i].2) := List.getElem?_eq_getElem hi
    exact gpair_of (hR.2.2 i q _ eq er) (hs i _ _ σ1 H' er p)
theorem sq_dk {b : Bool} {K : PySem.W.Frag} {H H' : Hp} {n a : Addr} {kvs : List (Key × V)} {xs : List V} (s : SB n H H') (hn : H n = some (.dK kvs)) (h : SqK b K H a xs) : SqK b K H' a xs := by
  have ne : ∀ {o : HO}, H a = some o → (∀ kvs, o ≠ .dK kvs) → a ≠ n := fun e z w => by
    rw [w, hn] at e
    exact z _ (Option.some.inj e).symm
  cases b
  · rcases h with (h | ⟨o, h⟩) | h
    · exact .inl (.inl (s _ _ (ne h fun _ => nofun) h))
    · exact .inl (.inr ⟨o, s _ _ (ne h fun _ => nofun) h⟩)
    · exact .inr h
  · rcases h with (h | ⟨o, h⟩) | h
    · exact .inl (.inl (s _ _ (ne h fun _ => nofun) h))
    · exact .inl (.inr ⟨o, s _ _ (ne h fun _ => nofun) h⟩)
    · exact .inr h
theorem Ris.dk {b c : Bool} {K : PySem.W.Frag} {H H' : Hp} {n a : Addr} {kvs : List (Key × V)} {ps : List Addr} {rs : Rs} (s : SB n H H') (hn : H n = some (.dK kvs)) (r : Ris b c K H a ps rs) : Ris b c K H' a ps rs := ⟨sq_dk s hn r.1, r.2.1, fun i p q h1 h2 => sq_dk s hn (r.2.2 i p q h1 h2)⟩
theorem Ris.append {c : Bool} {K : PySem.W.Frag} {H : Hp} {a1 a2 a : Addr} {b1 b2 : Bool} {ps ps' : List Addr} {rs rs' : Rs} (r1 : Ris b1 c K H a1 ps rs) (r2 : Ris b2 c K H a2 ps' rs') (h : H a = some (.lst (ps.map V.ref ++ ps'.map V.ref))) : Ris true c K H a (ps ++ ps') (rs ++ rs') := by
  refine ⟨SqL.of (by rw [List.map_append]; exact h), by rw [List.length_append, List.length_append, r1.2.1, r2.2.1], fun i p q h1 h2 => ?_⟩
  by_cases hlt : i < ps.length
  · rw [List.getElem?_append_left hlt] at h1
    rw [List.getElem?_append_left (by rw [← r1.2.1]; exact hlt)] at h2
    exact r1.2.2 i p q h1 h2
  · rw [List.getElem?_append_right (by omega)] at h1
    rw [List.getElem?_append_right (by rw [← r1.2.1]; omega), ← r1.2.1] at h2
    exact r2.2.2 _ p q h1 h2
/-! ### a dict whose keys are ints -/
structure DInt (H : Hp) (p : Addr) (ks : List Int) : Prop where
  ex : ∃ kvs : List (Key × V), H p = some (.dK kvs) ∧ kvs.map (·.1) = ks.map Sum.inl
def addI (ks : List Int) (x : Int) : List Int := if x ∈ ks then ks else ks ++ [x]
theorem addI_mem {ks : List Int} {x y : Int} : y ∈ addI ks x ↔ y ∈ ks ∨ y = x := by
  unfold addI
  split
  · constructor
    · exact .inl
    · rintro (h | rfl) <;> assumption
  · simp
theorem addI_nodup {ks : List Int} {x : Int} (h : ks.Nodup) : (addI ks x).Nodup := by
  unfold addI
  split
  · exact h
  · next hx =>
    rw [List.nodup_append]
    refine ⟨h, by simp, fun a ha b hb => ?_⟩
    have : b = x := by simpa using hb
    subst this
    rintro rfl
    exact hx ha
theorem addI_len {ks : List Int} {x : Int} : (addI ks x).length ≤ ks.length + 1 := by
  unfold addI
  split
  · omega
  · simp
theorem putI {kvs : List (Key × V)} {ks : List Int} {x : Int} {v : V} (h : kvs.map (·.1) = ks.map Sum.inl) : (putK kvs (Sum.inl x : Key) v).map (·.1) = (addI ks x).map Sum.inl := by
  have hm : (kvs.any fun kv => decide (kv.1 = (Sum.inl x : Key))) = decide (x ∈ ks) := by
    rw [Bool.eq_iff_iff, List.any_eq_true, decide_eq_true_eq]
    constructor
    · rintro ⟨kv, h1, h2⟩
      have h2 := of_decide_eq_true h2
      have : (Sum.inl x : Key) ∈ ks.map Sum.inl := by rw [← h, ← h2]; exact List.mem_map.mpr ⟨kv, h1, rfl⟩
      obtain ⟨y, hy, e⟩ := List.mem_map.mp this
      cases e
      exact hy
    · intro hx
      have : (Sum.inl x : Key) ∈ kvs.map (·.1) := by rw [h]; exact List.mem_map.mpr ⟨x, hx, rfl⟩
      obtain ⟨kv, h1, h2⟩ := List.mem_map.mp this
      exact ⟨kv, h1, decide_eq_true h2⟩
  unfold putK addI
  rw [hm]
  by_cases hx : x ∈ ks
  · rw [if_pos (decide_eq_true hx), if_pos hx, List.map_map, ← h]
    refine List.map_congr_left fun kv _ => ?_
    show (if kv.1 = Sum.inl x then (kv.1, v) else kv).1 = kv.1
    split <;> rfl
  · rw [if_neg (by rw [decide_eq_false hx]; simp), if_neg hx, List.map_append, List.map_append, h]
    rfl
theorem DInt.put {H : Hp} {p : Addr} {ks : List Int} {x : Int} {v : V} (d : DInt H p ks) (hl : ks.length < 100000) : ∃ H', DPut H p (.int x) v H' ∧ SB p H H' ∧ DInt H' p (addI ks x) := by
  obtain ⟨kvs, e, h⟩ := d.ex
  have hlen : kvs.length = ks.length := by
    have := congrArg List.length h
    simpa using this
  exact ⟨_, DPut.k (k := Sum.inl x) e (by rw [hlen]; exact Nat.lt_of_lt_of_le hl (by decide)), SB.upd (Z.Same.sb (Same.refl H)), _, upd_same, putI h⟩
section
variable {P : Program} {w : World} {K : PySem.W.Frag} {mg : Str → Option Value} {base : Heap} {f C : Addr} {fd : FuncData}
/-- 0 and all ends, ascending, each once -/
structure Marks (rs rs' : Rs) (ms : List Int) : Prop where
  asc : ms.Pairwise (· < ·)
  zero : ms[0]? = some 0
  has : ∀ x, Edge rs x ∨ Edge rs' x → x ∈ ms
  len : ms.length ≤ 2 * (rs.length + rs'.length) + 1
theorem edge_at {rs : Rs} {x : Int} (h : Edge rs x) : ∃ (i : Nat) (l : Int) (y : Option Int), rs[i]? = some (l, y) ∧ (l = x ∨ y = some x) := by
  obtain ⟨⟨l, y⟩, hm, h⟩ := h
  obtain ⟨i, hi⟩ := List.mem_iff_getElem?.mp hm
  exact ⟨i, l, y, hi, h⟩
theorem edge_of {rs : Rs} {x : Int} {i : Nat} {l : Int} {y : Option Int} (h : rs[i]? = some (l, y)) (h2 : l = x ∨ y = some x) : Edge rs x := ⟨_, List.mem_of_getElem? h, h2⟩
theorem edge_app {a b : Rs} {x : Int} : Edge (a ++ b) x ↔ Edge a x ∨ Edge b x := by
  constructor
  · rintro ⟨p, hp, h⟩
    rcases List.mem_append.mp hp with z | z
    · exact .inl ⟨p, z, h⟩
    · exact .inr ⟨p, z, h⟩
  · rintro (⟨p, hp, h⟩ | ⟨p, hp, h⟩)
    · exact ⟨p, List.mem_append_left _ hp, h⟩
    · exact ⟨p, List.mem_append_right _ hp, h⟩
theorem edge_pos {rs : Rs} {x : Int} (g : Good (-1) rs) (h : Edge rs x) : 0 ≤ x := by
  obtain ⟨i, l, y, hi, h⟩ := edge_at h
  obtain ⟨g1, g2⟩ := good_at g hi
  rcases h with h | h
  · omega
  · have := g2 x h
    omega
def spMarks (K : PySem.W.Frag) : Sp := fun vs H Q _ => ∃ (b b' : Bool) (r r' : Addr) (ps ps' : List Addr) (rs rs' : Rs), vs = [.ref r, .ref r'] ∧ Ris b false K H r ps rs ∧ Ris b' false K H r' ps' rs' ∧ Good (-1) rs ∧ Good (-1) rs' ∧ rs.length ≤ 20000 ∧ rs'.length ≤ 20000 ∧ ∀ p H' ms, Same H H' → H' p = some (.lst (ms.map V.int)) → Marks rs rs' ms → Q (.ref p) H'
theorem ok_marks_of (F : FnP K "marks_of" s_marks_of f fd) (m_list : mg "list" = none) (m_sorted : mg "sorted" = none) (m_int : mg "int" = none) : FnOk P w K mg base CX0 1 f fd P_marks_of (spMarks K) := by
  refine F.ok sc_marks_of (fun vs H Q E h => ?_) (fun cdv A outer s H vs Q E hr h => ?_)
  · obtain ⟨b, b', r, r', ps, ps', rs, rs', rfl, _⟩ := h
    rfl
  · obtain ⟨b, b', r, r', ps, ps', rs, rs', rfl, hR, hR', g, g', l1, l2, q⟩ := h
    refine ⟨_, PSs.nox (pss_cons (ps_set (i := 2) sc_marks_of.nd rfl (by first | exact .inl rfl | exact .inr rfl) (pe_disp (pps_cons pe_int pe_bl pps_nil) rfl rfl (by simp) (by decide)))
      (pss_cons (ps_for PassesOwn.never rfl (pi_list (pe_op op_cat (pe_callTy call_list_of (by rfl) m_list (by decide +kernel) (pa_cons (pv 0) pa_nil)) (pe_callTy call_list_of (by rfl) m_list (by decide +kernel) (pa_cons (pv 1) pa_nil)))) (pg_or (pg_unl rfl (pgs_cons (pg_name (i := 3) sc_marks_of.nd rfl (by first | exact .inl rfl | exact .inr rfl)) (pgs_cons (pg_name (i := 4) sc_marks_of.nd rfl (by first | exact .inl rfl | exact .inr rfl)) pgs_nil))) (pg_tup rfl (pgs_cons (pg_name (i := 3) sc_marks_of.nd rfl (by first | exact .inl rfl | exact .inr rfl)) (pgs_cons (pg_name (i := 4) sc_marks_of.nd rfl (by first | exact .inl rfl | exact .inr rfl)) pgs_nil))))
        (pss_cons (ps_asg pe_bl (pg_sub (pv 2) (pv 3) (set_dict (rm1 hr))))
      (pss_one (ps_if (pt_cmpR op_notN (pv 4) pe_non (nomark _)) (pss_one (ps_asg pe_bl (pg_sub (pv 2) (pv 4) (set_dict (rm1 hr))))) pss_nil))))
      (pss_one (ps_ret (pe_callBK (cr_sortedInt hr.units) (by rfl) m_sorted (by decide +kernel) (pa_cons (pe_callTy (call_list_dK rfl) (by rfl) m_list (by decide +kernel) (pa_cons (pv 2) pa_nil)) pa_nil) (pk_cons (pe_bltn (v := .ty "int") (by rfl) m_int (by decide +kernel) rfl) pk_nil)))))), ?_⟩
    intro p np
    walk_at "go"
    refine ⟨upd_same, [(Sum.inl 0, .bl true)], rfl, by decide, ?_⟩
    have e0 : upd (upd H p (.dK [])) p (.dK (mergeK [] [((Sum.inl 0 : Key), V.bl true)])) = upd H p (.dK [((Sum.inl 0 : Key), V.bl true)]) := by
      funext b
      by_cases hb : b = p
      · rw [hb, upd_same, upd_same]
        rfl
      · rw [upd_ne hb, upd_ne hb, upd_ne hb]
    rw [e0]
    have s1 := same_new (o := .dK [((Sum.inl 0 : Key), V.bl true)]) np
    have d1 : DInt (upd H p (.dK [((Sum.inl 0 : Key), V.bl true)])) p [0] := ⟨_, upd_same, rfl⟩
    generalize upd H p (.dK [((Sum.inl 0 : Key), V.bl true)]) = H1 at s1 d1 ⊢
    have hR1 := hR.mono s1
    have hR1' := hR'.mono s1
    walk_at "go"
    refine ⟨r, _, rfl, hR1.1.or, fun x1 n1 => ?_⟩
    have s2 := same_new (o := .lst (ps.map V.ref)) n1
    walk_at "go"
    refine ⟨r', _, rfl, (hR1'.mono s2).1.or, fun x2 n2 => ?_⟩
    have s3 := same_new (o := .lst (ps'.map V.ref)) n2
    walk_at "go"
    refine ⟨x1, x2, _, _, rfl, rfl, s3 _ _ upd_same, upd_same, ?_, fun L nL => ?_⟩
    · rw [List.length_map, List.length_map, hR.2.1, hR'.2.1]
      exact Nat.le_trans (show rs.length + rs'.length ≤ 40000 by omega) (by decide)
    have s4 := same_new (o := .lst (ps.map V.ref ++ ps'.map V.ref)) nL
    have s14 := s2.trans (s3.trans s4)
    have hL : Ris true false K _ L (ps ++ ps') (rs ++ rs') := Ris.append (hR1.mono s14) (hR1'.mono s14) upd_same
    have d4 : DInt (upd (upd (upd H1 x1 (.lst (ps.map V.ref))) x2 (.lst (ps'.map V.ref))) L (.lst (ps.map V.ref ++ ps'.map V.ref))) p [0] := by
      obtain ⟨kvs, e, h⟩ := d1.ex
      exact ⟨kvs, s14 _ _ e, h⟩
    have s04 := s1.trans s14
    generalize upd (upd (upd H1 x1 (.lst (ps.map V.ref))) x2 (.lst (ps'.map V.ref))) L (.lst (ps.map V.ref ++ ps'.map V.ref)) = H4 at hL d4 s04 ⊢
    have nHp : H p = none := np
    refine ⟨L, rfl, ⟨_, hL.1⟩, ?_⟩
    refine for_pairsL (c := false) (ps := ps ++ ps') (rs := rs ++ rs') (fun i σ H5 => SB p H4 H5 ∧ Same H H5 ∧ Ris true false K H5 L (ps ++ ps') (rs ++ rs') ∧ ∃ (ks : List Int) (v3 v4 : Option V), DInt H5 p ks ∧ ks.Nodup ∧ 0 ∈ ks ∧ (∀ x ∈ ks, 0 ≤ x) ∧ ks.length ≤ 2 * i + 1 ∧ (∀ (j : Nat) (l : Int) (h : Option Int), j < i → (rs ++ rs')[j]? = some (l, h) → l ∈ ks ∧ ∀ y, h = some y → y ∈ ks) ∧ σ = [some (.ref r), some (.ref r'), some (.ref p), v3, v4]) ⟨Z.Same.sb (Same.refl _), s04, hL, [0], none, none, d4, by simp, by simp, by simp, by simp, (fun j l h hj => by omega), rfl⟩ ?_ ?_ ?_
    · rintro i σ H5 ⟨_, _, h, _⟩
      exact h
    · rintro i l h σ H5 hi ⟨sb5, sH5, hL5, ks, v3, v4, d5, nd, z0, hpos, hlen, hin, rfl⟩
      have hilt : i < (rs ++ rs').length := (List.getElem?_eq_some_iff.mp hi).1
      rw [List.length_append] at hilt
      obtain ⟨H6, p6, sb6, d6⟩ := d5.put (x := l) (v := .bl true) (by omega)
      have gi : 0 ≤ l ∧ ∀ y, h = some y → 0 ≤ y := by
        rcases edge_app.mp (edge_of hi (.inl rfl)) with z | z
        · refine ⟨edge_pos g z, fun y hy => ?_⟩
          rcases edge_app.mp (edge_of hi (.inr hy)) with z | z
          · exact edge_pos g z
          · exact edge_pos g' z
        · refine ⟨edge_pos g' z, fun y hy => ?_⟩
          rcases edge_app.mp (edge_of hi (.inr hy)) with z | z
          · exact edge_pos g z
          · exact edge_pos g' z
      obtain ⟨kvs, ek, _⟩ := d5.ex
      have hL6 := hL5.dk sb6 ek
      have sH6 : Same H H6 := fun b o e => sb6 b o (ne_of_none e nHp) (sH5 b o e)
      walk_at "go"
      refine ⟨p, H6, rfl, p6, ?_⟩
      have hin6 : ∀ ks' : List Int, (∀ x, x ∈ addI ks l → x ∈ ks') → (∀ y, h = some y → y ∈ ks') → ∀ (j : Nat) (l : Int) (h : Option Int), j < i + 1 → (rs ++ rs')[j]? = some (l, h) → l ∈ ks' ∧ ∀ y, h = some y → y ∈ ks' := by
        intro ks' k1 k2 j l2 h2 hj hj2
        by_cases e : j = i
        · subst e
          rw [hi] at hj2
          cases hj2
          exact ⟨k1 _ (addI_mem.mpr (.inr rfl)), k2⟩
        · obtain ⟨a1, a2⟩ := hin j l2 h2 (by omega) hj2
          exact ⟨k1 _ (addI_mem.mpr (.inl a1)), fun y hy => k1 _ (addI_mem.mpr (.inl (a2 y hy)))⟩
      have len6 := addI_len (ks := ks) (x := l)
      have pos6 : ∀ x ∈ addI ks l, 0 ≤ x := fun x hx => by
        rcases addI_mem.mp hx with z | z
        · exact hpos x z
        · rw [z]; exact gi.1
      cases h with
      | none =>
        walk_at "go"
        exact ⟨sb5.trans sb6, sH6, hL6, addI ks l, _, _, d6, addI_nodup nd, addI_mem.mpr (.inl z0), pos6, by omega, hin6 _ (fun x hx => hx) nofun, rfl⟩
      | some y =>
        obtain ⟨H7, p7, sb7, d7⟩ := d6.put (x := y) (v := .bl true) (by omega)
        obtain ⟨kvs6, ek6, _⟩ := d6.ex
        have len7 := addI_len (ks := addI ks l) (x := y)
        walk_at "go"
        refine ⟨p, H7, rfl, p7, ?_⟩
        refine ⟨sb5.trans (sb6.trans sb7), fun b o e => sb7 b o (ne_of_none e nHp) (sH6 b o e), hL6.dk sb7 ek6, addI (addI ks l) y, _, _, d7, addI_nodup (addI_nodup nd), addI_mem.mpr (.inl (addI_mem.mpr (.inl z0))), fun x hx => ?_, by omega, hin6 _ (fun x hx => addI_mem.mpr (.inl hx)) (fun z hz => by cases hz; exact addI_mem.mpr (.inr rfl)), rfl⟩
        rcases addI_mem.mp hx with z | z
        · exact pos6 x z
        · rw [z]; exact gi.2 y rfl
    · rintro σ H5 ⟨sb5, sH5, hL5, ks, v3, v4, d5, nd, z0, hpos, hlen, hin, rfl⟩
      obtain ⟨kvs, ek, hk⟩ := d5.ex
      walk_at "go"
      refine ⟨p, kvs, rfl, ek, fun L2 nL2 => ?_⟩
      have ek2 : (kvs.map fun kv => kV kv.1) = ks.map V.int := by
        have := congrArg (List.map kV) hk
        rw [List.map_map, List.map_map] at this
        exact this
      rw [ek2]
      have s6 := same_new (o := .lst (ks.map V.int)) nL2
      walk_at "go"
      refine ⟨L2, ks, rfl, rfl, SqL.of upd_same, fun ns p2 hp ho np2 => ?_⟩
      have ho : ns.Pairwise (· ≤ ·) := ho
      have s7 := same_new (o := .lst (ns.map V.int)) np2
      have nd2 : ns.Nodup := hp.nodup_iff.mpr nd
      have asc : ns.Pairwise (· < ·) := by
        refine (List.Pairwise.and ho nd2).imp ?_
        rintro a b ⟨h1, h2⟩
        omega
      refine q p2 _ ns (sH5.trans (s6.trans s7)) upd_same ⟨asc, ?_, fun x hx => ?_, ?_⟩
      · have h0 : 0 ∈ ns := hp.mem_iff.mpr z0
        cases ns with
        | nil => cases h0
        | cons a r =>
          rcases List.mem_cons.mp h0 with e | e
          · rw [← e]; rfl
          · have h1 := (List.pairwise_cons.mp asc).1 0 e
            have h2 := hpos a (hp.mem_iff.mp (List.mem_cons_self ..))
            omega
      · obtain ⟨j, l, y, hj, h⟩ := edge_at (edge_app.mpr hx)
        have hjl := (List.getElem?_eq_some_iff.mp hj).1
        obtain ⟨a1, a2⟩ := hin j l y hjl hj
        refine hp.mem_iff.mpr ?_
        rcases h with h | h
        · rw [← h]; exact a1
        · exact a2 x h
      · rw [hp.length_eq]
        rw [List.length_append] at hlen
        exact hlen
end
end Zn
set_option pp.maxSteps 700
set_option Elab.async false
set_option linter.all false
set_option maxRecDepth 100000
set_option maxHeartbeats 4000000
namespace Zn
open Z
open Nd
open PySem PySem.Spec PyProof.Rows L2
open C8 (pss_cut tCut)
local macro_rules | `(tactic| walk_at "num") => `(tactic| first | rfl | omega | decide | exact Nat.le_of_lt (small1000 (by simp)) | exact ⟨by omega, by omega⟩ | exact ⟨by omega, by omega, by omega⟩ | exact ⟨by decide, by decide, by decide⟩ | exact Or.inl ⟨by omega, by omega⟩ | exact Or.inr ⟨by omega, by omega⟩)
local macro_rules | `(tactic| walk_at "go") => `(tactic| repeat (first | refine ⟨_, rfl, ?_⟩ | refine ⟨_, _, rfl, rfl, ?_⟩ | refine ⟨_, _, rfl, ?_⟩ | (refine ⟨_, _, rfl, rfl, ?_, ?_⟩; focus walk_at "num") | refine Or.inl ⟨_, rfl, ?_⟩ | refine ⟨_, _, _, _, rfl, rfl, (by assumption), (by rfl), ?_⟩ | refine ⟨_, _, _, _, _, rfl, (by assumption), (by assumption), (by assumption), (by rfl), ?_⟩ | refine ⟨rfl, ?_⟩ | (refine And.intro ?_ ?_; focus walk_at "num")))
abbrev s_track : Stmt := topS 14
abbrev N_track : List Str := ["start", "rises", "marks", "found", "value", "last", "step", "at", "mark"]
abbrev P_track : List Str := ["start", "rises", "marks"]
theorem sc_track : FnScope N_track P_track (defScope s_track) := ⟨rfl, rfl, rfl, by decide +kernel, rfl, by decide +kernel, by decide +kernel⟩
/-- ascending, from 0 on, all ends of rs among them -/
structure Mrk (rs : Rs) (ms : List Int) : Prop where
  asc : ms.Pairwise (· < ·)
  zero : ms[0]? = some 0
  has : ∀ x, Edge rs x → x ∈ ms
theorem Marks.one {rs rs' : Rs} {ms : List Int} (h : Marks rs rs' ms) : Mrk rs ms := ⟨h.asc, h.zero, fun x hx => h.has x (.inl hx)⟩
theorem Marks.two {rs rs' : Rs} {ms : List Int} (h : Marks rs rs' ms) : Mrk rs' ms := ⟨h.asc, h.zero, fun x hx => h.has x (.inr hx)⟩
theorem asc_at {ms : List Int} (h : ms.Pairwise (· < ·)) {i j : Nat} {a b : Int} (hi : ms[i]? = some a) (hj : ms[j]? = some b) (hij : i < j) : a < b := by
  obtain ⟨hi1, rfl⟩ := List.getElem?_eq_some_iff.mp hi
  obtain ⟨hj1, rfl⟩ := List.getElem?_eq_some_iff.mp hj
  exact List.pairwise_iff_getElem.mp h i j hi1 hj1 hij
theorem Mrk.pos {rs : Rs} {ms : List Int} (h : Mrk rs ms) {i : Nat} {m : Int} (hi : ms[i]? = some m) : 0 ≤ m := by
  cases i with
  | zero =>
    rw [h.zero] at hi
    cases hi
    exact Int.le_refl _
  | succ i => exact Int.le_of_lt (asc_at h.asc h.zero hi (Nat.succ_pos _))
theorem Mrk.calm {rs : Rs} {ms : List Int} (h : Mrk rs ms) {i : Nat} {m M : Int} (hi : ms[i]? = some m) (hj : ms[i + 1]? = some M) : Calm rs m M := by
  intro x hx ⟨h1, h2⟩
  obtain ⟨j, hj2⟩ := List.mem_iff_getElem?.mp (h.has x hx)
  by_cases c : j ≤ i
  · by_cases c2 : j = i
    · subst c2
      rw [hi] at hj2
      cases hj2
      omega
    · have := asc_at h.asc hj2 hi (by omega)
      omega
  · by_cases c2 : j = i + 1
    · subst c2
      rw [hj] at hj2
      cases hj2
      omega
    · have := asc_at h.asc hj hj2 (by omega)
      omega
theorem Mrk.last {rs : Rs} {ms : List Int} (h : Mrk rs ms) {i : Nat} {m : Int} (hi : ms[i]? = some m) (hl : ms.length = i + 1) : ∀ x, Edge rs x → x ≤ m := by
  intro x hx
  obtain ⟨j, hj⟩ := List.mem_iff_getElem?.mp (h.has x hx)
  have hjl := (List.getElem?_eq_some_iff.mp hj).1
  by_cases c : j = i
  · subst c
    rw [hi] at hj
    cases hj
    exact Int.le_refl _
  · exact Int.le_of_lt (asc_at h.asc hj hi (by omega))
def uI (rs : Rs) (m : Int) : Int := if up rs m = true then 1 else 0
section
variable {P : Program} {w : World} {K : PySem.W.Frag} {mg : Str → Option Value} {base : Heap} {f C : Addr} {fd : FuncData}
/-- what track leaves: a pair for each mark -/
def Trk (H : Hp) (p : Addr) (s : Int) (rs : Rs) (ms : List Int) : Prop := ∃ ts : List Addr, H p = some (.lst (ts.map V.ref)) ∧ ts.length = ms.length ∧ ∀ (i : Nat) (t : Addr) (m : Int), ts[i]? = some t → ms[i]? = some m → H t = some (.tup [.int (s + Fs rs m), .int (uI rs m)])
theorem Trk.mono {H H' : Hp} {p : Addr} {s : Int} {rs : Rs} {ms : List Int} (sm : Same H H') (h : Trk H p s rs ms) : Trk H' p s rs ms := by
  obtain ⟨ts, h1, h2, h3⟩ := h
  exact ⟨ts, sm _ _ h1, h2, fun i t m a b => sm _ _ (h3 i t m a b)⟩
def spTrack (K : PySem.W.Frag) : Sp := fun vs H Q _ => ∃ (b : Bool) (s : Int) (r M : Addr) (ps : List Addr) (rs : Rs) (ms : List Int), vs = [.int s, .ref r, .ref M] ∧ SqT K H r (ps.map V.ref) ∧ Ris false false K H r ps rs ∧ H M = some (.lst (ms.map V.int)) ∧ Good (-1) rs ∧ Mrk rs ms ∧ ms.length ≤ 90000 ∧ ∀ p H', Same H H' → Trk H' p s rs ms → Q (.ref p) H'
theorem ok_track (F : FnP K "track" s_track f fd) (m_len : mg "len" = none) : FnOk P w K mg base CX0 1 f fd P_track (spTrack K) := by
  refine F.ok sc_track (fun vs H Q E h => ?_) (fun cdv A outer s H vs Q E hr h => ?_)
  · obtain ⟨b, s, r, M, ps, rs, ms, rfl, _⟩ := h
    rfl
  · obtain ⟨b, s, r, M, ps, rs, ms, rfl, _, hR, hM, g, mk, hl, q⟩ := h
    refine ⟨_, PSs.nox (pss_cons (ps_set (i := 3) sc_track.nd rfl (by first | exact .inl rfl | exact .inr rfl) (pe_lst pa_nil))
      (pss_cons (ps_asg (pe_tup (pa_cons (pv 0) (pa_cons pe_int (pa_cons pe_int (pa_cons pe_int pa_nil))))) (pg_tup rfl (pgs_cons (pg_name (i := 4) sc_track.nd rfl (by first | exact .inl rfl | exact .inr rfl)) (pgs_cons (pg_name (i := 5) sc_track.nd rfl (by first | exact .inl rfl | exact .inr rfl)) (pgs_cons (pg_name (i := 6) sc_track.nd rfl (by first | exact .inl rfl | exact .inr rfl)) (pgs_cons (pg_name (i := 7) sc_track.nd rfl (by first | exact .inl rfl | exact .inr rfl)) pgs_nil))))))
      (pss_cut (ps_for PassesOwn.never rfl (pi_list (pv 2)) (pg_name (i := 8) sc_track.nd rfl (by first | exact .inl rfl | exact .inr rfl))
        (pss_cons (ps_set (i := 4) sc_track.nd rfl (by first | exact .inl rfl | exact .inr rfl) (pe_op op_add (pv 4) (pe_op op_mul (pv 6) (pe_op op_sub (pv 8) (pv 5)))))
      (pss_cons (ps_set (i := 5) sc_track.nd rfl (by first | exact .inl rfl | exact .inr rfl) (pv 8))
      (pss_cut (ps_while PassesOwn.never (PW.pt (pw_and (pt_cmpR op_lt (pv 7) (pe_callB call_len_seq (by rfl) m_len PySem.boot_len (pa_cons (pv 1) pa_nil)) (nomark _)) (pw_and (pt_cmpR op_notN (pe_ix ix_tup (pe_ix ix_tup (pv 1) (pv 7) (fun _ _ => rfl)) pe_int (fun _ _ => rfl)) pe_non (nomark _)) (pw_and1 (pt_cmpR op_le (pe_ix ix_tup (pe_ix ix_tup (pv 1) (pv 7) (fun _ _ => rfl)) pe_int (fun _ _ => rfl)) (pv 8) (nomark _))))))
        (pss_one (ps_set (i := 7) sc_track.nd rfl (by first | exact .inl rfl | exact .inr rfl) (pe_op op_add (pv 7) pe_int))))
      (pss_cut (ps_set (i := 6) sc_track.nd rfl (by first | exact .inl rfl | exact .inr rfl) (pe_ifExp (PW.pt (pw_and (pt_cmpR op_lt (pv 7) (pe_callB call_len_seq (by rfl) m_len PySem.boot_len (pa_cons (pv 1) pa_nil)) (nomark _)) (pw_and1 (pt_cmpR op_le (pe_ix ix_tup (pe_ix ix_tup (pv 1) (pv 7) (fun _ _ => rfl)) pe_int (fun _ _ => rfl)) (pv 8) (nomark _))))) pe_int pe_int))
      (pss_one (ps_expr (pe_bm PySem.F.plainAttrs_list PySem.F.slot_list_append PySem.F.type_list_append mt_append (pv 3) (pa_cons (pe_tup (pa_cons (pv 4) (pa_cons (pv 6) pa_nil))) pa_nil)))))))))
      (pss_one (ps_ret (pv 3)))))), ?_⟩
    walk_at "go"
    intro p np
    walk_at "go"
    intro T nT
    refine ⟨T, _, rfl, .inl (.inl upd_same), rfl, _, _, rfl, _, _, rfl, _, _, rfl, _, _, rfl, rfl, ?_⟩
    have s1 := (same_new (o := .lst []) np).trans (same_new (o := .tup [.int s, .int 0, .int 0, .int 0]) nT)
    have e1 : upd (upd H p (.lst [])) T (.tup [.int s, .int 0, .int 0, .int 0]) p = some (.lst []) := same_new (o := .tup [.int s, .int 0, .int 0, .int 0]) nT _ _ upd_same
    generalize upd (upd H p (.lst [])) T (.tup [.int s, .int 0, .int 0, .int 0]) = H1 at s1 e1 ⊢
    refine ⟨fun σ' H' => ∃ v4 v5 v6 v7 v8 : Option V, Same H H' ∧ Trk H' p s rs ms ∧ σ' = [some (.int s), some (.ref r), some (.ref M), some (.ref p), v4, v5, v6, v7, v8], ?_, ?_⟩
    rotate_left
    · rintro σ' H' ⟨v4, v5, v6, v7, v8, sH, tr, rfl⟩
      walk_at "go"
      exact q p H' sH tr
    walk_at "go"
    refine ⟨⟨_, SqL.of (s1 _ _ hM)⟩, ?_⟩
    refine for_gen (n := ms.length) (fun i σ H2 => Same H H2 ∧ ∃ (ts : List Addr) (va la st : Int) (at_ : Nat) (v8 : Option V), H2 p = some (.lst (ts.map V.ref)) ∧ ts.length = i ∧ (∀ (j : Nat) (t : Addr) (m : Int), ts[j]? = some t → ms[j]? = some m → H2 t = some (.tup [.int (s + Fs rs m), .int (uI rs m)])) ∧ at_ ≤ rs.length ∧ (∀ m', la ≤ m' → up rs m' = up (rs.drop at_) m') ∧ (st = 0 ∨ st = 1) ∧
      (match i with
        | 0 => va = s ∧ la = 0 ∧ st = 0
        | j + 1 => ms[j]? = some la ∧ va = s + Fs rs la ∧ st = uI rs la) ∧ σ = [some (.int s), some (.ref r), some (.ref M), some (.ref p), some (.int va), some (.int la), some (.int st), some (.int (at_ : Int)), v8]) ⟨s1, [], s, 0, 0, 0, none, e1, rfl, (fun j t m h => nomatch h), Nat.zero_le _, (fun m' _ => rfl), .inl rfl, ⟨rfl, rfl, rfl⟩, rfl⟩ ?_ ?_ ?_ ?_
    · rintro i σ H2 hi ⟨s2, _⟩
      exact ⟨_, .int ms[i], SqL.of (s2 _ _ hM), by rw [List.getElem?_map, List.getElem?_eq_getElem hi]; rfl⟩
    · rintro σ H2 ⟨s2, _⟩
      exact ⟨_, SqL.of (s2 _ _ hM), by rw [List.length_map]; exact Nat.le_refl _⟩
    rotate_left
    · rintro σ H2 ⟨s2, ts, va, la, st, at_, v8, ep, el, et, _, _, _, _, rfl⟩
      exact ⟨_, _, _, _, _, s2, ⟨ts, ep, el, et⟩, rfl⟩
    · rintro i σ H2 x H' hi ⟨s2, ts, va, la, st, at_, v8, ep, el, et, hat, hsk, hst, hv, rfl⟩ ⟨rfl, fx⟩
      obtain ⟨m, em, rfl⟩ := of_map (fx _ (SqL.of (s2 _ _ hM)))
      have hR2 := hR.mono s2
      have hla : la ≤ m := by
        cases i with
        | zero =>
          rw [mk.zero] at em
          cases em
          rw [hv.2.1]
          exact Int.le_refl _
        | succ j => exact Int.le_of_lt (asc_at mk.asc hv.1 em (Nat.lt_succ_self _))
      have hva : va + st * (m - la) = s + Fs rs m := by
        cases i with
        | zero =>
          rw [mk.zero] at em
          cases em
          obtain ⟨rfl, rfl, rfl⟩ := hv
          rw [Fs0 g]
          omega
        | succ j =>
          obtain ⟨a1, a2, a3⟩ := hv
          rcases aff g hla (mk.calm a1 em) with ⟨u, e⟩ | ⟨u, e⟩
          · have : st = 1 := by rw [a3]; exact if_pos u
            subst this
            omega
          · have : st = 0 := by rw [a3]; exact if_neg (by rw [u]; simp)
            subst this
            omega
      walk_at "go"
      refine ⟨fun σ' H3 => H3 = H' ∧ ∃ at2 : Nat, at2 ≤ rs.length ∧ (∀ m', m ≤ m' → up rs m' = up (rs.drop at2) m') ∧ (∀ l h, rs[at2]? = some (l, h) → ∀ y, h = some y → m < y) ∧ σ' = [some (.int s), some (.ref r), some (.ref M), some (.ref p), some (.int (va + st * (m - la))), some (.int m), some (.int st), some (.int (at2 : Int)), some (.int m)], ?_, ?_⟩
      · refine ⟨fun n σ' H3 => H3 = H' ∧ ∃ at2 : Nat, n = rs.length - at2 ∧ at2 ≤ rs.length ∧ (∀ m', m ≤ m' → up rs m' = up (rs.drop at2) m') ∧ σ' = [some (.int s), some (.ref r), some (.ref M), some (.ref p), some (.int (va + st * (m - la))), some (.int m), some (.int st), some (.int (at2 : Int)), some (.int m)], ⟨_, rfl, at_, rfl, hat, fun m' hm => hsk m' (by omega), rfl⟩, ?_⟩
        rintro n σ' H3 ⟨rfl, at2, rfl, ha2, hs2, rfl⟩
        walk_at "go"
        refine ⟨r, _, rfl, .inr hR2.1, ?_⟩
        rw [List.length_map, hR2.2.1]
        walk_at "go"
        refine ite2 (fun e => ?_) (fun e => ?_)
        rotate_left
        · have : ¬ (at2 : Int) < (rs.length : Int) := fun z => e (decide_eq_true z)
          refine ⟨rfl, at2, ha2, hs2, fun l h z => ?_, rfl⟩
          have := (List.getElem?_eq_some_iff.mp z).1
          omega
        have hlt : at2 < rs.length := by
          have : (at2 : Int) < (rs.length : Int) := of_decide_eq_true e
          omega
        have hlt2 : at2 < ps.length := by rw [hR2.2.1]; exact hlt
        have er : rs[at2]? = some (rs[at2].1, rs[at2].2) := List.getElem?_eq_getElem hlt
        have hq : SqT K H3 ps[at2] [.int rs[at2].1, oV rs[at2].2] := hR2.2.2 at2 _ _ (List.getElem?_eq_getElem hlt2) er
        have ea : atI (ps.map V.ref) (at2 : Int) = some (.ref ps[at2]) := at_map (List.getElem?_eq_getElem hlt2)
        have hdr : rs.drop at2 = (rs[at2].1, rs[at2].2) :: rs.drop (at2 + 1) := List.drop_eq_getElem_cons hlt
        generalize rs[at2].1 = lo at er hq hdr
        generalize rs[at2].2 = hi2 at er hq hdr
        have hstep : ∀ y, hi2 = some y → y ≤ m → ∀ m', m ≤ m' → up rs m' = up (rs.drop (at2 + 1)) m' := fun y hy hym m' hm => by
          rw [hs2 m' hm, hdr, hy, up_skip (by omega)]
        walk_at "go"
        refine ⟨r, _, _, _, rfl, rfl, hR2.1, ea, ?_⟩
        cases hi2 with
        | none =>
          walk_at "go"
          exact ⟨at2, ha2, hs2, (fun l h z => by rw [er] at z; cases z; exact nofun), rfl⟩
        | some y =>
          walk_at "go"
          refine ⟨r, _, _, _, rfl, rfl, hR2.1, ea, ?_⟩
          walk_at "go"
          refine ite2 (fun e2 => ?_) (fun e2 => ?_)
          · have hy : y ≤ m := of_decide_eq_true e2
            refine ⟨fun σ' H4 => H4 = H3 ∧ σ' = [some (.int s), some (.ref r), some (.ref M), some (.ref p), some (.int (va + st * (m - la))), some (.int m), some (.int st), some (.int ((at2 : Int) + 1)), some (.int m)], ?_, ?_⟩
            · rintro σ' H4 ⟨rfl, rfl⟩
              exact ⟨rs.length - (at2 + 1), by omega, rfl, at2 + 1, rfl, by omega, hstep y rfl hy, rfl⟩
            · walk_at "go"
              rfl
          · have hy : ¬ y ≤ m := fun z => e2 (decide_eq_true z)
            exact ⟨rfl, at2, ha2, hs2, (fun l h z => by rw [er] at z; cases z; intro y' hy'; cases hy'; omega), rfl⟩
      · rintro σ' H3 ⟨rfl, at2, ha2, hs2, hx2, rfl⟩
        have hup : up rs m = (decide (at2 < rs.length) && match rs[at2]? with
            | some q => decide (q.1 ≤ m)
            | none => false) := by
          rw [hs2 m (Int.le_refl _)]
          by_cases c : at2 < rs.length
          · have er : rs[at2]? = some (rs[at2].1, rs[at2].2) := List.getElem?_eq_getElem c
            obtain ⟨e', g2⟩ := g.drop at2
            have hdr : rs.drop at2 = (rs[at2].1, rs[at2].2) :: rs.drop (at2 + 1) := List.drop_eq_getElem_cons c
            rw [hdr] at g2 ⊢
            rw [up_now g2 (hx2 _ _ er), er, decide_eq_true c]
            rfl
          · rw [List.drop_of_length_le (by omega), decide_eq_false c]
            rfl
        refine ⟨fun σ' H4 => H4 = H3 ∧ σ' = [some (.int s), some (.ref r), some (.ref M), some (.ref p), some (.int (va + st * (m - la))), some (.int m), some (.int (uI rs m)), some (.int (at2 : Int)), some (.int m)], ?_, ?_⟩
        · walk_at "go"
          refine ⟨r, _, rfl, .inr hR2.1, ?_⟩
          rw [List.length_map, hR2.2.1]
          walk_at "go"
          refine ite2 (fun e => ?_) (fun e => ?_)
          rotate_left
          · have hn : ¬ at2 < rs.length := fun z => e (decide_eq_true (by omega))
            have hu : up rs m = false := by rw [hup, decide_eq_false hn]; rfl
            refine ⟨rfl, ?_⟩
            unfold uI
            rw [if_neg (by rw [hu]; simp)]
            rfl
          have hlt : at2 < rs.length := by
            have : (at2 : Int) < (rs.length : Int) := of_decide_eq_true e
            omega
          have hlt2 : at2 < ps.length := by rw [hR2.2.1]; exact hlt
          have er : rs[at2]? = some (rs[at2].1, rs[at2].2) := List.getElem?_eq_getElem hlt
          have hq : SqT K H3 ps[at2] [.int rs[at2].1, oV rs[at2].2] := hR2.2.2 at2 _ _ (List.getElem?_eq_getElem hlt2) er
          have ea : atI (ps.map V.ref) (at2 : Int) = some (.ref ps[at2]) := at_map (List.getElem?_eq_getElem hlt2)
          have hup2 : up rs m = decide (rs[at2].1 ≤ m) := by rw [hup, er, decide_eq_true hlt]; rfl
          walk_at "go"
          refine ⟨r, _, _, _, rfl, rfl, hR2.1, ea, ?_⟩
          walk_at "go"
          refine ite2 (fun e2 => ?_) (fun e2 => ?_)
          · have hu : up rs m = true := by rw [hup2]; exact e2
            refine ⟨rfl, ?_⟩
            unfold uI
            rw [if_pos hu]
            rfl
          · have hu : up rs m = false := by rw [hup2]; simpa using e2
            refine ⟨rfl, ?_⟩
            unfold uI
            rw [if_neg (by rw [hu]; simp)]
            rfl
        · rintro σ' H4 ⟨rfl, rfl⟩
          walk_at "go"
          refine ⟨.inl ⟨rfl, _, .inl (.inl ep)⟩, ?_⟩
          walk_at "go"
          intro t nt
          have s3 := same_new (o := .tup [.int (va + st * (m - la)), .int (uI rs m)]) nt
          walk_at "go"
          refine ⟨_, _, _, rfl, rfl, s3 _ _ ep, ?_, ?_⟩
          · rw [List.length_map, el]
            exact Nat.lt_of_lt_of_le hi (Nat.le_trans hl (by decide))
          have tp : t ≠ p := (ne_of_none ep nt).symm
          refine ⟨Z.Same.mut (s2.trans s3) np, ts ++ [t], _, m, _, at2, _, ?_, ?_, ?_, ha2, hs2, ?_, ⟨em, hva, rfl⟩, rfl⟩
          · rw [upd_same, List.map_append]
            rfl
          · rw [List.length_append, el]
            rfl
          · intro j t2 m2 h1 h2
            by_cases hlt : j < ts.length
            · rw [List.getElem?_append_left hlt] at h1
              have z := et j t2 m2 h1 h2
              have t2p : t2 ≠ p := fun e => by
                rw [e, ep] at z
                cases z
              rw [upd_ne t2p]
              exact s3 _ _ z
            · rw [List.getElem?_append_right (by omega)] at h1
              have h3 : j - ts.length = 0 := by
                have := (List.getElem?_eq_some_iff.mp h1).1
                simp at this
                omega
              rw [h3] at h1
              obtain rfl : t = t2 := Option.some.inj h1
              have h4 : j = i := by omega
              subst h4
              rw [em] at h2
              cases h2
              rw [upd_ne tp, upd_same, hva]
          · unfold uI
            split
            · exact .inr rfl
            · exact .inl rfl
end
end Zn
set_option pp.maxSteps 700
set_option Elab.async false
set_option linter.all false
set_option maxRecDepth 100000
set_option maxHeartbeats 4000000
namespace Zn
open Z
open Nd
open PySem PySem.Spec PyProof.Rows L2
open C8 (pss_cut tCut)
local macro_rules | `(tactic| walk_at "num") => `(tactic| first | rfl | omega | decide | exact Nat.le_of_lt (small1000 (by simp)) | exact ⟨by omega, by omega⟩ | exact ⟨by omega, by omega, by omega⟩ | exact ⟨by decide, by decide, by decide⟩ | exact Or.inl ⟨by omega, by omega⟩ | exact Or.inr ⟨by omega, by omega⟩)
local macro_rules | `(tactic| walk_at "go") => `(tactic| repeat (first | refine ⟨_, rfl, ?_⟩ | refine ⟨_, _, rfl, rfl, ?_⟩ | refine ⟨_, _, rfl, ?_⟩ | (refine ⟨_, _, rfl, rfl, ?_, ?_⟩; focus walk_at "num") | refine Or.inl ⟨_, rfl, ?_⟩ | refine ⟨_, _, _, _, rfl, rfl, (by assumption), (by rfl), ?_⟩ | refine ⟨_, _, _, _, _, rfl, (by assumption), (by assumption), (by assumption), (by rfl), ?_⟩ | refine ⟨rfl, ?_⟩ | (refine And.intro ?_ ?_; focus walk_at "num")))
abbrev s_first_above : Stmt := topS 20
abbrev N_first_above : List Str := ["first", "second", "marks", "ones", "others", "at", "mark", "lead"]
abbrev P_first_above : List Str := ["first", "second"]
theorem sc_first_above : FnScope N_first_above P_first_above (defScope s_first_above) := ⟨rfl, rfl, rfl, by decide +kernel, rfl, by decide +kernel, by decide +kernel⟩
section
variable {P : Program} {w : World} {K : PySem.W.Frag} {mg : Str → Option Value} {base : Heap} {f C : Addr} {fd : FuncData}
/-- a pair (start, rises) -/
def Pr (K : PySem.W.Frag) (H : Hp) (a : Addr) (s : Int) (rs : Rs) : Prop := ∃ r ps, SqT K H a [.int s, .ref r] ∧ Ris false false K H r ps rs
def spFA (K : PySem.W.Frag) : Sp := fun vs H Q _ => ∃ (a b : Addr) (s s' : Int) (rs rs' : Rs), vs = [.ref a, .ref b] ∧ Pr K H a s rs ∧ Pr K H b s' rs' ∧ Good (-1) rs ∧ Good (-1) rs' ∧ rs.length ≤ 20000 ∧ rs'.length ≤ 20000 ∧ ∀ H' o, Same H H' → FA (dif s rs s' rs') o → Q (oV o) H'
theorem ok_first_above (F : FnP K "first_above" s_first_above f fd) (m_len : mg "len" = none) (m_enumerate : mg "enumerate" = none) (c_marks_of : Cal P w K mg base 1 "marks_of" (spMarks K)) (c_track : Cal P w K mg base 1 "track" (spTrack K)) : FnOk P w K mg base CX0 2 f fd P_first_above (spFA K) := by
  refine F.ok sc_first_above (fun vs H Q E h => ?_) (fun cdv A outer s H vs Q E hr h => ?_)
  · obtain ⟨a, b, s, s', rs, rs', rfl, _⟩ := h
    rfl
  · obtain ⟨a, b, s, s', rs, rs', rfl, ⟨r, ps, ha, hR⟩, ⟨r', ps', hb, hR'⟩, g, g', l1, l2, q⟩ := h
    refine ⟨_, PSs.nox (pss_cons (ps_set (i := 2) sc_first_above.nd rfl (by first | exact .inl rfl | exact .inr rfl) (pe_cl c_marks_of hr (by decide) (by rfl) (pa_cons (pe_ix ix_tup (pv 0) pe_int (fun _ _ => rfl)) (pa_cons (pe_ix ix_tup (pv 1) pe_int (fun _ _ => rfl)) pa_nil))))
      (pss_cons (ps_par (i := 3) (j := 4) (by rfl) sc_first_above.nd rfl rfl (by decide) rfl rfl (pa_cons (pe_cl c_track hr (by decide) (by rfl) (pa_cons (pe_ix ix_tup (pv 0) pe_int (fun _ _ => rfl)) (pa_cons (pe_ix ix_tup (pv 0) pe_int (fun _ _ => rfl)) (pa_cons (pv 2) pa_nil)))) (pa_cons (pe_cl c_track hr (by decide) (by rfl) (pa_cons (pe_ix ix_tup (pv 1) pe_int (fun _ _ => rfl)) (pa_cons (pe_ix ix_tup (pv 1) pe_int (fun _ _ => rfl)) (pa_cons (pv 2) pa_nil)))) pa_nil)) (by rfl))
      (pss_cons (ps_for PassesOwn.never rfl (pi_enum (by rfl) m_enumerate (pa_cons (pv 2) pa_nil)) (pg_tup rfl (pgs_cons (pg_name (i := 5) sc_first_above.nd rfl (by first | exact .inl rfl | exact .inr rfl)) (pgs_cons (pg_name (i := 6) sc_first_above.nd rfl (by first | exact .inl rfl | exact .inr rfl)) pgs_nil)))
        (pss_cons (ps_set (i := 7) sc_first_above.nd rfl (by first | exact .inl rfl | exact .inr rfl) (pe_op op_sub (pe_ix ix_tup (pe_ix ix_list (pv 3) (pv 5) (fun _ _ => rfl)) pe_int (fun _ _ => rfl)) (pe_ix ix_tup (pe_ix ix_list (pv 4) (pv 5) (fun _ _ => rfl)) pe_int (fun _ _ => rfl))))
      (pss_cons (ps_if (pt_cmpR op_gt (pv 7) pe_int (nomark _)) (pss_one (ps_ret (pv 6))) pss_nil)
      (pss_one (ps_if (PW.pt (pw_and (pt_cmpR op_gt (pe_ix ix_tup (pe_ix ix_list (pv 3) (pv 5) (fun _ _ => rfl)) pe_int (fun _ _ => rfl)) (pe_ix ix_tup (pe_ix ix_list (pv 4) (pv 5) (fun _ _ => rfl)) pe_int (fun _ _ => rfl)) (nomark _)) (pw_and1 (PW.pt (pw_or (pt_cmpR op_eq (pe_op op_add (pv 5) pe_int) (pe_callB call_len_seq (by rfl) m_len PySem.boot_len (pa_cons (pv 2) pa_nil)) (nomark _)) (pw_or1 (pt_cmpR op_lt (pe_op op_sub (pe_op op_add (pv 6) pe_int) (pv 7)) (pe_ix ix_list (pv 2) (pe_op op_add (pv 5) pe_int) (fun _ _ => rfl)) (nomark _)))))))) (pss_one (ps_ret (pe_op op_sub (pe_op op_add (pv 6) pe_int) (pv 7)))) pss_nil)))))
      (pss_one (ps_ret pe_non))))), ?_⟩
    walk_at "go"
    refine ⟨false, false, r, r', ps, ps', rs, rs', rfl, hR, hR', g, g', l1, l2, fun M H1 ms s1 eM mk => ?_⟩
    have hm := mk.len
    have ha1 := Z.Same.sqT s1 ha
    have hb1 := Z.Same.sqT s1 hb
    have hR1 := hR.mono s1
    have hR1' := hR'.mono s1
    walk_at "go"
    refine ⟨false, s, r, M, ps, rs, ms, rfl, hR1.1, hR1, eM, g, mk.one, by omega, fun p1 H2 s2 t1 => ?_⟩
    have hb2 := Z.Same.sqT s2 hb1
    have hR2' := hR1'.mono s2
    walk_at "go"
    refine ⟨false, s', r', M, ps', rs', ms, rfl, hR2'.1, hR2', s2 _ _ eM, g', mk.two, by omega, fun p2 H3 s3 t2 => ?_⟩
    have t1 := t1.mono s3
    have eM3 := s3 _ _ (s2 _ _ eM)
    have s03 := s1.trans (s2.trans s3)
    walk_at "go"
    refine ⟨M, _, rfl, SqL.of eM3, ?_⟩
    obtain ⟨ts1, f1, f2, f3⟩ := t1
    obtain ⟨ts2, k1, k2, k3⟩ := t2
    refine for_gen (n := ms.length) (fun i σ H4 => Same H3 H4 ∧ (match ms[i]? with
      | some m => Below (dif s rs s' rs') m
      | none => FA (dif s rs s' rs') none) ∧ ∃ v5 v6 v7 : Option V, σ = [some (.ref a), some (.ref b), some (.ref M), some (.ref p1), some (.ref p2), v5, v6, v7]) ⟨Same.refl _, ?_, none, none, none, rfl⟩ ?_ ?_ ?_ ?_
    · rw [mk.zero]
      intro k k0 k1
      omega
    · rintro i σ H4 hi ⟨s4, _⟩
      exact ⟨_, .int ms[i], SqL.of (s4 _ _ eM3), by rw [List.getElem?_map, List.getElem?_eq_getElem hi]; rfl⟩
    · rintro σ H4 ⟨s4, _⟩
      exact ⟨_, SqL.of (s4 _ _ eM3), by rw [List.length_map]; exact Nat.le_refl _⟩
    · rintro i σ H4 x H5 hi ⟨s4, hbl, v5, v6, v7, rfl⟩ ⟨T, x, rfl, nT, rfl, fx⟩
      obtain ⟨m, em, rfl⟩ := of_map (fx _ (SqL.of (s4 _ _ eM3)))
      rw [em] at hbl
      have hbl : Below (dif s rs s' rs') m := hbl
      have s5 := same_new (o := .tup [.int (i : Nat), .int m]) nT
      have s35 := s4.trans s5
      refine ⟨T, _, rfl, .inl (.inl upd_same), rfl, _, _, rfl, _, _, rfl, rfl, ?_⟩
      have hi1 : i < ts1.length := by omega
      have hi2 : i < ts2.length := by omega
      have o1 := s35 _ _ (f3 i _ m (List.getElem?_eq_getElem hi1) em)
      have o2 := s35 _ _ (k3 i _ m (List.getElem?_eq_getElem hi2) em)
      have q1 := SqL.of (K := K) (s35 _ _ f1)
      have q2 := SqL.of (K := K) (s35 _ _ k1)
      have ea1 : atI (ts1.map V.ref) (i : Int) = some (.ref ts1[i]) := at_map (List.getElem?_eq_getElem hi1)
      have ea2 : atI (ts2.map V.ref) (i : Int) = some (.ref ts2[i]) := at_map (List.getElem?_eq_getElem hi2)
      have qM := SqL.of (K := K) (s35 _ _ eM3)
      generalize ts1[i] = u1 at o1 ea1
      generalize ts2[i] = u2 at o2 ea2
      have w1 : SqT K (upd H4 T (.tup [.int (i : Nat), .int m])) u1 _ := .inl (.inl o1)
      have w2 : SqT K (upd H4 T (.tup [.int (i : Nat), .int m])) u2 _ := .inl (.inl o2)
      have hm0 := mk.one.pos em
      generalize upd H4 T (.tup [.int (i : Nat), .int m]) = H6 at s5 s35 o1 o2 q1 q2 qM w1 w2 ⊢
      walk_at "go"
      refine ⟨p1, _, _, _, rfl, rfl, q1, ea1, ?_⟩
      walk_at "go"
      refine ⟨p2, _, _, _, rfl, rfl, q2, ea2, ?_⟩
      walk_at "go"
      have ed : s + Fs rs m - (s' + Fs rs' m) = dif s rs s' rs' m := rfl
      refine ite2 (fun e => ?_) (fun e => ?_)
      · have hp : 0 < dif s rs s' rs' m := of_decide_eq_true e
        walk_at "go"
        exact q _ (some m) (s03.trans s35) ⟨hm0, hp, hbl⟩
      · have hp : dif s rs s' rs' m ≤ 0 := Int.not_lt.mp fun z => e (decide_eq_true z)
        walk_at "go"
        refine ⟨p1, _, _, _, rfl, rfl, q1, ea1, ?_⟩
        walk_at "go"
        refine ⟨p2, _, _, _, rfl, rfl, q2, ea2, ?_⟩
        walk_at "go"
        have eu : (uI rs m > uI rs' m) ↔ (up rs m && !up rs' m) = true := by
          unfold uI
          cases up rs m <;> cases up rs' m <;> simp
        have calmL : ∀ {q : Rs} {N : Int}, (∀ x, Edge q x → x ≤ m) → Calm q m N := fun hq x hx z => by
          have := hq x hx
          omega
        refine ite2 (fun e2 => ?_) (fun e2 => ?_)
        · have hu : (up rs m && !up rs' m) = true := eu.mp (of_decide_eq_true e2)
          walk_at "go"
          refine ⟨M, _, rfl, .inl qM, ?_⟩
          rw [List.length_map]
          walk_at "go"
          by_cases hlast : i + 1 = ms.length
          · refine ite2 (fun _ => ?_) (fun e3 => absurd (decide_eq_true (by rw [← hlast]; rfl)) e3)
            walk_at "go"
            exact q _ (some (m + 1 - dif s rs s' rs' m)) (s03.trans s35) (found_next g g' (calmL (mk.one.last em hlast.symm)) (calmL (mk.two.last em hlast.symm)) hm0 hbl hp hu (Int.le_refl _))
          · have hi3 : i + 1 < ms.length := by omega
            have eN : ms[i + 1]? = some ms[i + 1] := List.getElem?_eq_getElem hi3
            have ea3 : atI (ms.map V.int) ((i : Int) + 1) = some (.int ms[i + 1]) := at_of (j := i + 1) (by omega) (by rw [List.getElem?_map, eN]; rfl)
            refine ite2 (fun e3 => ?_) (fun _ => ?_)
            · have := V.int.inj (of_decide_eq_true e3)
              omega
            walk_at "go"
            refine ⟨M, _, _, _, rfl, rfl, qM, ea3, ?_⟩
            generalize ms[i + 1] = N at eN ea3
            walk_at "go"
            refine ite2 (fun e3 => ?_) (fun e3 => ?_)
            · have hN : m + 1 - dif s rs s' rs' m < N := of_decide_eq_true e3
              walk_at "go"
              exact q _ (some (m + 1 - dif s rs s' rs' m)) (s03.trans s35) (found_next g g' (mk.one.calm em eN) (mk.two.calm em eN) hm0 hbl hp hu (Int.le_of_lt hN))
            · have hN : N ≤ m + 1 - dif s rs s' rs' m := Int.not_lt.mp fun z => e3 (decide_eq_true z)
              refine ⟨s35, ?_, _, _, _, rfl⟩
              rw [eN]
              exact below_next g g' (mk.one.calm em eN) (mk.two.calm em eN) hbl hp (.inr hN)
        · have hu : (up rs m && !up rs' m) = false := by
            cases c : (up rs m && !up rs' m) with
            | false => rfl
            | true => exact absurd (decide_eq_true (eu.mpr c)) e2
          refine ⟨s35, ?_, _, _, _, rfl⟩
          by_cases hlast : i + 1 = ms.length
          · rw [List.getElem?_eq_none (by omega)]
            exact below_all g g' (mk.one.last em hlast.symm) (mk.two.last em hlast.symm) hbl hp hu
          · have eN : ms[i + 1]? = some ms[i + 1] := List.getElem?_eq_getElem (by omega)
            rw [eN]
            exact below_next g g' (mk.one.calm em eN) (mk.two.calm em eN) hbl hp (.inl hu)
    · rintro σ H4 ⟨s4, hbl, v5, v6, v7, rfl⟩
      rw [List.getElem?_eq_none (Nat.le_refl _)] at hbl
      walk_at "go"
      exact q _ none (s03.trans s4) hbl
end
end Zn
set_option pp.maxSteps 700
set_option Elab.async false
set_option linter.all false
set_option maxRecDepth 100000
set_option maxHeartbeats 4000000
namespace Zn
open Z
open Nd
open PySem PySem.Spec PyProof.Rows L2
open C8 (pss_cut tCut)
local macro_rules | `(tactic| walk_at "num") => `(tactic| first | rfl | omega | decide | exact Nat.le_of_lt (small1000 (by simp)) | exact ⟨by omega, by omega⟩ | exact ⟨by omega, by omega, by omega⟩ | exact ⟨by decide, by decide, by decide⟩ | exact Or.inl ⟨by omega, by omega⟩ | exact Or.inr ⟨by omega, by omega⟩)
local macro_rules | `(tactic| walk_at "go") => `(tactic| repeat (first | refine ⟨_, rfl, ?_⟩ | refine ⟨_, _, rfl, rfl, ?_⟩ | refine ⟨_, _, rfl, ?_⟩ | (refine ⟨_, _, rfl, rfl, ?_, ?_⟩; focus walk_at "num") | refine Or.inl ⟨_, rfl, ?_⟩ | refine ⟨_, _, _, _, rfl, rfl, (by assumption), (by rfl), ?_⟩ | refine ⟨_, _, _, _, _, rfl, (by assumption), (by assumption), (by assumption), (by rfl), ?_⟩ | refine ⟨rfl, ?_⟩ | (refine And.intro ?_ ?_; focus walk_at "num")))
abbrev s_Need_excess : Stmt := inClass (topS 24) 4
abbrev N_Need_excess : List Str := ["self", "other", "point"]
abbrev P_Need_excess : List Str := ["self", "other"]
theorem sc_Need_excess : FnScope N_Need_excess P_Need_excess (defScope s_Need_excess) := ⟨rfl, rfl, rfl, by decide +kernel, rfl, by decide +kernel, by decide +kernel⟩
section
variable {P : Program} {w : World} {K : PySem.W.Frag} {mg : Str → Option Value} {base : Heap} {f C : Addr} {fd : FuncData}
/-! ### excess -/
def Exc : Option Int → Rs → Option Int → Option Int → Rs → Option Int → Option (Option Int) → Prop
  | none, _, _, none, _, _, o => o = none
  | none, _, _, some _, _, _, o => o = some (some 0)
  | some _, _, _, none, _, _, o => o = none
  | some s, rs, nv, some s', rs', nv', o => ∃ p, FA (dif s rs s' rs') p ∧ o = match p with
    | some x => some (some x)
    | none => if am nv nv' = true then none else some none
theorem Exc.uniq {st st' nv nv' : Option Int} {rs rs' : Rs} {a b : Option (Option Int)} (ha : Exc st rs nv st' rs' nv' a) (hb : Exc st rs nv st' rs' nv' b) : a = b := by
  cases st with
  | none =>
    cases st' with
    | none => exact (show a = none from ha).trans (show b = none from hb).symm
    | some _ => exact (show a = some (some 0) from ha).trans (show b = some (some 0) from hb).symm
  | some s =>
    cases st' with
    | none => exact (show a = none from ha).trans (show b = none from hb).symm
    | some s' =>
      obtain ⟨p, h1, rfl⟩ := ha
      obtain ⟨p', h2, rfl⟩ := hb
      rw [h1.uniq h2]
def exV : Option (Option Int) → List V
  | none => []
  | some o => [oV o]
def spExcess (C : Addr) (K : PySem.W.Frag) : Sp := fun vs H Q _ => ∃ (st st' nv nv' : Option Int) (n m : Addr) (rs rs' : Rs), vs = [.ref n, .ref m] ∧ NeedAt C K H n st rs nv ∧ NeedAt C K H m st' rs' nv' ∧ Ok st rs nv ∧ Ok st' rs' nv' ∧ rs.length ≤ 20000 ∧ rs'.length ≤ 20000 ∧ ∀ t H' o, Same H H' → H' t = some (.tup (exV o)) → Exc st rs nv st' rs' nv' o → Q (.ref t) H'
theorem ok_excess (F : FnM K "excess" "Need.excess" s_Need_excess f fd) (cls : Cls K C) (n_start : NoAttr K C "start") (n_rises : NoAttr K C "rises") (n_never : NoAttr K C "never") (c_first_above : Cal P w K mg base 2 "first_above" (spFA K)) : FnOk P w K mg base CX0 3 f fd P_Need_excess (spExcess C K) := by
  refine F.ok sc_Need_excess (fun vs H Q E h => ?_) (fun cdv A outer s H vs Q E hr h => ?_)
  · obtain ⟨st, st', nv, nv', n, m, rs, rs', rfl, _⟩ := h
    rfl
  · obtain ⟨st, st', nv, nv', n, m, rs, rs', rfl, hN, hN', ok, ok', l1, l2, q⟩ := h
    obtain ⟨dx, r, ps, hn, hR, _⟩ := id hN
    obtain ⟨dx', r', ps', hn', hR', _⟩ := id hN'
    refine ⟨_, PSs.nox (pss_cons (ps_if (pt_cmpR op_isN (pe_fld (pv 0) rfl) pe_non (nomark _)) (pss_one (ps_ret (pe_ifExp (pt_cmpR op_isN (pe_fld (pv 1) rfl) pe_non (nomark _)) (pe_tup pa_nil) (pe_tup (pa_cons pe_int pa_nil))))) pss_nil)
      (pss_cons (ps_if (pt_cmpR op_isN (pe_fld (pv 1) rfl) pe_non (nomark _)) (pss_one (ps_ret (pe_tup pa_nil))) pss_nil)
      (pss_cons (ps_set (i := 2) sc_Need_excess.nd rfl (by first | exact .inl rfl | exact .inr rfl) (pe_cl c_first_above hr (by decide) (by rfl) (pa_cons (pe_tup (pa_cons (pe_fld (pv 0) rfl) (pa_cons (pe_fld (pv 0) rfl) pa_nil))) (pa_cons (pe_tup (pa_cons (pe_fld (pv 1) rfl) (pa_cons (pe_fld (pv 1) rfl) pa_nil))) pa_nil))))
      (pss_cons (ps_if (pt_cmpR op_notN (pv 2) pe_non (nomark _)) (pss_one (ps_ret (pe_tup (pa_cons (pv 2) pa_nil)))) pss_nil)
      (pss_cons (ps_if (PW.pt (pw_and (pt_cmpR op_notN (pe_fld (pv 1) rfl) pe_non (nomark _)) (pw_and1 (PW.pt (pw_or (pt_cmpR op_isN (pe_fld (pv 0) rfl) pe_non (nomark _)) (pw_or1 (pt_cmpR op_gt (pe_fld (pv 0) rfl) (pe_fld (pv 1) rfl) (nomark _)))))))) (pss_one (ps_ret (pe_tup (pa_cons pe_non pa_nil)))) pss_nil)
      (pss_one (ps_ret (pe_tup pa_nil)))))))), ?_⟩
    cases st with
    | none =>
      cases st' with
      | none =>
        walk_at "go"
        intro t nt
        exact q t _ none (same_new nt) upd_same rfl
      | some s' =>
        walk_at "go"
        intro t nt
        exact q t _ (some (some 0)) (same_new nt) upd_same rfl
    | some s =>
      cases st' with
      | none =>
        walk_at "go"
        intro t nt
        exact q t _ none (same_new nt) upd_same rfl
      | some s' =>
        walk_at "go"
        intro t1 n1
        have s1 := same_new (o := .tup [.int s, .ref r]) n1
        have hn1 := s1 _ _ hn
        have hn1' := s1 _ _ hn'
        walk_at "go"
        intro t2 n2
        have s2 := same_new (o := .tup [.int s', .ref r']) n2
        have s12 := s1.trans s2
        walk_at "go"
        refine ⟨t1, t2, s, s', rs, rs', rfl, ⟨r, ps, .inl (.inl (s2 _ _ upd_same)), hR.mono s12⟩, ⟨r', ps', .inl (.inl upd_same), hR'.mono s12⟩, ok.1, ok'.1, l1, l2, fun H3 o s3 fa => ?_⟩
        have s03 := s12.trans s3
        have hn3 := s03 _ _ hn
        have hn3' := s03 _ _ hn'
        cases o with
        | some x =>
          walk_at "go"
          intro t nt
          exact q t _ (some (some x)) (s03.trans (same_new nt)) upd_same ⟨_, fa, rfl⟩
        | none =>
          walk_at "go"
          cases nv' with
          | none =>
            walk_at "go"
            intro t nt
            exact q t _ none (s03.trans (same_new nt)) upd_same ⟨_, fa, by cases nv <;> rfl⟩
          | some b =>
            cases nv with
            | none =>
              walk_at "go"
              intro t nt
              exact q t _ (some none) (s03.trans (same_new nt)) upd_same ⟨_, fa, rfl⟩
            | some a =>
              walk_at "go"
              refine ite2 (fun e => ?_) (fun e => ?_)
              · have hab : a > b := of_decide_eq_true e
                walk_at "go"
                intro t nt
                refine q t _ (some none) (s03.trans (same_new nt)) upd_same ⟨_, fa, ?_⟩
                show _ = if decide (a ≤ b) = true then none else some none
                rw [if_neg (by simp; omega)]
              · have hab : ¬ a > b := fun z => e (decide_eq_true z)
                walk_at "go"
                intro t nt
                refine q t _ none (s03.trans (same_new nt)) upd_same ⟨_, fa, ?_⟩
                show _ = if decide (a ≤ b) = true then none else some none
                rw [if_pos (by simp; omega)]
end
end Zn
set_option Elab.async false
set_option linter.all false
namespace Nd
/-! ### the last end -/
def lastE : Int → Rs → Option Int
  | e, [] => some e
  | _, (_, none) :: _ => none
  | _, (_, some h) :: r => lastE h r
theorem Good.app : ∀ {gs r : Rs} {e x : Int}, Good e gs → lastE e gs = some x → Good x r → Good e (gs ++ r)
  | [], r, e, x, _, h, g => by
    cases h
    exact g
  | (_, none) :: _, _, _, _, _, h, _ => by cases h
  | (l, some y) :: gs, r, e, x, h1, h2, g => ⟨h1.1, h1.2.1, Good.app (gs := gs) h1.2.2 h2 g⟩
theorem Good.unapp : ∀ {gs r : Rs} {e : Int} {p : Int × Option Int}, Good e (gs ++ p :: r) → Good e gs ∧ ∃ x, lastE e gs = some x ∧ Good x (p :: r)
  | [], r, e, p, h => ⟨trivial, e, rfl, h⟩
  | (l, none) :: gs, r, e, p, h => by
    have h2 : gs ++ p :: r = [] := h.2
    simp at h2
  | (l, some y) :: gs, r, e, p, h => by
    obtain ⟨a, x, b, c⟩ := Good.unapp (gs := gs) h.2.2
    exact ⟨⟨h.1, h.2.1, a⟩, x, b, c⟩
theorem lastE_app : ∀ {gs r : Rs} {e x : Int}, lastE e gs = some x → lastE e (gs ++ r) = lastE x r
  | [], r, e, x, h => by
    cases h
    rfl
  | (_, none) :: _, _, _, _, h => by cases h
  | (l, some y) :: gs, r, e, x, h => lastE_app (gs := gs) h
/-! ### parts, some of them empty -/
def emp (p : Int × Option Int) : Bool := match p.2 with
  | none => false
  | some h => decide (h ≤ p.1)
def clean (ps : Rs) : Rs := ps.filter fun p => !emp p
theorem clean_cons (p : Int × Option Int) (ps : Rs) : clean (p :: ps) = if emp p = true then clean ps else p :: clean ps := by
  unfold clean
  rw [List.filter_cons]
  cases emp p <;> rfl
theorem clean_app (a b : Rs) : clean (a ++ b) = clean a ++ clean b := List.filter_append ..
theorem clean_clean (a : Rs) : clean (clean a) = clean a := by
  unfold clean
  rw [List.filter_filter]
  congr 1
  funext p
  cases emp p <;> rfl
def Pa : Int → Rs → Prop
  | _, [] => True
  | e, (l, none) :: r => e ≤ l ∧ r = []
  | e, (l, some h) :: r => (h ≤ l ∧ Pa e r) ∨ (l < h ∧ e ≤ l ∧ Pa h r)
theorem Pa.weak : ∀ {r : Rs} {e e' : Int}, e' ≤ e → Pa e r → Pa e' r
  | [], _, _, _, _ => trivial
  | (l, none) :: r, e, e', h, p => ⟨by have := p.1; omega, p.2⟩
  | (l, some x) :: r, e, e', h, p => by
    rcases p with ⟨a, b⟩ | ⟨a, b, c⟩
    · exact .inl ⟨a, Pa.weak h b⟩
    · exact .inr ⟨a, by omega, c⟩
/-- joined, one part further -/
def jS (fs : Rs) (p : Int × Option Int) : Rs := if emp p = true then fs else match fs.getLast? with
  | some (a, some b) => if b = p.1 then fs.dropLast ++ [(a, p.2)] else fs ++ [p]
  | _ => fs ++ [p]
theorem jS_len (fs : Rs) (p : Int × Option Int) : (jS fs p).length ≤ fs.length + 1 := by
  unfold jS
  split
  · omega
  · split
    · split
      · simp
      · simp
    · simp
theorem join_len : ∀ (parts fs : Rs), (parts.foldl jS fs).length ≤ fs.length + parts.length
  | [], fs => Nat.le_refl _
  | p :: r, fs => by
    have h1 := jS_len fs p
    have h2 := join_len r (jS fs p)
    rw [List.foldl_cons, List.length_cons]
    omega
theorem rise_join {k a l : Int} {h : Option Int} (hal : a < l) (hh : ∀ y, h = some y → l < y) : rise k (a, some l) + rise k (l, h) = rise k (a, h) := by
  unfold rise
  dsimp only
  cases h with
  | none => dsimp only; (repeat' split) <;> omega
  | some y =>
    have := hh y rfl
    dsimp only
    (repeat' split) <;> omega
theorem jS_spec {fs : Rs} {l x : Int} {h : Option Int} (g : Good (-1) fs) (hx : lastE (-1) fs = some x) (hl : x ≤ l) (h0 : 0 ≤ l) (hh : ∀ y, h = some y → l < y) :
    Good (-1) (jS fs (l, h)) ∧ (∀ y, h = some y → lastE (-1) (jS fs (l, h)) = some y) ∧ ∀ k, Fs (jS fs (l, h)) k = Fs fs k + rise k (l, h) := by
  have he : emp (l, h) = false := by
    unfold emp
    cases h with
    | none => rfl
    | some y =>
      have := hh y rfl
      show decide (y ≤ l) = false
      exact decide_eq_false (by omega)
  have snoc : x < l → Good (-1) (fs ++ [(l, h)]) ∧ (∀ y, h = some y → lastE (-1) (fs ++ [(l, h)]) = some y) ∧ ∀ k, Fs (fs ++ [(l, h)]) k = Fs fs k + rise k (l, h) := by
    intro hlt
    refine ⟨Good.app g hx ?_, fun y hy => ?_, fun k => ?_⟩
    · cases h with
      | none => exact ⟨hlt, rfl⟩
      | some y => exact ⟨hlt, hh y rfl, trivial⟩
    · subst hy
      rw [lastE_app hx]
      rfl
    · rw [Fs_append, Fs_cons, Fs_nil]
      omega
  rcases List.eq_nil_or_concat fs with rfl | ⟨gs, ⟨a, b⟩, efs⟩
  · have : x = -1 := (Option.some.inj hx).symm
    have e : jS [] (l, h) = [] ++ [(l, h)] := by
      unfold jS
      rw [he]
      rfl
    rw [e]
    exact snoc (by omega)
  · have efs : fs = gs ++ [(a, b)] := by rw [efs]; simp
    subst efs
    obtain ⟨g1, y, hy, g2⟩ := g.unapp
    rw [lastE_app hy] at hx
    cases b with
    | none => cases hx
    | some b =>
      have hx : b = x := Option.some.inj hx
      subst hx
      by_cases c : b = l
      · subst c
        have e : jS (gs ++ [(a, some b)]) (b, h) = gs ++ [(a, h)] := by
          unfold jS
          rw [he]
          simp
        rw [e]
        have hab : a < b := g2.2.1
        refine ⟨Good.app g1 hy ?_, fun z hz => ?_, fun k => ?_⟩
        · cases h with
          | none => exact ⟨g2.1, rfl⟩
          | some z => exact ⟨g2.1, by have := hh z rfl; omega, trivial⟩
        · subst hz
          rw [lastE_app hy]
          rfl
        · have := rise_join (k := k) hab hh
          rw [Fs_append, Fs_append, Fs_cons, Fs_cons, Fs_nil]
          omega
      · have e : jS (gs ++ [(a, some b)]) (l, h) = (gs ++ [(a, some b)]) ++ [(l, h)] := by
          unfold jS
          rw [he]
          simp [c]
        rw [e]
        exact snoc (by omega)
theorem join_spec : ∀ {parts fs : Rs} {e x : Int}, Good (-1) fs → lastE (-1) fs = some x → x ≤ e → 0 ≤ e → Pa e parts → Good (-1) (parts.foldl jS fs) ∧ ∀ k, Fs (parts.foldl jS fs) k = Fs fs k + Fs (clean parts) k
  | [], fs, e, x, g, _, _, _, _ => ⟨g, fun k => by
      show Fs fs k = Fs fs k + 0
      omega⟩
  | (l, none) :: r, fs, e, x, g, hx, hxe, h0, p => by
    have p2 := p.2
    subst p2
    have p1 := p.1
    obtain ⟨a, _, c⟩ := jS_spec (h := none) (l := l) g hx (by omega) (by omega) nofun
    refine ⟨a, fun k => ?_⟩
    show Fs (jS fs (l, none)) k = _
    rw [c k]
    show _ = Fs fs k + Fs [(l, none)] k
    rw [Fs_cons, Fs_nil]
    omega
  | (l, some h) :: r, fs, e, x, g, hx, hxe, h0, p => by
    rw [List.foldl_cons, clean_cons]
    rcases p with ⟨a, b⟩ | ⟨a, b, c⟩
    · have he : emp (l, some h) = true := decide_eq_true a
      rw [if_pos he, show jS fs (l, some h) = fs by unfold jS; rw [he]; rfl]
      exact join_spec g hx hxe h0 b
    · have he : emp (l, some h) = false := decide_eq_false (by omega)
      rw [if_neg (by rw [he]; simp)]
      obtain ⟨u, v, w⟩ := jS_spec (h := some h) (l := l) g hx (by omega) (by omega) (fun y hy => by cases hy; exact a)
      obtain ⟨i1, i2⟩ := join_spec (parts := r) (e := h) u (v h rfl) (Int.le_refl _) (by omega) c
      refine ⟨i1, fun k => ?_⟩
      rw [i2 k, w k, Fs_cons]
      omega
def join (parts : Rs) : Rs := parts.foldl jS []
theorem join_ok {parts : Rs} (h : Pa 0 parts) : Good (-1) (join parts) ∧ (∀ k, Fs (join parts) k = Fs (clean parts) k) ∧ (join parts).length ≤ parts.length := by
  obtain ⟨a, b⟩ := join_spec (fs := []) (x := -1) trivial rfl (by omega) (by omega) h
  refine ⟨a, fun k => ?_, ?_⟩
  · show Fs (parts.foldl jS []) k = _
    rw [b k, Fs_nil]
    omega
  · have := join_len parts []
    simpa [join] using this
/-! ### one behind the other -/
def cq (v low : Int) (high : Option Int) (p : Int × Option Int) : Int × Option Int := (low + max 0 (p.1 - v), match p.2 with
  | none => high
  | some e => match high with
    | none => some (low + max 0 (e - v))
    | some hi => if low + max 0 (e - v) > hi then some hi else some (low + max 0 (e - v)))
def riseC (k : Int) (p : Int × Option Int) : Int := if emp p = true then 0 else rise k p
theorem Fs_clean (ps : Rs) (k : Int) : Fs (clean ps) k = (ps.map (riseC k)).sum := by
  induction ps with
  | nil => rfl
  | cons p r ih =>
    rw [clean_cons, List.map_cons, List.sum_cons]
    unfold riseC
    by_cases h : emp p = true
    · rw [if_pos h, if_pos h, ih]
      unfold riseC
      omega
    · rw [if_neg h, if_neg h, Fs_cons, ih]
      unfold riseC
      rfl
theorem cq_rise {k v low b : Int} {high e : Option Int} (h1 : ∀ y, high = some y → low < y) (h2 : ∀ y, e = some y → b < y) : riseC k (cq v low high (b, e)) = rise (v + rise k (low, high)) (b, e) - rise v (b, e) := by
  have rN : ∀ l : Int, riseC k (l, none) = rise k (l, none) := fun l => rfl
  have rS : ∀ l h : Int, riseC k (l, some h) = if h ≤ l then 0 else rise k (l, some h) := fun l h => by
    unfold riseC emp
    simp only [decide_eq_true_eq]
  cases high with
  | none =>
    cases e with
    | none =>
      show riseC k (low + max 0 (b - v), none) = _
      rw [rN]
      unfold rise
      dsimp only
      (repeat' split) <;> omega
    | some y =>
      have := h2 y rfl
      show riseC k (low + max 0 (b - v), some (low + max 0 (y - v))) = _
      rw [rS]
      unfold rise
      dsimp only
      (repeat' split) <;> omega
  | some x =>
    have := h1 x rfl
    cases e with
    | none =>
      show riseC k (low + max 0 (b - v), some x) = _
      rw [rS]
      unfold rise
      dsimp only
      (repeat' split) <;> omega
    | some y =>
      have := h2 y rfl
      by_cases c : low + max 0 (y - v) > x
      · rw [show cq v low (some x) (b, some y) = (low + max 0 (b - v), some x) by unfold cq; dsimp only; rw [if_pos c], rS]
        unfold rise
        dsimp only
        (repeat' split) <;> omega
      · rw [show cq v low (some x) (b, some y) = (low + max 0 (b - v), some (low + max 0 (y - v))) by unfold cq; dsimp only; rw [if_neg c], rS]
        unfold rise
        dsimp only
        (repeat' split) <;> omega
def cpI (outer : Rs) (v low : Int) (high : Option Int) : Rs := clean (outer.map (cq v low high))
theorem cpI_sum {k v low : Int} {high : Option Int} (h1 : ∀ y, high = some y → low < y) : ∀ {outer : Rs} {e : Int}, Good e outer → Fs (cpI outer v low high) k = Fs outer (v + rise k (low, high)) - Fs outer v
  | [], _, _ => rfl
  | (b, none) :: r, e, g => by
    have g2 := g.2
    subst g2
    unfold cpI
    rw [Fs_clean]
    show riseC k (cq v low high (b, none)) + 0 = _
    rw [cq_rise h1 (fun y hy => by cases hy), Fs_cons, Fs_cons, Fs_nil, Fs_nil]
    omega
  | (b, some y) :: r, e, g => by
    have ih := cpI_sum (k := k) (v := v) h1 g.2.2
    unfold cpI at ih ⊢
    rw [Fs_clean] at ih ⊢
    rw [List.map_cons, List.map_cons, List.sum_cons, ih, cq_rise h1 (fun z hz => by cases hz; exact g.2.1), Fs_cons, Fs_cons]
    omega
theorem cpI_pa {v low : Int} : ∀ {outer : Rs} {e h x : Int} {rest : Rs}, Good e outer → x ≤ h → x ≤ low + max 0 (e - v) → Pa h rest → Pa x (cpI outer v low (some h) ++ rest)
  | [], e, h, x, rest, _, h1, _, p => p.weak h1
  | (b, none) :: r, e, h, x, rest, g, h1, h2, p => by
    have g2 := g.2
    subst g2
    have g1 := g.1
    unfold cpI
    rw [List.map_cons, clean_cons]
    show Pa x ((if emp (low + max 0 (b - v), some h) = true then [] else [(low + max 0 (b - v), some h)]) ++ rest)
    by_cases c : h ≤ low + max 0 (b - v)
    · rw [if_pos (show emp (_, some h) = true from decide_eq_true c)]
      exact p.weak h1
    · rw [if_neg (show ¬ emp (_, some h) = true from fun z => c (of_decide_eq_true z))]
      exact .inr ⟨by omega, by omega, p⟩
  | (b, some y) :: r, e, h, x, rest, g, h1, h2, p => by
    have g1 := g.1
    have g3 := g.2.1
    unfold cpI
    rw [List.map_cons, clean_cons]
    have key : ∀ R : Int, R ≤ h → R ≤ low + max 0 (y - v) → cq v low (some h) (b, some y) = (low + max 0 (b - v), some R) → Pa x ((if emp (cq v low (some h) (b, some y)) = true then clean (r.map (cq v low (some h))) else cq v low (some h) (b, some y) :: clean (r.map (cq v low (some h)))) ++ rest) := by
      intro R r1 r2 ec
      rw [ec]
      by_cases c : R ≤ low + max 0 (b - v)
      · rw [if_pos (show emp (_, some R) = true from decide_eq_true c)]
        exact cpI_pa (x := x) g.2.2 h1 (by omega) p
      · rw [if_neg (show ¬ emp (_, some R) = true from fun z => c (of_decide_eq_true z))]
        exact .inr ⟨by omega, by omega, cpI_pa (x := R) g.2.2 r1 r2 p⟩
    by_cases c : low + max 0 (y - v) > h
    · exact key h (Int.le_refl _) (by omega) (by unfold cq; dsimp only; rw [if_pos c])
    · exact key _ (by omega) (Int.le_refl _) (by unfold cq; dsimp only; rw [if_neg c])
theorem cpI_paN {v low : Int} : ∀ {outer : Rs} {e x : Int}, Good e outer → x ≤ low + max 0 (e - v) → Pa x (cpI outer v low none)
  | [], e, x, _, _ => trivial
  | (b, none) :: r, e, x, g, h2 => by
    have g2 := g.2
    subst g2
    have g1 := g.1
    show x ≤ low + max 0 (b - v) ∧ _
    exact ⟨by omega, rfl⟩
  | (b, some y) :: r, e, x, g, h2 => by
    have g1 := g.1
    have g3 := g.2.1
    unfold cpI
    rw [List.map_cons, clean_cons]
    show Pa x (if emp (low + max 0 (b - v), some (low + max 0 (y - v))) = true then clean (r.map (cq v low none)) else (low + max 0 (b - v), some (low + max 0 (y - v))) :: clean (r.map (cq v low none)))
    by_cases c : low + max 0 (y - v) ≤ low + max 0 (b - v)
    · rw [if_pos (show emp (_, some _) = true from decide_eq_true c)]
      exact cpI_paN (x := x) g.2.2 (by omega)
    · rw [if_neg (show ¬ emp (_, some _) = true from fun z => c (of_decide_eq_true z))]
      exact .inr ⟨by omega, by omega, cpI_paN g.2.2 (Int.le_refl _)⟩
def cpO (outer : Rs) : Int → Rs → Rs
  | _, [] => []
  | v, (low, none) :: r => cpI outer v low none ++ cpO outer v r
  | v, (low, some h) :: r => cpI outer v low (some h) ++ cpO outer (v + h - low) r
theorem cpO_clean (outer : Rs) : ∀ (v : Int) (inner : Rs), clean (cpO outer v inner) = cpO outer v inner
  | _, [] => rfl
  | v, (low, none) :: r => by
    show clean (cpI outer v low none ++ cpO outer v r) = cpI outer v low none ++ cpO outer v r
    rw [clean_app, cpO_clean outer v r]
    unfold cpI
    rw [clean_clean]
  | v, (low, some h) :: r => by
    show clean (cpI outer v low (some h) ++ cpO outer (v + h - low) r) = cpI outer v low (some h) ++ cpO outer (v + h - low) r
    rw [clean_app, cpO_clean outer _ r]
    unfold cpI
    rw [clean_clean]
theorem cpO_pa {outer : Rs} {E : Int} (g : Good E outer) : ∀ {inner : Rs} {e v x : Int}, Good e inner → E ≤ v → x ≤ e → Pa x (cpO outer v inner)
  | [], _, _, _, _, _, _ => trivial
  | (low, none) :: r, e, v, x, gi, h1, h2 => by
    have g2 := gi.2
    subst g2
    have g1 := gi.1
    show Pa x (cpI outer v low none ++ [])
    rw [List.append_nil]
    exact cpI_paN g (by omega)
  | (low, some h) :: r, e, v, x, gi, h1, h2 => by
    have g1 := gi.1
    have g2 := gi.2.1
    exact cpI_pa g (by omega) (by omega) (cpO_pa g gi.2.2 (by omega) (Int.le_refl _))
theorem cpO_sum {outer : Rs} {E k : Int} (g : Good E outer) : ∀ {inner : Rs} {e v : Int}, Good e inner → Fs (cpO outer v inner) k = Fs outer (v + Fs inner k) - Fs outer v
  | [], _, v, _ => by
    show Fs [] k = Fs outer (v + Fs [] k) - Fs outer v
    rw [Fs_nil, Int.add_zero]
    omega
  | (low, none) :: r, e, v, gi => by
    have g2 := gi.2
    subst g2
    show Fs (cpI outer v low none ++ []) k = _
    rw [List.append_nil, cpI_sum (fun y hy => by cases hy) g, Fs_cons, Fs_nil, Int.add_zero]
  | (low, some h) :: r, e, v, gi => by
    have g2 := gi.2.1
    have ih := cpO_sum (k := k) g (inner := r) (v := v + h - low) gi.2.2
    show Fs (cpI outer v low (some h) ++ cpO outer (v + h - low) r) k = _
    rw [Fs_append, ih, cpI_sum (fun y hy => by cases hy; exact g2) g, Fs_cons]
    by_cases c : k ≤ h
    · rw [Fs_zero gi.2.2 c, Int.add_zero, Int.add_zero]
      omega
    · have e1 : rise k (low, some h) = h - low := by rw [rise_some (by omega), if_neg (by omega)]
      rw [e1, show v + (h - low + Fs r k) = v + h - low + Fs r k by omega, show v + (h - low) = v + h - low by omega]
      omega
theorem cpI_len (outer : Rs) (v low : Int) (high : Option Int) : (cpI outer v low high).length ≤ outer.length := by
  unfold cpI clean
  have := List.length_filter_le (fun p => !emp p) (outer.map (cq v low high))
  simpa using this
theorem cpO_len (outer : Rs) : ∀ (v : Int) (inner : Rs), (cpO outer v inner).length ≤ outer.length * inner.length
  | _, [] => Nat.zero_le _
  | v, (low, none) :: r => by
    show (cpI outer v low none ++ cpO outer v r).length ≤ outer.length * (r.length + 1)
    have h1 := cpI_len outer v low none
    have h2 := cpO_len outer v r
    rw [List.length_append, Nat.mul_add, Nat.mul_one]
    omega
  | v, (low, some h) :: r => by
    show (cpI outer v low (some h) ++ cpO outer (v + h - low) r).length ≤ outer.length * (r.length + 1)
    have h1 := cpI_len outer v low (some h)
    have h2 := cpO_len outer (v + h - low) r
    rw [List.length_append, Nat.mul_add, Nat.mul_one]
    omega
/-- the rises of the one behind the other -/
theorem comp_ok {outer inner : Rs} {s : Int} (g : Good (-1) outer) (gi : Good (-1) inner) (hs : 0 ≤ s) : Good (-1) (join (cpO outer s inner)) ∧ (∀ k, Fs (join (cpO outer s inner)) k = Fs outer (s + Fs inner k) - Fs outer s) ∧ (join (cpO outer s inner)).length ≤ outer.length * inner.length := by
  have pa : Pa (-1) (cpO outer s inner) := cpO_pa g gi (by omega) (Int.le_refl _)
  have pa0 : Pa 0 (cpO outer s inner) := by
    cases inner with
    | nil => trivial
    | cons p r =>
      obtain ⟨low, h⟩ := p
      cases h with
      | none =>
        have g2 := gi.2
        subst g2
        have g1 := gi.1
        show Pa 0 (cpI outer s low none ++ [])
        rw [List.append_nil]
        exact cpI_paN g (by omega)
      | some h =>
        have g1 := gi.1
        have g2 := gi.2.1
        exact cpI_pa g (by omega) (by omega) (cpO_pa g gi.2.2 (by omega) (Int.le_refl _))
  obtain ⟨a, b, c⟩ := join_ok pa0
  refine ⟨a, fun k => ?_, Nat.le_trans c (cpO_len outer s inner)⟩
  rw [b k, cpO_clean, cpO_sum g gi]
end Nd
set_option Elab.async false
set_option linter.all false
namespace Nd
/-! ### the smaller or the greater of two -/
def mm (sm : Bool) (x y : Int) : Int := if sm = true then min x y else max x y
def gp (a u b : Int) : Int := if u = 1 then max 0 (b - a) else max 0 (a - b)
def rpt (a u b w : Int) (wd : Option Int) (sm : Bool) : Int × Option Int :=
  if u = w then (if u = 1 then (0, wd) else (0, some 0))
  else if sm = true then (0, some (match wd with
    | none => gp a u b
    | some x => if gp a u b < x then gp a u b else x))
  else (gp a u b, wd)
def prt (m : Int) (r : Int × Option Int) : Int × Option Int := (m + r.1, r.2.map fun x => m + x)
theorem rC_none (k l : Int) : riseC k (l, none) = rise k (l, none) := rfl
theorem rC_some (k l h : Int) : riseC k (l, some h) = if h ≤ l then 0 else rise k (l, some h) := by
  unfold riseC emp
  simp only [decide_eq_true_eq]
theorem mul01 {u t : Int} (h : u = 0 ∨ u = 1) : u * t = if u = 1 then t else 0 := by
  rcases h with rfl | rfl
  · simp
  · simp
theorem strch {a u b w m k : Int} {sm : Bool} {wd : Option Int} (hu : u = 0 ∨ u = 1) (hw : w = 0 ∨ w = 1) (hx : ∀ x, wd = some x → 0 < x) {t : Int} (ht : t = rise k (m, wd.map fun x => m + x)) :
    riseC k (prt m (rpt a u b w wd sm)) = mm sm (a + u * t) (b + w * t) - mm sm a b := by
  rw [mul01 hu, mul01 hw]
  unfold mm
  cases wd with
  | none =>
    rw [show (Option.map (fun x => m + x) (none : Option Int)) = none from rfl] at ht
    unfold rise at ht
    dsimp only at ht
    rcases hu with rfl | rfl <;> rcases hw with rfl | rfl
    · show riseC k (m + 0, some (m + 0)) = _
      rw [rC_some, if_pos (Int.le_refl _)]
      simp
    · cases sm with
      | true =>
        show riseC k (m + 0, some (m + max 0 (a - b))) = _
        rw [rC_some]
        unfold rise
        dsimp only
        simp only [if_true, show ¬ (0 : Int) = 1 by decide, if_false]
        (repeat' split at ht) <;> (repeat' split) <;> omega
      | false =>
        show riseC k (m + max 0 (a - b), none) = _
        rw [rC_none]
        unfold rise
        dsimp only
        simp only [if_true, show ¬ (0 : Int) = 1 by decide, if_false, Bool.false_eq_true]
        (repeat' split at ht) <;> (repeat' split) <;> omega
    · cases sm with
      | true =>
        show riseC k (m + 0, some (m + max 0 (b - a))) = _
        rw [rC_some]
        unfold rise
        dsimp only
        simp only [if_true, show ¬ (0 : Int) = 1 by decide, if_false]
        (repeat' split at ht) <;> (repeat' split) <;> omega
      | false =>
        show riseC k (m + max 0 (b - a), none) = _
        rw [rC_none]
        unfold rise
        dsimp only
        simp only [if_true, show ¬ (0 : Int) = 1 by decide, if_false, Bool.false_eq_true]
        (repeat' split at ht) <;> (repeat' split) <;> omega
    · show riseC k (m + 0, none) = _
      rw [rC_none]
      unfold rise
      dsimp only
      cases sm <;> simp only [if_true, if_false, Bool.false_eq_true] <;> (repeat' split at ht) <;> (repeat' split) <;> omega
  | some x =>
    have h0 := hx x rfl
    rw [show (Option.map (fun x => m + x) (some x)) = some (m + x) from rfl] at ht
    unfold rise at ht
    dsimp only at ht
    rcases hu with rfl | rfl <;> rcases hw with rfl | rfl
    · show riseC k (m + 0, some (m + 0)) = _
      rw [rC_some, if_pos (Int.le_refl _)]
      simp
    · cases sm with
      | true =>
        show riseC k (m + 0, some (m + (if max 0 (a - b) < x then max 0 (a - b) else x))) = _
        rw [rC_some]
        unfold rise
        dsimp only
        simp only [if_true, show ¬ (0 : Int) = 1 by decide, if_false]
        (repeat' split at ht) <;> (repeat' split) <;> omega
      | false =>
        show riseC k (m + max 0 (a - b), some (m + x)) = _
        rw [rC_some]
        unfold rise
        dsimp only
        simp only [if_true, show ¬ (0 : Int) = 1 by decide, if_false, Bool.false_eq_true]
        (repeat' split at ht) <;> (repeat' split) <;> omega
    · cases sm with
      | true =>
        show riseC k (m + 0, some (m + (if max 0 (b - a) < x then max 0 (b - a) else x))) = _
        rw [rC_some]
        unfold rise
        dsimp only
        simp only [if_true, show ¬ (0 : Int) = 1 by decide, if_false]
        (repeat' split at ht) <;> (repeat' split) <;> omega
      | false =>
        show riseC k (m + max 0 (b - a), some (m + x)) = _
        rw [rC_some]
        unfold rise
        dsimp only
        simp only [if_true, show ¬ (0 : Int) = 1 by decide, if_false, Bool.false_eq_true]
        (repeat' split at ht) <;> (repeat' split) <;> omega
    · show riseC k (m + 0, some (m + x)) = _
      rw [rC_some]
      unfold rise
      dsimp only
      cases sm <;> simp only [if_true, if_false, Bool.false_eq_true] <;> (repeat' split at ht) <;> (repeat' split) <;> omega
/-- where the part lies -/
theorem part_in {a u b w m : Int} {sm : Bool} {wd : Option Int} (hu : u = 0 ∨ u = 1) (hw : w = 0 ∨ w = 1) (hx : ∀ x, wd = some x → 0 < x) : m ≤ (prt m (rpt a u b w wd sm)).1 ∧ ∀ x, wd = some x → ∃ h, (prt m (rpt a u b w wd sm)).2 = some h ∧ h ≤ m + x := by
  have hg : 0 ≤ gp a u b := by
    unfold gp
    split <;> omega
  unfold prt rpt
  split
  · split
    · refine ⟨by show m ≤ m + 0; omega, fun x e => ?_⟩
      subst e
      exact ⟨m + x, rfl, Int.le_refl _⟩
    · refine ⟨by show m ≤ m + 0; omega, fun x e => ?_⟩
      have := hx x e
      exact ⟨m + 0, rfl, by omega⟩
  · split
    · refine ⟨by show m ≤ m + 0; omega, fun x e => ?_⟩
      subst e
      refine ⟨_, rfl, ?_⟩
      dsimp only
      split <;> omega
    · refine ⟨by show m ≤ m + gp a u b; omega, fun x e => ?_⟩
      subst e
      exact ⟨m + x, rfl, Int.le_refl _⟩
def cbP (F : Int → Option Int → Int × Option Int) : List Int → Rs
  | [] => []
  | [m] => [F m none]
  | m :: m' :: r => F m (some (m' - m)) :: cbP F (m' :: r)
def Cm (rs rs' : Rs) : List Int → Prop
  | [] => True
  | [m] => (∀ x, Edge rs x → x ≤ m) ∧ (∀ x, Edge rs' x → x ≤ m)
  | m :: m' :: r => m < m' ∧ Calm rs m m' ∧ Calm rs' m m' ∧ Cm rs rs' (m' :: r)
theorem cm_of {rs rs' : Rs} : ∀ {ms : List Int}, (∀ (i : Nat) (m : Int), ms[i]? = some m → ms.length = i + 1 → (∀ x, Edge rs x → x ≤ m) ∧ (∀ x, Edge rs' x → x ≤ m)) → (∀ (i : Nat) (m M : Int), ms[i]? = some m → ms[i + 1]? = some M → m < M ∧ Calm rs m M ∧ Calm rs' m M) → Cm rs rs' ms
  | [], _, _ => trivial
  | [m], h, _ => h 0 m rfl rfl
  | m :: m' :: r, h1, h2 => by
    obtain ⟨a, b, c⟩ := h2 0 m m' rfl rfl
    refine ⟨a, b, c, cm_of (fun i x hi hl => h1 (i + 1) x hi ?_) (fun i x y hx hy => h2 (i + 1) x y hx hy)⟩
    rw [List.length_cons, hl]
def uu (rs : Rs) (m : Int) : Int := if up rs m = true then 1 else 0
theorem uu01 (rs : Rs) (m : Int) : uu rs m = 0 ∨ uu rs m = 1 := by
  unfold uu
  split
  · exact .inr rfl
  · exact .inl rfl
theorem aff2 {rs : Rs} {e m k : Int} (g : Good e rs) (h : m ≤ k) (c : Calm rs m k) : Fs rs k = Fs rs m + uu rs m * (k - m) := by
  unfold uu
  rcases aff g h c with ⟨a, b⟩ | ⟨a, b⟩
  · rw [if_pos a, b]
    omega
  · rw [if_neg (by rw [a]; simp), b]
    omega
def cbF (s : Int) (rs : Rs) (s' : Int) (rs' : Rs) (sm : Bool) (m : Int) (wd : Option Int) : Int × Option Int := prt m (rpt (s + Fs rs m) (uu rs m) (s' + Fs rs' m) (uu rs' m) wd sm)
theorem Calm.less {rs : Rs} {m k M : Int} (h : Calm rs m M) (hk : k ≤ M) : Calm rs m k := fun x hx z => h x hx ⟨z.1, by omega⟩
theorem calm_last {rs : Rs} {m k : Int} (h : ∀ x, Edge rs x → x ≤ m) : Calm rs m k := fun x hx z => by
  have := h x hx
  omega
theorem cb_sum {s s' : Int} {rs rs' : Rs} {sm : Bool} {e e' : Int} (g : Good e rs) (g' : Good e' rs') : ∀ {r : List Int} {m : Int}, Cm rs rs' (m :: r) → ∀ k, (k ≤ m → Fs (clean (cbP (cbF s rs s' rs' sm) (m :: r))) k = 0) ∧ (m ≤ k → Fs (clean (cbP (cbF s rs s' rs' sm) (m :: r))) k = mm sm (s + Fs rs k) (s' + Fs rs' k) - mm sm (s + Fs rs m) (s' + Fs rs' m))
  | [], m, c, k => by
    have st := strch (a := s + Fs rs m) (b := s' + Fs rs' m) (m := m) (k := k) (sm := sm) (wd := none) (uu01 rs m) (uu01 rs' m) (fun x hx => by cases hx) rfl
    have e : Fs (clean (cbP (cbF s rs s' rs' sm) [m])) k = riseC k (cbF s rs s' rs' sm m none) := by
      rw [Fs_clean]
      show riseC k (cbF s rs s' rs' sm m none) + 0 = _
      omega
    rw [e]
    unfold cbF
    rw [st, show (Option.map (fun x => m + x) (none : Option Int)) = none from rfl]
    constructor
    · intro h
      rw [rise_zero h, Int.mul_zero, Int.mul_zero, Int.add_zero, Int.add_zero]
      omega
    · intro h
      have e2 : rise k (m, none) = k - m := by
        by_cases z : k ≤ m
        · rw [rise_zero z]; omega
        · rw [rise_none (by omega)]
      rw [e2, aff2 g h (calm_last c.1), aff2 g' h (calm_last c.2)]
      rw [Int.add_assoc, Int.add_assoc]
  | m' :: r, m, c, k => by
    obtain ⟨c1, c2, c3, c4⟩ := c
    have ih := cb_sum (s := s) (s' := s') (sm := sm) g g' c4 k
    have st := strch (a := s + Fs rs m) (b := s' + Fs rs' m) (m := m) (k := k) (sm := sm) (wd := some (m' - m)) (uu01 rs m) (uu01 rs' m) (fun x hx => by cases hx; omega) rfl
    have e : Fs (clean (cbP (cbF s rs s' rs' sm) (m :: m' :: r))) k = riseC k (cbF s rs s' rs' sm m (some (m' - m))) + Fs (clean (cbP (cbF s rs s' rs' sm) (m' :: r))) k := by
      rw [Fs_clean, Fs_clean]
      rfl
    rw [e, show riseC k (cbF s rs s' rs' sm m (some (m' - m))) = _ from st, show (Option.map (fun x => m + x) (some (m' - m))) = some m' by show some (m + (m' - m)) = _; congr 1; omega]
    constructor
    · intro h
      rw [ih.1 (by omega), rise_zero h, Int.mul_zero, Int.mul_zero, Int.add_zero, Int.add_zero, Int.add_zero]
      omega
    · intro h
      by_cases z : k ≤ m'
      · have e2 : rise k (m, some m') = k - m := by
          by_cases z2 : k ≤ m
          · rw [rise_zero z2]; omega
          · rw [rise_some (by omega)]
            split <;> omega
        rw [ih.1 z, e2, aff2 g h (c2.less z), aff2 g' h (c3.less z), Int.add_zero, Int.add_assoc, Int.add_assoc]
      · have e2 : rise k (m, some m') = m' - m := by rw [rise_some (by omega), if_neg (by omega)]
        rw [ih.2 (by omega), e2, aff2 (k := m') g (by omega) c2, aff2 (k := m') g' (by omega) c3, Int.add_assoc, Int.add_assoc]
        omega
theorem cb_pa {s s' : Int} {rs rs' : Rs} {sm : Bool} : ∀ {r : List Int} {m : Int}, Cm rs rs' (m :: r) → Pa m (cbP (cbF s rs s' rs' sm) (m :: r))
  | [], m, c => by
    have h := part_in (a := s + Fs rs m) (b := s' + Fs rs' m) (m := m) (sm := sm) (wd := none) (uu01 rs m) (uu01 rs' m) (fun x hx => by cases hx)
    show Pa m [cbF s rs s' rs' sm m none]
    have e : cbF s rs s' rs' sm m none = ((cbF s rs s' rs' sm m none).1, (cbF s rs s' rs' sm m none).2) := rfl
    rw [e]
    have h1 : m ≤ (cbF s rs s' rs' sm m none).1 := h.1
    cases c2 : (cbF s rs s' rs' sm m none).2 with
    | none => exact ⟨h1, rfl⟩
    | some y =>
      by_cases z : y ≤ (cbF s rs s' rs' sm m none).1
      · exact .inl ⟨z, trivial⟩
      · exact .inr ⟨by omega, h1, trivial⟩
  | m' :: r, m, c => by
    obtain ⟨c1, c2, c3, c4⟩ := c
    have ih := cb_pa (s := s) (s' := s') (sm := sm) c4
    have h := part_in (a := s + Fs rs m) (b := s' + Fs rs' m) (m := m) (sm := sm) (wd := some (m' - m)) (uu01 rs m) (uu01 rs' m) (fun x hx => by cases hx; omega)
    obtain ⟨h1, h2⟩ := h
    obtain ⟨y, h3, h4⟩ := h2 _ rfl
    show Pa m (cbF s rs s' rs' sm m (some (m' - m)) :: cbP (cbF s rs s' rs' sm) (m' :: r))
    have e : cbF s rs s' rs' sm m (some (m' - m)) = ((cbF s rs s' rs' sm m (some (m' - m))).1, some y) := by
      show ((cbF s rs s' rs' sm m (some (m' - m))).1, (cbF s rs s' rs' sm m (some (m' - m))).2) = _
      rw [show (cbF s rs s' rs' sm m (some (m' - m))).2 = some y from h3]
    have h1 : m ≤ (cbF s rs s' rs' sm m (some (m' - m))).1 := h1
    generalize (cbF s rs s' rs' sm m (some (m' - m))).1 = l at e h1
    rw [e]
    by_cases z : y ≤ l
    · exact .inl ⟨z, ih.weak (by omega)⟩
    · exact .inr ⟨by omega, h1, ih.weak (by omega)⟩
theorem cbP_len (F : Int → Option Int → Int × Option Int) : ∀ ms : List Int, (cbP F ms).length = ms.length
  | [] => rfl
  | [m] => rfl
  | m :: m' :: r => by
    show (cbP F (m' :: r)).length + 1 = _
    rw [cbP_len F (m' :: r)]
    rfl
theorem comb_ok {s s' : Int} {rs rs' : Rs} {sm : Bool} {r : List Int} (g : Good (-1) rs) (g' : Good (-1) rs') (c : Cm rs rs' (0 :: r)) : Good (-1) (join (cbP (cbF s rs s' rs' sm) (0 :: r))) ∧ (∀ k, 0 ≤ k → mm sm s s' + Fs (join (cbP (cbF s rs s' rs' sm) (0 :: r))) k = mm sm (s + Fs rs k) (s' + Fs rs' k)) ∧ (join (cbP (cbF s rs s' rs' sm) (0 :: r))).length ≤ r.length + 1 := by
  obtain ⟨a, b, d⟩ := join_ok (cb_pa (s := s) (s' := s') (sm := sm) c)
  refine ⟨a, fun k hk => ?_, ?_⟩
  · rw [b k, (cb_sum g g' c k).2 hk, Fs0 g, Fs0 g', Int.add_zero, Int.add_zero]
    omega
  · rw [cbP_len] at d
    exact d
/-! ### the greatest value -/
theorem top_le : ∀ {rs : Rs} {e t v : Int}, Good e rs → (∀ k, e ≤ k → t + Fs rs k ≤ v) → ∃ x, top t rs = some x ∧ x ≤ v
  | [], e, t, v, _, h => ⟨t, rfl, by
      have := h e (Int.le_refl _)
      rw [Fs_nil] at this
      omega⟩
  | (l, none) :: r, e, t, v, g, h => by
    have g2 := g.2
    subst g2
    have g1 := g.1
    exfalso
    have := h (l + max 0 (v - t) + 1) (by omega)
    rw [Fs_cons, Fs_nil, rise_none (by omega)] at this
    omega
  | (l, some y) :: r, e, t, v, g, h => by
    have g1 := g.1
    have g2 := g.2.1
    refine top_le (rs := r) (e := y) (t := t + y - l) g.2.2 (fun k hk => ?_)
    have := h k (by omega)
    rw [Fs_cons, rise_some (by omega), if_neg (by omega)] at this
    omega
theorem le_top : ∀ {rs : Rs} {e t v : Int}, Good e rs → top t rs = some v → ∀ k, t + Fs rs k ≤ v
  | [], e, t, v, _, h, k => by
    have : t = v := Option.some.inj h
    rw [Fs_nil]
    omega
  | (l, none) :: r, e, t, v, g, h, k => by cases h
  | (l, some y) :: r, e, t, v, g, h, k => by
    have g2 := g.2.1
    have ih := le_top (t := t + y - l) g.2.2 h k
    rw [Fs_cons]
    have : rise k (l, some y) ≤ y - l := by
      unfold rise
      dsimp only
      (repeat' split) <;> omega
    omega
end Nd
set_option Elab.async false
set_option linter.all false
namespace Nd
/-! ### how many rises the one behind the other has -/
def alv (v : Int) (p : Int × Option Int) : Bool := match p.2 with
  | none => true
  | some e => decide (v < e)
def alive (outer : Rs) (v : Int) : Rs := outer.filter (alv v)
theorem alive_cons (p : Int × Option Int) (r : Rs) (v : Int) : (alive (p :: r) v).length = (if alv v p = true then 1 else 0) + (alive r v).length := by
  unfold alive
  rw [List.filter_cons]
  split
  · rw [List.length_cons]
    omega
  · omega
theorem cpI_cons (p : Int × Option Int) (r : Rs) (v low : Int) (high : Option Int) : (cpI (p :: r) v low high).length = (if emp (cq v low high p) = true then 0 else 1) + (cpI r v low high).length := by
  unfold cpI
  rw [List.map_cons, clean_cons]
  split
  · omega
  · rw [List.length_cons]
    omega
theorem cpI_far {v low h : Int} : ∀ {r : Rs} {e : Int}, Good e r → v + h - low ≤ e → low < h → (cpI r v low (some h)).length = 0 ∧ (alive r (v + h - low)).length = r.length ∧ (alive r v).length = r.length
  | [], _, _, _, _ => ⟨rfl, rfl, rfl⟩
  | (b, none) :: r, e, g, h1, h2 => by
    have g2 := g.2
    subst g2
    have g1 := g.1
    rw [cpI_cons, alive_cons, alive_cons]
    have : emp (cq v low (some h) (b, none)) = true := decide_eq_true (show h ≤ low + max 0 (b - v) by omega)
    rw [if_pos this]
    exact ⟨rfl, rfl, rfl⟩
  | (b, some y) :: r, e, g, h1, h2 => by
    have g1 := g.1
    have g3 := g.2.1
    obtain ⟨i1, i2, i3⟩ := cpI_far (v := v) g.2.2 (show v + h - low ≤ y by omega) h2
    rw [cpI_cons, alive_cons, alive_cons, i1, i2, i3]
    have e1 : cq v low (some h) (b, some y) = (low + max 0 (b - v), some h) := by
      unfold cq
      dsimp only
      rw [if_pos (by omega)]
    have : emp (cq v low (some h) (b, some y)) = true := by
      rw [e1]
      exact decide_eq_true (show h ≤ low + max 0 (b - v) by omega)
    rw [if_pos this]
    have a1 : alv (v + h - low) (b, some y) = true := decide_eq_true (by omega)
    have a2 : alv v (b, some y) = true := decide_eq_true (by omega)
    rw [if_pos a1, if_pos a2, List.length_cons]
    omega
theorem cpI_alive {v low h : Int} (hlt : low < h) : ∀ {outer : Rs} {e : Int}, Good e outer → (cpI outer v low (some h)).length + (alive outer (v + h - low)).length ≤ (alive outer v).length + 1
  | [], _, _ => by
    show 0 + 0 ≤ 0 + 1
    omega
  | (b, none) :: r, e, g => by
    have g2 := g.2
    subst g2
    rw [cpI_cons, alive_cons, alive_cons]
    have a1 : alv (v + h - low) (b, none) = true := rfl
    have a2 : alv v (b, none) = true := rfl
    rw [if_pos a1, if_pos a2]
    show _ + 0 + (1 + 0) ≤ 1 + 0 + 1
    split <;> omega
  | (b, some y) :: r, e, g => by
    have g3 := g.2.1
    rw [cpI_cons, alive_cons, alive_cons]
    by_cases c1 : y ≤ v
    · have ih := cpI_alive (v := v) hlt g.2.2
      have a1 : ¬ alv (v + h - low) (b, some y) = true := fun z => by
        have := of_decide_eq_true z
        omega
      have a2 : ¬ alv v (b, some y) = true := fun z => by
        have := of_decide_eq_true z
        omega
      have e1 : cq v low (some h) (b, some y) = (low + max 0 (b - v), some (low + max 0 (y - v))) := by
        unfold cq
        dsimp only
        rw [if_neg (by omega)]
      have : emp (cq v low (some h) (b, some y)) = true := by
        rw [e1]
        exact decide_eq_true (show low + max 0 (y - v) ≤ low + max 0 (b - v) by omega)
      rw [if_pos this, if_neg a1, if_neg a2]
      omega
    · by_cases c2 : y ≤ v + h - low
      · have ih := cpI_alive (v := v) hlt g.2.2
        have a1 : ¬ alv (v + h - low) (b, some y) = true := fun z => by
          have := of_decide_eq_true z
          omega
        have a2 : alv v (b, some y) = true := decide_eq_true (by omega)
        rw [if_neg a1, if_pos a2]
        split <;> omega
      · obtain ⟨i1, i2, i3⟩ := cpI_far (v := v) g.2.2 (show v + h - low ≤ y by omega) hlt
        rw [i1, i2, i3]
        have a1 : alv (v + h - low) (b, some y) = true := decide_eq_true (by omega)
        have a2 : alv v (b, some y) = true := decide_eq_true (by omega)
        rw [if_pos a1, if_pos a2]
        split <;> omega
theorem cpI_aliveN {v low : Int} : ∀ {outer : Rs} {e : Int}, Good e outer → (cpI outer v low none).length ≤ (alive outer v).length
  | [], _, _ => Nat.le_refl _
  | (b, none) :: r, e, g => by
    have g2 := g.2
    subst g2
    rw [cpI_cons, alive_cons]
    have a2 : alv v (b, none) = true := rfl
    rw [if_pos a2]
    show _ + 0 ≤ 1 + 0
    split <;> omega
  | (b, some y) :: r, e, g => by
    have g3 := g.2.1
    have ih := cpI_aliveN (v := v) (low := low) g.2.2
    rw [cpI_cons, alive_cons]
    by_cases c1 : y ≤ v
    · have : emp (cq v low none (b, some y)) = true := decide_eq_true (show low + max 0 (y - v) ≤ low + max 0 (b - v) by omega)
      rw [if_pos this]
      omega
    · have a2 : alv v (b, some y) = true := decide_eq_true (by omega)
      rw [if_pos a2]
      split <;> omega
theorem cpO_alive {outer : Rs} {E : Int} (g : Good E outer) : ∀ {inner : Rs} {e v : Int}, Good e inner → (cpO outer v inner).length ≤ (alive outer v).length + inner.length
  | [], _, _, _ => Nat.zero_le _
  | (low, none) :: r, e, v, gi => by
    have g2 := gi.2
    subst g2
    show (cpI outer v low none ++ []).length ≤ _
    rw [List.append_nil]
    have := cpI_aliveN (v := v) (low := low) g
    simp only [List.length_cons, List.length_nil]
    omega
  | (low, some h) :: r, e, v, gi => by
    have h1 := cpI_alive (v := v) gi.2.1 g
    have ih := cpO_alive g (v := v + h - low) gi.2.2
    show (cpI outer v low (some h) ++ cpO outer (v + h - low) r).length ≤ _
    rw [List.length_append, List.length_cons]
    omega
theorem cpO_len2 {outer inner : Rs} {v : Int} (g : Good (-1) outer) (gi : Good (-1) inner) : (cpO outer v inner).length ≤ outer.length + inner.length := by
  have h1 := cpO_alive g (v := v) gi
  have h2 : (alive outer v).length ≤ outer.length := List.length_filter_le _ _
  omega
/-! ### one function, one list of rises -/
theorem Fs_head {l k : Int} {h : Option Int} {r : Rs} {e : Int} (g : Good e ((l, h) :: r)) (hk : l ≤ k) (hh : ∀ y, h = some y → k ≤ y) : Fs ((l, h) :: r) k = k - l := by
  cases h with
  | none =>
    have g2 := g.2
    subst g2
    rw [Fs_cons, Fs_nil]
    unfold rise
    dsimp only
    split <;> omega
  | some y =>
    have h1 := hh y rfl
    have g2 := g.2.1
    rw [Fs_cons, Fs_zero g.2.2 h1]
    unfold rise
    dsimp only
    (repeat' split) <;> omega
theorem Fs_past {l y k : Int} {r : Rs} {e : Int} (g : Good e ((l, some y) :: r)) (hk : y ≤ k) : Fs ((l, some y) :: r) k = y - l + Fs r k := by
  have g2 := g.2.1
  rw [Fs_cons, rise_some (by omega), if_neg (by omega)]
theorem good_low {l : Int} {h : Option Int} {r : Rs} {e : Int} (g : Good e ((l, h) :: r)) : e < l ∧ ∀ y, h = some y → l < y := by
  cases h with
  | none => exact ⟨g.1, nofun⟩
  | some y => exact ⟨g.1, fun z hz => by cases hz; exact g.2.1⟩
theorem Fs_one {l y : Int} {r : Rs} {e : Int} (g : Good e ((l, some y) :: r)) : Fs r (y + 1) = 0 := by
  cases r with
  | nil => rfl
  | cons p r =>
    obtain ⟨a, b⟩ := p
    have := (good_low g.2.2).1
    exact Fs_stop g.2.2 (i := 0) rfl (by omega)
theorem canon : ∀ {rs rs' : Rs} {e : Int}, Good e rs → Good e rs' → (∀ k, e ≤ k → Fs rs k = Fs rs' k) → rs = rs'
  | [], [], _, _, _, _ => rfl
  | [], (l, h) :: r, e, _, g, hk => by
    obtain ⟨g1, g2⟩ := good_low g
    have h1 := hk (l + 1) (by omega)
    rw [Fs_head g (by omega) (fun y hy => by have := g2 y hy; omega), Fs_nil] at h1
    omega
  | (l, h) :: r, [], e, g, _, hk => by
    obtain ⟨g1, g2⟩ := good_low g
    have h1 := hk (l + 1) (by omega)
    rw [Fs_head g (by omega) (fun y hy => by have := g2 y hy; omega), Fs_nil] at h1
    omega
  | (l, h) :: r, (l', h') :: r', e, g, g', hk => by
    obtain ⟨g1, g2⟩ := good_low g
    obtain ⟨g1', g2'⟩ := good_low g'
    have el : l = l' := by
      have a1 := hk (l + 1) (by omega)
      have a2 := hk (l' + 1) (by omega)
      rw [Fs_head g (by omega) (fun y hy => by have := g2 y hy; omega)] at a1
      rw [Fs_head g' (by omega) (fun y hy => by have := g2' y hy; omega)] at a2
      have b1 : l + 1 ≤ l' → Fs ((l', h') :: r') (l + 1) = 0 := fun z => Fs_stop g' (i := 0) rfl z
      have b2 : l' + 1 ≤ l → Fs ((l, h) :: r) (l' + 1) = 0 := fun z => Fs_stop g (i := 0) rfl z
      by_cases c1 : l < l'
      · have := b1 (by omega)
        omega
      · by_cases c2 : l' < l
        · have := b2 (by omega)
          omega
        · omega
    subst el
    cases h with
    | none =>
      have e1 : r = [] := g.2
      subst e1
      cases h' with
      | none =>
        have e2 : r' = [] := g'.2
        subst e2
        rfl
      | some y =>
        have hy := g'.2.1
        have a1 := hk (y + 1) (by omega)
        rw [Fs_head g (by omega) nofun, Fs_past g' (by omega), Fs_one g'] at a1
        omega
    | some y =>
      have hy := g.2.1
      cases h' with
      | none =>
        have a1 := hk (y + 1) (by omega)
        rw [Fs_past g (by omega), Fs_one g, Fs_head g' (by omega) nofun] at a1
        omega
      | some y' =>
        have hy' := g'.2.1
        have ey : y = y' := by
          by_cases c1 : y < y'
          · have a1 := hk (y + 1) (by omega)
            rw [Fs_past g (by omega), Fs_one g, Fs_head g' (by omega) (fun z hz => by cases hz; omega)] at a1
            omega
          · by_cases c2 : y' < y
            · have a1 := hk (y' + 1) (by omega)
              rw [Fs_past g' (by omega), Fs_one g', Fs_head g (by omega) (fun z hz => by cases hz; omega)] at a1
              omega
            · omega
        subst ey
        have ih := canon (rs := r) (rs' := r') g.2.2 g'.2.2 (fun k h1 => by
          have a1 := hk k (by omega)
          rw [Fs_past g h1, Fs_past g' h1] at a1
          omega)
        rw [ih]
end Nd
set_option Elab.async false
set_option linter.all false
namespace Nd
/-! ### how many rises the greater and the smaller of two functions have -/
def lowB (rs : Rs) (k : Int) : Bool := rs.any fun p => decide (p.1 = k)
theorem low_gt : ∀ {rs : Rs} {e k : Int}, Good e rs → lowB rs k = true → e < k
  | (l, none) :: r, e, k, g, h => by
    obtain ⟨g1, rfl⟩ := g
    have : l = k := by simpa [lowB] using h
    omega
  | (l, some x) :: r, e, k, g, h => by
    have g1 := g.1
    have g2 := g.2.1
    unfold lowB at h
    rw [List.any_cons, Bool.or_eq_true] at h
    rcases h with h | h
    · have : l = k := of_decide_eq_true h
      omega
    · have := low_gt g.2.2 h
      omega
theorem up_at (l : Int) (h : Option Int) (m : Int) : upP m (l, h) = true ↔ l ≤ m ∧ ∀ y, h = some y → m < y := by
  unfold upP
  cases h with
  | none => simp
  | some y => simp
theorem start_low : ∀ {rs : Rs} {e k : Int}, Good e rs → ((up rs k = true ∧ up rs (k - 1) = false) ↔ lowB rs k = true)
  | [], e, k, _ => by simp [up, lowB]
  | (l, none) :: r, e, k, g => by
    obtain ⟨g1, rfl⟩ := g
    simp [up, lowB, upP]
    omega
  | (l, some x) :: r, e, k, g => by
    have g1 := g.1
    have g2 := g.2.1
    have ih := start_low (k := k) g.2.2
    have lr := low_gt (k := k) g.2.2
    have ul := up_low (m := k) g.2.2
    have ul2 := up_low (m := k - 1) g.2.2
    rw [up_cons, up_cons]
    have e1 : lowB ((l, some x) :: r) k = (decide (l = k) || lowB r k) := by
      unfold lowB
      rw [List.any_cons]
    rw [e1]
    have e2 : upP k (l, some x) = (decide (l ≤ k) && decide (k < x)) := rfl
    have e3 : upP (k - 1) (l, some x) = (decide (l ≤ k - 1) && decide (k - 1 < x)) := rfl
    rw [e2, e3]
    simp only [Bool.or_eq_true, Bool.and_eq_true, decide_eq_true_eq, Bool.or_eq_false_iff, Bool.and_eq_false_iff, decide_eq_false_iff_not]
    constructor
    · rintro ⟨h1, h2, h3⟩
      rcases h1 with ⟨a, b⟩ | h1
      · left
        omega
      · exact .inr (ih.mp ⟨h1, h3⟩)
    · rintro (h | h)
      · exact ⟨.inl ⟨by omega, by omega⟩, .inl (by omega), ul2 (by omega)⟩
      · have h4 := ih.mpr h
        have := lr h
        exact ⟨.inr h4.1, .inr (by omega), h4.2⟩
def cnt (rs : Rs) (k : Int) : Nat := (rs.filter fun p => decide (p.1 < k)).length
theorem cnt_cons (p : Int × Option Int) (rs : Rs) (k : Int) : cnt (p :: rs) k = (if p.1 < k then 1 else 0) + cnt rs k := by
  unfold cnt
  rw [List.filter_cons]
  by_cases h : p.1 < k
  · rw [if_pos h, if_pos (decide_eq_true h), List.length_cons]
    omega
  · rw [if_neg h, if_neg (by simpa using h)]
    omega
theorem cnt_low : ∀ {rs : Rs} {e k : Int}, Good e rs → k ≤ e → cnt rs (k + 1) = 0
  | [], _, _, _, _ => rfl
  | (l, none) :: r, e, k, g, h => by
    obtain ⟨g1, rfl⟩ := g
    rw [cnt_cons, if_neg (show ¬ l < k + 1 by omega)]
    rfl
  | (l, some x) :: r, e, k, g, h => by
    have g1 := g.1
    have g2 := g.2.1
    rw [cnt_cons, if_neg (show ¬ l < k + 1 by omega), cnt_low g.2.2 (by omega)]
theorem cnt_next : ∀ {rs : Rs} {e k : Int}, Good e rs → cnt rs (k + 1) = cnt rs k + (if lowB rs k = true then 1 else 0)
  | [], _, _, _ => rfl
  | (l, none) :: r, e, k, g => by
    obtain ⟨g1, rfl⟩ := g
    rw [cnt_cons, cnt_cons]
    simp only [lowB, List.any_cons, List.any_nil, Bool.or_false, decide_eq_true_eq]
    show _ + 0 = _ + 0 + _
    (repeat' split) <;> omega
  | (l, some x) :: r, e, k, g => by
    have g1 := g.1
    have g2 := g.2.1
    have ih := cnt_next (k := k) g.2.2
    have lr := low_gt (k := k) g.2.2
    rw [cnt_cons, cnt_cons, ih]
    have e1 : lowB ((l, some x) :: r) k = (decide (l = k) || lowB r k) := by
      unfold lowB
      rw [List.any_cons]
    rw [e1]
    cases c : lowB r k with
    | true =>
      have := lr c
      simp only [Bool.or_true, if_true]
      show _ + _ = _ + _ + 1
      (repeat' split) <;> omega
    | false =>
      simp only [Bool.or_false, decide_eq_true_eq]
      show _ + (_ + 0) = _
      (repeat' split) <;> omega
theorem cnt_step {rs : Rs} (g : Good (-1) rs) (k : Int) : cnt rs (k + 1) = cnt rs k + (if uu rs k = 1 ∧ uu rs (k - 1) = 0 then 1 else 0) := by
  rw [cnt_next g]
  congr 1
  have h := start_low (k := k) g
  unfold uu
  by_cases c : lowB rs k = true
  · obtain ⟨h1, h2⟩ := h.mpr c
    rw [if_pos c, h1, h2]
    rfl
  · rw [if_neg c]
    have : ¬ (up rs k = true ∧ up rs (k - 1) = false) := fun z => c (h.mp z)
    cases e1 : up rs k <;> cases e2 : up rs (k - 1) <;> simp_all
theorem Fs_next {rs : Rs} (g : Good (-1) rs) (k : Int) : Fs rs (k + 1) = Fs rs k + uu rs k := by
  have := aff2 (m := k) (k := k + 1) g (by omega) (fun x _ z => by omega)
  rw [this]
  have : k + 1 - k = 1 := by omega
  rw [this, Int.mul_one]
theorem uu_neg {rs : Rs} (g : Good (-1) rs) : uu rs (-1) = 0 := by
  unfold uu
  rw [up_low g (Int.le_refl _)]
  rfl
theorem cnt_all : ∀ rs : Rs, ∃ N : Nat, ∀ M : Nat, N ≤ M → cnt rs (M : Int) = rs.length
  | [] => ⟨0, fun _ _ => rfl⟩
  | p :: rs => by
    obtain ⟨N, h⟩ := cnt_all rs
    refine ⟨max N (p.1.toNat + 1), fun M hM => ?_⟩
    rw [cnt_cons, h M (by omega), if_pos (by omega), List.length_cons]
    omega
theorem cnt_le (rs : Rs) (k : Int) : cnt rs k ≤ rs.length := List.length_filter_le _ _
theorem comb_len {sm : Bool} {s s' : Int} {rs rs' J : Rs} (g : Good (-1) rs) (g' : Good (-1) rs') (gJ : Good (-1) J) (h : ∀ k, 0 ≤ k → mm sm s s' + Fs J k = mm sm (s + Fs rs k) (s' + Fs rs' k)) : J.length ≤ rs.length + rs'.length := by
  obtain ⟨N, hN⟩ := cnt_all J
  have key : ∀ n : Nat, (cnt J (n : Int) : Int) + (if sm = true then 0 else uu rs ((n : Int) - 1) + uu rs' ((n : Int) - 1) - uu J ((n : Int) - 1)) ≤ cnt rs (n : Int) + cnt rs' (n : Int) := by
    intro n
    induction n with
    | zero =>
      have h1 : cnt J 0 = 0 := cnt_low (k := -1) gJ (Int.le_refl _)
      show (cnt J 0 : Int) + (if sm = true then 0 else uu rs (-1) + uu rs' (-1) - uu J (-1)) ≤ _
      rw [h1, uu_neg g, uu_neg g', uu_neg gJ]
      split <;> omega
    | succ n ih =>
      have c1 := cnt_step g (n : Int)
      have c2 := cnt_step g' (n : Int)
      have c3 := cnt_step gJ (n : Int)
      have f1 := Fs_next g (n : Int)
      have f2 := Fs_next g' (n : Int)
      have f3 := Fs_next gJ (n : Int)
      have p1 := Fs_next g ((n : Int) - 1)
      have p2 := Fs_next g' ((n : Int) - 1)
      have p3 := Fs_next gJ ((n : Int) - 1)
      have en : (n : Int) - 1 + 1 = n := by omega
      rw [en] at p1 p2 p3
      have h0 := h (n : Int) (by omega)
      have h1 := h ((n : Int) + 1) (by omega)
      have hm : 1 ≤ n → mm sm s s' + Fs J ((n : Int) - 1) = mm sm (s + Fs rs ((n : Int) - 1)) (s' + Fs rs' ((n : Int) - 1)) := fun _ => h _ (by omega)
      have z1 : n = 0 → uu rs ((n : Int) - 1) = 0 := fun e => by rw [e]; exact uu_neg g
      have z2 : n = 0 → uu rs' ((n : Int) - 1) = 0 := fun e => by rw [e]; exact uu_neg g'
      have z3 : n = 0 → uu J ((n : Int) - 1) = 0 := fun e => by rw [e]; exact uu_neg gJ
      show (cnt J ((n + 1 : Nat) : Int) : Int) + _ ≤ _
      rw [show ((n + 1 : Nat) : Int) = (n : Int) + 1 by omega, show (n : Int) + 1 - 1 = (n : Int) by omega, c1, c2, c3]
      have q1 := uu01 rs (n : Int)
      have q2 := uu01 rs' (n : Int)
      have q3 := uu01 J (n : Int)
      have q4 := uu01 rs ((n : Int) - 1)
      have q5 := uu01 rs' ((n : Int) - 1)
      have q6 := uu01 J ((n : Int) - 1)
      clear c1 c2 c3 h hN
      generalize uu rs (n : Int) = a' at *
      generalize uu rs' (n : Int) = b' at *
      generalize uu J (n : Int) = c' at *
      generalize uu rs ((n : Int) - 1) = a at *
      generalize uu rs' ((n : Int) - 1) = b at *
      generalize uu J ((n : Int) - 1) = c at *
      rw [f1, f2, f3] at h1
      generalize Fs rs (n : Int) = F at *
      generalize Fs rs' (n : Int) = G at *
      generalize Fs J (n : Int) = U at *
      generalize Fs rs ((n : Int) - 1) = Fm at *
      generalize Fs rs' ((n : Int) - 1) = Gm at *
      generalize Fs J ((n : Int) - 1) = Um at *
      generalize cnt J (n : Int) = x at *
      generalize cnt rs (n : Int) = y at *
      generalize cnt rs' (n : Int) = z at *
      cases sm <;> simp only [mm, if_true, Bool.false_eq_true, if_false] at h0 h1 hm ih ⊢
      · by_cases hn : n = 0
        · have := z1 hn
          have := z2 hn
          have := z3 hn
          rcases q1 with rfl | rfl <;> rcases q2 with rfl | rfl <;> rcases q3 with rfl | rfl <;> simp_all <;> omega
        · have hm := hm (by omega)
          rcases q1 with rfl | rfl <;> rcases q2 with rfl | rfl <;> rcases q3 with rfl | rfl <;> rcases q4 with rfl | rfl <;> rcases q5 with rfl | rfl <;> rcases q6 with rfl | rfl <;> first | omega | (exfalso; omega) | (simp; omega) | (simp at *; omega)
      · by_cases hn : n = 0
        · have := z1 hn
          have := z2 hn
          have := z3 hn
          rcases q1 with rfl | rfl <;> rcases q2 with rfl | rfl <;> rcases q3 with rfl | rfl <;> simp_all <;> omega
        · have hm := hm (by omega)
          rcases q1 with rfl | rfl <;> rcases q2 with rfl | rfl <;> rcases q3 with rfl | rfl <;> rcases q4 with rfl | rfl <;> rcases q5 with rfl | rfl <;> rcases q6 with rfl | rfl <;> first | omega | (exfalso; omega) | (simp; omega) | (simp at *; omega)
  obtain ⟨M, hM⟩ : ∃ M : Nat, M = N + 1 := ⟨_, rfl⟩
  have k1 := key M
  have e1 := hN M (by omega)
  have l1 := cnt_le rs (M : Int)
  have l2 := cnt_le rs' (M : Int)
  rw [e1] at k1
  cases sm with
  | true =>
    rw [if_pos rfl] at k1
    omega
  | false =>
    rw [if_neg (by simp)] at k1
    have h0 := h (N : Int) (by omega)
    have h1 := h ((N : Int) + 1) (by omega)
    have f1 := Fs_next g (N : Int)
    have f2 := Fs_next g' (N : Int)
    have f3 := Fs_next gJ (N : Int)
    rw [f1, f2, f3] at h1
    have q1 := uu01 rs (N : Int)
    have q2 := uu01 rs' (N : Int)
    have q3 := uu01 J (N : Int)
    rw [show (M : Int) - 1 = (N : Int) by omega] at k1
    simp only [mm, Bool.false_eq_true, if_false] at h0 h1
    omega
end Nd
set_option pp.maxSteps 700
set_option Elab.async false
set_option linter.all false
set_option maxRecDepth 100000
set_option maxHeartbeats 4000000
namespace Zn
open Z
open Nd
open PySem PySem.Spec PyProof.Rows L2
open C8 (pss_cut tCut)
local macro_rules | `(tactic| walk_at "num") => `(tactic| first | rfl | omega | decide | exact Nat.le_of_lt (small1000 (by simp)) | exact ⟨by omega, by omega⟩ | exact ⟨by omega, by omega, by omega⟩ | exact ⟨by decide, by decide, by decide⟩ | exact Or.inl ⟨by omega, by omega⟩ | exact Or.inr ⟨by omega, by omega⟩)
local macro_rules | `(tactic| walk_at "go") => `(tactic| repeat (first | refine ⟨_, rfl, ?_⟩ | refine ⟨_, _, rfl, rfl, ?_⟩ | refine ⟨_, _, rfl, ?_⟩ | (refine ⟨_, _, rfl, rfl, ?_, ?_⟩; focus walk_at "num") | refine Or.inl ⟨_, rfl, ?_⟩ | refine ⟨_, _, _, _, rfl, rfl, (by assumption), (by rfl), ?_⟩ | refine ⟨_, _, _, _, _, rfl, (by assumption), (by assumption), (by assumption), (by rfl), ?_⟩ | refine ⟨rfl, ?_⟩ | (refine And.intro ?_ ?_; focus walk_at "num")))
abbrev s_joined : Stmt := topS 12
abbrev N_joined : List Str := ["parts", "found", "low", "high"]
abbrev P_joined : List Str := ["parts"]
theorem sc_joined : FnScope N_joined P_joined (defScope s_joined) := ⟨rfl, rfl, rfl, by decide +kernel, rfl, by decide +kernel, by decide +kernel⟩
theorem RisH.at_last {H : Hp} {a : Addr} {ps : List Addr} {gs : Rs} {x : Int} {y : Option Int} (r : RisH H a ps (gs ++ [(x, y)])) : ∃ ps0 u, ps = ps0 ++ [u] ∧ ps0.length = gs.length ∧ H u = some (.tup [.int x, oV y]) := by
  rcases List.eq_nil_or_concat ps with rfl | ⟨ps0, u, e⟩
  · have := r.2.1
    simp at this
  · have e : ps = ps0 ++ [u] := by rw [e]; simp
    subst e
    have hl : ps0.length = gs.length := by
      have := r.2.1
      simpa using this
    refine ⟨ps0, u, rfl, hl, r.2.2 ps0.length u (x, y) (by simp) (by rw [hl]; simp)⟩
theorem RisH.set_last {H : Hp} {a T u : Addr} {ps : List Addr} {gs : Rs} {x : Int} {y z : Option Int} (r : RisH H a (ps ++ [u]) (gs ++ [(x, y)])) (hT : H T = some (.tup [.int x, oV z])) : RisH (upd H a (.lst (((ps ++ [u]).map V.ref).set ps.length (.ref T)))) a (ps ++ [T]) (gs ++ [(x, z)]) := by
  have ne : ∀ {q : Addr} {xs : List V}, H q = some (.tup xs) → q ≠ a := fun e w => by
    rw [w, r.1] at e
    cases e
  have hl : ps.length = gs.length := by
    have := r.2.1
    simpa using this
  refine ⟨?_, by simp [hl], fun i q w h1 h2 => ?_⟩
  · rw [upd_same, List.map_append, List.map_append, List.set_append_right _ _ (by simp)]
    simp
  · by_cases hlt : i < ps.length
    · rw [List.getElem?_append_left hlt] at h1
      rw [List.getElem?_append_left (by omega)] at h2
      have e := r.2.2 i q w (by rw [List.getElem?_append_left hlt]; exact h1) (by rw [List.getElem?_append_left (by omega)]; exact h2)
      rw [upd_ne (ne e)]
      exact e
    · rw [List.getElem?_append_right (by omega)] at h1
      rw [List.getElem?_append_right (by omega)] at h2
      have h3 : i - ps.length = 0 := by
        have := (List.getElem?_eq_some_iff.mp h1).1
        simp at this
        omega
      rw [h3] at h1
      rw [← hl, h3] at h2
      obtain rfl : T = q := Option.some.inj h1
      obtain rfl := Option.some.inj h2
      rw [upd_ne (ne hT)]
      exact hT
/-- an if that only guards, and what it tells -/
theorem cut_fact {p : Prop} {t u : TS} {D : Ends} {σ : L2.St} {H : Hp} (h : t { D with nx := fun σ' H' => σ' = σ ∧ H' = H ∧ p } σ H) (h2 : p → u D σ H) : C8.tCut t u D σ H := ⟨_, h, fun σ' H' z => by
  obtain ⟨rfl, rfl, hp⟩ := z
  exact h2 hp⟩
theorem jS_emp {fs : Rs} {p : Int × Option Int} (h : emp p = true) : jS fs p = fs := if_pos h
theorem jS_nil {p : Int × Option Int} (h : emp p = false) : jS [] p = [p] := by
  unfold jS
  rw [h]
  rfl
theorem jS_last {gs : Rs} {a : Int} {b : Option Int} {p : Int × Option Int} (h : emp p = false) : jS (gs ++ [(a, b)]) p = if b = some p.1 then gs ++ [(a, p.2)] else (gs ++ [(a, b)]) ++ [p] := by
  unfold jS
  rw [h]
  simp only [Bool.false_eq_true, if_false, List.getLast?_append, List.getLast?_singleton, Option.some_or, List.dropLast_concat]
  cases b with
  | none => simp
  | some b => simp
section
variable {P : Program} {w : World} {K : PySem.W.Frag} {mg : Str → Option Value} {base : Heap} {f C : Addr} {fd : FuncData}
def spJoined (K : PySem.W.Frag) : Sp := fun vs H Q _ => ∃ (b c : Bool) (a : Addr) (ps : List Addr) (rs : Rs), vs = [.ref a] ∧ Ris b c K H a ps rs ∧ rs.length ≤ 100000 ∧ ∀ t qs H', Same H H' → H' t = some (.tup (qs.map V.ref)) → Ris false false K H' t qs (join rs) → Q (.ref t) H'
theorem ok_joined (F : FnP K "joined" s_joined f fd) (m_len : mg "len" = none) (m_tuple : mg "tuple" = none) : FnOk P w K mg base CX0 1 f fd P_joined (spJoined K) := by
  refine F.ok sc_joined (fun vs H Q E h => ?_) (fun cdv A outer s H vs Q E hr h => ?_)
  · obtain ⟨b, c, a, ps, rs, rfl, _⟩ := h
    rfl
  · obtain ⟨b, c, a, ps, rs, rfl, hR, hb, q⟩ := h
    refine ⟨_, PSs.nox (pss_cons (ps_set (i := 1) sc_joined.nd rfl (by first | exact .inl rfl | exact .inr rfl) (pe_lst pa_nil))
      (pss_cons (ps_for PassesOwn.never rfl (pi_seq (pv 0)) (pg_or (pg_unl rfl (pgs_cons (pg_name (i := 2) sc_joined.nd rfl (by first | exact .inl rfl | exact .inr rfl)) (pgs_cons (pg_name (i := 3) sc_joined.nd rfl (by first | exact .inl rfl | exact .inr rfl)) pgs_nil))) (pg_tup rfl (pgs_cons (pg_name (i := 2) sc_joined.nd rfl (by first | exact .inl rfl | exact .inr rfl)) (pgs_cons (pg_name (i := 3) sc_joined.nd rfl (by first | exact .inl rfl | exact .inr rfl)) pgs_nil))))
        (pss_cut (ps_if (PW.pt (pw_and (pt_cmpR op_notN (pv 3) pe_non (nomark _)) (pw_and1 (pt_cmpR op_le (pv 3) (pv 2) (nomark _))))) (pss_one ps_continue) pss_nil)
      (pss_one (ps_if (PW.pt (pw_and (pt_cmpR op_gt (pe_callB call_len_seq (by rfl) m_len PySem.boot_len (pa_cons (pv 1) pa_nil)) pe_int (nomark _)) (pw_and1 (pt_cmpR op_eq (pe_ix ix_tup (pe_ix ix_list (pv 1) (pe_un un_neg pe_int) (fun _ _ => rfl)) pe_int (fun _ _ => rfl)) (pv 2) (nomark _))))) (pss_one (ps_asg (pe_tup (pa_cons (pe_ix ix_tup (pe_ix ix_list (pv 1) (pe_un un_neg pe_int) (fun _ _ => rfl)) pe_int (fun _ _ => rfl)) (pa_cons (pv 3) pa_nil))) (pg_sub (pv 1) (pe_un un_neg pe_int) set_list))) (pss_one (ps_expr (pe_bm PySem.F.plainAttrs_list PySem.F.slot_list_append PySem.F.type_list_append mt_append (pv 1) (pa_cons (pe_tup (pa_cons (pv 2) (pa_cons (pv 3) pa_nil))) pa_nil))))))))
      (pss_one (ps_ret (pe_callTy call_tuple_of (by rfl) m_tuple (by decide +kernel) (pa_cons (pv 1) pa_nil)))))), ?_⟩
    walk_at "go"
    intro p np
    walk_at "go"
    refine for_pairs (j := 0) hR (same_new np) (by rfl) (fun i σ H1 => Same H H1 ∧ ∃ (qs : List Addr) (v2 v3 : Option V), RisH H1 p qs ((rs.take i).foldl jS []) ∧ σ = [some (.ref a), some (.ref p), v2, v3]) ⟨same_new np, [], none, none, ⟨upd_same, rfl, fun i q z h => nomatch h⟩, rfl⟩ (fun i σ H1 h => h.1) ?_ ?_
    · rintro i l h σ H1 hi ⟨s1, qs, v2, v3, hq, rfl⟩
      have et : (rs.take (i + 1)).foldl jS [] = jS ((rs.take i).foldl jS []) (l, h) := by
        rw [List.take_add_one, hi, List.foldl_append]
        rfl
      have hlen : ((rs.take i).foldl jS []).length < 100000 := by
        have h1 := join_len (rs.take i) []
        have h2 := (List.getElem?_eq_some_iff.mp hi).1
        rw [List.length_take] at h1
        simp only [List.length_nil, Nat.zero_add] at h1
        omega
      generalize (rs.take i).foldl jS [] = fs at hq et hlen
      refine cut_fact (p := emp (l, h) = false) ?_ ?_
      · cases h with
        | none =>
          walk_at "go"
          rfl
        | some y =>
          walk_at "go"
          refine ite2 (fun e => ?_) (fun e => ?_)
          · have hy : y ≤ l := of_decide_eq_true e
            walk_at "go"
            refine ⟨qs, _, _, ?_, rfl⟩
            rw [et, jS_emp (show emp (l, some y) = true from decide_eq_true hy)]
            exact hq
          · have hy : ¬ y ≤ l := fun z => e (decide_eq_true z)
            exact ⟨rfl, rfl, decide_eq_false hy⟩
      intro he
      rcases List.eq_nil_or_concat fs with rfl | ⟨gs, ⟨x, y⟩, ef⟩
      · have hq0 : qs = [] := List.eq_nil_of_length_eq_zero hq.2.1
        subst hq0
        walk_at "go"
        refine ⟨p, _, rfl, .inl (SqL.of hq.1), ?_⟩
        walk_at "go"
        refine ⟨.inl ⟨rfl, _, .inl (.inl hq.1)⟩, ?_⟩
        walk_at "go"
        intro T nT
        have s2 := same_new (o := .tup [.int l, oV h]) nT
        have hq2 := hq.more s2
        have hT := upd_same (H := H1) (a := T) (o := .tup [.int l, oV h])
        generalize upd H1 T (.tup [.int l, oV h]) = H2 at s2 hq2 hT ⊢
        refine ⟨_, _, _, rfl, rfl, hq2.1, by decide, ?_⟩
        refine ⟨Z.Same.mut (s1.trans s2) np, [T], _, _, ?_, rfl⟩
        rw [et, jS_nil he]
        exact hq2.snoc hT
      · have ef : fs = gs ++ [(x, y)] := by rw [ef]; simp
        subst ef
        rw [jS_last he] at et
        obtain ⟨ps0, u, rfl, hl0, hu⟩ := hq.at_last
        have hl1 : ps0.length < 100000 := by
          rw [List.length_append] at hlen
          simp at hlen
          omega
        have qp := SqL.of (K := K) hq.1
        have ea : atI ((ps0 ++ [u]).map V.ref) (-1) = some (.ref u) := by
          rw [List.map_append]
          exact atI_last _ _
        walk_at "go"
        refine ⟨p, _, rfl, .inl qp, ?_⟩
        walk_at "go"
        refine ite2 (fun e => ?_) (fun e => ?_)
        rotate_left
        · exact absurd (decide_eq_true (by simp)) e
        walk_at "go"
        refine ⟨p, _, _, _, rfl, rfl, qp, ea, ?_⟩
        walk_at "go"
        refine ⟨u, _, _, _, rfl, rfl, SqT.of hu, rfl, ?_⟩
        walk_at "go"
        refine ⟨by cases y <;> rfl, ?_⟩
        walk_at "go"
        refine ite2 (fun e => ?_) (fun e => ?_)
        · have ey : y = some l := by
            have := of_decide_eq_true e
            cases y with
            | none => cases this
            | some z => rw [V.int.inj this]
          rw [if_pos ey] at et
          walk_at "go"
          refine ⟨p, _, _, _, rfl, rfl, qp, ea, ?_⟩
          walk_at "go"
          refine ⟨u, _, _, _, rfl, rfl, SqT.of hu, rfl, ?_⟩
          walk_at "go"
          intro T nT
          have s2 := same_new (o := .tup [.int x, oV h]) nT
          have hq2 := hq.more s2
          have hT := upd_same (H := H1) (a := T) (o := .tup [.int x, oV h])
          generalize upd H1 T (.tup [.int x, oV h]) = H2 at s2 hq2 hT ⊢
          walk_at "go"
          refine ⟨p, _, -1, ps0.length, rfl, rfl, hq2.1, (by simp only [ixN, List.length_map, List.length_append, List.length_singleton]; rw [if_neg (by omega), if_pos (by omega)]; congr 1; omega), ?_⟩
          refine ⟨Z.Same.mut (s1.trans s2) np, ps0 ++ [T], _, _, ?_, rfl⟩
          rw [et]
          exact hq2.set_last hT
        · have ey : ¬ y = some l := fun z => e (decide_eq_true (by rw [z]; rfl))
          rw [if_neg ey] at et
          walk_at "go"
          refine ⟨.inl ⟨rfl, _, .inl (.inl hq.1)⟩, ?_⟩
          walk_at "go"
          intro T nT
          have s2 := same_new (o := .tup [.int l, oV h]) nT
          have hq2 := hq.more s2
          have hT := upd_same (H := H1) (a := T) (o := .tup [.int l, oV h])
          generalize upd H1 T (.tup [.int l, oV h]) = H2 at s2 hq2 hT ⊢
          refine ⟨_, _, _, rfl, rfl, hq2.1, ?_, ?_⟩
          · rw [List.length_map, List.length_append]
            exact Nat.lt_of_le_of_lt (show ps0.length + 1 ≤ 100000 by omega) (by decide)
          refine ⟨Z.Same.mut (s1.trans s2) np, ps0 ++ [u] ++ [T], _, _, ?_, rfl⟩
          rw [et]
          exact hq2.snoc hT
    · rintro σ H1 ⟨s1, qs, v2, v3, hq, rfl⟩
      rw [List.take_length] at hq
      walk_at "go"
      refine ⟨p, _, rfl, .inl ⟨SqL.of hq.1, fun t nt => ?_⟩⟩
      have s2 := same_new (o := .tup (qs.map V.ref)) nt
      have hq2 := hq.more s2
      exact q t qs _ (s1.trans s2) upd_same ⟨.inl (.inl upd_same), hq2.2.1, fun i r z h1 h2 => .inl (.inl (hq2.2.2 i r z h1 h2))⟩
end
end Zn
set_option pp.maxSteps 700
set_option Elab.async false
set_option linter.all false
set_option maxRecDepth 100000
set_option maxHeartbeats 4000000
namespace Zn
open Z
open Nd
open PySem PySem.Spec PyProof.Rows L2
open C8 (pss_cut tCut)
local macro_rules | `(tactic| walk_at "num") => `(tactic| first | rfl | omega | decide | exact Nat.le_of_lt (small1000 (by simp)) | exact ⟨by omega, by omega⟩ | exact ⟨by omega, by omega, by omega⟩ | exact ⟨by decide, by decide, by decide⟩ | exact Or.inl ⟨by omega, by omega⟩ | exact Or.inr ⟨by omega, by omega⟩)
local macro_rules | `(tactic| walk_at "go") => `(tactic| repeat (first | refine ⟨_, rfl, ?_⟩ | refine ⟨_, _, rfl, rfl, ?_⟩ | refine ⟨_, _, rfl, ?_⟩ | (refine ⟨_, _, rfl, rfl, ?_, ?_⟩; focus walk_at "num") | refine Or.inl ⟨_, rfl, ?_⟩ | refine ⟨_, _, _, _, rfl, rfl, (by assumption), (by rfl), ?_⟩ | refine ⟨_, _, _, _, _, rfl, (by assumption), (by assumption), (by assumption), (by rfl), ?_⟩ | refine ⟨rfl, ?_⟩ | (refine And.intro ?_ ?_; focus walk_at "num")))
abbrev s_composed : Stmt := topS 17
abbrev N_composed : List Str := ["outer", "inner", "parts", "value", "low", "high", "begin", "end", "left", "right"]
abbrev P_composed : List Str := ["outer", "inner"]
theorem sc_composed : FnScope N_composed P_composed (defScope s_composed) := ⟨rfl, rfl, rfl, by decide +kernel, rfl, by decide +kernel, by decide +kernel⟩
/-- for low, high in a tuple that stands still -/
theorem for_prT {c : Bool} {K : PySem.W.Frag} {a : Addr} {ps : List Addr} {rs : Rs} {H0 : Hp} {i1 i2 : Nat} {tb : TS} {D : Ends} {σ : L2.St} {H : Hp} (hR : Ris false c K H0 a ps rs) (Pv : Nat → L2.St → Hp → Prop) (h0 : Pv 0 σ H) (hq : ∀ i σ H1, Pv i σ H1 → Same H0 H1)
    (hs : ∀ (i : Nat) (l : Int) (h : Option Int) (σ : L2.St) (H1 : Hp), rs[i]? = some (l, h) → Pv i σ H1 → tb { D with nx := Pv (i + 1), ct := Pv (i + 1), bk := D.nx } ((σ.set i1 (some (.int l))).set i2 (some (oV h))) H1)
    (hd : ∀ σ H1, Pv rs.length σ H1 → D.nx σ H1) : forW (Itt K a) (gPair K i1 i2) tb D σ H := by
  refine for_gen (n := rs.length) Pv h0 ?_ ?_ ?_ hd
  · intro i σ1 H1 hi p
    have hi2 : i < ps.length := by rw [hR.2.1]; exact hi
    exact its_go (b := false) (x := .ref ps[i]) (Z.Same.sqK (hq i σ1 H1 p) hR.1) (by rw [List.getElem?_map, List.getElem?_eq_getElem hi2]; rfl)
  · intro σ1 H1 p
    exact its_stop (b := false) (Z.Same.sqK (hq _ σ1 H1 p) hR.1) (by rw [List.length_map, hR.2.1]; exact Nat.le_refl _)
  · intro i σ1 H1 x H' hi p y
    have s1 := hq i σ1 H1 p
    obtain ⟨rfl, ex⟩ := its_yld (b := false) (Z.Same.sqK s1 hR.1) y
    obtain ⟨q, eq, rfl⟩ := of_map ex
    have er : rs[i]? = some (rs[i].1, rs[i].2) := List.getElem?_eq_getElem hi
    exact gpair_of (Z.Same.sqK s1 (hR.2.2 i q _ eq er)) (hs i _ _ σ1 H' er p)
theorem mx0 (x : Int) : (if x > 0 then x else 0) = max 0 x := by
  split <;> omega
/-- a pair (start, rises) -/
def PrT (K : PySem.W.Frag) (H : Hp) (a : Addr) (s : Int) (rs : Rs) : Prop := ∃ r ps, SqT K H a [.int s, .ref r] ∧ Ris false false K H r ps rs
section
variable {P : Program} {w : World} {K : PySem.W.Frag} {mg : Str → Option Value} {base : Heap} {f C : Addr} {fd : FuncData}
def spComposed (K : PySem.W.Frag) : Sp := fun vs H Q _ => ∃ (a b : Addr) (s s' : Int) (rs rs' : Rs), vs = [.ref a, .ref b] ∧ PrT K H a s rs ∧ PrT K H b s' rs' ∧ Good (-1) rs ∧ Good (-1) rs' ∧ rs.length + rs'.length ≤ 50000 ∧ ∀ t r qs H', Same H H' → H' t = some (.tup [.int (s + Fs rs s'), .ref r]) → Ris false false K H' r qs (join (cpO rs s' rs')) → Q (.ref t) H'
theorem ok_composed (F : FnP K "composed" s_composed f fd) (m_max : mg "max" = none) (c_value_at : Cal P w K mg base 1 "value_at" (spValueAt K)) (c_joined : Cal P w K mg base 1 "joined" (spJoined K)) : FnOk P w K mg base CX0 2 f fd P_composed (spComposed K) := by
  refine F.ok sc_composed (fun vs H Q E h => ?_) (fun cdv A outer s H vs Q E hr h => ?_)
  · obtain ⟨a, b, s, s', rs, rs', rfl, _⟩ := h
    rfl
  · obtain ⟨a, b, s0, s', rs, rs', rfl, ⟨r, ps, ha, hR⟩, ⟨r', ps', hb, hR'⟩, g, g', hlen, q⟩ := h
    refine ⟨_, PSs.nox (pss_cons (ps_set (i := 2) sc_composed.nd rfl (by first | exact .inl rfl | exact .inr rfl) (pe_lst pa_nil))
      (pss_cons (ps_set (i := 3) sc_composed.nd rfl (by first | exact .inl rfl | exact .inr rfl) (pe_ix ix_tup (pv 1) pe_int (fun _ _ => rfl)))
      (pss_cut (ps_for PassesOwn.never rfl (pi_tup (pe_ix ix_tup (pv 1) pe_int (fun _ _ => rfl))) (pg_or (pg_unl rfl (pgs_cons (pg_name (i := 4) sc_composed.nd rfl (by first | exact .inl rfl | exact .inr rfl)) (pgs_cons (pg_name (i := 5) sc_composed.nd rfl (by first | exact .inl rfl | exact .inr rfl)) pgs_nil))) (pg_tup rfl (pgs_cons (pg_name (i := 4) sc_composed.nd rfl (by first | exact .inl rfl | exact .inr rfl)) (pgs_cons (pg_name (i := 5) sc_composed.nd rfl (by first | exact .inl rfl | exact .inr rfl)) pgs_nil))))
        (pss_cut (ps_for PassesOwn.never rfl (pi_tup (pe_ix ix_tup (pv 0) pe_int (fun _ _ => rfl))) (pg_or (pg_unl rfl (pgs_cons (pg_name (i := 6) sc_composed.nd rfl (by first | exact .inl rfl | exact .inr rfl)) (pgs_cons (pg_name (i := 7) sc_composed.nd rfl (by first | exact .inl rfl | exact .inr rfl)) pgs_nil))) (pg_tup rfl (pgs_cons (pg_name (i := 6) sc_composed.nd rfl (by first | exact .inl rfl | exact .inr rfl)) (pgs_cons (pg_name (i := 7) sc_composed.nd rfl (by first | exact .inl rfl | exact .inr rfl)) pgs_nil))))
        (pss_cons (ps_set (i := 8) sc_composed.nd rfl (by first | exact .inl rfl | exact .inr rfl) (pe_op op_add (pv 4) (pe_callB (call_max2 rfl) (by rfl) m_max (by decide +kernel) (pa_cons pe_int (pa_cons (pe_op op_sub (pv 6) (pv 3)) pa_nil)))))
      (pss_cut (ps_set (i := 9) sc_composed.nd rfl (by first | exact .inl rfl | exact .inr rfl) (pe_ifExp (pt_cmpR op_isN (pv 7) pe_non (nomark _)) pe_non (pe_op op_add (pv 4) (pe_callB (call_max2 rfl) (by rfl) m_max (by decide +kernel) (pa_cons pe_int (pa_cons (pe_op op_sub (pv 7) (pv 3)) pa_nil))))))
      (pss_cut (ps_if (PW.pt (pw_and (pt_cmpR op_notN (pv 5) pe_non (nomark _)) (pw_and1 (PW.pt (pw_or (pt_cmpR op_isN (pv 9) pe_non (nomark _)) (pw_or1 (pt_cmpR op_gt (pv 9) (pv 5) (nomark _)))))))) (pss_one (ps_set (i := 9) sc_composed.nd rfl (by first | exact .inl rfl | exact .inr rfl) (pv 5))) pss_nil)
      (pss_one (ps_if (PW.pt (pw_or (pt_cmpR op_isN (pv 9) pe_non (nomark _)) (pw_or1 (pt_cmpR op_lt (pv 8) (pv 9) (nomark _))))) (pss_one (ps_expr (pe_bm PySem.F.plainAttrs_list PySem.F.slot_list_append PySem.F.type_list_append mt_append (pv 2) (pa_cons (pe_tup (pa_cons (pv 8) (pa_cons (pv 9) pa_nil))) pa_nil)))) pss_nil))))))
      (pss_one (ps_if (pt_cmpR op_notN (pv 5) pe_non (nomark _)) (pss_one (ps_set (i := 3) sc_composed.nd rfl (by first | exact .inl rfl | exact .inr rfl) (pe_op op_sub (pe_op op_add (pv 3) (pv 5)) (pv 4)))) pss_nil))))
      (pss_one (ps_ret (pe_tup (pa_cons (pe_cl c_value_at hr (by decide) (by rfl) (pa_cons (pe_ix ix_tup (pv 0) pe_int (fun _ _ => rfl)) (pa_cons (pe_ix ix_tup (pv 0) pe_int (fun _ _ => rfl)) (pa_cons (pe_ix ix_tup (pv 1) pe_int (fun _ _ => rfl)) pa_nil)))) (pa_cons (pe_cl c_joined hr (by decide) (by rfl) (pa_cons (pv 2) pa_nil)) pa_nil)))))))), ?_⟩
    walk_at "go"
    intro p np
    have s1 := same_new (o := .lst []) np
    have ha1 := Z.Same.sqT s1 ha
    have hb1 := Z.Same.sqT s1 hb
    have hq1 : RisH (upd H p (.lst [])) p [] [] := ⟨upd_same, rfl, fun i q z h => nomatch h⟩
    generalize upd H p (.lst []) = H1 at s1 ha1 hb1 hq1 ⊢
    walk_at "go"
    refine ⟨fun σ' H' => Same H H' ∧ ∃ (qs : List Addr) (v3 v4 v5 v6 v7 v8 v9 : Option V), RisH H' p qs (cpO rs s' rs') ∧ σ' = [some (.ref a), some (.ref b), some (.ref p), v3, v4, v5, v6, v7, v8, v9], ?_, ?_⟩
    rotate_left
    · rintro σ' H2 ⟨s2, qs, v3, v4, v5, v6, v7, v8, v9, hq, rfl⟩
      have ha2 := Z.Same.sqT s2 ha
      have hb2 := Z.Same.sqT s2 hb
      walk_at "go"
      refine ⟨false, false, s0, s', r, ps, rs, rfl, hR.mono s2, g, ?_⟩
      walk_at "go"
      have hl : (cpO rs s' rs').length ≤ 100000 := Nat.le_trans (cpO_len2 g g') (by omega)
      refine ⟨true, false, p, qs, _, rfl, hq.ris, hl, fun t2 qs2 H3 s3 e3 hR3 => ?_⟩
      walk_at "go"
      intro t nt
      have s4 := same_new (o := .tup [.int (s0 + Fs rs s'), .ref t2]) nt
      exact q t t2 qs2 _ (s2.trans (s3.trans s4)) upd_same (hR3.mono s4)
    walk_at "go"
    refine ⟨⟨_, (hR'.mono s1).1⟩, ?_⟩
    refine for_prT hR' (fun i σ H2 => Same H H2 ∧ ∃ (qs : List Addr) (rs1 : Rs) (v : Int) (v4 v5 v6 v7 v8 v9 : Option V), RisH H2 p qs rs1 ∧ rs1 ++ cpO rs v (rs'.drop i) = cpO rs s' rs' ∧ σ = [some (.ref a), some (.ref b), some (.ref p), some (.int v), v4, v5, v6, v7, v8, v9]) ⟨s1, [], [], s', none, none, none, none, none, none, hq1, rfl, rfl⟩ (fun i σ H2 h => h.1) ?_ ?_
    rotate_left
    · rintro σ H2 ⟨s2, qs, rs1, v, v4, v5, v6, v7, v8, v9, hq, e, rfl⟩
      rw [List.drop_length] at e
      have e : rs1 ++ [] = _ := e
      rw [List.append_nil] at e
      rw [e] at hq
      exact ⟨s2, qs, _, _, _, _, _, _, _, hq, rfl⟩
    rintro i low high σ H2 hi ⟨s2, qs, rs1, v, v4, v5, v6, v7, v8, v9, hq, e, rfl⟩
    obtain ⟨hlt, ei⟩ := List.getElem?_eq_some_iff.mp hi
    rw [List.drop_eq_getElem_cons hlt, ei] at e
    have e2 : ∃ tl, (rs1 ++ cpI rs v low high) ++ tl = cpO rs s' rs' := by
      cases high with
      | none => exact ⟨cpO rs v (rs'.drop (i + 1)), by rw [List.append_assoc]; exact e⟩
      | some h => exact ⟨cpO rs (v + h - low) (rs'.drop (i + 1)), by rw [List.append_assoc]; exact e⟩
    have hlen2 : rs1.length + (cpI rs v low high).length ≤ 50000 := by
      obtain ⟨tl, e2⟩ := e2
      have h1 := congrArg List.length e2
      rw [List.length_append, List.length_append] at h1
      have h2 := cpO_len2 (v := s') g g'
      omega
    have ha2 := Z.Same.sqT s2 ha
    refine ⟨fun σ' H' => Same H H' ∧ ∃ (qs : List Addr) (v6 v7 v8 v9 : Option V), RisH H' p qs (rs1 ++ cpI rs v low high) ∧ σ' = [some (.ref a), some (.ref b), some (.ref p), some (.int v), some (.int low), some (oV high), v6, v7, v8, v9], ?_, ?_⟩
    rotate_left
    · rintro σ' H3 ⟨s3, qs3, v6, v7, v8, v9, hq3, rfl⟩
      cases high with
      | none =>
        walk_at "go"
        exact ⟨qs3, _, v, _, _, _, _, _, _, hq3, by rw [List.append_assoc]; exact e, rfl⟩
      | some h =>
        walk_at "go"
        exact ⟨qs3, _, _, _, _, _, _, _, _, hq3, by rw [List.append_assoc]; exact e, rfl⟩
    walk_at "go"
    refine ⟨⟨_, (hR.mono s2).1⟩, ?_⟩
    refine for_prT hR (fun j σ H3 => Same H H3 ∧ ∃ (qs : List Addr) (v6 v7 v8 v9 : Option V), RisH H3 p qs (rs1 ++ cpI (rs.take j) v low high) ∧ σ = [some (.ref a), some (.ref b), some (.ref p), some (.int v), some (.int low), some (oV high), v6, v7, v8, v9]) ⟨s2, qs, _, _, _, _, by rw [List.take_zero]; show RisH H2 p qs (rs1 ++ []); rw [List.append_nil]; exact hq, rfl⟩ (fun i σ H2 h => h.1) ?_ ?_
    rotate_left
    · rintro σ H3 ⟨s3, qs3, v6, v7, v8, v9, hq3, rfl⟩
      rw [List.take_length] at hq3
      exact ⟨s3, qs3, _, _, _, _, hq3, rfl⟩
    rintro j bg en σ H3 hj ⟨s3, qs3, v6, v7, v8, v9, hq3, rfl⟩
    have et : cpI (rs.take (j + 1)) v low high = cpI (rs.take j) v low high ++ clean [cq v low high (bg, en)] := by
      unfold cpI
      rw [List.take_add_one, hj, List.map_append, clean_app]
      rfl
    have hlen3 : (rs1 ++ cpI (rs.take j) v low high).length + (clean [cq v low high (bg, en)]).length ≤ 50000 := by
      have h1 : (cpI (rs.take (j + 1)) v low high).length ≤ (cpI rs v low high).length := by
        unfold cpI
        refine List.Sublist.length_le (List.Sublist.filter _ (List.Sublist.map _ (List.take_sublist _ _)))
      rw [et, List.length_append] at h1
      rw [List.length_append]
      omega
    walk_at "go"
    rw [mx0]
    refine ⟨fun σ' H' => H' = H3 ∧ σ' = [some (.ref a), some (.ref b), some (.ref p), some (.int v), some (.int low), some (oV high), some (.int bg), some (oV en), some (.int (low + max 0 (bg - v))), some (oV (en.map fun e => low + max 0 (e - v)))], ?_, ?_⟩
    · cases en with
      | none =>
        walk_at "go"
        rfl
      | some y =>
        walk_at "go"
        rw [mx0]
        rfl
    rintro σ' H4 ⟨e4, rfl⟩
    rw [e4]
    clear e4 H4
    refine ⟨fun σ' H' => H' = H3 ∧ σ' = [some (.ref a), some (.ref b), some (.ref p), some (.int v), some (.int low), some (oV high), some (.int bg), some (oV en), some (.int (low + max 0 (bg - v))), some (oV (cq v low high (bg, en)).2)], ?_, ?_⟩
    · cases high with
      | none =>
        cases en with
        | none =>
          walk_at "go"
          rfl
        | some y =>
          walk_at "go"
          rfl
      | some h =>
        cases en with
        | none =>
          walk_at "go"
          rfl
        | some y =>
          have ec : (cq v low (some h) (bg, some y)).2 = if low + max 0 (y - v) > h then some h else some (low + max 0 (y - v)) := rfl
          rw [ec]
          walk_at "go"
          refine ite2 (fun e => ?_) (fun e => ?_)
          · have c : low + max 0 (y - v) > h := of_decide_eq_true e
            rw [if_pos c]
            walk_at "go"
            rfl
          · have c : ¬ low + max 0 (y - v) > h := fun z => e (decide_eq_true z)
            rw [if_neg c]
            walk_at "go"
            rfl
    rintro σ' H4 ⟨e4, rfl⟩
    rw [e4]
    clear e4 H4
    have ecq : cq v low high (bg, en) = (low + max 0 (bg - v), (cq v low high (bg, en)).2) := rfl
    generalize (cq v low high (bg, en)).2 = R at ecq ⊢
    rw [ecq] at et hlen3
    have app : emp (low + max 0 (bg - v), R) = false → ∀ T, H3 T = none → RisH (upd H3 T (.tup [.int (low + max 0 (bg - v)), oV R])) p qs3 (rs1 ++ cpI (rs.take j) v low high) ∧ RisH (upd (upd H3 T (.tup [.int (low + max 0 (bg - v)), oV R])) p (.lst (qs3.map V.ref ++ [.ref T]))) p (qs3 ++ [T]) (rs1 ++ cpI (rs.take (j + 1)) v low high) ∧ Same H (upd (upd H3 T (.tup [.int (low + max 0 (bg - v)), oV R])) p (.lst (qs3.map V.ref ++ [.ref T]))) := by
      intro he T nT
      have s4 := same_new (o := .tup [.int (low + max 0 (bg - v)), oV R]) nT
      have hq4 := hq3.more s4
      refine ⟨hq4, ?_, Z.Same.mut (s3.trans s4) np⟩
      rw [et, clean_cons, if_neg (by rw [he]; simp), ← List.append_assoc]
      exact hq4.snoc upd_same
    have hl3 : (qs3.map V.ref).length < sizeLine := by
      rw [List.length_map, hq3.2.1]
      exact Nat.lt_of_le_of_lt (show _ ≤ 50000 by omega) (by decide)
    cases R with
    | none =>
      walk_at "go"
      refine ⟨.inl ⟨rfl, _, .inl (.inl hq3.1)⟩, ?_⟩
      walk_at "go"
      intro T nT
      obtain ⟨h1, h2, h3⟩ := app rfl T nT
      refine ⟨_, _, _, rfl, rfl, h1.1, hl3, ?_⟩
      exact ⟨h3, _, _, _, _, _, h2, rfl⟩
    | some y =>
      walk_at "go"
      refine ite2 (fun e => ?_) (fun e => ?_)
      · have c : low + max 0 (bg - v) < y := of_decide_eq_true e
        walk_at "go"
        refine ⟨.inl ⟨rfl, _, .inl (.inl hq3.1)⟩, ?_⟩
        walk_at "go"
        intro T nT
        obtain ⟨h1, h2, h3⟩ := app (decide_eq_false (by dsimp only; omega)) T nT
        refine ⟨_, _, _, rfl, rfl, h1.1, hl3, ?_⟩
        exact ⟨h3, _, _, _, _, _, h2, rfl⟩
      · have c : ¬ low + max 0 (bg - v) < y := fun z => e (decide_eq_true z)
        rw [clean_cons, if_pos (show emp (low + max 0 (bg - v), some y) = true from decide_eq_true (by omega))] at et
        refine ⟨s3, qs3, _, _, _, _, ?_, rfl⟩
        rw [et]
        show RisH H3 p qs3 (rs1 ++ (cpI (rs.take j) v low high ++ []))
        rw [List.append_nil]
        exact hq3
end
end Zn
set_option pp.maxSteps 700
set_option Elab.async false
set_option linter.all false
set_option maxRecDepth 100000
set_option maxHeartbeats 4000000
namespace Zn
open Z
open Nd
open PySem PySem.Spec PyProof.Rows L2
open C8 (pss_cut tCut)
local macro_rules | `(tactic| walk_at "num") => `(tactic| first | rfl | omega | decide | exact Nat.le_of_lt (small1000 (by simp)) | exact ⟨by omega, by omega⟩ | exact ⟨by omega, by omega, by omega⟩ | exact ⟨by decide, by decide, by decide⟩ | exact Or.inl ⟨by omega, by omega⟩ | exact Or.inr ⟨by omega, by omega⟩)
local macro_rules | `(tactic| walk_at "go") => `(tactic| repeat (first | refine ⟨_, rfl, ?_⟩ | refine ⟨_, _, rfl, rfl, ?_⟩ | refine ⟨_, _, rfl, ?_⟩ | (refine ⟨_, _, rfl, rfl, ?_, ?_⟩; focus walk_at "num") | refine Or.inl ⟨_, rfl, ?_⟩ | refine ⟨_, _, _, _, rfl, rfl, (by assumption), (by rfl), ?_⟩ | refine ⟨_, _, _, _, _, rfl, (by assumption), (by assumption), (by assumption), (by rfl), ?_⟩ | refine ⟨rfl, ?_⟩ | (refine And.intro ?_ ?_; focus walk_at "num")))
abbrev s_rising_part : Stmt := topS 15
abbrev N_rising_part : List Str := ["first", "second", "width", "smaller", "rising", "level", "gap"]
abbrev P_rising_part : List Str := ["first", "second", "width", "smaller"]
theorem sc_rising_part : FnScope N_rising_part P_rising_part (defScope s_rising_part) := ⟨rfl, rfl, rfl, by decide +kernel, rfl, by decide +kernel, by decide +kernel⟩
section
variable {P : Program} {w : World} {K : PySem.W.Frag} {mg : Str → Option Value} {base : Heap} {f C : Addr} {fd : FuncData}
def spRPart (K : PySem.W.Frag) : Sp := fun vs H Q _ => ∃ (a b : Addr) (x u y v : Int) (wd : Option Int) (sm : Bool), vs = [.ref a, .ref b, oV wd, .bl sm] ∧ SqT K H a [.int x, .int u] ∧ SqT K H b [.int y, .int v] ∧ ∀ t H', Same H H' → H' t = some (.tup [.int (rpt x u y v wd sm).1, oV (rpt x u y v wd sm).2]) → Q (.ref t) H'
theorem ok_rising_part (F : FnP K "rising_part" s_rising_part f fd) (m_max : mg "max" = none) : FnOk P w K mg base CX0 1 f fd P_rising_part (spRPart K) := by
  refine F.ok sc_rising_part (fun vs H Q E h => ?_) (fun cdv A outer s H vs Q E hr h => ?_)
  · obtain ⟨a, b, x, u, y, v, wd, sm, rfl, _⟩ := h
    rfl
  · obtain ⟨a, b, x, u, y, v, wd, sm, rfl, ha, hb, q⟩ := h
    refine ⟨_, PSs.nox (pss_cons (ps_if (pt_cmpR op_eq (pe_ix ix_tup (pv 0) pe_int (fun _ _ => rfl)) (pe_ix ix_tup (pv 1) pe_int (fun _ _ => rfl)) (nomark _)) (pss_one (ps_ret (pe_ifExp (pt_cmpR op_eq (pe_ix ix_tup (pv 0) pe_int (fun _ _ => rfl)) pe_int (nomark _)) (pe_tup (pa_cons pe_int (pa_cons (pv 2) pa_nil))) (pe_tup (pa_cons pe_int (pa_cons pe_int pa_nil)))))) pss_nil)
      (pss_cut (ps_asg (pe_ifExp (pt_cmpR op_eq (pe_ix ix_tup (pv 0) pe_int (fun _ _ => rfl)) pe_int (nomark _)) (pe_tup (pa_cons (pv 0) (pa_cons (pv 1) pa_nil))) (pe_tup (pa_cons (pv 1) (pa_cons (pv 0) pa_nil)))) (pg_tup rfl (pgs_cons (pg_name (i := 4) sc_rising_part.nd rfl (by first | exact .inl rfl | exact .inr rfl)) (pgs_cons (pg_name (i := 5) sc_rising_part.nd rfl (by first | exact .inl rfl | exact .inr rfl)) pgs_nil))))
      (pss_cons (ps_set (i := 6) sc_rising_part.nd rfl (by first | exact .inl rfl | exact .inr rfl) (pe_callB (call_max2 rfl) (by rfl) m_max (by decide +kernel) (pa_cons pe_int (pa_cons (pe_op op_sub (pe_ix ix_tup (pv 5) pe_int (fun _ _ => rfl)) (pe_ix ix_tup (pv 4) pe_int (fun _ _ => rfl))) pa_nil))))
      (pss_cons (ps_if (pt_val (pv 3)) (pss_one (ps_ret (pe_tup (pa_cons pe_int (pa_cons (pe_ifExp (PW.pt (pw_or (pt_cmpR op_isN (pv 2) pe_non (nomark _)) (pw_or1 (pt_cmpR op_lt (pv 6) (pv 2) (nomark _))))) (pv 6) (pv 2)) pa_nil))))) pss_nil)
      (pss_one (ps_ret (pe_tup (pa_cons (pv 6) (pa_cons (pv 2) pa_nil))))))))), ?_⟩
    walk_at "go"
    refine ite2 (fun e => ?_) (fun e => ?_)
    · have e1 : u = v := V.int.inj (of_decide_eq_true e)
      walk_at "go"
      refine ite2 (fun e2 => ?_) (fun e2 => ?_)
      · have e3 : u = 1 := V.int.inj (of_decide_eq_true e2)
        walk_at "go"
        intro t nt
        refine q t _ (same_new nt) ?_
        rw [upd_same]
        unfold rpt
        rw [if_pos e1, if_pos e3]
      · have e3 : ¬ u = 1 := fun z => e2 (decide_eq_true (by rw [z]))
        walk_at "go"
        intro t nt
        refine q t _ (same_new nt) ?_
        rw [upd_same]
        unfold rpt
        rw [if_pos e1, if_neg e3]
        rfl
    · have e1 : ¬ u = v := fun z => e (decide_eq_true (by rw [z]))
      refine ⟨fun σ' H' => Same H H' ∧ ∃ (r l : Addr) (xr xl ur ul : Int), SqT K H' r [.int xr, .int ur] ∧ SqT K H' l [.int xl, .int ul] ∧ max 0 (xl - xr) = gp x u y ∧ σ' = [some (.ref a), some (.ref b), some (oV wd), some (.bl sm), some (.ref r), some (.ref l), none], ?_, ?_⟩
      · walk_at "go"
        refine ite2 (fun e2 => ?_) (fun e2 => ?_)
        · have e3 : u = 1 := V.int.inj (of_decide_eq_true e2)
          walk_at "go"
          intro t nt
          refine ⟨t, _, rfl, .inl (.inl upd_same), rfl, _, _, rfl, _, _, rfl, rfl, ?_⟩
          have s2 := same_new (o := .tup [.ref a, .ref b]) nt
          exact ⟨s2, a, b, _, _, _, _, Z.Same.sqT s2 ha, Z.Same.sqT s2 hb, (by unfold gp; rw [if_pos e3]), rfl⟩
        · have e3 : ¬ u = 1 := fun z => e2 (decide_eq_true (by rw [z]))
          walk_at "go"
          intro t nt
          refine ⟨t, _, rfl, .inl (.inl upd_same), rfl, _, _, rfl, _, _, rfl, rfl, ?_⟩
          have s2 := same_new (o := .tup [.ref b, .ref a]) nt
          exact ⟨s2, b, a, _, _, _, _, Z.Same.sqT s2 hb, Z.Same.sqT s2 ha, (by unfold gp; rw [if_neg e3]), rfl⟩
      rintro σ' H2 ⟨s2, r, l, xr, xl, ur, ul, hr2, hl2, eg, rfl⟩
      walk_at "go"
      rw [mx0, eg]
      cases sm with
      | true =>
        walk_at "go"
        cases wd with
        | none =>
          walk_at "go"
          intro t nt
          refine q t _ (s2.trans (same_new nt)) ?_
          rw [upd_same]
          unfold rpt
          rw [if_neg e1]
          rfl
        | some z =>
          walk_at "go"
          refine ite2 (fun e4 => ?_) (fun e4 => ?_)
          · have c : gp x u y < z := of_decide_eq_true e4
            walk_at "go"
            intro t nt
            refine q t _ (s2.trans (same_new nt)) ?_
            rw [upd_same]
            unfold rpt
            rw [if_neg e1, if_pos rfl]
            dsimp only
            rw [if_pos c]
            rfl
          · have c : ¬ gp x u y < z := fun h => e4 (decide_eq_true h)
            walk_at "go"
            intro t nt
            refine q t _ (s2.trans (same_new nt)) ?_
            rw [upd_same]
            unfold rpt
            rw [if_neg e1, if_pos rfl]
            dsimp only
            rw [if_neg c]
      | false =>
        walk_at "go"
        intro t nt
        refine q t _ (s2.trans (same_new nt)) ?_
        rw [upd_same]
        unfold rpt
        rw [if_neg e1]
        rfl
end
end Zn
set_option pp.maxSteps 700
set_option Elab.async false
set_option linter.all false
set_option maxRecDepth 100000
set_option maxHeartbeats 4000000
namespace Zn
open Z
open Nd
open PySem PySem.Spec PyProof.Rows L2
open C8 (pss_cut tCut)
local macro_rules | `(tactic| walk_at "num") => `(tactic| first | rfl | omega | decide | exact Nat.le_of_lt (small1000 (by simp)) | exact ⟨by omega, by omega⟩ | exact ⟨by omega, by omega, by omega⟩ | exact ⟨by decide, by decide, by decide⟩ | exact Or.inl ⟨by omega, by omega⟩ | exact Or.inr ⟨by omega, by omega⟩)
local macro_rules | `(tactic| walk_at "go") => `(tactic| repeat (first | refine ⟨_, rfl, ?_⟩ | refine ⟨_, _, rfl, rfl, ?_⟩ | refine ⟨_, _, rfl, ?_⟩ | (refine ⟨_, _, rfl, rfl, ?_, ?_⟩; focus walk_at "num") | refine Or.inl ⟨_, rfl, ?_⟩ | refine ⟨_, _, _, _, rfl, rfl, (by assumption), (by rfl), ?_⟩ | refine ⟨_, _, _, _, _, rfl, (by assumption), (by assumption), (by assumption), (by rfl), ?_⟩ | refine ⟨rfl, ?_⟩ | (refine And.intro ?_ ?_; focus walk_at "num")))
abbrev s_combined : Stmt := topS 16
abbrev N_combined : List Str := ["first", "second", "smaller", "marks", "ones", "others", "parts", "at", "mark", "width", "low", "high", "start"]
abbrev P_combined : List Str := ["first", "second", "smaller"]
theorem sc_combined : FnScope N_combined P_combined (defScope s_combined) := ⟨rfl, rfl, rfl, by decide +kernel, rfl, by decide +kernel, by decide +kernel⟩
section
variable {P : Program} {w : World} {K : PySem.W.Frag} {mg : Str → Option Value} {base : Heap} {f C : Addr} {fd : FuncData}
theorem Marks.cm {rs rs' : Rs} {ms : List Int} (h : Marks rs rs' ms) : Cm rs rs' ms := cm_of (fun i m hi hl => ⟨h.one.last hi hl, h.two.last hi hl⟩) (fun i m M hi hj => ⟨asc_at h.asc hi hj (Nat.lt_succ_self _), h.one.calm hi hj, h.two.calm hi hj⟩)
theorem cbP_drop {F : Int → Option Int → Int × Option Int} {ms : List Int} {i : Nat} {m : Int} (hi : ms[i]? = some m) : cbP F (ms.drop i) = F m (match ms[i + 1]? with
  | some M => some (M - m)
  | none => none) :: cbP F (ms.drop (i + 1)) := by
  obtain ⟨h1, rfl⟩ := List.getElem?_eq_some_iff.mp hi
  rw [List.drop_eq_getElem_cons h1]
  by_cases c : i + 1 < ms.length
  · rw [List.drop_eq_getElem_cons c, List.getElem?_eq_getElem c]
    rfl
  · rw [List.drop_of_length_le (by omega), List.getElem?_eq_none (by omega)]
    rfl
def spCombined2 (K : PySem.W.Frag) : Sp := fun vs H Q _ => ∃ (a b : Addr) (s s' : Int) (rs rs' : Rs) (sm : Bool), vs = [.ref a, .ref b, .bl sm] ∧ PrT K H a s rs ∧ PrT K H b s' rs' ∧ Good (-1) rs ∧ Good (-1) rs' ∧ rs.length ≤ 20000 ∧ rs'.length ≤ 20000 ∧ ∀ t r qs J H', Same H H' → H' t = some (.tup [.int (mm sm s s'), .ref r]) → Ris false false K H' r qs J → Good (-1) J → (∀ k, 0 ≤ k → mm sm s s' + Fs J k = mm sm (s + Fs rs k) (s' + Fs rs' k)) → J.length ≤ 2 * (rs.length + rs'.length) + 1 → Q (.ref t) H'
theorem ok_combined (F : FnP K "combined" s_combined f fd) (m_len : mg "len" = none) (m_enumerate : mg "enumerate" = none) (c_marks_of : Cal P w K mg base 1 "marks_of" (spMarks K)) (c_track : Cal P w K mg base 1 "track" (spTrack K)) (c_rising_part : Cal P w K mg base 1 "rising_part" (spRPart K)) (c_joined : Cal P w K mg base 1 "joined" (spJoined K)) : FnOk P w K mg base CX0 2 f fd P_combined (spCombined2 K) := by
  refine F.ok sc_combined (fun vs H Q E h => ?_) (fun cdv A outer s H vs Q E hr h => ?_)
  · obtain ⟨a, b, s, s', rs, rs', sm, rfl, _⟩ := h
    rfl
  · obtain ⟨a, b, s, s', rs, rs', sm, rfl, ⟨r, ps, ha, hR⟩, ⟨r', ps', hb, hR'⟩, g, g', l1, l2, q⟩ := h
    refine ⟨_, PSs.nox (pss_cons (ps_set (i := 3) sc_combined.nd rfl (by first | exact .inl rfl | exact .inr rfl) (pe_cl c_marks_of hr (by decide) (by rfl) (pa_cons (pe_ix ix_tup (pv 0) pe_int (fun _ _ => rfl)) (pa_cons (pe_ix ix_tup (pv 1) pe_int (fun _ _ => rfl)) pa_nil))))
      (pss_cons (ps_par (i := 4) (j := 5) (by rfl) sc_combined.nd rfl rfl (by decide) rfl rfl (pa_cons (pe_cl c_track hr (by decide) (by rfl) (pa_cons (pe_ix ix_tup (pv 0) pe_int (fun _ _ => rfl)) (pa_cons (pe_ix ix_tup (pv 0) pe_int (fun _ _ => rfl)) (pa_cons (pv 3) pa_nil)))) (pa_cons (pe_cl c_track hr (by decide) (by rfl) (pa_cons (pe_ix ix_tup (pv 1) pe_int (fun _ _ => rfl)) (pa_cons (pe_ix ix_tup (pv 1) pe_int (fun _ _ => rfl)) (pa_cons (pv 3) pa_nil)))) pa_nil)) (by rfl))
      (pss_cons (ps_set (i := 6) sc_combined.nd rfl (by first | exact .inl rfl | exact .inr rfl) (pe_lst pa_nil))
      (pss_cut (ps_for PassesOwn.never rfl (pi_enum (by rfl) m_enumerate (pa_cons (pv 3) pa_nil)) (pg_tup rfl (pgs_cons (pg_name (i := 7) sc_combined.nd rfl (by first | exact .inl rfl | exact .inr rfl)) (pgs_cons (pg_name (i := 8) sc_combined.nd rfl (by first | exact .inl rfl | exact .inr rfl)) pgs_nil)))
        (pss_cut (ps_set (i := 9) sc_combined.nd rfl (by first | exact .inl rfl | exact .inr rfl) (pe_ifExp (pt_cmpR op_lt (pe_op op_add (pv 7) pe_int) (pe_callB call_len_seq (by rfl) m_len PySem.boot_len (pa_cons (pv 3) pa_nil)) (nomark _)) (pe_op op_sub (pe_ix ix_list (pv 3) (pe_op op_add (pv 7) pe_int) (fun _ _ => rfl)) (pv 8)) pe_non))
      (pss_cons (ps_asg (pe_cl c_rising_part hr (by decide) (by rfl) (pa_cons (pe_ix ix_list (pv 4) (pv 7) (fun _ _ => rfl)) (pa_cons (pe_ix ix_list (pv 5) (pv 7) (fun _ _ => rfl)) (pa_cons (pv 9) (pa_cons (pv 2) pa_nil))))) (pg_tup rfl (pgs_cons (pg_name (i := 10) sc_combined.nd rfl (by first | exact .inl rfl | exact .inr rfl)) (pgs_cons (pg_name (i := 11) sc_combined.nd rfl (by first | exact .inl rfl | exact .inr rfl)) pgs_nil))))
      (pss_one (ps_expr (pe_bm PySem.F.plainAttrs_list PySem.F.slot_list_append PySem.F.type_list_append mt_append (pv 6) (pa_cons (pe_tup (pa_cons (pe_op op_add (pv 8) (pv 10)) (pa_cons (pe_ifExp (pt_cmpR op_isN (pv 11) pe_non (nomark _)) pe_non (pe_op op_add (pv 8) (pv 11))) pa_nil))) pa_nil)))))))
      (pss_cons (ps_set (i := 12) sc_combined.nd rfl (by first | exact .inl rfl | exact .inr rfl) (pe_ix ix_tup (pv 1) pe_int (fun _ _ => rfl)))
      (pss_cut (ps_if (pt_cmpR op_eq (pe_cmpR op_lt (pe_ix ix_tup (pv 0) pe_int (fun _ _ => rfl)) (pe_ix ix_tup (pv 1) pe_int (fun _ _ => rfl)) (nomark _)) (pv 2) (nomark _)) (pss_one (ps_set (i := 12) sc_combined.nd rfl (by first | exact .inl rfl | exact .inr rfl) (pe_ix ix_tup (pv 0) pe_int (fun _ _ => rfl)))) pss_nil)
      (pss_one (ps_ret (pe_tup (pa_cons (pv 12) (pa_cons (pe_cl c_joined hr (by decide) (by rfl) (pa_cons (pv 6) pa_nil)) pa_nil))))))))))), ?_⟩
    walk_at "go"
    refine ⟨false, false, r, r', ps, ps', rs, rs', rfl, hR, hR', g, g', l1, l2, fun M H1 ms s1 eM mk => ?_⟩
    have hm := mk.len
    have ha1 := Z.Same.sqT s1 ha
    have hb1 := Z.Same.sqT s1 hb
    have hR1 := hR.mono s1
    have hR1' := hR'.mono s1
    walk_at "go"
    refine ⟨false, s, r, M, ps, rs, ms, rfl, hR1.1, hR1, eM, g, mk.one, by omega, fun p1 H2 s2 t1 => ?_⟩
    have hb2 := Z.Same.sqT s2 hb1
    have hR2' := hR1'.mono s2
    walk_at "go"
    refine ⟨false, s', r', M, ps', rs', ms, rfl, hR2'.1, hR2', s2 _ _ eM, g', mk.two, by omega, fun p2 H3 s3 t2 => ?_⟩
    have t1 := t1.mono s3
    have eM3 := s3 _ _ (s2 _ _ eM)
    have s03 := s1.trans (s2.trans s3)
    walk_at "go"
    intro p np
    have s4 := same_new (o := .lst []) np
    have hq4 : RisH (upd H3 p (.lst [])) p [] [] := ⟨upd_same, rfl, fun i q z h => nomatch h⟩
    generalize upd H3 p (.lst []) = H4 at s4 hq4 ⊢
    refine ⟨fun σ' H' => Same H3 H' ∧ ∃ (qs : List Addr) (v7 v8 v9 v10 v11 : Option V), RisH H' p qs (cbP (cbF s rs s' rs' sm) ms) ∧ σ' = [some (.ref a), some (.ref b), some (.bl sm), some (.ref M), some (.ref p1), some (.ref p2), some (.ref p), v7, v8, v9, v10, v11, none], ?_, ?_⟩
    rotate_left
    · rintro σ' H5 ⟨s5, qs, v7, v8, v9, v10, v11, hq, rfl⟩
      have s05 := s03.trans s5
      have ha5 := Z.Same.sqT s05 ha
      have hb5 := Z.Same.sqT s05 hb
      walk_at "go"
      refine ⟨fun σ' H' => H' = H5 ∧ σ' = [some (.ref a), some (.ref b), some (.bl sm), some (.ref M), some (.ref p1), some (.ref p2), some (.ref p), v7, v8, v9, v10, v11, some (.int (mm sm s s'))], ?_, ?_⟩
      · walk_at "go"
        refine ite2 (fun e => ?_) (fun e => ?_)
        · have e1 : decide (s < s') = sm := V.bl.inj (of_decide_eq_true e)
          have e2 : mm sm s s' = s := by
            unfold mm
            cases sm with
            | true =>
              have := of_decide_eq_true e1
              rw [if_pos rfl]
              omega
            | false =>
              have := of_decide_eq_false e1
              rw [if_neg (by simp)]
              omega
          rw [e2]
          walk_at "go"
          rfl
        · have e1 : ¬ decide (s < s') = sm := fun z => e (decide_eq_true (show V.bl (decide (s < s')) = V.bl sm by rw [z]))
          have e2 : mm sm s s' = s' := by
            unfold mm
            cases sm with
            | true =>
              rw [decide_eq_true_eq] at e1
              rw [if_pos rfl]
              omega
            | false =>
              have : s < s' := Decidable.byContradiction fun z => e1 (decide_eq_false z)
              rw [if_neg (by simp)]
              omega
          rw [e2]
          exact ⟨rfl, rfl⟩
      rintro σ' H6 ⟨e6, rfl⟩
      rw [e6]
      clear e6 H6
      walk_at "go"
      have hl : (cbP (cbF s rs s' rs' sm) ms).length ≤ 100000 := by
        rw [cbP_len]
        omega
      refine ⟨true, false, p, qs, _, rfl, hq.ris, hl, fun r2 qs2 H6 s6 e6 hR6 => ?_⟩
      walk_at "go"
      intro t nt
      have s7 := same_new (o := .tup [.int (mm sm s s'), .ref r2]) nt
      have cm := mk.cm
      obtain ⟨tl, rfl⟩ : ∃ tl, ms = 0 :: tl := by
        have := mk.zero
        cases ms with
        | nil => cases this
        | cons x tl =>
          obtain rfl : x = 0 := Option.some.inj this
          exact ⟨tl, rfl⟩
      obtain ⟨c1, c2, c3⟩ := comb_ok (s := s) (s' := s') (sm := sm) g g' cm
      exact q t r2 qs2 _ _ (s05.trans (s6.trans s7)) upd_same (hR6.mono s7) c1 c2 (Nat.le_trans c3 hm)
    walk_at "go"
    have eM4 := s4 _ _ eM3
    refine ⟨M, _, rfl, SqL.of eM4, ?_⟩
    obtain ⟨ts1, f1, f2, f3⟩ := t1
    obtain ⟨ts2, k1, k2, k3⟩ := t2
    refine for_gen (n := ms.length) (fun i σ H5 => Same H3 H5 ∧ ∃ (qs : List Addr) (rs1 : Rs) (v7 v8 v9 v10 v11 : Option V), RisH H5 p qs rs1 ∧ rs1 ++ cbP (cbF s rs s' rs' sm) (ms.drop i) = cbP (cbF s rs s' rs' sm) ms ∧ σ = [some (.ref a), some (.ref b), some (.bl sm), some (.ref M), some (.ref p1), some (.ref p2), some (.ref p), v7, v8, v9, v10, v11, none]) ⟨s4, [], [], none, none, none, none, none, hq4, rfl, rfl⟩ ?_ ?_ ?_ ?_
    · rintro i σ H5 hi ⟨s5, _⟩
      exact ⟨_, .int ms[i], SqL.of (s5 _ _ eM3), by rw [List.getElem?_map, List.getElem?_eq_getElem hi]; rfl⟩
    · rintro σ H5 ⟨s5, _⟩
      exact ⟨_, SqL.of (s5 _ _ eM3), by rw [List.length_map]; exact Nat.le_refl _⟩
    · rintro i σ H5 x H6 hi ⟨s5, qs, rs1, v7, v8, v9, v10, v11, hq, e, rfl⟩ ⟨T, x, rfl, nT, rfl, fx⟩
      obtain ⟨m, em, rfl⟩ := of_map (fx _ (SqL.of (s5 _ _ eM3)))
      rw [cbP_drop em] at e
      have s6 := same_new (o := .tup [.int (i : Nat), .int m]) nT
      have s36 := s5.trans s6
      refine ⟨T, _, rfl, .inl (.inl upd_same), rfl, _, _, rfl, _, _, rfl, rfl, ?_⟩
      have hi1 : i < ts1.length := by omega
      have hi2 : i < ts2.length := by omega
      have o1 := s36 _ _ (f3 i _ m (List.getElem?_eq_getElem hi1) em)
      have o2 := s36 _ _ (k3 i _ m (List.getElem?_eq_getElem hi2) em)
      have q1 := SqL.of (K := K) (s36 _ _ f1)
      have q2 := SqL.of (K := K) (s36 _ _ k1)
      have ea1 : atI (ts1.map V.ref) (i : Int) = some (.ref ts1[i]) := at_map (List.getElem?_eq_getElem hi1)
      have ea2 : atI (ts2.map V.ref) (i : Int) = some (.ref ts2[i]) := at_map (List.getElem?_eq_getElem hi2)
      have qM := SqL.of (K := K) (s36 _ _ eM3)
      generalize ts1[i] = u1 at o1 ea1
      generalize ts2[i] = u2 at o2 ea2
      have w1 : SqT K (upd H5 T (.tup [.int (i : Nat), .int m])) u1 _ := .inl (.inl o1)
      have w2 : SqT K (upd H5 T (.tup [.int (i : Nat), .int m])) u2 _ := .inl (.inl o2)
      have hq6 := hq.more s6
      generalize upd H5 T (.tup [.int (i : Nat), .int m]) = H6 at s6 s36 o1 o2 q1 q2 qM w1 w2 hq6 ⊢
      refine ⟨fun σ' H' => H' = H6 ∧ σ' = [some (.ref a), some (.ref b), some (.bl sm), some (.ref M), some (.ref p1), some (.ref p2), some (.ref p), some (.int (i : Int)), some (.int m), some (oV (match ms[i + 1]? with
        | some M => some (M - m)
        | none => none)), v10, v11, none], ?_, ?_⟩
      · walk_at "go"
        refine ⟨M, _, rfl, .inl qM, ?_⟩
        rw [List.length_map]
        walk_at "go"
        by_cases hlast : i + 1 < ms.length
        · have eN : ms[i + 1]? = some ms[i + 1] := List.getElem?_eq_getElem hlast
          have ea3 : atI (ms.map V.int) ((i : Int) + 1) = some (.int ms[i + 1]) := at_of (j := i + 1) (by omega) (by rw [List.getElem?_map, eN]; rfl)
          refine ite2 (fun _ => ?_) (fun z => absurd (decide_eq_true (by omega)) z)
          walk_at "go"
          refine ⟨M, _, _, _, rfl, rfl, qM, ea3, ?_⟩
          walk_at "go"
          rw [eN]
          rfl
        · refine ite2 (fun z => absurd (of_decide_eq_true z) (by omega)) (fun _ => ?_)
          walk_at "go"
          rw [List.getElem?_eq_none (by omega)]
          rfl
      rintro σ' H7 ⟨e7, rfl⟩
      rw [e7]
      clear e7 H7
      generalize (match ms[i + 1]? with
        | some M => some (M - m)
        | none => none) = wd at e ⊢
      walk_at "go"
      refine ⟨p1, _, _, _, rfl, rfl, q1, ea1, ?_⟩
      walk_at "go"
      refine ⟨p2, _, _, _, rfl, rfl, q2, ea2, ?_⟩
      walk_at "go"
      refine ⟨u1, u2, _, _, _, _, wd, sm, rfl, w1, w2, fun t H7 s7 e7 => ?_⟩
      have e8 : cbF s rs s' rs' sm m wd = prt m (rpt (s + Fs rs m) (uI rs m) (s' + Fs rs' m) (uI rs' m) wd sm) := rfl
      rw [e8] at e
      generalize (rpt (s + Fs rs m) (uI rs m) (s' + Fs rs' m) (uI rs' m) wd sm) = rp at e e7
      obtain ⟨lo, hi3⟩ := rp
      walk_at "go"
      refine ⟨t, _, rfl, .inl (.inl e7), rfl, _, _, rfl, _, _, rfl, rfl, ?_⟩
      have hq7 := hq6.more s7
      have hl7 : (qs.map V.ref).length < sizeLine := by
        have h1 := congrArg List.length e
        rw [List.length_append, cbP_len] at h1
        rw [List.length_map, hq.2.1]
        exact Nat.lt_of_le_of_lt (show _ ≤ 100000 by omega) (by decide)
      walk_at "go"
      refine ⟨.inl ⟨rfl, _, .inl (.inl hq7.1)⟩, ?_⟩
      have fin : ∀ T2, H7 T2 = none → RisH (upd H7 T2 (.tup [.int (prt m (lo, hi3)).1, oV (prt m (lo, hi3)).2])) p qs rs1 ∧ RisH (upd (upd H7 T2 (.tup [.int (prt m (lo, hi3)).1, oV (prt m (lo, hi3)).2])) p (.lst (qs.map V.ref ++ [.ref T2]))) p (qs ++ [T2]) (rs1 ++ [prt m (lo, hi3)]) ∧ Same H3 (upd (upd H7 T2 (.tup [.int (prt m (lo, hi3)).1, oV (prt m (lo, hi3)).2])) p (.lst (qs.map V.ref ++ [.ref T2]))) := by
        intro T2 nT2
        have s8 := same_new (o := .tup [.int (prt m (lo, hi3)).1, oV (prt m (lo, hi3)).2]) nT2
        have hq8 := hq7.more s8
        exact ⟨hq8, hq8.snoc upd_same, Z.Same.mut (s36.trans (s7.trans s8)) np⟩
      have e9 : (rs1 ++ [prt m (lo, hi3)]) ++ cbP (cbF s rs s' rs' sm) (ms.drop (i + 1)) = cbP (cbF s rs s' rs' sm) ms := by
        rw [List.append_assoc]
        exact e
      cases hi3 with
      | none =>
        walk_at "go"
        intro T2 nT2
        obtain ⟨h1, h2, h3⟩ := fin T2 nT2
        refine ⟨_, _, _, rfl, rfl, h1.1, hl7, ?_⟩
        exact ⟨h3, _, _, _, _, _, _, _, h2, e9, rfl⟩
      | some y =>
        walk_at "go"
        intro T2 nT2
        obtain ⟨h1, h2, h3⟩ := fin T2 nT2
        refine ⟨_, _, _, rfl, rfl, h1.1, hl7, ?_⟩
        exact ⟨h3, _, _, _, _, _, _, _, h2, e9, rfl⟩
    · rintro σ H5 ⟨s5, qs, rs1, v7, v8, v9, v10, v11, hq, e, rfl⟩
      rw [List.drop_length] at e
      have e : rs1 ++ [] = _ := e
      rw [List.append_nil] at e
      rw [e] at hq
      exact ⟨s5, qs, _, _, _, _, _, hq, rfl⟩
end
end Zn
set_option Elab.async false
set_option linter.all false
set_option maxRecDepth 100000
set_option maxHeartbeats 4000000
namespace Z
open PySem PySem.Spec PyProof.Rows L2
/-! ### a op b by the class's own method -/
structure Bin2 (P : Program) (w : World) (K : PySem.W.Frag) (mg : Str → Option Value) (base : Heap) (k : Nat) (C : Addr) (m : Str) (sp : Sp) : Prop where
  ex : ∃ (f : Addr) (fd : FuncData) (ps : List Str), FnOk P w K mg base CX0 k f fd ps sp ∧ PySem.W.findIn K (.ref C) m = some (some (.ref f)) ∧ PySem.W.isFn K (.ref f) = true ∧ Binds K fd ps [] ∧ PySem.W.selfFirst K C = true
def rBin (C : Addr) (sp : Sp) : R2 := fun x y H Q => ∃ a b dx dy fs gs, x = .ref a ∧ y = .ref b ∧ H a = some (.ins C dx fs) ∧ H b = some (.ins C dy gs) ∧ sp [.ref a, .ref b] H (fun v H' => ∃ p, v = .ref p ∧ Q v H') E0
theorem op_bin {X : Cx} {k j : Nat} {C : Addr} {sp : Sp} {op : Operator} (c : Bin2 X.prog X.w X.K X.mg X.base k C (PySem.dunder op.info.2) sp) (hr : Room j X.A) (hk : k ≤ j) : OpR X (binaryOp op) (rBin C sp) := by
  intro pins s σ H x y v u Q I rx ry hq
  obtain ⟨f, fd, ps, F, hs, hf, hb, sf⟩ := c.ex
  obtain ⟨a, b, dx, dy, fs, gs, rfl, rfl, ha, hb', q⟩ := hq
  cases rx
  cases ry
  obtain ⟨mA, J, _⟩ := ins_get I.hok ha
  obtain ⟨mB, J', _⟩ := ins_get I.hok hb'
  obtain ⟨od, J, _⟩ := J.look
  obtain ⟨od', J', _⟩ := J'.look
  obtain ⟨m, hF⟩ := I.fr
  refine PySem.W.binop_K hF I.ok.mod.kin J J'.type sf hs hf ?_
  have r2 : Vals [V.ref a, V.ref b] [Value.ref a, Value.ref b] := .cons rfl (.cons rfl .nil)
  refine thn (run_fn (dvs := []) F (hr.mono hk) hb .nil pass0 I r2 q) fun r s' z => ?_
  obtain ⟨v, H', I', rv, p, rfl, q'⟩ := z
  cases rv
  exact ⟨.ref p, H', I', rfl, q'⟩
/-! ### a op n, n an int, by the class's own method, which may raise -/
structure BinI (P : Program) (w : World) (K : PySem.W.Frag) (mg : Str → Option Value) (base : Heap) (k : Nat) (C : Addr) (op : Operator) (sp : Sp) : Prop where
  ex : ∃ (f : Addr) (fd : FuncData) (ps : List Str) (fo ro : Option Value), FnOk P w K mg base (L2N.CX P w) k f fd ps sp ∧ PySem.W.findIn K (.ref C) (PySem.dunder op.info.2) = some (some (.ref f)) ∧ PySem.W.isFn K (.ref f) = true ∧ Binds K fd ps [] ∧ PySem.W.selfFirst K C = true ∧
    PySem.W.findIn K (.ref C) (dunderR op.info.2) = some none ∧ PySem.W.findIn K (.type "int") (PySem.dunder op.info.2) = some fo ∧ PySem.W.findIn K (.type "int") (dunderR op.info.2) = some ro ∧ PySem.W.subIn K (.type "int") (.ref C) = some false
def tOpE (C : Addr) (sp : Sp) (E : L2.St → XK) (ta tb : TE) : TE := fun σ H Q => ta σ H fun x H1 => tb σ H1 fun y H2 => ∃ a n dx fs, x = .ref a ∧ y = .int n ∧ H2 a = some (.ins C dx fs) ∧ sp [.ref a, .int n] H2 (fun v H' => ∃ p, v = .ref p ∧ Q v H') (E σ)
theorem pe_opE {X : Cx} {k j : Nat} {C : Addr} {sp : Sp} {op : Operator} {E : L2.St → XK} {a b : Expr} {ta tb : TE} {pos : Pos} (c : BinI X.prog X.w X.K X.mg X.base k C op sp) (hx : ∀ σ, PassesAt (L2N.CX X.prog X.w) X σ (E σ)) (hr : Room j X.A) (hk : k ≤ j) (ha : PE X a ta) (hb : PE X b tb) : PE X (.BinOp a op b pos) (tOpE C sp E ta tb) := by
  obtain ⟨f, fd, ps, fo, ro, F, hs, hf, hbi, sf, hr0, h1, h2, hsub⟩ := c.ex
  refine ⟨fun pins s σ H Q I h => ?_⟩
  refine wpAny_BinOp (binT ha hb I h fun v u s2 x y H2 I2 rx ry q => ?_)
  obtain ⟨a, n, dx, fs, rfl, rfl, ea, q⟩ := q
  cases rx
  obtain ⟨tk, rfl⟩ := ry
  obtain ⟨mA, J, _⟩ := ins_get I2.hok ea
  obtain ⟨od, J, _⟩ := J.look
  obtain ⟨m, hF⟩ := I2.fr
  refine PySem.W.ksp_binT (T := "int") (fo := fo) (ro := ro) (rc := none) hF I2.ok.mod.kin J rfl sf hs hf hr0 (.inl rfl) h1 h2 hsub ?_
  refine thn (wpAny_call (run_atE (vs := [.ref a, .int n]) (us := [.ref a, .int n tk]) F hbi (hx σ) (hr.mono hk) I2 (.cons rfl (.cons ⟨_, rfl⟩ .nil)) q)) fun r s' z => ?_
  obtain ⟨v, H', I', rv, p, rfl, q'⟩ := z
  cases rv
  exact ⟨.ref p, H', I', rfl, q'⟩
end Z
set_option pp.maxSteps 700
set_option Elab.async false
set_option linter.all false
set_option maxRecDepth 100000
set_option maxHeartbeats 4000000
namespace Zn
open Z
open Nd
open PySem PySem.Spec PyProof.Rows L2
open C8 (pss_cut tCut)
local macro_rules | `(tactic| walk_at "num") => `(tactic| first | rfl | omega | decide | exact Nat.le_of_lt (small1000 (by simp)) | exact ⟨by omega, by omega⟩ | exact ⟨by omega, by omega, by omega⟩ | exact ⟨by decide, by decide, by decide⟩ | exact Or.inl ⟨by omega, by omega⟩ | exact Or.inr ⟨by omega, by omega⟩)
local macro_rules | `(tactic| walk_at "go") => `(tactic| repeat (first | refine ⟨_, rfl, ?_⟩ | refine ⟨_, _, rfl, rfl, ?_⟩ | refine ⟨_, _, rfl, ?_⟩ | (refine ⟨_, _, rfl, rfl, ?_, ?_⟩; focus walk_at "num") | refine Or.inl ⟨_, rfl, ?_⟩ | refine ⟨_, _, _, _, rfl, rfl, (by assumption), (by rfl), ?_⟩ | refine ⟨_, _, _, _, _, rfl, (by assumption), (by assumption), (by assumption), (by rfl), ?_⟩ | refine ⟨rfl, ?_⟩ | (refine And.intro ?_ ?_; focus walk_at "num")))
abbrev s_Need___rshift__ : Stmt := inClass (topS 24) 5
abbrev N_Need___rshift__ : List Str := ["self", "other", "start", "rises"]
abbrev P_Need___rshift__ : List Str := ["self", "other"]
theorem sc_Need___rshift__ : FnScope N_Need___rshift__ P_Need___rshift__ (defScope s_Need___rshift__) := ⟨rfl, rfl, rfl, by decide +kernel, rfl, by decide +kernel, by decide +kernel⟩
abbrev s_Need___or__ : Stmt := inClass (topS 24) 6
abbrev N_Need___or__ : List Str := ["self", "other", "start", "rises", "never"]
abbrev P_Need___or__ : List Str := ["self", "other"]
theorem sc_Need___or__ : FnScope N_Need___or__ P_Need___or__ (defScope s_Need___or__) := ⟨rfl, rfl, rfl, by decide +kernel, rfl, by decide +kernel, by decide +kernel⟩
abbrev s_Need___and__ : Stmt := inClass (topS 24) 7
abbrev N_Need___and__ : List Str := ["self", "other", "start", "rises", "never"]
abbrev P_Need___and__ : List Str := ["self", "other"]
theorem sc_Need___and__ : FnScope N_Need___and__ P_Need___and__ (defScope s_Need___and__) := ⟨rfl, rfl, rfl, by decide +kernel, rfl, by decide +kernel, by decide +kernel⟩
abbrev s_Need___mul__ : Stmt := inClass (topS 24) 8
abbrev N_Need___mul__ : List Str := ["self", "count", "result", "lap"]
abbrev P_Need___mul__ : List Str := ["self", "count"]
theorem sc_Need___mul__ : FnScope N_Need___mul__ P_Need___mul__ (defScope s_Need___mul__) := ⟨rfl, rfl, rfl, by decide +kernel, rfl, by decide +kernel, by decide +kernel⟩
/-! ### the fields of the results are right -/
theorem ok_vals {s t : Int} {rs : Rs} {nv : Option Int} {v : Int} (ok : Ok (some s) rs nv) (e : nv = some v) (k : Int) : s + Fs rs k ≤ v := by
  obtain ⟨t, h1, h2⟩ := ok.2.2 v e
  have := le_top ok.1 h1 k
  omega
theorem ok_pos {s : Int} {rs : Rs} {nv : Option Int} (ok : Ok (some s) rs nv) (k : Int) : 0 ≤ s + Fs rs k := by
  have h1 := ok.2.1 s rfl
  have h2 := (Fs_slope (x := k) (y := k) (Int.le_refl _) ok.1).1
  omega
theorem ok_nvpos {st : Option Int} {rs : Rs} {nv : Option Int} (ok : Ok st rs nv) : ∀ i, nv = some i → 0 ≤ i := by
  intro i e
  cases st with
  | none =>
    obtain ⟨t, h, _⟩ := ok.2.2 i e
    cases h
  | some s =>
    have h1 := ok_vals (t := 0) ok e 0
    have h2 := ok_pos ok 0
    omega
theorem ok_comp {s s' : Int} {rs rs' J : Rs} {nv nv' : Option Int} (ok : Ok (some s) rs nv) (ok' : Ok (some s') rs' nv') (gJ : Good (-1) J) (hJ : ∀ k, Fs J k = Fs rs (s' + Fs rs' k) - Fs rs s') : Ok (some (s + Fs rs s')) J (val (some s) rs nv nv') := by
  refine ⟨gJ, fun x e => ?_, fun v e => ?_⟩
  · cases e
    exact ok_pos ok s'
  · refine top_le gJ (fun k _ => ?_)
    rw [hJ k]
    cases nv' with
    | none =>
      have e : nv = some v := e
      have := ok_vals (t := 0) ok e (s' + Fs rs' k)
      omega
    | some x =>
      have e : s + Fs rs x = v := Option.some.inj e
      have h1 := ok_vals (t := 0) ok' rfl k
      have h2 := (Fs_slope h1 ok.1).2.1
      omega
theorem ok_const {nv : Option Int} (h : ∀ i, nv = some i → 0 ≤ i) : Ok nv [] nv := by
  refine ⟨?_, fun s e => h s e, fun v e => ?_⟩
  · cases nv with
    | none => rfl
    | some v => trivial
  · subst e
    exact ⟨v, rfl, Int.le_refl _⟩
def smO (a b : Option Int) : Option Int := if am a b = true then a else b
def grO (a b : Option Int) : Option Int := if am a b = true then b else a
def mmO (sm : Bool) (a b : Option Int) : Option Int := if sm = true then smO a b else grO a b
theorem mmO_some (sm : Bool) (x y : Int) : mmO sm (some x) (some y) = some (mm sm x y) := by
  unfold mmO mm smO grO
  have e : am (some x) (some y) = decide (x ≤ y) := rfl
  rw [e]
  cases sm with
  | true =>
    rw [if_pos rfl, if_pos rfl]
    by_cases h : x ≤ y
    · rw [decide_eq_true h, if_pos rfl]
      congr 1
      omega
    · rw [decide_eq_false h, if_neg (by simp)]
      congr 1
      omega
  | false =>
    simp only [Bool.false_eq_true, if_false]
    by_cases h : x ≤ y
    · rw [decide_eq_true h, if_pos rfl]
      congr 1
      omega
    · rw [decide_eq_false h, if_neg (by simp)]
      congr 1
      omega
theorem ok_comb {sm : Bool} {s s' : Int} {rs rs' J : Rs} {nv nv' : Option Int} (ok : Ok (some s) rs nv) (ok' : Ok (some s') rs' nv') (gJ : Good (-1) J) (hJ : ∀ k, 0 ≤ k → mm sm s s' + Fs J k = mm sm (s + Fs rs k) (s' + Fs rs' k)) : Ok (some (mm sm s s')) J (mmO sm nv nv') := by
  have p1 := ok.2.1 s rfl
  have p2 := ok'.2.1 s' rfl
  refine ⟨gJ, fun x e => ?_, fun v e => ?_⟩
  · cases e
    unfold mm
    split <;> omega
  · have key : ∀ k, 0 ≤ k → mm sm s s' + Fs J k ≤ v := by
      intro k hk
      rw [hJ k hk]
      cases nv with
      | none =>
        cases nv' with
        | none => cases sm <;> cases e
        | some y =>
          cases sm with
          | false => cases e
          | true =>
            have e : y = v := Option.some.inj e
            have := ok_vals (t := 0) ok' rfl k
            show (if true = true then min _ _ else _) ≤ v
            rw [if_pos rfl]
            omega
      | some x =>
        have h1 := ok_vals (t := 0) ok rfl k
        cases nv' with
        | none =>
          cases sm with
          | false => cases e
          | true =>
            have e : x = v := Option.some.inj e
            show (if true = true then min _ _ else _) ≤ v
            rw [if_pos rfl]
            omega
        | some y =>
          have h2 := ok_vals (t := 0) ok' rfl k
          rw [mmO_some] at e
          have e : mm sm x y = v := Option.some.inj e
          unfold mm at e ⊢
          (repeat' split at e) <;> (repeat' split) <;> first | omega | simp_all
    refine top_le gJ (fun k hk => ?_)
    by_cases h : 0 ≤ k
    · exact key k h
    · have h1 := key 0 (Int.le_refl _)
      have h2 := (Fs_slope (x := k) (y := 0) (by omega) gJ).2.1
      omega
def okk (k : Option Int) : Prop := ∀ i, k = some i → 0 ≤ i
theorem okk_val {st nv k : Option Int} {rs : Rs} (ok : Ok st rs nv) : okk (val st rs nv k) := by
  intro i e
  cases st with
  | none => exact ok_nvpos ok i e
  | some s =>
    cases k with
    | none => exact ok_nvpos ok i e
    | some k =>
      have e : s + Fs rs k = i := Option.some.inj e
      have := ok_pos ok k
      omega
theorem ok_none {rs : Rs} {nv : Option Int} (h : Ok none rs nv) : nv = none ∧ rs = [] := by
  refine ⟨?_, h.1⟩
  cases nv with
  | none => rfl
  | some v =>
    obtain ⟨t, e, _⟩ := h.2.2 v rfl
    cases e
/-! ### repeated use -/
def itN (g : Option Int → Option Int) : Nat → Option Int → Option Int
  | 0, k => k
  | n + 1, k => g (itN g n k)
section
variable {P : Program} {w : World} {K : PySem.W.Frag} {mg : Str → Option Value} {base : Heap} {f C CB : Addr} {fd : FuncData}
def spRsh (C : Addr) (K : PySem.W.Frag) : Sp := fun vs H Q _ => ∃ (n m : Addr) (st nv st' nv' : Option Int) (rs rs' : Rs), vs = [.ref n, .ref m] ∧ NeedAt C K H n st rs nv ∧ NeedAt C K H m st' rs' nv' ∧ Ok st rs nv ∧ Ok st' rs' nv' ∧ rs.length + rs'.length ≤ 50000 ∧
  ∀ p H' st2 rs2 nv2, Same H H' → NeedAt C K H' p st2 rs2 nv2 → Ok st2 rs2 nv2 → (∀ k, okk k → val st2 rs2 nv2 k = val st rs nv (val st' rs' nv' k)) → rs2.length ≤ rs.length + rs'.length → Q (.ref p) H'
theorem ok_rshift (F : FnM K "__rshift__" "Need.__rshift__" s_Need___rshift__ f fd) (cls : Cls K C) (n_start : NoAttr K C "start") (n_rises : NoAttr K C "rises") (n_never : NoAttr K C "never") (k_Need : Mak P w K mg base 2 "Need" (spNeed C K)) (me_value_for : Met P w K mg base 2 C "value_for" (spCallN C K)) (c_composed : Cal P w K mg base 2 "composed" (spComposed K)) : FnOk P w K mg base CX0 4 f fd P_Need___rshift__ (spRsh C K) := by
  refine F.ok sc_Need___rshift__ (fun vs H Q E h => ?_) (fun cdv A outer s H vs Q E hr h => ?_)
  · obtain ⟨n, m, st, nv, st', nv', rs, rs', rfl, _⟩ := h
    rfl
  · obtain ⟨n, m, st, nv, st', nv', rs, rs', rfl, hN, hM, ok, ok', hl, q⟩ := h
    have hN0 := hN
    obtain ⟨dx, r, ps, hn, hR, er⟩ := hN0
    have hM0 := hM
    obtain ⟨dy, r', ps', hm, hR', er'⟩ := hM0
    refine ⟨_, PSs.nox (pss_cons (ps_if (pt_cmpR op_isN (pe_fld (pv 0) rfl) pe_non (nomark _)) (pss_one (ps_ret (pe_mk k_Need hr (by decide) (by rfl) (pa_cons pe_non (pa_cons (pe_tup pa_nil) (pa_cons pe_non pa_nil)))))) pss_nil)
      (pss_cons (ps_if (pt_cmpR op_isN (pe_fld (pv 1) rfl) pe_non (nomark _)) (pss_one (ps_ret (pe_mk k_Need hr (by decide) (by rfl) (pa_cons (pe_fld (pv 0) rfl) (pa_cons (pe_tup pa_nil) (pa_cons (pe_fld (pv 0) rfl) pa_nil)))))) pss_nil)
      (pss_cons (ps_asg (pe_cl c_composed hr (by decide) (by rfl) (pa_cons (pe_tup (pa_cons (pe_fld (pv 0) rfl) (pa_cons (pe_fld (pv 0) rfl) pa_nil))) (pa_cons (pe_tup (pa_cons (pe_fld (pv 1) rfl) (pa_cons (pe_fld (pv 1) rfl) pa_nil))) pa_nil))) (pg_tup rfl (pgs_cons (pg_name (i := 2) sc_Need___rshift__.nd rfl (by first | exact .inl rfl | exact .inr rfl)) (pgs_cons (pg_name (i := 3) sc_Need___rshift__.nd rfl (by first | exact .inl rfl | exact .inr rfl)) pgs_nil))))
      (pss_one (ps_ret (pe_mk k_Need hr (by decide) (by rfl) (pa_cons (pv 2) (pa_cons (pv 3) (pa_cons (pe_me me_value_for (pv 0) hr (by decide) (pa_cons (pe_fld (pv 1) rfl) pa_nil)) pa_nil))))))))), ?_⟩
    cases st with
    | none =>
      obtain ⟨rfl, rfl⟩ := ok_none ok
      walk_at "go"
      intro t nt
      have s1 := same_new (o := .tup []) nt
      walk_at "go"
      refine ⟨false, false, none, none, t, [], [], rfl, ris_nil (.inl (.inl upd_same)), by decide, ok_const nofun, fun p H2 s2 _ hP => ?_⟩
      exact q p H2 none [] none (s1.trans s2) hP (ok_const nofun) (fun k _ => rfl) (by simp)
    | some s0 =>
      cases st' with
      | none =>
        obtain ⟨rfl, rfl⟩ := ok_none ok'
        walk_at "go"
        intro t nt
        have s1 := same_new (o := .tup []) nt
        have hn1 := s1 _ _ hn
        have eR : Ris false false K (upd H t (.tup [])) t [] [] := ris_nil (.inl (.inl upd_same))
        generalize upd H t (.tup []) = H1 at s1 hn1 eR ⊢
        walk_at "go"
        have okc := ok_const (ok_nvpos ok)
        refine ⟨false, false, nv, nv, t, [], [], rfl, eR, by decide, okc, fun p H2 s2 _ hP => ?_⟩
        refine q p H2 nv [] nv (s1.trans s2) hP okc (fun k _ => ?_) (by simp)
        show val nv [] nv k = nv
        cases nv with
        | none => rfl
        | some v =>
          cases k with
          | none => rfl
          | some k =>
            show some (v + Fs [] k) = some v
            rw [Fs_nil, Int.add_zero]
      | some s' =>
        walk_at "go"
        intro t nt
        have s1 := same_new (o := .tup [oV (some s0), .ref r]) nt
        have hm1 := s1 _ _ hm
        have e1 : SqT K (upd H t (.tup [oV (some s0), .ref r])) t [.int s0, .ref r] := .inl (.inl upd_same)
        generalize upd H t (.tup [oV (some s0), .ref r]) = H1 at s1 hm1 e1 ⊢
        walk_at "go"
        intro t2 nt2
        have s2 := same_new (o := .tup [oV (some s'), .ref r']) nt2
        have e2 : SqT K (upd H1 t2 (.tup [oV (some s'), .ref r'])) t2 [.int s', .ref r'] := .inl (.inl upd_same)
        have e1 := Z.Same.sqT s2 e1
        have s02 := s1.trans s2
        generalize upd H1 t2 (.tup [oV (some s'), .ref r']) = H2 at s2 e2 e1 s02 ⊢
        walk_at "go"
        refine ⟨t, t2, s0, s', rs, rs', rfl, ⟨r, ps, e1, hR.mono s02⟩, ⟨r', ps', e2, hR'.mono s02⟩, ok.1, ok'.1, hl, fun t3 r3 qs3 H3 s3 e3 hR3 => ?_⟩
        have s03 := s02.trans s3
        have hn3 := s03 _ _ hn
        have hm3 := s03 _ _ hm
        obtain ⟨c1, c2, _⟩ := comp_ok (outer := rs) (inner := rs') ok.1 ok'.1 (ok'.2.1 s' rfl)
        have c3 : (join (cpO rs s' rs')).length ≤ rs.length + rs'.length := by
          have h1 := join_len (cpO rs s' rs') []
          have h2 := cpO_len2 (v := s') ok.1 ok'.1
          show ((cpO rs s' rs').foldl jS []).length ≤ _
          simp only [List.length_nil, Nat.zero_add] at h1
          omega
        generalize join (cpO rs s' rs') = J at hR3 c1 c2 c3
        walk_at "go"
        refine ⟨t3, _, rfl, .inl (.inl e3), rfl, _, _, rfl, _, _, rfl, rfl, ?_⟩
        walk_at "go"
        refine ⟨n, dx, _, rfl, hn3, rfl, ?_⟩
        walk_at "go"
        refine ⟨some s0, nv, nv', n, rs, rfl, hN.mono s03, ok, ok_nvpos ok', ?_⟩
        walk_at "go"
        have okJ := ok_comp ok ok' c1 c2
        refine ⟨false, false, some (s0 + Fs rs s'), _, r3, qs3, J, rfl, hR3, by omega, okJ, fun p H4 s4 _ hP => ?_⟩
        refine q p H4 _ _ _ (s03.trans s4) hP okJ (fun k hk => ?_) c3
        cases k with
        | none => rfl
        | some k =>
          show some (s0 + Fs rs s' + Fs J k) = some (s0 + Fs rs (s' + Fs rs' k))
          rw [c2 k]
          congr 1
          omega
end
end Zn
set_option pp.maxSteps 700
set_option Elab.async false
set_option linter.all false
set_option maxRecDepth 100000
set_option maxHeartbeats 4000000
namespace Zn
open Z
open Nd
open PySem PySem.Spec PyProof.Rows L2
open C8 (pss_cut tCut)
local macro_rules | `(tactic| walk_at "num") => `(tactic| first | rfl | omega | decide | exact Nat.le_of_lt (small1000 (by simp)) | exact ⟨by omega, by omega⟩ | exact ⟨by omega, by omega, by omega⟩ | exact ⟨by decide, by decide, by decide⟩ | exact Or.inl ⟨by omega, by omega⟩ | exact Or.inr ⟨by omega, by omega⟩)
local macro_rules | `(tactic| walk_at "go") => `(tactic| repeat (first | refine ⟨_, rfl, ?_⟩ | refine ⟨_, _, rfl, rfl, ?_⟩ | refine ⟨_, _, rfl, ?_⟩ | (refine ⟨_, _, rfl, rfl, ?_, ?_⟩; focus walk_at "num") | refine Or.inl ⟨_, rfl, ?_⟩ | refine ⟨_, _, _, _, rfl, rfl, (by assumption), (by rfl), ?_⟩ | refine ⟨_, _, _, _, _, rfl, (by assumption), (by assumption), (by assumption), (by rfl), ?_⟩ | refine ⟨rfl, ?_⟩ | (refine And.intro ?_ ?_; focus walk_at "num")))
theorem smO_r (a : Option Int) : smO a none = a := if_pos (by cases a <;> rfl)
theorem smO_l (a : Option Int) : smO none a = a := by
  cases a with
  | none => rfl
  | some x => rfl
theorem grO_r (a : Option Int) : grO a none = none := if_pos (by cases a <;> rfl)
theorem grO_l (a : Option Int) : grO none a = none := by
  cases a with
  | none => rfl
  | some x => rfl
section
variable {P : Program} {w : World} {K : PySem.W.Frag} {mg : Str → Option Value} {base : Heap} {f C CB : Addr} {fd : FuncData}
def spMM (sm : Bool) (C : Addr) (K : PySem.W.Frag) : Sp := fun vs H Q _ => ∃ (n m : Addr) (st nv st' nv' : Option Int) (rs rs' : Rs), vs = [.ref n, .ref m] ∧ NeedAt C K H n st rs nv ∧ NeedAt C K H m st' rs' nv' ∧ Ok st rs nv ∧ Ok st' rs' nv' ∧ rs.length ≤ 20000 ∧ rs'.length ≤ 20000 ∧
  ∀ p H' st2 rs2 nv2, Same H H' → NeedAt C K H' p st2 rs2 nv2 → Ok st2 rs2 nv2 → (∀ k, okk k → val st2 rs2 nv2 k = mmO sm (val st rs nv k) (val st' rs' nv' k)) → rs2.length ≤ 2 * (rs.length + rs'.length) + 1 → Q (.ref p) H'
theorem ok_or (F : FnM K "__or__" "Need.__or__" s_Need___or__ f fd) (cls : Cls K C) (n_start : NoAttr K C "start") (n_rises : NoAttr K C "rises") (n_never : NoAttr K C "never") (k_Need : Mak P w K mg base 2 "Need" (spNeed C K)) (c_combined : CalK P w K mg base 2 "combined" 2 ["smaller"] (fun vs zs => vs ++ zs) (spCombined2 K)) : FnOk P w K mg base CX0 4 f fd P_Need___or__ (spMM true C K) := by
  refine F.ok sc_Need___or__ (fun vs H Q E h => ?_) (fun cdv A outer s H vs Q E hr h => ?_)
  · obtain ⟨n, m, st, nv, st', nv', rs, rs', rfl, _⟩ := h
    rfl
  · obtain ⟨n, m, st, nv, st', nv', rs, rs', rfl, hN, hM, ok, ok', l1, l2, q⟩ := h
    have hN0 := hN
    obtain ⟨dx, r, ps, hn, hR, er⟩ := hN0
    have hM0 := hM
    obtain ⟨dy, r', ps', hm, hR', er'⟩ := hM0
    refine ⟨_, PSs.nox (pss_cons (ps_if (pt_cmpR op_isN (pe_fld (pv 0) rfl) pe_non (nomark _)) (pss_one (ps_ret (pv 1))) pss_nil)
      (pss_cons (ps_if (pt_cmpR op_isN (pe_fld (pv 1) rfl) pe_non (nomark _)) (pss_one (ps_ret (pv 0))) pss_nil)
      (pss_cons (ps_asg (pe_clK c_combined hr (by decide) (by rfl) (pa_cons (pe_tup (pa_cons (pe_fld (pv 0) rfl) (pa_cons (pe_fld (pv 0) rfl) pa_nil))) (pa_cons (pe_tup (pa_cons (pe_fld (pv 1) rfl) (pa_cons (pe_fld (pv 1) rfl) pa_nil))) pa_nil)) (pk_cons pe_bl pk_nil)) (pg_tup rfl (pgs_cons (pg_name (i := 2) sc_Need___or__.nd rfl (by first | exact .inl rfl | exact .inr rfl)) (pgs_cons (pg_name (i := 3) sc_Need___or__.nd rfl (by first | exact .inl rfl | exact .inr rfl)) pgs_nil))))
      (pss_cons (ps_set (i := 4) sc_Need___or__.nd rfl (by first | exact .inl rfl | exact .inr rfl) (pe_fld (pv 0) rfl))
      (pss_cut (ps_if (PW.pt (pw_or (pt_cmpR op_isN (pv 4) pe_non (nomark _)) (pw_or1 (PW.pt (pw_and (pt_cmpR op_notN (pe_fld (pv 1) rfl) pe_non (nomark _)) (pw_and1 (pt_cmpR op_lt (pe_fld (pv 1) rfl) (pv 4) (nomark _)))))))) (pss_one (ps_set (i := 4) sc_Need___or__.nd rfl (by first | exact .inl rfl | exact .inr rfl) (pe_fld (pv 1) rfl))) pss_nil)
      (pss_one (ps_ret (pe_mk k_Need hr (by decide) (by rfl) (pa_cons (pv 2) (pa_cons (pv 3) (pa_cons (pv 4) pa_nil))))))))))), ?_⟩
    cases st with
    | none =>
      obtain ⟨rfl, rfl⟩ := ok_none ok
      walk_at "go"
      exact q m H st' rs' nv' (Same.refl _) hM ok' (fun k _ => (smO_l _).symm) (by omega)
    | some s0 =>
      cases st' with
      | none =>
        obtain ⟨rfl, rfl⟩ := ok_none ok'
        walk_at "go"
        exact q n H (some s0) rs nv (Same.refl _) hN ok (fun k _ => (smO_r _).symm) (by omega)
      | some s' =>
        walk_at "go"
        intro t nt
        have s1 := same_new (o := .tup [oV (some s0), .ref r]) nt
        have hm1 := s1 _ _ hm
        have e1 : SqT K (upd H t (.tup [oV (some s0), .ref r])) t [.int s0, .ref r] := .inl (.inl upd_same)
        generalize upd H t (.tup [oV (some s0), .ref r]) = H1 at s1 hm1 e1 ⊢
        walk_at "go"
        intro t2 nt2
        have s2 := same_new (o := .tup [oV (some s'), .ref r']) nt2
        have e2 : SqT K (upd H1 t2 (.tup [oV (some s'), .ref r'])) t2 [.int s', .ref r'] := .inl (.inl upd_same)
        have e1 := Z.Same.sqT s2 e1
        have s02 := s1.trans s2
        generalize upd H1 t2 (.tup [oV (some s'), .ref r']) = H2 at s2 e2 e1 s02 ⊢
        walk_at "go"
        refine ⟨t, t2, s0, s', rs, rs', true, rfl, ⟨r, ps, e1, hR.mono s02⟩, ⟨r', ps', e2, hR'.mono s02⟩, ok.1, ok'.1, l1, l2, fun t3 r3 qs3 J H3 s3 e3 hR3 c1 c2 c3 => ?_⟩
        have s03 := s02.trans s3
        have hn3 := s03 _ _ hn
        have hm3 := s03 _ _ hm
        walk_at "go"
        refine ⟨t3, _, rfl, .inl (.inl e3), rfl, _, _, rfl, _, _, rfl, rfl, ?_⟩
        walk_at "go"
        refine ⟨fun σ' H' => H' = H3 ∧ σ' = [some (.ref n), some (.ref m), some (.int (mm true s0 s')), some (.ref r3), some (oV (mmO true nv nv'))], ?_, ?_⟩
        · cases nv with
          | none =>
            cases nv' with
            | none =>
              walk_at "go"
              rfl
            | some y =>
              walk_at "go"
              rfl
          | some x =>
            cases nv' with
            | none =>
              walk_at "go"
              rfl
            | some y =>
              rw [mmO_some]
              walk_at "go"
              refine ite2 (fun e => ?_) (fun e => ?_)
              · have c := of_decide_eq_true e
                rw [show mm true x y = y by unfold mm; simp; omega]
                walk_at "go"
                rfl
              · have c : ¬ y < x := fun z => e (decide_eq_true z)
                rw [show mm true x y = x by unfold mm; simp; omega]
                exact ⟨rfl, rfl⟩
        rintro σ' H4 ⟨e4, rfl⟩
        rw [e4]
        clear e4 H4
        have okJ := ok_comb ok ok' c1 c2
        walk_at "go"
        refine ⟨false, false, some (mm true s0 s'), _, r3, qs3, J, rfl, hR3, by omega, okJ, fun p H4 s4 _ hP => ?_⟩
        refine q p H4 _ _ _ (s03.trans s4) hP okJ (fun k hk => ?_) c3
        cases k with
        | none => rfl
        | some k =>
          show some (mm true s0 s' + Fs J k) = mmO true (some (s0 + Fs rs k)) (some (s' + Fs rs' k))
          rw [mmO_some, c2 k (hk k rfl)]
theorem ok_and (F : FnM K "__and__" "Need.__and__" s_Need___and__ f fd) (cls : Cls K C) (n_start : NoAttr K C "start") (n_rises : NoAttr K C "rises") (n_never : NoAttr K C "never") (k_Need : Mak P w K mg base 2 "Need" (spNeed C K)) (c_combined : CalK P w K mg base 2 "combined" 2 ["smaller"] (fun vs zs => vs ++ zs) (spCombined2 K)) : FnOk P w K mg base CX0 4 f fd P_Need___and__ (spMM false C K) := by
  refine F.ok sc_Need___and__ (fun vs H Q E h => ?_) (fun cdv A outer s H vs Q E hr h => ?_)
  · obtain ⟨n, m, st, nv, st', nv', rs, rs', rfl, _⟩ := h
    rfl
  · obtain ⟨n, m, st, nv, st', nv', rs, rs', rfl, hN, hM, ok, ok', l1, l2, q⟩ := h
    have hN0 := hN
    obtain ⟨dx, r, ps, hn, hR, er⟩ := hN0
    have hM0 := hM
    obtain ⟨dy, r', ps', hm, hR', er'⟩ := hM0
    refine ⟨_, PSs.nox (pss_cons (ps_if (PW.pt (pw_or (pt_cmpR op_isN (pe_fld (pv 0) rfl) pe_non (nomark _)) (pw_or1 (pt_cmpR op_isN (pe_fld (pv 1) rfl) pe_non (nomark _))))) (pss_one (ps_ret (pe_mk k_Need hr (by decide) (by rfl) (pa_cons pe_non (pa_cons (pe_tup pa_nil) (pa_cons pe_non pa_nil)))))) pss_nil)
      (pss_cons (ps_asg (pe_clK c_combined hr (by decide) (by rfl) (pa_cons (pe_tup (pa_cons (pe_fld (pv 0) rfl) (pa_cons (pe_fld (pv 0) rfl) pa_nil))) (pa_cons (pe_tup (pa_cons (pe_fld (pv 1) rfl) (pa_cons (pe_fld (pv 1) rfl) pa_nil))) pa_nil)) (pk_cons pe_bl pk_nil)) (pg_tup rfl (pgs_cons (pg_name (i := 2) sc_Need___and__.nd rfl (by first | exact .inl rfl | exact .inr rfl)) (pgs_cons (pg_name (i := 3) sc_Need___and__.nd rfl (by first | exact .inl rfl | exact .inr rfl)) pgs_nil))))
      (pss_cons (ps_set (i := 4) sc_Need___and__.nd rfl (by first | exact .inl rfl | exact .inr rfl) (pe_fld (pv 0) rfl))
      (pss_cut (ps_if (PW.pt (pw_and (pt_cmpR op_notN (pv 4) pe_non (nomark _)) (pw_and1 (PW.pt (pw_or (pt_cmpR op_isN (pe_fld (pv 1) rfl) pe_non (nomark _)) (pw_or1 (pt_cmpR op_gt (pe_fld (pv 1) rfl) (pv 4) (nomark _)))))))) (pss_one (ps_set (i := 4) sc_Need___and__.nd rfl (by first | exact .inl rfl | exact .inr rfl) (pe_fld (pv 1) rfl))) pss_nil)
      (pss_one (ps_ret (pe_mk k_Need hr (by decide) (by rfl) (pa_cons (pv 2) (pa_cons (pv 3) (pa_cons (pv 4) pa_nil)))))))))), ?_⟩
    cases st with
    | none =>
      obtain ⟨rfl, rfl⟩ := ok_none ok
      walk_at "go"
      intro t nt
      have s1 := same_new (o := .tup []) nt
      walk_at "go"
      refine ⟨false, false, none, none, t, [], [], rfl, ris_nil (.inl (.inl upd_same)), by decide, ok_const nofun, fun p H2 s2 _ hP => ?_⟩
      exact q p H2 none [] none (s1.trans s2) hP (ok_const nofun) (fun k _ => (grO_l _).symm) (by simp)
    | some s0 =>
      cases st' with
      | none =>
        obtain ⟨rfl, rfl⟩ := ok_none ok'
        walk_at "go"
        intro t nt
        have s1 := same_new (o := .tup []) nt
        walk_at "go"
        refine ⟨false, false, none, none, t, [], [], rfl, ris_nil (.inl (.inl upd_same)), by decide, ok_const nofun, fun p H2 s2 _ hP => ?_⟩
        exact q p H2 none [] none (s1.trans s2) hP (ok_const nofun) (fun k _ => (grO_r (val (some s0) rs nv k)).symm) (by simp)
      | some s' =>
        walk_at "go"
        intro t nt
        have s1 := same_new (o := .tup [oV (some s0), .ref r]) nt
        have hm1 := s1 _ _ hm
        have e1 : SqT K (upd H t (.tup [oV (some s0), .ref r])) t [.int s0, .ref r] := .inl (.inl upd_same)
        generalize upd H t (.tup [oV (some s0), .ref r]) = H1 at s1 hm1 e1 ⊢
        walk_at "go"
        intro t2 nt2
        have s2 := same_new (o := .tup [oV (some s'), .ref r']) nt2
        have e2 : SqT K (upd H1 t2 (.tup [oV (some s'), .ref r'])) t2 [.int s', .ref r'] := .inl (.inl upd_same)
        have e1 := Z.Same.sqT s2 e1
        have s02 := s1.trans s2
        generalize upd H1 t2 (.tup [oV (some s'), .ref r']) = H2 at s2 e2 e1 s02 ⊢
        walk_at "go"
        refine ⟨t, t2, s0, s', rs, rs', false, rfl, ⟨r, ps, e1, hR.mono s02⟩, ⟨r', ps', e2, hR'.mono s02⟩, ok.1, ok'.1, l1, l2, fun t3 r3 qs3 J H3 s3 e3 hR3 c1 c2 c3 => ?_⟩
        have s03 := s02.trans s3
        have hn3 := s03 _ _ hn
        have hm3 := s03 _ _ hm
        walk_at "go"
        refine ⟨t3, _, rfl, .inl (.inl e3), rfl, _, _, rfl, _, _, rfl, rfl, ?_⟩
        walk_at "go"
        refine ⟨fun σ' H' => H' = H3 ∧ σ' = [some (.ref n), some (.ref m), some (.int (mm false s0 s')), some (.ref r3), some (oV (mmO false nv nv'))], ?_, ?_⟩
        · cases nv with
          | none =>
            cases nv' with
            | none =>
              walk_at "go"
              rfl
            | some y =>
              walk_at "go"
              rfl
          | some x =>
            cases nv' with
            | none =>
              walk_at "go"
              rfl
            | some y =>
              rw [mmO_some]
              walk_at "go"
              refine ite2 (fun e => ?_) (fun e => ?_)
              · have c := of_decide_eq_true e
                rw [show mm false x y = y by unfold mm; simp; omega]
                walk_at "go"
                rfl
              · have c : ¬ y > x := fun z => e (decide_eq_true z)
                rw [show mm false x y = x by unfold mm; simp; omega]
                exact ⟨rfl, rfl⟩
        rintro σ' H4 ⟨e4, rfl⟩
        rw [e4]
        clear e4 H4
        have okJ := ok_comb ok ok' c1 c2
        walk_at "go"
        refine ⟨false, false, some (mm false s0 s'), _, r3, qs3, J, rfl, hR3, by omega, okJ, fun p H4 s4 _ hP => ?_⟩
        refine q p H4 _ _ _ (s03.trans s4) hP okJ (fun k hk => ?_) c3
        cases k with
        | none => rfl
        | some k =>
          show some (mm false s0 s' + Fs J k) = mmO false (some (s0 + Fs rs k)) (some (s' + Fs rs' k))
          rw [mmO_some, c2 k (hk k rfl)]
end
end Zn
set_option pp.maxSteps 700
set_option Elab.async false
set_option linter.all false
set_option maxRecDepth 100000
set_option maxHeartbeats 4000000
namespace Zn
open Z
open Nd
open PySem PySem.Spec PyProof.Rows L2
open C8 (pss_cut tCut)
local macro_rules | `(tactic| walk_at "num") => `(tactic| first | rfl | omega | decide | exact Nat.le_of_lt (small1000 (by simp)) | exact ⟨by omega, by omega⟩ | exact ⟨by omega, by omega, by omega⟩ | exact ⟨by decide, by decide, by decide⟩ | exact Or.inl ⟨by omega, by omega⟩ | exact Or.inr ⟨by omega, by omega⟩)
local macro_rules | `(tactic| walk_at "go") => `(tactic| repeat (first | refine ⟨_, rfl, ?_⟩ | refine ⟨_, _, rfl, rfl, ?_⟩ | refine ⟨_, _, rfl, ?_⟩ | (refine ⟨_, _, rfl, rfl, ?_, ?_⟩; focus walk_at "num") | refine Or.inl ⟨_, rfl, ?_⟩ | refine ⟨_, _, _, _, rfl, rfl, (by assumption), (by rfl), ?_⟩ | refine ⟨_, _, _, _, _, rfl, (by assumption), (by assumption), (by assumption), (by rfl), ?_⟩ | refine ⟨rfl, ?_⟩ | (refine And.intro ?_ ?_; focus walk_at "num")))
section
variable {P : Program} {w : World} {K : PySem.W.Frag} {mg : Str → Option Value} {base : Heap} {f C CB CH : Addr} {fd : FuncData}
theorem ok_id : Ok (some 0) [(0, none)] none := ⟨⟨by decide, rfl⟩, fun s e => by cases e; exact Int.le_refl _, nofun⟩
theorem val_id {k : Option Int} (h : okk k) : val (some 0) [(0, none)] none k = k := by
  cases k with
  | none => rfl
  | some i =>
    have := h i rfl
    show some (0 + Fs [(0, none)] i) = some i
    rw [Fs_cons, Fs_nil]
    congr 1
    unfold rise
    dsimp only
    split <;> omega
theorem okk_it {st nv : Option Int} {rs : Rs} (ok : Ok st rs nv) {k : Option Int} (hk : okk k) : ∀ n, okk (itN (val st rs nv) n k)
  | 0 => hk
  | n + 1 => okk_val ok
def spMul (C CB : Addr) (K : PySem.W.Frag) : Sp := fun vs H Q E => ∃ (n : Addr) (c : Int) (st nv : Option Int) (rs : Rs), vs = [.ref n, .int c] ∧ NeedAt C K H n st rs nv ∧ Ok st rs nv ∧
  (0 ≤ c → c ≤ 400 → rs.length * c.toNat + rs.length + 1 ≤ 50000 ∧ ∀ p H' st2 rs2 nv2, Same H H' → NeedAt C K H' p st2 rs2 nv2 → Ok st2 rs2 nv2 → (∀ k, okk k → val st2 rs2 nv2 k = itN (val st rs nv) c.toNat k) → rs2.length ≤ rs.length * c.toNat + 1 → Q (.ref p) H') ∧
  (c < 0 ∨ 400 < c → ∀ d, H d = none → E (.ref CB) (some d) (upd H d (.xd [("value", .int c)])))
theorem ok_mul (F : FnM K "__mul__" "Need.__mul__" s_Need___mul__ f fd) {tok : Tok} (g_MOST_TIMES : mg "MOST_TIMES" = some (.int 400 tok)) (m_range : mg "range" = none) (x_BadCount : Exn P w K mg base "BadCount" CB "value") (k_Need : Mak P w K mg base 2 "Need" (spNeed C K)) (o_rshift : Bin2 P w K mg base 4 C "__rshift__" (spRsh C K)) : FnOk P w K mg base (L2N.CX P w) 5 f fd P_Need___mul__ (spMul C CB K) := by
  refine F.ok sc_Need___mul__ (fun vs H Q E h => ?_) (fun cdv A outer s H vs Q E hr h => ?_)
  · obtain ⟨n, c, st, nv, rs, rfl, _⟩ := h
    rfl
  · obtain ⟨n, c, st, nv, rs, rfl, hN, ok, q, qe⟩ := h
    have tk := takes_fn (P := P) (w := w) (K := K) (mg := mg) (base := base) (N := N_Need___mul__) (qual := "Need.__mul__") (scope := defScope s_Need___mul__) (f := f) (cd := cdv) (A := A) (outer := outer) (s := s) (H := H) (E := E)
    refine ⟨_, (pss_cut (ps_if (PW.pt (pw_or (pt_cmpR op_lt (pv 1) pe_int (nomark _)) (pw_or1 (pt_cmpR op_gt (pv 1) (pe_glob (v := .int 400) (by rfl) g_MOST_TIMES ⟨_, rfl⟩) (nomark _))))) (pss_one (ps_exn rfl tk x_BadCount hr (by decide) (by rfl) (pa_cons (pv 1) pa_nil))) pss_nil)
      (pss_cons (ps_set (i := 2) sc_Need___mul__.nd rfl (by first | exact .inl rfl | exact .inr rfl) (pe_mk k_Need hr (by decide) (by rfl) (pa_cons pe_int (pa_cons (pe_tup (pa_cons (pe_tup (pa_cons pe_int (pa_cons pe_non pa_nil))) pa_nil)) (pa_cons pe_non pa_nil)))))
      (pss_cons (ps_for (passes_of rfl) rfl (pi_range1 (by rfl) m_range (pa_cons (pv 1) pa_nil)) (pg_name (i := 3) sc_Need___mul__.nd rfl (by first | exact .inl rfl | exact .inr rfl))
        (pss_one (ps_set (i := 2) sc_Need___mul__.nd rfl (by first | exact .inl rfl | exact .inr rfl) (pe_op (op_bin o_rshift hr (by decide)) (pv 0) (pv 2)))))
      (pss_one (ps_ret (pv 2)))))), ?_⟩
    refine cut_fact (p := 0 ≤ c ∧ c ≤ 400) ?_ ?_
    · walk_at "go"
      refine ite2 (fun e => ?_) (fun e => ?_)
      · have := of_decide_eq_true e
        walk_at "go"
        exact mkx_of (qe (.inl this))
      · have h1 : ¬ c < 0 := fun z => e (decide_eq_true z)
        walk_at "go"
        refine ite2 (fun e => ?_) (fun e => ?_)
        · have := of_decide_eq_true e
          walk_at "go"
          exact mkx_of (qe (.inr this))
        · have h2 : ¬ c > 400 := fun z => e (decide_eq_true z)
          exact ⟨rfl, rfl, by omega, by omega⟩
    rintro ⟨h0, h4⟩
    obtain ⟨hb, q⟩ := q h0 h4
    clear qe
    walk_at "go"
    intro t1 n1
    have s1 := same_new (o := .tup [.int 0, .non]) n1
    have e1 : SqT K (upd H t1 (.tup [.int 0, .non])) t1 [.int 0, .non] := .inl (.inl upd_same)
    generalize upd H t1 (.tup [.int 0, .non]) = H1 at s1 e1 ⊢
    walk_at "go"
    intro t2 n2
    have s2 := same_new (o := .tup [.ref t1]) n2
    have e2 : SqT K (upd H1 t2 (.tup [.ref t1])) t2 ([t1].map V.ref) := .inl (.inl upd_same)
    have e1 := Z.Same.sqT s2 e1
    have s02 := s1.trans s2
    generalize upd H1 t2 (.tup [.ref t1]) = H2 at s2 e1 e2 s02 ⊢
    have hR : Ris false false K H2 t2 [t1] [(0, none)] := ⟨e2, rfl, fun i p z h1 h2 => by
      cases i with
      | zero =>
        cases h1
        cases h2
        exact e1
      | succ i => cases h1⟩
    walk_at "go"
    refine ⟨false, false, some 0, none, t2, [t1], [(0, none)], rfl, hR, by decide, ok_id, fun p H3 s3 _ hP => ?_⟩
    walk_at "go"
    refine for_gen (n := c.toNat) (fun i σ H4 => Same H H4 ∧ ∃ (p : Addr) (st2 nv2 : Option Int) (rs2 : Rs) (v3 : Option V), NeedAt C K H4 p st2 rs2 nv2 ∧ Ok st2 rs2 nv2 ∧ (∀ k, okk k → val st2 rs2 nv2 k = itN (val st rs nv) i k) ∧ rs2.length ≤ rs.length * i + 1 ∧ σ = [some (.ref n), some (.int c), some (.ref p), v3]) ⟨s02.trans s3, p, _, _, _, none, hP, ok_id, fun k hk => val_id hk, by simp, rfl⟩ ?_ ?_ ?_ ?_
    · intro i σ H4 hi _
      exact hi
    · intro σ H4 _
      exact Nat.le_refl _
    · rintro i σ H4 x H' hi ⟨s4, p, st2, nv2, rs2, v3, hP, ok2, hv, hl, rfl⟩ ⟨rfl, rfl⟩
      have hN4 := hN.mono s4
      have hN5 := hN4
      have hP5 := hP
      obtain ⟨dx, r, ps, hn, _⟩ := hN5
      obtain ⟨dy, r2, ps2, hp, _⟩ := hP5
      walk_at "go"
      have hpw : rs.length + rs2.length ≤ rs.length * (i + 1) + 1 := by
        rw [Nat.mul_add, Nat.mul_one]
        omega
      have hpm : rs.length * (i + 1) ≤ rs.length * c.toNat := Nat.mul_le_mul_left _ hi
      refine ⟨n, p, dx, dy, _, _, rfl, rfl, hn, hp, n, p, st, nv, st2, nv2, rs, rs2, rfl, hN4, hP, ok, ok2, by omega, fun p5 H5 st5 rs5 nv5 s5 hP5 ok5 hv5 hl5 => ?_⟩
      refine ⟨p5, rfl, ?_⟩
      walk_at "go"
      refine ⟨s4.trans s5, p5, st5, nv5, rs5, _, hP5, ok5, fun k hk => ?_, Nat.le_trans hl5 hpw, rfl⟩
      rw [hv5 k hk, hv k hk]
      rfl
    · rintro σ H4 ⟨s4, p, st2, nv2, rs2, v3, hP, ok2, hv, hl, rfl⟩
      walk_at "go"
      exact q p H4 st2 rs2 nv2 s4 hP ok2 hv hl
end
end Zn
set_option pp.maxSteps 700
set_option Elab.async false
set_option linter.all false
set_option maxRecDepth 100000
set_option maxHeartbeats 4000000
namespace Zn
open Z Nd Pk
/-! ### the need of a pact, as a relation; one need fits -/
def OkN (t : Nn) : Prop := Zn.Ok t.1 t.2.1 t.2.2
def vN (t : Nn) (k : Option Int) : Option Int := val t.1 t.2.1 t.2.2 k
def idN : Nn := (some 0, [(0, none)], none)
def Comp (a b t : Nn) : Prop := OkN t ∧ ∀ k, okk k → vN t k = vN a (vN b k)
def MMr (sm : Bool) (a b t : Nn) : Prop := OkN t ∧ ∀ k, okk k → vN t k = mmO sm (vN a k) (vN b k)
def ItR (c : Nat) (a t : Nn) : Prop := OkN t ∧ ∀ k, okk k → vN t k = itN (vN a) c k
def trN (y p q m : Nat) : Nn := if p = y then (some (m : Int), [(0, none)], none) else (some 0, [((if q = y then (m : Int) else 0), none)], none)
def rdN (y o : Nat) (a : Nn) : Nn := if o = y then mineP a.2.2 (pt 1 a.1 a.2.1) else theirsP (pt 0 a.1 a.2.1)
def enN (a : Nn) : Nn := endlessP (pt 0 a.1 a.2.1)
mutual
def R (y : Nat) : Pt → Nn → Prop
  | .tr p q m, t => t = trN y p q m
  | .ev _, t => t = idN
  | .ch o os, t => RC y (decide (o = y)) os t
  | .rd o b, t => ∃ a, RL y b a ∧ t = rdN y o a
  | .en b, t => ∃ a, RL y b a ∧ t = enN a
  | .ti c b, t => ∃ a, RL y b a ∧ ItR c a t
def RL (y : Nat) : List Pt → Nn → Prop
  | [], t => t = idN
  | p :: l, t => ∃ a b, R y p a ∧ RL y l b ∧ Comp a b t
def RC (y : Nat) (sm : Bool) : List (List Pt) → Nn → Prop
  | [], _ => False
  | b :: os, t => ∃ a, RL y b a ∧ RF y sm os a t
def RF (y : Nat) (sm : Bool) : List (List Pt) → Nn → Nn → Prop
  | [], a, t => t = a
  | b :: os, a, t => ∃ c d, RL y b c ∧ MMr sm a c d ∧ RF y sm os d t
end
theorem okN_tr (y p q m : Nat) : OkN (trN y p q m) := by
  unfold OkN trN
  by_cases c : p = y
  · rw [if_pos c]
    exact ⟨⟨by decide, rfl⟩, fun s e => by cases e; exact Int.natCast_nonneg m, nofun⟩
  · rw [if_neg c]
    refine ⟨⟨?_, rfl⟩, fun s e => by cases e; exact Int.le_refl _, nofun⟩
    show (-1 : Int) < if q = y then (m : Int) else 0
    split <;> omega
theorem okN_rd {y o : Nat} {a : Nn} (h : OkN a) : OkN (rdN y o a) := by
  unfold rdN
  split
  · exact mine_ok h
  · exact theirs_ok h
theorem okN_en {a : Nn} (h : OkN a) : OkN (enN a) := endless_ok h
mutual
theorem R.ok (y : Nat) : ∀ (p : Pt) (t : Nn), R y p t → OkN t
  | .tr p q m, t, h => by rw [R] at h; rw [h]; exact okN_tr y p q m
  | .ev _, t, h => by rw [R] at h; rw [h]; exact ok_id
  | .ch o os, t, h => by rw [R] at h; exact RC.ok y _ os t h
  | .rd o b, t, h => by
    rw [R] at h
    obtain ⟨a, h1, rfl⟩ := h
    exact okN_rd (RL.ok y b a h1)
  | .en b, t, h => by
    rw [R] at h
    obtain ⟨a, h1, rfl⟩ := h
    exact okN_en (RL.ok y b a h1)
  | .ti c b, t, h => by
    rw [R] at h
    obtain ⟨a, h1, h2⟩ := h
    exact h2.1
theorem RL.ok (y : Nat) : ∀ (l : List Pt) (t : Nn), RL y l t → OkN t
  | [], t, h => by rw [RL] at h; rw [h]; exact ok_id
  | p :: l, t, h => by
    rw [RL] at h
    obtain ⟨a, b, h1, h2, h3⟩ := h
    exact h3.1
theorem RC.ok (y : Nat) (sm : Bool) : ∀ (os : List (List Pt)) (t : Nn), RC y sm os t → OkN t
  | [], t, h => by rw [RC] at h; exact h.elim
  | b :: os, t, h => by
    rw [RC] at h
    obtain ⟨a, h1, h2⟩ := h
    exact RF.ok y sm os a t (RL.ok y b a h1) h2
theorem RF.ok (y : Nat) (sm : Bool) : ∀ (os : List (List Pt)) (a t : Nn), OkN a → RF y sm os a t → OkN t
  | [], a, t, ha, h => by rw [RF] at h; rw [h]; exact ha
  | b :: os, a, t, ha, h => by
    rw [RF] at h
    obtain ⟨c, d, h1, h2, h3⟩ := h
    exact RF.ok y sm os d t h2.1 h3
end
end Zn
set_option pp.maxSteps 700
set_option Elab.async false
set_option linter.all false
set_option maxRecDepth 100000
set_option maxHeartbeats 4000000
namespace Zn
open Z Nd Pk
theorem val_none (st nv : Option Int) (rs : Rs) : val st rs nv none = nv := by cases st <;> rfl
theorem okk0 : okk (some 0) := fun i e => by cases e; exact Int.le_refl _
theorem okkN : okk none := fun i e => by cases e
theorem canonV {st st' nv nv' : Option Int} {rs rs' : Rs} (ok : Ok st rs nv) (ok' : Ok st' rs' nv') (h : ∀ k, okk k → val st rs nv k = val st' rs' nv' k) : st = st' ∧ rs = rs' ∧ nv = nv' := by
  have hn := h none okkN
  rw [val_none, val_none] at hn
  cases st with
  | none =>
    obtain ⟨e1, e2⟩ := ok_none ok
    cases st' with
    | none =>
      obtain ⟨e3, e4⟩ := ok_none ok'
      exact ⟨rfl, by rw [e2, e4], hn⟩
    | some s' =>
      have := h (some 0) okk0
      have : nv = some (s' + Fs rs' 0) := this
      rw [e1] at this
      cases this
  | some s =>
    cases st' with
    | none =>
      obtain ⟨e1, e2⟩ := ok_none ok'
      have := h (some 0) okk0
      have : some (s + Fs rs 0) = nv' := this
      rw [e1] at this
      cases this
    | some s' =>
      have h1 : ∀ k, 0 ≤ k → s + Fs rs k = s' + Fs rs' k := fun k hk => Option.some.inj (h (some k) (fun i e => by cases e; exact hk))
      have h0 := h1 0 (Int.le_refl _)
      rw [Fs0 ok.1, Fs0 ok'.1] at h0
      have hs : s = s' := by omega
      refine ⟨by rw [hs], canon ok.1 ok'.1 (fun k hk => ?_), hn⟩
      by_cases c : 0 ≤ k
      · have := h1 k c
        omega
      · rw [Fs_zero ok.1 (by omega), Fs_zero ok'.1 (by omega)]
/-! ### one need fits -/
theorem nn_eq {t t' : Nn} (h : OkN t) (h' : OkN t') (e : ∀ k, okk k → vN t k = vN t' k) : t = t' := by
  obtain ⟨s, r, v⟩ := t
  obtain ⟨s', r', v'⟩ := t'
  obtain ⟨rfl, rfl, rfl⟩ := canonV h h' e
  rfl
theorem Comp.uniq {a b t t' : Nn} (h : Comp a b t) (h' : Comp a b t') : t = t' := nn_eq h.1 h'.1 fun k hk => by rw [h.2 k hk, h'.2 k hk]
theorem MMr.uniq {sm : Bool} {a b t t' : Nn} (h : MMr sm a b t) (h' : MMr sm a b t') : t = t' := nn_eq h.1 h'.1 fun k hk => by rw [h.2 k hk, h'.2 k hk]
theorem ItR.uniq {c : Nat} {a t t' : Nn} (h : ItR c a t) (h' : ItR c a t') : t = t' := nn_eq h.1 h'.1 fun k hk => by rw [h.2 k hk, h'.2 k hk]
mutual
theorem R.uniq (y : Nat) : ∀ (p : Pt) (t t' : Nn), R y p t → R y p t' → t = t'
  | .tr p q m, t, t', h, h' => by rw [R] at h h'; rw [h, h']
  | .ev _, t, t', h, h' => by rw [R] at h h'; rw [h, h']
  | .ch o os, t, t', h, h' => by rw [R] at h h'; exact RC.uniq y _ os t t' h h'
  | .rd o b, t, t', h, h' => by
    rw [R] at h h'
    obtain ⟨a, h1, rfl⟩ := h
    obtain ⟨a', h1', rfl⟩ := h'
    rw [RL.uniq y b a a' h1 h1']
  | .en b, t, t', h, h' => by
    rw [R] at h h'
    obtain ⟨a, h1, rfl⟩ := h
    obtain ⟨a', h1', rfl⟩ := h'
    rw [RL.uniq y b a a' h1 h1']
  | .ti c b, t, t', h, h' => by
    rw [R] at h h'
    obtain ⟨a, h1, h2⟩ := h
    obtain ⟨a', h1', h2'⟩ := h'
    obtain rfl := RL.uniq y b a a' h1 h1'
    exact h2.uniq h2'
theorem RL.uniq (y : Nat) : ∀ (l : List Pt) (t t' : Nn), RL y l t → RL y l t' → t = t'
  | [], t, t', h, h' => by rw [RL] at h h'; rw [h, h']
  | p :: l, t, t', h, h' => by
    rw [RL] at h h'
    obtain ⟨a, b, h1, h2, h3⟩ := h
    obtain ⟨a', b', h1', h2', h3'⟩ := h'
    obtain rfl := R.uniq y p a a' h1 h1'
    obtain rfl := RL.uniq y l b b' h2 h2'
    exact h3.uniq h3'
theorem RC.uniq (y : Nat) (sm : Bool) : ∀ (os : List (List Pt)) (t t' : Nn), RC y sm os t → RC y sm os t' → t = t'
  | [], t, t', h, h' => by rw [RC] at h; exact h.elim
  | b :: os, t, t', h, h' => by
    rw [RC] at h h'
    obtain ⟨a, h1, h2⟩ := h
    obtain ⟨a', h1', h2'⟩ := h'
    obtain rfl := RL.uniq y b a a' h1 h1'
    exact RF.uniq y sm os a t t' h2 h2'
theorem RF.uniq (y : Nat) (sm : Bool) : ∀ (os : List (List Pt)) (a t t' : Nn), RF y sm os a t → RF y sm os a t' → t = t'
  | [], a, t, t', h, h' => by rw [RF] at h h'; rw [h, h']
  | b :: os, a, t, t', h, h' => by
    rw [RF] at h h'
    obtain ⟨c, d, h1, h2, h3⟩ := h
    obtain ⟨c', d', h1', h2', h3'⟩ := h'
    obtain rfl := RL.uniq y b c c' h1 h1'
    obtain rfl := h2.uniq h2'
    exact RF.uniq y sm os d t t' h3 h3'
end
/-! ### how many rises -/
def rl (t : Nn) : Nat := t.2.1.length
theorem Comp.len {a b t : Nn} (ha : OkN a) (hb : OkN b) (h : Comp a b t) : rl t ≤ rl a + rl b := by
  obtain ⟨st, rs, nv⟩ := a
  obtain ⟨st', rs', nv'⟩ := b
  have ha : Zn.Ok st rs nv := ha
  have hb : Zn.Ok st' rs' nv' := hb
  cases st with
  | none =>
    obtain ⟨rfl, rfl⟩ := ok_none ha
    rw [nn_eq (t' := (none, [], none)) h.1 (ok_const nofun) (fun k hk => by rw [h.2 k hk]; rfl)]
    exact Nat.zero_le _
  | some s0 =>
    cases st' with
    | none =>
      obtain ⟨rfl, rfl⟩ := ok_none hb
      rw [nn_eq (t' := (nv, [], nv)) h.1 (ok_const (ok_nvpos ha)) (fun k hk => by
        rw [h.2 k hk]
        show nv = val nv [] nv k
        cases nv with
        | none => rfl
        | some v =>
          cases k with
          | none => rfl
          | some k =>
            show some v = some (v + Fs [] k)
            rw [Fs_nil, Int.add_zero])]
      exact Nat.zero_le _
    | some s' =>
      obtain ⟨c1, c2, _⟩ := comp_ok (outer := rs) (inner := rs') ha.1 hb.1 (hb.2.1 s' rfl)
      have c3 : (join (cpO rs s' rs')).length ≤ rs.length + rs'.length := by
        have h1 := join_len (cpO rs s' rs') []
        have h2 := cpO_len2 (v := s') ha.1 hb.1
        show ((cpO rs s' rs').foldl jS []).length ≤ _
        simp only [List.length_nil, Nat.zero_add] at h1
        omega
      rw [nn_eq (t' := (some (s0 + Fs rs s'), join (cpO rs s' rs'), val (some s0) rs nv nv')) h.1 (ok_comp ha hb c1 c2) (fun k hk => by
        rw [h.2 k hk]
        cases k with
        | none => rfl
        | some k =>
          show some (s0 + Fs rs (s' + Fs rs' k)) = some (s0 + Fs rs s' + Fs (join (cpO rs s' rs')) k)
          rw [c2 k]
          congr 1
          omega)]
      exact c3
theorem MMr.len {sm : Bool} {a b t : Nn} (ha : OkN a) (hb : OkN b) (h : MMr sm a b t) : rl t ≤ rl a + rl b := by
  obtain ⟨st, rs, nv⟩ := a
  obtain ⟨st', rs', nv'⟩ := b
  have ha : Zn.Ok st rs nv := ha
  have hb : Zn.Ok st' rs' nv' := hb
  have nn : ∀ {st2 nv2 : Option Int} {rs2 : Rs}, Zn.Ok st2 rs2 nv2 → (∀ k, okk k → vN t k = vN (st2, rs2, nv2) k) → rl t = rs2.length := fun h2 h3 => by
    rw [nn_eq (t' := (_, _, _)) h.1 h2 h3]
    rfl
  cases st with
  | none =>
    obtain ⟨rfl, rfl⟩ := ok_none ha
    cases sm with
    | true =>
      rw [nn hb fun k hk => by rw [h.2 k hk]; exact smO_l _]
      exact Nat.le_add_left _ _
    | false =>
      rw [nn (st2 := none) (nv2 := none) (rs2 := []) (ok_const nofun) fun k hk => by rw [h.2 k hk]; exact grO_l _]
      exact Nat.zero_le _
  | some s0 =>
    cases st' with
    | none =>
      obtain ⟨rfl, rfl⟩ := ok_none hb
      cases sm with
      | true =>
        rw [nn ha fun k hk => by rw [h.2 k hk]; exact smO_r _]
        exact Nat.le_add_right _ _
      | false =>
        rw [nn (st2 := none) (nv2 := none) (rs2 := []) (ok_const nofun) fun k hk => by rw [h.2 k hk]; exact grO_r (vN (some s0, rs, nv) k)]
        exact Nat.zero_le _
    | some s' =>
      obtain ⟨st2, rs2, nv2⟩ := t
      have h1 : Zn.Ok st2 rs2 nv2 := h.1
      have hv : ∀ k, 0 ≤ k → val st2 rs2 nv2 (some k) = some (mm sm (s0 + Fs rs k) (s' + Fs rs' k)) := fun k hk => by
        have := h.2 (some k) (fun i e => by cases e; exact hk)
        rw [show vN (st2, rs2, nv2) (some k) = val st2 rs2 nv2 (some k) from rfl] at this
        rw [this]
        exact mmO_some sm _ _
      cases st2 with
      | none =>
        obtain ⟨rfl, rfl⟩ := ok_none h1
        exact Nat.zero_le _
      | some x =>
        have hv2 : ∀ k, 0 ≤ k → x + Fs rs2 k = mm sm (s0 + Fs rs k) (s' + Fs rs' k) := fun k hk => Option.some.inj (hv k hk)
        have h0 := hv2 0 (Int.le_refl _)
        rw [Fs0 h1.1, Fs0 ha.1, Fs0 hb.1, Int.add_zero, Int.add_zero, Int.add_zero] at h0
        subst h0
        exact comb_len ha.1 hb.1 h1.1 hv2
theorem comp_id {a t : Nn} (ha : OkN a) (h : Comp a idN t) : t = a := nn_eq h.1 ha fun k hk => by rw [h.2 k hk, show vN idN k = k from val_id hk]
theorem okk_v {a : Nn} (ha : OkN a) (k : Option Int) : okk (vN a k) := okk_val ha
theorem it_zero {a t : Nn} (h : ItR 0 a t) : t = idN := nn_eq h.1 ok_id fun k hk => by rw [h.2 k hk]; exact (val_id hk).symm
theorem it_id {c : Nat} {t : Nn} (h : ItR c idN t) : t = idN := nn_eq h.1 ok_id fun k hk => by
  rw [h.2 k hk, show vN idN k = k from val_id hk]
  clear h
  have : ∀ n, itN (vN idN) n k = k := fun n => by
    induction n with
    | zero => rfl
    | succ n ih =>
      show vN idN (itN (vN idN) n k) = k
      rw [ih]
      exact val_id hk
  exact this c
/-- there is a composition -/
theorem comp_ex {a b : Nn} (ha : OkN a) (hb : OkN b) : ∃ t, Comp a b t := by
  obtain ⟨st, rs, nv⟩ := a
  obtain ⟨st', rs', nv'⟩ := b
  have ha : Zn.Ok st rs nv := ha
  have hb : Zn.Ok st' rs' nv' := hb
  cases st with
  | none =>
    obtain ⟨rfl, rfl⟩ := ok_none ha
    exact ⟨(none, [], none), ok_const nofun, fun k hk => rfl⟩
  | some s0 =>
    cases st' with
    | none =>
      obtain ⟨rfl, rfl⟩ := ok_none hb
      refine ⟨(nv, [], nv), ok_const (ok_nvpos ha), fun k hk => ?_⟩
      show val nv [] nv k = nv
      cases nv with
      | none => rfl
      | some v =>
        cases k with
        | none => rfl
        | some k =>
          show some (v + Fs [] k) = some v
          rw [Fs_nil, Int.add_zero]
    | some s' =>
      obtain ⟨c1, c2, _⟩ := comp_ok (outer := rs) (inner := rs') ha.1 hb.1 (hb.2.1 s' rfl)
      refine ⟨(some (s0 + Fs rs s'), join (cpO rs s' rs'), val (some s0) rs nv nv'), ok_comp ha hb c1 c2, fun k hk => ?_⟩
      cases k with
      | none => rfl
      | some k =>
        show some (s0 + Fs rs s' + Fs (join (cpO rs s' rs')) k) = some (s0 + Fs rs (s' + Fs rs' k))
        rw [c2 k]
        congr 1
        omega
theorem it_len {a : Nn} (ha : OkN a) : ∀ (c : Nat) (t : Nn), ItR (c + 1) a t → rl t ≤ (c + 1) * rl a
  | 0, t, h => by
    rw [nn_eq (t' := a) h.1 ha fun k hk => by rw [h.2 k hk]; rfl]
    omega
  | c + 1, t, h => by
    have ex : ∀ n, ∃ u, ItR n a u := fun n => by
      induction n with
      | zero => exact ⟨idN, ok_id, fun k hk => val_id hk⟩
      | succ n ih =>
        obtain ⟨u, hu⟩ := ih
        obtain ⟨v, hv⟩ := comp_ex ha hu.1
        exact ⟨v, hv.1, fun k hk => by rw [hv.2 k hk, hu.2 k hk]; rfl⟩
    obtain ⟨u, hu⟩ := ex (c + 1)
    have ih := it_len ha c u hu
    have hc : Comp a u t := ⟨h.1, fun k hk => by rw [h.2 k hk, hu.2 k hk]; rfl⟩
    have := hc.len ha hu.1
    have e : (c + 1 + 1) * rl a = (c + 1) * rl a + rl a := Nat.succ_mul _ _
    omega
theorem rd_len (y o : Nat) (a : Nn) : rl (rdN y o a) ≤ 1 := by
  unfold rl rdN
  split
  · cases pt 1 a.1 a.2.1 with
    | none => exact Nat.le_refl 1
    | some p =>
      show (if p > 1 then [((0 : Int), some (p - 1))] else []).length ≤ 1
      split <;> simp
  · cases pt 0 a.1 a.2.1 with
    | none => exact Nat.zero_le _
    | some p => exact Nat.le_refl 1
theorem tr_len (y p q m : Nat) : rl (trN y p q m) = 1 := by
  unfold rl trN
  split <;> rfl
mutual
theorem R.len (y : Nat) : ∀ (p : Pt) (t : Nn), Pk.Ok p → R y p t → rl t ≤ 6 * wt p
  | .tr p q m, t, ok, h => by
    rw [R] at h
    rw [h, tr_len, wt]
    decide
  | .ev _, t, ok, h => by
    rw [R] at h
    rw [h, wt]
    decide
  | .ch o os, t, ok, h => by
    rw [R] at h
    rw [Pk.Ok] at ok
    have := RC.len y _ os t ok.2.2.2 h
    rw [wt]
    omega
  | .rd o b, t, ok, h => by
    rw [R] at h
    obtain ⟨a, h1, rfl⟩ := h
    have := rd_len y o a
    rw [wt]
    omega
  | .en b, t, ok, h => by
    rw [R] at h
    obtain ⟨a, h1, rfl⟩ := h
    exact Nat.zero_le _
  | .ti c b, t, ok, h => by
    rw [R] at h
    obtain ⟨a, h1, h2⟩ := h
    rw [Pk.Ok] at ok
    have ha := RL.ok y b a h1
    rw [wt]
    match c, b, h1, h2, ok with
    | 0, b, h1, h2, ok =>
      rw [it_zero h2]
      show 1 ≤ _
      omega
    | c + 1, [], h1, h2, ok =>
      rw [RL] at h1
      subst h1
      rw [it_id h2]
      show 1 ≤ _
      omega
    | c + 1, p :: l, h1, h2, ok =>
      have h3 := RL.len y (p :: l) a ok.2 h1
      have h4 := it_len ha c t h2
      have h5 : (c + 1) * rl a ≤ (c + 1) * (6 * wtL (p :: l)) := Nat.mul_le_mul_left _ (by
        have : 1 ≤ wtL (p :: l) := by
          rw [wtL]
          have := wt_pos p
          omega
        omega)
      rw [if_neg (by omega)]
      have h6 : (c + 1) * (6 * wtL (p :: l)) = 6 * (wtL (p :: l) * (c + 1)) := by
        rw [Nat.mul_left_comm, Nat.mul_comm (c + 1)]
      omega
theorem RL.len (y : Nat) : ∀ (l : List Pt) (t : Nn), OkL l → RL y l t → rl t ≤ max 1 (6 * wtL l)
  | [], t, ok, h => by
    rw [RL] at h
    rw [h]
    exact Nat.le_max_left _ _
  | [p], t, ok, h => by
    rw [RL] at h
    obtain ⟨a, b, h1, h2, h3⟩ := h
    rw [RL] at h2
    subst h2
    rw [comp_id (R.ok y p a h1) h3]
    rw [OkL] at ok
    have := R.len y p a ok.1 h1
    rw [wtL]
    omega
  | p :: q :: l, t, ok, h => by
    rw [RL] at h
    obtain ⟨a, b, h1, h2, h3⟩ := h
    rw [OkL] at ok
    have e1 := R.len y p a ok.1 h1
    have e2 := RL.len y (q :: l) b ok.2 h2
    have e3 := h3.len (R.ok y p a h1) (RL.ok y _ b h2)
    have e4 : 1 ≤ wtL (q :: l) := by
      rw [wtL]
      have := wt_pos q
      omega
    rw [wtL]
    omega
theorem RC.len (y : Nat) (sm : Bool) : ∀ (os : List (List Pt)) (t : Nn), OkLL os → RC y sm os t → rl t ≤ 6 * wtLL os + os.length
  | [], t, ok, h => by rw [RC] at h; exact h.elim
  | b :: os, t, ok, h => by
    rw [RC] at h
    obtain ⟨a, h1, h2⟩ := h
    rw [OkLL] at ok
    have e1 := RL.len y b a ok.1 h1
    have e2 := RF.len y sm os a t ok.2 (RL.ok y b a h1) h2
    rw [wtLL, List.length_cons]
    omega
theorem RF.len (y : Nat) (sm : Bool) : ∀ (os : List (List Pt)) (a t : Nn), OkLL os → OkN a → RF y sm os a t → rl t ≤ rl a + 6 * wtLL os + os.length
  | [], a, t, ok, ha, h => by
    rw [RF] at h
    rw [h]
    omega
  | b :: os, a, t, ok, ha, h => by
    rw [RF] at h
    obtain ⟨c, d, h1, h2, h3⟩ := h
    rw [OkLL] at ok
    have e1 := RL.len y b c ok.1 h1
    have e2 := h2.len ha (RL.ok y b c h1)
    have e3 := RF.len y sm os d t ok.2 h2.1 h3
    rw [wtLL, List.length_cons]
    omega
end
end Zn
set_option Elab.async false
set_option linter.all false
set_option maxRecDepth 100000
set_option maxHeartbeats 4000000
namespace Z
open PySem PySem.Spec PyProof.Rows L2 HT
/-! ### t[::-1], t a tuple -/
section
variable {prog : Program} {w : World} {A : Around} {E : Value → Shared → Prop} {s : Shared}
theorem sliceApplied_rev {sl : Addr} {vl vu vs : Value} {n : Nat} {Q : Int × Int × Nat → Shared → Prop} (hs : s.heap.IsSliceOf sl vl vu vs) (pl : IsPart vl none) (pu : IsPart vu none) (ps : IsPart vs (some (-1)))
    (h : Q ((n : Int) - 1, -1, n) s) : wpAny (model prog w) A (Builtin.Slice.sliceApplied (.ref sl) (pure (n : Int))) Q E s := by
  obtain ⟨os, hos, hcs, hds⟩ := id hs
  unfold Builtin.Slice.sliceApplied Builtin.Slice.sliceFields
  refine wpAny_bind (wpAny_bind (wpAny_field hos hds (x := vl) rfl (wpAny_bind (wpAny_field hos hds (x := vu) rfl (wpAny_bind (wpAny_field hos hds (x := vs) rfl (wpAny_pure ?_)))))))
  refine wpAny_bind (slicePart_ ps ?_)
  show wpAny _ _ (if ((-1 : Int) == 0) = true then _ else _) _ _ s
  rw [if_neg (by decide)]
  refine wpAny_bind (slicePart_ pl (wpAny_bind (slicePart_ pu (wpAny_bind (wpAny_pure ?_)))))
  have e1 : Builtin.Slice.sliceAdjust none none (-1) (n : Int) = ((n : Int) - 1, -1) := rfl
  have e2 : Builtin.Slice.slicePlaces ((n : Int) - 1) (-1) (-1) = n := by
    unfold Builtin.Slice.slicePlaces
    rw [if_neg (by decide)]
    by_cases c : (n : Int) - 1 > -1
    · rw [if_pos c]
      show (((n : Int) - 1 - -1 - 1) / (- -1) + 1).toNat = n
      rw [show (- -1 : Int) = 1 by decide, Int.ediv_one]
      omega
    · rw [if_neg c]
      omega
  show wpAny _ _ (match Builtin.Slice.sliceAdjust none none (-1) (n : Int) with | (lo, hi) => pure (lo, (-1 : Int), Builtin.Slice.slicePlaces lo hi (-1))) _ _ s
  rw [e1]
  show wpAny _ _ (pure ((n : Int) - 1, (-1 : Int), Builtin.Slice.slicePlaces ((n : Int) - 1) (-1) (-1))) _ _ s
  rw [e2]
  exact wpAny_pure h
theorem pick_rev (xs : Array Value) : ((List.range xs.size).filterMap fun (m : Nat) => xs[(((xs.size : Int) - 1) + (m : Int) * (-1)).toNat]?).toArray = xs.toList.reverse.toArray := by
  have e : ∀ m ∈ List.range xs.size, xs[(((xs.size : Int) - 1) + (m : Int) * (-1)).toNat]? = xs.toList.reverse[m]? := fun m hm => by
    have hm := List.mem_range.mp hm
    rw [List.getElem?_reverse (by rw [Array.length_toList]; exact hm), Array.length_toList, show ((((xs.size : Int) - 1) + (m : Int) * (-1)).toNat) = xs.size - 1 - m by omega]
    rw [Array.getElem?_toList]
  have f : ∀ (l : List Nat) (g h : Nat → Option Value), (∀ m ∈ l, g m = h m) → l.filterMap g = l.filterMap h := fun l g h hl => by
    induction l with
    | nil => rfl
    | cons x l ih => rw [List.filterMap_cons, List.filterMap_cons, hl x List.mem_cons_self, ih fun m hm => hl m (List.mem_cons_of_mem _ hm)]
  rw [f _ _ _ e]
  have g : ∀ l : List Value, (List.range l.length).filterMap (fun m => l[m]?) = l := fun l => by
    induction l with
    | nil => rfl
    | cons x l ih =>
      rw [List.length_cons, List.range_succ_eq_map, List.filterMap_cons, List.filterMap_map]
      show x :: _ = _
      congr 1
  have := g xs.toList.reverse
  rw [List.length_reverse, Array.length_toList] at this
  rw [this]
theorem getItem_tuple_rev {t sl : Addr} {items : Array Value} {vl vu vs : Value} {Q : Value → Shared → Prop} (ht : IsTup s.heap t items) (hs : s.heap.IsSliceOf sl vl vu vs) (pl : IsPart vl none) (pu : IsPart vu none) (ps : IsPart vs (some (-1)))
    (h : Q (.ref s.heap.objs.size) { s with heap := s.heap.push { cls := .type "tuple", data := .seq items.toList.reverse.toArray } })
    (hsz : items.size ≤ sizeLine) : wpAny (model prog w) A (getItem (.ref t) (.ref sl)) Q E s := by
  have htake : sizeOk (.seq items.toList.reverse.toArray) := by
    show items.toList.reverse.toArray.size ≤ sizeLine
    rw [List.size_toArray, List.length_reverse, Array.length_toList]
    exact hsz
  obtain ⟨os, hos, hcs, hds⟩ := id hs
  have hTs : s.TypeIs (.ref sl) "slice" := ⟨os, hos, hcs⟩
  unfold getItem
  try with_reducible refine wpAny_holding ?_
  first | refine wpAny_bind (wpAny_pure ?_) | skip
  refine wpAny_bind (wpAny_sequenceKey ht.typeIs (by decide) ?_)
  refine wpAny_bind (wpAny_callSpecial?_slot (name := Str.ofString "__getitem__") ht.typeIs PyProof.Rows.slot_tuple_getitem
    (wpAny_call_entry PyProof.Rows.slot_tuple_getitem ht.typeIs entry_tuple_getitem ?_ (args_tuple_getitem _ _)))
  show wpAny _ _ (Builtin.Tuple.tupleItemsOf (.ref t) >>= _) _ _ s
  refine wpAny_bind (tupleItemsOf_ ht ?_)
  refine wpAny_bind (wpAny_typeOf hTs ?_)
  rw [if_pos (by decide)]
  refine wpAny_bind (sliceApplied_rev hs pl pu ps ?_)
  have hno : ¬ (((((items.size : Int) - 1) == 0) && (-1 : Int) == 1 && (items.size == items.size)) = true) := by
    rw [show ((-1 : Int) == 1) = false from rfl, Bool.and_false, Bool.false_and]
    exact Bool.false_ne_true
  show wpAny _ _ (if ((((items.size : Int) - 1) == 0) && (-1 : Int) == 1 && (items.size == items.size)) = true then _ else _) _ _ s
  rw [if_neg hno, pick_rev]
  first
    | exact wpAny_bind (m := Builtin.Tuple.tupleExact _) (wpAny_newObj_type (wpAny_pure ⟨_, rfl, wpAny_pure h⟩) htake)
    | exact wpAny_bind (m := Builtin.Tuple.tupleExact _) (wpAny_newObj_type (wpAny_bind (wpAny_pure (wpAny_pure ⟨_, rfl, wpAny_pure h⟩))) htake)
    | exact wpAny_bind (wpAny_bind (m := Builtin.Tuple.tupleExact _) (wpAny_newObj_type (wpAny_pure (wpAny_pure ⟨_, rfl, wpAny_pure h⟩)) htake))
    | exact wpAny_bind (wpAny_bind (m := Builtin.Tuple.tupleExact _) (wpAny_newObj_type (wpAny_pure ⟨_, rfl, wpAny_pure h⟩) htake))
end
def tRevT (K : PySem.W.Frag) (te : TE) : TE := fun σ H Q => te σ H fun x H1 => ∃ a xs, x = .ref a ∧ SqT K H1 a xs ∧ ∀ p, H1 p = none → Q (.ref p) (upd H1 p (.tup xs.reverse))
theorem pe_revT {X : Cx} {e : Expr} {te : TE} {k : Nat} {p1 p2 p3 pos : Pos} (he : PE X e te) : PE X (.Subscript e (.Slice none none (some (.UnaryOp .USub (.Constant (.int 1) k p1) p2)) p3) pos) (tRevT X.K te) := by
  refine ⟨fun pins s σ H Q I h => ?_⟩
  refine Subscript_ (thn (he.run pins s σ H _ I h) fun v s1 ⟨x, H1, I1, r1, q1⟩ => ?_)
  obtain ⟨a, xs, ex, hx, q⟩ := q1
  subst ex
  cases r1
  have hst : PO X (some (.UnaryOp .USub (.Constant (.int 1) k p1) p2)) (tPart (tUn (rU fun i => .int (-i)) (tC (.int 1)))) := po_some (pe_un un_neg pe_int)
  refine wpAny_Slice (thn (po_none.run pins s1 σ H1 (fun o H2 => o = none ∧ H2 = H1) I1 ⟨rfl, rfl⟩) fun vl s2 ⟨l, H2, I2, pl, el, e2⟩ => ?_)
  subst el e2
  refine thn (po_none.run pins s2 σ H2 (fun o H3 => o = none ∧ H3 = H2) I2 ⟨rfl, rfl⟩) fun vu s3 ⟨u, H3, I3, pu, eu, e3⟩ => ?_
  subst eu e3
  refine thn (hst.run pins s3 σ H3 (fun o H4 => o = some (-1) ∧ H4 = H3) I3 ⟨1, rfl, -1, rfl, rfl, rfl⟩) fun vs s4 ⟨o, H4, I4, ps, eo, e4⟩ => ?_
  subst eo e4
  have I5 : Inv X pins σ H4 { s4 with heap := s4.heap.push { cls := .type "slice", data := .fields #[vl, vu, vs] } } := I4.kept (t' := s4.toks) fun b ob q => Heap.get?_push_of_some _ q
  obtain ⟨its, r, ht, hz⟩ := I5.tuple hx
  have hlen := r.length
  show wpAny (model X.prog X.w) X.A (subscriptTail e (.Slice none none (some (.UnaryOp .USub (.Constant (.int 1) k p1) p2)) p3) (.ref a) (.ref s4.heap.objs.size)) (EP X pins σ Q) X.xe { s4 with heap := s4.heap.push { cls := .type "slice", data := .fields #[vl, vu, vs] } }
  refine tail_any (ops := [.ref a, .ref s4.heap.objs.size]) ht.typeIs (PyProof.Rows.slot_tuple_getitem.lookup) ?_ (by with_unfolding_all rfl)
  refine getItem_tuple_rev ht (Heap.IsSliceOf.new _ vl vu vs) pl pu ps ?_ (by rw [List.size_toArray]; omega)
  refine ⟨.ref _, _, I5.laid (t' := s4.toks) (o := .tup xs.reverse) (fun b ob q => Heap.get?_push_of_some _ q) (Nat.le_refl _) ?_, rfl, q _ (I5.hok.fresh (Nat.le_refl _))⟩
  exact ⟨by rw [List.length_reverse]; exact hz, _, r.reverse, IsTup.new _ _⟩
end Z
set_option pp.maxSteps 700
set_option Elab.async false
set_option linter.all false
set_option maxRecDepth 100000
set_option maxHeartbeats 4000000
open SX (S S_inj S_len S_cat)
namespace Z
open Pk NdefX
open PySem PySem.Spec PyProof.Rows L2
open C8 (pss_cut tCut)
local macro_rules | `(tactic| walk_at "num") => `(tactic| first | rfl | omega | decide | exact Nat.le_of_lt (small1000 (by simp)) | exact ⟨by omega, by omega⟩ | exact ⟨by omega, by omega, by omega⟩ | exact ⟨by decide, by decide, by decide⟩ | exact Or.inl ⟨by omega, by omega⟩ | exact Or.inr ⟨by omega, by omega⟩)
local macro_rules | `(tactic| walk_at "go") => `(tactic| repeat (first | refine ⟨_, rfl, ?_⟩ | refine ⟨_, _, rfl, rfl, ?_⟩ | refine ⟨_, _, rfl, ?_⟩ | (refine ⟨_, _, rfl, rfl, ?_, ?_⟩; focus walk_at "num") | refine Or.inl ⟨_, rfl, ?_⟩ | refine ⟨_, _, _, _, rfl, rfl, (by assumption), (by rfl), ?_⟩ | refine ⟨_, _, _, _, _, rfl, (by assumption), (by assumption), (by assumption), (by rfl), ?_⟩ | refine ⟨rfl, ?_⟩ | (refine And.intro ?_ ?_; focus walk_at "num")))
abbrev s_need_of_transfer : Stmt := topS 49
abbrev N_need_of_transfer : List Str := ["part", "party"]
abbrev P_need_of_transfer : List Str := ["part", "party"]
theorem sc_need_of_transfer : FnScope N_need_of_transfer P_need_of_transfer (defScope s_need_of_transfer) := ⟨rfl, rfl, rfl, by decide +kernel, rfl, by decide +kernel, by decide +kernel⟩
abbrev s_need_of_choice : Stmt := topS 50
abbrev N_need_of_choice : List Str := ["part", "party", "result", "option", "need"]
abbrev P_need_of_choice : List Str := ["part", "party"]
theorem sc_need_of_choice : FnScope N_need_of_choice P_need_of_choice (defScope s_need_of_choice) := ⟨rfl, rfl, rfl, by decide +kernel, rfl, by decide +kernel, by decide +kernel⟩
abbrev s_need_of_part : Stmt := topS 51
abbrev N_need_of_part : List Str := ["part", "party", "body"]
abbrev P_need_of_part : List Str := ["part", "party"]
theorem sc_need_of_part : FnScope N_need_of_part P_need_of_part (defScope s_need_of_part) := ⟨rfl, rfl, rfl, by decide +kernel, rfl, by decide +kernel, by decide +kernel⟩
abbrev s_need_of : Stmt := topS 52
abbrev N_need_of : List Str := ["pact", "party", "result", "part"]
abbrev P_need_of : List Str := ["pact", "party"]
theorem sc_need_of : FnScope N_need_of P_need_of (defScope s_need_of) := ⟨rfl, rfl, rfl, by decide +kernel, rfl, by decide +kernel, by decide +kernel⟩
/-- the fields and kinds of parts and pacts -/
structure PtA (K : PySem.W.Frag) (k : Cs) : Prop where
  cT : Cls K k.T
  T1 : NoAttr K k.T "payer"
  T2 : NoAttr K k.T "payee"
  T3 : NoAttr K k.T "amount"
  cE : Cls K k.E
  cC : Cls K k.C
  C1 : NoAttr K k.C "owner"
  C2 : NoAttr K k.C "options"
  cR : Cls K k.R
  R1 : NoAttr K k.R "owner"
  R2 : NoAttr K k.R "body"
  cN : Cls K k.N
  N1 : NoAttr K k.N "body"
  cM : Cls K k.M
  M1 : NoAttr K k.M "count"
  M2 : NoAttr K k.M "body"
  cP : Cls K k.P
  P1 : NoAttr K k.P "parts"
  kT : ∃ u, Con K k.T "KIND" (.str "transfer") u
  kE : ∃ u, Con K k.E "KIND" (.str "event") u
  kC : ∃ u, Con K k.C "KIND" (.str "choice") u
  kR : ∃ u, Con K k.R "KIND" (.str "rounds") u
  kN : ∃ u, Con K k.N "KIND" (.str "endless") u
  kM : ∃ u, Con K k.M "KIND" (.str "times") u
/-- a need by its three fields -/
def NdAt (C : Addr) (K : PySem.W.Frag) (H : Hp) (n : Addr) (t : Zn.Nn) : Prop := Zn.NeedAt C K H n t.1 t.2.1 t.2.2
theorem dec_S (a b : Nat) : decide (V.str (S [a]) = V.str (S [b])) = decide (a = b) := by
  rw [decide_eq_decide]
  constructor
  · intro h
    injection h with h
    have := S_inj h
    injection this
  · intro h
    rw [h]
section
variable {P : Program} {w : World} {K : PySem.W.Frag} {mg : Str → Option Value} {base : Heap} {f C CP CB : Addr} {k : Cs} {fd : FuncData}
def spNdT (C : Addr) (k : Cs) (K : PySem.W.Frag) : Sp := fun vs H Q _ => ∃ (x : Addr) (y p q m : Nat), vs = [.ref x, .str (S [y])] ∧ PtAt k K H (.tr p q m) x ∧ ∀ n H', Same H H' → NdAt C K H' n (Zn.trN y p q m) → Q (.ref n) H'
theorem ok_need_of_transfer (F : FnP K "need_of_transfer" s_need_of_transfer f fd) (pa : PtA K k) (k_Need : Mak P w K mg base 2 "Need" (Zn.spNeed C K)) : FnOk P w K mg base CX0 4 f fd P_need_of_transfer (spNdT C k K) := by
  refine F.ok sc_need_of_transfer (fun vs H Q E h => ?_) (fun cdv A outer s H vs Q E hr h => ?_)
  · obtain ⟨x, y, p, q, m, rfl, _⟩ := h
    rfl
  · obtain ⟨x, y, p, q, m, rfl, hx, qq⟩ := h
    refine ⟨_, PSs.nox (pss_cons (ps_if (pt_cmpR op_eq (pe_fld (pv 0) rfl) (pv 1) (nomark _)) (pss_one (ps_ret (pe_mk k_Need hr (by decide) (by rfl) (pa_cons (pe_fld (pv 0) rfl) (pa_cons (pe_tup (pa_cons (pe_tup (pa_cons pe_int (pa_cons pe_non pa_nil))) pa_nil)) (pa_cons pe_non pa_nil)))))) pss_nil)
      (pss_one (ps_ret (pe_mk k_Need hr (by decide) (by rfl) (pa_cons pe_int (pa_cons (pe_tup (pa_cons (pe_tup (pa_cons (pe_ifExp (pt_cmpR op_eq (pe_fld (pv 0) rfl) (pv 1) (nomark _)) (pe_fld (pv 0) rfl) pe_int) (pa_cons pe_non pa_nil))) pa_nil)) (pa_cons pe_non pa_nil))))))), ?_⟩
    rw [PtAt] at hx
    obtain ⟨dx, hx⟩ := hx
    have ok := Zn.okN_tr y p q m
    unfold Zn.trN at ok qq
    walk_at "go"
    refine ⟨x, k.T, dx, _, _, rfl, hx, pa.cT, pa.T1, rfl, ?_⟩
    walk_at "go"
    rw [dec_S]
    refine ite2 (fun e => ?_) (fun e => ?_)
    · have e := of_decide_eq_true e
      rw [if_pos e] at ok qq
      walk_at "go"
      refine ⟨x, k.T, dx, _, _, rfl, hx, pa.cT, pa.T3, rfl, ?_⟩
      walk_at "go"
      intro t1 nt1
      generalize eH_ : upd H t1 _ = H1
      have s1 : Same H H1 := by rw [← eH_]; exact same_new nt1
      have et1 : H1 t1 = some (.tup [.int 0, .non]) := by rw [← eH_]; exact upd_same
      clear eH_
      walk_at "go"
      intro t2 nt2
      generalize eH_ : upd H1 t2 _ = H2
      have s2 : Same H1 H2 := by rw [← eH_]; exact same_new nt2
      have et2 : H2 t2 = some (.tup [.ref t1]) := by rw [← eH_]; exact upd_same
      clear eH_
      walk_at "go"
      refine ⟨false, false, some (m : Int), none, t2, [t1], [(0, none)], rfl, Zn.ris_one (SqT.of et2) (SqT.of (s2 _ _ et1)), (by show (1 : Nat) ≤ 100000; decide), ok, fun n H3 s3 _ h3 => ?_⟩
      exact qq n H3 ((s1.trans s2).trans s3) h3
    · have e : ¬ p = y := fun z => e (decide_eq_true z)
      rw [if_neg e] at ok qq
      walk_at "go"
      refine ⟨x, k.T, dx, _, _, rfl, hx, pa.cT, pa.T2, rfl, ?_⟩
      walk_at "go"
      rw [dec_S]
      refine ite2 (fun e2 => ?_) (fun e2 => ?_)
      · have e2 := of_decide_eq_true e2
        rw [if_pos e2] at ok qq
        walk_at "go"
        refine ⟨x, k.T, dx, _, _, rfl, hx, pa.cT, pa.T3, rfl, ?_⟩
        walk_at "go"
        intro t1 nt1
        generalize eH_ : upd H t1 _ = H1
        have s1 : Same H H1 := by rw [← eH_]; exact same_new nt1
        have et1 : H1 t1 = some (.tup [.int (m : Int), .non]) := by rw [← eH_]; exact upd_same
        clear eH_
        walk_at "go"
        intro t2 nt2
        generalize eH_ : upd H1 t2 _ = H2
        have s2 : Same H1 H2 := by rw [← eH_]; exact same_new nt2
        have et2 : H2 t2 = some (.tup [.ref t1]) := by rw [← eH_]; exact upd_same
        clear eH_
        walk_at "go"
        refine ⟨false, false, some 0, none, t2, [t1], [((m : Int), none)], rfl, Zn.ris_one (SqT.of et2) (SqT.of (s2 _ _ et1)), (by show (1 : Nat) ≤ 100000; decide), ok, fun n H3 s3 _ h3 => ?_⟩
        exact qq n H3 ((s1.trans s2).trans s3) h3
      · have e2 : ¬ q = y := fun z => e2 (decide_eq_true z)
        rw [if_neg e2] at ok qq
        walk_at "go"
        intro t1 nt1
        generalize eH_ : upd H t1 _ = H1
        have s1 : Same H H1 := by rw [← eH_]; exact same_new nt1
        have et1 : H1 t1 = some (.tup [.int 0, .non]) := by rw [← eH_]; exact upd_same
        clear eH_
        walk_at "go"
        intro t2 nt2
        generalize eH_ : upd H1 t2 _ = H2
        have s2 : Same H1 H2 := by rw [← eH_]; exact same_new nt2
        have et2 : H2 t2 = some (.tup [.ref t1]) := by rw [← eH_]; exact upd_same
        clear eH_
        walk_at "go"
        refine ⟨false, false, some 0, none, t2, [t1], [(0, none)], rfl, Zn.ris_one (SqT.of et2) (SqT.of (s2 _ _ et1)), (by show (1 : Nat) ≤ 100000; decide), ok, fun n H3 s3 _ h3 => ?_⟩
        exact qq n H3 ((s1.trans s2).trans s3) h3
/-! ### operators of needs -/
theorem NdAt.mono {H H' : Hp} {n : Addr} {t : Zn.Nn} (s : Same H H') (h : NdAt C K H n t) : NdAt C K H' n t := Zn.NeedAt.mono s h
theorem NdAt.ins {H : Hp} {n : Addr} {t : Zn.Nn} (h : NdAt C K H n t) : ∃ dx fs, H n = some (.ins C dx fs) := by
  obtain ⟨dx, r, ps, e, _⟩ := h
  exact ⟨dx, _, e⟩
theorem rd_mm {sm : Bool} {H : Hp} {a b : Addr} {t u : Zn.Nn} {Q : VK} (ha : NdAt C K H a t) (hb : NdAt C K H b u) (ot : Zn.OkN t) (ou : Zn.OkN u) (l1 : Zn.rl t ≤ 20000) (l2 : Zn.rl u ≤ 20000) (q : ∀ n H' v, Same H H' → NdAt C K H' n v → Zn.MMr sm t u v → Q (.ref n) H') : rBin C (Zn.spMM sm C K) (.ref a) (.ref b) H Q := by
  obtain ⟨dx, fs, ea⟩ := ha.ins
  obtain ⟨dy, gs, eb⟩ := hb.ins
  exact ⟨a, b, dx, dy, fs, gs, rfl, rfl, ea, eb, a, b, _, _, _, _, _, _, rfl, ha, hb, ot, ou, l1, l2, fun p H' st2 rs2 nv2 s hp ok hv _ => ⟨p, rfl, q p H' (st2, rs2, nv2) s hp ⟨ok, hv⟩⟩⟩
theorem rd_rsh {H : Hp} {a b : Addr} {t u : Zn.Nn} {Q : VK} (ha : NdAt C K H a t) (hb : NdAt C K H b u) (ot : Zn.OkN t) (ou : Zn.OkN u) (l1 : Zn.rl t + Zn.rl u ≤ 50000) (q : ∀ n H' v, Same H H' → NdAt C K H' n v → Zn.Comp t u v → Q (.ref n) H') : rBin C (Zn.spRsh C K) (.ref a) (.ref b) H Q := by
  obtain ⟨dx, fs, ea⟩ := ha.ins
  obtain ⟨dy, gs, eb⟩ := hb.ins
  exact ⟨a, b, dx, dy, fs, gs, rfl, rfl, ea, eb, a, b, _, _, _, _, _, _, rfl, ha, hb, ot, ou, l1, fun p H' st2 rs2 nv2 s hp ok hv _ => ⟨p, rfl, q p H' (st2, rs2, nv2) s hp ⟨ok, hv⟩⟩⟩
theorem RF_snoc {y : Nat} {sm : Bool} {b : List Pt} {c d : Zn.Nn} (hb : Zn.RL y b c) : ∀ (os : List (List Pt)) (a u : Zn.Nn), Zn.RF y sm os a u → Zn.MMr sm u c d → Zn.RF y sm (os ++ [b]) a d
  | [], a, u, h, hm => by
    rw [Zn.RF] at h
    subst h
    rw [List.nil_append, Zn.RF]
    exact ⟨c, d, hb, hm, by rw [Zn.RF]⟩
  | o :: os, a, u, h, hm => by
    rw [Zn.RF] at h
    obtain ⟨c2, d2, h1, h2, h3⟩ := h
    rw [List.cons_append, Zn.RF]
    exact ⟨c2, d2, h1, h2, RF_snoc hb os d2 u h3 hm⟩
theorem RC_snoc {y : Nat} {sm : Bool} {b : List Pt} {c d u : Zn.Nn} (hb : Zn.RL y b c) : ∀ (os : List (List Pt)), Zn.RC y sm os u → Zn.MMr sm u c d → Zn.RC y sm (os ++ [b]) d
  | [], h, _ => by
    rw [Zn.RC] at h
    exact h.elim
  | o :: os, h, hm => by
    rw [Zn.RC] at h
    obtain ⟨a, h1, h2⟩ := h
    rw [List.cons_append, Zn.RC]
    exact ⟨a, h1, RF_snoc hb os a u h2 hm⟩
theorem RC_one {y : Nat} {sm : Bool} {b : List Pt} {c : Zn.Nn} (hb : Zn.RL y b c) : Zn.RC y sm [b] c := by
  rw [Zn.RC]
  exact ⟨c, hb, by rw [Zn.RF]⟩
theorem wtLL_take : ∀ (os : List (List Pt)) (i : Nat), wtLL (os.take i) ≤ wtLL os
  | [], i => by rw [List.take_nil]; exact Nat.le_refl _
  | b :: os, 0 => by rw [List.take_zero, wtLL]; exact Nat.zero_le _
  | b :: os, i + 1 => by
    have := wtLL_take os i
    rw [List.take_succ_cons, wtLL, wtLL]
    omega
theorem PasAt.gets {H : Hp} : ∀ (l : List (List Pt)) (as : List Addr), PasAt k K H l as → ∀ (i : Nat) (x : V), (as.map V.ref)[i]? = some x → ∃ y p, x = .ref y ∧ l[i]? = some p ∧ PaAt k K H p y
  | [], as, h, i, x, e => by
    rw [PasAt] at h
    rw [h] at e
    cases e
  | q :: l, as, h, i, x, e => by
    rw [PasAt] at h
    obtain ⟨a, r, rfl, h1, h3⟩ := h
    cases i with
    | zero =>
      cases e
      exact ⟨a, q, rfl, rfl, h1⟩
    | succ i => exact PasAt.gets l r h3 i x e
theorem PtsAt.gets {H : Hp} : ∀ (l : List Pt) (as : List Addr), PtsAt k K H l as → ∀ (i : Nat) (x : V), (as.map V.ref)[i]? = some x → ∃ y p, x = .ref y ∧ l[i]? = some p ∧ PtAt k K H p y
  | [], as, h, i, x, e => by
    rw [PtsAt] at h
    rw [h] at e
    cases e
  | q :: l, as, h, i, x, e => by
    rw [PtsAt] at h
    obtain ⟨a, r, rfl, h1, h3⟩ := h
    cases i with
    | zero =>
      cases e
      exact ⟨a, q, rfl, rfl, h1⟩
    | succ i => exact PtsAt.gets l r h3 i x e
theorem cut1 {xs : List V} (h : 1 ≤ xs.length) : cutV xs (some 1) none = xs.drop 1 := by
  unfold cutV
  rw [show HT.sIx xs.length 0 (some 1) = 1 from (HT.sIx_nat xs.length 0 1).trans (by omega), HT.sIx_none]
  exact List.take_of_length_le (by rw [List.length_drop]; omega)
theorem cut1w {xs : List V} (h : 1 ≤ xs.length) : ¬ (HT.sIx xs.length 0 (some 1) = 0 ∧ HT.sIx xs.length xs.length none = xs.length) := by
  rw [show HT.sIx xs.length 0 (some 1) = 1 from (HT.sIx_nat xs.length 0 1).trans (by omega)]
  omega
def spNo (C CP : Addr) (k : Cs) (K : PySem.W.Frag) (d : Nat) : Sp := fun vs H Q E => ∃ (x : Addr) (b : List Pt) (t : List Nat), vs = [.ref x, .str (S t)] ∧ t.length ≤ 10000 ∧ PaAt k K H b x ∧ OkL b ∧ wtL b ≤ 400 ∧ dpL b + 1 ≤ d ∧ ((∃ y, t = [y] ∧ y ∈ PAR ∧ ∀ n H' u, Same H H' → NdAt C K H' n u → Zn.RL y b u → Q (.ref n) H') ∨ (isPy t = false ∧ ∀ dd, H dd = none → E (.ref CP) (some dd) (upd H dd (.xd [("party", .str (S t))]))))
def spNc (C : Addr) (k : Cs) (K : PySem.W.Frag) (d : Nat) : Sp := fun vs H Q _ => ∃ (x : Addr) (y o : Nat) (os : List (List Pt)), vs = [.ref x, .str (S [y])] ∧ PtAt k K H (.ch o os) x ∧ y ∈ PAR ∧ Pk.Ok (.ch o os) ∧ wt (.ch o os) ≤ 400 ∧ dp (.ch o os) ≤ d ∧ ∀ n H' u, Same H H' → NdAt C K H' n u → Zn.R y (.ch o os) u → Q (.ref n) H'
theorem ok_need_of_choice {d : Nat} (F : FnP K "need_of_choice" s_need_of_choice f fd) (pa : PtA K k) (o_or : Bin2 P w K mg base 4 C "__or__" (Zn.spMM true C K)) (o_and : Bin2 P w K mg base 4 C "__and__" (Zn.spMM false C K)) (c_need_of : CalX P w K mg base (3 * d + 5) "need_of" (spNo C CP k K d)) : FnOk P w K mg base CX0 (3 * d + 6) f fd P_need_of_choice (spNc C k K d) := by
  refine F.ok sc_need_of_choice (fun vs H Q E h => ?_) (fun cdv A outer s H vs Q E hr h => ?_)
  · obtain ⟨x, y, o, os, rfl, _⟩ := h
    rfl
  · obtain ⟨x, y, o, os, rfl, hx, hy, ok, hw, hd, qq⟩ := h
    refine ⟨_, PSs.nox (pss_cons (ps_set (i := 2) sc_need_of_choice.nd rfl (by first | exact .inl rfl | exact .inr rfl) (pe_clE c_need_of (fun _ => passS0) hr (by omega) (by rfl) (pa_cons (pe_ix ix_tup (pe_fld (pv 0) rfl) pe_int (fun _ _ => rfl)) (pa_cons (pv 1) pa_nil))))
      (pss_cons (ps_for PassesOwn.never rfl (pi_tup (pe_slice sl_tup (pe_fld (pv 0) rfl) (po_some pe_int) po_none)) (pg_name (i := 3) sc_need_of_choice.nd rfl (by first | exact .inl rfl | exact .inr rfl))
        (pss_cons (ps_set (i := 4) sc_need_of_choice.nd rfl (by first | exact .inl rfl | exact .inr rfl) (pe_clE c_need_of (fun _ => passS0) hr (by omega) (by rfl) (pa_cons (pv 3) (pa_cons (pv 1) pa_nil))))
      (pss_one (ps_set (i := 2) sc_need_of_choice.nd rfl (by first | exact .inl rfl | exact .inr rfl) (pe_ifExp (pt_cmpR op_eq (pe_fld (pv 0) rfl) (pv 1) (nomark _)) (pe_op (op_bin o_or hr (by omega)) (pv 2) (pv 4)) (pe_op (op_bin o_and hr (by omega)) (pv 2) (pv 4)))))))
      (pss_one (ps_ret (pv 2))))), ?_⟩
    rw [PtAt] at hx
    obtain ⟨dx, t, as, hx, hT, hP⟩ := hx
    rw [Pk.Ok] at ok
    obtain ⟨ho, l2, l6, okb⟩ := ok
    rw [wt] at hw
    rw [dp] at hd
    have la := PasAt.len _ _ hP
    match os, as, l2, la, hP, okb, hw, hd, l6, hT, hx, qq with
    | b :: os, x0 :: as, l2, la, hP, okb, hw, hd, l6, hT, hx, qq =>
    have hP0 := hP
    rw [PasAt] at hP
    obtain ⟨x0', r0, e0, hb, hP⟩ := hP
    obtain ⟨rfl, rfl⟩ := List.cons.inj e0
    rw [OkLL] at okb
    rw [wtLL] at hw
    rw [dpLL] at hd
    walk_at "go"
    refine ⟨x, k.C, dx, _, _, rfl, hx, pa.cC, pa.C2, rfl, ?_⟩
    walk_at "go"
    refine ⟨t, _, 0, _, rfl, rfl, hT, at_0, ?_⟩
    walk_at "go"
    refine ⟨x0, b, [y], rfl, (show 1 ≤ 10000 by decide), hb, okb.1, by omega, by omega, .inl ⟨y, rfl, hy, fun n H1 u s1 hn hu => ?_⟩⟩
    have hx1 := s1 _ _ hx
    have hT1 := Z.Same.sqT s1 hT
    have hP1 := PasAt.mono s1 _ _ hP
    walk_at "go"
    refine ⟨x, k.C, dx, _, _, rfl, hx1, pa.cC, pa.C2, rfl, ?_⟩
    walk_at "go"
    have lx : 1 ≤ ((x0 :: as).map V.ref).length := by rw [List.length_map, List.length_cons]; omega
    refine ⟨t, _, rfl, hT1, cut1w lx, ?_⟩
    rw [cut1 lx]
    intro p np
    generalize eH_ : upd H1 p _ = H2
    have s2 : Same H1 H2 := by rw [← eH_]; exact same_new np
    have ep : H2 p = some (.tup (as.map V.ref)) := by rw [← eH_]; exact upd_same
    clear eH_
    refine ⟨p, rfl, ⟨_, SqT.of ep⟩, ?_⟩
    have s12 := s1.trans s2
    have hx2 := s2 _ _ hx1
    have hP2 := PasAt.mono s2 _ _ hP1
    have la2 : as.length = os.length := PasAt.len _ _ hP
    obtain ⟨sm, hsm⟩ : ∃ sm, sm = decide (o = y) := ⟨_, rfl⟩
    refine for_sq (b := false) (SqT.of ep) (fun i σ J => Same H2 J ∧ ∃ (n : Addr) (u : Zn.Nn) (v3 v4 : Option V), NdAt C K J n u ∧ Zn.RC y sm (b :: os.take i) u ∧ σ = [some (.ref x), some (.str (S [y])), some (.ref n), v3, v4]) ⟨Same.refl _, n, u, none, none, hn.mono s2, by rw [List.take_zero]; exact RC_one hu, rfl⟩ (fun i σ J h => h.1) (fun i z σ J ez h => ?_) (fun σ J h => ?_)
    · obtain ⟨s3, n, u, v3, v4, hn, hu, rfl⟩ := h
      obtain ⟨y2, b2, rfl, eb, hb2⟩ := PasAt.gets _ _ hP2 i z ez
      have pm := List.mem_of_getElem? eb
      have w2 := wtLL_mem pm
      have d2 := dpLL_mem pm
      have ok2 := okLL_iff.mp okb.2 b2 pm
      have hx3 := s3 _ _ hx2
      walk_at "go"
      refine ⟨y2, b2, [y], rfl, (show 1 ≤ 10000 by decide), hb2.mono s3, ok2, by omega, by omega, .inl ⟨y, rfl, hy, fun m H4 c s4 hm hc => ?_⟩⟩
      have hx4 := s4 _ _ hx3
      have e1 := Zn.RC.len y sm _ u (show OkLL (b :: os.take i) by rw [OkLL]; exact ⟨okb.1, okLL_iff.mpr fun q hq => okLL_iff.mp okb.2 q (List.mem_of_mem_take hq)⟩) hu
      have e2 := Zn.RL.len y b2 c ok2 hc
      have e3 : wtLL (b :: os.take i) ≤ wtL b + wtLL os := by
        rw [wtLL]
        have := wtLL_take os i
        omega
      have e4 : (b :: os.take i).length ≤ 6 := by
        rw [List.length_cons, List.length_take]
        rw [List.length_cons] at l6
        omega
      have ou := Zn.RC.ok y sm _ u hu
      have oc := Zn.RL.ok y b2 c hc
      walk_at "go"
      refine ⟨x, k.C, dx, _, _, rfl, hx4, pa.cC, pa.C1, rfl, ?_⟩
      walk_at "go"
      rw [dec_S, ← hsm]
      have fin : ∀ n' H' v, Same H4 H' → NdAt C K H' n' v → Zn.MMr sm u c v → Same H2 H' ∧ ∃ (n : Addr) (u : Zn.Nn) (v3 v4 : Option V), NdAt C K H' n u ∧ Zn.RC y sm (b :: os.take (i + 1)) u ∧ [some (V.ref x), some (V.str (S [y])), some (V.ref n'), some (V.ref y2), some (V.ref m)] = [some (.ref x), some (.str (S [y])), some (.ref n), v3, v4] := fun n' H' v s5 hv hmm => by
        refine ⟨(s3.trans s4).trans s5, n', v, _, _, hv, ?_, rfl⟩
        rw [List.take_add_one, eb]
        exact RC_snoc hc (b :: os.take i) hu hmm
      cases sm with
      | true =>
        walk_at "go"
        exact rd_mm (hn.mono s4) hm ou oc (by omega) (by omega) fun n' H' v s5 hv hmm => fin n' H' v s5 hv hmm
      | false =>
        walk_at "go"
        exact rd_mm (hn.mono s4) hm ou oc (by omega) (by omega) fun n' H' v s5 hv hmm => fin n' H' v s5 hv hmm
    · obtain ⟨s3, n, u, v3, v4, hn, hu, rfl⟩ := h
      walk_at "go"
      refine qq n J u (s12.trans s3) hn ?_
      rw [Zn.R, ← hsm]
      rw [List.length_map, la2, List.take_length] at hu
      exact hu
end
end Z
set_option pp.maxSteps 700
set_option Elab.async false
set_option linter.all false
set_option maxRecDepth 100000
set_option maxHeartbeats 4000000
open SX (S S_inj S_len S_cat)
namespace Z
open Pk NdefX
open PySem PySem.Spec PyProof.Rows L2
open C8 (pss_cut tCut)
local macro_rules | `(tactic| walk_at "num") => `(tactic| first | rfl | omega | decide | exact Nat.le_of_lt (small1000 (by simp)) | exact ⟨by omega, by omega⟩ | exact ⟨by omega, by omega, by omega⟩ | exact ⟨by decide, by decide, by decide⟩ | exact Or.inl ⟨by omega, by omega⟩ | exact Or.inr ⟨by omega, by omega⟩)
local macro_rules | `(tactic| walk_at "go") => `(tactic| repeat (first | refine ⟨_, rfl, ?_⟩ | refine ⟨_, _, rfl, rfl, ?_⟩ | refine ⟨_, _, rfl, ?_⟩ | (refine ⟨_, _, rfl, rfl, ?_, ?_⟩; focus walk_at "num") | refine Or.inl ⟨_, rfl, ?_⟩ | refine ⟨_, _, _, _, rfl, rfl, (by assumption), (by rfl), ?_⟩ | refine ⟨_, _, _, _, _, rfl, (by assumption), (by assumption), (by assumption), (by rfl), ?_⟩ | refine ⟨rfl, ?_⟩ | (refine And.intro ?_ ?_; focus walk_at "num")))
section
variable {P : Program} {w : World} {K : PySem.W.Frag} {mg : Str → Option Value} {base : Heap} {f C CP CB : Addr} {k : Cs} {fd : FuncData}
def spNp (C : Addr) (k : Cs) (K : PySem.W.Frag) (d : Nat) : Sp := fun vs H Q _ => ∃ (x : Addr) (y : Nat) (p : Pt), vs = [.ref x, .str (S [y])] ∧ PtAt k K H p x ∧ y ∈ PAR ∧ Pk.Ok p ∧ wt p ≤ 400 ∧ dp p ≤ d ∧ ∀ n H' u, Same H H' → NdAt C K H' n u → Zn.R y p u → Q (.ref n) H'
theorem ok_need_of_part {d : Nat} (F : FnP K "need_of_part" s_need_of_part f fd) (pa : PtA K k) (k_Need : Mak P w K mg base 2 "Need" (Zn.spNeed C K)) (me_endless : Met P w K mg base 4 C "endless" (Zn.spEndless C K)) (me_mine : Met P w K mg base 4 C "mine" (Zn.spMine C K)) (me_theirs : Met P w K mg base 4 C "theirs" (Zn.spTheirs C K)) (o_mul : BinI P w K mg base 5 C .Mult (Zn.spMul C CB K)) (c_need_of_transfer : Cal P w K mg base 4 "need_of_transfer" (spNdT C k K)) (c_need_of_choice : Cal P w K mg base (3 * d + 6) "need_of_choice" (spNc C k K d)) (c_need_of : CalX P w K mg base (3 * d + 5) "need_of" (spNo C CP k K d)) : FnOk P w K mg base CX0 (3 * d + 7) f fd P_need_of_part (spNp C k K d) := by
  refine F.ok sc_need_of_part (fun vs H Q E h => ?_) (fun cdv A outer s H vs Q E hr h => ?_)
  · obtain ⟨x, y, p, rfl, _⟩ := h
    rfl
  · obtain ⟨x, y, p, rfl, hx0, hy, ok, hw, hd, qq⟩ := h
    refine ⟨_, PSs.nox (pss_cons (ps_if (pt_cmpR op_eq (pe_con (pv 0) rfl) pe_str (nomark _)) (pss_one (ps_ret (pe_cl c_need_of_transfer hr (by omega) (by rfl) (pa_cons (pv 0) (pa_cons (pv 1) pa_nil))))) pss_nil)
      (pss_cons (ps_if (pt_cmpR op_eq (pe_con (pv 0) rfl) pe_str (nomark _)) (pss_one (ps_ret (pe_mk k_Need hr (by omega) (by rfl) (pa_cons pe_int (pa_cons (pe_tup (pa_cons (pe_tup (pa_cons pe_int (pa_cons pe_non pa_nil))) pa_nil)) (pa_cons pe_non pa_nil)))))) pss_nil)
      (pss_cons (ps_if (pt_cmpR op_eq (pe_con (pv 0) rfl) pe_str (nomark _)) (pss_one (ps_ret (pe_cl c_need_of_choice hr (by omega) (by rfl) (pa_cons (pv 0) (pa_cons (pv 1) pa_nil))))) pss_nil)
      (pss_cons (ps_set (i := 2) sc_need_of_part.nd rfl (by first | exact .inl rfl | exact .inr rfl) (pe_clE c_need_of (fun _ => passS0) hr (by omega) (by rfl) (pa_cons (pe_fld (pv 0) rfl) (pa_cons (pv 1) pa_nil))))
      (pss_cons (ps_if (pt_cmpR op_eq (pe_con (pv 0) rfl) pe_str (nomark _)) (pss_one (ps_ret (pe_opE o_mul (fun _ => passS0) hr (by omega) (pv 2) (pe_fld (pv 0) rfl)))) pss_nil)
      (pss_cons (ps_if (pt_cmpR op_eq (pe_con (pv 0) rfl) pe_str (nomark _)) (pss_one (ps_ret (pe_me0 me_endless (pv 2) hr (by omega)))) pss_nil)
      (pss_one (ps_ret (pe_ifExp (pt_cmpR op_eq (pe_fld (pv 0) rfl) (pv 1) (nomark _)) (pe_me0 me_mine (pv 2) hr (by omega)) (pe_me0 me_theirs (pv 2) hr (by omega))))))))))), ?_⟩
    have hx := hx0
    match p, hx, hx0, ok, hw, hd, qq with
    | .tr p q m, hx, hx0, ok, hw, hd, qq =>
      rw [PtAt] at hx
      obtain ⟨dx, hx⟩ := hx
      obtain ⟨ku, hK⟩ := pa.kT
      have pC := pa.cT
      obtain ⟨kC, hkC⟩ : ∃ kC, kC = k.T := ⟨_, rfl⟩
      rw [← hkC] at hx hK pC
      walk_at "go"
      refine ⟨x, kC, dx, _, _, _, rfl, hx, pC, hK, rfl, ?_⟩
      walk_at "go"
      exact ⟨x, y, p, q, m, rfl, hx0, fun n H1 s1 hn => qq n H1 _ s1 hn (by rw [Zn.R])⟩
    | .ev c, hx, hx0, ok, hw, hd, qq =>
      rw [PtAt] at hx
      obtain ⟨dx, hx⟩ := hx
      obtain ⟨ku, hK⟩ := pa.kE
      have pC := pa.cE
      obtain ⟨kC, hkC⟩ : ∃ kC, kC = k.E := ⟨_, rfl⟩
      rw [← hkC] at hx hK pC
      walk_at "go"
      refine ⟨x, kC, dx, _, _, _, rfl, hx, pC, hK, rfl, ?_⟩
      walk_at "go"
      refine ⟨x, kC, dx, _, _, _, rfl, hx, pC, hK, rfl, ?_⟩
      walk_at "go"
      intro t1 nt1
      generalize eH_ : upd H t1 _ = H1
      have s1 : Same H H1 := by rw [← eH_]; exact same_new nt1
      have et1 : H1 t1 = some (.tup [.int 0, .non]) := by rw [← eH_]; exact upd_same
      clear eH_
      walk_at "go"
      intro t2 nt2
      generalize eH_ : upd H1 t2 _ = H2
      have s2 : Same H1 H2 := by rw [← eH_]; exact same_new nt2
      have et2 : H2 t2 = some (.tup [.ref t1]) := by rw [← eH_]; exact upd_same
      clear eH_
      walk_at "go"
      refine ⟨false, false, some 0, none, t2, [t1], [(0, none)], rfl, Zn.ris_one (SqT.of et2) (SqT.of (s2 _ _ et1)), (by show (1 : Nat) ≤ 100000; decide), Zn.ok_id, fun n H3 s3 _ h3 => ?_⟩
      exact qq n H3 Zn.idN ((s1.trans s2).trans s3) h3 (by rw [Zn.R])
    | .ch o os, hx, hx0, ok, hw, hd, qq =>
      rw [PtAt] at hx
      obtain ⟨dx, t, as, hx, _⟩ := hx
      obtain ⟨ku, hK⟩ := pa.kC
      have pC := pa.cC
      obtain ⟨kC, hkC⟩ : ∃ kC, kC = k.C := ⟨_, rfl⟩
      rw [← hkC] at hx hK pC
      walk_at "go"
      refine ⟨x, kC, dx, _, _, _, rfl, hx, pC, hK, rfl, ?_⟩
      walk_at "go"
      refine ⟨x, kC, dx, _, _, _, rfl, hx, pC, hK, rfl, ?_⟩
      walk_at "go"
      refine ⟨x, kC, dx, _, _, _, rfl, hx, pC, hK, rfl, ?_⟩
      walk_at "go"
      exact ⟨x, y, o, os, rfl, hx0, hy, ok, hw, hd, qq⟩
    | .ti c b, hx, hx0, ok, hw, hd, qq =>
      rw [PtAt] at hx
      obtain ⟨dx, z, dy, t, as, hx, h1, h2, h3⟩ := hx
      obtain ⟨ku, hK⟩ := pa.kM
      have pC := pa.cM
      have F1 := pa.M1
      have F2 := pa.M2
      obtain ⟨kC, hkC⟩ : ∃ kC, kC = k.M := ⟨_, rfl⟩
      rw [← hkC] at hx hK pC F1 F2
      rw [Pk.Ok] at ok
      rw [wt] at hw
      rw [dp] at hd
      have h4 : wtL b ≤ wtL b * (if c < 1 then 1 else c) := Nat.le_mul_of_pos_right _ (by split <;> omega)
      walk_at "go"
      refine ⟨x, kC, dx, _, _, _, rfl, hx, pC, hK, rfl, ?_⟩
      walk_at "go"
      refine ⟨x, kC, dx, _, _, _, rfl, hx, pC, hK, rfl, ?_⟩
      walk_at "go"
      refine ⟨x, kC, dx, _, _, _, rfl, hx, pC, hK, rfl, ?_⟩
      walk_at "go"
      refine ⟨z, b, [y], rfl, (show 1 ≤ 10000 by decide), ⟨dy, t, as, h1, h2, h3⟩, ok.2, by omega, by omega, .inl ⟨y, rfl, hy, fun n H1 u s1 hn hu => ?_⟩⟩
      have hx := s1 _ _ hx
      walk_at "go"
      refine ⟨x, kC, dx, _, _, _, rfl, hx, pC, hK, rfl, ?_⟩
      walk_at "go"
      obtain ⟨du, fu, eu⟩ := hn.ins
      have ou := Zn.RL.ok y b u hu
      have lu := Zn.RL.len y b u ok.2 hu
      have lc : Zn.rl u * c + Zn.rl u + 1 ≤ 50000 := by
        by_cases z0 : wtL b = 0
        · have : Zn.rl u ≤ 1 := by omega
          have := Nat.mul_le_mul this ok.1
          omega
        · by_cases c0 : c < 1
          · have : c = 0 := by omega
            subst this
            omega
          · rw [if_neg c0] at hw
            have e1 : Zn.rl u * c ≤ (6 * wtL b) * c := Nat.mul_le_mul_right _ (by omega)
            have e2 : (6 * wtL b) * c = 6 * (wtL b * c) := Nat.mul_assoc _ _ _
            have e3 : wtL b ≤ wtL b * c := Nat.le_mul_of_pos_right _ (by omega)
            omega
      refine ⟨n, (c : Int), du, fu, rfl, rfl, eu, n, (c : Int), _, _, _, rfl, hn, ou, fun _ _ => ⟨by rw [Int.toNat_natCast]; exact lc, fun p H2 st2 rs2 nv2 s2 hp ok2 hv _ => ⟨p, rfl, ?_⟩⟩, fun z => by omega⟩
      refine qq p H2 (st2, rs2, nv2) (s1.trans s2) hp ?_
      rw [Zn.R]
      refine ⟨u, hu, ok2, fun k hk => ?_⟩
      have := hv k hk
      rw [Int.toNat_natCast] at this
      exact this
    | .en b, hx, hx0, ok, hw, hd, qq =>
      rw [PtAt] at hx
      obtain ⟨dx, z, dy, t, as, hx, h1, h2, h3⟩ := hx
      obtain ⟨ku, hK⟩ := pa.kN
      have pC := pa.cN
      have F2 := pa.N1
      obtain ⟨kC, hkC⟩ : ∃ kC, kC = k.N := ⟨_, rfl⟩
      rw [← hkC] at hx hK pC F2
      rw [Pk.Ok] at ok
      rw [wt] at hw
      rw [dp] at hd
      walk_at "go"
      refine ⟨x, kC, dx, _, _, _, rfl, hx, pC, hK, rfl, ?_⟩
      walk_at "go"
      refine ⟨x, kC, dx, _, _, _, rfl, hx, pC, hK, rfl, ?_⟩
      walk_at "go"
      refine ⟨x, kC, dx, _, _, _, rfl, hx, pC, hK, rfl, ?_⟩
      walk_at "go"
      refine ⟨z, b, [y], rfl, (show 1 ≤ 10000 by decide), ⟨dy, t, as, h1, h2, h3⟩, ok, by omega, by omega, .inl ⟨y, rfl, hy, fun n H1 u s1 hn hu => ?_⟩⟩
      have hx := s1 _ _ hx
      walk_at "go"
      refine ⟨x, kC, dx, _, _, _, rfl, hx, pC, hK, rfl, ?_⟩
      walk_at "go"
      refine ⟨x, kC, dx, _, _, _, rfl, hx, pC, hK, rfl, ?_⟩
      walk_at "go"
      obtain ⟨du, r, ps, eu, _⟩ := id hn
      have ou := Zn.RL.ok y b u hu
      refine ⟨n, du, _, rfl, eu, rfl, ?_⟩
      walk_at "go"
      refine ⟨u.1, u.2.2, n, u.2.1, rfl, hn, ou, fun p H2 s2 hp => ?_⟩
      refine qq p H2 (Zn.enN u) (s1.trans s2) hp ?_
      rw [Zn.R]
      exact ⟨u, hu, rfl⟩
    | .rd o b, hx, hx0, ok, hw, hd, qq =>
      rw [PtAt] at hx
      obtain ⟨dx, z, dy, t, as, hx, h1, h2, h3⟩ := hx
      obtain ⟨ku, hK⟩ := pa.kR
      have pC := pa.cR
      have F1 := pa.R1
      have F2 := pa.R2
      obtain ⟨kC, hkC⟩ : ∃ kC, kC = k.R := ⟨_, rfl⟩
      rw [← hkC] at hx hK pC F1 F2
      rw [Pk.Ok] at ok
      rw [wt] at hw
      rw [dp] at hd
      walk_at "go"
      refine ⟨x, kC, dx, _, _, _, rfl, hx, pC, hK, rfl, ?_⟩
      walk_at "go"
      refine ⟨x, kC, dx, _, _, _, rfl, hx, pC, hK, rfl, ?_⟩
      walk_at "go"
      refine ⟨x, kC, dx, _, _, _, rfl, hx, pC, hK, rfl, ?_⟩
      walk_at "go"
      refine ⟨z, b, [y], rfl, (show 1 ≤ 10000 by decide), ⟨dy, t, as, h1, h2, h3⟩, ok.2, by omega, by omega, .inl ⟨y, rfl, hy, fun n H1 u s1 hn hu => ?_⟩⟩
      have hx := s1 _ _ hx
      walk_at "go"
      refine ⟨x, kC, dx, _, _, _, rfl, hx, pC, hK, rfl, ?_⟩
      walk_at "go"
      refine ⟨x, kC, dx, _, _, _, rfl, hx, pC, hK, rfl, ?_⟩
      walk_at "go"
      rw [dec_S]
      obtain ⟨du, r, ps, eu, _⟩ := id hn
      have ou := Zn.RL.ok y b u hu
      have fin : ∀ p H2, Same H1 H2 → NdAt C K H2 p (Zn.rdN y o u) → Q (.ref p) H2 := fun p H2 s2 hp => qq p H2 _ (s1.trans s2) hp (by
        rw [Zn.R]
        exact ⟨u, hu, rfl⟩)
      refine ite2 (fun e => ?_) (fun e => ?_)
      · have e := of_decide_eq_true e
        walk_at "go"
        refine ⟨n, du, _, rfl, eu, rfl, ?_⟩
        walk_at "go"
        refine ⟨u.1, u.2.2, n, u.2.1, rfl, hn, ou, fun p H2 s2 hp => ?_⟩
        refine fin p H2 s2 ?_
        unfold Zn.rdN
        rw [if_pos e]
        exact hp
      · have e : ¬ o = y := fun z => e (decide_eq_true z)
        walk_at "go"
        refine ⟨n, du, _, rfl, eu, rfl, ?_⟩
        walk_at "go"
        refine ⟨u.1, u.2.2, n, u.2.1, rfl, hn, ou, fun p H2 s2 hp => ?_⟩
        refine fin p H2 s2 ?_
        unfold Zn.rdN
        rw [if_neg e]
        exact hp
/-! ### need_of -/
theorem ok_need_of {d : Nat} (F : FnP K "need_of" s_need_of f fd) (pa : PtA K k) (k_Need : Mak P w K mg base 2 "Need" (Zn.spNeed C K)) (o_rshift : Bin2 P w K mg base 4 C "__rshift__" (Zn.spRsh C K)) (c_check_party : CalX P w K mg base 3 "check_party" (spChP CP)) (c_need_of_part : Cal P w K mg base (3 * d + 7) "need_of_part" (spNp C k K d)) : FnOk P w K mg base (L2N.CX P w) (3 * d + 8) f fd P_need_of (spNo C CP k K (d + 1)) := by
  refine F.ok sc_need_of (fun vs H Q E h => ?_) (fun cdv A outer s H vs Q E hr h => ?_)
  · obtain ⟨x, b, t, rfl, _⟩ := h
    rfl
  · obtain ⟨x, b, t, rfl, lt, hx, ok, hw, hd, hh⟩ := h
    have tk := takes_fn (P := P) (w := w) (K := K) (mg := mg) (base := base) (N := N_need_of) (qual := "need_of") (scope := defScope s_need_of) (f := f) (cd := cdv) (A := A) (outer := outer) (s := s) (H := H) (E := E)
    refine ⟨_, (pss_cons (ps_expr (pe_clE c_check_party (fun σ => L2N.passAt tk σ) hr (by omega) (by rfl) (pa_cons (pv 1) pa_nil)))
      (pss_cons (ps_set (i := 2) sc_need_of.nd rfl (by first | exact .inl rfl | exact .inr rfl) (pe_mk k_Need hr (by omega) (by rfl) (pa_cons pe_int (pa_cons (pe_tup (pa_cons (pe_tup (pa_cons pe_int (pa_cons pe_non pa_nil))) pa_nil)) (pa_cons pe_non pa_nil)))))
      (pss_cons (ps_for (passes_of rfl) rfl (pi_tup (pe_revT (pe_fld (pv 0) rfl))) (pg_name (i := 3) sc_need_of.nd rfl (by first | exact .inl rfl | exact .inr rfl))
        (pss_one (ps_set (i := 2) sc_need_of.nd rfl (by first | exact .inl rfl | exact .inr rfl) (pe_op (op_bin o_rshift hr (by omega)) (pe_cl c_need_of_part hr (by omega) (by rfl) (pa_cons (pv 3) (pa_cons (pv 1) pa_nil))) (pv 2)))))
      (pss_one (ps_ret (pv 2)))))), ?_⟩
    obtain ⟨dx, tp, as, hx, hT, hP⟩ := hx
    have la := PtsAt.len _ _ hP
    walk_at "go"
    refine ⟨fun c => ?_, fun c => ?_⟩
    rotate_left
    · rcases hh with ⟨y, rfl, hy, _⟩ | ⟨_, q⟩
      · rw [isPy_one hy] at c
        cases c
      · exact q
    rcases hh with ⟨y, rfl, hy, qq⟩ | ⟨c2, _⟩
    rotate_left
    · rw [c] at c2
      cases c2
    walk_at "go"
    intro t1 nt1
    generalize eH_ : upd H t1 _ = H1
    have s1 : Same H H1 := by rw [← eH_]; exact same_new nt1
    have et1 : H1 t1 = some (.tup [.int 0, .non]) := by rw [← eH_]; exact upd_same
    clear eH_
    walk_at "go"
    intro t2 nt2
    generalize eH_ : upd H1 t2 _ = H2
    have s2 : Same H1 H2 := by rw [← eH_]; exact same_new nt2
    have et2 : H2 t2 = some (.tup [.ref t1]) := by rw [← eH_]; exact upd_same
    clear eH_
    walk_at "go"
    refine ⟨false, false, some 0, none, t2, [t1], [(0, none)], rfl, Zn.ris_one (SqT.of et2) (SqT.of (s2 _ _ et1)), (by show (1 : Nat) ≤ 100000; decide), Zn.ok_id, fun n H3 s3 _ h3 => ?_⟩
    have s03 := (s1.trans s2).trans s3
    have hx3 := s03 _ _ hx
    have hT3 := Z.Same.sqT s03 hT
    have hP3 := PtsAt.mono s03 _ _ hP
    walk_at "go"
    refine ⟨x, k.P, dx, _, _, rfl, hx3, pa.cP, pa.P1, rfl, ?_⟩
    walk_at "go"
    refine ⟨tp, _, rfl, hT3, ?_⟩
    intro tr ntr
    generalize eH_ : upd H3 tr _ = H4
    have s4 : Same H3 H4 := by rw [← eH_]; exact same_new ntr
    have etr : H4 tr = some (.tup (as.map V.ref).reverse) := by rw [← eH_]; exact upd_same
    clear eH_
    refine ⟨tr, rfl, ⟨_, SqT.of etr⟩, ?_⟩
    have hP4 := PtsAt.mono s4 _ _ hP3
    refine for_sq (b := false) (SqT.of etr) (fun i σ J => Same H4 J ∧ ∃ (n : Addr) (u : Zn.Nn) (v3 : Option V), NdAt C K J n u ∧ Zn.RL y (b.drop (b.length - i)) u ∧ σ = [some (.ref x), some (.str (S [y])), some (.ref n), v3]) ⟨Same.refl _, n, Zn.idN, none, NdAt.mono s4 h3, by rw [Nat.sub_zero, List.drop_length, Zn.RL], rfl⟩ (fun i σ J h => h.1) (fun i z σ J ez h => ?_) (fun σ J h => ?_)
    · obtain ⟨s5, n, u, v3, hn, hu, rfl⟩ := h
      have li := (List.getElem?_eq_some_iff.mp ez).1
      rw [List.length_reverse, List.length_map] at li
      rw [List.getElem?_reverse (by rw [List.length_map]; exact li), List.length_map] at ez
      obtain ⟨y2, p, rfl, ep, hp⟩ := PtsAt.gets _ _ hP4 _ z ez
      have pm := List.mem_of_getElem? ep
      have w2 := wtL_mem pm
      have d2 := dpL_mem pm
      have ok2 := okL_iff.mp ok p pm
      have ed : b.drop (b.length - (i + 1)) = p :: b.drop (b.length - i) := by
        rw [List.drop_eq_getElem?_toList_append, show b.length - (i + 1) = as.length - 1 - i by omega, ep, show as.length - 1 - i + 1 = b.length - i by omega]
        rfl
      have okd : OkL (b.drop (b.length - i)) := okL_iff.mpr fun q hq => okL_iff.mp ok q (List.mem_of_mem_drop hq)
      have lu := Zn.RL.len y _ u okd hu
      have wd : wtL (b.drop (b.length - i)) ≤ wtL b := by
        have : wtL b = wtL (b.take (b.length - i)) + wtL (b.drop (b.length - i)) := by rw [← wtL_app, List.take_append_drop]
        omega
      have ou := Zn.RL.ok y _ u hu
      walk_at "go"
      refine ⟨y2, y, p, rfl, hp.mono s5, hy, ok2, by omega, by omega, fun m H6 c s6 hm hc => ?_⟩
      have lc := Zn.R.len y p c ok2 hc
      walk_at "go"
      refine rd_rsh hm (hn.mono s6) (Zn.R.ok y p c hc) ou (by omega) fun n' H7 v s7 hv hcc => ?_
      walk_at "go"
      refine ⟨(s5.trans s6).trans s7, n', v, _, hv, ?_, rfl⟩
      rw [ed, Zn.RL]
      exact ⟨c, u, hc, hu, hcc⟩
    · obtain ⟨s5, n, u, v3, hn, hu, rfl⟩ := h
      rw [List.length_reverse, List.length_map, la, Nat.sub_self, List.drop_zero] at hu
      walk_at "go"
      exact qq n J u ((s03.trans s4).trans s5) hn hu
end
end Z
set_option pp.maxSteps 700
set_option Elab.async false
set_option linter.all false
set_option maxRecDepth 100000
set_option maxHeartbeats 4000000
namespace Zn
open Z
open Nd
open PySem PySem.Spec PyProof.Rows L2
open C8 (pss_cut tCut)
local macro_rules | `(tactic| walk_at "num") => `(tactic| first | rfl | omega | decide | exact Nat.le_of_lt (small1000 (by simp)) | exact ⟨by omega, by omega⟩ | exact ⟨by omega, by omega, by omega⟩ | exact ⟨by decide, by decide, by decide⟩ | exact Or.inl ⟨by omega, by omega⟩ | exact Or.inr ⟨by omega, by omega⟩)
local macro_rules | `(tactic| walk_at "go") => `(tactic| repeat (first | refine ⟨_, rfl, ?_⟩ | refine ⟨_, _, rfl, rfl, ?_⟩ | refine ⟨_, _, rfl, ?_⟩ | (refine ⟨_, _, rfl, rfl, ?_, ?_⟩; focus walk_at "num") | refine Or.inl ⟨_, rfl, ?_⟩ | refine ⟨_, _, _, _, rfl, rfl, (by assumption), (by rfl), ?_⟩ | refine ⟨_, _, _, _, _, rfl, (by assumption), (by assumption), (by assumption), (by rfl), ?_⟩ | refine ⟨rfl, ?_⟩ | (refine And.intro ?_ ?_; focus walk_at "num")))
/-! ### == of pairs, of needs -/
def oD : Option Int → PyData
  | none => .none
  | some i => .int i
def pairD (c : Bool) (q : Int × Option Int) : PyData := match c with
  | true => .list [.int q.1, oD q.2]
  | false => .tuple [.int q.1, oD q.2]
def risD (b c : Bool) (rs : Rs) : PyData := match b with
  | true => .list (rs.map (pairD c))
  | false => .tuple (rs.map (pairD c))
theorem dp_o {K : PySem.W.Frag} {H : Hp} : ∀ o : Option Int, Dp K H (oV o) (oD o)
  | none => .non
  | some i => .int i
theorem dpa_pair {K : PySem.W.Frag} {H : Hp} (q : Int × Option Int) : DpAll K H [.int q.1, oV q.2] [.int q.1, oD q.2] := .cons (.int _) (.cons (dp_o _) .nil)
theorem dp_pair {c : Bool} {K : PySem.W.Frag} {H : Hp} {p : Addr} {q : Int × Option Int} (h : SqK c K H p [.int q.1, oV q.2]) : Dp K H (.ref p) (pairD c q) := by
  cases c
  · exact dp_sq (b := false) h (dpa_pair q)
  · exact dp_sq (b := true) h (dpa_pair q)
theorem dpa_ris {c : Bool} {K : PySem.W.Frag} {H : Hp} : ∀ (ps : List Addr) (rs : Rs), ps.length = rs.length → (∀ (i : Nat) (p : Addr) (q : Int × Option Int), ps[i]? = some p → rs[i]? = some q → SqK c K H p [.int q.1, oV q.2]) → DpAll K H (ps.map V.ref) (rs.map (pairD c))
  | [], [], _, _ => .nil
  | p :: ps, r :: rs, hl, h => .cons (dp_pair (h 0 p r rfl rfl)) (dpa_ris ps rs (by simpa using hl) fun i q s h1 h2 => h (i + 1) q s h1 h2)
theorem Ris.dp {b c : Bool} {K : PySem.W.Frag} {H : Hp} {a : Addr} {ps : List Addr} {rs : Rs} (m : Ris b c K H a ps rs) : Dp K H (.ref a) (risD b c rs) := by
  cases b
  · exact dp_sq (b := false) m.1 (dpa_ris ps rs m.2.1 m.2.2)
  · exact dp_sq (b := true) m.1 (dpa_ris ps rs m.2.1 m.2.2)
theorem shaped_pair (c : Bool) (q : Int × Option Int) : SeqAt.shaped (pairD c q) = true := by
  obtain ⟨l, h⟩ := q
  cases c <;> cases h <;> rfl
theorem dep_pair (c : Bool) (q : Int × Option Int) : (pairD c q).depth = 1 := by
  obtain ⟨l, h⟩ := q
  cases c <;> cases h <;> rfl
theorem lay_ris (c : Bool) : ∀ rs : Rs, PyData.canLayAll0 (rs.map (pairD c)) = true
  | [] => rfl
  | n :: r => by
    rw [List.map_cons, PyData.canLayAll0, lay_ris c r, SeqAt.canLay_of_shaped (shaped_pair c n)]
    rfl
theorem dep_ris (c : Bool) : ∀ rs : Rs, PyData.depthAll (rs.map (pairD c)) ≤ 1
  | [] => Nat.zero_le _
  | n :: r => by
    rw [List.map_cons, PyData.depthAll]
    have h := dep_ris c r
    have h2 := dep_pair c n
    omega
theorem shaped_ris (b c : Bool) (rs : Rs) : SeqAt.shaped (risD b c rs) = true := by
  have h := dep_ris c rs
  unfold SeqAt.shaped risD
  cases b
  · show (PyData.canLayAll0 (rs.map (pairD c)) && decide (PyData.depthAll (rs.map (pairD c)) + 1 ≤ 64)) = true
    rw [lay_ris, decide_eq_true (by omega)]
    rfl
  · show (PyData.canLayAll0 (rs.map (pairD c)) && decide (PyData.depthAll (rs.map (pairD c)) + 1 ≤ 64)) = true
    rw [lay_ris, decide_eq_true (by omega)]
    rfl
end Zn
set_option pp.maxSteps 700
set_option Elab.async false
set_option linter.all false
set_option maxRecDepth 100000
set_option maxHeartbeats 4000000
open SX (S S_inj S_len S_cat)
namespace Z
open Pk NdefX
open PySem PySem.Spec PyProof.Rows L2
open C8 (pss_cut tCut)
local macro_rules | `(tactic| walk_at "num") => `(tactic| first | rfl | omega | decide | exact Nat.le_of_lt (small1000 (by simp)) | exact ⟨by omega, by omega⟩ | exact ⟨by omega, by omega, by omega⟩ | exact ⟨by decide, by decide, by decide⟩ | exact Or.inl ⟨by omega, by omega⟩ | exact Or.inr ⟨by omega, by omega⟩)
local macro_rules | `(tactic| walk_at "go") => `(tactic| repeat (first | refine ⟨_, rfl, ?_⟩ | refine ⟨_, _, rfl, rfl, ?_⟩ | refine ⟨_, _, rfl, ?_⟩ | (refine ⟨_, _, rfl, rfl, ?_, ?_⟩; focus walk_at "num") | refine Or.inl ⟨_, rfl, ?_⟩ | refine ⟨_, _, _, _, rfl, rfl, (by assumption), (by rfl), ?_⟩ | refine ⟨_, _, _, _, _, rfl, (by assumption), (by assumption), (by assumption), (by rfl), ?_⟩ | refine ⟨rfl, ?_⟩ | (refine And.intro ?_ ?_; focus walk_at "num")))
abbrev s_is_number : Stmt := topS 66
abbrev N_is_number : List Str := ["_law_value"]
abbrev P_is_number : List Str := ["_law_value"]
theorem sc_is_number : FnScope N_is_number P_is_number (defScope s_is_number) := ⟨rfl, rfl, rfl, by decide +kernel, rfl, by decide +kernel, by decide +kernel⟩
abbrev s_fields : Stmt := topS 67
abbrev N_fields : List Str := ["_law_need", "_law_pair"]
abbrev P_fields : List Str := ["_law_need"]
theorem sc_fields : FnScope N_fields P_fields (defScope s_fields) := ⟨rfl, rfl, rfl, by decide +kernel, rfl, by decide +kernel, by decide +kernel⟩
theorem tyT {K : PySem.W.Frag} {H : Hp} {a : Addr} {xs : List V} (h : SqT K H a xs) : TyX K H (.ref a) (.type "tuple") := by
  rcases h with (h | ⟨o, h⟩) | ⟨o, its, n, h1, h2, _⟩
  · exact .base (.tup h)
  · exact .fTuple h
  · exact .kTuple h1 h2
theorem isiX {K : PySem.W.Frag} {H : Hp} {x : V} {T c : String} {b : Bool} {R : Bool → Prop} (t : TyX K H x (.type T)) (h : kitB T c = some b) (q : R b) : ∃ (x' c' : V) (t' u' : Value) (b' : Bool), [x, .ty c] = [x', c'] ∧ ClsV c' u' ∧ TyX K H x' t' ∧ PySem.W.kitOne K t' u' = some b' ∧ R b' :=
  ⟨x, .ty c, .type T, .type c, b, rfl, .ty c, t, kit_ty h, q⟩
section
variable {P : Program} {w : World} {K : PySem.W.Frag} {mg : Str → Option Value} {base : Heap} {f C CP CB CH : Addr} {k : Cs} {fd : FuncData}
def spIsN : Sp := fun vs H Q _ => ∃ n : Int, vs = [.int n] ∧ Q (.bl true) H
theorem ok_is_number (F : FnP K "_law_is_number" s_is_number f fd) (m_isinstance : mg "isinstance" = none) (m_int : mg "int" = none) (m_bool : mg "bool" = none) : FnOk P w K mg base CX0 1 f fd P_is_number spIsN := by
  refine F.ok sc_is_number (fun vs H Q E h => ?_) (fun cdv A outer s H vs Q E hr h => ?_)
  · obtain ⟨n, rfl, _⟩ := h
    rfl
  · obtain ⟨n, rfl, q⟩ := h
    refine ⟨_, PSs.nox (pss_one (ps_ret (pe_and (pe_callB call_isi (by rfl) m_isinstance (by decide +kernel) (pa_cons (pv 0) (pa_cons (pe_bltn (v := .ty "int") (by rfl) m_int (by decide +kernel) rfl) pa_nil))) (pe_one (pe_not (pe_callB call_isi (by rfl) m_isinstance (by decide +kernel) (pa_cons (pv 0) (pa_cons (pe_bltn (v := .ty "bool") (by rfl) m_bool (by decide +kernel) rfl) pa_nil)))))))), ?_⟩
    walk_at "go"
    refine isi (c := "int") (b := true) (.int _) (by decide +kernel) ?_
    walk_at "go"
    refine isi (c := "bool") (b := false) (.int _) (by decide +kernel) ?_
    walk_at "go"
    exact q
def spFld (C : Addr) (K : PySem.W.Frag) : Sp := fun vs H Q _ => ∃ (n : Addr) (t : Zn.Nn), vs = [.ref n] ∧ NdAt C K H n t ∧ ∀ T H' r ps, Same H H' → H' T = some (.tup [Zn.oV t.1, .ref r, Zn.oV t.2.2]) → Zn.Ris false false K H' r ps t.2.1 → Q (.ref T) H'
theorem ok_fields (F : FnP K "_law_fields" s_fields f fd) (isC : C8.InsC K C) (cls : Cls K C) (n_start : NoAttr K C "start") (n_rises : NoAttr K C "rises") (n_never : NoAttr K C "never") (m_isinstance : mg "isinstance" = none) (m_tuple : mg "tuple" = none) (m_len : mg "len" = none) (g_Need : mg "Need" = some (.ref C)) (c_is_number : Cal P w K mg base 1 "_law_is_number" spIsN) : FnOk P w K mg base CX0 2 f fd P_fields (spFld C K) := by
  refine F.ok sc_fields (fun vs H Q E h => ?_) (fun cdv A outer s H vs Q E hr h => ?_)
  · obtain ⟨n, t, rfl, _⟩ := h
    rfl
  · obtain ⟨n, ⟨st, rs, nv⟩, rfl, ⟨dx, r, ps, hn, hR, er⟩, q⟩ := h
    have hn : H n = some (.ins C dx [("start", Zn.oV st), ("rises", .ref r), ("never", Zn.oV nv)]) := hn
    have hR : Zn.Ris false false K H r ps rs := hR
    refine ⟨_, PSs.nox (pss_cons (ps_if (PW.pt (pw_or (pt_not (pt_val (pe_callB (C8.call_isC isC) (by rfl) m_isinstance (by decide +kernel) (pa_cons (pv 0) (pa_cons (pe_glob (by rfl) g_Need relv_ref) pa_nil))))) (pw_or1 (pt_not (pt_val (pe_callB call_isi (by rfl) m_isinstance (by decide +kernel) (pa_cons (pe_fld (pv 0) rfl) (pa_cons (pe_bltn (v := .ty "tuple") (by rfl) m_tuple (by decide +kernel) rfl) pa_nil)))))))) (pss_one (ps_ret (pe_tup pa_nil))) pss_nil)
      (pss_cut (ps_if (PW.pt (pw_and (pt_cmpR op_notN (pe_fld (pv 0) rfl) pe_non (nomark _)) (pw_and1 (pt_not (pt_val (pe_cl c_is_number hr (by decide) (by rfl) (pa_cons (pe_fld (pv 0) rfl) pa_nil))))))) (pss_one (ps_ret (pe_tup pa_nil))) pss_nil)
      (pss_cut (ps_if (PW.pt (pw_and (pt_cmpR op_notN (pe_fld (pv 0) rfl) pe_non (nomark _)) (pw_and1 (pt_not (pt_val (pe_cl c_is_number hr (by decide) (by rfl) (pa_cons (pe_fld (pv 0) rfl) pa_nil))))))) (pss_one (ps_ret (pe_tup pa_nil))) pss_nil)
      (pss_cons (ps_for PassesOwn.never rfl (pi_tup (pe_fld (pv 0) rfl)) (pg_name (i := 1) sc_fields.nd rfl (by first | exact .inl rfl | exact .inr rfl))
        (pss_cons (ps_if (PW.pt (pw_or (pt_not (pt_val (pe_callB call_isi (by rfl) m_isinstance (by decide +kernel) (pa_cons (pv 1) (pa_cons (pe_bltn (v := .ty "tuple") (by rfl) m_tuple (by decide +kernel) rfl) pa_nil))))) (pw_or (pt_cmpR op_ne (pe_callB call_len_seq (by rfl) m_len PySem.boot_len (pa_cons (pv 1) pa_nil)) pe_int (nomark _)) (pw_or1 (pt_not (pt_val (pe_cl c_is_number hr (by decide) (by rfl) (pa_cons (pe_ix ix_tup (pv 1) pe_int (fun _ _ => rfl)) pa_nil)))))))) (pss_one (ps_ret (pe_tup pa_nil))) pss_nil)
      (pss_one (ps_if (PW.pt (pw_and (pt_cmpR op_notN (pe_ix ix_tup (pv 1) pe_int (fun _ _ => rfl)) pe_non (nomark _)) (pw_and1 (pt_not (pt_val (pe_cl c_is_number hr (by decide) (by rfl) (pa_cons (pe_ix ix_tup (pv 1) pe_int (fun _ _ => rfl)) pa_nil))))))) (pss_one (ps_ret (pe_tup pa_nil))) pss_nil))))
      (pss_one (ps_ret (pe_tup (pa_cons (pe_fld (pv 0) rfl) (pa_cons (pe_fld (pv 0) rfl) (pa_cons (pe_fld (pv 0) rfl) pa_nil)))))))))), ?_⟩
    walk_at "go"
    refine ⟨n, dx, _, rfl, hn, ?_⟩
    walk_at "go"
    refine isiX (c := "tuple") (b := true) (tyT hR.1) (by decide +kernel) ?_
    walk_at "go"
    refine Zn.cut_stay ?_ ?_
    · cases st with
      | none =>
        walk_at "go"
        rfl
      | some v =>
        walk_at "go"
        rfl
    walk_at "go"
    refine Zn.cut_stay ?_ ?_
    · cases nv with
      | none =>
        walk_at "go"
        rfl
      | some v =>
        walk_at "go"
        rfl
    walk_at "go"
    refine ⟨⟨_, hR.1⟩, ?_⟩
    refine Zn.for_prs hR (fun i σ J => J = H ∧ ∃ v1 : Option V, σ = [some (.ref n), v1]) ⟨rfl, none, rfl⟩ (fun i σ J h => by rw [h.1]; exact Same.refl _) (fun i p l hh σ J ei hp h => ?_) (fun σ J h => ?_)
    · obtain ⟨rfl, v1, rfl⟩ := h
      walk_at "go"
      refine isiX (c := "tuple") (b := true) (tyT hp) (by decide +kernel) ?_
      walk_at "go"
      refine ⟨p, _, rfl, .inr hp, ?_⟩
      cases hh with
      | none =>
        walk_at "go"
        exact ⟨_, rfl⟩
      | some z =>
        walk_at "go"
        exact ⟨_, rfl⟩
    · obtain ⟨rfl, v1, rfl⟩ := h
      walk_at "go"
      intro T nT
      exact q T _ r ps (same_new nT) upd_same (hR.mono (same_new nT))
/-! ### the same fields -/
def nD (t : Zn.Nn) : PyData := .tuple [Zn.oD t.1, Zn.risD false false t.2.1, Zn.oD t.2.2]
theorem nd_dp {H : Hp} {T r : Addr} {ps : List Addr} {t : Zn.Nn} (h : H T = some (.tup [Zn.oV t.1, .ref r, Zn.oV t.2.2])) (hR : Zn.Ris false false K H r ps t.2.1) : Dp K H (.ref T) (nD t) := dp_sq (b := false) (SqT.of h) (.cons (Zn.dp_o _) (.cons hR.dp (.cons (Zn.dp_o _) .nil)))
theorem nd_shaped (t : Zn.Nn) : SeqAt.shaped (nD t) = true := by
  have h1 := Zn.shaped_ris false false t.2.1
  have h2 := SeqAt.canLay_of_shaped h1
  have h3 := Zn.dep_ris false t.2.1
  have o1 : ∀ o : Option Int, PyData.canLay0 (Zn.oD o) = true := fun o => by cases o <;> rfl
  have o2 : ∀ o : Option Int, (Zn.oD o).depth = 0 := fun o => by cases o <;> rfl
  unfold SeqAt.shaped nD
  show (PyData.canLayAll0 [Zn.oD t.1, Zn.risD false false t.2.1, Zn.oD t.2.2] && decide (PyData.depthAll [Zn.oD t.1, Zn.risD false false t.2.1, Zn.oD t.2.2] + 1 ≤ 64)) = true
  rw [PyData.canLayAll0, PyData.canLayAll0, PyData.canLayAll0, PyData.canLayAll0, PyData.depthAll, PyData.depthAll, PyData.depthAll, PyData.depthAll, o1, o1, o2, o2]
  have e1 : (Zn.risD false false t.2.1).canLay0 = true := Zn.lay_ris false t.2.1
  have e2 : (Zn.risD false false t.2.1).depth = PyData.depthAll (t.2.1.map (Zn.pairD false)) + 1 := rfl
  rw [e1, e2, decide_eq_true (by omega)]
  rfl
end
end Z
set_option pp.maxSteps 700
set_option Elab.async false
set_option linter.all false
set_option maxRecDepth 100000
set_option maxHeartbeats 4000000
open SX (S S_inj S_len S_cat)
namespace Z
open Pk NdefX
open PySem PySem.Spec PyProof.Rows L2
open C8 (pss_cut tCut)
local macro_rules | `(tactic| walk_at "num") => `(tactic| first | rfl | omega | decide | exact Nat.le_of_lt (small1000 (by simp)) | exact ⟨by omega, by omega⟩ | exact ⟨by omega, by omega, by omega⟩ | exact ⟨by decide, by decide, by decide⟩ | exact Or.inl ⟨by omega, by omega⟩ | exact Or.inr ⟨by omega, by omega⟩)
local macro_rules | `(tactic| walk_at "go") => `(tactic| repeat (first | refine ⟨_, rfl, ?_⟩ | refine ⟨_, _, rfl, rfl, ?_⟩ | refine ⟨_, _, rfl, ?_⟩ | (refine ⟨_, _, rfl, rfl, ?_, ?_⟩; focus walk_at "num") | refine Or.inl ⟨_, rfl, ?_⟩ | refine ⟨_, _, _, _, rfl, rfl, (by assumption), (by rfl), ?_⟩ | refine ⟨_, _, _, _, _, rfl, (by assumption), (by assumption), (by assumption), (by rfl), ?_⟩ | refine ⟨rfl, ?_⟩ | (refine And.intro ?_ ?_; focus walk_at "num")))
/-! ### the places change, the described pacts stay -/
/-- all but the places stands as before -/
def SmD (H H' : Hp) : Prop := ∀ a o, H a = some o → (∀ m : Int, o ≠ .lst [.int m]) → H' a = some o
section
variable {H H' : Hp}
theorem smD_of (s : Same H H') : SmD H H' := fun a o h _ => s a o h
theorem SmD.trans {H2 : Hp} (s : SmD H H') (t : SmD H' H2) : SmD H H2 := fun a o h n => t a o (s a o h n) n
theorem refs_ne {as : List Addr} {m : Int} : HO.lst (as.map V.ref) ≠ .lst [.int m] := fun z => by
  injection z with z
  match as, z with
  | [], z => cases z
  | [a], z => injection z with z _; cases z
  | a :: b :: r, z => injection z with _ z; cases z
theorem SmD.l (s : SmD H H') {L : Addr} {as : List Addr} (h : H L = some (.lst (as.map V.ref))) : H' L = some (.lst (as.map V.ref)) := s _ _ h fun _ => refs_ne
theorem SmD.t (s : SmD H H') {a : Addr} {xs : List V} (h : H a = some (.tup xs)) : H' a = some (.tup xs) := s _ _ h fun _ z => by cases z
mutual
theorem DtAt.monoD (s : SmD H H') : ∀ (p : Pt) (a : Addr), DtAt H p a → DtAt H' p a
  | .tr p q m, a, h => by
    rw [DtAt] at h ⊢
    exact s.t h
  | .ev k, a, h => by
    rw [DtAt] at h ⊢
    exact s.t h
  | .ch o os, a, h => by
    rw [DtAt] at h ⊢
    obtain ⟨t, as, h1, h2, h3⟩ := h
    exact ⟨t, as, s.t h1, s.l h2, DasAt.monoD s os as h3⟩
  | .rd o b, a, h => by
    rw [DtAt] at h ⊢
    obtain ⟨t, as, h1, h2, h3⟩ := h
    exact ⟨t, as, s.t h1, s.l h2, DtsAt.monoD s b as h3⟩
  | .en b, a, h => by
    rw [DtAt] at h ⊢
    obtain ⟨t, as, h1, h2, h3⟩ := h
    exact ⟨t, as, s.t h1, s.l h2, DtsAt.monoD s b as h3⟩
  | .ti n b, a, h => by
    rw [DtAt] at h ⊢
    obtain ⟨t, as, h1, h2, h3⟩ := h
    exact ⟨t, as, s.t h1, s.l h2, DtsAt.monoD s b as h3⟩
theorem DtsAt.monoD (s : SmD H H') : ∀ (l : List Pt) (as : List Addr), DtsAt H l as → DtsAt H' l as
  | [], as, h => by
    rw [DtsAt] at h ⊢
    exact h
  | p :: l, as, h => by
    rw [DtsAt] at h ⊢
    obtain ⟨a, r, h1, h2, h3⟩ := h
    exact ⟨a, r, h1, DtAt.monoD s p a h2, DtsAt.monoD s l r h3⟩
theorem DasAt.monoD (s : SmD H H') : ∀ (l : List (List Pt)) (as : List Addr), DasAt H l as → DasAt H' l as
  | [], as, h => by
    rw [DasAt] at h ⊢
    exact h
  | b :: l, as, h => by
    rw [DasAt] at h ⊢
    obtain ⟨x, r, h1, ⟨bs, h3, h4⟩, h5⟩ := h
    exact ⟨x, r, h1, ⟨bs, s.l h3, DtsAt.monoD s b bs h4⟩, DasAt.monoD s l r h5⟩
end
theorem DaAt.monoD (s : SmD H H') {b : List Pt} {x : Addr} (h : DaAt H b x) : DaAt H' b x := by
  obtain ⟨bs, h3, h4⟩ := h
  exact ⟨bs, s.l h3, DtsAt.monoD s b bs h4⟩
theorem Tk.smD {K : PySem.W.Frag} {a p : Addr} {ds : List Int} {n : Nat} (t : Tk K a p ds n H H') (hp : ∃ m : Nat, H p = some (.lst [.int (m : Int)])) : SmD H H' := fun b o h hn => t.sb _ _ (fun e => by
  obtain ⟨m, em⟩ := hp
  rw [e, em] at h
  cases h
  exact hn _ rfl) h
end
/-- a list of draws and its place -/
structure Pl (H : Hp) (a p : Addr) (ds : List Int) (n : Nat) : Prop where
  hA : H a = some (.lst (ds.map V.int))
  hd : Dr n ds
  ne : a ≠ p
  pl : ∃ m : Nat, H p = some (.lst [.int (m : Int)])
theorem Pl.tk {K : PySem.W.Frag} {H : Hp} {a p : Addr} {ds : List Int} {n : Nat} (h : Pl H a p ds n) : Tk K a p ds n H H := ⟨h.hA, h.hd, h.ne, Z.Same.sb (Same.refl _), h.pl⟩
theorem Pl.same {H H' : Hp} {a p : Addr} {ds : List Int} {n : Nat} (h : Pl H a p ds n) (s : Same H H') : Pl H' a p ds n := by
  obtain ⟨m, e⟩ := h.pl
  exact ⟨s _ _ h.hA, h.hd, h.ne, m, s _ _ e⟩
theorem Pl.own {K : PySem.W.Frag} {H H' : Hp} {a p : Addr} {ds : List Int} {n : Nat} (t : Tk K a p ds n H H') : Pl H' a p ds n := ⟨t.hA, t.hd, t.ne, t.pl⟩
theorem Pl.oth {q : Addr} {H H' : Hp} {a p : Addr} {ds : List Int} {n : Nat} (h : Pl H a p ds n) (s : SB q H H') (n1 : a ≠ q) (n2 : p ≠ q) : Pl H' a p ds n := by
  obtain ⟨m, e⟩ := h.pl
  exact ⟨s _ _ n1 h.hA, h.hd, h.ne, m, s _ _ n2 e⟩
/-- three lists of draws with their places -/
structure W3 (H : Hp) (d1 p1 d2 p2 d3 p3 : Addr) (e1 e2 e3 : List Int) (n1 n2 n3 : Nat) : Prop where
  a : Pl H d1 p1 e1 n1
  b : Pl H d2 p2 e2 n2
  c : Pl H d3 p3 e3 n3
  x12 : d1 ≠ p2
  x13 : d1 ≠ p3
  x21 : d2 ≠ p1
  x23 : d2 ≠ p3
  x31 : d3 ≠ p1
  x32 : d3 ≠ p2
  y12 : p1 ≠ p2
  y13 : p1 ≠ p3
  y23 : p2 ≠ p3
section
variable {K : PySem.W.Frag} {H H' : Hp} {d1 p1 d2 p2 d3 p3 : Addr} {e1 e2 e3 : List Int} {n1 n2 n3 : Nat}
theorem W3.same (w : W3 H d1 p1 d2 p2 d3 p3 e1 e2 e3 n1 n2 n3) (s : Same H H') : W3 H' d1 p1 d2 p2 d3 p3 e1 e2 e3 n1 n2 n3 := ⟨w.a.same s, w.b.same s, w.c.same s, w.x12, w.x13, w.x21, w.x23, w.x31, w.x32, w.y12, w.y13, w.y23⟩
theorem W3.t1 (w : W3 H d1 p1 d2 p2 d3 p3 e1 e2 e3 n1 n2 n3) (t : Tk K d1 p1 e1 n1 H H') : W3 H' d1 p1 d2 p2 d3 p3 e1 e2 e3 n1 n2 n3 ∧ SmD H H' := ⟨⟨Pl.own t, w.b.oth t.sb w.x21 w.y12.symm, w.c.oth t.sb w.x31 w.y13.symm, w.x12, w.x13, w.x21, w.x23, w.x31, w.x32, w.y12, w.y13, w.y23⟩, t.smD w.a.pl⟩
theorem W3.t2 (w : W3 H d1 p1 d2 p2 d3 p3 e1 e2 e3 n1 n2 n3) (t : Tk K d2 p2 e2 n2 H H') : W3 H' d1 p1 d2 p2 d3 p3 e1 e2 e3 n1 n2 n3 ∧ SmD H H' := ⟨⟨w.a.oth t.sb w.x12 w.y12, Pl.own t, w.c.oth t.sb w.x32 w.y23.symm, w.x12, w.x13, w.x21, w.x23, w.x31, w.x32, w.y12, w.y13, w.y23⟩, t.smD w.b.pl⟩
theorem W3.t3 (w : W3 H d1 p1 d2 p2 d3 p3 e1 e2 e3 n1 n2 n3) (t : Tk K d3 p3 e3 n3 H H') : W3 H' d1 p1 d2 p2 d3 p3 e1 e2 e3 n1 n2 n3 ∧ SmD H H' := ⟨⟨w.a.oth t.sb w.x13 w.y13, w.b.oth t.sb w.x23 w.y23, Pl.own t, w.x12, w.x13, w.x21, w.x23, w.x31, w.x32, w.y12, w.y13, w.y23⟩, t.smD w.c.pl⟩
/-- a list object that is no part of them changes -/
theorem W3.lst (w : W3 H d1 p1 d2 p2 d3 p3 e1 e2 e3 n1 n2 n3) {L : Addr} {o : HO} (h1 : L ≠ d1) (h2 : L ≠ d2) (h3 : L ≠ d3) (g1 : L ≠ p1) (g2 : L ≠ p2) (g3 : L ≠ p3) : W3 (upd H L o) d1 p1 d2 p2 d3 p3 e1 e2 e3 n1 n2 n3 := by
  have sb : SB L H (upd H L o) := SB.upd (Z.Same.sb (Same.refl _))
  exact ⟨w.a.oth sb h1.symm g1.symm, w.b.oth sb h2.symm g2.symm, w.c.oth sb h3.symm g3.symm, w.x12, w.x13, w.x21, w.x23, w.x31, w.x32, w.y12, w.y13, w.y23⟩
end
theorem del_smD {H H' : Hp} {L : Addr} (s : SmD H H') : SmD (del H L) (del H' L) := fun a o h n => by
  unfold del at h
  by_cases c : a = L
  · rw [if_pos c] at h
    cases h
  · rw [if_neg c] at h
    exact del_of c (s _ _ h n)
/-- the list of a described pact, which may grow -/
structure Top (H : Hp) (L : Addr) (l : List Pt) (as : List Addr) : Prop where
  at_ : H L = some (.lst (as.map V.ref))
  el : DtsAt (del H L) l as
theorem Top.smD {H H' : Hp} {L : Addr} {l : List Pt} {as : List Addr} (h : Top H L l as) (s : SmD H H') : Top H' L l as := ⟨s.l h.at_, DtsAt.monoD (del_smD s) _ _ h.el⟩
theorem Top.da {H : Hp} {L : Addr} {l : List Pt} {as : List Addr} (h : Top H L l as) : DaAt H l L := ⟨as, h.at_, h.el.mono del_same⟩
theorem Top.app {H : Hp} {L y : Addr} {l : List Pt} {as : List Addr} {p : Pt} (h : Top H L l as) (hy : DtAt (del H L) p y) : Top (upd H L (.lst (as.map V.ref ++ [.ref y]))) L (l ++ [p]) (as ++ [y]) := by
  have e : Same (del H L) (del (upd H L (.lst (as.map V.ref ++ [.ref y]))) L) := fun a o h => by
    unfold del at h ⊢
    by_cases c : a = L
    · rw [if_pos c] at h
      cases h
    · rw [if_neg c] at h
      rw [if_neg c, upd_ne c]
      exact h
  exact ⟨by rw [upd_same, List.map_append]; rfl, dtsAt_app _ _ _ _ (h.el.mono e) (dtsAt_one (hy.mono e))⟩
theorem Top.nd {H : Hp} {L d : Addr} {l : List Pt} {as : List Addr} {ds : List Int} {n : Nat} (h : Top H L l as) (e : H d = some (.lst (ds.map V.int))) (hd : Dr n ds) (n0 : 0 < n) : L ≠ d := fun z => by
  have h1 := h.at_
  rw [z, e] at h1
  injection h1 with h1
  injection h1 with h1
  have := hd.1
  match ds, as, h1 with
  | [], _, _ =>
    simp at this
    omega
  | x :: _, [], h1 => cases h1
  | x :: _, y :: _, h1 =>
    injection h1 with h1 _
    cases h1
theorem Top.np {H : Hp} {L p : Addr} {l : List Pt} {as : List Addr} (h : Top H L l as) (e : ∃ m : Nat, H p = some (.lst [.int (m : Int)])) : L ≠ p := fun z => by
  obtain ⟨m, e⟩ := e
  have h1 := h.at_
  rw [z, e] at h1
  exact refs_ne (Option.some.inj h1).symm
theorem W3.top {H : Hp} {d1 p1 d2 p2 d3 p3 : Addr} {e1 e2 e3 : List Int} (w : W3 H d1 p1 d2 p2 d3 p3 e1 e2 e3 60 24 110) {L : Addr} {l : List Pt} {as : List Addr} {o : HO} (h : Top H L l as) : W3 (upd H L o) d1 p1 d2 p2 d3 p3 e1 e2 e3 60 24 110 := w.lst (h.nd w.a.hA w.a.hd (by decide)) (h.nd w.b.hA w.b.hd (by decide)) (h.nd w.c.hA w.c.hd (by decide)) (h.np w.a.pl) (h.np w.b.pl) (h.np w.c.pl)
/-- the script stays readable: nothing that changes is it -/
def ScP (K : PySem.W.Frag) (a : Addr) (xs : List V) (ex : List Addr) (J : Hp) : Prop := (∀ J', SqL K J' a xs) ∨ (SqL K J a xs ∧ (∃ o, J a = some o) ∧ ∀ p ∈ ex, a ≠ p)
section
variable {K : PySem.W.Frag} {a : Addr} {xs : List V} {ex : List Addr} {J J' : Hp}
theorem ScP.sq (h : ScP K a xs ex J) : SqL K J a xs := h.elim (fun z => z J) fun z => z.1
theorem ScP.same (h : ScP K a xs ex J) (s : Same J J') : ScP K a xs ex J' := h.imp id fun ⟨h1, ⟨o, h2⟩, h3⟩ => ⟨s.seq h1, ⟨o, s _ _ h2⟩, h3⟩
theorem ScP.sb {p : Addr} (h : ScP K a xs ex J) (s : SB p J J') (hp : p ∈ ex) : ScP K a xs ex J' := h.imp id fun ⟨h1, ⟨o, h2⟩, h3⟩ => ⟨s.sq (h3 p hp) h1, ⟨o, s _ _ (h3 p hp) h2⟩, h3⟩
theorem ScP.new {L : Addr} (h : ScP K a xs ex J) (n : J L = none) : ScP K a xs (ex ++ [L]) J := h.imp id fun ⟨h1, ⟨o, h2⟩, h3⟩ => ⟨h1, ⟨o, h2⟩, fun p hp => by
  rcases List.mem_append.mp hp with hp | hp
  · exact h3 p hp
  · rw [List.mem_singleton.mp hp]
    exact ne_of_none h2 n⟩
theorem ScP.less {ex' : List Addr} (h : ScP K a xs ex J) (s : ∀ p ∈ ex', p ∈ ex) : ScP K a xs ex' J := h.imp id fun ⟨h1, h2, h3⟩ => ⟨h1, h2, fun p hp => h3 p (s p hp)⟩
theorem scP_of (h : SqL K J a xs) : ScP K a xs [] J := by
  rcases h with (h | ⟨o, h⟩) | h
  · exact .inr ⟨.inl (.inl h), ⟨_, h⟩, fun p hp => by cases hp⟩
  · exact .inr ⟨.inl (.inr ⟨o, h⟩), ⟨_, h⟩, fun p hp => by cases hp⟩
  · exact .inl fun _ => .inr h
end
theorem dts_rep {H : Hp} {p : Pt} {y : Addr} (h : DtAt H p y) : ∀ n, DtsAt H (List.replicate n p) (List.replicate n y)
  | 0 => by
    rw [List.replicate_zero, List.replicate_zero, DtsAt]
  | n + 1 => by
    rw [List.replicate_succ, List.replicate_succ, DtsAt]
    exact ⟨y, _, rfl, h, dts_rep h n⟩
theorem wt_rep (p : Pt) : ∀ n, wtL (List.replicate n p) = n * wt p
  | 0 => by rw [List.replicate_zero, wtL, Nat.zero_mul]
  | n + 1 => by
    rw [List.replicate_succ, wtL, wt_rep p n, Nat.succ_mul]
    omega
theorem dp_rep (p : Pt) : ∀ n, dpL (List.replicate n p) ≤ dp p
  | 0 => by rw [List.replicate_zero, dpL]; exact Nat.zero_le _
  | n + 1 => by
    have := dp_rep p n
    rw [List.replicate_succ, dpL]
    omega
theorem ok_rep {p : Pt} (h : Pk.Ok p) (n : Nat) : OkL (List.replicate n p) := okL_iff.mpr fun q hq => by rw [List.eq_of_mem_replicate hq]; exact h
theorem flt_rep (y : Addr) (n : Nat) : fltL (fun _ => true) (fun _ => V.ref y) n = (List.replicate n y).map V.ref := by
  unfold fltL
  rw [List.filter_eq_self.mpr (fun _ _ => rfl), List.map_replicate]
  exact List.eq_replicate_iff.mpr ⟨by rw [List.length_map, List.length_range], fun b hb => by
    obtain ⟨_, _, rfl⟩ := List.mem_map.mp hb
    rfl⟩
theorem smD_del {H : Hp} {p : Addr} (h : ∃ m : Nat, H p = some (.lst [.int (m : Int)])) : SmD H (del H p) := fun a o e n => del_of (fun z => by
  obtain ⟨m, em⟩ := h
  rw [z, em] at e
  cases e
  exact n _ rfl) e
theorem SmD.w {H H' : Hp} (s : SmD H H') : SmW H H' := fun a o e _ nl => s a o e fun _ => nl _
def GL : List Nat := (Str.ofString "ghijklmnopqrstuvwxyzABCDEFGHIJKLMNOPQRSTUVWXYZ`@/:~!19").cps.toList
theorem gl_bad : ∀ c ∈ GL, isPy [c] = false := by decide +kernel
end Z
set_option Elab.async false
set_option linter.all false
set_option maxRecDepth 100000
set_option maxHeartbeats 4000000
namespace Z
open PySem PySem.Spec PyProof.Rows L2
/-! ### e[lo:hi] by the class's own __getitem__ -/
/-- a slice object -/
def SlHO (b : Addr) (lo hi : Option Int) : HO := .ext fun h => ∃ vl vu, h.IsSliceOf b vl vu .none ∧ IsPart vl lo ∧ IsPart vu hi
section
variable {X : Cx} {pins : List (Addr × Obj)} {σ : L2.St} {H : Hp} {s : Shared}
theorem slHO_at {b : Addr} {lo hi : Option Int} (I : Inv X pins σ H s) (h : H b = some (SlHO b lo hi)) : ∃ vl vu, s.heap.IsSliceOf b vl vu .none ∧ IsPart vl lo ∧ IsPart vu hi := by
  have x : ObjOk X.prog X.w H s.heap b (SlHO b lo hi) := I.hok b _ h
  exact x.1
/-- x[at], at a slice object -/
theorem ix_sl {r : V → Option Int → Option Int → Hp → VK → Prop} (hr : SlR X r) : IxR X (fun x y H Q => ∃ b lo hi, y = .ref b ∧ H b = some (SlHO b lo hi) ∧ r x lo hi H Q) := by
  intro value slice pins s σ H x y v u Q I rx ry hq hsub
  obtain ⟨b, lo, hi, rfl, eb, q⟩ := hq
  cases ry
  obtain ⟨vl, vu, hs, pl, pu⟩ := slHO_at I eb
  obtain ⟨T, id, hT, ht, hg⟩ := hr pins s σ H x v vl vu lo hi b Q I rx hs pl pu q
  exact tail_any (ops := [v, .ref b]) ht hT hg hsub
end
theorem subSl_K {K : PySem.W.Frag} {ox : Obj} {od : Option Obj} {C : Addr} {prog : Program} {w : World} {A : Around} {E : Value → Shared → Prop} {s : Shared} {x f : Addr} {value : Expr} {lo hi : Option Expr} {p2 : Pos} {i : Value} {Q : Value → Shared → Prop} (X : K.In s.heap) (I : PySem.W.InstAt s.heap x ox C od) (hs : PySem.W.findIn K (.ref C) "__getitem__" = some (some (.ref f))) (hf : PySem.W.fnIn K f = true)
    (h : wpAny (model prog w) A (getItem (.ref x) i) Q E s) : wpAny (model prog w) A (subscriptTail value (.Slice lo hi none p2) (.ref x) i) Q E s := by
  unfold PySem.W.fnIn at hf
  split at hf
  · rename_i e
    unfold subscriptTail getitemInPython
    refine wpAny_bind (wpAny_bind (wpAny_bind (I.type.here ((PySem.W.looks_findIn X hs).here ?_))))
    dsimp only
    refine wpAny_bind (wpAny_load (X _ _ e) (wpAny_pure ?_))
    dsimp only
    show wpAny (model prog w) A (operate [i, .ref x] (getItem (.ref x) i) >>= _) Q E s
    exact wpAny_bind (wpAny_operating (wpAny_mono h (fun v s' z => wpAny_bind (wpAny_letTemporaryGo (wpAny_pure z))) fun _ _ z => z))
  · cases hf
structure GetO (P : Program) (w : World) (K : PySem.W.Frag) (mg : Str → Option Value) (base : Heap) (k : Nat) (C : Addr) (sp : Sp) : Prop where
  ex : ∃ (f : Addr) (fd : FuncData) (ps : List Str), FnOk P w K mg base CX0 k f fd ps sp ∧ PySem.W.findIn K (.ref C) "__getitem__" = some (some (.ref f)) ∧ PySem.W.isFn K (.ref f) = true ∧ PySem.W.fnIn K f = true ∧ PySem.W.noSeq K C = true ∧ Binds K fd ps []
def tGetSl (C : Addr) (sp : Sp) (te : TE) (tl th : TO) : TE := fun σ H Q => te σ H fun x H1 => tl σ H1 fun l H2 => th σ H2 fun u H3 => ∃ a dx fs, x = .ref a ∧ H3 a = some (.ins C dx fs) ∧ ∀ b, H3 b = none → sp [.ref a, .ref b] (upd H3 b (SlHO b l u)) Q E0
theorem pe_getSl {X : Cx} {e : Expr} {te : TE} {lo hi : Option Expr} {tl th : TO} {p2 pos : Pos} {k j : Nat} {C : Addr} {sp : Sp} (c : GetO X.prog X.w X.K X.mg X.base k C sp) (hr : Room j X.A) (hk : k + 1 ≤ j) (he : PE X e te) (hl : PO X lo tl) (hu : PO X hi th) : PE X (.Subscript e (.Slice lo hi none p2) pos) (tGetSl C sp te tl th) := by
  refine ⟨fun pins s σ H Q I h => ?_⟩
  refine Subscript_ (thn (he.run pins s σ H _ I h) fun v s1 ⟨x, H1, I1, r1, q1⟩ => ?_)
  refine wpAny_Slice (thn (hl.run pins s1 σ H1 _ I1 q1) fun vl s2 ⟨l, H2, I2, pl, q2⟩ => thn (hu.run pins s2 σ H2 _ I2 q2) fun vu s3 ⟨u, H3, I3, pu, q3⟩ => ?_)
  rw [evalPart_none]
  refine wpAny_pure ?_
  obtain ⟨a, dx, fs, rfl, ha, q⟩ := q3
  cases r1
  have es := Heap.IsSliceOf.new s3.heap vl vu .none
  have hp := I3.hok.fresh (Nat.le_refl s3.heap.objs.size)
  have I4 := I3.laid (t' := s3.toks) (a := s3.heap.objs.size) (o := SlHO s3.heap.objs.size l u) (h' := s3.heap.push { cls := .type "slice", data := .fields #[vl, vu, .none] }) (fun b u q => Heap.get?_push_of_some _ q) (Nat.le_refl _) ⟨⟨vl, vu, es, pl, pu⟩, (let ⟨o, h1, _⟩ := es; ⟨o, h1⟩), fun h1 h2 f k => (let ⟨xl, xu, ⟨o, e1, e2⟩, z⟩ := f; ⟨xl, xu, ⟨o, k _ e1, e2⟩, z⟩)⟩
  have q4 := q _ hp
  have ha4 : (upd H3 s3.heap.objs.size (SlHO s3.heap.objs.size l u)) a = some (.ins C dx fs) := by rw [upd_ne (ne_of_none ha hp)]; exact ha
  generalize upd H3 s3.heap.objs.size (SlHO s3.heap.objs.size l u) = H4 at I4 q4 ha4
  obtain ⟨f, fd, ps, F, hs, hf, hfn, hq, hb⟩ := c.ex
  obtain ⟨mA, J, _⟩ := ins_get I4.hok ha4
  obtain ⟨od, J, _⟩ := J.look
  obtain ⟨m, hF⟩ := I4.fr
  refine subSl_K I4.kIn J hs hfn (PySem.W.getItem_K hF I4.ok.mod.kin J hq hs hf ?_)
  have r2 : Vals [V.ref a, V.ref s3.heap.objs.size] [Value.ref a, Value.ref s3.heap.objs.size] := .cons rfl (.cons rfl .nil)
  have b3 := hb { s3 with heap := s3.heap.push { cls := .type "slice", data := .fields #[vl, vu, .none] } } [Value.ref a, Value.ref s3.heap.objs.size] I4.kIn (by rw [List.append_nil, ← r2.length]; exact F.len _ _ _ _ q4)
  rw [List.append_nil] at b3
  have run := F.run X.A X.stack _ _ _ _ _ _ _ (hr.mono (Nat.le_trans (Nat.le_succ _) hk)) I4.env0 b3 r2 q4
  refine wpAny_call (codeAny_mono run fun r s' hq => ?_)
  have z := back_at (fun pins H s e s' I hq => pass0 pins σ H s e s' I hq) I4 r s' hq
  match r, z with
  | .error e, z => exact z
  | .ok (.ret u), z => exact z
end Z
set_option pp.maxSteps 700
set_option Elab.async false
set_option linter.all false
set_option maxRecDepth 100000
set_option maxHeartbeats 4000000
open SX (S S_inj S_len S_cat)
namespace Z
open Pk NdefX
open PySem PySem.Spec PyProof.Rows L2
open C8 (pss_cut tCut)
local macro_rules | `(tactic| walk_at "num") => `(tactic| first | rfl | omega | decide | exact Nat.le_of_lt (small1000 (by simp)) | exact ⟨by omega, by omega⟩ | exact ⟨by omega, by omega, by omega⟩ | exact ⟨by decide, by decide, by decide⟩ | exact Or.inl ⟨by omega, by omega⟩ | exact Or.inr ⟨by omega, by omega⟩)
local macro_rules | `(tactic| walk_at "go") => `(tactic| repeat (first | refine ⟨_, rfl, ?_⟩ | refine ⟨_, _, rfl, rfl, ?_⟩ | refine ⟨_, _, rfl, ?_⟩ | (refine ⟨_, _, rfl, rfl, ?_, ?_⟩; focus walk_at "num") | refine Or.inl ⟨_, rfl, ?_⟩ | refine ⟨_, _, _, _, rfl, rfl, (by assumption), (by rfl), ?_⟩ | refine ⟨_, _, _, _, _, rfl, (by assumption), (by assumption), (by assumption), (by rfl), ?_⟩ | refine ⟨rfl, ?_⟩ | (refine And.intro ?_ ?_; focus walk_at "num")))
abbrev s_Pact___add__ : Stmt := inClass (topS 46) 1
abbrev N_Pact___add__ : List Str := ["self", "other"]
abbrev P_Pact___add__ : List Str := ["self", "other"]
theorem sc_Pact___add__ : FnScope N_Pact___add__ P_Pact___add__ (defScope s_Pact___add__) := ⟨rfl, rfl, rfl, by decide +kernel, rfl, by decide +kernel, by decide +kernel⟩
abbrev s_Pact___mul__ : Stmt := inClass (topS 46) 2
abbrev N_Pact___mul__ : List Str := ["self", "count"]
abbrev P_Pact___mul__ : List Str := ["self", "count"]
theorem sc_Pact___mul__ : FnScope N_Pact___mul__ P_Pact___mul__ (defScope s_Pact___mul__) := ⟨rfl, rfl, rfl, by decide +kernel, rfl, by decide +kernel, by decide +kernel⟩
abbrev s_Pact___getitem__ : Stmt := inClass (topS 46) 6
abbrev N_Pact___getitem__ : List Str := ["self", "at"]
abbrev P_Pact___getitem__ : List Str := ["self", "at"]
theorem sc_Pact___getitem__ : FnScope N_Pact___getitem__ P_Pact___getitem__ (defScope s_Pact___getitem__) := ⟨rfl, rfl, rfl, by decide +kernel, rfl, by decide +kernel, by decide +kernel⟩
section
variable {P : Program} {w : World} {K : PySem.W.Frag} {mg : Str → Option Value} {base : Heap} {f C CP : Addr} {k : Cs} {fd : FuncData}
def cutL {α : Type} (l : List α) (lo hi : Option Int) : List α := (l.drop (HT.sIx l.length 0 lo)).take (HT.sIx l.length l.length hi - HT.sIx l.length 0 lo)
theorem cutV_map (as : List Addr) (lo hi : Option Int) : cutV (as.map V.ref) lo hi = (cutL as lo hi).map V.ref := by
  unfold cutV cutL
  rw [List.length_map, List.map_take, List.map_drop]
theorem PtsAt.drop {H : Hp} : ∀ (l : List Pt) (as : List Addr) (n : Nat), PtsAt k K H l as → PtsAt k K H (l.drop n) (as.drop n)
  | l, as, 0, h => h
  | [], as, n + 1, h => by
    rw [PtsAt] at h
    rw [h, List.drop_nil, List.drop_nil, PtsAt]
  | p :: l, as, n + 1, h => by
    rw [PtsAt] at h
    obtain ⟨a, r, rfl, h1, h2⟩ := h
    exact PtsAt.drop l r n h2
theorem PtsAt.take {H : Hp} : ∀ (l : List Pt) (as : List Addr) (n : Nat), PtsAt k K H l as → PtsAt k K H (l.take n) (as.take n)
  | l, as, 0, h => by
    rw [List.take_zero, List.take_zero, PtsAt]
  | [], as, n + 1, h => by
    rw [PtsAt] at h
    rw [h, List.take_nil, List.take_nil, PtsAt]
  | p :: l, as, n + 1, h => by
    rw [PtsAt] at h
    obtain ⟨a, r, rfl, h1, h2⟩ := h
    rw [List.take_succ_cons, List.take_succ_cons, PtsAt]
    exact ⟨a, _, rfl, h1, PtsAt.take l r n h2⟩
theorem PtsAt.cut {H : Hp} {l : List Pt} {as : List Addr} (h : PtsAt k K H l as) (lo hi : Option Int) : PtsAt k K H (cutL l lo hi) (cutL as lo hi) := by
  unfold cutL
  rw [PtsAt.len _ _ h]
  exact PtsAt.take _ _ _ (PtsAt.drop _ _ _ h)
theorem cut_all {α : Type} {l : List α} {lo hi : Option Int} (h : HT.sIx l.length 0 lo = 0 ∧ HT.sIx l.length l.length hi = l.length) : cutL l lo hi = l := by
  unfold cutL
  rw [h.1, h.2, List.drop_zero, Nat.sub_zero, List.take_length]
def spGt (k : Cs) (K : PySem.W.Frag) : Sp := fun vs H Q _ => ∃ (x b : Addr) (l : List Pt) (lo hi : Option Int), vs = [.ref x, .ref b] ∧ PaAt k K H l x ∧ H b = some (SlHO b lo hi) ∧ ∀ t as H', Same H H' → SqT K H' t (as.map V.ref) → PtsAt k K H' (cutL l lo hi) as → Q (.ref t) H'
theorem ok_getitem (F : FnM K "__getitem__" "Pact.__getitem__" s_Pact___getitem__ f fd) (pa : PtA K k) : FnOk P w K mg base CX0 1 f fd P_Pact___getitem__ (spGt k K) := by
  refine F.ok sc_Pact___getitem__ (fun vs H Q E h => ?_) (fun cdv A outer s H vs Q E hr h => ?_)
  · obtain ⟨x, b, l, lo, hi, rfl, _⟩ := h
    rfl
  · obtain ⟨x, b, l, lo, hi, rfl, ⟨dx, t, as, hx, hT, hP⟩, eb, q⟩ := h
    refine ⟨_, PSs.nox (pss_one (ps_ret (pe_ix (ix_sl sl_tupA) (pe_fld (pv 0) rfl) (pv 1) (fun _ _ => rfl)))), ?_⟩
    walk_at "go"
    refine ⟨x, k.P, dx, _, _, rfl, hx, pa.cP, pa.P1, rfl, ?_⟩
    walk_at "go"
    refine ⟨b, lo, hi, rfl, eb, t, _, rfl, hT, fun hw => ?_, fun _ p np => ?_⟩
    · rw [List.length_map, PtsAt.len _ _ hP] at hw
      exact q t as H (Same.refl _) hT (by rw [cut_all hw]; exact hP)
    · rw [cutV_map]
      exact q p _ _ (same_new np) (SqT.of upd_same) ((hP.cut lo hi).mono (same_new np) _ _)
/-- p + q -/
def spAd (k : Cs) (K : PySem.W.Frag) : Sp := fun vs H Q _ => ∃ (x y : Addr) (l m : List Pt), vs = [.ref x, .ref y] ∧ PaAt k K H l x ∧ PaAt k K H m y ∧ OkL (l ++ m) ∧ wtL (l ++ m) ≤ 400 ∧ dpL (l ++ m) ≤ 30 ∧ ∀ z H', Same H H' → H z = none → PaAt k K H' (l ++ m) z → Q (.ref z) H'
theorem ok_add (F : FnM K "__add__" "Pact.__add__" s_Pact___add__ f fd) (pa : PtA K k) (y_Pact : MakY P w K mg base 4 "Pact" (spP k K)) (c_as_pact : CalX P w K mg base 1 "as_pact" (spAsP k K)) : FnOk P w K mg base CX0 6 f fd P_Pact___add__ (spAd k K) := by
  refine F.ok sc_Pact___add__ (fun vs H Q E h => ?_) (fun cdv A outer s H vs Q E hr h => ?_)
  · obtain ⟨x, y, l, m, rfl, _⟩ := h
    rfl
  · obtain ⟨x, y, l, m, rfl, hx0, hy0, ok, hw, hd, q⟩ := h
    obtain ⟨dx, t, as, hx, hT, hP⟩ := id hx0
    obtain ⟨dy, u, bs, hy, hU, hM⟩ := id hy0
    refine ⟨_, PSs.nox (pss_one (ps_ret (pe_mkY y_Pact (fun _ => passS0) hr (by decide) (by rfl) (pa_cons (pe_op op_catA (pe_fld (pv 0) rfl) (pe_fld (pe_clE c_as_pact (fun _ => passS0) hr (by decide) (by rfl) (pa_cons (pv 1) pa_nil)) rfl)) pa_nil)))), ?_⟩
    walk_at "go"
    refine ⟨x, k.P, dx, _, _, rfl, hx, pa.cP, pa.P1, rfl, ?_⟩
    walk_at "go"
    refine ⟨y, m, rfl, hy0, ?_⟩
    walk_at "go"
    refine ⟨y, k.P, dy, _, _, rfl, hy, pa.cP, pa.P1, rfl, ?_⟩
    walk_at "go"
    have la := PtsAt.len _ _ hP
    have lb := PtsAt.len _ _ hM
    have lw := len_wt (l ++ m)
    rw [List.length_append] at lw
    have hA := ptsAt_app _ _ _ _ hP hM
    refine ⟨t, u, as.map V.ref, bs.map V.ref, rfl, rfl, hT, hU, szl2 (by rw [List.length_map, List.length_map]; omega), fun e => ?_, fun _ e => ?_, fun _ _ p np => ?_⟩
    · have e := List.map_eq_nil_iff.mp e
      subst e
      walk_at "go"
      exact ⟨false, u, l ++ m, bs, rfl, ok, hU, hA, hw, hd, q⟩
    · have e := List.map_eq_nil_iff.mp e
      subst e
      rw [List.append_nil] at hA
      walk_at "go"
      exact ⟨false, t, l ++ m, as, rfl, ok, hT, hA, hw, hd, q⟩
    · have s1 := same_new (o := .tup (as.map V.ref ++ bs.map V.ref)) np
      have e1 : (upd H p (.tup (as.map V.ref ++ bs.map V.ref))) p = some (.tup ((as ++ bs).map V.ref)) := by rw [List.map_append]; exact upd_same
      generalize upd H p (.tup (as.map V.ref ++ bs.map V.ref)) = H1 at s1 e1
      walk_at "go"
      exact ⟨false, p, l ++ m, as ++ bs, rfl, ok, SqT.of e1, hA.mono s1 _ _, hw, hd, fun z H' s2 nz hz => q z H' (s1.trans s2) (Same.back s1 nz) hz⟩
/-- p * n -/
def spMu (k : Cs) (K : PySem.W.Frag) : Sp := fun vs H Q _ => ∃ (x : Addr) (c : Nat) (l : List Pt), vs = [.ref x, .int (c : Int)] ∧ PaAt k K H l x ∧ Pk.Ok (.ti c l) ∧ wt (.ti c l) ≤ 400 ∧ dp (.ti c l) ≤ 30 ∧ ∀ z H', Same H H' → H z = none → PaAt k K H' [.ti c l] z → Q (.ref z) H'
theorem ok_mulP (F : FnM K "__mul__" "Pact.__mul__" s_Pact___mul__ f fd) (y_Pact : MakY P w K mg base 4 "Pact" (spP k K)) (y_Times : MakY P w K mg base 5 "Times" (spM k K)) : FnOk P w K mg base CX0 7 f fd P_Pact___mul__ (spMu k K) := by
  refine F.ok sc_Pact___mul__ (fun vs H Q E h => ?_) (fun cdv A outer s H vs Q E hr h => ?_)
  · obtain ⟨x, c, l, rfl, _⟩ := h
    rfl
  · obtain ⟨x, c, l, rfl, hx, ok, hw, hd, q⟩ := h
    refine ⟨_, PSs.nox (pss_one (ps_ret (pe_mkY y_Pact (fun _ => passS0) hr (by decide) (by rfl) (pa_cons (pe_lst (pa_cons (pe_mkY y_Times (fun _ => passS0) hr (by decide) (by rfl) (pa_cons (pv 1) (pa_cons (pv 0) pa_nil))) pa_nil)) pa_nil)))), ?_⟩
    walk_at "go"
    refine ⟨x, c, l, rfl, ok, hx, hw, hd, fun u H1 s1 nu hu => ?_⟩
    walk_at "go"
    intro L nL
    generalize eH_ : upd H1 L _ = H2
    have s2 : Same H1 H2 := by rw [← eH_]; exact same_new nL
    have eL : H2 L = some (.lst ([u].map V.ref)) := by rw [← eH_]; exact upd_same
    clear eH_
    walk_at "go"
    refine ⟨true, L, [.ti c l], [u], rfl, by rw [OkL, OkL]; exact ⟨ok, trivial⟩, SqL.of eL, ?_, by rw [wtL, wtL]; omega, by rw [dpL, dpL]; omega, fun z H3 s3 nz hz => q z H3 ((s1.trans s2).trans s3) (Same.back (s1.trans s2) nz) hz⟩
    rw [PtsAt]
    exact ⟨u, [], rfl, hu.mono s2 _ _, by rw [PtsAt]⟩
end
end Z
set_option pp.maxSteps 700
set_option Elab.async false
set_option linter.all false
set_option maxRecDepth 100000
set_option maxHeartbeats 4000000
namespace Zn
open Z Nd Pk
theorem RL1 {y : Nat} {p : Pt} {t : Nn} (h : RL y [p] t) : R y p t := by
  rw [RL] at h
  obtain ⟨a, b, h1, h2, h3⟩ := h
  rw [RL] at h2
  subst h2
  rw [comp_id (R.ok y p a h1) h3]
  exact h1
/-- the need of a sum -/
theorem RL_app {y : Nat} : ∀ (l m : List Pt) (a b t : Nn), RL y l a → RL y m b → RL y (l ++ m) t → Comp a b t
  | [], m, a, b, t, h1, h2, h3 => by
    rw [RL] at h1
    subst h1
    have e := RL.uniq y m t b h3 h2
    subst e
    have ok := RL.ok y m t h2
    exact ⟨ok, fun k hk => (show vN idN (vN t k) = vN t k from val_id (okk_v ok k)).symm⟩
  | p :: l, m, a, b, t, h1, h2, h3 => by
    rw [RL] at h1
    rw [List.cons_append, RL] at h3
    obtain ⟨x, z, e1, e2, e3⟩ := h1
    obtain ⟨x', z', f1, f2, f3⟩ := h3
    obtain rfl := R.uniq y p x x' e1 f1
    have ih := RL_app l m z b z' e2 h2 f2
    refine ⟨f3.1, fun k hk => ?_⟩
    rw [f3.2 k hk, ih.2 k hk, e3.2 _ (okk_v (RL.ok y m b h2) k)]
/-- the need of a choice of two -/
theorem RC_two {y o : Nat} {b c : List Pt} {a d t : Nn} (h1 : RL y b a) (h2 : RL y c d) (h : R y (.ch o [b, c]) t) : MMr (decide (o = y)) a d t := by
  rw [R, RC] at h
  obtain ⟨a', e1, e2⟩ := h
  rw [RF] at e2
  obtain ⟨d', x, e3, e4, e5⟩ := e2
  rw [RF] at e5
  subst e5
  obtain rfl := RL.uniq y b a a' h1 e1
  obtain rfl := RL.uniq y c d d' h2 e3
  exact e4
/-- the need of a multiple -/
theorem R_ti {y c : Nat} {b : List Pt} {a t : Nn} (h1 : RL y b a) (h : R y (.ti c b) t) : ItR c a t := by
  rw [R] at h
  obtain ⟨a', e1, e2⟩ := h
  obtain rfl := RL.uniq y b a a' h1 e1
  exact e2
theorem R_rd {y o : Nat} {b : List Pt} {a t : Nn} (h1 : RL y b a) (h : R y (.rd o b) t) : t = rdN y o a := by
  rw [R] at h
  obtain ⟨a', e1, e2⟩ := h
  obtain rfl := RL.uniq y b a a' h1 e1
  exact e2
theorem R_en {y : Nat} {b : List Pt} {a t : Nn} (h1 : RL y b a) (h : R y (.en b) t) : t = enN a := by
  rw [R] at h
  obtain ⟨a', e1, e2⟩ := h
  obtain rfl := RL.uniq y b a a' h1 e1
  exact e2
/-! ### a party that is in no transfer -/
mutual
def Idle (y : Nat) : Pt → Prop
  | .tr p q _ => p ≠ y ∧ q ≠ y
  | .ev _ => True
  | .ch _ os => IdleLL y os
  | .rd _ b => IdleL y b
  | .en b => IdleL y b
  | .ti _ b => IdleL y b
def IdleL (y : Nat) : List Pt → Prop
  | [] => True
  | p :: l => Idle y p ∧ IdleL y l
def IdleLL (y : Nat) : List (List Pt) → Prop
  | [] => True
  | b :: l => IdleL y b ∧ IdleLL y l
end
def Z0 (t : Nn) : Prop := vN t (some 0) = some 0
theorem z_id : Z0 idN := rfl
theorem z_start {t : Nn} (ok : OkN t) (h : Z0 t) : t.1 = some 0 := by
  obtain ⟨st, rs, nv⟩ := t
  cases st with
  | none =>
    obtain ⟨rfl, _⟩ := ok_none ok
    cases h
  | some s =>
    have h : some (s + Fs rs 0) = some (0 : Int) := h
    have g : Good (-1) rs := ok.1
    rw [Fs0 g] at h
    injection h with h
    show some s = some 0
    rw [show s = 0 by omega]
theorem z_pt {t : Nn} (ok : OkN t) (h : Z0 t) : pt 0 t.1 t.2.1 = some 0 := by
  have e := z_start ok h
  obtain ⟨st, rs, nv⟩ := t
  dsimp only at e
  subst e
  have g : Good (-1) rs := ok.1
  have z := lst_spec (s := 0) g (Int.le_refl _)
  show fp rs (0 + 0) 0 = some 0
  rw [Int.add_zero]
  unfold lst at z
  cases e : fp rs 0 0 with
  | none =>
    rw [e] at z
    have := z 0 (Int.le_refl _)
    rw [Fs0 g] at this
    omega
  | some x =>
    rw [e] at z
    have := (z.2 0 (Int.le_refl _)).mp (by rw [Fs0 g]; omega)
    rw [show x = 0 by have := z.1; omega]
theorem z_rd {y o : Nat} {t : Nn} (ok : OkN t) (h : Z0 t) : Z0 (rdN y o t) := by
  unfold rdN
  split
  · cases pt 1 t.1 t.2.1 with
    | none => rfl
    | some p =>
      show some (0 + Fs (if p > 1 then [(0, some (p - 1))] else []) 0) = some 0
      split <;> rfl
  · rw [z_pt ok h]
    rfl
theorem z_en {t : Nn} (ok : OkN t) (h : Z0 t) : Z0 (enN t) := by
  unfold enN
  rw [z_pt ok h]
  rfl
theorem z_it {f : Option Int → Option Int} (h : f (some 0) = some 0) : ∀ c, itN f c (some 0) = some 0
  | 0 => rfl
  | c + 1 => by
    show f (itN f c (some 0)) = some 0
    rw [z_it h c, h]
mutual
theorem idle_R {y : Nat} : ∀ (p : Pt) (t : Nn), Idle y p → R y p t → Z0 t
  | .tr p q m, t, i, h => by
    rw [Idle] at i
    rw [R] at h
    rw [h]
    unfold trN
    rw [if_neg i.1, if_neg i.2]
    rfl
  | .ev _, t, i, h => by
    rw [R] at h
    rw [h]
    exact z_id
  | .ch o os, t, i, h => by
    rw [Idle] at i
    rw [R] at h
    exact idle_RC _ os t i h
  | .rd o b, t, i, h => by
    rw [Idle] at i
    rw [R] at h
    obtain ⟨a, e1, rfl⟩ := h
    exact z_rd (RL.ok y b a e1) (idle_RL b a i e1)
  | .en b, t, i, h => by
    rw [Idle] at i
    rw [R] at h
    obtain ⟨a, e1, rfl⟩ := h
    exact z_en (RL.ok y b a e1) (idle_RL b a i e1)
  | .ti c b, t, i, h => by
    rw [Idle] at i
    rw [R] at h
    obtain ⟨a, e1, e2⟩ := h
    show vN t (some 0) = some 0
    rw [e2.2 _ okk0]
    exact z_it (idle_RL b a i e1) c
theorem idle_RL {y : Nat} : ∀ (l : List Pt) (t : Nn), IdleL y l → RL y l t → Z0 t
  | [], t, i, h => by
    rw [RL] at h
    rw [h]
    exact z_id
  | p :: l, t, i, h => by
    rw [IdleL] at i
    rw [RL] at h
    obtain ⟨a, b, e1, e2, e3⟩ := h
    show vN t (some 0) = some 0
    rw [e3.2 _ okk0, show vN b (some 0) = some 0 from idle_RL l b i.2 e2]
    exact idle_R p a i.1 e1
theorem idle_RC {y : Nat} (sm : Bool) : ∀ (os : List (List Pt)) (t : Nn), IdleLL y os → RC y sm os t → Z0 t
  | [], t, i, h => by rw [RC] at h; exact h.elim
  | b :: os, t, i, h => by
    rw [IdleLL] at i
    rw [RC] at h
    obtain ⟨a, e1, e2⟩ := h
    exact idle_RF sm os a t i.2 (idle_RL b a i.1 e1) e2
theorem idle_RF {y : Nat} (sm : Bool) : ∀ (os : List (List Pt)) (a t : Nn), IdleLL y os → Z0 a → RF y sm os a t → Z0 t
  | [], a, t, i, ha, h => by rw [RF] at h; rw [h]; exact ha
  | b :: os, a, t, i, ha, h => by
    rw [IdleLL] at i
    rw [RF] at h
    obtain ⟨c, d, e1, e2, e3⟩ := h
    refine idle_RF sm os d t i.2 ?_ e3
    show vN d (some 0) = some 0
    rw [e2.2 _ okk0, show vN a (some 0) = some 0 from ha, show vN c (some 0) = some 0 from idle_RL b c i.1 e1, mmO_some]
    cases sm <;> rfl
end
end Zn
set_option pp.maxSteps 700
set_option Elab.async false
set_option linter.all false
set_option maxRecDepth 100000
set_option maxHeartbeats 4000000
namespace Zn
open Z Nd Pk
/-! ### rounds, unrolled once -/
theorem Fs_up : ∀ {rs : Rs} {e : Int}, Good e rs → ∀ (k m : Int), k ≤ m → Fs rs k ≤ Fs rs m
  | [], _, _, _, _, _ => Int.le_refl _
  | (l, none) :: rs, e, g, k, m, h => by
    obtain ⟨_, rfl⟩ := g
    rw [Fs_cons, Fs_cons, Fs_nil, Fs_nil]
    unfold rise
    dsimp only
    split <;> split <;> omega
  | (l, some y) :: rs, e, g, k, m, h => by
    obtain ⟨g1, g2, g3⟩ := g
    have ih := Fs_up g3 k m h
    rw [Fs_cons, Fs_cons]
    have : rise k (l, some y) ≤ rise m (l, some y) := by
      unfold rise
      dsimp only
      split
      · split
        · omega
        · split <;> omega
      · split
        · omega
        · split <;> first | omega | (split <;> omega)
    omega
theorem mine_un {s : Int} {rs : Rs} {nv : Option Int} (ok : OkN (some s, rs, nv)) (k : Option Int) (hk : okk k) : mmO true k (vN (some s, rs, nv) (vN (mineP nv (fp rs (s + 1) 0)) k)) = vN (mineP nv (fp rs (s + 1) 0)) k := by
  have g : Good (-1) rs := ok.1
  have hs : 0 ≤ s := ok.2.1 s rfl
  have z := lst_spec (s := s + 1) g (by omega)
  unfold lst at z
  cases e : fp rs (s + 1) 0 with
  | none =>
    rw [e] at z
    have nn : nv = none := by
      cases nv with
      | none => rfl
      | some v =>
        have h0 := ok_vals (s := s) (rs := rs) (nv := some v) (v := v) (t := 0) ok rfl 0
        rw [Fs0 g] at h0
        have h1 := ok_vals (s := s) (rs := rs) (nv := some v) (v := v) (t := 0) ok rfl (v + 1)
        have h2 := z (v + 1) (by omega)
        omega
    subst nn
    show mmO true k (vN _ (vN idN k)) = vN idN k
    rw [show vN idN k = k from val_id hk]
    cases k with
    | none => rfl
    | some k =>
      show mmO true (some k) (some (s + Fs rs k)) = some k
      rw [mmO_some]
      unfold mm
      rw [if_pos rfl]
      have := z k (hk k rfl)
      congr 1
      omega
  | some p =>
    rw [e] at z
    obtain ⟨p0, z⟩ := z
    have hp : 1 ≤ p := by
      have := (z p p0).mpr (Int.le_refl _)
      have f0 := Fs_up g 0 p p0
      rw [Fs0 g] at f0
      omega
    have h1 := (z p p0).mpr (Int.le_refl _)
    have h2 : ¬ s + 1 + Fs rs (p - 1) ≤ p - 1 := fun h => by have := (z (p - 1) (by omega)).mp h; omega
    have h3 := Fs_up g (p - 1) p (by omega)
    have hv : ∀ k, 0 ≤ k → vN (mineP nv (some p)) (some k) = some (min k (p - 1)) := fun k hk => by
      show some (0 + Fs (if p > 1 then [(0, some (p - 1))] else []) k) = _
      congr 1
      by_cases c : p > 1
      · rw [if_pos c, Fs_cons, Fs_nil]
        unfold rise
        dsimp only
        split
        · omega
        · split <;> omega
      · rw [if_neg c, Fs_nil]
        omega
    cases k with
    | none =>
      cases nv with
      | none => rfl
      | some v =>
        show mmO true none (some (s + Fs rs (p - 1))) = some (p - 1)
        rw [show s + Fs rs (p - 1) = p - 1 by omega]
        rfl
    | some k =>
      have k0 := hk k rfl
      rw [hv k k0]
      show mmO true (some k) (some (s + Fs rs (min k (p - 1)))) = _
      rw [mmO_some]
      unfold mm
      rw [if_pos rfl]
      congr 1
      by_cases c : k ≤ p - 1
      · rw [Int.min_eq_left (a := k) (b := p - 1) c]
        have : ¬ s + 1 + Fs rs k ≤ k := fun h => by have := (z k k0).mp h; omega
        omega
      · rw [Int.min_eq_right (a := k) (b := p - 1) (by omega)]
        omega
theorem theirs_un {s : Int} {rs : Rs} {nv : Option Int} (ok : OkN (some s, rs, nv)) (k : Option Int) (hk : okk k) : mmO false k (vN (some s, rs, nv) (vN (theirsP (fp rs s 0)) k)) = vN (theirsP (fp rs s 0)) k := by
  have g : Good (-1) rs := ok.1
  have hs : 0 ≤ s := ok.2.1 s rfl
  have z := lst_spec (s := s) g hs
  unfold lst at z
  cases e : fp rs s 0 with
  | none =>
    rw [e] at z
    have nn : nv = none := by
      cases nv with
      | none => rfl
      | some v =>
        have h0 := ok_vals (s := s) (rs := rs) (nv := some v) (v := v) (t := 0) ok rfl 0
        rw [Fs0 g] at h0
        have h1 := ok_vals (s := s) (rs := rs) (nv := some v) (v := v) (t := 0) ok rfl v
        have h2 := z v (by omega)
        omega
    subst nn
    have e1 : vN (theirsP none) k = none := by cases k <;> rfl
    rw [e1]
    cases k with
    | none => rfl
    | some k => rfl
  | some p =>
    rw [e] at z
    obtain ⟨p0, z⟩ := z
    have hv : ∀ k, 0 ≤ k → vN (theirsP (some p)) (some k) = some (max k p) := fun k hk => by
      show some (p + Fs [(p, none)] k) = _
      congr 1
      rw [Fs_cons, Fs_nil]
      unfold rise
      dsimp only
      split <;> omega
    cases k with
    | none => cases nv <;> rfl
    | some k =>
      have k0 := hk k rfl
      rw [hv k k0]
      show mmO false (some k) (some (s + Fs rs (max k p))) = _
      rw [mmO_some]
      unfold mm
      rw [if_neg (by decide)]
      congr 1
      by_cases c : p ≤ k
      · rw [Int.max_eq_left (a := k) (b := p) c]
        have := (z k k0).mpr c
        omega
      · rw [Int.max_eq_right (a := k) (b := p) (by omega)]
        have h1 := (z p p0).mpr (Int.le_refl _)
        have h2 : ¬ s + Fs rs (p - 1) ≤ p - 1 := fun h => by have := (z (p - 1) (by omega)).mp h; omega
        have h3 := Fs_up g (p - 1) p (by omega)
        omega
end Zn
set_option pp.maxSteps 700
set_option Elab.async false
set_option linter.all false
set_option maxRecDepth 100000
set_option maxHeartbeats 4000000
namespace Zn
open Z Nd Pk
theorem fp_is {rs : Rs} {A p : Int} (g : Good (-1) rs) (hA : 0 ≤ A) (hp : 0 ≤ p) (h : ∀ y, 0 ≤ y → (A + Fs rs y ≤ y ↔ p ≤ y)) : fp rs A 0 = some p := by
  have z := lst_spec (s := A) g hA
  unfold lst at z
  cases e : fp rs A 0 with
  | none =>
    rw [e] at z
    have h1 := z p hp
    have h2 := (h p hp).mpr (Int.le_refl _)
    omega
  | some x =>
    rw [e] at z
    have h1 := (h x z.1).mp ((z.2 x z.1).mpr (Int.le_refl _))
    have h2 := (z.2 p hp).mp ((h p hp).mpr (Int.le_refl _))
    rw [show x = p by omega]
theorem fp_no {rs : Rs} {A : Int} (g : Good (-1) rs) (hA : 0 ≤ A) (h : ∀ y, 0 ≤ y → y < A + Fs rs y) : fp rs A 0 = none := by
  have z := lst_spec (s := A) g hA
  unfold lst at z
  cases e : fp rs A 0 with
  | none => rfl
  | some x =>
    rw [e] at z
    have h1 := (z.2 x z.1).mpr (Int.le_refl _)
    have h2 := h x z.1
    omega
theorem Fs_on (l k : Int) : Fs [(l, none)] k = max 0 (k - l) := by
  rw [Fs_cons, Fs_nil]
  unfold rise
  dsimp only
  split <;> omega
/-- rounds of rounds are rounds -/
theorem mine_mine (nv : Option Int) {p : Option Int} (hp : ∀ x, p = some x → 1 ≤ x) : mineP (mineP nv p).2.2 (pt 1 (mineP nv p).1 (mineP nv p).2.1) = mineP nv p := by
  cases p with
  | none =>
    show mineP none (fp [(0, none)] (0 + 1) 0) = mineP nv none
    rw [fp_no (rs := [(0, none)]) (A := 0 + 1) ⟨by decide, rfl⟩ (by decide) (fun y hy => by rw [Fs_on]; omega)]
    rfl
  | some x =>
    have hx := hp x rfl
    show mineP (nv.map fun _ => x - 1) (fp (if x > 1 then [(0, some (x - 1))] else []) (0 + 1) 0) = _
    rw [show fp (if x > 1 then [(0, some (x - 1))] else []) (0 + 1) 0 = some x from ?_]
    · cases nv <;> rfl
    · by_cases c : x > 1
      · rw [if_pos c]
        refine fp_is ⟨by decide, by omega, trivial⟩ (by decide) (by omega) fun y hy => ?_
        rw [Fs_cons, Fs_nil]
        unfold rise
        dsimp only
        split
        · omega
        · split <;> omega
      · rw [if_neg c]
        refine fp_is trivial (by decide) (by omega) fun y hy => ?_
        rw [Fs_nil]
        omega
theorem theirs_theirs {p : Option Int} (hp : ∀ x, p = some x → 0 ≤ x) : theirsP (pt 0 (theirsP p).1 (theirsP p).2.1) = theirsP p := by
  cases p with
  | none => rfl
  | some x =>
    have hx := hp x rfl
    show theirsP (fp [(x, none)] (x + 0) 0) = theirsP (some x)
    rw [Int.add_zero, fp_is (rs := [(x, none)]) (A := x) (p := x) ⟨by omega, rfl⟩ hx hx (fun y hy => by rw [Fs_on]; omega)]
/-- one round ahead of endless ones -/
theorem en_un {a : Nn} (ok : OkN a) (k : Option Int) : vN a (vN (enN a) k) = vN (enN a) k := by
  obtain ⟨st, rs, nv⟩ := a
  cases st with
  | none =>
    obtain ⟨rfl, rfl⟩ := ok_none ok
    rfl
  | some s =>
    have g : Good (-1) rs := ok.1
    have hs : 0 ≤ s := ok.2.1 s rfl
    have z := lst_spec (s := s) g hs
    unfold lst at z
    have ee : enN (some s, rs, nv) = endlessP (fp rs s 0) := by
      unfold enN pt
      dsimp only
      rw [Int.add_zero]
    rw [ee]
    cases e : fp rs s 0 with
    | none =>
      rw [e] at z
      have nn : nv = none := by
        cases nv with
        | none => rfl
        | some v =>
          have h0 := ok_vals (s := s) (rs := rs) (nv := some v) (v := v) (t := 0) ok rfl 0
          rw [Fs0 g] at h0
          have h1 := ok_vals (s := s) (rs := rs) (nv := some v) (v := v) (t := 0) ok rfl v
          have h2 := z v (by omega)
          omega
      subst nn
      cases k <;> rfl
    | some p =>
      rw [e] at z
      obtain ⟨p0, z⟩ := z
      have ev : vN (endlessP (some p)) k = some p := by
        cases k with
        | none => rfl
        | some k =>
          show some (p + Fs [] k) = some p
          rw [Fs_nil, Int.add_zero]
      rw [ev]
      show some (s + Fs rs p) = some p
      have h1 := (z p p0).mpr (Int.le_refl _)
      congr 1
      by_cases c : p = 0
      · subst c
        rw [Fs0 g] at h1 ⊢
        omega
      · have h2 : ¬ s + Fs rs (p - 1) ≤ p - 1 := fun h => by have := (z (p - 1) (by omega)).mp h; omega
        have h3 := Fs_up g (p - 1) p (by omega)
        omega
end Zn
set_option pp.maxSteps 700
set_option Elab.async false
set_option linter.all false
set_option maxRecDepth 100000
set_option maxHeartbeats 4000000
namespace Zn
open Z Nd Pk
/-! ### the laws of sums, for the relation -/
theorem RL_one {y : Nat} {p : Pt} {a : Nn} (h : R y p a) : RL y [p] a := by
  rw [RL]
  refine ⟨a, idN, h, by rw [RL], R.ok y p a h, fun k hk => ?_⟩
  rw [show vN idN k = k from val_id hk]
theorem RL_split {y : Nat} : ∀ (l m : List Pt) (t : Nn), RL y (l ++ m) t → ∃ a b, RL y l a ∧ RL y m b ∧ Comp a b t
  | [], m, t, h => by
    refine ⟨idN, t, by rw [RL], h, RL.ok y m t h, fun k hk => ?_⟩
    exact (show vN idN (vN t k) = vN t k from val_id (okk_v (RL.ok y m t h) k)).symm
  | p :: l, m, t, h => by
    rw [List.cons_append, RL] at h
    obtain ⟨x, z, e1, e2, e3⟩ := h
    obtain ⟨c, d, h1, h2, h3⟩ := RL_split l m z e2
    obtain ⟨e, he⟩ := comp_ex (R.ok y p x e1) (RL.ok y l c h1)
    refine ⟨e, d, by rw [RL]; exact ⟨x, c, e1, h1, he⟩, h2, e3.1, fun k hk => ?_⟩
    rw [e3.2 k hk, h3.2 k hk, he.2 _ (okk_v (RL.ok y m d h2) k)]
/-- n pacts one after the other -/
theorem okL_app {l m : List Pt} (h : OkL l) (h2 : OkL m) : OkL (l ++ m) := okL_iff.mpr fun p hp => by
  rcases List.mem_append.mp hp with z | z
  · exact okL_iff.mp h p z
  · exact okL_iff.mp h2 p z
def repL : Nat → List Pt → List Pt
  | 0, _ => []
  | n + 1, l => repL n l ++ l
theorem itN_comm (f : Option Int → Option Int) : ∀ n k, itN f n (f k) = f (itN f n k)
  | 0, _ => rfl
  | n + 1, k => by
    show f (itN f n (f k)) = f (itN f (n + 1) k)
    rw [itN_comm f n k]
    rfl
theorem RL_rep {y : Nat} {l : List Pt} {a : Nn} (h : RL y l a) : ∀ n t, RL y (repL n l) t → ItR n a t
  | 0, t, ht => by
    rw [show repL 0 l = [] from rfl, RL] at ht
    rw [ht]
    exact ⟨ok_id, fun k hk => val_id hk⟩
  | n + 1, t, ht => by
    obtain ⟨c, d, h1, h2, h3⟩ := RL_split (repL n l) l t ht
    obtain rfl := RL.uniq y l _ _ h h2
    have ih := RL_rep h n c h1
    refine ⟨h3.1, fun k hk => ?_⟩
    rw [h3.2 k hk, ih.2 _ (okk_v (RL.ok y l a h) k), itN_comm]
    rfl
theorem rep_wt (l : List Pt) : ∀ n, wtL (repL n l) = n * wtL l
  | 0 => by rw [show repL 0 l = [] from rfl, wtL, Nat.zero_mul]
  | n + 1 => by rw [show repL (n + 1) l = repL n l ++ l from rfl, wtL_app, rep_wt l n, Nat.succ_mul]
theorem rep_dp (l : List Pt) : ∀ n, dpL (repL n l) ≤ dpL l
  | 0 => by
    rw [show repL 0 l = [] from rfl, dpL]
    exact Nat.zero_le _
  | n + 1 => by
    rw [show repL (n + 1) l = repL n l ++ l from rfl, dpL_app]
    have := rep_dp l n
    omega
theorem rep_ok {l : List Pt} (h : OkL l) : ∀ n, OkL (repL n l)
  | 0 => by
    rw [show repL 0 l = [] from rfl, OkL]
    trivial
  | n + 1 => okL_app (rep_ok h n) h
/-! ### rounds -/
theorem okN_none {rs : Rs} {nv : Option Int} (ok : OkN (none, rs, nv)) : rs = [] ∧ nv = none := (ok_none ok).symm
theorem rd_un {y o : Nat} {a : Nn} (ok : OkN a) (k : Option Int) (hk : okk k) : mmO (decide (o = y)) k (vN a (vN (rdN y o a) k)) = vN (rdN y o a) k := by
  obtain ⟨st, rs, nv⟩ := a
  unfold rdN
  by_cases c : o = y
  · rw [if_pos c, decide_eq_true c]
    cases st with
    | none =>
      obtain ⟨rfl, rfl⟩ := okN_none ok
      show mmO true k (vN (none, [], none) (vN idN k)) = vN idN k
      rw [show vN idN k = k from val_id hk]
      cases k <;> rfl
    | some s => exact mine_un ok k hk
  · rw [if_neg c, decide_eq_false c]
    cases st with
    | none =>
      obtain ⟨rfl, rfl⟩ := okN_none ok
      show mmO false k (vN (none, [], none) (vN (none, [], none) k)) = vN (none, [], none) k
      cases k <;> rfl
    | some s =>
      have := theirs_un ok k hk
      unfold pt
      dsimp only
      rw [Int.add_zero]
      exact this
theorem RL_rd {y o : Nat} {l : List Pt} {a : Nn} (h : RL y l a) : RL y [.rd o l] (rdN y o a) := RL_one (by rw [R]; exact ⟨a, h, rfl⟩)
theorem RL_en {y : Nat} {l : List Pt} {a : Nn} (h : RL y l a) : RL y [.en l] (enN a) := RL_one (by rw [R]; exact ⟨a, h, rfl⟩)
/-- rounds are the choice between nothing and one round with further rounds behind it -/
theorem un_once {y o : Nat} {l : List Pt} {a t : Nn} (h : RL y l a) (ht : RL y [.ch o [[], l ++ [.rd o l]]] t) : t = rdN y o a := by
  have ok := RL.ok y l a h
  have h2 := RL1 ht
  rw [R, RC] at h2
  obtain ⟨a', e1, e2⟩ := h2
  rw [RL] at e1
  subst e1
  rw [RF] at e2
  obtain ⟨d, x, e3, e4, e5⟩ := e2
  rw [RF] at e5
  subst e5
  have hc := RL_app l [.rd o l] a (rdN y o a) d h (RL_rd h) e3
  refine nn_eq e4.1 (okN_rd ok) fun k hk => ?_
  rw [e4.2 k hk, hc.2 k hk, show vN idN k = k from val_id hk]
  exact rd_un ok k hk
/-- rounds of rounds -/
theorem un_rdrd {y o : Nat} {l : List Pt} {a t : Nn} (h : RL y l a) (ht : RL y [.rd o [.rd o l]] t) : t = rdN y o a := by
  have ok := RL.ok y l a h
  rw [R_rd (RL_rd h) (RL1 ht)]
  unfold rdN
  by_cases c : o = y
  · rw [if_pos c, if_pos c]
    exact mine_mine a.2.2 fun x e => pt_pos1 ok e
  · rw [if_neg c, if_neg c]
    exact theirs_theirs fun x e => pt_pos ok (Int.le_refl _) e
theorem un_en {y : Nat} {l : List Pt} {a t : Nn} (h : RL y l a) (ht : RL y (l ++ [.en l]) t) : t = enN a := by
  have ok := RL.ok y l a h
  have hc := RL_app l [.en l] a (enN a) t h (RL_en h) ht
  exact nn_eq hc.1 (okN_en ok) fun k hk => by rw [hc.2 k hk, en_un ok k]
/-! ### at most -/
def Le (a b : Nn) : Prop := ∀ k, okk k → am (vN a k) (vN b k) = true
theorem am_refl (x : Option Int) : am x x = true := by
  cases x with
  | none => rfl
  | some x => exact decide_eq_true (Int.le_refl x)
theorem am_sm_l (x y : Option Int) : am (smO x y) x = true := by
  unfold smO
  split
  · exact am_refl x
  · rename_i h
    cases x with
    | none => rfl
    | some x =>
      cases y with
      | none => exact absurd rfl h
      | some y =>
        have : ¬ x ≤ y := fun z => h (decide_eq_true z)
        exact decide_eq_true (by omega)
theorem am_sm_r (x y : Option Int) : am (smO x y) y = true := by
  unfold smO
  split
  · rename_i h
    exact h
  · exact am_refl y
theorem am_gr_l (x y : Option Int) : am x (grO x y) = true := by
  unfold grO
  split
  · rename_i h
    exact h
  · exact am_refl x
theorem am_gr_r (x y : Option Int) : am y (grO x y) = true := by
  unfold grO
  split
  · exact am_refl y
  · rename_i h
    cases x with
    | none =>
      cases y <;> rfl
    | some x =>
      cases y with
      | none => exact absurd rfl h
      | some y =>
        have : ¬ x ≤ y := fun z => h (decide_eq_true z)
        exact decide_eq_true (by omega)
theorem le_ch {a b t : Nn} (h : MMr true a b t) : Le t a ∧ Le t b := ⟨fun k hk => by rw [h.2 k hk]; exact am_sm_l _ _, fun k hk => by rw [h.2 k hk]; exact am_sm_r _ _⟩
theorem ge_ch {a b t : Nn} (h : MMr false a b t) : Le a t ∧ Le b t := ⟨fun k hk => by rw [h.2 k hk]; exact am_gr_l _ _, fun k hk => by rw [h.2 k hk]; exact am_gr_r _ _⟩
theorem tr_v1 (y q m : Nat) (k : Option Int) (hk : okk k) : am k (vN (trN y y q m) k) = true := by
  unfold trN
  rw [if_pos rfl]
  cases k with
  | none => rfl
  | some k =>
    show am (some k) (some ((m : Int) + Fs [(0, none)] k)) = true
    rw [Fs_on]
    have := hk k rfl
    exact decide_eq_true (by omega)
theorem tr_v2 {y p : Nat} (h : p ≠ y) (m : Nat) (k : Option Int) (hk : okk k) : am (vN (trN y p y m) k) k = true := by
  unfold trN
  rw [if_neg h, if_pos rfl]
  cases k with
  | none => rfl
  | some k =>
    show am (some (0 + Fs [((m : Int), none)] k)) (some k) = true
    rw [Fs_on]
    have := hk k rfl
    exact decide_eq_true (by omega)
theorem le_paid {y q m : Nat} {l : List Pt} {a t : Nn} (h : RL y l a) (ht : RL y (.tr y q m :: l) t) : Le a t := fun k hk => by
  rw [RL] at ht
  obtain ⟨x, b, e1, e2, e3⟩ := ht
  obtain rfl := RL.uniq y l _ _ h e2
  rw [R] at e1
  rw [e3.2 k hk, e1]
  exact tr_v1 y q m _ (okk_v (RL.ok y l a h) k)
theorem le_got {y p m : Nat} {l : List Pt} {a t : Nn} (n : p ≠ y) (h : RL y l a) (ht : RL y (.tr p y m :: l) t) : Le t a := fun k hk => by
  rw [RL] at ht
  obtain ⟨x, b, e1, e2, e3⟩ := ht
  obtain rfl := RL.uniq y l _ _ h e2
  rw [R] at e1
  rw [e3.2 k hk, e1]
  exact tr_v2 n m _ (okk_v (RL.ok y l a h) k)
theorem exc_le {a b : Nn} (ok : OkN a) (okb : OkN b) (h : Le a b) {o : Option (Option Int)} (e : Exc a.1 a.2.1 a.2.2 b.1 b.2.1 b.2.2 o) : o = none := by
  obtain ⟨st, rs, nv⟩ := a
  obtain ⟨st', rs', nv'⟩ := b
  dsimp only at e
  cases st with
  | none =>
    cases st' with
    | none => exact e
    | some s' =>
      obtain ⟨rfl, rfl⟩ := okN_none ok
      have := h (some 0) okk0
      cases this
  | some s =>
    cases st' with
    | none => exact e
    | some s' =>
      obtain ⟨p, fa, e⟩ := e
      cases p with
      | some x =>
        have h1 : s + Fs rs x ≤ s' + Fs rs' x := of_decide_eq_true (h (some x) (fun i z => by cases z; exact fa.1))
        have h2 := fa.2.1
        unfold dif at h2
        omega
      | none =>
        have hn := h none okkN
        rw [show vN (some s, rs, nv) none = nv from val_none _ _ _, show vN (some s', rs', nv') none = nv' from val_none _ _ _] at hn
        rw [e]
        dsimp only
        rw [if_pos hn]
/-! ### the promises of operators, for triples -/
theorem comp_of {a b : Nn} {st2 nv2 : Option Int} {rs2 : Rs} (ok2 : Ok st2 rs2 nv2) (hv : ∀ k, okk k → val st2 rs2 nv2 k = val a.1 a.2.1 a.2.2 (val b.1 b.2.1 b.2.2 k)) : Comp a b (st2, rs2, nv2) := ⟨ok2, hv⟩
/-! ### idle parties -/
def idn (c : Nat) : Nat := if c = 97 then 98 else if c = 98 then 99 else if c = 99 then 100 else if c = 100 then 101 else if c = 101 then 98 else 99
mutual
def idP : Pt → Pt
  | .tr p q m => if idn p = idn q then .ev 69 else .tr (idn p) (idn q) m
  | .ev c => .ev c
  | .ch o os => .ch o (idLL os)
  | .rd o b => .rd o (idL b)
  | .en b => .en (idL b)
  | .ti n b => .ti n (idL b)
def idL : List Pt → List Pt
  | [] => []
  | p :: l => idP p :: idL l
def idLL : List (List Pt) → List (List Pt)
  | [] => []
  | b :: l => idL b :: idLL l
end
theorem idL_map : ∀ l, idL l = l.map idP
  | [] => by rw [idL]; rfl
  | p :: l => by rw [idL, idL_map l]; rfl
theorem idLL_map : ∀ l, idLL l = l.map idL
  | [] => by rw [idLL]; rfl
  | p :: l => by rw [idLL, idLL_map l]; rfl
theorem idn_ne (c : Nat) : idn c ≠ 97 := by
  unfold idn
  (repeat' split) <;> decide
theorem idn_par (c : Nat) : idn c ∈ PAR := by
  unfold idn
  (repeat' split) <;> decide
mutual
theorem idP_idle : ∀ p, Idle 97 (idP p)
  | .tr p q m => by
    rw [idP]
    split
    · rw [Idle]
      trivial
    · rw [Idle]
      exact ⟨idn_ne p, idn_ne q⟩
  | .ev c => by rw [idP, Idle]; trivial
  | .ch o os => by rw [idP, Idle]; exact idLL_idle os
  | .rd o b => by rw [idP, Idle]; exact idL_idle b
  | .en b => by rw [idP, Idle]; exact idL_idle b
  | .ti n b => by rw [idP, Idle]; exact idL_idle b
theorem idL_idle : ∀ l, IdleL 97 (idL l)
  | [] => by rw [idL, IdleL]; trivial
  | p :: l => by rw [idL, IdleL]; exact ⟨idP_idle p, idL_idle l⟩
theorem idLL_idle : ∀ l, IdleLL 97 (idLL l)
  | [] => by rw [idLL, IdleLL]; trivial
  | b :: l => by rw [idLL, IdleLL]; exact ⟨idL_idle b, idLL_idle l⟩
end
mutual
theorem idP_ok : ∀ p, Pk.Ok p → Pk.Ok (idP p)
  | .tr p q m, h => by
    rw [idP]
    rw [Pk.Ok] at h
    split
    · rw [Pk.Ok]
      decide
    · rename_i ne
      rw [Pk.Ok]
      exact ⟨idn_par p, idn_par q, ne, h.2.2.2⟩
  | .ev c, h => by rw [idP]; exact h
  | .ch o os, h => by
    rw [Pk.Ok] at h
    rw [idP, Pk.Ok]
    have := idLL_ok os h.2.2.2
    rw [idLL_map, List.length_map, ← idLL_map]
    exact ⟨h.1, h.2.1, h.2.2.1, this⟩
  | .rd o b, h => by
    rw [Pk.Ok] at h
    rw [idP, Pk.Ok]
    exact ⟨h.1, idL_ok b h.2⟩
  | .en b, h => by
    rw [Pk.Ok] at h
    rw [idP, Pk.Ok]
    exact idL_ok b h
  | .ti n b, h => by
    rw [Pk.Ok] at h
    rw [idP, Pk.Ok]
    exact ⟨h.1, idL_ok b h.2⟩
theorem idL_ok : ∀ l, OkL l → OkL (idL l)
  | [], h => by rw [idL]; exact h
  | p :: l, h => by
    rw [OkL] at h
    rw [idL, OkL]
    exact ⟨idP_ok p h.1, idL_ok l h.2⟩
theorem idLL_ok : ∀ l, OkLL l → OkLL (idLL l)
  | [], h => by rw [idLL]; exact h
  | b :: l, h => by
    rw [OkLL] at h
    rw [idLL, OkLL]
    exact ⟨idL_ok b h.1, idLL_ok l h.2⟩
end
mutual
theorem idP_wt : ∀ p, wt (idP p) = wt p
  | .tr p q m => by
    rw [idP]
    split <;> rw [wt, wt]
  | .ev c => by rw [idP]
  | .ch o os => by rw [idP, wt, wt, idLL_wt os]
  | .rd o b => by rw [idP, wt, wt, idL_wt b]
  | .en b => by rw [idP, wt, wt, idL_wt b]
  | .ti n b => by rw [idP, wt, wt, idL_wt b]
theorem idL_wt : ∀ l, wtL (idL l) = wtL l
  | [] => by rw [idL]
  | p :: l => by rw [idL, wtL, wtL, idP_wt p, idL_wt l]
theorem idLL_wt : ∀ l, wtLL (idLL l) = wtLL l
  | [] => by rw [idLL]
  | b :: l => by rw [idLL, wtLL, wtLL, idL_wt b, idLL_wt l]
end
mutual
theorem idP_dp : ∀ p, dp (idP p) = dp p
  | .tr p q m => by
    rw [idP]
    split <;> rw [dp, dp]
  | .ev c => by rw [idP]
  | .ch o os => by rw [idP, dp, dp, idLL_dp os]
  | .rd o b => by rw [idP, dp, dp, idL_dp b]
  | .en b => by rw [idP, dp, dp, idL_dp b]
  | .ti n b => by rw [idP, dp, dp, idL_dp b]
theorem idL_dp : ∀ l, dpL (idL l) = dpL l
  | [] => by rw [idL]
  | p :: l => by rw [idL, dpL, dpL, idP_dp p, idL_dp l]
theorem idLL_dp : ∀ l, dpLL (idLL l) = dpLL l
  | [] => by rw [idLL]
  | b :: l => by rw [idLL, dpLL, dpLL, idL_dp b, idLL_dp l]
end
end Zn
set_option Elab.async false
set_option linter.all false
set_option maxRecDepth 100000
set_option maxHeartbeats 4000000
namespace Z
open PySem PySem.Spec PyProof.Rows L2
/-! ### a op n, n an int, by the class's own method, which does not raise -/
structure BinJ (P : Program) (w : World) (K : PySem.W.Frag) (mg : Str → Option Value) (base : Heap) (k : Nat) (C : Addr) (op : Operator) (sp : Sp) : Prop where
  ex : ∃ (f : Addr) (fd : FuncData) (ps : List Str) (fo ro : Option Value), FnOk P w K mg base CX0 k f fd ps sp ∧ PySem.W.findIn K (.ref C) (PySem.dunder op.info.2) = some (some (.ref f)) ∧ PySem.W.isFn K (.ref f) = true ∧ Binds K fd ps [] ∧ PySem.W.selfFirst K C = true ∧
    PySem.W.findIn K (.ref C) (dunderR op.info.2) = some none ∧ PySem.W.findIn K (.type "int") (PySem.dunder op.info.2) = some fo ∧ PySem.W.findIn K (.type "int") (dunderR op.info.2) = some ro ∧ PySem.W.subIn K (.type "int") (.ref C) = some false
def rBinI (C : Addr) (sp : Sp) : R2 := fun x y H Q => ∃ a n dx fs, x = .ref a ∧ y = .int n ∧ H a = some (.ins C dx fs) ∧ sp [.ref a, .int n] H (fun v H' => ∃ p, v = .ref p ∧ Q v H') E0
theorem op_binI {X : Cx} {k j : Nat} {C : Addr} {sp : Sp} {op : Operator} (c : BinJ X.prog X.w X.K X.mg X.base k C op sp) (hr : Room j X.A) (hk : k ≤ j) : OpR X (binaryOp op) (rBinI C sp) := by
  intro pins s σ H x y v u Q I rx ry hq
  obtain ⟨f, fd, ps, fo, ro, F, hs, hf, hb, sf, hr0, h1, h2, hsub⟩ := c.ex
  obtain ⟨a, n, dx, fs, rfl, rfl, ea, q⟩ := hq
  cases rx
  obtain ⟨tk, rfl⟩ := ry
  obtain ⟨mA, J, _⟩ := ins_get I.hok ea
  obtain ⟨od, J, _⟩ := J.look
  obtain ⟨m, hF⟩ := I.fr
  refine PySem.W.ksp_binT (T := "int") (fo := fo) (ro := ro) (rc := none) hF I.ok.mod.kin J rfl sf hs hf hr0 (.inl rfl) h1 h2 hsub ?_
  have r2 : Vals [V.ref a, V.int n] [Value.ref a, Value.int n tk] := .cons rfl (.cons ⟨_, rfl⟩ .nil)
  refine thn (run_fn (dvs := []) F (hr.mono hk) hb .nil pass0 I r2 q) fun r s' z => ?_
  obtain ⟨v, H', I', rv, p, rfl, q'⟩ := z
  cases rv
  exact ⟨.ref p, H', I', rfl, q'⟩
end Z
set_option pp.maxSteps 700
set_option Elab.async false
set_option linter.all false
set_option maxRecDepth 100000
set_option maxHeartbeats 4000000
open SX (S S_inj S_len S_cat)
namespace Z
open Pk NdefX
theorem wtL1 (p : Pt) : wtL [p] = wt p := by rw [wtL, wtL, Nat.add_zero]
theorem dpL1 (p : Pt) : dpL [p] = dp p := by rw [dpL, dpL, Nat.max_zero]
open PySem PySem.Spec PyProof.Rows L2
open C8 (pss_cut tCut)
local macro_rules | `(tactic| walk_at "num") => `(tactic| first | rfl | omega | decide | exact Nat.le_of_lt (small1000 (by simp)) | exact ⟨by omega, by omega⟩ | exact ⟨by omega, by omega, by omega⟩ | exact ⟨by decide, by decide, by decide⟩ | exact Or.inl ⟨by omega, by omega⟩ | exact Or.inr ⟨by omega, by omega⟩)
local macro_rules | `(tactic| walk_at "go") => `(tactic| repeat (first | refine ⟨_, rfl, ?_⟩ | refine ⟨_, _, rfl, rfl, ?_⟩ | refine ⟨_, _, rfl, ?_⟩ | (refine ⟨_, _, rfl, rfl, ?_, ?_⟩; focus walk_at "num") | refine Or.inl ⟨_, rfl, ?_⟩ | refine ⟨_, _, _, _, rfl, rfl, (by assumption), (by rfl), ?_⟩ | refine ⟨_, _, _, _, _, rfl, (by assumption), (by assumption), (by assumption), (by rfl), ?_⟩ | refine ⟨rfl, ?_⟩ | (refine And.intro ?_ ?_; focus walk_at "num")))
local macro_rules | `(tactic| walk_at "wd") => `(tactic| first | omega | (rw [wtL_app]; omega) | (rw [dpL_app]; omega) | (rw [wtL1]; omega) | (rw [dpL1]; omega))
abbrev s_same : Stmt := topS 68
abbrev N_same : List Str := ["_law_need", "_law_other", "_law_fields_here"]
abbrev P_same : List Str := ["_law_need", "_law_other"]
theorem sc_same : FnScope N_same P_same (defScope s_same) := ⟨rfl, rfl, rfl, by decide +kernel, rfl, by decide +kernel, by decide +kernel⟩
abbrev s_law_joined : Stmt := topS 71
abbrev N_law_joined : List Str := ["_law_p", "_law_q", "_law_party", "_law_cut_here", "_law_one", "_law_other"]
abbrev P_law_joined : List Str := ["_law_p", "_law_q", "_law_party", "_law_cut_here"]
theorem sc_law_joined : FnScope N_law_joined P_law_joined (defScope s_law_joined) := ⟨rfl, rfl, rfl, by decide +kernel, rfl, by decide +kernel, by decide +kernel⟩
abbrev s_repeated : Stmt := topS 72
abbrev N_repeated : List Str := ["_law_p", "_law_party", "_law_count", "_law_one", "_law_several", "_law_k"]
abbrev P_repeated : List Str := ["_law_p", "_law_party", "_law_count"]
theorem sc_repeated : FnScope N_repeated P_repeated (defScope s_repeated) := ⟨rfl, rfl, rfl, by decide +kernel, rfl, by decide +kernel, by decide +kernel⟩
section
variable {P : Program} {w : World} {K : PySem.W.Frag} {mg : Str → Option Value} {base : Heap} {f C CP CB : Addr} {k : Cs} {fd : FuncData}
def spSame (C : Addr) (K : PySem.W.Frag) : Sp := fun vs H Q _ => ∃ (n m : Addr) (t : Zn.Nn), vs = [.ref n, .ref m] ∧ NdAt C K H n t ∧ NdAt C K H m t ∧ ∀ H', Same H H' → Q (.bl true) H'
theorem ok_same (F : FnP K "_law_same" s_same f fd) (c_fields : Cal P w K mg base 2 "_law_fields" (spFld C K)) : FnOk P w K mg base CX0 3 f fd P_same (spSame C K) := by
  refine F.ok sc_same (fun vs H Q E h => ?_) (fun cdv A outer s H vs Q E hr h => ?_)
  · obtain ⟨n, m, t, rfl, _⟩ := h
    rfl
  · obtain ⟨n, m, u, rfl, hn, hm, q⟩ := h
    refine ⟨_, PSs.nox (pss_cons (ps_set (i := 2) sc_same.nd rfl (by first | exact .inl rfl | exact .inr rfl) (pe_cl c_fields hr (by decide) (by rfl) (pa_cons (pv 0) pa_nil)))
      (pss_one (ps_ret (pe_and (pe_cmpR (op_neD hr.units) (pv 2) (pe_tup pa_nil) (nomark _)) (pe_one (pe_cmpR (op_eqD hr.units) (pv 2) (pe_cl c_fields hr (by decide) (by rfl) (pa_cons (pv 1) pa_nil)) (nomark _))))))), ?_⟩
    walk_at "go"
    refine ⟨n, u, rfl, hn, fun T H2 r ps s2 eT hR => ?_⟩
    walk_at "go"
    intro em nem
    generalize eH_ : upd H2 em _ = H3
    have s3 : Same H2 H3 := by rw [← eH_]; exact same_new nem
    have eem : H3 em = some (.tup []) := by rw [← eH_]; exact upd_same
    clear eH_
    walk_at "go"
    refine ⟨nD u, .tuple [], nd_dp (s3 _ _ eT) (hR.mono s3), dp_sq (b := false) (SqT.of eem) .nil, nd_shaped u, rfl, ?_⟩
    have e1 : PyData.eqv (nD u) (.tuple []) = false := by
      unfold nD
      rw [PyData.eqv, PyData.eqvAll]
    rw [e1]
    walk_at "go"
    have s23 := s2.trans s3
    refine ⟨m, u, rfl, hm.mono s23, fun T2 H5 r2 ps2 s5 eT2 hR2 => ?_⟩
    walk_at "go"
    have s35 := s3.trans s5
    refine ⟨nD u, nD u, nd_dp (s35 _ _ eT) (hR.mono s35), nd_dp eT2 hR2, nd_shaped u, nd_shaped u, ?_⟩
    rw [eqv_same (nd_shaped u)]
    exact q H5 (s23.trans s5)
theorem rl_400 {y : Nat} {l : List Pt} {u : Zn.Nn} (ok : OkL l) (hw : wtL l ≤ 400) (h : Zn.RL y l u) : Zn.rl u ≤ 2400 := by
  have := Zn.RL.len y l u ok h
  omega
theorem rd_add {H : Hp} {x y : Addr} {l m : List Pt} {Q : VK} (hx : PaAt k K H l x) (hy : PaAt k K H m y) (okl : OkL l) (okm : OkL m) (hw : wtL l + wtL m ≤ 400) (h1 : dpL l ≤ 30) (h2 : dpL m ≤ 30) (q : ∀ z H', Same H H' → PaAt k K H' (l ++ m) z → Q (.ref z) H') : rBin k.P (spAd k K) (.ref x) (.ref y) H Q := by
  obtain ⟨dx, t, as, ex, _⟩ := id hx
  obtain ⟨dy, u, bs, ey, _⟩ := id hy
  exact ⟨x, y, dx, dy, _, _, rfl, rfl, ex, ey, x, y, l, m, rfl, hx, hy, Zn.okL_app okl okm, by rw [wtL_app]; omega, by rw [dpL_app]; omega, fun z H' s _ hz => ⟨z, rfl, q z H' s hz⟩⟩
theorem spP_nil {q : Bool} {H : Hp} {a : Addr} {Q : VK} {E : XK} (h : SqK q K H a []) (qq : ∀ z H', Same H H' → PaAt k K H' [] z → Q (.ref z) H') : spP k K [.ref a] H Q E := ⟨q, a, [], [], rfl, by rw [OkL]; trivial, h, by rw [PtsAt], by rw [wtL]; decide, by rw [dpL]; decide, fun z H' s _ hz => qq z H' s hz⟩
theorem OkL_nil : OkL [] := by rw [OkL]; trivial
theorem sIx_hi {c n : Nat} (h : c ≤ n) : HT.sIx n n (some (c : Int)) = c := by
  rw [HT.sIx_nat, Nat.min_eq_left h]
theorem cut_lo {α : Type} {l : List α} {c : Nat} (h : c ≤ l.length) : cutL l none (some (c : Int)) = l.take c := by
  unfold cutL
  rw [sIx_hi h, show HT.sIx l.length 0 none = 0 from rfl, List.drop_zero, Nat.sub_zero]
theorem cut_hi {α : Type} {l : List α} {c : Nat} (h : c ≤ l.length) : cutL l (some (c : Int)) none = l.drop c := by
  unfold cutL
  rw [show HT.sIx l.length l.length none = l.length from rfl, HT.sIx_nat, Nat.min_eq_left h, List.take_of_length_le (by rw [List.length_drop]; exact Nat.le_refl _)]
def spJoi (k : Cs) (K : PySem.W.Frag) : Sp := fun vs H Q _ => ∃ (p q : Addr) (l m : List Pt) (y c : Nat), vs = [.ref p, .ref q, .str (S [y]), .int (c : Int)] ∧ PaAt k K H l p ∧ PaAt k K H m q ∧ OkL l ∧ OkL m ∧ wtL l ≤ 40 ∧ wtL m ≤ 40 ∧ dpL l ≤ 4 ∧ dpL m ≤ 4 ∧ y ∈ PAR ∧ c ≤ l.length ∧ ∀ H', Same H H' → Q (.bl true) H'
theorem ok_law_joined (F : FnP K "_law_joined" s_law_joined f fd) (pa : PtA K k) (y_Pact : MakY P w K mg base 4 "Pact" (spP k K)) (o_rshift : Bin2 P w K mg base 4 C "__rshift__" (Zn.spRsh C K)) (o_add : Bin2 P w K mg base 6 k.P "__add__" (spAd k K)) (o_get : GetO P w K mg base 1 k.P (spGt k K)) (c_same : Cal P w K mg base 3 "_law_same" (spSame C K)) (c_need_of : CalX P w K mg base (3 * 31 + 5) "need_of" (spNo C CP k K 31)) : FnOk P w K mg base CX0 99 f fd P_law_joined (spJoi k K) := by
  refine F.ok sc_law_joined (fun vs H Q E h => ?_) (fun cdv A outer s H vs Q E hr h => ?_)
  · obtain ⟨p, q, l, m, y, c, rfl, _⟩ := h
    rfl
  · obtain ⟨p, q, l, m, y, c, rfl, hp, hq, okl, okm, wl, wm, dl, dm, hy, hc, qq⟩ := h
    refine ⟨_, PSs.nox (pss_cons (ps_set (i := 4) sc_law_joined.nd rfl (by first | exact .inl rfl | exact .inr rfl) (pe_clE c_need_of (fun _ => passS0) hr (by decide) (by rfl) (pa_cons (pv 0) (pa_cons (pv 2) pa_nil))))
      (pss_cons (ps_set (i := 5) sc_law_joined.nd rfl (by first | exact .inl rfl | exact .inr rfl) (pe_clE c_need_of (fun _ => passS0) hr (by decide) (by rfl) (pa_cons (pv 1) (pa_cons (pv 2) pa_nil))))
      (pss_cons (ps_if (pt_not (pt_val (pe_cl c_same hr (by decide) (by rfl) (pa_cons (pe_clE c_need_of (fun _ => passS0) hr (by decide) (by rfl) (pa_cons (pe_op (op_bin o_add hr (by decide)) (pv 0) (pv 1)) (pa_cons (pv 2) pa_nil))) (pa_cons (pe_op (op_bin o_rshift hr (by decide)) (pv 4) (pv 5)) pa_nil))))) (pss_one (ps_ret pe_bl)) pss_nil)
      (pss_cons (ps_if (pt_not (pt_val (pe_cl c_same hr (by decide) (by rfl) (pa_cons (pe_op (op_bin o_rshift hr (by decide)) (pe_clE c_need_of (fun _ => passS0) hr (by decide) (by rfl) (pa_cons (pe_mkY y_Pact (fun _ => passS0) hr (by decide) (by rfl) (pa_cons (pe_getSl o_get hr (by decide) (pv 0) po_none (po_some (pv 3))) pa_nil)) (pa_cons (pv 2) pa_nil))) (pe_clE c_need_of (fun _ => passS0) hr (by decide) (by rfl) (pa_cons (pe_mkY y_Pact (fun _ => passS0) hr (by decide) (by rfl) (pa_cons (pe_getSl o_get hr (by decide) (pv 0) (po_some (pv 3)) po_none) pa_nil)) (pa_cons (pv 2) pa_nil)))) (pa_cons (pv 4) pa_nil))))) (pss_one (ps_ret pe_bl)) pss_nil)
      (pss_one (ps_ret (pe_and (pe_cl c_same hr (by decide) (by rfl) (pa_cons (pe_clE c_need_of (fun _ => passS0) hr (by decide) (by rfl) (pa_cons (pe_op (op_bin o_add hr (by decide)) (pe_mkY y_Pact (fun _ => passS0) hr (by decide) (by rfl) (pa_cons (pe_lst pa_nil) pa_nil)) (pv 0)) (pa_cons (pv 2) pa_nil))) (pa_cons (pv 4) pa_nil))) (pe_one (pe_cl c_same hr (by decide) (by rfl) (pa_cons (pe_clE c_need_of (fun _ => passS0) hr (by decide) (by rfl) (pa_cons (pe_op (op_bin o_add hr (by decide)) (pv 0) (pe_mkY y_Pact (fun _ => passS0) hr (by decide) (by rfl) (pa_cons (pe_lst pa_nil) pa_nil))) (pa_cons (pv 2) pa_nil))) (pa_cons (pv 4) pa_nil))))))))))), ?_⟩
    walk_at "go"
    refine ⟨p, _, [y], rfl, (show 1 ≤ 10000 by decide), hp, okl, by walk_at "wd", by walk_at "wd", .inl ⟨y, rfl, hy, fun n1 H1 a s1 hn1 ra => ?_⟩⟩
    walk_at "go"
    refine ⟨q, _, [y], rfl, (show 1 ≤ 10000 by decide), (hq.mono s1), okm, by walk_at "wd", by walk_at "wd", .inl ⟨y, rfl, hy, fun n2 H2 b s2 hn2 rb => ?_⟩⟩
    have s12 := s1.trans s2
    have oa := Zn.RL.ok y l a ra
    have ob := Zn.RL.ok y m b rb
    have la := rl_400 okl (by omega) ra
    have lb := rl_400 okm (by omega) rb
    dsimp only [List.set]
    walk_at "go"
    refine rd_add (hp.mono s12) (hq.mono s12) okl okm (by omega) (by omega) (by omega) fun z H3 s3 hz => ?_
    walk_at "go"
    refine ⟨z, _, [y], rfl, (show 1 ≤ 10000 by decide), hz, (Zn.okL_app okl okm), by walk_at "wd", by walk_at "wd", .inl ⟨y, rfl, hy, fun n3 H4 t s4 hn3 rt => ?_⟩⟩
    have s24 := s2.trans (s3.trans s4)
    walk_at "go"
    refine rd_rsh (hn1.mono s24) (hn2.mono (s3.trans s4)) oa ob (by omega) fun n4 H5 v s5 hn4 cv => ?_
    obtain rfl := Zn.Comp.uniq (Zn.RL_app l m a b t ra rb rt) cv
    walk_at "go"
    refine ⟨n3, n4, t, rfl, hn3.mono s5, hn4, fun H6 s6 => ?_⟩
    have s06 := (s1.trans s24).trans (s5.trans s6)
    have hn1 := hn1.mono (s24.trans (s5.trans s6))
    have hp := hp.mono s06
    clear hn2 hn3 hn4 rt cv s24 s5 s6 hz s4 s3 s12 s2
    walk_at "go"
    obtain ⟨dxp, tp, asp, exp, _⟩ := id hp
    refine ⟨p, _, _, rfl, exp, fun sl nsl => ?_⟩
    have s1 := same_new (o := SlHO sl none (some (c : Int))) nsl
    refine ⟨p, sl, l, none, some (c : Int), rfl, hp.mono s1, upd_same, fun t1 as1 H7 s7 hT1 hP1 => ?_⟩
    rw [cut_lo hc] at hP1
    have okt : OkL (l.take c) := okL_iff.mpr fun x h => okL_iff.mp okl x (List.mem_of_mem_take h)
    have okd : OkL (l.drop c) := okL_iff.mpr fun x h => okL_iff.mp okl x (List.mem_of_mem_drop h)
    have wtd : wtL (l.take c) + wtL (l.drop c) = wtL l := by rw [← wtL_app, List.take_append_drop]
    have dtd : max (dpL (l.take c)) (dpL (l.drop c)) = dpL l := by rw [← dpL_app, List.take_append_drop]
    walk_at "go"
    refine ⟨false, t1, _, as1, rfl, okt, hT1, hP1, by omega, by omega, fun z1 H8 s8 _ hz1 => ?_⟩
    walk_at "go"
    refine ⟨z1, _, [y], rfl, (show 1 ≤ 10000 by decide), hz1, okt, by walk_at "wd", by walk_at "wd", .inl ⟨y, rfl, hy, fun n5 H9 u1 s9 hn5 r1 => ?_⟩⟩
    have s69 := s1.trans (s7.trans (s8.trans s9))
    have hn1 := hn1.mono s69
    have hp := hp.mono s69
    have s06 := s06.trans s69
    clear s69 s1 s7 s8 s9 hz1 hT1 hP1 exp nsl
    walk_at "go"
    obtain ⟨dxp, tp, asp, exp, _⟩ := id hp
    refine ⟨p, _, _, rfl, exp, fun sl nsl => ?_⟩
    have s1 := same_new (o := SlHO sl (some (c : Int)) none) nsl
    refine ⟨p, sl, l, some (c : Int), none, rfl, hp.mono s1, upd_same, fun t1 as1 H7 s7 hT1 hP1 => ?_⟩
    rw [cut_hi hc] at hP1
    walk_at "go"
    refine ⟨false, t1, _, as1, rfl, okd, hT1, hP1, by omega, by omega, fun z1 H8 s8 _ hz1 => ?_⟩
    walk_at "go"
    refine ⟨z1, _, [y], rfl, (show 1 ≤ 10000 by decide), hz1, okd, by walk_at "wd", by walk_at "wd", .inl ⟨y, rfl, hy, fun n6 H10 u2 s9 hn6 r2 => ?_⟩⟩
    have s69 := s1.trans (s7.trans (s8.trans s9))
    have hn1 := hn1.mono s69
    have hp := hp.mono s69
    have hn5 := hn5.mono s69
    have s06 := s06.trans s69
    clear s69 s1 s7 s8 s9 hz1 hT1 hP1 exp nsl
    walk_at "go"
    have l1 := rl_400 okt (by omega) r1
    have l2 := rl_400 okd (by omega) r2
    refine rd_rsh hn5 hn6 (Zn.RL.ok y _ _ r1) (Zn.RL.ok y _ _ r2) (by omega) fun n7 H11 v s11 hn7 cv => ?_
    obtain rfl := Zn.Comp.uniq (Zn.RL_app (l.take c) (l.drop c) u1 u2 a r1 r2 (by rw [List.take_append_drop]; exact ra)) cv
    walk_at "go"
    refine ⟨n7, n1, a, rfl, hn7, hn1.mono s11, fun H12 s12 => ?_⟩
    have hn1 := hn1.mono (s11.trans s12)
    have hp := hp.mono (s11.trans s12)
    have s06 := s06.trans (s11.trans s12)
    clear s11 s12 hn7 hn5 hn6 cv l1 l2 r1 r2
    walk_at "go"
    intro L nL
    generalize eH_ : upd H12 L _ = H13
    have s13 : Same H12 H13 := by rw [← eH_]; exact same_new nL
    have eL : H13 L = some (.lst []) := by rw [← eH_]; exact upd_same
    clear eH_
    walk_at "go"
    refine ⟨true, L, [], [], rfl, OkL_nil, SqL.of eL, by rw [PtsAt], by rw [wtL]; decide, by rw [dpL]; decide, fun z H14 s14 _ hz => ?_⟩
    walk_at "go"
    have s134 := s13.trans s14
    refine rd_add hz (hp.mono s134) OkL_nil okl (by rw [wtL]; omega) (by rw [dpL]; omega) (by omega) fun z2 H15 s15 hz2 => ?_
    rw [List.nil_append] at hz2
    walk_at "go"
    refine ⟨z2, _, [y], rfl, (show 1 ≤ 10000 by decide), hz2, okl, by walk_at "wd", by walk_at "wd", .inl ⟨y, rfl, hy, fun n8 H16 u3 s16 hn8 r3 => ?_⟩⟩
    obtain rfl := Zn.RL.uniq y l _ _ ra r3
    have s69 := s134.trans (s15.trans s16)
    have hn1 := hn1.mono s69
    have hp := hp.mono s69
    have s06 := s06.trans s69
    clear s69 s134 s13 s14 s15 s16 hz hz2 nL eL
    walk_at "go"
    refine ⟨n8, n1, a, rfl, hn8, hn1, fun H17 s17 => ?_⟩
    have hn1 := hn1.mono s17
    have hp := hp.mono s17
    have s06 := s06.trans s17
    clear s17 hn8 r3
    walk_at "go"
    intro L nL
    generalize eH_ : upd H17 L _ = H13
    have s13 : Same H17 H13 := by rw [← eH_]; exact same_new nL
    have eL : H13 L = some (.lst []) := by rw [← eH_]; exact upd_same
    clear eH_
    walk_at "go"
    refine ⟨true, L, [], [], rfl, OkL_nil, SqL.of eL, by rw [PtsAt], by rw [wtL]; decide, by rw [dpL]; decide, fun z H14 s14 _ hz => ?_⟩
    walk_at "go"
    have s134 := s13.trans s14
    refine rd_add (hp.mono s134) hz okl OkL_nil (by rw [wtL]; omega) (by omega) (by rw [dpL]; omega) fun z2 H15 s15 hz2 => ?_
    rw [List.append_nil] at hz2
    walk_at "go"
    refine ⟨z2, _, [y], rfl, (show 1 ≤ 10000 by decide), hz2, okl, by walk_at "wd", by walk_at "wd", .inl ⟨y, rfl, hy, fun n8 H16 u3 s16 hn8 r3 => ?_⟩⟩
    obtain rfl := Zn.RL.uniq y l _ _ ra r3
    have s69 := s134.trans (s15.trans s16)
    walk_at "go"
    refine ⟨n8, n1, a, rfl, hn8, hn1.mono s69, fun H18 s18 => ?_⟩
    walk_at "go"
    exact qq H18 (s06.trans (s69.trans s18))
theorem rd_mulP {H : Hp} {x : Addr} {c : Nat} {l : List Pt} {Q : VK} (hx : PaAt k K H l x) (okl : OkL l) (hc : c ≤ 100) (hw : wtL l * c ≤ 390) (hw2 : wtL l ≤ 40) (hd : dpL l ≤ 20) (q : ∀ z H', Same H H' → PaAt k K H' [.ti c l] z → Pk.Ok (.ti c l) → wt (.ti c l) ≤ 400 → dp (.ti c l) ≤ 21 → Q (.ref z) H') : rBinI k.P (spMu k K) (.ref x) (.int (c : Int)) H Q := by
  obtain ⟨dx, t, as, ex, _⟩ := id hx
  have o1 : Pk.Ok (.ti c l) := by rw [Pk.Ok]; exact ⟨hc, okl⟩
  have o2 : wt (.ti c l) ≤ 400 := by
    rw [wt]
    split
    · omega
    · omega
  have o3 : dp (.ti c l) ≤ 21 := by rw [dp]; omega
  exact ⟨x, c, dx, _, rfl, rfl, ex, x, c, l, rfl, hx, o1, o2, by omega, fun z H' s _ hz => ⟨z, rfl, q z H' s hz o1 o2 o3⟩⟩
theorem okL1 {p : Pt} (h : Pk.Ok p) : OkL [p] := by
  rw [OkL, OkL]
  exact ⟨h, trivial⟩
theorem ptsAt1 {H : Hp} {p : Pt} {a : Addr} (h : PtAt k K H p a) : PtsAt k K H [p] [a] := by
  rw [PtsAt]
  exact ⟨a, [], rfl, h, by rw [PtsAt]⟩
def spRep (k : Cs) (K : PySem.W.Frag) : Sp := fun vs H Q _ => ∃ (p : Addr) (l : List Pt) (y c : Nat), vs = [.ref p, .str (S [y]), .int (c : Int)] ∧ PaAt k K H l p ∧ OkL l ∧ wtL l ≤ 40 ∧ dpL l ≤ 4 ∧ y ∈ PAR ∧ c ≤ 100 ∧ wtL l * c ≤ 390 ∧ ∀ H', Same H H' → Q (.bl true) H'
theorem ok_repeated (F : FnP K "_law_repeated" s_repeated f fd) (pa : PtA K k) (m_range : mg "range" = none) (y_Pact : MakY P w K mg base 4 "Pact" (spP k K)) (o_mul : BinI P w K mg base 5 C .Mult (Zn.spMul C CB K)) (o_add : Bin2 P w K mg base 6 k.P "__add__" (spAd k K)) (o_mulP : BinJ P w K mg base 7 k.P .Mult (spMu k K)) (c_same : Cal P w K mg base 3 "_law_same" (spSame C K)) (c_need_of : CalX P w K mg base (3 * 31 + 5) "need_of" (spNo C CP k K 31)) : FnOk P w K mg base CX0 99 f fd P_repeated (spRep k K) := by
  refine F.ok sc_repeated (fun vs H Q E h => ?_) (fun cdv A outer s H vs Q E hr h => ?_)
  · obtain ⟨p, l, y, c, rfl, _⟩ := h
    rfl
  · obtain ⟨p, l, y, c, rfl, hp, okl, wl, dl, hy, hc, hwc, qq⟩ := h
    refine ⟨_, PSs.nox (pss_cons (ps_set (i := 3) sc_repeated.nd rfl (by first | exact .inl rfl | exact .inr rfl) (pe_clE c_need_of (fun _ => passS0) hr (by decide) (by rfl) (pa_cons (pv 0) (pa_cons (pv 1) pa_nil))))
      (pss_cons (ps_if (pt_not (pt_val (pe_cl c_same hr (by decide) (by rfl) (pa_cons (pe_clE c_need_of (fun _ => passS0) hr (by decide) (by rfl) (pa_cons (pe_op (op_binI o_mulP hr (by decide)) (pv 0) (pv 2)) (pa_cons (pv 1) pa_nil))) (pa_cons (pe_opE o_mul (fun _ => passS0) hr (by decide) (pv 3) (pv 2)) pa_nil))))) (pss_one (ps_ret pe_bl)) pss_nil)
      (pss_cons (ps_if (pt_cmpR op_gt (pv 2) pe_int (nomark _)) (pss_one (ps_ret pe_bl)) pss_nil)
      (pss_cons (ps_set (i := 4) sc_repeated.nd rfl (by first | exact .inl rfl | exact .inr rfl) (pe_mkY y_Pact (fun _ => passS0) hr (by decide) (by rfl) (pa_cons (pe_lst pa_nil) pa_nil)))
      (pss_cons (ps_for PassesOwn.never rfl (pi_range1 (by rfl) m_range (pa_cons (pv 2) pa_nil)) (pg_name (i := 5) sc_repeated.nd rfl (by first | exact .inl rfl | exact .inr rfl))
        (pss_one (ps_set (i := 4) sc_repeated.nd rfl (by first | exact .inl rfl | exact .inr rfl) (pe_op (op_bin o_add hr (by decide)) (pv 4) (pv 0)))))
      (pss_one (ps_ret (pe_cl c_same hr (by decide) (by rfl) (pa_cons (pe_clE c_need_of (fun _ => passS0) hr (by decide) (by rfl) (pa_cons (pe_op (op_binI o_mulP hr (by decide)) (pv 0) (pv 2)) (pa_cons (pv 1) pa_nil))) (pa_cons (pe_clE c_need_of (fun _ => passS0) hr (by decide) (by rfl) (pa_cons (pv 4) (pa_cons (pv 1) pa_nil))) pa_nil)))))))))), ?_⟩
    walk_at "go"
    refine ⟨p, _, [y], rfl, (show 1 ≤ 10000 by decide), hp, okl, by walk_at "wd", by walk_at "wd", .inl ⟨y, rfl, hy, fun n1 H1 a s1 hn1 ra => ?_⟩⟩
    have oa := Zn.RL.ok y l a ra
    have la := Zn.RL.len y l a okl ra
    have lac : a.2.1.length * c ≤ 2400 := by
      have la : a.2.1.length ≤ max 1 (6 * wtL l) := la
      by_cases z : wtL l = 0
      · have := Nat.mul_le_mul_right c (show a.2.1.length ≤ 1 by omega)
        omega
      · have := Nat.mul_le_mul_right c (show a.2.1.length ≤ 6 * wtL l by omega)
        have e : 6 * wtL l * c = 6 * (wtL l * c) := Nat.mul_assoc _ _ _
        omega
    walk_at "go"
    refine rd_mulP (hp.mono s1) okl hc hwc wl (by omega) fun z H2 s2 hz o1 o2 o3 => ?_
    walk_at "go"
    refine ⟨z, _, [y], rfl, (show 1 ≤ 10000 by decide), hz, (okL1 o1), by walk_at "wd", by walk_at "wd", .inl ⟨y, rfl, hy, fun n2 H3 t s3 hn2 rt => ?_⟩⟩
    have s23 := s2.trans s3
    have hn1 := hn1.mono s23
    have hp := hp.mono (s1.trans s23)
    have rt2 := Zn.R_ti ra (Zn.RL1 rt)
    walk_at "go"
    obtain ⟨dxn, rr, qs, en, _⟩ := id hn1
    refine ⟨n1, (c : Int), dxn, _, rfl, rfl, en, n1, (c : Int), _, _, _, rfl, hn1, oa, fun _ _ => ?_, fun z => by omega⟩
    rw [Int.toNat_natCast]
    refine ⟨?_, fun n3 H4 st2 rs2 nv2 s4 hn3 ok3 hv _ => ⟨n3, rfl, ?_⟩⟩
    · have la : a.2.1.length ≤ max 1 (6 * wtL l) := la
      omega
    obtain rfl := rt2.uniq (t' := (st2, rs2, nv2)) ⟨ok3, hv⟩
    have hn2 := hn2.mono s4
    have hp := hp.mono s4
    have s04 := (s1.trans s23).trans s4
    clear s23 s2 s3 s4 hz hn1 en ok3 hv la lac
    walk_at "go"
    refine ⟨n2, n3, _, rfl, hn2, hn3, fun H5 s5 => ?_⟩
    have hp := hp.mono s5
    have s05 := s04.trans s5
    clear s04 s5 hn2 hn3
    walk_at "go"
    refine ite2 (fun e => ?_) (fun e => ?_)
    · walk_at "go"
      exact qq _ s05
    have hc4 : c ≤ 4 := by
      have : ¬ (4 : Int) < (c : Int) := fun z => e (decide_eq_true z)
      omega
    walk_at "go"
    intro L nL
    generalize eH_ : upd H5 L _ = H13
    have s13 : Same H5 H13 := by rw [← eH_]; exact same_new nL
    have eL : H13 L = some (.lst []) := by rw [← eH_]; exact upd_same
    clear eH_
    walk_at "go"
    refine ⟨true, L, [], [], rfl, OkL_nil, SqL.of eL, by rw [PtsAt], by rw [wtL]; decide, by rw [dpL]; decide, fun z0 H14 s14 _ hz0 => ?_⟩
    walk_at "go"
    refine for_gen (n := c) (fun i σ J => Same H14 J ∧ ∃ (z : Addr) (v5 : Option V), PaAt k K J (Zn.repL i l) z ∧ σ = [some (.ref p), some (.str (S [y])), some (.int (c : Int)), some (.ref n1), some (.ref z), v5]) ⟨Same.refl _, z0, none, hz0, rfl⟩ ?_ ?_ ?_ ?_
    · intro i σ J hi _
      show i < ((c : Int)).toNat
      omega
    · intro σ J _
      show ((c : Int)).toNat ≤ c
      omega
    · rintro i σ J x J' hi ⟨sJ, z, v5, hz, rfl⟩ ⟨rfl, rfl⟩
      have s15 := (s13.trans s14).trans sJ
      have i4 : i * wtL l ≤ 4 * 40 := Nat.mul_le_mul (by omega) wl
      walk_at "go"
      refine rd_add hz (hp.mono s15) (Zn.rep_ok okl i) okl (by rw [Zn.rep_wt]; omega) (Nat.le_trans (Zn.rep_dp l i) (by omega)) (by omega) fun z2 H16 s16 hz2 => ?_
      walk_at "go"
      exact ⟨sJ.trans s16, z2, _, hz2, rfl⟩
    rintro σ J ⟨sJ, z, v5, hz, rfl⟩
    have s15 := (s13.trans s14).trans sJ
    have hp := hp.mono s15
    have i4 : c * wtL l ≤ 4 * 40 := Nat.mul_le_mul (by omega) wl
    walk_at "go"
    refine rd_mulP hp okl hc hwc wl (by omega) fun z3 H6 s6 hz3 o1 o2 o3 => ?_
    walk_at "go"
    refine ⟨z3, _, [y], rfl, (show 1 ≤ 10000 by decide), hz3, (okL1 o1), by walk_at "wd", by walk_at "wd", .inl ⟨y, rfl, hy, fun n4 H7 t4 s7 hn4 rt4 => ?_⟩⟩
    walk_at "go"
    have s67 := s6.trans s7
    have hwr := Zn.rep_wt l c
    have hdr := Zn.rep_dp l c
    refine ⟨z, _, [y], rfl, (show 1 ≤ 10000 by decide), (hz.mono s67), (Zn.rep_ok okl c), by walk_at "wd", by walk_at "wd", .inl ⟨y, rfl, hy, fun n5 H8 t5 s8 hn5 rt5 => ?_⟩⟩
    obtain rfl := (Zn.R_ti ra (Zn.RL1 rt4)).uniq (Zn.RL_rep ra c t5 rt5)
    walk_at "go"
    refine ⟨n4, n5, t4, rfl, hn4.mono s8, hn5, fun H9 s9 => ?_⟩
    exact qq H9 ((s05.trans s15).trans (s67.trans (s8.trans s9)))
end
end Z
set_option pp.maxSteps 700
set_option Elab.async false
set_option linter.all false
set_option maxRecDepth 100000
set_option maxHeartbeats 4000000
open SX (S S_inj S_len S_cat)
namespace Z
open Pk NdefX
open PySem PySem.Spec PyProof.Rows L2
open C8 (pss_cut tCut)
local macro_rules | `(tactic| walk_at "num") => `(tactic| first | rfl | omega | decide | exact Nat.le_of_lt (small1000 (by simp)) | exact ⟨by omega, by omega⟩ | exact ⟨by omega, by omega, by omega⟩ | exact ⟨by decide, by decide, by decide⟩ | exact Or.inl ⟨by omega, by omega⟩ | exact Or.inr ⟨by omega, by omega⟩)
local macro_rules | `(tactic| walk_at "go") => `(tactic| repeat (first | refine ⟨_, rfl, ?_⟩ | refine ⟨_, _, rfl, rfl, ?_⟩ | refine ⟨_, _, rfl, ?_⟩ | (refine ⟨_, _, rfl, rfl, ?_, ?_⟩; focus walk_at "num") | refine Or.inl ⟨_, rfl, ?_⟩ | refine ⟨_, _, _, _, rfl, rfl, (by assumption), (by rfl), ?_⟩ | refine ⟨_, _, _, _, _, rfl, (by assumption), (by assumption), (by assumption), (by rfl), ?_⟩ | refine ⟨rfl, ?_⟩ | (refine And.intro ?_ ?_; focus walk_at "num")))
abbrev s_idle : Stmt := topS 76
abbrev N_idle : List Str := ["_law_pact_here", "_law_part_here"]
abbrev P_idle : List Str := ["_law_pact_here"]
theorem sc_idle : FnScope N_idle P_idle (defScope s_idle) := ⟨rfl, rfl, rfl, by decide +kernel, rfl, by decide +kernel, by decide +kernel⟩
abbrev s_idle_part : Stmt := topS 77
abbrev N_idle_part : List Str := ["_law_part_here", "_law_names", "_law_option"]
abbrev P_idle_part : List Str := ["_law_part_here"]
theorem sc_idle_part : FnScope N_idle_part P_idle_part (defScope s_idle_part) := ⟨rfl, rfl, rfl, by decide +kernel, rfl, by decide +kernel, by decide +kernel⟩
/-! ### new objects and all tuples -/
def NmD (H : Hp) (D : Addr) (g : Nat → Nat) : Prop := ∃ kvs : List (L2.Key × V), H D = some (.dK kvs) ∧ ∀ c ∈ PAR, valV kvs (.inr (S [c])) = some (.str (S [g c]))
theorem NmD.mono {H H' : Hp} {D : Addr} {g : Nat → Nat} (h : NmD H D g) (s : Same H H') : NmD H' D g := by
  obtain ⟨kvs, e, hk⟩ := h
  exact ⟨kvs, s _ _ e, hk⟩
theorem NmD.get {H : Hp} {D : Addr} {g : Nat → Nat} (h : NmD H D g) {c : Nat} (hc : c ∈ PAR) : DGet H D (.str (S [c])) (some (.str (S [g c]))) := by
  obtain ⟨kvs, e, hk⟩ := h
  rw [← hk c hc]
  exact DGet.k (k := .inr (S [c])) e
open Classical in
noncomputable def nwT (H H' : Hp) : Hp := fun a => if H a = none ∨ ∃ xs, H' a = some (.tup xs) then H' a else none
open Classical in
noncomputable def nwTD (H : Hp) (D : Addr) (H' : Hp) : Hp := fun a => if a = D then none else nwT H H' a
section
variable {H H1 H2 J : Hp} {D : Addr}
theorem nwT_some {a : Addr} {o : HO} (h : nwT H H1 a = some o) : H1 a = some o ∧ (H a = none ∨ ∃ xs, o = .tup xs) := by
  unfold nwT at h
  split at h
  · rename_i c
    refine ⟨h, c.imp id fun ⟨xs, e⟩ => ⟨xs, ?_⟩⟩
    rw [h] at e
    exact Option.some.inj e
  · cases h
theorem nwT_of {a : Addr} {o : HO} (h : H1 a = some o) (c : H a = none ∨ ∃ xs, o = .tup xs) : nwT H H1 a = some o := by
  unfold nwT
  rw [if_pos (c.imp id fun ⟨xs, e⟩ => ⟨xs, by rw [h, e]⟩)]
  exact h
theorem nwTD_some {a : Addr} {o : HO} (h : nwTD H D H1 a = some o) : a ≠ D ∧ nwT H H1 a = some o := by
  unfold nwTD at h
  split at h
  · cases h
  · rename_i c
    exact ⟨c, h⟩
theorem nwTD_of {a : Addr} {o : HO} (n : a ≠ D) (h : nwT H H1 a = some o) : nwTD H D H1 a = some o := by
  unfold nwTD
  rw [if_neg n]
  exact h
theorem nwT_same : Same (nwT H H1) H1 := fun _ _ h => (nwT_some h).1
theorem nwTD_nwT : Same (nwTD H D H1) (nwT H H1) := fun _ _ h => (nwTD_some h).2
theorem nwT_grow (s0 : Same H J) (s : Same H1 H2) : Same (nwT J H1) (nwT H H2) := fun a o h => by
  obtain ⟨h1, h2⟩ := nwT_some h
  refine nwT_of (s _ _ h1) (h2.imp (fun z => ?_) id)
  cases e : H a with
  | none => rfl
  | some o => rw [s0 _ _ e] at z; cases z
theorem nwTD_grow (s : Same H1 H2) : Same (nwTD H D H1) (nwTD H D H2) := fun a o h => nwTD_of (nwTD_some h).1 (nwT_grow (Same.refl _) s _ _ (nwTD_some h).2)
theorem nwTD_upd {o : HO} : Same (nwTD H D H1) (nwTD H D (upd H1 D o)) := fun a u h => by
  obtain ⟨n, h⟩ := nwTD_some h
  obtain ⟨h1, h2⟩ := nwT_some h
  exact nwTD_of n (nwT_of (by rw [upd_ne n]; exact h1) h2)
theorem nwT_tail {ys : List V} (s0 : Same H J) (e0 : J D = some (.lst ys)) (e : H2 D = some (.lst ys)) : Same (nwT J H2) (nwTD H D H2) := fun a o h => by
  obtain ⟨h1, h2⟩ := nwT_some h
  refine nwTD_of (fun z => ?_) (nwT_grow s0 (Same.refl _) _ _ h)
  subst z
  rcases h2 with h2 | ⟨xs, rfl⟩
  · rw [e0] at h2
    cases h2
  · rw [e] at h1
    cases h1
end
theorem lc_rnT {K : PySem.W.Frag} {a D : Addr} {xs : List V} {H0 : Hp} {i : Nat} {te : TE} {vs : List Nat} {σ : L2.St} {Qd : Hp → Prop} (G : Nat → Hp → V → Prop) (mono : ∀ i X Y y, Same X Y → G i X y → G i Y y) (hS : SqL K H0 a xs) (hn : xs.length ≤ 1000000) (nD : H0 D = none)
    (hw : ∀ x : V, wipe ((wipe σ vs).set i (some x)) vs = wipe σ vs)
    (ht : ∀ (k : Nat) (x : V) J1 (Q : VK), xs[k]? = some x → Same H0 J1 → (∀ y J2, Same J1 J2 → G k (nwT J1 J2) y → Q y J2) → te ((wipe σ vs).set i (some x)) J1 Q)
    (hd : ∀ J1 ys, Same H0 J1 → J1 D = some (.lst ys) → ys.length = xs.length → (∀ k y, ys[k]? = some y → G k (nwTD H0 D J1) y) → Qd J1) : lcW (Itl K a) (gName i) tYes te vs σ D Qd H0 := by
  have gx : ∀ k, k < xs.length → xs[k]? = some (xs.getD k .non) := fun k hk => by
    rw [List.getD_eq_getElem?_getD, List.getElem?_eq_getElem hk]
    rfl
  have hS : SqK true K H0 a xs := hS
  refine lc_gen (J := ItQ true K a) (n := xs.length) (fun k J1 => Same H0 J1 ∧ ∃ ys, J1 D = some (.lst ys) ∧ ys.length = k ∧ ∀ k y, ys[k]? = some y → G k (nwTD H0 D J1) y) ⟨same_new nD, [], upd_same, rfl, fun k y e => by cases e⟩ (fun k J1 hk h => itq_go (Z.Same.sqK h.1 hS) (gx k hk)) (fun J1 h => itq_stop (Z.Same.sqK h.1 hS) (Nat.le_refl _)) (fun k J1 x J2 hk ⟨s1, ys, eD, ly, hG⟩ y => ?_) (fun J1 ⟨s1, ys, eD, ly, hG⟩ => hd J1 ys s1 eD ly hG)
  obtain ⟨rfl, ex⟩ := itq_yld (Z.Same.sqK s1 hS) y
  refine ⟨hw x, ?_⟩
  show te ((wipe σ vs).set i (some x)) J2 _
  refine ht k x J2 _ ex s1 fun v J3 s3 hv => ?_
  have eD3 := s3 _ _ eD
  refine ⟨ys, eD3, Nat.lt_of_le_of_lt (show ys.length ≤ 1000000 by omega) (by decide), Z.Same.mut (s1.trans s3) nD, ys ++ [v], upd_same, by rw [List.length_append, ly]; rfl, fun k2 y2 e => ?_⟩
  refine mono _ _ _ _ nwTD_upd ?_
  by_cases c : k2 < ys.length
  · rw [List.getElem?_append_left c] at e
    exact mono _ _ _ _ (nwTD_grow s3) (hG _ _ e)
  · rw [List.getElem?_append_right (by omega)] at e
    have k0 : k2 = k := by
      have := (List.getElem?_eq_some_iff.mp e).1
      simp only [List.length_cons, List.length_nil] at this
      omega
    subst k0
    rw [ly, Nat.sub_self] at e
    cases e
    exact mono _ _ _ _ (nwT_tail s1 eD eD3) hv
theorem dasAt_of {H : Hp} : ∀ (l : List (List Pt)) (as : List Addr), as.length = l.length → (∀ (i : Nat) (p : List Pt) (a : Addr), l[i]? = some p → as[i]? = some a → DaAt H p a) → DasAt H l as
  | [], as, e, h => by
    rw [DasAt]
    exact List.length_eq_zero_iff.mp e
  | p :: l, as, e, h => by
    cases as with
    | nil => cases e
    | cons a r =>
      rw [DasAt]
      exact ⟨a, r, rfl, h 0 p a rfl rfl, dasAt_of l r (by rw [List.length_cons, List.length_cons] at e; omega) fun i => h (i + 1)⟩
/-- the dict of names -/
def idK : List (L2.Key × V) := PAR.map fun c => (.inr (S [c]), .str (S [Zn.idn c]))
theorem idK_get : ∀ c ∈ PAR, valV idK (.inr (S [c])) = some (.str (S [Zn.idn c])) := by
  intro c hc
  simp only [PAR, List.mem_cons, List.not_mem_nil, or_false] at hc
  rcases hc with rfl | rfl | rfl | rfl | rfl | rfl <;> rfl
theorem idK_eq : [(V.str (Str.ofString "a"), V.str (Str.ofString "b")), (V.str (Str.ofString "b"), V.str (Str.ofString "c")), (V.str (Str.ofString "c"), V.str (Str.ofString "d")), (V.str (Str.ofString "d"), V.str (Str.ofString "e")), (V.str (Str.ofString "e"), V.str (Str.ofString "b")), (V.str (Str.ofString "f"), V.str (Str.ofString "c"))] = idK.map fun kv => (kV kv.1, kv.2) := by
  rw [show Str.ofString "a" = S [97] by decide +kernel, show Str.ofString "b" = S [98] by decide +kernel, show Str.ofString "c" = S [99] by decide +kernel, show Str.ofString "d" = S [100] by decide +kernel, show Str.ofString "e" = S [101] by decide +kernel, show Str.ofString "f" = S [102] by decide +kernel]
  rfl
theorem idK_mg : mergeK [] idK = idK := by rfl
theorem eqS_t {a b : Nat} (h : decide (V.str (S [a]) = V.str (S [b])) = true) : a = b := by
  have := of_decide_eq_true h
  injection this with this
  have := S_inj this
  injection this
theorem eqS_f {a b : Nat} (h : ¬ decide (V.str (S [a]) = V.str (S [b])) = true) : ¬ a = b := fun e => h (by rw [e]; exact decide_eq_true rfl)
section
variable {P : Program} {w : World} {K : PySem.W.Frag} {mg : Str → Option Value} {base : Heap} {f : Addr} {fd : FuncData}
def spIl (d : Nat) : Sp := fun vs H Q _ => ∃ (L : Addr) (l : List Pt), vs = [.ref L] ∧ DaAt H l L ∧ OkL l ∧ wtL l ≤ 400 ∧ dpL l + 1 ≤ d ∧ ∀ x H', Same H H' → H x = none → DaAt (nwT H H') (Zn.idL l) x → Q (.ref x) H'
def spIp (d : Nat) : Sp := fun vs H Q _ => ∃ (a : Addr) (p : Pt), vs = [.ref a] ∧ DtAt H p a ∧ Pk.Ok p ∧ wt p ≤ 400 ∧ dp p ≤ d ∧ ∀ x H', Same H H' → DtAt (nwT H H') (Zn.idP p) x → Q (.ref x) H'
theorem ok_idle {d : Nat} (F : FnP K "_law_idle" s_idle f fd) (c_idle_part : Cal P w K mg base (2 * d + 7) "_law_idle_part" (spIp d)) : FnOk P w K mg base CX0 (2 * d + 8) f fd P_idle (spIl (d + 1)) := by
  refine F.ok sc_idle (fun vs H Q E h => ?_) (fun cdv A outer s H vs Q E hr h => ?_)
  · obtain ⟨L, l, rfl, _⟩ := h
    rfl
  · obtain ⟨L, l, rfl, ⟨bs, hL, hD⟩, ok, hw, hd, qq⟩ := h
    refine ⟨_, PSs.nox (pss_one (ps_ret (pe_lc (own := [("_law_part_here", 1)]) (g := (gName 1)) (tt := tYes) (by rfl) sc_idle.nd (pi_list (pv 0)) (blkOk_by (own := [("_law_part_here", 1)]) (N := N_idle) (sc := defScope s_idle) (by decide +kernel)) (fun _ _ _ _ _ => (pg_name (i := 1) sc_idle.nd rfl (by first | exact .inl rfl | exact .inr rfl))) (fun _ _ _ _ _ => pts_nil) (fun _ _ _ _ _ => (pe_cl c_idle_part hr (by omega) (by rfl) (pa_cons (pv 1) pa_nil)))))), ?_⟩
    have lw := len_wt l
    have lb := DtsAt.len _ _ hD
    walk_at "go"
    refine ⟨⟨_, SqL.of hL⟩, ?_⟩
    intro D nD
    refine lc_rnT (fun i J y => ∃ x p, y = .ref x ∧ l[i]? = some p ∧ DtAt J (Zn.idP p) x) (fun i X Y y s h => ?_) (SqL.of hL) (by rw [List.length_map]; omega) nD (fun x => rfl) (fun i x J Q4 ex s4 q4 => ?_) (fun J ys s4 eD ly hG => ?_)
    · obtain ⟨x, p, h1, h2, h3⟩ := h
      exact ⟨x, p, h1, h2, h3.mono s⟩
    · obtain ⟨y, p, rfl, ep, hp⟩ := DtsAt.gets _ _ hD i x ex
      have pm := List.mem_of_getElem? ep
      have := wtL_mem pm
      have := dpL_mem pm
      walk_at "go"
      exact ⟨y, p, rfl, hp.mono s4, okL_iff.mp ok p pm, by omega, by omega, fun z J2 s2 hz => q4 _ _ s2 ⟨z, p, rfl, ep, hz⟩⟩
    obtain ⟨as, rfl⟩ := refs_of ys fun i y e => by
      obtain ⟨x, p, h1, _⟩ := hG i y e
      exact ⟨x, h1⟩
    rw [List.length_map, List.length_map, lb] at ly
    walk_at "go"
    refine qq D J s4 nD ⟨as, nwT_of eD (.inl nD), ?_⟩
    rw [Zn.idL_map]
    refine dtsAt_of _ _ (by rw [List.length_map]; exact ly) fun i p a ep ea => ?_
    obtain ⟨x, p2, h1, h2, h3⟩ := hG i (.ref a) (by rw [List.getElem?_map, ea]; rfl)
    cases h1
    rw [List.getElem?_map, h2] at ep
    cases ep
    exact h3.mono nwTD_nwT
theorem ok_idle_part {d : Nat} (F : FnP K "_law_idle_part" s_idle_part f fd) (c_idle : Cal P w K mg base (2 * d + 6) "_law_idle" (spIl d)) : FnOk P w K mg base CX0 (2 * d + 7) f fd P_idle_part (spIp d) := by
  refine F.ok sc_idle_part (fun vs H Q E h => ?_) (fun cdv A outer s H vs Q E hr h => ?_)
  · obtain ⟨a, p, rfl, _⟩ := h
    rfl
  · obtain ⟨a, p, rfl, hD, ok, hw, hd, qq⟩ := h
    refine ⟨_, PSs.nox (pss_cons (ps_set (i := 1) sc_idle_part.nd rfl (by first | exact .inl rfl | exact .inr rfl) (pe_disp (pps_cons pe_str pe_str (pps_cons pe_str pe_str (pps_cons pe_str pe_str (pps_cons pe_str pe_str (pps_cons pe_str pe_str (pps_cons pe_str pe_str pps_nil)))))) rfl rfl (by simp) (by decide)))
      (pss_cons (ps_if (pt_cmpR op_eq (pe_ix ix_tup (pv 0) pe_int (fun _ _ => rfl)) pe_str (nomark _)) (pss_cons (ps_if (pt_cmpR op_eq (pe_dget (hu_of hr) (pv 1) (pe_ix ix_tup (pv 0) pe_int (fun _ _ => rfl)) (fun _ _ => rfl)) (pe_dget (hu_of hr) (pv 1) (pe_ix ix_tup (pv 0) pe_int (fun _ _ => rfl)) (fun _ _ => rfl)) (nomark _)) (pss_one (ps_ret (pe_tup (pa_cons pe_str (pa_cons pe_str pa_nil))))) pss_nil)
      (pss_one (ps_ret (pe_tup (pa_cons pe_str (pa_cons (pe_dget (hu_of hr) (pv 1) (pe_ix ix_tup (pv 0) pe_int (fun _ _ => rfl)) (fun _ _ => rfl)) (pa_cons (pe_dget (hu_of hr) (pv 1) (pe_ix ix_tup (pv 0) pe_int (fun _ _ => rfl)) (fun _ _ => rfl)) (pa_cons (pe_ix ix_tup (pv 0) pe_int (fun _ _ => rfl)) pa_nil)))))))) pss_nil)
      (pss_cons (ps_if (pt_cmpR op_eq (pe_ix ix_tup (pv 0) pe_int (fun _ _ => rfl)) pe_str (nomark _)) (pss_one (ps_ret (pv 0))) pss_nil)
      (pss_cons (ps_if (pt_cmpR op_eq (pe_ix ix_tup (pv 0) pe_int (fun _ _ => rfl)) pe_str (nomark _)) (pss_one (ps_ret (pe_tup (pa_cons pe_str (pa_cons (pe_ix ix_tup (pv 0) pe_int (fun _ _ => rfl)) (pa_cons (pe_lc (own := [("_law_option", 2)]) (g := (gName 2)) (tt := tYes) (by rfl) sc_idle_part.nd (pi_list (pe_ix ix_tup (pv 0) pe_int (fun _ _ => rfl))) (blkOk_by (own := [("_law_option", 2)]) (N := N_idle_part) (sc := defScope s_idle_part) (by decide +kernel)) (fun _ _ _ _ _ => (pg_name (i := 2) sc_idle_part.nd rfl (by first | exact .inl rfl | exact .inr rfl))) (fun _ _ _ _ _ => pts_nil) (fun _ _ _ _ _ => (pe_cl c_idle hr (by omega) (by rfl) (pa_cons (pv 2) pa_nil)))) pa_nil)))))) pss_nil)
      (pss_cons (ps_if (pt_cmpR op_eq (pe_ix ix_tup (pv 0) pe_int (fun _ _ => rfl)) pe_str (nomark _)) (pss_one (ps_ret (pe_tup (pa_cons pe_str (pa_cons (pe_cl c_idle hr (by omega) (by rfl) (pa_cons (pe_ix ix_tup (pv 0) pe_int (fun _ _ => rfl)) pa_nil)) pa_nil))))) pss_nil)
      (pss_one (ps_ret (pe_tup (pa_cons (pe_ix ix_tup (pv 0) pe_int (fun _ _ => rfl)) (pa_cons (pe_ix ix_tup (pv 0) pe_int (fun _ _ => rfl)) (pa_cons (pe_cl c_idle hr (by omega) (by rfl) (pa_cons (pe_ix ix_tup (pv 0) pe_int (fun _ _ => rfl)) pa_nil)) pa_nil))))))))))), ?_⟩
    walk_at "go"
    intro dn ndn
    refine ⟨upd_same, idK, idK_eq, (by decide), ?_⟩
    rw [idK_mg]
    rw [show upd (upd H dn (HO.dK [])) dn (HO.dK idK) = upd H dn (HO.dK idK) from upd_upd]
    have hN : NmD (upd H dn (HO.dK idK)) dn Zn.idn := ⟨idK, upd_same, idK_get⟩
    have s0 := same_new (o := HO.dK idK) ndn
    generalize upd H dn (HO.dK idK) = H0 at hN s0 ⊢
    have hD := hD.mono s0
    dsimp only [L2.start, List.set]
    match p, hD, ok, hw, hd, qq with
    | .tr p q m, hD, ok, hw, hd, qq =>
      rw [DtAt] at hD
      have hT : SqT K H0 a _ := SqT.of hD
      rw [Pk.Ok] at ok
      have g1 := hN.get ok.1
      have g2 := hN.get ok.2.1
      walk_at "go"
      refine ⟨dn, _, rfl, g1, ?_⟩
      walk_at "go"
      refine ⟨dn, _, rfl, g2, ?_⟩
      walk_at "go"
      refine ite2 (fun e => ?_) (fun e => ?_)
      · walk_at "go"
        intro x nx
        refine qq x _ (s0.trans (same_new nx)) ?_
        rw [Zn.idP, if_pos (eqS_t e), DtAt]
        exact nwT_of upd_same (.inr ⟨_, rfl⟩)
      · walk_at "go"
        refine ⟨dn, _, rfl, g1, ?_⟩
        walk_at "go"
        refine ⟨dn, _, rfl, g2, ?_⟩
        walk_at "go"
        intro x nx
        refine qq x _ (s0.trans (same_new nx)) ?_
        rw [Zn.idP, if_neg (eqS_f e), DtAt]
        exact nwT_of upd_same (.inr ⟨_, rfl⟩)
    | .ev c, hD, ok, hw, hd, qq =>
      rw [DtAt] at hD
      have hT : SqT K H0 a _ := SqT.of hD
      walk_at "go"
      refine qq a _ s0 ?_
      rw [Zn.idP, DtAt]
      exact nwT_of hD (.inr ⟨_, rfl⟩)
    | .ch o os, hD, ok, hw, hd, qq =>
      rw [DtAt] at hD
      obtain ⟨L, as, hD, hL, hA⟩ := hD
      have hT : SqT K H0 a _ := SqT.of hD
      have okk := ok
      rw [Pk.Ok] at okk
      walk_at "go"
      refine ⟨⟨_, SqL.of hL⟩, ?_⟩
      intro D nD
      have la := DasAt.len _ _ hA
      rw [wt] at hw
      rw [dp] at hd
      refine lc_rnT (fun i J y => ∃ x b, y = .ref x ∧ os[i]? = some b ∧ DaAt J (Zn.idL b) x) (fun i X Y y s h => ?_) (SqL.of hL) (by rw [List.length_map]; omega) nD (fun x => rfl) (fun i x J Q4 ex s4 q4 => ?_) (fun J ys s4 eD ly hG => ?_)
      · obtain ⟨x, b, h1, h2, h3⟩ := h
        exact ⟨x, b, h1, h2, h3.mono s⟩
      · obtain ⟨y, b, rfl, ep, hp⟩ := DasAt.gets _ _ hA i x ex
        have pm := List.mem_of_getElem? ep
        have := wtLL_mem pm
        have := dpLL_mem pm
        walk_at "go"
        exact ⟨y, b, rfl, hp.mono s4, okLL_iff.mp okk.2.2.2 b pm, by omega, by omega, fun z J2 s2 _ hz => q4 _ _ s2 ⟨z, b, rfl, ep, hz⟩⟩
      obtain ⟨bs, rfl⟩ := refs_of ys fun i y e => by
        obtain ⟨x, p, h1, _⟩ := hG i y e
        exact ⟨x, h1⟩
      rw [List.length_map, List.length_map, la] at ly
      walk_at "go"
      intro x nx
      have s1 := same_new (o := HO.tup [V.str (Str.ofString "choice"), V.str (S [o]), V.ref D]) nx
      refine qq x _ ((s0.trans s4).trans s1) ?_
      rw [Zn.idP, DtAt]
      refine ⟨D, bs, nwT_of upd_same (.inr ⟨_, rfl⟩), nwT_of (s1 _ _ eD) (.inl (Same.back s0 nD)), ?_⟩
      rw [Zn.idLL_map]
      refine dasAt_of _ _ (by rw [List.length_map]; exact ly) fun i b a ep ea => ?_
      obtain ⟨z, b2, h1, h2, h3⟩ := hG i (.ref a) (by rw [List.getElem?_map, ea]; rfl)
      cases h1
      rw [List.getElem?_map, h2] at ep
      cases ep
      exact (h3.mono nwTD_nwT).mono (nwT_grow s0 s1)
    | .rd o b, hD, ok, hw, hd, qq =>
      rw [DtAt] at hD
      obtain ⟨L, as, hD, hL, hA⟩ := hD
      have hT : SqT K H0 a _ := SqT.of hD
      rw [Pk.Ok] at ok
      rw [wt] at hw
      rw [dp] at hd
      walk_at "go"
      refine ⟨L, b, rfl, ⟨as, hL, hA⟩, ok.2, by omega, by omega, fun x H1 s1 nx hx => ?_⟩
      obtain ⟨bs, e1, e2⟩ := hx
      walk_at "go"
      intro y ny
      have s2 := same_new (o := HO.tup [V.str (Str.ofString "rounds"), V.str (S [o]), V.ref x]) ny
      refine qq y _ ((s0.trans s1).trans s2) ?_
      rw [Zn.idP, DtAt]
      exact ⟨x, bs, nwT_of upd_same (.inr ⟨_, rfl⟩), nwT_grow s0 s2 _ _ e1, e2.mono (nwT_grow s0 s2)⟩
    | .en b, hD, ok, hw, hd, qq =>
      rw [DtAt] at hD
      obtain ⟨L, as, hD, hL, hA⟩ := hD
      have hT : SqT K H0 a _ := SqT.of hD
      rw [Pk.Ok] at ok
      rw [wt] at hw
      rw [dp] at hd
      walk_at "go"
      refine ⟨L, b, rfl, ⟨as, hL, hA⟩, ok, by omega, by omega, fun x H1 s1 nx hx => ?_⟩
      obtain ⟨bs, e1, e2⟩ := hx
      walk_at "go"
      intro y ny
      have s2 := same_new (o := HO.tup [V.str (Str.ofString "endless"), V.ref x]) ny
      refine qq y _ ((s0.trans s1).trans s2) ?_
      rw [Zn.idP, DtAt]
      exact ⟨x, bs, nwT_of upd_same (.inr ⟨_, rfl⟩), nwT_grow s0 s2 _ _ e1, e2.mono (nwT_grow s0 s2)⟩
    | .ti c b, hD, ok, hw, hd, qq =>
      rw [DtAt] at hD
      obtain ⟨L, as, hD, hL, hA⟩ := hD
      have hT : SqT K H0 a _ := SqT.of hD
      rw [Pk.Ok] at ok
      rw [wt] at hw
      rw [dp] at hd
      have h4 : wtL b ≤ wtL b * (if c < 1 then 1 else c) := Nat.le_mul_of_pos_right _ (by split <;> omega)
      walk_at "go"
      refine ⟨L, b, rfl, ⟨as, hL, hA⟩, ok.2, by omega, by omega, fun x H1 s1 nx hx => ?_⟩
      obtain ⟨bs, e1, e2⟩ := hx
      walk_at "go"
      intro y ny
      have s2 := same_new (o := HO.tup [V.str (Str.ofString "times"), V.int (c : Int), V.ref x]) ny
      refine qq y _ ((s0.trans s1).trans s2) ?_
      rw [Zn.idP, DtAt]
      exact ⟨x, bs, nwT_of upd_same (.inr ⟨_, rfl⟩), nwT_grow s0 s2 _ _ e1, e2.mono (nwT_grow s0 s2)⟩
end
end Z
set_option pp.maxSteps 700
set_option Elab.async false
set_option linter.all false
set_option maxRecDepth 100000
set_option maxHeartbeats 4000000
open SX (S S_inj S_len S_cat)
namespace Z
open Pk NdefX
theorem wt_ch2 (o : Nat) (l m : List Pt) : wt (.ch o [l, m]) = 1 + (wtL l + wtL m) := by rw [wt, wtLL, wtLL, wtLL, Nat.add_zero]
theorem dp_ch2 (o : Nat) (l m : List Pt) : dp (.ch o [l, m]) = 1 + max (dpL l) (dpL m) := by rw [dp, dpLL, dpLL, dpLL, Nat.max_zero]
theorem wt_rd (o : Nat) (l : List Pt) : wt (.rd o l) = wtL l + 1 := by rw [wt]
theorem dp_rd (o : Nat) (l : List Pt) : dp (.rd o l) = dpL l + 1 := by rw [dp]
theorem wt_en (l : List Pt) : wt (.en l) = wtL l + 1 := by rw [wt]
theorem dp_en (l : List Pt) : dp (.en l) = dpL l + 1 := by rw [dp]
theorem wt_tr (p q m : Nat) : wt (.tr p q m) = 1 := by rw [wt]
theorem dp_tr (p q m : Nat) : dp (.tr p q m) = 1 := by rw [dp]
theorem wtL0 : wtL [] = 0 := by rw [wtL]
theorem dpL0 : dpL [] = 0 := by rw [dpL]
theorem wtLc (p : Pt) (l : List Pt) : wtL (p :: l) = wt p + wtL l := by rw [wtL]
theorem dpLc (p : Pt) (l : List Pt) : dpL (p :: l) = max (dp p) (dpL l) := by rw [dpL]
open PySem PySem.Spec PyProof.Rows L2
open C8 (pss_cut tCut)
local macro_rules | `(tactic| walk_at "num") => `(tactic| first | rfl | omega | decide | exact Nat.le_of_lt (small1000 (by simp)) | exact ⟨by omega, by omega⟩ | exact ⟨by omega, by omega, by omega⟩ | exact ⟨by decide, by decide, by decide⟩ | exact Or.inl ⟨by omega, by omega⟩ | exact Or.inr ⟨by omega, by omega⟩)
local macro_rules | `(tactic| walk_at "go") => `(tactic| repeat (first | refine ⟨_, rfl, ?_⟩ | refine ⟨_, _, rfl, rfl, ?_⟩ | refine ⟨_, _, rfl, ?_⟩ | (refine ⟨_, _, rfl, rfl, ?_, ?_⟩; focus walk_at "num") | refine Or.inl ⟨_, rfl, ?_⟩ | refine ⟨_, _, _, _, rfl, rfl, (by assumption), (by rfl), ?_⟩ | refine ⟨_, _, _, _, _, rfl, (by assumption), (by assumption), (by assumption), (by rfl), ?_⟩ | refine ⟨rfl, ?_⟩ | (refine And.intro ?_ ?_; focus walk_at "num")))
local macro_rules | `(tactic| walk_at "wd") => `(tactic| first | omega | (simp only [wtL_app, dpL_app, wtL0, dpL0, wtLc, dpLc, wt_ch2, dp_ch2, wt_rd, dp_rd, wt_en, dp_en, wt_tr, dp_tr]; omega))
abbrev s_wrapped : Stmt := topS 73
abbrev N_wrapped : List Str := ["_law_p", "_law_q", "_law_party", "_law_rival", "_law_one", "_law_other", "_law_mine", "_law_theirs"]
abbrev P_wrapped : List Str := ["_law_p", "_law_q", "_law_party", "_law_rival"]
theorem sc_wrapped : FnScope N_wrapped P_wrapped (defScope s_wrapped) := ⟨rfl, rfl, rfl, by decide +kernel, rfl, by decide +kernel, by decide +kernel⟩
abbrev s_unrolled : Stmt := topS 74
abbrev N_unrolled : List Str := ["_law_p", "_law_party", "_law_rival", "_law_owner", "_law_rounds", "_law_once", "_law_endless"]
abbrev P_unrolled : List Str := ["_law_p", "_law_party", "_law_rival"]
theorem sc_unrolled : FnScope N_unrolled P_unrolled (defScope s_unrolled) := ⟨rfl, rfl, rfl, by decide +kernel, rfl, by decide +kernel, by decide +kernel⟩
abbrev s_paid : Stmt := topS 75
abbrev N_paid : List Str := ["_law_p", "_law_party", "_law_rival", "_law_amount_here", "_law_one", "_law_more", "_law_less"]
abbrev P_paid : List Str := ["_law_p", "_law_party", "_law_rival", "_law_amount_here"]
theorem sc_paid : FnScope N_paid P_paid (defScope s_paid) := ⟨rfl, rfl, rfl, by decide +kernel, rfl, by decide +kernel, by decide +kernel⟩
section
variable {P : Program} {w : World} {K : PySem.W.Frag} {mg : Str → Option Value} {base : Heap} {f C CP CB : Addr} {k : Cs} {fd : FuncData}
theorem pas2 {H : Hp} {l m : List Pt} {a b : Addr} (ha : PaAt k K H l a) (hb : PaAt k K H m b) : PasAt k K H [l, m] [a, b] := by
  rw [PasAt]
  refine ⟨a, [b], rfl, ha, ?_⟩
  rw [PasAt]
  exact ⟨b, [], rfl, hb, by rw [PasAt]⟩
theorem ok_ch2 {o : Nat} {l m : List Pt} (ho : o ∈ PAR) (okl : OkL l) (okm : OkL m) : Pk.Ok (.ch o [l, m]) := by
  rw [Pk.Ok, OkLL, OkLL, OkLL]
  exact ⟨ho, Nat.le_refl 2, (show 2 ≤ 6 by decide), okl, okm, trivial⟩
theorem ok_rd {o : Nat} {l : List Pt} (ho : o ∈ PAR) (okl : OkL l) : Pk.Ok (.rd o l) := by rw [Pk.Ok]; exact ⟨ho, okl⟩
theorem ok_en {l : List Pt} (okl : OkL l) : Pk.Ok (.en l) := by rw [Pk.Ok]; exact okl
theorem okLc {p : Pt} {l : List Pt} (h : Pk.Ok p) (okl : OkL l) : OkL (p :: l) := by rw [OkL]; exact ⟨h, okl⟩
theorem rd_mine {y : Nat} {a : Zn.Nn} : Zn.rdN y y a = Zn.mineP a.2.2 (Zn.pt 1 a.1 a.2.1) := by
  unfold Zn.rdN
  rw [if_pos rfl]
theorem rd_theirs {y z : Nat} {a : Zn.Nn} (h : ¬ z = y) : Zn.rdN y z a = Zn.theirsP (Zn.pt 0 a.1 a.2.1) := by
  unfold Zn.rdN
  rw [if_neg h]
theorem two_of {y z : Nat} (hy : y ∈ PAR) (hz : z ∈ PAR) {i : Nat} {x : V} (h : [V.str (S [y]), V.str (S [z])][i]? = some x) : ∃ o, o ∈ PAR ∧ x = V.str (S [o]) := by
  match i, h with
  | 0, h => cases h; exact ⟨y, hy, rfl⟩
  | 1, h => cases h; exact ⟨z, hz, rfl⟩
theorem RL_rd_ex {y o : Nat} {l : List Pt} {t : Zn.Nn} (h : Zn.RL y [.rd o l] t) : ∃ a, Zn.RL y l a := by
  have h := Zn.RL1 h
  rw [Zn.R] at h
  obtain ⟨a, h, _⟩ := h
  exact ⟨a, h⟩
theorem RL_en_ex {y : Nat} {l : List Pt} {t : Zn.Nn} (h : Zn.RL y [.en l] t) : ∃ a, Zn.RL y l a := by
  have h := Zn.RL1 h
  rw [Zn.R] at h
  obtain ⟨a, h, _⟩ := h
  exact ⟨a, h⟩
theorem eq_tup0 : PyData.eqv (.tuple []) (.tuple []) = true := rfl
def spWr (k : Cs) (K : PySem.W.Frag) : Sp := fun vs H Q _ => ∃ (p q : Addr) (l m : List Pt) (y z : Nat), vs = [.ref p, .ref q, .str (S [y]), .str (S [z])] ∧ PaAt k K H l p ∧ PaAt k K H m q ∧ OkL l ∧ OkL m ∧ wtL l ≤ 40 ∧ wtL m ≤ 40 ∧ dpL l ≤ 4 ∧ dpL m ≤ 4 ∧ y ∈ PAR ∧ z ∈ PAR ∧ y ≠ z ∧ ∀ H', Same H H' → Q (.bl true) H'
theorem ok_wrapped (F : FnP K "_law_wrapped" s_wrapped f fd) (pa : PtA K k) (y_Pact : MakY P w K mg base 4 "Pact" (spP k K)) (y_Choice : MakY P w K mg base 5 "Choice" (spC k K)) (y_Rounds : MakY P w K mg base 5 "Rounds" (spR k K)) (y_Endless : MakY P w K mg base 5 "Endless" (spN k K)) (o_or : Bin2 P w K mg base 4 C "__or__" (Zn.spMM true C K)) (o_and : Bin2 P w K mg base 4 C "__and__" (Zn.spMM false C K)) (me_endless : Met P w K mg base 4 C "endless" (Zn.spEndless C K)) (me_mine : Met P w K mg base 4 C "mine" (Zn.spMine C K)) (me_theirs : Met P w K mg base 4 C "theirs" (Zn.spTheirs C K)) (me_excess : Met P w K mg base 3 C "excess" (Zn.spExcess C K)) (c_same : Cal P w K mg base 3 "_law_same" (spSame C K)) (c_need_of : CalX P w K mg base (3 * 31 + 5) "need_of" (spNo C CP k K 31)) : FnOk P w K mg base CX0 99 f fd P_wrapped (spWr k K) := by
  refine F.ok sc_wrapped (fun vs H Q E h => ?_) (fun cdv A outer s H vs Q E hr h => ?_)
  · obtain ⟨p, q, l, m, y, z, rfl, _⟩ := h
    rfl
  · obtain ⟨p, q, l, m, y, z, rfl, hp, hq, okl, okm, wl, wm, dl, dm, hy, hz, ne, qq⟩ := h
    refine ⟨_, PSs.nox (pss_cons (ps_set (i := 4) sc_wrapped.nd rfl (by first | exact .inl rfl | exact .inr rfl) (pe_clE c_need_of (fun _ => passS0) hr (by decide) (by rfl) (pa_cons (pv 0) (pa_cons (pv 2) pa_nil))))
      (pss_cons (ps_set (i := 5) sc_wrapped.nd rfl (by first | exact .inl rfl | exact .inr rfl) (pe_clE c_need_of (fun _ => passS0) hr (by decide) (by rfl) (pa_cons (pv 1) (pa_cons (pv 2) pa_nil))))
      (pss_cons (ps_set (i := 6) sc_wrapped.nd rfl (by first | exact .inl rfl | exact .inr rfl) (pe_clE c_need_of (fun _ => passS0) hr (by decide) (by rfl) (pa_cons (pe_mkY y_Pact (fun _ => passS0) hr (by decide) (by rfl) (pa_cons (pe_lst (pa_cons (pe_mkY y_Choice (fun _ => passS0) hr (by decide) (by rfl) (pa_cons (pv 2) (pa_cons (pe_lst (pa_cons (pv 0) (pa_cons (pv 1) pa_nil))) pa_nil))) pa_nil)) pa_nil)) (pa_cons (pv 2) pa_nil))))
      (pss_cons (ps_set (i := 7) sc_wrapped.nd rfl (by first | exact .inl rfl | exact .inr rfl) (pe_clE c_need_of (fun _ => passS0) hr (by decide) (by rfl) (pa_cons (pe_mkY y_Pact (fun _ => passS0) hr (by decide) (by rfl) (pa_cons (pe_lst (pa_cons (pe_mkY y_Choice (fun _ => passS0) hr (by decide) (by rfl) (pa_cons (pv 3) (pa_cons (pe_lst (pa_cons (pv 0) (pa_cons (pv 1) pa_nil))) pa_nil))) pa_nil)) pa_nil)) (pa_cons (pv 2) pa_nil))))
      (pss_cons (ps_if (PW.pt (pw_or (pt_not (pt_val (pe_cl c_same hr (by decide) (by rfl) (pa_cons (pv 6) (pa_cons (pe_op (op_bin o_or hr (by decide)) (pv 4) (pv 5)) pa_nil))))) (pw_or1 (pt_not (pt_val (pe_cl c_same hr (by decide) (by rfl) (pa_cons (pv 7) (pa_cons (pe_op (op_bin o_and hr (by decide)) (pv 4) (pv 5)) pa_nil)))))))) (pss_one (ps_ret pe_bl)) pss_nil)
      (pss_cons (ps_if (PW.pt (pw_or (pt_cmpR (op_neD hr.units) (pe_me me_excess (pv 6) hr (by decide) (pa_cons (pv 4) pa_nil)) (pe_tup pa_nil) (nomark _)) (pw_or (pt_cmpR (op_neD hr.units) (pe_me me_excess (pv 6) hr (by decide) (pa_cons (pv 5) pa_nil)) (pe_tup pa_nil) (nomark _)) (pw_or (pt_cmpR (op_neD hr.units) (pe_me me_excess (pv 4) hr (by decide) (pa_cons (pv 7) pa_nil)) (pe_tup pa_nil) (nomark _)) (pw_or1 (pt_cmpR (op_neD hr.units) (pe_me me_excess (pv 5) hr (by decide) (pa_cons (pv 7) pa_nil)) (pe_tup pa_nil) (nomark _))))))) (pss_one (ps_ret pe_bl)) pss_nil)
      (pss_cons (ps_if (pt_not (pt_val (pe_cl c_same hr (by decide) (by rfl) (pa_cons (pe_clE c_need_of (fun _ => passS0) hr (by decide) (by rfl) (pa_cons (pe_mkY y_Pact (fun _ => passS0) hr (by decide) (by rfl) (pa_cons (pe_lst (pa_cons (pe_mkY y_Rounds (fun _ => passS0) hr (by decide) (by rfl) (pa_cons (pv 2) (pa_cons (pv 0) pa_nil))) pa_nil)) pa_nil)) (pa_cons (pv 2) pa_nil))) (pa_cons (pe_me0 me_mine (pv 4) hr (by decide)) pa_nil))))) (pss_one (ps_ret pe_bl)) pss_nil)
      (pss_cons (ps_if (pt_not (pt_val (pe_cl c_same hr (by decide) (by rfl) (pa_cons (pe_clE c_need_of (fun _ => passS0) hr (by decide) (by rfl) (pa_cons (pe_mkY y_Pact (fun _ => passS0) hr (by decide) (by rfl) (pa_cons (pe_lst (pa_cons (pe_mkY y_Rounds (fun _ => passS0) hr (by decide) (by rfl) (pa_cons (pv 3) (pa_cons (pv 0) pa_nil))) pa_nil)) pa_nil)) (pa_cons (pv 2) pa_nil))) (pa_cons (pe_me0 me_theirs (pv 4) hr (by decide)) pa_nil))))) (pss_one (ps_ret pe_bl)) pss_nil)
      (pss_one (ps_ret (pe_cl c_same hr (by decide) (by rfl) (pa_cons (pe_clE c_need_of (fun _ => passS0) hr (by decide) (by rfl) (pa_cons (pe_mkY y_Pact (fun _ => passS0) hr (by decide) (by rfl) (pa_cons (pe_lst (pa_cons (pe_mkY y_Endless (fun _ => passS0) hr (by decide) (by rfl) (pa_cons (pv 0) pa_nil)) pa_nil)) pa_nil)) (pa_cons (pv 2) pa_nil))) (pa_cons (pe_me0 me_endless (pv 4) hr (by decide)) pa_nil))))))))))))), ?_⟩
    have s0 : Same H H := Same.refl H
    walk_at "go"
    refine ⟨p, _, [y], rfl, (show 1 ≤ 10000 by decide), hp, okl, by walk_at "wd", by walk_at "wd", .inl ⟨y, rfl, hy, fun n1 H21 a s21 hn1 ra => ?_⟩⟩
    replace hp := hp.mono s21
    replace hq := hq.mono s21
    replace s0 := s0.trans s21
    clear s21
    walk_at "go"
    have oa := Zn.RL.ok y _ _ ra
    have la := Nat.le_trans (rl_400 okl (by walk_at "wd") ra) (show 2400 ≤ 20000 by decide)
    refine ⟨q, _, [y], rfl, (show 1 ≤ 10000 by decide), hq, okm, by walk_at "wd", by walk_at "wd", .inl ⟨y, rfl, hy, fun n2 H22 b s22 hn2 rb => ?_⟩⟩
    replace hp := hp.mono s22
    replace hq := hq.mono s22
    replace hn1 := hn1.mono s22
    replace s0 := s0.trans s22
    clear s22
    walk_at "go"
    have ob := Zn.RL.ok y _ _ rb
    have lb := Nat.le_trans (rl_400 okm (by walk_at "wd") rb) (show 2400 ≤ 20000 by decide)
    intro L nL
    generalize eH_ : upd H22 L _ = H23
    have s23 : Same H22 H23 := by rw [← eH_]; exact same_new nL
    have eL : H23 L = some (.lst ([p, q].map V.ref)) := by rw [← eH_]; exact upd_same
    clear eH_
    replace hp := hp.mono s23
    replace hq := hq.mono s23
    replace hn1 := hn1.mono s23
    replace hn2 := hn2.mono s23
    replace s0 := s0.trans s23
    clear s23
    clear nL
    walk_at "go"
    refine ⟨true, L, y, [l, m], [p, q], rfl, ok_ch2 hy okl okm, SqL.of eL, pas2 hp hq, by walk_at "wd", by walk_at "wd", fun x H24 s24 _ hx => ?_⟩
    clear eL
    replace hp := hp.mono s24
    replace hq := hq.mono s24
    replace hn1 := hn1.mono s24
    replace hn2 := hn2.mono s24
    replace s0 := s0.trans s24
    clear s24
    walk_at "go"
    intro L nL
    generalize eH_ : upd H24 L _ = H25
    have s25 : Same H24 H25 := by rw [← eH_]; exact same_new nL
    have eL : H25 L = some (.lst ([x].map V.ref)) := by rw [← eH_]; exact upd_same
    clear eH_
    replace hp := hp.mono s25
    replace hq := hq.mono s25
    replace hn1 := hn1.mono s25
    replace hn2 := hn2.mono s25
    replace hx := hx.mono s25
    replace s0 := s0.trans s25
    clear s25
    clear nL
    walk_at "go"
    refine ⟨true, L, [.ch y [l, m]], [x], rfl, okL1 (ok_ch2 hy okl okm), SqL.of eL, ptsAt1 hx, by walk_at "wd", by walk_at "wd", fun z1 H26 s26 _ hz1 => ?_⟩
    clear eL
    replace hp := hp.mono s26
    replace hq := hq.mono s26
    replace hn1 := hn1.mono s26
    replace hn2 := hn2.mono s26
    replace hx := hx.mono s26
    replace s0 := s0.trans s26
    clear s26
    clear hx
    walk_at "go"
    refine ⟨z1, _, [y], rfl, (show 1 ≤ 10000 by decide), hz1, (okL1 (ok_ch2 hy okl okm)), by walk_at "wd", by walk_at "wd", .inl ⟨y, rfl, hy, fun n3 H27 c s27 hn3 rc => ?_⟩⟩
    replace hp := hp.mono s27
    replace hq := hq.mono s27
    replace hn1 := hn1.mono s27
    replace hn2 := hn2.mono s27
    replace hz1 := hz1.mono s27
    replace s0 := s0.trans s27
    clear s27
    walk_at "go"
    have oc := Zn.RL.ok y _ _ rc
    have lc := Nat.le_trans (rl_400 (okL1 (ok_ch2 hy okl okm)) (by walk_at "wd") rc) (show 2400 ≤ 20000 by decide)
    clear hz1
    dsimp only [List.set]
    intro L nL
    generalize eH_ : upd H27 L _ = H28
    have s28 : Same H27 H28 := by rw [← eH_]; exact same_new nL
    have eL : H28 L = some (.lst ([p, q].map V.ref)) := by rw [← eH_]; exact upd_same
    clear eH_
    replace hp := hp.mono s28
    replace hq := hq.mono s28
    replace hn1 := hn1.mono s28
    replace hn2 := hn2.mono s28
    replace hn3 := hn3.mono s28
    replace s0 := s0.trans s28
    clear s28
    clear nL
    walk_at "go"
    refine ⟨true, L, z, [l, m], [p, q], rfl, ok_ch2 hz okl okm, SqL.of eL, pas2 hp hq, by walk_at "wd", by walk_at "wd", fun x H29 s29 _ hx => ?_⟩
    clear eL
    replace hp := hp.mono s29
    replace hq := hq.mono s29
    replace hn1 := hn1.mono s29
    replace hn2 := hn2.mono s29
    replace hn3 := hn3.mono s29
    replace s0 := s0.trans s29
    clear s29
    walk_at "go"
    intro L nL
    generalize eH_ : upd H29 L _ = H30
    have s30 : Same H29 H30 := by rw [← eH_]; exact same_new nL
    have eL : H30 L = some (.lst ([x].map V.ref)) := by rw [← eH_]; exact upd_same
    clear eH_
    replace hp := hp.mono s30
    replace hq := hq.mono s30
    replace hn1 := hn1.mono s30
    replace hn2 := hn2.mono s30
    replace hn3 := hn3.mono s30
    replace hx := hx.mono s30
    replace s0 := s0.trans s30
    clear s30
    clear nL
    walk_at "go"
    refine ⟨true, L, [.ch z [l, m]], [x], rfl, okL1 (ok_ch2 hz okl okm), SqL.of eL, ptsAt1 hx, by walk_at "wd", by walk_at "wd", fun z2 H31 s31 _ hz2 => ?_⟩
    clear eL
    replace hp := hp.mono s31
    replace hq := hq.mono s31
    replace hn1 := hn1.mono s31
    replace hn2 := hn2.mono s31
    replace hn3 := hn3.mono s31
    replace hx := hx.mono s31
    replace s0 := s0.trans s31
    clear s31
    clear hx
    walk_at "go"
    refine ⟨z2, _, [y], rfl, (show 1 ≤ 10000 by decide), hz2, (okL1 (ok_ch2 hz okl okm)), by walk_at "wd", by walk_at "wd", .inl ⟨y, rfl, hy, fun n4 H32 d s32 hn4 rd => ?_⟩⟩
    replace hp := hp.mono s32
    replace hq := hq.mono s32
    replace hn1 := hn1.mono s32
    replace hn2 := hn2.mono s32
    replace hn3 := hn3.mono s32
    replace hz2 := hz2.mono s32
    replace s0 := s0.trans s32
    clear s32
    walk_at "go"
    have od := Zn.RL.ok y _ _ rd
    have ld := Nat.le_trans (rl_400 (okL1 (ok_ch2 hz okl okm)) (by walk_at "wd") rd) (show 2400 ≤ 20000 by decide)
    clear hz2
    dsimp only [List.set]
    have e1 := Zn.RC_two ra rb (Zn.RL1 rc)
    rw [decide_eq_true (show y = y from rfl)] at e1
    have e2 := Zn.RC_two ra rb (Zn.RL1 rd)
    rw [decide_eq_false (show ¬ z = y from fun e => ne e.symm)] at e2
    refine rd_mm hn1 hn2 oa ob la lb fun n5 H33 v s33 hn5 cv => ?_
    replace hp := hp.mono s33
    replace hq := hq.mono s33
    replace hn1 := hn1.mono s33
    replace hn2 := hn2.mono s33
    replace hn3 := hn3.mono s33
    replace hn4 := hn4.mono s33
    replace s0 := s0.trans s33
    clear s33
    walk_at "go"
    obtain rfl := e1.uniq cv
    refine ⟨n3, n5, c, rfl, hn3, hn5, fun H34 s34 => ?_⟩
    replace hp := hp.mono s34
    replace hq := hq.mono s34
    replace hn1 := hn1.mono s34
    replace hn2 := hn2.mono s34
    replace hn3 := hn3.mono s34
    replace hn4 := hn4.mono s34
    replace hn5 := hn5.mono s34
    replace s0 := s0.trans s34
    clear s34
    walk_at "go"
    clear hn5
    refine rd_mm hn1 hn2 oa ob la lb fun n5 H35 v s35 hn5 cv => ?_
    replace hp := hp.mono s35
    replace hq := hq.mono s35
    replace hn1 := hn1.mono s35
    replace hn2 := hn2.mono s35
    replace hn3 := hn3.mono s35
    replace hn4 := hn4.mono s35
    replace s0 := s0.trans s35
    clear s35
    walk_at "go"
    obtain rfl := e2.uniq cv
    refine ⟨n4, n5, d, rfl, hn4, hn5, fun H36 s36 => ?_⟩
    replace hp := hp.mono s36
    replace hq := hq.mono s36
    replace hn1 := hn1.mono s36
    replace hn2 := hn2.mono s36
    replace hn3 := hn3.mono s36
    replace hn4 := hn4.mono s36
    replace hn5 := hn5.mono s36
    replace s0 := s0.trans s36
    clear s36
    walk_at "go"
    clear hn5
    obtain ⟨dxe, re, qe, ee, _⟩ := id hn3
    refine ⟨n3, dxe, _, rfl, ee, rfl, ?_⟩
    walk_at "go"
    refine ⟨_, _, _, _, n3, n1, _, _, rfl, hn3, hn1, oc, oa, lc, la, fun T H37 o s37 eT hx => ?_⟩
    clear ee
    obtain rfl := Zn.exc_le oc oa (Zn.le_ch e1).1 hx
    replace hp := hp.mono s37
    replace hq := hq.mono s37
    replace hn1 := hn1.mono s37
    replace hn2 := hn2.mono s37
    replace hn3 := hn3.mono s37
    replace hn4 := hn4.mono s37
    replace s0 := s0.trans s37
    clear s37
    clear hx
    walk_at "go"
    intro em nem
    generalize eH_ : upd H37 em _ = H38
    have s38 : Same H37 H38 := by rw [← eH_]; exact same_new nem
    have eem : H38 em = some (.tup []) := by rw [← eH_]; exact upd_same
    clear eH_
    replace eT := s38 _ _ eT
    replace hp := hp.mono s38
    replace hq := hq.mono s38
    replace hn1 := hn1.mono s38
    replace hn2 := hn2.mono s38
    replace hn3 := hn3.mono s38
    replace hn4 := hn4.mono s38
    replace s0 := s0.trans s38
    clear s38
    walk_at "go"
    refine ⟨.tuple [], .tuple [], dp_sq (b := false) (SqT.of eT) .nil, dp_sq (b := false) (SqT.of eem) .nil, rfl, rfl, ?_⟩
    clear eT eem nem
    rw [show PyData.eqv (.tuple []) (.tuple []) = true from rfl]
    walk_at "go"
    obtain ⟨dxe, re, qe, ee, _⟩ := id hn3
    refine ⟨n3, dxe, _, rfl, ee, rfl, ?_⟩
    walk_at "go"
    refine ⟨_, _, _, _, n3, n2, _, _, rfl, hn3, hn2, oc, ob, lc, lb, fun T H39 o s39 eT hx => ?_⟩
    clear ee
    obtain rfl := Zn.exc_le oc ob (Zn.le_ch e1).2 hx
    replace hp := hp.mono s39
    replace hq := hq.mono s39
    replace hn1 := hn1.mono s39
    replace hn2 := hn2.mono s39
    replace hn3 := hn3.mono s39
    replace hn4 := hn4.mono s39
    replace s0 := s0.trans s39
    clear s39
    clear hx
    walk_at "go"
    intro em nem
    generalize eH_ : upd H39 em _ = H40
    have s40 : Same H39 H40 := by rw [← eH_]; exact same_new nem
    have eem : H40 em = some (.tup []) := by rw [← eH_]; exact upd_same
    clear eH_
    replace eT := s40 _ _ eT
    replace hp := hp.mono s40
    replace hq := hq.mono s40
    replace hn1 := hn1.mono s40
    replace hn2 := hn2.mono s40
    replace hn3 := hn3.mono s40
    replace hn4 := hn4.mono s40
    replace s0 := s0.trans s40
    clear s40
    walk_at "go"
    refine ⟨.tuple [], .tuple [], dp_sq (b := false) (SqT.of eT) .nil, dp_sq (b := false) (SqT.of eem) .nil, rfl, rfl, ?_⟩
    clear eT eem nem
    rw [show PyData.eqv (.tuple []) (.tuple []) = true from rfl]
    walk_at "go"
    obtain ⟨dxe, re, qe, ee, _⟩ := id hn1
    refine ⟨n1, dxe, _, rfl, ee, rfl, ?_⟩
    walk_at "go"
    refine ⟨_, _, _, _, n1, n4, _, _, rfl, hn1, hn4, oa, od, la, ld, fun T H41 o s41 eT hx => ?_⟩
    clear ee
    obtain rfl := Zn.exc_le oa od (Zn.ge_ch e2).1 hx
    replace hp := hp.mono s41
    replace hq := hq.mono s41
    replace hn1 := hn1.mono s41
    replace hn2 := hn2.mono s41
    replace hn3 := hn3.mono s41
    replace hn4 := hn4.mono s41
    replace s0 := s0.trans s41
    clear s41
    clear hx
    walk_at "go"
    intro em nem
    generalize eH_ : upd H41 em _ = H42
    have s42 : Same H41 H42 := by rw [← eH_]; exact same_new nem
    have eem : H42 em = some (.tup []) := by rw [← eH_]; exact upd_same
    clear eH_
    replace eT := s42 _ _ eT
    replace hp := hp.mono s42
    replace hq := hq.mono s42
    replace hn1 := hn1.mono s42
    replace hn2 := hn2.mono s42
    replace hn3 := hn3.mono s42
    replace hn4 := hn4.mono s42
    replace s0 := s0.trans s42
    clear s42
    walk_at "go"
    refine ⟨.tuple [], .tuple [], dp_sq (b := false) (SqT.of eT) .nil, dp_sq (b := false) (SqT.of eem) .nil, rfl, rfl, ?_⟩
    clear eT eem nem
    rw [show PyData.eqv (.tuple []) (.tuple []) = true from rfl]
    walk_at "go"
    obtain ⟨dxe, re, qe, ee, _⟩ := id hn2
    refine ⟨n2, dxe, _, rfl, ee, rfl, ?_⟩
    walk_at "go"
    refine ⟨_, _, _, _, n2, n4, _, _, rfl, hn2, hn4, ob, od, lb, ld, fun T H43 o s43 eT hx => ?_⟩
    clear ee
    obtain rfl := Zn.exc_le ob od (Zn.ge_ch e2).2 hx
    replace hp := hp.mono s43
    replace hq := hq.mono s43
    replace hn1 := hn1.mono s43
    replace hn2 := hn2.mono s43
    replace hn3 := hn3.mono s43
    replace hn4 := hn4.mono s43
    replace s0 := s0.trans s43
    clear s43
    clear hx
    walk_at "go"
    intro em nem
    generalize eH_ : upd H43 em _ = H44
    have s44 : Same H43 H44 := by rw [← eH_]; exact same_new nem
    have eem : H44 em = some (.tup []) := by rw [← eH_]; exact upd_same
    clear eH_
    replace eT := s44 _ _ eT
    replace hp := hp.mono s44
    replace hq := hq.mono s44
    replace hn1 := hn1.mono s44
    replace hn2 := hn2.mono s44
    replace hn3 := hn3.mono s44
    replace hn4 := hn4.mono s44
    replace s0 := s0.trans s44
    clear s44
    walk_at "go"
    refine ⟨.tuple [], .tuple [], dp_sq (b := false) (SqT.of eT) .nil, dp_sq (b := false) (SqT.of eem) .nil, rfl, rfl, ?_⟩
    clear eT eem nem
    rw [show PyData.eqv (.tuple []) (.tuple []) = true from rfl]
    walk_at "go"
    clear hn2
    clear hn3
    clear hn4
    refine ⟨p, y, l, rfl, ok_rd hy okl, hp, by walk_at "wd", by walk_at "wd", fun x H45 s45 _ hx => ?_⟩
    replace hp := hp.mono s45
    replace hq := hq.mono s45
    replace hn1 := hn1.mono s45
    replace s0 := s0.trans s45
    clear s45
    walk_at "go"
    intro L nL
    generalize eH_ : upd H45 L _ = H46
    have s46 : Same H45 H46 := by rw [← eH_]; exact same_new nL
    have eL : H46 L = some (.lst ([x].map V.ref)) := by rw [← eH_]; exact upd_same
    clear eH_
    replace hp := hp.mono s46
    replace hq := hq.mono s46
    replace hn1 := hn1.mono s46
    replace hx := hx.mono s46
    replace s0 := s0.trans s46
    clear s46
    clear nL
    walk_at "go"
    refine ⟨true, L, [.rd y l], [x], rfl, okL1 (ok_rd hy okl), SqL.of eL, ptsAt1 hx, by walk_at "wd", by walk_at "wd", fun z1 H47 s47 _ hz1 => ?_⟩
    clear eL
    replace hp := hp.mono s47
    replace hq := hq.mono s47
    replace hn1 := hn1.mono s47
    replace hx := hx.mono s47
    replace s0 := s0.trans s47
    clear s47
    clear hx
    walk_at "go"
    refine ⟨z1, _, [y], rfl, (show 1 ≤ 10000 by decide), hz1, (okL1 (ok_rd hy okl)), by walk_at "wd", by walk_at "wd", .inl ⟨y, rfl, hy, fun n3 H48 u s48 hn3 ru => ?_⟩⟩
    replace hp := hp.mono s48
    replace hq := hq.mono s48
    replace hn1 := hn1.mono s48
    replace hz1 := hz1.mono s48
    replace s0 := s0.trans s48
    clear s48
    walk_at "go"
    obtain rfl := Zn.R_rd ra (Zn.RL1 ru)
    obtain ⟨dxe, re, qe, ee, _⟩ := id hn1
    refine ⟨n1, dxe, _, rfl, ee, rfl, _, _, n1, _, rfl, hn1, oa, fun n4 H49 s49 hn4 => ?_⟩
    clear ee
    replace hn4 : NdAt C K H49 n4 (Zn.rdN y y a) := by rw [rd_mine]; exact hn4
    replace hp := hp.mono s49
    replace hq := hq.mono s49
    replace hn1 := hn1.mono s49
    replace hz1 := hz1.mono s49
    replace hn3 := hn3.mono s49
    replace s0 := s0.trans s49
    clear s49
    walk_at "go"
    refine ⟨n3, n4, _, rfl, hn3, hn4, fun H50 s50 => ?_⟩
    replace hp := hp.mono s50
    replace hq := hq.mono s50
    replace hn1 := hn1.mono s50
    replace hz1 := hz1.mono s50
    replace hn3 := hn3.mono s50
    replace hn4 := hn4.mono s50
    replace s0 := s0.trans s50
    clear s50
    walk_at "go"
    clear ru
    clear hn3
    clear hn4
    clear hz1
    refine ⟨p, z, l, rfl, ok_rd hz okl, hp, by walk_at "wd", by walk_at "wd", fun x H51 s51 _ hx => ?_⟩
    replace hp := hp.mono s51
    replace hq := hq.mono s51
    replace hn1 := hn1.mono s51
    replace s0 := s0.trans s51
    clear s51
    walk_at "go"
    intro L nL
    generalize eH_ : upd H51 L _ = H52
    have s52 : Same H51 H52 := by rw [← eH_]; exact same_new nL
    have eL : H52 L = some (.lst ([x].map V.ref)) := by rw [← eH_]; exact upd_same
    clear eH_
    replace hp := hp.mono s52
    replace hq := hq.mono s52
    replace hn1 := hn1.mono s52
    replace hx := hx.mono s52
    replace s0 := s0.trans s52
    clear s52
    clear nL
    walk_at "go"
    refine ⟨true, L, [.rd z l], [x], rfl, okL1 (ok_rd hz okl), SqL.of eL, ptsAt1 hx, by walk_at "wd", by walk_at "wd", fun z1 H53 s53 _ hz1 => ?_⟩
    clear eL
    replace hp := hp.mono s53
    replace hq := hq.mono s53
    replace hn1 := hn1.mono s53
    replace hx := hx.mono s53
    replace s0 := s0.trans s53
    clear s53
    clear hx
    walk_at "go"
    refine ⟨z1, _, [y], rfl, (show 1 ≤ 10000 by decide), hz1, (okL1 (ok_rd hz okl)), by walk_at "wd", by walk_at "wd", .inl ⟨y, rfl, hy, fun n3 H54 u s54 hn3 ru => ?_⟩⟩
    replace hp := hp.mono s54
    replace hq := hq.mono s54
    replace hn1 := hn1.mono s54
    replace hz1 := hz1.mono s54
    replace s0 := s0.trans s54
    clear s54
    walk_at "go"
    obtain rfl := Zn.R_rd ra (Zn.RL1 ru)
    obtain ⟨dxe, re, qe, ee, _⟩ := id hn1
    refine ⟨n1, dxe, _, rfl, ee, rfl, _, _, n1, _, rfl, hn1, oa, fun n4 H55 s55 hn4 => ?_⟩
    clear ee
    replace hn4 : NdAt C K H55 n4 (Zn.rdN y z a) := by rw [rd_theirs (fun e => ne e.symm)]; exact hn4
    replace hp := hp.mono s55
    replace hq := hq.mono s55
    replace hn1 := hn1.mono s55
    replace hz1 := hz1.mono s55
    replace hn3 := hn3.mono s55
    replace s0 := s0.trans s55
    clear s55
    walk_at "go"
    refine ⟨n3, n4, _, rfl, hn3, hn4, fun H56 s56 => ?_⟩
    replace hp := hp.mono s56
    replace hq := hq.mono s56
    replace hn1 := hn1.mono s56
    replace hz1 := hz1.mono s56
    replace hn3 := hn3.mono s56
    replace hn4 := hn4.mono s56
    replace s0 := s0.trans s56
    clear s56
    walk_at "go"
    clear ru
    clear hn3
    clear hn4
    clear hz1
    refine ⟨p, l, rfl, ok_en okl, hp, by walk_at "wd", by walk_at "wd", fun x H57 s57 _ hx => ?_⟩
    replace hp := hp.mono s57
    replace hq := hq.mono s57
    replace hn1 := hn1.mono s57
    replace s0 := s0.trans s57
    clear s57
    walk_at "go"
    intro L nL
    generalize eH_ : upd H57 L _ = H58
    have s58 : Same H57 H58 := by rw [← eH_]; exact same_new nL
    have eL : H58 L = some (.lst ([x].map V.ref)) := by rw [← eH_]; exact upd_same
    clear eH_
    replace hp := hp.mono s58
    replace hq := hq.mono s58
    replace hn1 := hn1.mono s58
    replace hx := hx.mono s58
    replace s0 := s0.trans s58
    clear s58
    clear nL
    walk_at "go"
    refine ⟨true, L, [.en l], [x], rfl, okL1 (ok_en okl), SqL.of eL, ptsAt1 hx, by walk_at "wd", by walk_at "wd", fun z1 H59 s59 _ hz1 => ?_⟩
    clear eL
    replace hp := hp.mono s59
    replace hq := hq.mono s59
    replace hn1 := hn1.mono s59
    replace hx := hx.mono s59
    replace s0 := s0.trans s59
    clear s59
    clear hx
    walk_at "go"
    refine ⟨z1, _, [y], rfl, (show 1 ≤ 10000 by decide), hz1, (okL1 (ok_en okl)), by walk_at "wd", by walk_at "wd", .inl ⟨y, rfl, hy, fun n3 H60 u s60 hn3 ru => ?_⟩⟩
    replace hp := hp.mono s60
    replace hq := hq.mono s60
    replace hn1 := hn1.mono s60
    replace hz1 := hz1.mono s60
    replace s0 := s0.trans s60
    clear s60
    walk_at "go"
    obtain rfl := Zn.R_en ra (Zn.RL1 ru)
    obtain ⟨dxe, re, qe, ee, _⟩ := id hn1
    refine ⟨n1, dxe, _, rfl, ee, rfl, _, _, n1, _, rfl, hn1, oa, fun n4 H61 s61 hn4 => ?_⟩
    clear ee
    replace hn4 : NdAt C K H61 n4 (Zn.enN a) := hn4
    replace hp := hp.mono s61
    replace hq := hq.mono s61
    replace hn1 := hn1.mono s61
    replace hz1 := hz1.mono s61
    replace hn3 := hn3.mono s61
    replace s0 := s0.trans s61
    clear s61
    walk_at "go"
    refine ⟨n3, n4, _, rfl, hn3, hn4, fun H62 s62 => ?_⟩
    exact qq _ (s0.trans s62)
def spUr (k : Cs) (K : PySem.W.Frag) : Sp := fun vs H Q _ => ∃ (p : Addr) (l : List Pt) (y z : Nat), vs = [.ref p, .str (S [y]), .str (S [z])] ∧ PaAt k K H l p ∧ OkL l ∧ wtL l ≤ 40 ∧ dpL l ≤ 4 ∧ y ∈ PAR ∧ z ∈ PAR ∧ ∀ H', Same H H' → Q (.bl true) H'
theorem ok_unrolled (F : FnP K "_law_unrolled" s_unrolled f fd) (pa : PtA K k) (y_Pact : MakY P w K mg base 4 "Pact" (spP k K)) (y_Choice : MakY P w K mg base 5 "Choice" (spC k K)) (y_Rounds : MakY P w K mg base 5 "Rounds" (spR k K)) (y_Endless : MakY P w K mg base 5 "Endless" (spN k K)) (o_add : Bin2 P w K mg base 6 k.P "__add__" (spAd k K)) (c_same : Cal P w K mg base 3 "_law_same" (spSame C K)) (c_need_of : CalX P w K mg base (3 * 31 + 5) "need_of" (spNo C CP k K 31)) : FnOk P w K mg base CX0 99 f fd P_unrolled (spUr k K) := by
  refine F.ok sc_unrolled (fun vs H Q E h => ?_) (fun cdv A outer s H vs Q E hr h => ?_)
  · obtain ⟨p, l, y, z, rfl, _⟩ := h
    rfl
  · obtain ⟨p, l, y, z, rfl, hp, okl, wl, dl, hy, hz, qq⟩ := h
    refine ⟨_, PSs.nox (pss_cons (ps_for PassesOwn.never rfl (pi_list (pe_lst (pa_cons (pv 1) (pa_cons (pv 2) pa_nil)))) (pg_name (i := 3) sc_unrolled.nd rfl (by first | exact .inl rfl | exact .inr rfl))
        (pss_cons (ps_set (i := 4) sc_unrolled.nd rfl (by first | exact .inl rfl | exact .inr rfl) (pe_mkY y_Pact (fun _ => passS0) hr (by decide) (by rfl) (pa_cons (pe_lst (pa_cons (pe_mkY y_Rounds (fun _ => passS0) hr (by decide) (by rfl) (pa_cons (pv 3) (pa_cons (pv 0) pa_nil))) pa_nil)) pa_nil)))
      (pss_cons (ps_set (i := 5) sc_unrolled.nd rfl (by first | exact .inl rfl | exact .inr rfl) (pe_mkY y_Pact (fun _ => passS0) hr (by decide) (by rfl) (pa_cons (pe_lst (pa_cons (pe_mkY y_Choice (fun _ => passS0) hr (by decide) (by rfl) (pa_cons (pv 3) (pa_cons (pe_lst (pa_cons (pe_mkY y_Pact (fun _ => passS0) hr (by decide) (by rfl) (pa_cons (pe_lst pa_nil) pa_nil)) (pa_cons (pe_op (op_bin o_add hr (by decide)) (pv 0) (pv 4)) pa_nil))) pa_nil))) pa_nil)) pa_nil)))
      (pss_cons (ps_if (pt_not (pt_val (pe_cl c_same hr (by decide) (by rfl) (pa_cons (pe_clE c_need_of (fun _ => passS0) hr (by decide) (by rfl) (pa_cons (pv 5) (pa_cons (pv 1) pa_nil))) (pa_cons (pe_clE c_need_of (fun _ => passS0) hr (by decide) (by rfl) (pa_cons (pv 4) (pa_cons (pv 1) pa_nil))) pa_nil))))) (pss_one (ps_ret pe_bl)) pss_nil)
      (pss_one (ps_if (pt_not (pt_val (pe_cl c_same hr (by decide) (by rfl) (pa_cons (pe_clE c_need_of (fun _ => passS0) hr (by decide) (by rfl) (pa_cons (pe_mkY y_Pact (fun _ => passS0) hr (by decide) (by rfl) (pa_cons (pe_lst (pa_cons (pe_mkY y_Rounds (fun _ => passS0) hr (by decide) (by rfl) (pa_cons (pv 3) (pa_cons (pv 4) pa_nil))) pa_nil)) pa_nil)) (pa_cons (pv 1) pa_nil))) (pa_cons (pe_clE c_need_of (fun _ => passS0) hr (by decide) (by rfl) (pa_cons (pv 4) (pa_cons (pv 1) pa_nil))) pa_nil))))) (pss_one (ps_ret pe_bl)) pss_nil))))))
      (pss_cons (ps_set (i := 6) sc_unrolled.nd rfl (by first | exact .inl rfl | exact .inr rfl) (pe_mkY y_Pact (fun _ => passS0) hr (by decide) (by rfl) (pa_cons (pe_lst (pa_cons (pe_mkY y_Endless (fun _ => passS0) hr (by decide) (by rfl) (pa_cons (pv 0) pa_nil)) pa_nil)) pa_nil)))
      (pss_one (ps_ret (pe_cl c_same hr (by decide) (by rfl) (pa_cons (pe_clE c_need_of (fun _ => passS0) hr (by decide) (by rfl) (pa_cons (pe_op (op_bin o_add hr (by decide)) (pv 0) (pv 6)) (pa_cons (pv 1) pa_nil))) (pa_cons (pe_clE c_need_of (fun _ => passS0) hr (by decide) (by rfl) (pa_cons (pv 6) (pa_cons (pv 1) pa_nil))) pa_nil))))))), ?_⟩
    have s0 : Same H H := Same.refl H
    walk_at "go"
    intro OL nOL
    generalize eH_ : upd H OL _ = H21
    have s21 : Same H H21 := by rw [← eH_]; exact same_new nOL
    have eOL : H21 OL = some (.lst [V.str (S [y]), V.str (S [z])]) := by rw [← eH_]; exact upd_same
    clear eH_
    replace hp := hp.mono s21
    replace s0 := s0.trans s21
    clear s21
    have hOL : SqL K H21 OL [V.str (S [y]), V.str (S [z])] := SqL.of eOL
    walk_at "go"
    refine ⟨⟨_, hOL⟩, ?_⟩
    refine for_vs hOL (fun i σ J => Same H21 J ∧ ∃ v4 v5 v6 : Option V, σ = [some (.ref p), some (.str (S [y])), some (.str (S [z])), v4, v5, v6, none]) ⟨Same.refl _, _, _, _, rfl⟩ (fun i σ J h => h.1) (fun i x σ J ex hJ => ?_) (fun σ J hJ => ?_)
    · obtain ⟨sJ, v4, v5, v6, rfl⟩ := hJ
      replace hp := hp.mono sJ
      obtain ⟨o, ho, rfl⟩ : ∃ o, o ∈ PAR ∧ x = V.str (S [o]) := two_of hy hz ex
      have s0 := sJ
      walk_at "go"
      refine ⟨p, o, l, rfl, ok_rd ho okl, hp, by walk_at "wd", by walk_at "wd", fun x H21 s21 _ hx => ?_⟩
      replace hp := hp.mono s21
      replace s0 := s0.trans s21
      clear s21
      walk_at "go"
      intro L nL
      generalize eH_ : upd H21 L _ = H22
      have s22 : Same H21 H22 := by rw [← eH_]; exact same_new nL
      have eL : H22 L = some (.lst ([x].map V.ref)) := by rw [← eH_]; exact upd_same
      clear eH_
      replace hp := hp.mono s22
      replace hx := hx.mono s22
      replace s0 := s0.trans s22
      clear s22
      clear nL
      walk_at "go"
      refine ⟨true, L, [.rd o l], [x], rfl, okL1 (ok_rd ho okl), SqL.of eL, ptsAt1 hx, by walk_at "wd", by walk_at "wd", fun r H23 s23 _ hr => ?_⟩
      clear eL
      replace hp := hp.mono s23
      replace hx := hx.mono s23
      replace s0 := s0.trans s23
      clear s23
      clear hx
      walk_at "go"
      intro L nL
      generalize eH_ : upd H23 L _ = H24
      have s24 : Same H23 H24 := by rw [← eH_]; exact same_new nL
      have eL : H24 L = some (.lst []) := by rw [← eH_]; exact upd_same
      clear eH_
      replace hp := hp.mono s24
      replace hr := hr.mono s24
      replace s0 := s0.trans s24
      clear s24
      walk_at "go"
      refine ⟨true, L, [], [], rfl, OkL_nil, SqL.of eL, by rw [PtsAt], by rw [wtL]; decide, by rw [dpL]; decide, fun e H25 s25 _ he => ?_⟩
      clear eL nL
      replace hp := hp.mono s25
      replace hr := hr.mono s25
      replace s0 := s0.trans s25
      clear s25
      walk_at "go"
      refine rd_add hp hr okl (okL1 (ok_rd ho okl)) (by walk_at "wd") (by walk_at "wd") (by walk_at "wd") fun pr H26 s26 hpr => ?_
      replace hp := hp.mono s26
      replace hr := hr.mono s26
      replace he := he.mono s26
      replace s0 := s0.trans s26
      clear s26
      walk_at "go"
      intro L nL
      generalize eH_ : upd H26 L _ = H27
      have s27 : Same H26 H27 := by rw [← eH_]; exact same_new nL
      have eL : H27 L = some (.lst ([e, pr].map V.ref)) := by rw [← eH_]; exact upd_same
      clear eH_
      replace hp := hp.mono s27
      replace hr := hr.mono s27
      replace he := he.mono s27
      replace hpr := hpr.mono s27
      replace s0 := s0.trans s27
      clear s27
      clear nL
      walk_at "go"
      refine ⟨true, L, o, [[], l ++ [.rd o l]], [e, pr], rfl, ok_ch2 ho OkL_nil (Zn.okL_app okl (okL1 (ok_rd ho okl))), SqL.of eL, pas2 he hpr, by walk_at "wd", by walk_at "wd", fun x H28 s28 _ hx => ?_⟩
      clear eL
      replace hp := hp.mono s28
      replace hr := hr.mono s28
      replace he := he.mono s28
      replace hpr := hpr.mono s28
      replace s0 := s0.trans s28
      clear s28
      walk_at "go"
      intro L nL
      generalize eH_ : upd H28 L _ = H29
      have s29 : Same H28 H29 := by rw [← eH_]; exact same_new nL
      have eL : H29 L = some (.lst ([x].map V.ref)) := by rw [← eH_]; exact upd_same
      clear eH_
      replace hp := hp.mono s29
      replace hr := hr.mono s29
      replace he := he.mono s29
      replace hpr := hpr.mono s29
      replace hx := hx.mono s29
      replace s0 := s0.trans s29
      clear s29
      clear nL
      walk_at "go"
      refine ⟨true, L, [.ch o [[], l ++ [.rd o l]]], [x], rfl, okL1 (ok_ch2 ho OkL_nil (Zn.okL_app okl (okL1 (ok_rd ho okl)))), SqL.of eL, ptsAt1 hx, by walk_at "wd", by walk_at "wd", fun c H30 s30 _ hc => ?_⟩
      clear eL
      replace hp := hp.mono s30
      replace hr := hr.mono s30
      replace he := he.mono s30
      replace hpr := hpr.mono s30
      replace hx := hx.mono s30
      replace s0 := s0.trans s30
      clear s30
      clear hx
      walk_at "go"
      dsimp only [List.set]
      walk_at "go"
      refine ⟨c, _, [y], rfl, (show 1 ≤ 10000 by decide), hc, (okL1 (ok_ch2 ho OkL_nil (Zn.okL_app okl (okL1 (ok_rd ho okl))))), by walk_at "wd", by walk_at "wd", .inl ⟨y, rfl, hy, fun n1 H31 u1 s31 hn1 ru1 => ?_⟩⟩
      replace hp := hp.mono s31
      replace hr := hr.mono s31
      replace he := he.mono s31
      replace hpr := hpr.mono s31
      replace hc := hc.mono s31
      replace s0 := s0.trans s31
      clear s31
      walk_at "go"
      refine ⟨r, _, [y], rfl, (show 1 ≤ 10000 by decide), hr, (okL1 (ok_rd ho okl)), by walk_at "wd", by walk_at "wd", .inl ⟨y, rfl, hy, fun n2 H32 u2 s32 hn2 ru2 => ?_⟩⟩
      replace hp := hp.mono s32
      replace hr := hr.mono s32
      replace he := he.mono s32
      replace hpr := hpr.mono s32
      replace hc := hc.mono s32
      replace hn1 := hn1.mono s32
      replace s0 := s0.trans s32
      clear s32
      walk_at "go"
      obtain ⟨a, ra⟩ := RL_rd_ex ru2
      obtain rfl := Zn.un_once ra ru1
      obtain rfl := Zn.R_rd ra (Zn.RL1 ru2)
      refine ⟨n1, n2, _, rfl, hn1, hn2, fun H33 s33 => ?_⟩
      replace hp := hp.mono s33
      replace hr := hr.mono s33
      replace he := he.mono s33
      replace hpr := hpr.mono s33
      replace hc := hc.mono s33
      replace hn1 := hn1.mono s33
      replace hn2 := hn2.mono s33
      replace s0 := s0.trans s33
      clear s33
      walk_at "go"
      clear hn1
      clear hn2
      clear hc
      clear hpr
      clear he
      refine ⟨r, o, [.rd o l], rfl, ok_rd ho (okL1 (ok_rd ho okl)), hr, by walk_at "wd", by walk_at "wd", fun x H34 s34 _ hx => ?_⟩
      replace hp := hp.mono s34
      replace hr := hr.mono s34
      replace s0 := s0.trans s34
      clear s34
      walk_at "go"
      intro L nL
      generalize eH_ : upd H34 L _ = H35
      have s35 : Same H34 H35 := by rw [← eH_]; exact same_new nL
      have eL : H35 L = some (.lst ([x].map V.ref)) := by rw [← eH_]; exact upd_same
      clear eH_
      replace hp := hp.mono s35
      replace hr := hr.mono s35
      replace hx := hx.mono s35
      replace s0 := s0.trans s35
      clear s35
      clear nL
      walk_at "go"
      refine ⟨true, L, [.rd o [.rd o l]], [x], rfl, okL1 (ok_rd ho (okL1 (ok_rd ho okl))), SqL.of eL, ptsAt1 hx, by walk_at "wd", by walk_at "wd", fun c H36 s36 _ hc => ?_⟩
      clear eL
      replace hp := hp.mono s36
      replace hr := hr.mono s36
      replace hx := hx.mono s36
      replace s0 := s0.trans s36
      clear s36
      clear hx
      walk_at "go"
      refine ⟨c, _, [y], rfl, (show 1 ≤ 10000 by decide), hc, (okL1 (ok_rd ho (okL1 (ok_rd ho okl)))), by walk_at "wd", by walk_at "wd", .inl ⟨y, rfl, hy, fun n1 H37 u1 s37 hn1 ru1 => ?_⟩⟩
      replace hp := hp.mono s37
      replace hr := hr.mono s37
      replace hc := hc.mono s37
      replace s0 := s0.trans s37
      clear s37
      walk_at "go"
      refine ⟨r, _, [y], rfl, (show 1 ≤ 10000 by decide), hr, (okL1 (ok_rd ho okl)), by walk_at "wd", by walk_at "wd", .inl ⟨y, rfl, hy, fun n2 H38 u3 s38 hn2 ru3 => ?_⟩⟩
      replace hp := hp.mono s38
      replace hr := hr.mono s38
      replace hc := hc.mono s38
      replace hn1 := hn1.mono s38
      replace s0 := s0.trans s38
      clear s38
      walk_at "go"
      obtain rfl := Zn.un_rdrd ra ru1
      obtain rfl := Zn.R_rd ra (Zn.RL1 ru3)
      refine ⟨n1, n2, _, rfl, hn1, hn2, fun H39 s39 => ?_⟩
      replace hp := hp.mono s39
      replace hr := hr.mono s39
      replace hc := hc.mono s39
      replace hn1 := hn1.mono s39
      replace hn2 := hn2.mono s39
      replace s0 := s0.trans s39
      clear s39
      walk_at "go"
      exact ⟨_, _, _, rfl⟩
    obtain ⟨sJ, v4, v5, v6, rfl⟩ := hJ
    replace hp := hp.mono sJ
    replace s0 := s0.trans sJ
    walk_at "go"
    refine ⟨p, l, rfl, ok_en okl, hp, by walk_at "wd", by walk_at "wd", fun x H22 s22 _ hx => ?_⟩
    replace hp := hp.mono s22
    replace s0 := s0.trans s22
    clear s22
    walk_at "go"
    intro L nL
    generalize eH_ : upd H22 L _ = H23
    have s23 : Same H22 H23 := by rw [← eH_]; exact same_new nL
    have eL : H23 L = some (.lst ([x].map V.ref)) := by rw [← eH_]; exact upd_same
    clear eH_
    replace hp := hp.mono s23
    replace hx := hx.mono s23
    replace s0 := s0.trans s23
    clear s23
    clear nL
    walk_at "go"
    refine ⟨true, L, [.en l], [x], rfl, okL1 (ok_en okl), SqL.of eL, ptsAt1 hx, by walk_at "wd", by walk_at "wd", fun r H24 s24 _ hr => ?_⟩
    clear eL
    replace hp := hp.mono s24
    replace hx := hx.mono s24
    replace s0 := s0.trans s24
    clear s24
    clear hx
    walk_at "go"
    refine rd_add hp hr okl (okL1 (ok_en okl)) (by walk_at "wd") (by walk_at "wd") (by walk_at "wd") fun pr H25 s25 hpr => ?_
    replace hp := hp.mono s25
    replace hr := hr.mono s25
    replace s0 := s0.trans s25
    clear s25
    walk_at "go"
    refine ⟨pr, _, [y], rfl, (show 1 ≤ 10000 by decide), hpr, (Zn.okL_app okl (okL1 (ok_en okl))), by walk_at "wd", by walk_at "wd", .inl ⟨y, rfl, hy, fun n1 H26 u1 s26 hn1 ru1 => ?_⟩⟩
    replace hp := hp.mono s26
    replace hr := hr.mono s26
    replace hpr := hpr.mono s26
    replace s0 := s0.trans s26
    clear s26
    walk_at "go"
    refine ⟨r, _, [y], rfl, (show 1 ≤ 10000 by decide), hr, (okL1 (ok_en okl)), by walk_at "wd", by walk_at "wd", .inl ⟨y, rfl, hy, fun n2 H27 u2 s27 hn2 ru2 => ?_⟩⟩
    replace hp := hp.mono s27
    replace hr := hr.mono s27
    replace hpr := hpr.mono s27
    replace hn1 := hn1.mono s27
    replace s0 := s0.trans s27
    clear s27
    walk_at "go"
    obtain ⟨a, ra⟩ := RL_en_ex ru2
    obtain rfl := Zn.un_en ra ru1
    obtain rfl := Zn.R_en ra (Zn.RL1 ru2)
    refine ⟨n1, n2, _, rfl, hn1, hn2, fun H28 s28 => ?_⟩
    exact qq _ (s0.trans s28)
def spPd (k : Cs) (K : PySem.W.Frag) : Sp := fun vs H Q _ => ∃ (p : Addr) (l : List Pt) (y z m : Nat), vs = [.ref p, .str (S [y]), .str (S [z]), .int (m : Int)] ∧ PaAt k K H l p ∧ OkL l ∧ wtL l ≤ 40 ∧ dpL l ≤ 4 ∧ y ∈ PAR ∧ z ∈ PAR ∧ y ≠ z ∧ m ≤ 10 ^ 57 ∧ ∀ H', Same H H' → Q (.bl true) H'
theorem ok_paid (F : FnP K "_law_paid" s_paid f fd) (pa : PtA K k) (y_Pact : MakY P w K mg base 4 "Pact" (spP k K)) (y_Transfer : MakY P w K mg base 5 "Transfer" (spT k K)) (o_add : Bin2 P w K mg base 6 k.P "__add__" (spAd k K)) (me_excess : Met P w K mg base 3 C "excess" (Zn.spExcess C K)) (c_need_of : CalX P w K mg base (3 * 31 + 5) "need_of" (spNo C CP k K 31)) : FnOk P w K mg base CX0 99 f fd P_paid (spPd k K) := by
  refine F.ok sc_paid (fun vs H Q E h => ?_) (fun cdv A outer s H vs Q E hr h => ?_)
  · obtain ⟨p, l, y, z, m, rfl, _⟩ := h
    rfl
  · obtain ⟨p, l, y, z, m, rfl, hp, okl, wl, dl, hy, hz, ne, hm, qq⟩ := h
    have hm : m ≤ 10 ^ 60 := Nat.le_trans hm (by decide)
    have okT : Pk.Ok (.tr z y m) := by rw [Pk.Ok]; exact ⟨hz, hy, fun e => ne e.symm, hm⟩
    have okU : Pk.Ok (.tr y z m) := by rw [Pk.Ok]; exact ⟨hy, hz, ne, hm⟩
    refine ⟨_, PSs.nox (pss_cons (ps_set (i := 4) sc_paid.nd rfl (by first | exact .inl rfl | exact .inr rfl) (pe_clE c_need_of (fun _ => passS0) hr (by decide) (by rfl) (pa_cons (pv 0) (pa_cons (pv 1) pa_nil))))
      (pss_cons (ps_set (i := 5) sc_paid.nd rfl (by first | exact .inl rfl | exact .inr rfl) (pe_clE c_need_of (fun _ => passS0) hr (by decide) (by rfl) (pa_cons (pe_op (op_bin o_add hr (by decide)) (pe_mkY y_Pact (fun _ => passS0) hr (by decide) (by rfl) (pa_cons (pe_lst (pa_cons (pe_mkY y_Transfer (fun _ => passS0) hr (by decide) (by rfl) (pa_cons (pv 2) (pa_cons (pv 1) (pa_cons (pv 3) pa_nil)))) pa_nil)) pa_nil)) (pv 0)) (pa_cons (pv 1) pa_nil))))
      (pss_cons (ps_set (i := 6) sc_paid.nd rfl (by first | exact .inl rfl | exact .inr rfl) (pe_clE c_need_of (fun _ => passS0) hr (by decide) (by rfl) (pa_cons (pe_op (op_bin o_add hr (by decide)) (pe_mkY y_Pact (fun _ => passS0) hr (by decide) (by rfl) (pa_cons (pe_lst (pa_cons (pe_mkY y_Transfer (fun _ => passS0) hr (by decide) (by rfl) (pa_cons (pv 1) (pa_cons (pv 2) (pa_cons (pv 3) pa_nil)))) pa_nil)) pa_nil)) (pv 0)) (pa_cons (pv 1) pa_nil))))
      (pss_one (ps_ret (pe_and (pe_cmpR (op_eqD hr.units) (pe_me me_excess (pv 5) hr (by decide) (pa_cons (pv 4) pa_nil)) (pe_tup pa_nil) (nomark _)) (pe_one (pe_cmpR (op_eqD hr.units) (pe_me me_excess (pv 4) hr (by decide) (pa_cons (pv 6) pa_nil)) (pe_tup pa_nil) (nomark _))))))))), ?_⟩
    have s0 : Same H H := Same.refl H
    walk_at "go"
    refine ⟨p, _, [y], rfl, (show 1 ≤ 10000 by decide), hp, okl, by walk_at "wd", by walk_at "wd", .inl ⟨y, rfl, hy, fun n1 H21 a s21 hn1 ra => ?_⟩⟩
    replace hp := hp.mono s21
    replace s0 := s0.trans s21
    clear s21
    walk_at "go"
    have oa := Zn.RL.ok y _ _ ra
    have la := Nat.le_trans (rl_400 okl (by walk_at "wd") ra) (show 2400 ≤ 20000 by decide)
    refine ⟨z, y, m, rfl, okT, fun x H22 s22 _ hx => ?_⟩
    replace hp := hp.mono s22
    replace hn1 := hn1.mono s22
    replace s0 := s0.trans s22
    clear s22
    walk_at "go"
    intro L nL
    generalize eH_ : upd H22 L _ = H23
    have s23 : Same H22 H23 := by rw [← eH_]; exact same_new nL
    have eL : H23 L = some (.lst ([x].map V.ref)) := by rw [← eH_]; exact upd_same
    clear eH_
    replace hp := hp.mono s23
    replace hn1 := hn1.mono s23
    replace hx := hx.mono s23
    replace s0 := s0.trans s23
    clear s23
    clear nL
    walk_at "go"
    refine ⟨true, L, [.tr z y m], [x], rfl, okL1 (okT), SqL.of eL, ptsAt1 hx, by walk_at "wd", by walk_at "wd", fun t H24 s24 _ ht => ?_⟩
    clear eL
    replace hp := hp.mono s24
    replace hn1 := hn1.mono s24
    replace hx := hx.mono s24
    replace s0 := s0.trans s24
    clear s24
    clear hx
    walk_at "go"
    refine rd_add ht hp (okL1 okT) okl (by walk_at "wd") (by walk_at "wd") (by walk_at "wd") fun pr H25 s25 hpr => ?_
    rw [List.singleton_append] at hpr
    replace hp := hp.mono s25
    replace hn1 := hn1.mono s25
    replace ht := ht.mono s25
    replace s0 := s0.trans s25
    clear s25
    walk_at "go"
    refine ⟨pr, _, [y], rfl, (show 1 ≤ 10000 by decide), hpr, (okLc okT okl), by walk_at "wd", by walk_at "wd", .inl ⟨y, rfl, hy, fun n2 H26 b s26 hn2 rb => ?_⟩⟩
    replace hp := hp.mono s26
    replace hn1 := hn1.mono s26
    replace ht := ht.mono s26
    replace hpr := hpr.mono s26
    replace s0 := s0.trans s26
    clear s26
    walk_at "go"
    have ob := Zn.RL.ok y _ _ rb
    have lb := Nat.le_trans (rl_400 (okLc okT okl) (by walk_at "wd") rb) (show 2400 ≤ 20000 by decide)
    clear ht
    clear hpr
    dsimp only [List.set]
    walk_at "go"
    refine ⟨y, z, m, rfl, okU, fun x H27 s27 _ hx => ?_⟩
    replace hp := hp.mono s27
    replace hn1 := hn1.mono s27
    replace hn2 := hn2.mono s27
    replace s0 := s0.trans s27
    clear s27
    walk_at "go"
    intro L nL
    generalize eH_ : upd H27 L _ = H28
    have s28 : Same H27 H28 := by rw [← eH_]; exact same_new nL
    have eL : H28 L = some (.lst ([x].map V.ref)) := by rw [← eH_]; exact upd_same
    clear eH_
    replace hp := hp.mono s28
    replace hn1 := hn1.mono s28
    replace hn2 := hn2.mono s28
    replace hx := hx.mono s28
    replace s0 := s0.trans s28
    clear s28
    clear nL
    walk_at "go"
    refine ⟨true, L, [.tr y z m], [x], rfl, okL1 (okU), SqL.of eL, ptsAt1 hx, by walk_at "wd", by walk_at "wd", fun t H29 s29 _ ht => ?_⟩
    clear eL
    replace hp := hp.mono s29
    replace hn1 := hn1.mono s29
    replace hn2 := hn2.mono s29
    replace hx := hx.mono s29
    replace s0 := s0.trans s29
    clear s29
    clear hx
    walk_at "go"
    refine rd_add ht hp (okL1 okU) okl (by walk_at "wd") (by walk_at "wd") (by walk_at "wd") fun pr H30 s30 hpr => ?_
    rw [List.singleton_append] at hpr
    replace hp := hp.mono s30
    replace hn1 := hn1.mono s30
    replace hn2 := hn2.mono s30
    replace ht := ht.mono s30
    replace s0 := s0.trans s30
    clear s30
    walk_at "go"
    refine ⟨pr, _, [y], rfl, (show 1 ≤ 10000 by decide), hpr, (okLc okU okl), by walk_at "wd", by walk_at "wd", .inl ⟨y, rfl, hy, fun n3 H31 c s31 hn3 rc => ?_⟩⟩
    replace hp := hp.mono s31
    replace hn1 := hn1.mono s31
    replace hn2 := hn2.mono s31
    replace ht := ht.mono s31
    replace hpr := hpr.mono s31
    replace s0 := s0.trans s31
    clear s31
    walk_at "go"
    have oc := Zn.RL.ok y _ _ rc
    have lc := Nat.le_trans (rl_400 (okLc okU okl) (by walk_at "wd") rc) (show 2400 ≤ 20000 by decide)
    clear ht
    clear hpr
    dsimp only [List.set]
    walk_at "go"
    obtain ⟨dxe, re, qe, ee, _⟩ := id hn2
    refine ⟨n2, dxe, _, rfl, ee, rfl, ?_⟩
    walk_at "go"
    refine ⟨_, _, _, _, n2, n1, _, _, rfl, hn2, hn1, ob, oa, lb, la, fun T H32 o s32 eT hx => ?_⟩
    clear ee
    obtain rfl := Zn.exc_le ob oa (Zn.le_got (fun e => ne e.symm) ra rb) hx
    replace hp := hp.mono s32
    replace hn1 := hn1.mono s32
    replace hn2 := hn2.mono s32
    replace hn3 := hn3.mono s32
    replace s0 := s0.trans s32
    clear s32
    clear hx
    walk_at "go"
    intro em nem
    generalize eH_ : upd H32 em _ = H33
    have s33 : Same H32 H33 := by rw [← eH_]; exact same_new nem
    have eem : H33 em = some (.tup []) := by rw [← eH_]; exact upd_same
    clear eH_
    replace eT := s33 _ _ eT
    replace hp := hp.mono s33
    replace hn1 := hn1.mono s33
    replace hn2 := hn2.mono s33
    replace hn3 := hn3.mono s33
    replace s0 := s0.trans s33
    clear s33
    walk_at "go"
    refine ⟨.tuple [], .tuple [], dp_sq (b := false) (SqT.of eT) .nil, dp_sq (b := false) (SqT.of eem) .nil, rfl, rfl, ?_⟩
    clear eT eem nem
    rw [show PyData.eqv (.tuple []) (.tuple []) = true from rfl]
    walk_at "go"
    obtain ⟨dxe, re, qe, ee, _⟩ := id hn1
    refine ⟨n1, dxe, _, rfl, ee, rfl, ?_⟩
    walk_at "go"
    refine ⟨_, _, _, _, n1, n3, _, _, rfl, hn1, hn3, oa, oc, la, lc, fun T H34 o s34 eT hx => ?_⟩
    obtain rfl := Zn.exc_le oa oc (Zn.le_paid ra rc) hx
    replace hp := hp.mono s34
    replace hn1 := hn1.mono s34
    replace hn2 := hn2.mono s34
    replace hn3 := hn3.mono s34
    replace s0 := s0.trans s34
    clear s34
    clear hx
    walk_at "go"
    intro em nem
    generalize eH_ : upd H34 em _ = H35
    have s35 : Same H34 H35 := by rw [← eH_]; exact same_new nem
    have eem : H35 em = some (.tup []) := by rw [← eH_]; exact upd_same
    clear eH_
    replace eT := s35 _ _ eT
    replace hp := hp.mono s35
    replace hn1 := hn1.mono s35
    replace hn2 := hn2.mono s35
    replace hn3 := hn3.mono s35
    replace s0 := s0.trans s35
    clear s35
    walk_at "go"
    refine ⟨.tuple [], .tuple [], dp_sq (b := false) (SqT.of eT) .nil, dp_sq (b := false) (SqT.of eem) .nil, rfl, rfl, ?_⟩
    rw [show PyData.eqv (.tuple []) (.tuple []) = true from rfl]
    exact qq _ s0
end
end Z
set_option pp.maxSteps 700
set_option Elab.async false
set_option linter.all false
set_option maxRecDepth 100000
set_option maxHeartbeats 4000000
open SX (S S_inj S_len S_cat)
namespace Z
open Pk NdefX
open PySem PySem.Spec PyProof.Rows L2
open C8 (pss_cut tCut)
local macro_rules | `(tactic| walk_at "num") => `(tactic| first | rfl | omega | decide | exact Nat.le_of_lt (small1000 (by simp)) | exact ⟨by omega, by omega⟩ | exact ⟨by omega, by omega, by omega⟩ | exact ⟨by decide, by decide, by decide⟩ | exact Or.inl ⟨by omega, by omega⟩ | exact Or.inr ⟨by omega, by omega⟩)
local macro_rules | `(tactic| walk_at "go") => `(tactic| repeat (first | refine ⟨_, rfl, ?_⟩ | refine ⟨_, _, rfl, rfl, ?_⟩ | refine ⟨_, _, rfl, ?_⟩ | (refine ⟨_, _, rfl, rfl, ?_, ?_⟩; focus walk_at "num") | refine Or.inl ⟨_, rfl, ?_⟩ | refine ⟨_, _, _, _, rfl, rfl, (by assumption), (by rfl), ?_⟩ | refine ⟨_, _, _, _, _, rfl, (by assumption), (by assumption), (by assumption), (by rfl), ?_⟩ | refine ⟨rfl, ?_⟩ | (refine And.intro ?_ ?_; focus walk_at "num")))
abbrev s_pacts : Stmt := topS 69
abbrev N_pacts : List Str := ["_law_draws_here", "_law_place", "_law_parties_here", "_law_size_here", "_law_marks", "_law_k"]
abbrev P_pacts : List Str := ["_law_draws_here", "_law_place", "_law_parties_here", "_law_size_here"]
theorem sc_pacts : FnScope N_pacts P_pacts (defScope s_pacts) := ⟨rfl, rfl, rfl, by decide +kernel, rfl, by decide +kernel, by decide +kernel⟩
abbrev s_size : Stmt := topS 70
abbrev N_size : List Str := ["_law_draws_here", "_law_place", "_law_size_here"]
abbrev P_size : List Str := ["_law_draws_here", "_law_place"]
theorem sc_size : FnScope N_size P_size (defScope s_size) := ⟨rfl, rfl, rfl, by decide +kernel, rfl, by decide +kernel, by decide +kernel⟩
abbrev s_law : Stmt := topS 78
abbrev N_law : List Str := ["_law_script", "_law_more", "_law_at", "_law_parties_here", "_law_first", "_law_second", "_law_party", "_law_letter", "_law_others", "_law_rival", "_law_p", "_law_q", "_law_count", "_law_idle_here"]
abbrev P_law : List Str := ["_law_script"]
theorem sc_law : FnScope N_law P_law (defScope s_law) := ⟨rfl, rfl, rfl, by decide +kernel, rfl, by decide +kernel, by decide +kernel⟩
theorem oth_of : ∀ y ∈ PAR, fltL (fun k => !decide (PAR.getD k 0 = y)) (fun k => V.str (S [PAR.getD k 0])) 6 = (PAR.filter fun c => !decide (c = y)).map (fun c => V.str (S [c])) ∧ (PAR.filter fun c => !decide (c = y)).length = 5 := fun y hy => by
  simp only [PAR, List.mem_cons, List.not_mem_nil, or_false] at hy
  rcases hy with rfl | rfl | rfl | rfl | rfl | rfl <;> exact ⟨rfl, rfl⟩
theorem eqS_dec (a b : Nat) : decide (V.str (S [a]) = V.str (S [b])) = decide (a = b) := by
  by_cases c : a = b
  · rw [c, decide_eq_true rfl, decide_eq_true rfl]
  · rw [decide_eq_false c, decide_eq_false fun z => c (eqS_t (decide_eq_true z))]
theorem cnt_of (r : Int) (w : Nat) : (0 : Int) < 1 + (if 390 / (if (w : Int) > 1 then (w : Int) else 1) < 100 then 390 / (if (w : Int) > 1 then (w : Int) else 1) else 100) ∧ ∃ c : Nat, r % (1 + (if 390 / (if (w : Int) > 1 then (w : Int) else 1) < 100 then 390 / (if (w : Int) > 1 then (w : Int) else 1) else 100)) = (c : Int) ∧ c ≤ 100 ∧ w * c ≤ 390 := by
  generalize hd : (if (w : Int) > 1 then (w : Int) else 1) = d
  have d0 : (0 : Int) < d ∧ (w : Int) ≤ d := by
    rw [← hd]
    split <;> omega
  have q0 : 0 ≤ 390 / d := Int.ediv_nonneg (by decide) (by omega)
  have q1 : 390 / d * d ≤ 390 := Int.ediv_mul_le _ (by omega)
  generalize 390 / d = q at *
  generalize he : (1 + if q < 100 then q else 100) = e
  have e0 : 0 < e ∧ e ≤ 101 ∧ e ≤ q + 1 := by
    rw [← he]
    split <;> omega
  have h1 := Int.emod_nonneg r (show e ≠ 0 by omega)
  have h2 := Int.emod_lt_of_pos r e0.1
  refine ⟨e0.1, (r % e).toNat, by omega, by omega, ?_⟩
  have h3 : (w : Int) * ((r % e).toNat : Int) ≤ d * q := Int.mul_le_mul d0.2 (by omega) (by omega) (by omega)
  rw [Int.mul_comm] at q1
  have h4 : (w : Int) * ((r % e).toNat : Int) ≤ 390 := Int.le_trans h3 q1
  exact_mod_cast h4
section
variable {P : Program} {w : World} {K : PySem.W.Frag} {mg : Str → Option Value} {base : Heap} {f C CP CB : Addr} {k : Cs} {fd : FuncData}
def spSz (K : PySem.W.Frag) : Sp := fun vs H Q _ => ∃ (a p : Addr) (n : Nat) (ds : List Int), vs = [.ref a, .ref p] ∧ Tk K a p ds n H H ∧ ∀ (c : Nat) H', Tk K a p ds n H H' → c ≤ 12 → Q (.int (c : Int)) H'
theorem ok_size (F : FnP K "_law_size" s_size f fd) (m_int : mg "int" = none) (c_take : Cal P w K mg base 1 "_law_take" (spTake K)) : FnOk P w K mg base CX0 2 f fd P_size (spSz K) := by
  refine F.ok sc_size (fun vs H Q E h => ?_) (fun cdv A outer s H vs Q E hr h => ?_)
  · obtain ⟨a, p, n, ds, rfl, _⟩ := h
    rfl
  · obtain ⟨a, p, n, ds, rfl, t, q⟩ := h
    refine ⟨_, PSs.nox (pss_cons (ps_set (i := 2) sc_size.nd rfl (by first | exact .inl rfl | exact .inr rfl) (pe_op op_mod (pe_callTy call_int1 (by rfl) m_int (by decide +kernel) (pa_cons (pe_cl c_take hr (by decide) (by rfl) (pa_cons (pv 0) (pa_cons (pv 1) pa_nil))) pa_nil)) pe_int))
      (pss_cut (ps_if (pt_cmpR op_eq (pe_op op_mod (pe_callTy call_int1 (by rfl) m_int (by decide +kernel) (pa_cons (pe_cl c_take hr (by decide) (by rfl) (pa_cons (pv 0) (pa_cons (pv 1) pa_nil))) pa_nil)) pe_int) pe_int (nomark _)) (pss_one (ps_set (i := 2) sc_size.nd rfl (by first | exact .inl rfl | exact .inr rfl) (pe_op op_mod (pe_callTy call_int1 (by rfl) m_int (by decide +kernel) (pa_cons (pe_cl c_take hr (by decide) (by rfl) (pa_cons (pv 0) (pa_cons (pv 1) pa_nil))) pa_nil)) pe_int))) pss_nil)
      (pss_one (ps_ret (pv 2))))), ?_⟩
    have w : Pl H a p ds n := Pl.own t
    walk_at "go"
    obtain ⟨v1, em1⟩ := w.pl
    refine ⟨a, p, n, v1, ds, rfl, SqL.of w.hA, w.hd, em1, w.ne, fun r1 r10 r11 => ?_⟩
    obtain ⟨t1, _⟩ := (w.tk (K := K)).next em1
    generalize upd H p (.lst [.int ((v1 + 1 : Nat) : Int)]) = H1 at t1 ⊢
    have w1 := Pl.own t1
    walk_at "go"
    refine ⟨fun σ J => ∃ c : Nat, Tk K a p ds n H J ∧ c ≤ 12 ∧ σ = [some (.ref a), some (.ref p), some (.int (c : Int))], ?_, ?_⟩
    · walk_at "go"
      obtain ⟨v2, em2⟩ := w1.pl
      refine ⟨a, p, n, v2, ds, rfl, SqL.of w1.hA, w1.hd, em2, w1.ne, fun r2 r20 r21 => ?_⟩
      obtain ⟨t2, _⟩ := (w1.tk (K := K)).next em2
      generalize upd H1 p (.lst [.int ((v2 + 1 : Nat) : Int)]) = H2 at t2 ⊢
      have w2 := Pl.own t2
      have t12 := t1.tr t2
      walk_at "go"
      refine ite2 (fun _ => ?_) (fun _ => ?_)
      · walk_at "go"
        obtain ⟨v3, em3⟩ := w2.pl
        refine ⟨a, p, n, v3, ds, rfl, SqL.of w2.hA, w2.hd, em3, w2.ne, fun r3 r30 r31 => ?_⟩
        obtain ⟨t3, _⟩ := (w2.tk (K := K)).next em3
        generalize upd H2 p (.lst [.int ((v3 + 1 : Nat) : Int)]) = H3 at t3 ⊢
        walk_at "go"
        exact ⟨(r3 % 13).toNat, t12.tr t3, by omega, by rw [Int.toNat_of_nonneg (by omega)]; rfl⟩
      · exact ⟨(r1 % 4).toNat, t12, by omega, by rw [Int.toNat_of_nonneg (by omega)]; rfl⟩
    rintro σ J ⟨c, t, hc, rfl⟩
    walk_at "go"
    exact q c J t hc
def spPcs (K : PySem.W.Frag) : Sp := fun vs H Q _ => ∃ (a p : Addr) (n c : Nat) (ds : List Int) (ps : List Nat), vs = [.ref a, .ref p, .str (S ps), .int (c : Int)] ∧ Tk K a p ds n H H ∧ PM ps MRK ∧ c ≤ 12 ∧ ∀ (D : Addr) (l : List Pt) H', Tk K a p ds n H H' → H D = none → DaAt H' l D → OkL l → wtL l ≤ 40 → dpL l ≤ 3 → l.length ≤ 12 → Q (.ref D) H'
theorem ok_pacts (F : FnP K "_law_pacts" s_pacts f fd) (m_range : mg "range" = none) (c_part : Cal P w K mg base (2 * 2 + 7) "_law_part" (spPp K 2)) (c_cut : Cal P w K mg base (2 * 4 + 8) "_law_cut" (spCut 4)) : FnOk P w K mg base CX0 17 f fd P_pacts (spPcs K) := by
  refine F.ok sc_pacts (fun vs H Q E h => ?_) (fun cdv A outer s H vs Q E hr h => ?_)
  · obtain ⟨a, p, n, c, ds, ps, rfl, _⟩ := h
    rfl
  · obtain ⟨a, p, n, c, ds, ps, rfl, t, pm, c12, q⟩ := h
    refine ⟨_, PSs.nox (pss_cons (ps_set (i := 4) sc_pacts.nd rfl (by first | exact .inl rfl | exact .inr rfl) pe_str)
      (pss_one (ps_ret (pe_cl c_cut hr (by decide) (by rfl) (pa_cons (pe_lc (own := [("_law_k", 5)]) (g := (gName 5)) (tt := tYes) (by rfl) sc_pacts.nd (pi_range1 (by rfl) m_range (pa_cons (pv 3) pa_nil)) (blkOk_by (own := [("_law_k", 5)]) (N := N_pacts) (sc := defScope s_pacts) (by decide +kernel)) (fun _ _ _ _ _ => (pg_name (i := 5) sc_pacts.nd rfl (by first | exact .inl rfl | exact .inr rfl))) (fun _ _ _ _ _ => pts_nil) (fun _ _ _ _ _ => (pe_cl c_part hr (by decide) (by rfl) (pa_cons (pv 0) (pa_cons (pv 1) (pa_cons pe_int (pa_cons (pv 2) (pa_cons (pv 4) pa_nil)))))))) (pa_cons pe_int pa_nil)))))), ?_⟩
    rw [show Str.ofString "ABCDEFGHIJKLMNOPQRSTUVWXYZ" = S MRK by decide +kernel]
    walk_at "go"
    intro D nD
    refine lc_nw (G := fun i X y => ∃ b x, y = .ref b ∧ DtAt X x b ∧ Pk.Ok x ∧ wt x ≤ mxw 2 ∧ dp x ≤ 3) (n := c) (fun i X Y y s h => ?_) t nD (by omega) (fun k J' hk => ?_) (fun J' => ?_) (fun k J1 x J2 hk h => ?_) (fun x => rfl) (fun k x J1 Q1 hk h hT2 q1 => ?_) (fun J1 ys hT2 eD ly hG => ?_)
    · obtain ⟨b, x, h1, h2, h3⟩ := h
      exact ⟨b, x, h1, h2.mono s, h3⟩
    · show k < ((c : Int)).toNat
      omega
    · show ((c : Int)).toNat ≤ c
      omega
    · exact h.1
    · walk_at "go"
      exact ⟨a, p, n, 2, ds, ps, MRK, rfl, hT2.slf, pm, Nat.le_refl _, fun y x H' hT3 hx okx hwx hdx => q1 _ _ hT3 ⟨y, x, rfl, hx, okx, hwx, hdx⟩⟩
    obtain ⟨l, bs, rfl, hl, okl, wl, dl, ll⟩ := drawn_l ys hG
    rw [ly] at wl ll
    have mx2 : mxw 2 = 343 := rfl
    rw [mx2] at wl
    have wl2 := Nat.mul_le_mul_right 343 c12
    walk_at "go"
    refine ⟨D, l, 40, rfl, ⟨bs, eD, hl.mono nwD_same⟩, okl, by omega, by omega, fun L m as H8 s8 nL eL hL okm wm dm lm => ?_⟩
    exact q L m H8 (hT2.more s8) (hT2.nn nL) ⟨as, eL, hL.mono s8⟩ okm wm (by omega) (by omega)
def spLaw (K : PySem.W.Frag) : Sp := fun vs H Q _ => ∃ (a : Addr) (ns : List Int), vs = [.ref a] ∧ SqL K H a (ns.map V.int) ∧ ∀ H', Q (.bl true) H'
theorem ok_law (F : FnP K "law" s_law f fd) (m_int : mg "int" = none) (m_len : mg "len" = none) (m_min : mg "min" = none) (m_max : mg "max" = none) (c_cell : Cal P w K mg base 1 "_law_cell" (spCell K)) (c_draws : Cal P w K mg base 1 "_law_draws" spDraws) (c_take : Cal P w K mg base 1 "_law_take" (spTake K)) (c_parties : Cal P w K mg base 2 "_law_parties" (spPar K)) (c_size : Cal P w K mg base 2 "_law_size" (spSz K)) (c_pacts : Cal P w K mg base 17 "_law_pacts" (spPcs K)) (c_weight : Cal P w K mg base (2 * 4 + 6) "_law_weight" (spWl 4)) (c_amount : Cal P w K mg base 1 "_law_amount" spAm) (c_build : Cal P w K mg base (2 * 31 + 6) "_law_build" (spBl k K 31)) (c_law_joined : Cal P w K mg base 99 "_law_joined" (spJoi k K)) (c_repeated : Cal P w K mg base 99 "_law_repeated" (spRep k K)) (c_wrapped : Cal P w K mg base 99 "_law_wrapped" (spWr k K)) (c_unrolled : Cal P w K mg base 99 "_law_unrolled" (spUr k K)) (c_paid : Cal P w K mg base 99 "_law_paid" (spPd k K)) (c_idle : Cal P w K mg base (2 * 4 + 6) "_law_idle" (spIl 4)) (c_is_number : Cal P w K mg base 1 "_law_is_number" spIsN) (co_call : Cob P w K mg base 3 C (Zn.spCallN C K)) (c_need_of : CalX P w K mg base (3 * 31 + 5) "need_of" (spNo C CP k K 31)) : FnOk P w K mg base CX0 110 f fd P_law (spLaw K) := by
  refine F.ok sc_law (fun vs H Q E h => ?_) (fun cdv A outer s H vs Q E hr h => ?_)
  · obtain ⟨a, ns, rfl, _⟩ := h
    rfl
  · obtain ⟨a, ns, rfl, hS, qq⟩ := h
    refine ⟨_, PSs.nox (pss_cons (ps_set (i := 1) sc_law.nd rfl (by first | exact .inl rfl | exact .inr rfl) (pe_cl c_draws hr (by omega) (by rfl) (pa_cons (pe_cl c_cell hr (by omega) (by rfl) (pa_cons (pv 0) (pa_cons pe_int pa_nil))) (pa_cons pe_int pa_nil))))
      (pss_cons (ps_set (i := 2) sc_law.nd rfl (by first | exact .inl rfl | exact .inr rfl) (pe_lst (pa_cons pe_int pa_nil)))
      (pss_cons (ps_set (i := 3) sc_law.nd rfl (by first | exact .inl rfl | exact .inr rfl) (pe_cl c_parties hr (by omega) (by rfl) (pa_cons (pv 1) (pa_cons (pv 2) pa_nil))))
      (pss_cons (ps_set (i := 4) sc_law.nd rfl (by first | exact .inl rfl | exact .inr rfl) (pe_cl c_pacts hr (by omega) (by rfl) (pa_cons (pe_cl c_draws hr (by omega) (by rfl) (pa_cons (pe_cl c_cell hr (by omega) (by rfl) (pa_cons (pv 0) (pa_cons pe_int pa_nil))) (pa_cons pe_int pa_nil))) (pa_cons (pe_lst (pa_cons pe_int pa_nil)) (pa_cons (pv 3) (pa_cons (pe_cl c_size hr (by omega) (by rfl) (pa_cons (pv 1) (pa_cons (pv 2) pa_nil))) pa_nil))))))
      (pss_cons (ps_set (i := 5) sc_law.nd rfl (by first | exact .inl rfl | exact .inr rfl) (pe_cl c_pacts hr (by omega) (by rfl) (pa_cons (pe_cl c_draws hr (by omega) (by rfl) (pa_cons (pe_cl c_cell hr (by omega) (by rfl) (pa_cons (pv 0) (pa_cons pe_int pa_nil))) (pa_cons pe_int pa_nil))) (pa_cons (pe_lst (pa_cons pe_int pa_nil)) (pa_cons (pv 3) (pa_cons (pe_cl c_size hr (by omega) (by rfl) (pa_cons (pv 1) (pa_cons (pv 2) pa_nil))) pa_nil))))))
      (pss_cons (ps_set (i := 6) sc_law.nd rfl (by first | exact .inl rfl | exact .inr rfl) (pe_ix ix_str (pv 3) (pe_op op_mod (pe_callTy call_int1 (by rfl) m_int (by decide +kernel) (pa_cons (pe_cl c_take hr (by omega) (by rfl) (pa_cons (pv 1) (pa_cons (pv 2) pa_nil))) pa_nil)) (pe_callB call_len_str (by rfl) m_len PySem.boot_len (pa_cons (pv 3) pa_nil))) (fun _ _ => rfl)))
      (pss_cut (ps_if (pt_cmpR op_eq (pe_op op_mod (pe_callTy call_int1 (by rfl) m_int (by decide +kernel) (pa_cons (pe_cl c_take hr (by omega) (by rfl) (pa_cons (pv 1) (pa_cons (pv 2) pa_nil))) pa_nil)) pe_int) pe_int (nomark _)) (pss_one (ps_set (i := 6) sc_law.nd rfl (by first | exact .inl rfl | exact .inr rfl) (pe_ix ix_str pe_str (pe_op op_mod (pe_callTy call_int1 (by rfl) m_int (by decide +kernel) (pa_cons (pe_cl c_take hr (by omega) (by rfl) (pa_cons (pv 1) (pa_cons (pv 2) pa_nil))) pa_nil)) pe_int) (fun _ _ => rfl)))) pss_nil)
      (pss_cons (ps_setLc (i := 8) (own := [("_law_letter", 7)]) (g := (gName 7)) (by rfl) sc_law.nd rfl rfl (sw_true rfl rfl rfl (by decide +kernel)) (pi_str pe_str) (blkOk_by (own := [("_law_letter", 7)]) (N := N_law) (sc := defScope s_law) (by decide +kernel)) (fun _ _ _ _ _ => (pg_name (i := 7) sc_law.nd rfl (by first | exact .inl rfl | exact .inr rfl))) (fun _ _ _ _ _ => (pts_one (pt_cmpR op_ne (pv 7) (pv 6) (nomark _)))) (fun _ _ _ _ _ => (pv 7)))
      (pss_cons (ps_set (i := 9) sc_law.nd rfl (by first | exact .inl rfl | exact .inr rfl) (pe_ix ix_list (pv 8) (pe_op op_mod (pe_callTy call_int1 (by rfl) m_int (by decide +kernel) (pa_cons (pe_cl c_take hr (by omega) (by rfl) (pa_cons (pv 1) (pa_cons (pv 2) pa_nil))) pa_nil)) pe_int) (fun _ _ => rfl)))
      (pss_cons (ps_set (i := 10) sc_law.nd rfl (by first | exact .inl rfl | exact .inr rfl) (pe_cl c_build hr (by omega) (by rfl) (pa_cons (pv 4) pa_nil)))
      (pss_cons (ps_set (i := 11) sc_law.nd rfl (by first | exact .inl rfl | exact .inr rfl) (pe_cl c_build hr (by omega) (by rfl) (pa_cons (pv 5) pa_nil)))
      (pss_cons (ps_if (pt_not (pt_val (pe_cl c_law_joined hr (by omega) (by rfl) (pa_cons (pv 10) (pa_cons (pv 11) (pa_cons (pv 6) (pa_cons (pe_op op_mod (pe_callTy call_int1 (by rfl) m_int (by decide +kernel) (pa_cons (pe_cl c_take hr (by omega) (by rfl) (pa_cons (pv 1) (pa_cons (pv 2) pa_nil))) pa_nil)) (pe_op op_add (pe_callB call_len_seq (by rfl) m_len PySem.boot_len (pa_cons (pv 4) pa_nil)) pe_int)) pa_nil))))))) (pss_one (ps_ret pe_bl)) pss_nil)
      (pss_cons (ps_set (i := 12) sc_law.nd rfl (by first | exact .inl rfl | exact .inr rfl) (pe_op op_mod (pe_callTy call_int1 (by rfl) m_int (by decide +kernel) (pa_cons (pe_cl c_take hr (by omega) (by rfl) (pa_cons (pv 1) (pa_cons (pv 2) pa_nil))) pa_nil)) pe_int))
      (pss_cut (ps_if (pt_cmpR op_eq (pe_op op_mod (pe_callTy call_int1 (by rfl) m_int (by decide +kernel) (pa_cons (pe_cl c_take hr (by omega) (by rfl) (pa_cons (pv 1) (pa_cons (pv 2) pa_nil))) pa_nil)) pe_int) pe_int (nomark _)) (pss_one (ps_set (i := 12) sc_law.nd rfl (by first | exact .inl rfl | exact .inr rfl) (pe_op op_mod (pe_callTy call_int1 (by rfl) m_int (by decide +kernel) (pa_cons (pe_cl c_take hr (by omega) (by rfl) (pa_cons (pv 1) (pa_cons (pv 2) pa_nil))) pa_nil)) (pe_op op_add pe_int (pe_callB (call_min2 rfl) (by rfl) m_min (by decide +kernel) (pa_cons pe_int (pa_cons (pe_op op_fdiv pe_int (pe_callB (call_max2 rfl) (by rfl) m_max (by decide +kernel) (pa_cons pe_int (pa_cons (pe_cl c_weight hr (by omega) (by rfl) (pa_cons (pv 4) pa_nil)) pa_nil)))) pa_nil))))))) pss_nil)
      (pss_cons (ps_if (PW.pt (pw_or (pt_not (pt_val (pe_cl c_repeated hr (by omega) (by rfl) (pa_cons (pv 10) (pa_cons (pv 6) (pa_cons (pv 12) pa_nil)))))) (pw_or1 (pt_not (pt_val (pe_cl c_wrapped hr (by omega) (by rfl) (pa_cons (pv 10) (pa_cons (pv 11) (pa_cons (pv 6) (pa_cons (pv 9) pa_nil)))))))))) (pss_one (ps_ret pe_bl)) pss_nil)
      (pss_cons (ps_if (PW.pt (pw_or (pt_not (pt_val (pe_cl c_unrolled hr (by omega) (by rfl) (pa_cons (pv 10) (pa_cons (pv 6) (pa_cons (pv 9) pa_nil)))))) (pw_or1 (pt_not (pt_val (pe_cl c_paid hr (by omega) (by rfl) (pa_cons (pv 10) (pa_cons (pv 6) (pa_cons (pv 9) (pa_cons (pe_cl c_amount hr (by omega) (by rfl) (pa_cons (pe_cl c_take hr (by omega) (by rfl) (pa_cons (pv 1) (pa_cons (pv 2) pa_nil))) pa_nil)) pa_nil)))))))))) (pss_one (ps_ret pe_bl)) pss_nil)
      (pss_cons (ps_set (i := 13) sc_law.nd rfl (by first | exact .inl rfl | exact .inr rfl) (pe_clE c_need_of (fun _ => passS0) hr (by omega) (by rfl) (pa_cons (pe_cl c_build hr (by omega) (by rfl) (pa_cons (pe_cl c_idle hr (by omega) (by rfl) (pa_cons (pv 4) pa_nil)) pa_nil)) (pa_cons pe_str pa_nil))))
      (pss_one (ps_ret (pe_and (pe_cl c_is_number hr (by omega) (by rfl) (pa_cons (pe_co co_call (pv 13) hr (by omega) (pa_cons pe_int pa_nil)) pa_nil)) (pe_one (pe_cmpR op_eq (pe_co co_call (pv 13) hr (by omega) (pa_cons pe_int pa_nil)) pe_int (nomark _))))))))))))))))))))))), ?_⟩
    rw [show L2.start N_law [V.ref a] = some (.ref a) :: List.replicate 13 none from rfl]
    dsimp only [List.replicate]
    try dsimp only [List.set]
    walk_at "go"
    refine ⟨a, ns, 2, rfl, hS, ?_⟩
    try dsimp only [List.set]
    walk_at "go"
    intro d2 e2 nd2 hd2
    have sc := scP_of hS
    have s21 := same_new (o := .lst (e2.map V.int)) nd2
    have ed2 : (upd H d2 (.lst (e2.map V.int))) d2 = some (.lst (e2.map V.int)) := upd_same
    generalize upd H d2 (.lst (e2.map V.int)) = H21 at s21 ed2 ⊢
    replace sc := sc.same s21
    clear s21
    try dsimp only [List.set]
    walk_at "go"
    intro p2 np2
    generalize eH_ : upd H21 p2 _ = H22
    have s22 : Same H21 H22 := by rw [← eH_]; exact same_new np2
    have ep2 : H22 p2 = some (.lst [.int 0]) := by rw [← eH_]; exact upd_same
    clear eH_
    have w : Pl H22 d2 p2 e2 32 := ⟨s22 _ _ ed2, hd2, ne_of_none ed2 np2, 0, ep2⟩
    replace sc := sc.new np2
    replace sc := sc.same s22
    clear s22
    clear nd2 np2 ed2 ep2 hd2
    try dsimp only [List.set]
    walk_at "go"
    refine ⟨d2, p2, 32, e2, rfl, w.tk, fun ps H23 s23 nd l2 l6 par => ?_⟩
    have sd := s23.smD w.pl
    replace sc := sc.sb s23.sb (by simp)
    replace w := Pl.own s23
    clear sd s23
    have lps : (S ps).length = ps.length := S_len _
    have sps : (S ps).length ≤ sizeLine := by rw [lps]; exact szl (by omega)
    try dsimp only [List.set]
    walk_at "go"
    refine ⟨a, ns, 0, rfl, sc.sq, ?_⟩
    try dsimp only [List.set]
    walk_at "go"
    intro d1 e1 nd1 hd1
    have s24 := same_new (o := .lst (e1.map V.int)) nd1
    have ed1 : (upd H23 d1 (.lst (e1.map V.int))) d1 = some (.lst (e1.map V.int)) := upd_same
    have q1 : d1 ≠ p2 := by obtain ⟨vr, emr⟩ := w.pl; exact (ne_of_none emr nd1).symm
    generalize upd H23 d1 (.lst (e1.map V.int)) = H24 at s24 ed1 ⊢
    replace sc := sc.same s24
    replace w := w.same s24
    clear s24
    try dsimp only [List.set]
    walk_at "go"
    intro p1 np1
    generalize eH_ : upd H24 p1 _ = H25
    have s25 : Same H24 H25 := by rw [← eH_]; exact same_new np1
    have ep1 : H25 p1 = some (.lst [.int 0]) := by rw [← eH_]; exact upd_same
    clear eH_
    have w1 : Pl H25 d1 p1 e1 50 := ⟨s25 _ _ ed1, hd1, ne_of_none ed1 np1, 0, ep1⟩
    have q2 : p1 ≠ p2 := by obtain ⟨vr, emr⟩ := w.pl; exact (ne_of_none emr np1).symm
    have q3 : d2 ≠ p1 := ne_of_none w.hA np1
    replace sc := sc.new np1
    replace sc := sc.same s25
    replace w := w.same s25
    clear s25
    clear nd1 np1 ed1 ep1 hd1
    try dsimp only [List.set]
    walk_at "go"
    refine ⟨d2, p2, 32, e2, rfl, w.tk, fun c H26 s26 c12 => ?_⟩
    replace w1 := w1.oth s26.sb q1 q2
    have sd := s26.smD w.pl
    replace sc := sc.sb s26.sb (by simp)
    replace w := Pl.own s26
    clear sd s26
    try dsimp only [List.set]
    walk_at "go"
    refine ⟨d1, p1, 50, c, e1, ps, rfl, w1.tk, ⟨nd, l2, l6, par, by decide, by decide, fun c h => h⟩, c12, fun L l H27 s27 nL hL okL wL dL llL => ?_⟩
    have sd := s27.smD w1.pl
    replace w := w.oth s27.sb q3 q2.symm
    replace sc := sc.sb s27.sb (by simp)
    clear sd w1 q1 q2 q3 nL s27
    replace sc := sc.less (ex' := [p2]) (by simp)
    try dsimp only [List.set]
    walk_at "go"
    refine ⟨a, ns, 1, rfl, sc.sq, ?_⟩
    try dsimp only [List.set]
    walk_at "go"
    intro d1 e1 nd1 hd1
    have s28 := same_new (o := .lst (e1.map V.int)) nd1
    have ed1 : (upd H27 d1 (.lst (e1.map V.int))) d1 = some (.lst (e1.map V.int)) := upd_same
    have q1 : d1 ≠ p2 := by obtain ⟨vr, emr⟩ := w.pl; exact (ne_of_none emr nd1).symm
    generalize upd H27 d1 (.lst (e1.map V.int)) = H28 at s28 ed1 ⊢
    replace sc := sc.same s28
    replace w := w.same s28
    replace hL := hL.mono s28
    clear s28
    try dsimp only [List.set]
    walk_at "go"
    intro p1 np1
    generalize eH_ : upd H28 p1 _ = H29
    have s29 : Same H28 H29 := by rw [← eH_]; exact same_new np1
    have ep1 : H29 p1 = some (.lst [.int 0]) := by rw [← eH_]; exact upd_same
    clear eH_
    have w1 : Pl H29 d1 p1 e1 50 := ⟨s29 _ _ ed1, hd1, ne_of_none ed1 np1, 0, ep1⟩
    have q2 : p1 ≠ p2 := by obtain ⟨vr, emr⟩ := w.pl; exact (ne_of_none emr np1).symm
    have q3 : d2 ≠ p1 := ne_of_none w.hA np1
    replace sc := sc.new np1
    replace sc := sc.same s29
    replace w := w.same s29
    replace hL := hL.mono s29
    clear s29
    clear nd1 np1 ed1 ep1 hd1
    try dsimp only [List.set]
    walk_at "go"
    refine ⟨d2, p2, 32, e2, rfl, w.tk, fun c H30 s30 c12 => ?_⟩
    replace w1 := w1.oth s30.sb q1 q2
    have sd := s30.smD w.pl
    replace sc := sc.sb s30.sb (by simp)
    replace w := Pl.own s30
    replace hL := hL.monoD sd
    clear sd s30
    try dsimp only [List.set]
    walk_at "go"
    refine ⟨d1, p1, 50, c, e1, ps, rfl, w1.tk, ⟨nd, l2, l6, par, by decide, by decide, fun c h => h⟩, c12, fun M m H31 s31 nM hM okM wM dM llM => ?_⟩
    have sd := s31.smD w1.pl
    replace w := w.oth s31.sb q3 q2.symm
    replace sc := sc.sb s31.sb (by simp)
    replace hL := hL.monoD sd
    clear sd w1 q1 q2 q3 nM s31
    replace sc := sc.less (ex' := [p2]) (by simp)
    try dsimp only [List.set]
    walk_at "go"
    clear sc
    obtain ⟨vr, emr⟩ := w.pl
    refine ⟨d2, p2, 32, vr, e2, rfl, SqL.of w.hA, w.hd, emr, w.ne, fun r1 r10 r11 => ?_⟩
    obtain ⟨s32, _⟩ := (w.tk (K := K)).next emr
    generalize upd H31 p2 (.lst [.int ((vr + 1 : Nat) : Int)]) = H32 at s32 ⊢
    clear emr
    have sd := s32.smD w.pl
    replace w := Pl.own s32
    replace hL := hL.monoD sd
    replace hM := hM.monoD sd
    clear sd s32
    try dsimp only [List.set]
    walk_at "go"
    rw [lps]
    obtain ⟨j, ej, hj⟩ := modN r1 (show 0 < ps.length by omega)
    refine ⟨S ps, (j : Int), ps[j], rfl, (show V.int (r1 % (ps.length : Int)) = V.int (j : Int) from congrArg V.int ej), sps, at_S hj, ?_⟩
    have hy0 := par _ (List.getElem_mem hj)
    generalize ps[j] = y0 at hy0
    try dsimp only [List.set]
    walk_at "go"
    rw [show Str.ofString "abcdef" = S PAR by decide +kernel]
    refine ⟨fun σ J => ∃ (y : Nat), Pl J d2 p2 e2 32 ∧ DaAt J l L ∧ DaAt J m M ∧ y ∈ PAR ∧ σ = [some (.ref a), some (.ref d2), some (.ref p2), some (.str (S ps)), some (.ref L), some (.ref M), some (.str (S [y])), none, none, none, none, none, none, none], ?_, ?_⟩
    · skip
      try dsimp only [List.set]
      walk_at "go"
      obtain ⟨vr, emr⟩ := w.pl
      refine ⟨d2, p2, 32, vr, e2, rfl, SqL.of w.hA, w.hd, emr, w.ne, fun r2 r20 r21 => ?_⟩
      obtain ⟨s33, _⟩ := (w.tk (K := K)).next emr
      generalize upd H32 p2 (.lst [.int ((vr + 1 : Nat) : Int)]) = H33 at s33 ⊢
      clear emr
      have sd := s33.smD w.pl
      replace w := Pl.own s33
      replace hL := hL.monoD sd
      replace hM := hM.monoD sd
      clear sd s33
      try dsimp only [List.set]
      walk_at "go"
      refine ite2 (fun _ => ?_) (fun _ => ?_)
      · skip
        try dsimp only [List.set]
        walk_at "go"
        obtain ⟨vr, emr⟩ := w.pl
        refine ⟨d2, p2, 32, vr, e2, rfl, SqL.of w.hA, w.hd, emr, w.ne, fun r3 r30 r31 => ?_⟩
        obtain ⟨s34, _⟩ := (w.tk (K := K)).next emr
        generalize upd H33 p2 (.lst [.int ((vr + 1 : Nat) : Int)]) = H34 at s34 ⊢
        clear emr
        have sd := s34.smD w.pl
        replace w := Pl.own s34
        replace hL := hL.monoD sd
        replace hM := hM.monoD sd
        clear sd s34
        try dsimp only [List.set]
        walk_at "go"
        obtain ⟨j, ej, hj⟩ := modN r3 (show 0 < 6 by decide)
        refine ⟨S PAR, (j : Int), PAR[j], rfl, (show V.int (r3 % 6) = V.int (j : Int) from congrArg V.int ej), (by decide +kernel), at_S hj, ?_⟩
        try dsimp only [List.set]
        walk_at "go"
        exact ⟨PAR[j], w, hL, hM, List.getElem_mem hj, rfl⟩
      · exact ⟨y0, w, hL, hM, hy0, rfl⟩
    clear w hL hM hy0
    rintro σ J ⟨y, w, hL, hM, hy, rfl⟩
    try dsimp only [List.set]
    walk_at "go"
    intro O nO
    refine lc_flt (n := 6) (fun k => .str (S [PAR.getD k 0])) (fun k => !decide (PAR.getD k 0 = y)) (fun k => .str (S [PAR.getD k 0])) (by decide) nO (fun k J hk s => ?_) (fun J s => ?_) (fun k J z J2 hk s h => ?_) (fun k => rfl) (fun k J Q1 hk _ q1 => ?_) (fun k J Q1 hk _ _ q1 => ?_) (fun J2 s2 eO => ?_)
    · show k < (S PAR).cps.size
      exact hk
    · show (S PAR).cps.size ≤ 6
      decide
    · obtain ⟨rfl, c', ec, rfl⟩ := h
      have ec : PAR[k]? = some c' := by simpa using ec
      refine ⟨Same.refl _, ?_⟩
      rw [List.getD_eq_getElem?_getD, ec]
      rfl
    · walk_at "go"
      rw [eqS_dec]
      exact q1 _ (Same.refl _)
    · walk_at "go"
      exact q1 _ (Same.refl _)
    obtain ⟨eo, lo⟩ := oth_of y hy
    rw [eo] at eO
    have mo : ∀ r ∈ PAR.filter fun c => !decide (c = y), r ∈ PAR ∧ y ≠ r := fun r hr => by
      rw [List.mem_filter] at hr
      refine ⟨hr.1, fun e => ?_⟩
      have := hr.2
      rw [e, decide_eq_true rfl] at this
      cases this
    generalize (PAR.filter fun c => !decide (c = y)) = os at eO lo mo
    replace w := w.same s2
    replace hL := hL.mono s2
    replace hM := hM.mono s2
    clear s2
    try dsimp only [List.set]
    walk_at "go"
    obtain ⟨vr, emr⟩ := w.pl
    refine ⟨d2, p2, 32, vr, e2, rfl, SqL.of w.hA, w.hd, emr, w.ne, fun r4 r40 r41 => ?_⟩
    obtain ⟨s35, _⟩ := (w.tk (K := K)).next emr
    generalize upd J2 p2 (.lst [.int ((vr + 1 : Nat) : Int)]) = H35 at s35 ⊢
    clear emr
    replace eO := s35.smD w.pl _ _ eO (fun m z => by
      injection z with z
      match os, lo, z with
      | [a, b, c, d, e], _, z => injection z with z _; cases z)
    have sd := s35.smD w.pl
    replace w := Pl.own s35
    replace hL := hL.monoD sd
    replace hM := hM.monoD sd
    clear sd s35
    try dsimp only [List.set]
    walk_at "go"
    obtain ⟨j2, ej2, hj2⟩ := modN r4 (show 0 < 5 by decide)
    rw [← lo] at hj2
    refine ⟨O, _, (j2 : Int), _, rfl, (show V.int (r4 % 5) = V.int (j2 : Int) from congrArg V.int ej2), SqL.of eO, at_map (List.getElem?_eq_getElem hj2), ?_⟩
    obtain ⟨hz, ne⟩ := mo _ (List.getElem_mem hj2)
    generalize os[j2]'hj2 = z at hz ne
    clear eO
    try dsimp only [List.set]
    walk_at "go"
    refine ⟨L, l, rfl, hL, okL, by omega, by omega, by omega, fun p H36 s36 _ hp => ?_⟩
    replace w := w.same s36
    replace hL := hL.mono s36
    replace hM := hM.mono s36
    clear s36
    try dsimp only [List.set]
    walk_at "go"
    refine ⟨M, m, rfl, hM, okM, by omega, by omega, by omega, fun q H37 s37 _ hq => ?_⟩
    replace w := w.same s37
    replace hL := hL.mono s37
    replace hM := hM.mono s37
    replace hp := hp.mono s37
    clear s37
    try dsimp only [List.set]
    walk_at "go"
    obtain ⟨vr, emr⟩ := w.pl
    refine ⟨d2, p2, 32, vr, e2, rfl, SqL.of w.hA, w.hd, emr, w.ne, fun r5 r50 r51 => ?_⟩
    obtain ⟨s38, _⟩ := (w.tk (K := K)).next emr
    generalize upd H37 p2 (.lst [.int ((vr + 1 : Nat) : Int)]) = H38 at s38 ⊢
    clear emr
    have sd := s38.smD w.pl
    replace w := Pl.own s38
    replace hL := hL.monoD sd
    replace hM := hM.monoD sd
    replace hp := PaAt.monoW sd.w hp
    replace hq := PaAt.monoW sd.w hq
    clear sd s38
    try dsimp only [List.set]
    walk_at "go"
    obtain ⟨bsL, eL, hLt⟩ := id hL
    have lb := DtsAt.len _ _ hLt
    refine ⟨L, _, rfl, .inl (SqL.of eL), ?_⟩
    rw [List.length_map, lb]
    clear eL hLt lb
    try dsimp only [List.set]
    walk_at "go"
    obtain ⟨c5, ec5, hc5⟩ := modN r5 (show 0 < l.length + 1 by omega)
    refine ⟨p, q, l, m, y, c5, by rw [← ec5]; rfl, hp, hq, okL, okM, wL, wM, by omega, by omega, hy, by omega, fun H39 s39 => ?_⟩
    replace w := w.same s39
    replace hL := hL.mono s39
    replace hM := hM.mono s39
    replace hp := hp.mono s39
    replace hq := hq.mono s39
    clear s39
    try dsimp only [List.set]
    walk_at "go"
    clear ec5 hc5
    obtain ⟨vr, emr⟩ := w.pl
    refine ⟨d2, p2, 32, vr, e2, rfl, SqL.of w.hA, w.hd, emr, w.ne, fun r6 r60 r61 => ?_⟩
    obtain ⟨s40, _⟩ := (w.tk (K := K)).next emr
    generalize upd H39 p2 (.lst [.int ((vr + 1 : Nat) : Int)]) = H40 at s40 ⊢
    clear emr
    have sd := s40.smD w.pl
    replace w := Pl.own s40
    replace hL := hL.monoD sd
    replace hM := hM.monoD sd
    replace hp := PaAt.monoW sd.w hp
    replace hq := PaAt.monoW sd.w hq
    clear sd s40
    try dsimp only [List.set]
    walk_at "go"
    refine ⟨fun σ J => ∃ (c : Nat), Pl J d2 p2 e2 32 ∧ DaAt J l L ∧ DaAt J m M ∧ PaAt k K J l p ∧ PaAt k K J m q ∧ c ≤ 100 ∧ wtL l * c ≤ 390 ∧ σ = [some (.ref a), some (.ref d2), some (.ref p2), some (.str (S ps)), some (.ref L), some (.ref M), some (.str (S [y])), none, some (.ref O), some (.str (S [z])), some (.ref p), some (.ref q), some (.int (c : Int)), none], ?_, ?_⟩
    · skip
      try dsimp only [List.set]
      walk_at "go"
      obtain ⟨vr, emr⟩ := w.pl
      refine ⟨d2, p2, 32, vr, e2, rfl, SqL.of w.hA, w.hd, emr, w.ne, fun r7 r70 r71 => ?_⟩
      obtain ⟨s41, _⟩ := (w.tk (K := K)).next emr
      generalize upd H40 p2 (.lst [.int ((vr + 1 : Nat) : Int)]) = H41 at s41 ⊢
      clear emr
      have sd := s41.smD w.pl
      replace w := Pl.own s41
      replace hL := hL.monoD sd
      replace hM := hM.monoD sd
      replace hp := PaAt.monoW sd.w hp
      replace hq := PaAt.monoW sd.w hq
      clear sd s41
      try dsimp only [List.set]
      walk_at "go"
      refine ite2 (fun _ => ?_) (fun _ => ?_)
      · skip
        try dsimp only [List.set]
        walk_at "go"
        obtain ⟨vr, emr⟩ := w.pl
        refine ⟨d2, p2, 32, vr, e2, rfl, SqL.of w.hA, w.hd, emr, w.ne, fun r8 r80 r81 => ?_⟩
        obtain ⟨s42, _⟩ := (w.tk (K := K)).next emr
        generalize upd H41 p2 (.lst [.int ((vr + 1 : Nat) : Int)]) = H42 at s42 ⊢
        clear emr
        have sd := s42.smD w.pl
        replace w := Pl.own s42
        replace hL := hL.monoD sd
        replace hM := hM.monoD sd
        replace hp := PaAt.monoW sd.w hp
        replace hq := PaAt.monoW sd.w hq
        clear sd s42
        try dsimp only [List.set]
        walk_at "go"
        refine ⟨L, l, rfl, hL, okL, by omega, by omega, fun H43 s43 => ?_⟩
        replace w := w.same s43
        replace hL := hL.mono s43
        replace hM := hM.mono s43
        replace hp := hp.mono s43
        replace hq := hq.mono s43
        clear s43
        try dsimp only [List.set]
        walk_at "go"
        obtain ⟨h80, c8, ec8, h81, h82⟩ := cnt_of r8 (wtL l)
        refine ⟨h80, ?_⟩
        exact ⟨c8, w, hL, hM, hp, hq, h81, h82, by rw [← ec8]; rfl⟩
      · exact ⟨(r6 % 5).toNat, w, hL, hM, hp, hq, by omega, Nat.le_trans (Nat.mul_le_mul wL (show (r6 % 5).toNat ≤ 4 by omega)) (by decide), by rw [Int.toNat_of_nonneg (by omega)]⟩
    clear w hL hM hp hq
    rintro σ J ⟨c, w, hL, hM, hp, hq, c100, hwc, rfl⟩
    try dsimp only [List.set]
    walk_at "go"
    refine ⟨p, l, y, c, rfl, hp, okL, wL, by omega, hy, c100, hwc, fun H44 s44 => ?_⟩
    replace w := w.same s44
    replace hL := hL.mono s44
    replace hM := hM.mono s44
    replace hp := hp.mono s44
    replace hq := hq.mono s44
    clear s44
    try dsimp only [List.set]
    walk_at "go"
    refine ⟨p, q, l, m, y, z, rfl, hp, hq, okL, okM, wL, wM, by omega, by omega, hy, hz, ne, fun H45 s45 => ?_⟩
    replace w := w.same s45
    replace hL := hL.mono s45
    replace hM := hM.mono s45
    replace hp := hp.mono s45
    replace hq := hq.mono s45
    clear s45
    try dsimp only [List.set]
    walk_at "go"
    refine ⟨p, l, y, z, rfl, hp, okL, wL, by omega, hy, hz, fun H46 s46 => ?_⟩
    replace w := w.same s46
    replace hL := hL.mono s46
    replace hM := hM.mono s46
    replace hp := hp.mono s46
    replace hq := hq.mono s46
    clear s46
    try dsimp only [List.set]
    walk_at "go"
    obtain ⟨vr, emr⟩ := w.pl
    refine ⟨d2, p2, 32, vr, e2, rfl, SqL.of w.hA, w.hd, emr, w.ne, fun r9 r90 r91 => ?_⟩
    obtain ⟨s47, _⟩ := (w.tk (K := K)).next emr
    generalize upd H46 p2 (.lst [.int ((vr + 1 : Nat) : Int)]) = H47 at s47 ⊢
    clear emr
    have sd := s47.smD w.pl
    replace w := Pl.own s47
    replace hL := hL.monoD sd
    replace hM := hM.monoD sd
    replace hp := PaAt.monoW sd.w hp
    replace hq := PaAt.monoW sd.w hq
    clear sd s47
    try dsimp only [List.set]
    walk_at "go"
    intro am ham
    try dsimp only [List.set]
    walk_at "go"
    refine ⟨p, l, y, z, am, rfl, hp, okL, wL, by omega, hy, hz, ne, ham, fun H48 s48 => ?_⟩
    replace w := w.same s48
    replace hL := hL.mono s48
    replace hM := hM.mono s48
    replace hp := hp.mono s48
    replace hq := hq.mono s48
    clear s48
    try dsimp only [List.set]
    walk_at "go"
    refine ⟨L, l, rfl, hL, okL, by omega, by omega, fun I H49 s49 nI hI => ?_⟩
    replace hI := hI.mono nwT_same
    replace w := w.same s49
    replace hL := hL.mono s49
    replace hM := hM.mono s49
    replace hp := hp.mono s49
    replace hq := hq.mono s49
    clear s49
    try dsimp only [List.set]
    walk_at "go"
    have iw := Zn.idL_wt l
    have id1 := Zn.idL_dp l
    refine ⟨I, _, rfl, hI, Zn.idL_ok l okL, by omega, by omega, by omega, fun x H50 s50 _ hx => ?_⟩
    replace w := w.same s50
    replace hL := hL.mono s50
    replace hM := hM.mono s50
    replace hp := hp.mono s50
    replace hq := hq.mono s50
    clear s50
    try dsimp only [List.set]
    walk_at "go"
    rw [show Str.ofString "a" = S [97] by decide +kernel]
    refine ⟨x, _, [97], rfl, (show 1 ≤ 10000 by decide), hx, Zn.idL_ok l okL, by omega, by omega, .inl ⟨97, rfl, (by decide), fun n H51 u s51 hn hu => ?_⟩⟩
    replace w := w.same s51
    replace hL := hL.mono s51
    replace hM := hM.mono s51
    replace hp := hp.mono s51
    replace hq := hq.mono s51
    clear s51
    try dsimp only [List.set]
    walk_at "go"
    have z0 : Nd.val u.1 u.2.1 u.2.2 (some 0) = some 0 := Zn.idle_RL _ u (Zn.idL_idle l) hu
    have ou := Zn.RL.ok _ _ _ hu
    obtain ⟨dxn, rn, qn, en, _⟩ := id hn
    refine ⟨⟨dxn, _, en⟩, _, _, some 0, n, _, rfl, hn, ou, Zn.okk0, ?_⟩
    rw [z0]
    try dsimp only [List.set]
    walk_at "go"
    refine ⟨⟨dxn, _, en⟩, _, _, some 0, n, _, rfl, hn, ou, Zn.okk0, ?_⟩
    rw [z0]
    try dsimp only [List.set]
    walk_at "go"
    exact qq _
end
end Z
set_option pp.maxSteps 700
set_option Elab.async false
set_option linter.all false
set_option maxRecDepth 100000
set_option maxHeartbeats 4000000
namespace Z
open PySem PySem.Spec PyProof.Rows L2 Pk NdefX Zr
/-! ### the head's facts of part classes; the inductions over the depth -/
theorem supI_of {P : Program} {K : PySem.W.Frag} {x y q fl : Str} {st : Stmt} (h1 : supObs K x = supVal q st) (h2 : supP fl K (He.ga K x) (He.ga K y) q = true) (hfl : ((P.main.file : Str) == fl) = true) (htop : (P.main.scope.names.lookup ("super" : Str)).isSome = false) :
    ∃ (fd : FuncData) (c cc : Addr) (kV doc pm ct : Value) (an : Option Addr), fd = PySem.W.fnX "__init__" q (defArgs st) (defBody st) (defScope st) [(("__class__" : Str), cc)] .none kV doc pm an (.ref c) ct ∧ SupI P K (He.ga K x) (He.ma K (He.ga K x) "__init__") (He.ma K (He.ga K y) "__init__") q st fd := by
  obtain ⟨g0, h2⟩ := He.ba h2
  obtain ⟨g1, h2⟩ := He.ba h2
  obtain ⟨g2, h2⟩ := He.ba h2
  obtain ⟨g3, h2⟩ := He.ba h2
  obtain ⟨g4, g5⟩ := He.ba h2
  unfold supObs at h1
  cases e : initFd K (He.ga K x) with
  | none =>
    rw [e] at h1
    cases h1
  | some fd =>
    rw [e] at h1 g0
    have lk : ∃ oc od osl, K.lookup (He.ma K (He.ga K x) "__init__") = some ⟨oc, od, .func fd, osl⟩ := by
      unfold initFd at e
      split at e
      · next oc od fd' osl l =>
        cases e
        exact ⟨_, _, _, l⟩
      · cases e
    obtain ⟨n1, n2, n3, n4, n5, n6, n7, n8, n9, n10, n11, n12, n13, n14, n15⟩ := fd
    have h1 : (some (n1, n2, n3, n4, n5, n6, n7.map (·.1), n8, n15) : SupV) = supVal q st := h1
    unfold supVal at h1
    simp only [Option.some.injEq, Prod.mk.injEq] at h1
    obtain ⟨a1, a2, a3, a4, a5, a6, a7, a8, a9⟩ := h1
    subst a1 a2 a3 a4 a5 a6 a8 a9
    dsimp only at g0
    split at g0
    · next c y' cc =>
      obtain ⟨b1, g0⟩ := He.ba g0
      obtain ⟨b2, b3⟩ := He.ba g0
      have ey : y' = "__class__" := by
        have := a7
        simpa using this
      subst ey
      refine ⟨_, c, cc, _, _, _, _, _, rfl, ⟨c, cc, _, _, _, _, _, _, rfl, ⟨lk, ?_, ?_, htop, of_decide_eq_true g1, He.eqO_ok g2, He.eqO_ok g3, of_decide_eq_true g4, g5⟩, b1⟩⟩
      · split at b2
        · next u1 u2 vs u3 l =>
          split at b2
          · next file tf ev =>
            refine ⟨_, _, vs, _, file, tf, l, ev, ?_⟩
            rw [beq_iff_eq.mp b2] at hfl
            exact hfl
          · cases b2
        · cases b2
      · split at b3
        · next u1 u2 D u3 l =>
          have := of_decide_eq_true b3
          subst this
          exact ⟨_, _, _, l⟩
        · cases b3
    · cases g0
theorem conB_ok {K : PySem.W.Frag} {C : Addr} {f z : Str} (hf : PySem.W.copiedNames.contains f = false) (h : conB K C f z = true) : ∃ u, Con K C f (.str z) u := by
  unfold conB at h
  split at h
  · next y t e =>
    obtain ⟨h1, h2⟩ := He.ba h
    have := of_decide_eq_true h1
    subst this
    exact ⟨_, e, ⟨t, rfl⟩, He.eqO_ok h2, hf⟩
  · cases h
theorem fnr_okX {P : Program} {w : World} {K : PySem.W.Frag} {mg : Str → Option Value} {base : Heap} {CX : CXT} {k : Nat} {f : Addr} {fd : FuncData} {ps : List Str} {sp : Sp} (F : FnOk P w K mg base CX k f fd ps sp) (b : Binds K fd ps []) : FnR P w K mg base CX k f sp := (FnOk.raw (dvs := []) F b .nil).imp fun vs H Q E h => by
  show sp (vs ++ []) H Q E
  rw [List.append_nil]
  exact h
section
variable {P : Program} {w : World} {K : PySem.W.Frag} {mg : Str → Option Value} {base : Heap} {f f2 f3 C CP CB CH : Addr} {k : Cs} {fd fd2 fd3 : FuncData}
theorem l23 (d : Nat) : 2 * (d + 1) + 6 = 2 * d + 8 := by omega
theorem l25 (d : Nat) : 2 * (d + 1) + 5 = 2 * d + 7 := by omega
theorem l35 (d : Nat) : 3 * (d + 1) + 5 = 3 * d + 8 := by omega
theorem all_build (F : FnP K "_law_build" s_build f fd) (g : mg "_law_build" = some (.ref f)) (b : Binds K fd P_build []) (F2 : FnP K "_law_build_part" s_build_part f2 fd2) (g2 : mg "_law_build_part" = some (.ref f2)) (b2 : Binds K fd2 P_build_part []) (y_Pact : MakY P w K mg base 4 "Pact" (spP k K)) (y_Transfer : MakY P w K mg base 5 "Transfer" (spT k K)) (y_Event : MakY P w K mg base 5 "Event" (spE k K)) (y_Choice : MakY P w K mg base 5 "Choice" (spC k K)) (y_Rounds : MakY P w K mg base 5 "Rounds" (spR k K)) (y_Endless : MakY P w K mg base 5 "Endless" (spN k K)) (y_Times : MakY P w K mg base 5 "Times" (spM k K)) : ∀ d, Cal P w K mg base (2 * d + 6) "_law_build" (spBl k K d)
  | 0 => cal_of F g b (no_fn fun vs H Q E h => by obtain ⟨L, l, _, _, _, _, _, z, _⟩ := h; omega)
  | d + 1 => by
    have c_build := all_build F g b F2 g2 b2 y_Pact y_Transfer y_Event y_Choice y_Rounds y_Endless y_Times d
    have c_part := cal_of F2 g2 b2 (ok_build_part F2 y_Transfer y_Event y_Choice y_Rounds y_Endless y_Times c_build)
    rw [l23]
    exact cal_of F g b (ok_build F y_Pact c_part)
theorem all_weight (F : FnP K "_law_weight" s_weight f fd) (g : mg "_law_weight" = some (.ref f)) (b : Binds K fd P_weight []) (F2 : FnP K "_law_part_weight" s_part_weight f2 fd2) (g2 : mg "_law_part_weight" = some (.ref f2)) (b2 : Binds K fd2 P_part_weight []) (m_sum : mg "sum" = none) (m_max : mg "max" = none) : ∀ d, Cal P w K mg base (2 * d + 6) "_law_weight" (spWl d)
  | 0 => cal_of F g b (no_fn fun vs H Q E h => by obtain ⟨L, l, _, _, _, _, z, _⟩ := h; omega)
  | d + 1 => by
    have c_weight := all_weight F g b F2 g2 b2 m_sum m_max d
    have c_part := cal_of F2 g2 b2 (ok_part_weight F2 m_sum m_max c_weight)
    rw [l23]
    exact cal_of F g b (ok_weight F m_sum c_part)
theorem all_pact (F : FnP K "_law_pact" s_pact f fd) (g : mg "_law_pact" = some (.ref f)) (b : Binds K fd P_pact []) (F2 : FnP K "_law_part" s_part f2 fd2) (g2 : mg "_law_part" = some (.ref f2)) (b2 : Binds K fd2 P_part []) (m_int : mg "int" = none) (m_len : mg "len" = none) (m_range : mg "range" = none) (c_take : Cal P w K mg base 1 "_law_take" (spTake K)) (c_amount : Cal P w K mg base 1 "_law_amount" spAm) : ∀ d, Cal P w K mg base (2 * d + 6) "_law_pact" (spPc K d)
  | 0 => cal_of F g b (no_fn fun vs H Q E h => by obtain ⟨a, p, n, e, ds, ps, ms, _, _, _, z, _⟩ := h; omega)
  | d + 1 => by
    have c_pact := all_pact F g b F2 g2 b2 m_int m_len m_range c_take c_amount d
    have c_part := cal_of F2 g2 b2 (ok_part_ F2 m_int m_len m_range c_take c_amount c_pact)
    rw [l23]
    exact cal_of F g b (ok_pact F m_int m_range c_take c_part)
theorem all_need_of (F : FnP K "need_of" s_need_of f fd) (g : mg "need_of" = some (.ref f)) (b : Binds K fd P_need_of []) (F2 : FnP K "need_of_part" s_need_of_part f2 fd2) (g2 : mg "need_of_part" = some (.ref f2)) (b2 : Binds K fd2 P_need_of_part []) (F3 : FnP K "need_of_choice" s_need_of_choice f3 fd3) (g3 : mg "need_of_choice" = some (.ref f3)) (b3 : Binds K fd3 P_need_of_choice []) (pa : PtA K k) (k_Need : Mak P w K mg base 2 "Need" (Zn.spNeed C K)) (o_rshift : Bin2 P w K mg base 4 C "__rshift__" (Zn.spRsh C K)) (o_or : Bin2 P w K mg base 4 C "__or__" (Zn.spMM true C K)) (o_and : Bin2 P w K mg base 4 C "__and__" (Zn.spMM false C K)) (me_endless : Met P w K mg base 4 C "endless" (Zn.spEndless C K)) (me_mine : Met P w K mg base 4 C "mine" (Zn.spMine C K)) (me_theirs : Met P w K mg base 4 C "theirs" (Zn.spTheirs C K)) (o_mul : BinI P w K mg base 5 C .Mult (Zn.spMul C CB K)) (c_check_party : CalX P w K mg base 3 "check_party" (spChP CP)) (c_need_of_transfer : Cal P w K mg base 4 "need_of_transfer" (spNdT C k K)) : ∀ d, CalX P w K mg base (3 * d + 5) "need_of" (spNo C CP k K d)
  | 0 => ⟨_, _, _, no_fn fun vs H Q E h => by obtain ⟨x, q, t, _, _, _, _, _, z, _⟩ := h; omega, g, F.kp, b⟩
  | d + 1 => by
    have c_need_of := all_need_of F g b F2 g2 b2 F3 g3 b3 pa k_Need o_rshift o_or o_and me_endless me_mine me_theirs o_mul c_check_party c_need_of_transfer d
    have c_choice := cal_of F3 g3 b3 (ok_need_of_choice F3 pa o_or o_and c_need_of)
    have c_part := cal_of F2 g2 b2 (ok_need_of_part F2 pa k_Need me_endless me_mine me_theirs o_mul c_need_of_transfer c_choice c_need_of)
    rw [l35]
    exact ⟨_, _, _, ok_need_of F pa k_Need o_rshift c_check_party c_part, g, F.kp, b⟩
theorem all_idle (F : FnP K "_law_idle" s_idle f fd) (g : mg "_law_idle" = some (.ref f)) (b : Binds K fd P_idle []) (F2 : FnP K "_law_idle_part" s_idle_part f2 fd2) (g2 : mg "_law_idle_part" = some (.ref f2)) (b2 : Binds K fd2 P_idle_part []) : ∀ d, Cal P w K mg base (2 * d + 6) "_law_idle" (spIl d)
  | 0 => cal_of F g b (no_fn fun vs H Q E h => by obtain ⟨L, l, _, _, _, _, z, _⟩ := h; omega)
  | d + 1 => by
    have c_idle := all_idle F g b F2 g2 b2 d
    have c_part := cal_of F2 g2 b2 (ok_idle_part F2 c_idle)
    rw [l23]
    exact cal_of F g b (ok_idle F c_part)
end
end Z
set_option pp.maxSteps 700
set_option Elab.async false
set_option linter.all false
set_option maxRecDepth 100000
set_option maxHeartbeats 4000000
set_option maxHeartbeats 0
namespace Z
open PySem PySem.Spec PyProof.Rows L2 Pk NdefX Zn
open Zr hiding s_value_at s_joined s_marks_of s_track s_rising_part s_combined s_composed s_flat_point s_greatest_value s_Need___init__ s_Need_value_for s_Need___rshift__ s_Need___or__ s_Need___and__ s_Need___mul__ s_Need_mine s_Need_theirs s_Need_endless s_is_party s_is_mark s_check_party s_check_mark s_check_size s_as_pact s_Part___init__ s_Pact___init__ s_need_of_transfer s_need_of_choice s_need_of_part s_need_of s_cell s_draws s_take s_parties s_amount s_pact s_part s_weight s_part_weight s_cut s_build s_build_part s_is_number s_fields s_first_above s_Need___call__ s_Need_excess s_Pact___add__ s_Pact___mul__ s_Pact___getitem__ s_same s_law_joined s_repeated s_wrapped s_unrolled s_paid s_idle s_idle_part s_pacts s_size s_law s_Transfer___init__ s_Event___init__ s_Choice___init__ s_Rounds___init__ s_Endless___init__ s_Times___init__
abbrev kk (K : PySem.W.Frag) : Cs := ⟨He.ga K "Transfer", He.ga K "Event", He.ga K "Choice", He.ga K "Rounds", He.ga K "Endless", He.ga K "Times", He.ga K "Pact"⟩
theorem kb_combined {K : PySem.W.Frag} {f : Addr} {fd : FuncData} (F : FnP K "combined" s_combined f fd) : KBn K fd P_combined 2 ["smaller"] (fun us ws => us ++ ws) (fun vs zs => vs ++ zs) := by
  obtain ⟨oc, od, dV, kV, doc, pm, an, cdv, ct, osl, rfl, lk, hcd, hD, hK⟩ := F.ex
  rcases hD with ⟨_, rfl⟩ | ⟨e, _⟩
  · exact ⟨fun s us ws X l1 l2 => .of_eq (match us, l1, ws, l2 with | [_, _], _, [_], _ => rfl), fun r1 r2 => r1.append r2⟩
  · exact absurd rfl e
theorem facts {P : Program} {w : World} {K : PySem.W.Frag} {h : Heap} {mg : Str → Option Value} {f : Addr} (X : K.In h) (G : h.Ns mainGlobals mg) (hfa : mg ("law" : Str) = some (.ref f)) (c : He.SaysD fa fn K) (cs : xns.map (fun f => f K) = xvs) (cx : ex K = true) (hfl : ((P.main.file : Str) == fl) = true) (htop : (P.main.scope.names.lookup ("super" : Str)).isSome = false) :
    ∃ fd : FuncData, (∀ (s : Shared) (v : Value), BindsTo s fd ⟨[v], []⟩ [("_law_script", v)]) ∧ ∀ base : Heap, K.In base → base.Ns mainGlobals mg → FnOk P w K mg base CX0 110 f fd ["_law_script"] (spLaw K) := by
  obtain ⟨cx, cu⟩ := He.ba cx
  obtain ⟨cu, cv⟩ := He.ba cu
  obtain ⟨cx, cy⟩ := He.ba cx
  obtain ⟨cp, cu⟩ := He.ba cu
  obtain ⟨ci, ck⟩ := He.ba cv
  obtain ⟨ck, cn⟩ := He.ba ck
  obtain ⟨fd_value_at, F_value_at⟩ := c.def_ 0 (d := d_value_at) rfl
  have F_value_at : FnP K "value_at" s_value_at _ fd_value_at := F_value_at
  have g_value_at := He.glo_ok X G (c.fact 0 (f := .glo "value_at") rfl)
  have b_value_at : Binds K fd_value_at P_value_at [] := F_value_at.bindsN fun _ _ _ _ _ _ us hl => match us, hl with | [_, _, _], _ => rfl
  obtain ⟨fd_joined, F_joined⟩ := c.def_ 1 (d := d_joined) rfl
  have F_joined : FnP K "joined" s_joined _ fd_joined := F_joined
  have g_joined := He.glo_ok X G (c.fact 1 (f := .glo "joined") rfl)
  have b_joined : Binds K fd_joined P_joined [] := F_joined.bindsN fun _ _ _ _ _ _ us hl => match us, hl with | [_], _ => rfl
  obtain ⟨fd_marks_of, F_marks_of⟩ := c.def_ 2 (d := d_marks_of) rfl
  have F_marks_of : FnP K "marks_of" s_marks_of _ fd_marks_of := F_marks_of
  have g_marks_of := He.glo_ok X G (c.fact 2 (f := .glo "marks_of") rfl)
  have b_marks_of : Binds K fd_marks_of P_marks_of [] := F_marks_of.bindsN fun _ _ _ _ _ _ us hl => match us, hl with | [_, _], _ => rfl
  obtain ⟨fd_track, F_track⟩ := c.def_ 3 (d := d_track) rfl
  have F_track : FnP K "track" s_track _ fd_track := F_track
  have g_track := He.glo_ok X G (c.fact 3 (f := .glo "track") rfl)
  have b_track : Binds K fd_track P_track [] := F_track.bindsN fun _ _ _ _ _ _ us hl => match us, hl with | [_, _, _], _ => rfl
  obtain ⟨fd_rising_part, F_rising_part⟩ := c.def_ 4 (d := d_rising_part) rfl
  have F_rising_part : FnP K "rising_part" s_rising_part _ fd_rising_part := F_rising_part
  have g_rising_part := He.glo_ok X G (c.fact 4 (f := .glo "rising_part") rfl)
  have b_rising_part : Binds K fd_rising_part P_rising_part [] := F_rising_part.bindsN fun _ _ _ _ _ _ us hl => match us, hl with | [_, _, _, _], _ => rfl
  obtain ⟨fd_combined, F_combined⟩ := c.def_ 5 (d := d_combined) rfl
  have F_combined : FnP K "combined" s_combined _ fd_combined := F_combined
  have g_combined := He.glo_ok X G (c.fact 5 (f := .glo "combined") rfl)
  obtain ⟨fd_composed, F_composed⟩ := c.def_ 6 (d := d_composed) rfl
  have F_composed : FnP K "composed" s_composed _ fd_composed := F_composed
  have g_composed := He.glo_ok X G (c.fact 6 (f := .glo "composed") rfl)
  have b_composed : Binds K fd_composed P_composed [] := F_composed.bindsN fun _ _ _ _ _ _ us hl => match us, hl with | [_, _], _ => rfl
  obtain ⟨fd_flat_point, F_flat_point⟩ := c.def_ 7 (d := d_flat_point) rfl
  have F_flat_point : FnP K "flat_point" s_flat_point _ fd_flat_point := F_flat_point
  have g_flat_point := He.glo_ok X G (c.fact 7 (f := .glo "flat_point") rfl)
  have b_flat_point : Binds K fd_flat_point P_flat_point [] := F_flat_point.bindsN fun _ _ _ _ _ _ us hl => match us, hl with | [_, _], _ => rfl
  obtain ⟨fd_greatest_value, F_greatest_value⟩ := c.def_ 8 (d := d_greatest_value) rfl
  have F_greatest_value : FnP K "greatest_value" s_greatest_value _ fd_greatest_value := F_greatest_value
  have g_greatest_value := He.glo_ok X G (c.fact 8 (f := .glo "greatest_value") rfl)
  have b_greatest_value : Binds K fd_greatest_value P_greatest_value [] := F_greatest_value.bindsN fun _ _ _ _ _ _ us hl => match us, hl with | [_, _], _ => rfl
  obtain ⟨fd_Need___init__, F_Need___init__⟩ := c.def_ 9 (d := d_Need___init__) rfl
  have F_Need___init__ : FnM K "__init__" "Need.__init__" s_Need___init__ (He.ma K (He.ga K "Need") "__init__") fd_Need___init__ := F_Need___init__
  have b_Need___init__ : Binds K fd_Need___init__ P_Need___init__ [] := F_Need___init__.bindsN fun _ _ _ _ _ _ us hl => match us, hl with | [_, _, _, _], _ => rfl
  obtain ⟨fd_Need_value_for, F_Need_value_for⟩ := c.def_ 10 (d := d_Need_value_for) rfl
  have F_Need_value_for : FnM K "value_for" "Need.value_for" s_Need_value_for (He.ma K (He.ga K "Need") "value_for") fd_Need_value_for := F_Need_value_for
  have b_Need_value_for : Binds K fd_Need_value_for P_Need_value_for [] := F_Need_value_for.bindsN fun _ _ _ _ _ _ us hl => match us, hl with | [_, _], _ => rfl
  obtain ⟨fd_Need___rshift__, F_Need___rshift__⟩ := c.def_ 11 (d := d_Need___rshift__) rfl
  have F_Need___rshift__ : FnM K "__rshift__" "Need.__rshift__" s_Need___rshift__ (He.ma K (He.ga K "Need") "__rshift__") fd_Need___rshift__ := F_Need___rshift__
  have b_Need___rshift__ : Binds K fd_Need___rshift__ P_Need___rshift__ [] := F_Need___rshift__.bindsN fun _ _ _ _ _ _ us hl => match us, hl with | [_, _], _ => rfl
  obtain ⟨fd_Need___or__, F_Need___or__⟩ := c.def_ 12 (d := d_Need___or__) rfl
  have F_Need___or__ : FnM K "__or__" "Need.__or__" s_Need___or__ (He.ma K (He.ga K "Need") "__or__") fd_Need___or__ := F_Need___or__
  have b_Need___or__ : Binds K fd_Need___or__ P_Need___or__ [] := F_Need___or__.bindsN fun _ _ _ _ _ _ us hl => match us, hl with | [_, _], _ => rfl
  obtain ⟨fd_Need___and__, F_Need___and__⟩ := c.def_ 13 (d := d_Need___and__) rfl
  have F_Need___and__ : FnM K "__and__" "Need.__and__" s_Need___and__ (He.ma K (He.ga K "Need") "__and__") fd_Need___and__ := F_Need___and__
  have b_Need___and__ : Binds K fd_Need___and__ P_Need___and__ [] := F_Need___and__.bindsN fun _ _ _ _ _ _ us hl => match us, hl with | [_, _], _ => rfl
  obtain ⟨fd_Need___mul__, F_Need___mul__⟩ := c.def_ 14 (d := d_Need___mul__) rfl
  have F_Need___mul__ : FnM K "__mul__" "Need.__mul__" s_Need___mul__ (He.ma K (He.ga K "Need") "__mul__") fd_Need___mul__ := F_Need___mul__
  have b_Need___mul__ : Binds K fd_Need___mul__ P_Need___mul__ [] := F_Need___mul__.bindsN fun _ _ _ _ _ _ us hl => match us, hl with | [_, _], _ => rfl
  obtain ⟨fd_Need_mine, F_Need_mine⟩ := c.def_ 15 (d := d_Need_mine) rfl
  have F_Need_mine : FnM K "mine" "Need.mine" s_Need_mine (He.ma K (He.ga K "Need") "mine") fd_Need_mine := F_Need_mine
  have b_Need_mine : Binds K fd_Need_mine P_Need_mine [] := F_Need_mine.bindsN fun _ _ _ _ _ _ us hl => match us, hl with | [_], _ => rfl
  obtain ⟨fd_Need_theirs, F_Need_theirs⟩ := c.def_ 16 (d := d_Need_theirs) rfl
  have F_Need_theirs : FnM K "theirs" "Need.theirs" s_Need_theirs (He.ma K (He.ga K "Need") "theirs") fd_Need_theirs := F_Need_theirs
  have b_Need_theirs : Binds K fd_Need_theirs P_Need_theirs [] := F_Need_theirs.bindsN fun _ _ _ _ _ _ us hl => match us, hl with | [_], _ => rfl
  obtain ⟨fd_Need_endless, F_Need_endless⟩ := c.def_ 17 (d := d_Need_endless) rfl
  have F_Need_endless : FnM K "endless" "Need.endless" s_Need_endless (He.ma K (He.ga K "Need") "endless") fd_Need_endless := F_Need_endless
  have b_Need_endless : Binds K fd_Need_endless P_Need_endless [] := F_Need_endless.bindsN fun _ _ _ _ _ _ us hl => match us, hl with | [_], _ => rfl
  obtain ⟨fd_is_party, F_is_party⟩ := c.def_ 18 (d := d_is_party) rfl
  have F_is_party : FnP K "is_party" s_is_party _ fd_is_party := F_is_party
  have g_is_party := He.glo_ok X G (c.fact 9 (f := .glo "is_party") rfl)
  have b_is_party : Binds K fd_is_party P_is_party [] := F_is_party.bindsN fun _ _ _ _ _ _ us hl => match us, hl with | [_], _ => rfl
  obtain ⟨fd_is_mark, F_is_mark⟩ := c.def_ 19 (d := d_is_mark) rfl
  have F_is_mark : FnP K "is_mark" s_is_mark _ fd_is_mark := F_is_mark
  have g_is_mark := He.glo_ok X G (c.fact 10 (f := .glo "is_mark") rfl)
  have b_is_mark : Binds K fd_is_mark P_is_mark [] := F_is_mark.bindsN fun _ _ _ _ _ _ us hl => match us, hl with | [_], _ => rfl
  obtain ⟨fd_check_party, F_check_party⟩ := c.def_ 20 (d := d_check_party) rfl
  have F_check_party : FnP K "check_party" s_check_party _ fd_check_party := F_check_party
  have g_check_party := He.glo_ok X G (c.fact 11 (f := .glo "check_party") rfl)
  have b_check_party : Binds K fd_check_party P_check_party [] := F_check_party.bindsN fun _ _ _ _ _ _ us hl => match us, hl with | [_], _ => rfl
  obtain ⟨fd_check_mark, F_check_mark⟩ := c.def_ 21 (d := d_check_mark) rfl
  have F_check_mark : FnP K "check_mark" s_check_mark _ fd_check_mark := F_check_mark
  have g_check_mark := He.glo_ok X G (c.fact 12 (f := .glo "check_mark") rfl)
  have b_check_mark : Binds K fd_check_mark P_check_mark [] := F_check_mark.bindsN fun _ _ _ _ _ _ us hl => match us, hl with | [_], _ => rfl
  obtain ⟨fd_check_size, F_check_size⟩ := c.def_ 22 (d := d_check_size) rfl
  have F_check_size : FnP K "check_size" s_check_size _ fd_check_size := F_check_size
  have g_check_size := He.glo_ok X G (c.fact 13 (f := .glo "check_size") rfl)
  have b_check_size : Binds K fd_check_size P_check_size [] := F_check_size.bindsN fun _ _ _ _ _ _ us hl => match us, hl with | [_, _], _ => rfl
  obtain ⟨fd_as_pact, F_as_pact⟩ := c.def_ 23 (d := d_as_pact) rfl
  have F_as_pact : FnP K "as_pact" s_as_pact _ fd_as_pact := F_as_pact
  have g_as_pact := He.glo_ok X G (c.fact 14 (f := .glo "as_pact") rfl)
  have b_as_pact : Binds K fd_as_pact P_as_pact [] := F_as_pact.bindsN fun _ _ _ _ _ _ us hl => match us, hl with | [_], _ => rfl
  obtain ⟨fd_Part___init__, F_Part___init__⟩ := c.def_ 24 (d := d_Part___init__) rfl
  have F_Part___init__ : FnM K "__init__" "Part.__init__" s_Part___init__ (He.ma K (He.ga K "Part") "__init__") fd_Part___init__ := F_Part___init__
  have b_Part___init__ : Binds K fd_Part___init__ P_Part___init__ [] := F_Part___init__.bindsN fun _ _ _ _ _ _ us hl => match us, hl with | [_, _, _, _], _ => rfl
  obtain ⟨fd_Pact___init__, F_Pact___init__⟩ := c.def_ 25 (d := d_Pact___init__) rfl
  have F_Pact___init__ : FnM K "__init__" "Pact.__init__" s_Pact___init__ (He.ma K (He.ga K "Pact") "__init__") fd_Pact___init__ := F_Pact___init__
  have b_Pact___init__ : Binds K fd_Pact___init__ P_Pact___init__ [] := F_Pact___init__.bindsN fun _ _ _ _ _ _ us hl => match us, hl with | [_, _], _ => rfl
  obtain ⟨fd_need_of_transfer, F_need_of_transfer⟩ := c.def_ 26 (d := d_need_of_transfer) rfl
  have F_need_of_transfer : FnP K "need_of_transfer" s_need_of_transfer _ fd_need_of_transfer := F_need_of_transfer
  have g_need_of_transfer := He.glo_ok X G (c.fact 15 (f := .glo "need_of_transfer") rfl)
  have b_need_of_transfer : Binds K fd_need_of_transfer P_need_of_transfer [] := F_need_of_transfer.bindsN fun _ _ _ _ _ _ us hl => match us, hl with | [_, _], _ => rfl
  obtain ⟨fd_need_of_choice, F_need_of_choice⟩ := c.def_ 27 (d := d_need_of_choice) rfl
  have F_need_of_choice : FnP K "need_of_choice" s_need_of_choice _ fd_need_of_choice := F_need_of_choice
  have g_need_of_choice := He.glo_ok X G (c.fact 16 (f := .glo "need_of_choice") rfl)
  have b_need_of_choice : Binds K fd_need_of_choice P_need_of_choice [] := F_need_of_choice.bindsN fun _ _ _ _ _ _ us hl => match us, hl with | [_, _], _ => rfl
  obtain ⟨fd_need_of_part, F_need_of_part⟩ := c.def_ 28 (d := d_need_of_part) rfl
  have F_need_of_part : FnP K "need_of_part" s_need_of_part _ fd_need_of_part := F_need_of_part
  have g_need_of_part := He.glo_ok X G (c.fact 17 (f := .glo "need_of_part") rfl)
  have b_need_of_part : Binds K fd_need_of_part P_need_of_part [] := F_need_of_part.bindsN fun _ _ _ _ _ _ us hl => match us, hl with | [_, _], _ => rfl
  obtain ⟨fd_need_of, F_need_of⟩ := c.def_ 29 (d := d_need_of) rfl
  have F_need_of : FnP K "need_of" s_need_of _ fd_need_of := F_need_of
  have g_need_of := He.glo_ok X G (c.fact 18 (f := .glo "need_of") rfl)
  have b_need_of : Binds K fd_need_of P_need_of [] := F_need_of.bindsN fun _ _ _ _ _ _ us hl => match us, hl with | [_, _], _ => rfl
  obtain ⟨fd_cell, F_cell⟩ := c.def_ 30 (d := d_cell) rfl
  have F_cell : FnP K "_law_cell" s_cell _ fd_cell := F_cell
  have g_cell := He.glo_ok X G (c.fact 19 (f := .glo "_law_cell") rfl)
  have b_cell : Binds K fd_cell P_cell [] := F_cell.bindsN fun _ _ _ _ _ _ us hl => match us, hl with | [_, _], _ => rfl
  obtain ⟨fd_draws, F_draws⟩ := c.def_ 31 (d := d_draws) rfl
  have F_draws : FnP K "_law_draws" s_draws _ fd_draws := F_draws
  have g_draws := He.glo_ok X G (c.fact 20 (f := .glo "_law_draws") rfl)
  have b_draws : Binds K fd_draws P_draws [] := F_draws.bindsN fun _ _ _ _ _ _ us hl => match us, hl with | [_, _], _ => rfl
  obtain ⟨fd_take, F_take⟩ := c.def_ 32 (d := d_take) rfl
  have F_take : FnP K "_law_take" s_take _ fd_take := F_take
  have g_take := He.glo_ok X G (c.fact 21 (f := .glo "_law_take") rfl)
  have b_take : Binds K fd_take P_take [] := F_take.bindsN fun _ _ _ _ _ _ us hl => match us, hl with | [_, _], _ => rfl
  obtain ⟨fd_parties, F_parties⟩ := c.def_ 33 (d := d_parties) rfl
  have F_parties : FnP K "_law_parties" s_parties _ fd_parties := F_parties
  have g_parties := He.glo_ok X G (c.fact 22 (f := .glo "_law_parties") rfl)
  have b_parties : Binds K fd_parties P_parties [] := F_parties.bindsN fun _ _ _ _ _ _ us hl => match us, hl with | [_, _], _ => rfl
  obtain ⟨fd_amount, F_amount⟩ := c.def_ 34 (d := d_amount) rfl
  have F_amount : FnP K "_law_amount" s_amount _ fd_amount := F_amount
  have g_amount := He.glo_ok X G (c.fact 23 (f := .glo "_law_amount") rfl)
  have b_amount : Binds K fd_amount P_amount [] := F_amount.bindsN fun _ _ _ _ _ _ us hl => match us, hl with | [_], _ => rfl
  obtain ⟨fd_pact, F_pact⟩ := c.def_ 35 (d := d_pact) rfl
  have F_pact : FnP K "_law_pact" s_pact _ fd_pact := F_pact
  have g_pact := He.glo_ok X G (c.fact 24 (f := .glo "_law_pact") rfl)
  have b_pact : Binds K fd_pact P_pact [] := F_pact.bindsN fun _ _ _ _ _ _ us hl => match us, hl with | [_, _, _, _, _], _ => rfl
  obtain ⟨fd_part, F_part⟩ := c.def_ 36 (d := d_part) rfl
  have F_part : FnP K "_law_part" s_part _ fd_part := F_part
  have g_part := He.glo_ok X G (c.fact 25 (f := .glo "_law_part") rfl)
  have b_part : Binds K fd_part P_part [] := F_part.bindsN fun _ _ _ _ _ _ us hl => match us, hl with | [_, _, _, _, _], _ => rfl
  obtain ⟨fd_weight, F_weight⟩ := c.def_ 37 (d := d_weight) rfl
  have F_weight : FnP K "_law_weight" s_weight _ fd_weight := F_weight
  have g_weight := He.glo_ok X G (c.fact 26 (f := .glo "_law_weight") rfl)
  have b_weight : Binds K fd_weight P_weight [] := F_weight.bindsN fun _ _ _ _ _ _ us hl => match us, hl with | [_], _ => rfl
  obtain ⟨fd_part_weight, F_part_weight⟩ := c.def_ 38 (d := d_part_weight) rfl
  have F_part_weight : FnP K "_law_part_weight" s_part_weight _ fd_part_weight := F_part_weight
  have g_part_weight := He.glo_ok X G (c.fact 27 (f := .glo "_law_part_weight") rfl)
  have b_part_weight : Binds K fd_part_weight P_part_weight [] := F_part_weight.bindsN fun _ _ _ _ _ _ us hl => match us, hl with | [_], _ => rfl
  obtain ⟨fd_cut, F_cut⟩ := c.def_ 39 (d := d_cut) rfl
  have F_cut : FnP K "_law_cut" s_cut _ fd_cut := F_cut
  have g_cut := He.glo_ok X G (c.fact 28 (f := .glo "_law_cut") rfl)
  have b_cut : Binds K fd_cut P_cut [] := F_cut.bindsN fun _ _ _ _ _ _ us hl => match us, hl with | [_, _], _ => rfl
  obtain ⟨fd_build, F_build⟩ := c.def_ 40 (d := d_build) rfl
  have F_build : FnP K "_law_build" s_build _ fd_build := F_build
  have g_build := He.glo_ok X G (c.fact 29 (f := .glo "_law_build") rfl)
  have b_build : Binds K fd_build P_build [] := F_build.bindsN fun _ _ _ _ _ _ us hl => match us, hl with | [_], _ => rfl
  obtain ⟨fd_build_part, F_build_part⟩ := c.def_ 41 (d := d_build_part) rfl
  have F_build_part : FnP K "_law_build_part" s_build_part _ fd_build_part := F_build_part
  have g_build_part := He.glo_ok X G (c.fact 30 (f := .glo "_law_build_part") rfl)
  have b_build_part : Binds K fd_build_part P_build_part [] := F_build_part.bindsN fun _ _ _ _ _ _ us hl => match us, hl with | [_], _ => rfl
  obtain ⟨fd_is_number, F_is_number⟩ := c.def_ 42 (d := d_is_number) rfl
  have F_is_number : FnP K "_law_is_number" s_is_number _ fd_is_number := F_is_number
  have g_is_number := He.glo_ok X G (c.fact 31 (f := .glo "_law_is_number") rfl)
  have b_is_number : Binds K fd_is_number P_is_number [] := F_is_number.bindsN fun _ _ _ _ _ _ us hl => match us, hl with | [_], _ => rfl
  obtain ⟨fd_fields, F_fields⟩ := c.def_ 43 (d := d_fields) rfl
  have F_fields : FnP K "_law_fields" s_fields _ fd_fields := F_fields
  have g_fields := He.glo_ok X G (c.fact 32 (f := .glo "_law_fields") rfl)
  have b_fields : Binds K fd_fields P_fields [] := F_fields.bindsN fun _ _ _ _ _ _ us hl => match us, hl with | [_], _ => rfl
  obtain ⟨fd_first_above, F_first_above⟩ := c.def_ 44 (d := d_first_above) rfl
  have F_first_above : FnP K "first_above" s_first_above _ fd_first_above := F_first_above
  have g_first_above := He.glo_ok X G (c.fact 33 (f := .glo "first_above") rfl)
  have b_first_above : Binds K fd_first_above P_first_above [] := F_first_above.bindsN fun _ _ _ _ _ _ us hl => match us, hl with | [_, _], _ => rfl
  obtain ⟨fd_Need___call__, F_Need___call__⟩ := c.def_ 45 (d := d_Need___call__) rfl
  have F_Need___call__ : FnM K "__call__" "Need.__call__" s_Need___call__ (He.ma K (He.ga K "Need") "__call__") fd_Need___call__ := F_Need___call__
  have b_Need___call__ : Binds K fd_Need___call__ P_Need___call__ [] := F_Need___call__.bindsN fun _ _ _ _ _ _ us hl => match us, hl with | [_, _], _ => rfl
  obtain ⟨fd_Need_excess, F_Need_excess⟩ := c.def_ 46 (d := d_Need_excess) rfl
  have F_Need_excess : FnM K "excess" "Need.excess" s_Need_excess (He.ma K (He.ga K "Need") "excess") fd_Need_excess := F_Need_excess
  have b_Need_excess : Binds K fd_Need_excess P_Need_excess [] := F_Need_excess.bindsN fun _ _ _ _ _ _ us hl => match us, hl with | [_, _], _ => rfl
  obtain ⟨fd_Pact___add__, F_Pact___add__⟩ := c.def_ 47 (d := d_Pact___add__) rfl
  have F_Pact___add__ : FnM K "__add__" "Pact.__add__" s_Pact___add__ (He.ma K (He.ga K "Pact") "__add__") fd_Pact___add__ := F_Pact___add__
  have b_Pact___add__ : Binds K fd_Pact___add__ P_Pact___add__ [] := F_Pact___add__.bindsN fun _ _ _ _ _ _ us hl => match us, hl with | [_, _], _ => rfl
  obtain ⟨fd_Pact___mul__, F_Pact___mul__⟩ := c.def_ 48 (d := d_Pact___mul__) rfl
  have F_Pact___mul__ : FnM K "__mul__" "Pact.__mul__" s_Pact___mul__ (He.ma K (He.ga K "Pact") "__mul__") fd_Pact___mul__ := F_Pact___mul__
  have b_Pact___mul__ : Binds K fd_Pact___mul__ P_Pact___mul__ [] := F_Pact___mul__.bindsN fun _ _ _ _ _ _ us hl => match us, hl with | [_, _], _ => rfl
  obtain ⟨fd_Pact___getitem__, F_Pact___getitem__⟩ := c.def_ 49 (d := d_Pact___getitem__) rfl
  have F_Pact___getitem__ : FnM K "__getitem__" "Pact.__getitem__" s_Pact___getitem__ (He.ma K (He.ga K "Pact") "__getitem__") fd_Pact___getitem__ := F_Pact___getitem__
  have b_Pact___getitem__ : Binds K fd_Pact___getitem__ P_Pact___getitem__ [] := F_Pact___getitem__.bindsN fun _ _ _ _ _ _ us hl => match us, hl with | [_, _], _ => rfl
  obtain ⟨fd_same, F_same⟩ := c.def_ 50 (d := d_same) rfl
  have F_same : FnP K "_law_same" s_same _ fd_same := F_same
  have g_same := He.glo_ok X G (c.fact 34 (f := .glo "_law_same") rfl)
  have b_same : Binds K fd_same P_same [] := F_same.bindsN fun _ _ _ _ _ _ us hl => match us, hl with | [_, _], _ => rfl
  obtain ⟨fd_law_joined, F_law_joined⟩ := c.def_ 51 (d := d_law_joined) rfl
  have F_law_joined : FnP K "_law_joined" s_law_joined _ fd_law_joined := F_law_joined
  have g_law_joined := He.glo_ok X G (c.fact 35 (f := .glo "_law_joined") rfl)
  have b_law_joined : Binds K fd_law_joined P_law_joined [] := F_law_joined.bindsN fun _ _ _ _ _ _ us hl => match us, hl with | [_, _, _, _], _ => rfl
  obtain ⟨fd_repeated, F_repeated⟩ := c.def_ 52 (d := d_repeated) rfl
  have F_repeated : FnP K "_law_repeated" s_repeated _ fd_repeated := F_repeated
  have g_repeated := He.glo_ok X G (c.fact 36 (f := .glo "_law_repeated") rfl)
  have b_repeated : Binds K fd_repeated P_repeated [] := F_repeated.bindsN fun _ _ _ _ _ _ us hl => match us, hl with | [_, _, _], _ => rfl
  obtain ⟨fd_wrapped, F_wrapped⟩ := c.def_ 53 (d := d_wrapped) rfl
  have F_wrapped : FnP K "_law_wrapped" s_wrapped _ fd_wrapped := F_wrapped
  have g_wrapped := He.glo_ok X G (c.fact 37 (f := .glo "_law_wrapped") rfl)
  have b_wrapped : Binds K fd_wrapped P_wrapped [] := F_wrapped.bindsN fun _ _ _ _ _ _ us hl => match us, hl with | [_, _, _, _], _ => rfl
  obtain ⟨fd_unrolled, F_unrolled⟩ := c.def_ 54 (d := d_unrolled) rfl
  have F_unrolled : FnP K "_law_unrolled" s_unrolled _ fd_unrolled := F_unrolled
  have g_unrolled := He.glo_ok X G (c.fact 38 (f := .glo "_law_unrolled") rfl)
  have b_unrolled : Binds K fd_unrolled P_unrolled [] := F_unrolled.bindsN fun _ _ _ _ _ _ us hl => match us, hl with | [_, _, _], _ => rfl
  obtain ⟨fd_paid, F_paid⟩ := c.def_ 55 (d := d_paid) rfl
  have F_paid : FnP K "_law_paid" s_paid _ fd_paid := F_paid
  have g_paid := He.glo_ok X G (c.fact 39 (f := .glo "_law_paid") rfl)
  have b_paid : Binds K fd_paid P_paid [] := F_paid.bindsN fun _ _ _ _ _ _ us hl => match us, hl with | [_, _, _, _], _ => rfl
  obtain ⟨fd_idle, F_idle⟩ := c.def_ 56 (d := d_idle) rfl
  have F_idle : FnP K "_law_idle" s_idle _ fd_idle := F_idle
  have g_idle := He.glo_ok X G (c.fact 40 (f := .glo "_law_idle") rfl)
  have b_idle : Binds K fd_idle P_idle [] := F_idle.bindsN fun _ _ _ _ _ _ us hl => match us, hl with | [_], _ => rfl
  obtain ⟨fd_idle_part, F_idle_part⟩ := c.def_ 57 (d := d_idle_part) rfl
  have F_idle_part : FnP K "_law_idle_part" s_idle_part _ fd_idle_part := F_idle_part
  have g_idle_part := He.glo_ok X G (c.fact 41 (f := .glo "_law_idle_part") rfl)
  have b_idle_part : Binds K fd_idle_part P_idle_part [] := F_idle_part.bindsN fun _ _ _ _ _ _ us hl => match us, hl with | [_], _ => rfl
  obtain ⟨fd_pacts, F_pacts⟩ := c.def_ 58 (d := d_pacts) rfl
  have F_pacts : FnP K "_law_pacts" s_pacts _ fd_pacts := F_pacts
  have g_pacts := He.glo_ok X G (c.fact 42 (f := .glo "_law_pacts") rfl)
  have b_pacts : Binds K fd_pacts P_pacts [] := F_pacts.bindsN fun _ _ _ _ _ _ us hl => match us, hl with | [_, _, _, _], _ => rfl
  obtain ⟨fd_size, F_size⟩ := c.def_ 59 (d := d_size) rfl
  have F_size : FnP K "_law_size" s_size _ fd_size := F_size
  have g_size := He.glo_ok X G (c.fact 43 (f := .glo "_law_size") rfl)
  have b_size : Binds K fd_size P_size [] := F_size.bindsN fun _ _ _ _ _ _ us hl => match us, hl with | [_, _], _ => rfl
  obtain ⟨fd_law, F_law⟩ := c.def_ 60 (d := d_law) rfl
  have F_law : FnP K "law" s_law _ fd_law := F_law
  have g_law := He.glo_ok X G (c.fact 44 (f := .glo "law") rfl)
  have m_abs := He.free_ok X G (c.fact 45 (f := .free "abs") rfl)
  have m_bool := He.free_ok X G (c.fact 46 (f := .free "bool") rfl)
  have m_enumerate := He.free_ok X G (c.fact 47 (f := .free "enumerate") rfl)
  have m_int := He.free_ok X G (c.fact 48 (f := .free "int") rfl)
  have m_isinstance := He.free_ok X G (c.fact 49 (f := .free "isinstance") rfl)
  have m_len := He.free_ok X G (c.fact 50 (f := .free "len") rfl)
  have m_list := He.free_ok X G (c.fact 51 (f := .free "list") rfl)
  have m_max := He.free_ok X G (c.fact 52 (f := .free "max") rfl)
  have m_min := He.free_ok X G (c.fact 53 (f := .free "min") rfl)
  have m_range := He.free_ok X G (c.fact 54 (f := .free "range") rfl)
  have m_sorted := He.free_ok X G (c.fact 55 (f := .free "sorted") rfl)
  have m_sum := He.free_ok X G (c.fact 56 (f := .free "sum") rfl)
  have m_super := He.free_ok X G (c.fact 57 (f := .free "super") rfl)
  have m_tuple := He.free_ok X G (c.fact 58 (f := .free "tuple") rfl)
  have g_Need := He.glo_ok X G (c.fact 59 (f := .glo "Need") rfl)
  have cls_Need := He.cls_ok (c.fact 60 (f := .cls "Need") rfl)
  have mk_Need := He.mkr_ok (c.fact 61 (f := .mkr "Need") rfl)
  have n_Need_start := He.noat_ok (c.fact 62 (f := .noat "Need" "start") rfl)
  have n_Need_rises := He.noat_ok (c.fact 63 (f := .noat "Need" "rises") rfl)
  have n_Need_never := He.noat_ok (c.fact 64 (f := .noat "Need" "never") rfl)
  have me_Need_value_for := He.meth_ok (c.fact 65 (f := .meth "Need" "value_for") rfl)
  have me_Need_mine := He.meth_ok (c.fact 66 (f := .meth "Need" "mine") rfl)
  have me_Need_theirs := He.meth_ok (c.fact 67 (f := .meth "Need" "theirs") rfl)
  have me_Need_endless := He.meth_ok (c.fact 68 (f := .meth "Need" "endless") rfl)
  have me_Need_excess := He.meth_ok (c.fact 69 (f := .meth "Need" "excess") rfl)
  have g_Part := He.glo_ok X G (c.fact 70 (f := .glo "Part") rfl)
  have cls_Part := He.cls_ok (c.fact 71 (f := .cls "Part") rfl)
  have mk_Part := He.mkr_ok (c.fact 72 (f := .mkr "Part") rfl)
  have g_Pact := He.glo_ok X G (c.fact 73 (f := .glo "Pact") rfl)
  have cls_Pact := He.cls_ok (c.fact 74 (f := .cls "Pact") rfl)
  have mk_Pact := He.mkr_ok (c.fact 75 (f := .mkr "Pact") rfl)
  have n_Pact_parts := He.noat_ok (c.fact 76 (f := .noat "Pact" "parts") rfl)
  have n_Pact_weight := He.noat_ok (c.fact 77 (f := .noat "Pact" "weight") rfl)
  have n_Pact_depth := He.noat_ok (c.fact 78 (f := .noat "Pact" "depth") rfl)
  have n_Pact_text := He.noat_ok (c.fact 79 (f := .noat "Pact" "text") rfl)
  have g_Transfer := He.glo_ok X G (c.fact 80 (f := .glo "Transfer") rfl)
  have cls_Transfer := He.cls_ok (c.fact 81 (f := .cls "Transfer") rfl)
  have mk_Transfer := He.mkr_ok (c.fact 82 (f := .mkr "Transfer") rfl)
  have n_Transfer_payer := He.noat_ok (c.fact 83 (f := .noat "Transfer" "payer") rfl)
  have n_Transfer_payee := He.noat_ok (c.fact 84 (f := .noat "Transfer" "payee") rfl)
  have n_Transfer_amount := He.noat_ok (c.fact 85 (f := .noat "Transfer" "amount") rfl)
  have n_Transfer_weight := He.noat_ok (c.fact 86 (f := .noat "Transfer" "weight") rfl)
  have n_Transfer_depth := He.noat_ok (c.fact 87 (f := .noat "Transfer" "depth") rfl)
  have n_Transfer_text := He.noat_ok (c.fact 88 (f := .noat "Transfer" "text") rfl)
  have g_Event := He.glo_ok X G (c.fact 89 (f := .glo "Event") rfl)
  have cls_Event := He.cls_ok (c.fact 90 (f := .cls "Event") rfl)
  have mk_Event := He.mkr_ok (c.fact 91 (f := .mkr "Event") rfl)
  have n_Event_mark := He.noat_ok (c.fact 92 (f := .noat "Event" "mark") rfl)
  have n_Event_weight := He.noat_ok (c.fact 93 (f := .noat "Event" "weight") rfl)
  have n_Event_depth := He.noat_ok (c.fact 94 (f := .noat "Event" "depth") rfl)
  have n_Event_text := He.noat_ok (c.fact 95 (f := .noat "Event" "text") rfl)
  have g_Choice := He.glo_ok X G (c.fact 96 (f := .glo "Choice") rfl)
  have cls_Choice := He.cls_ok (c.fact 97 (f := .cls "Choice") rfl)
  have mk_Choice := He.mkr_ok (c.fact 98 (f := .mkr "Choice") rfl)
  have n_Choice_owner := He.noat_ok (c.fact 99 (f := .noat "Choice" "owner") rfl)
  have n_Choice_options := He.noat_ok (c.fact 100 (f := .noat "Choice" "options") rfl)
  have n_Choice_weight := He.noat_ok (c.fact 101 (f := .noat "Choice" "weight") rfl)
  have n_Choice_depth := He.noat_ok (c.fact 102 (f := .noat "Choice" "depth") rfl)
  have n_Choice_text := He.noat_ok (c.fact 103 (f := .noat "Choice" "text") rfl)
  have g_Rounds := He.glo_ok X G (c.fact 104 (f := .glo "Rounds") rfl)
  have cls_Rounds := He.cls_ok (c.fact 105 (f := .cls "Rounds") rfl)
  have mk_Rounds := He.mkr_ok (c.fact 106 (f := .mkr "Rounds") rfl)
  have n_Rounds_owner := He.noat_ok (c.fact 107 (f := .noat "Rounds" "owner") rfl)
  have n_Rounds_body := He.noat_ok (c.fact 108 (f := .noat "Rounds" "body") rfl)
  have n_Rounds_weight := He.noat_ok (c.fact 109 (f := .noat "Rounds" "weight") rfl)
  have n_Rounds_depth := He.noat_ok (c.fact 110 (f := .noat "Rounds" "depth") rfl)
  have n_Rounds_text := He.noat_ok (c.fact 111 (f := .noat "Rounds" "text") rfl)
  have g_Endless := He.glo_ok X G (c.fact 112 (f := .glo "Endless") rfl)
  have cls_Endless := He.cls_ok (c.fact 113 (f := .cls "Endless") rfl)
  have mk_Endless := He.mkr_ok (c.fact 114 (f := .mkr "Endless") rfl)
  have n_Endless_body := He.noat_ok (c.fact 115 (f := .noat "Endless" "body") rfl)
  have n_Endless_weight := He.noat_ok (c.fact 116 (f := .noat "Endless" "weight") rfl)
  have n_Endless_depth := He.noat_ok (c.fact 117 (f := .noat "Endless" "depth") rfl)
  have n_Endless_text := He.noat_ok (c.fact 118 (f := .noat "Endless" "text") rfl)
  have g_Times := He.glo_ok X G (c.fact 119 (f := .glo "Times") rfl)
  have cls_Times := He.cls_ok (c.fact 120 (f := .cls "Times") rfl)
  have mk_Times := He.mkr_ok (c.fact 121 (f := .mkr "Times") rfl)
  have n_Times_count := He.noat_ok (c.fact 122 (f := .noat "Times" "count") rfl)
  have n_Times_body := He.noat_ok (c.fact 123 (f := .noat "Times" "body") rfl)
  have n_Times_weight := He.noat_ok (c.fact 124 (f := .noat "Times" "weight") rfl)
  have n_Times_depth := He.noat_ok (c.fact 125 (f := .noat "Times" "depth") rfl)
  have n_Times_text := He.noat_ok (c.fact 126 (f := .noat "Times" "text") rfl)
  have g0_MOST_AMOUNT := He.int_ok X G (c.fact 127 (f := .int "MOST_AMOUNT" (1000000000000000000000000000000000000000000000000000000000000)) rfl)
  obtain ⟨tok_MOST_AMOUNT, g_MOST_AMOUNT⟩ := g0_MOST_AMOUNT
  have g0_MOST_WEIGHT := He.int_ok X G (c.fact 128 (f := .int "MOST_WEIGHT" (400)) rfl)
  obtain ⟨tok_MOST_WEIGHT, g_MOST_WEIGHT⟩ := g0_MOST_WEIGHT
  have g0_MOST_DEPTH := He.int_ok X G (c.fact 129 (f := .int "MOST_DEPTH" (30)) rfl)
  obtain ⟨tok_MOST_DEPTH, g_MOST_DEPTH⟩ := g0_MOST_DEPTH
  have g0_MOST_COUNT := He.int_ok X G (c.fact 130 (f := .int "MOST_COUNT" (100)) rfl)
  obtain ⟨tok_MOST_COUNT, g_MOST_COUNT⟩ := g0_MOST_COUNT
  have g0_MOST_OPTIONS := He.int_ok X G (c.fact 131 (f := .int "MOST_OPTIONS" (6)) rfl)
  obtain ⟨tok_MOST_OPTIONS, g_MOST_OPTIONS⟩ := g0_MOST_OPTIONS
  have g0_MOST_TIMES := He.int_ok X G (c.fact 132 (f := .int "MOST_TIMES" (400)) rfl)
  obtain ⟨tok_MOST_TIMES, g_MOST_TIMES⟩ := g0_MOST_TIMES
  have g0_PARTIES := He.str_ok X G (c.fact 133 (f := .str "PARTIES" "abcdef") rfl)
  obtain ⟨tok_PARTIES, g_PARTIES⟩ := g0_PARTIES
  have g0_MARKS := He.str_ok X G (c.fact 134 (f := .str "MARKS" "ABCDEFGHIJKLMNOPQRSTUVWXYZ") rfl)
  obtain ⟨tok_MARKS, g_MARKS⟩ := g0_MARKS
  have g_BadParty := He.glo_ok X G (c.fact 135 (f := .glo "BadParty") rfl)
  have g_BadCount := He.glo_ok X G (c.fact 136 (f := .glo "BadCount") rfl)
  have f_BadParty := exnB_ok (all_at cy 0)
  have x_BadParty : ∀ base : Heap, Exn P w K mg base "BadParty" (He.ga K "BadParty") "party" := fun base => xn_BadParty (y_at cs 0) f_BadParty hfl htop g_BadParty m_super
  have f_BadCount := exnB_ok (all_at cy 1)
  have x_BadCount : ∀ base : Heap, Exn P w K mg base "BadCount" (He.ga K "BadCount") "value" := fun base => xn_BadCount (y_at cs 1) f_BadCount hfl htop g_BadCount m_super
  obtain ⟨fd_Transfer___init__, c_, cc_, kV_, doc_, pm_, ct_, an_, hfd_, SI_Transfer⟩ := supI_of (P := P) (x := "Transfer") (y := "Part") (q := "Transfer.__init__") (st := s_Transfer___init__) (y_at cs 2) (all_at cu 0) hfl htop
  have b_Transfer___init__ : Binds K fd_Transfer___init__ P_Transfer___init__ [] := by
    subst hfd_
    exact Binds.all fun us hl => match us, hl with | [_, _, _, _], _ => rfl
  obtain ⟨fd_Event___init__, c_, cc_, kV_, doc_, pm_, ct_, an_, hfd_, SI_Event⟩ := supI_of (P := P) (x := "Event") (y := "Part") (q := "Event.__init__") (st := s_Event___init__) (y_at cs 3) (all_at cu 1) hfl htop
  have b_Event___init__ : Binds K fd_Event___init__ P_Event___init__ [] := by
    subst hfd_
    exact Binds.all fun us hl => match us, hl with | [_, _], _ => rfl
  obtain ⟨fd_Choice___init__, c_, cc_, kV_, doc_, pm_, ct_, an_, hfd_, SI_Choice⟩ := supI_of (P := P) (x := "Choice") (y := "Part") (q := "Choice.__init__") (st := s_Choice___init__) (y_at cs 4) (all_at cu 2) hfl htop
  have b_Choice___init__ : Binds K fd_Choice___init__ P_Choice___init__ [] := by
    subst hfd_
    exact Binds.all fun us hl => match us, hl with | [_, _, _], _ => rfl
  obtain ⟨fd_Rounds___init__, c_, cc_, kV_, doc_, pm_, ct_, an_, hfd_, SI_Rounds⟩ := supI_of (P := P) (x := "Rounds") (y := "Part") (q := "Rounds.__init__") (st := s_Rounds___init__) (y_at cs 5) (all_at cu 3) hfl htop
  have b_Rounds___init__ : Binds K fd_Rounds___init__ P_Rounds___init__ [] := by
    subst hfd_
    exact Binds.all fun us hl => match us, hl with | [_, _, _], _ => rfl
  obtain ⟨fd_Endless___init__, c_, cc_, kV_, doc_, pm_, ct_, an_, hfd_, SI_Endless⟩ := supI_of (P := P) (x := "Endless") (y := "Part") (q := "Endless.__init__") (st := s_Endless___init__) (y_at cs 6) (all_at cu 4) hfl htop
  have b_Endless___init__ : Binds K fd_Endless___init__ P_Endless___init__ [] := by
    subst hfd_
    exact Binds.all fun us hl => match us, hl with | [_, _], _ => rfl
  obtain ⟨fd_Times___init__, c_, cc_, kV_, doc_, pm_, ct_, an_, hfd_, SI_Times⟩ := supI_of (P := P) (x := "Times") (y := "Part") (q := "Times.__init__") (st := s_Times___init__) (y_at cs 7) (all_at cu 5) hfl htop
  have b_Times___init__ : Binds K fd_Times___init__ P_Times___init__ [] := by
    subst hfd_
    exact Binds.all fun us hl => match us, hl with | [_, _, _], _ => rfl
  have isC := isB_ok cls_Need (all_at cx 0)
  have isP := isB_ok cls_Pact (all_at cx 1)
  obtain ⟨r1, r2, r3⟩ := spB_ok (all_at cx 2)
  obtain ⟨o1, o2, o3⟩ := spB_ok (all_at cx 3)
  obtain ⟨a1, a2, a3⟩ := spB_ok (all_at cx 4)
  obtain ⟨u1, u2, u3⟩ := spB_ok (all_at cx 5)
  have sf := all_at cx 6
  have hr0 := He.eqO_ok (all_at cx 7)
  obtain ⟨fo, hfo⟩ := Option.isSome_iff_exists.mp (all_at cx 8)
  obtain ⟨ro, hro⟩ := Option.isSome_iff_exists.mp (all_at cx 9)
  have hsub := of_decide_eq_true (all_at cx 10)
  obtain ⟨y1, y2, y3⟩ := spB_ok (all_at cx 11)
  obtain ⟨ad1, ad2, ad3⟩ := spB_ok (all_at cx 12)
  obtain ⟨mu1, mu2, mu3⟩ := spB_ok (all_at cx 13)
  obtain ⟨ge1, ge2, ge3⟩ := spB_ok (all_at cx 14)
  have sfP := all_at cx 15
  have hr0P := He.eqO_ok (all_at cx 16)
  have hsubP := of_decide_eq_true (all_at cx 17)
  have nsP := all_at cx 18

  have fl_Transfer : Fl3 K (He.ga K "Transfer") := ⟨cls_Transfer, n_Transfer_weight, n_Transfer_depth, n_Transfer_text⟩
  have pk_Transfer : PtK K (He.ga K "Part") (He.ga K "Transfer") := ⟨fl_Transfer, of_decide_eq_true (all_at ck 0), isB_ok cls_Transfer (all_at ci 0)⟩
  have kd_Transfer : ∃ u, Con K (He.ga K "Transfer") "KIND" (.str "transfer") u := conB_ok (by decide +kernel) (all_at cn 0)
  have fl_Event : Fl3 K (He.ga K "Event") := ⟨cls_Event, n_Event_weight, n_Event_depth, n_Event_text⟩
  have pk_Event : PtK K (He.ga K "Part") (He.ga K "Event") := ⟨fl_Event, of_decide_eq_true (all_at ck 1), isB_ok cls_Event (all_at ci 1)⟩
  have kd_Event : ∃ u, Con K (He.ga K "Event") "KIND" (.str "event") u := conB_ok (by decide +kernel) (all_at cn 1)
  have fl_Choice : Fl3 K (He.ga K "Choice") := ⟨cls_Choice, n_Choice_weight, n_Choice_depth, n_Choice_text⟩
  have pk_Choice : PtK K (He.ga K "Part") (He.ga K "Choice") := ⟨fl_Choice, of_decide_eq_true (all_at ck 2), isB_ok cls_Choice (all_at ci 2)⟩
  have kd_Choice : ∃ u, Con K (He.ga K "Choice") "KIND" (.str "choice") u := conB_ok (by decide +kernel) (all_at cn 2)
  have fl_Rounds : Fl3 K (He.ga K "Rounds") := ⟨cls_Rounds, n_Rounds_weight, n_Rounds_depth, n_Rounds_text⟩
  have pk_Rounds : PtK K (He.ga K "Part") (He.ga K "Rounds") := ⟨fl_Rounds, of_decide_eq_true (all_at ck 3), isB_ok cls_Rounds (all_at ci 3)⟩
  have kd_Rounds : ∃ u, Con K (He.ga K "Rounds") "KIND" (.str "rounds") u := conB_ok (by decide +kernel) (all_at cn 3)
  have fl_Endless : Fl3 K (He.ga K "Endless") := ⟨cls_Endless, n_Endless_weight, n_Endless_depth, n_Endless_text⟩
  have pk_Endless : PtK K (He.ga K "Part") (He.ga K "Endless") := ⟨fl_Endless, of_decide_eq_true (all_at ck 4), isB_ok cls_Endless (all_at ci 4)⟩
  have kd_Endless : ∃ u, Con K (He.ga K "Endless") "KIND" (.str "endless") u := conB_ok (by decide +kernel) (all_at cn 4)
  have fl_Times : Fl3 K (He.ga K "Times") := ⟨cls_Times, n_Times_weight, n_Times_depth, n_Times_text⟩
  have pk_Times : PtK K (He.ga K "Part") (He.ga K "Times") := ⟨fl_Times, of_decide_eq_true (all_at ck 5), isB_ok cls_Times (all_at ci 5)⟩
  have kd_Times : ∃ u, Con K (He.ga K "Times") "KIND" (.str "times") u := conB_ok (by decide +kernel) (all_at cn 5)
  have pts : PtsK K (He.ga K "Part") (kk K) := ⟨pk_Transfer, pk_Event, pk_Choice, pk_Rounds, pk_Endless, pk_Times⟩
  have paK : PaK K (kk K).P := ⟨isP, ⟨cls_Pact, n_Pact_weight, n_Pact_depth, n_Pact_text⟩, n_Pact_parts⟩
  have pa : PtA K (kk K) := ⟨cls_Transfer, n_Transfer_payer, n_Transfer_payee, n_Transfer_amount, cls_Event, cls_Choice, n_Choice_owner, n_Choice_options, cls_Rounds, n_Rounds_owner, n_Rounds_body, cls_Endless, n_Endless_body, cls_Times, n_Times_count, n_Times_body, cls_Pact, n_Pact_parts, kd_Transfer, kd_Event, kd_Choice, kd_Rounds, kd_Endless, kd_Times⟩
  have g_AMT : mg "MOST_AMOUNT" = some (.int (10 ^ 60) tok_MOST_AMOUNT) := by
    rw [g_MOST_AMOUNT, show (10 : Int) ^ 60 = 1000000000000000000000000000000000000000000000000000000000000 by decide +kernel]
  have e := hfa.symm.trans g_law
  cases e
  have b := FunD.bindsA (ps := ["_law_script"]) F_law fun _ _ _ _ _ _ us hl => match us, hl with | [_], _ => rfl
  refine ⟨fd_law, fun s v => b s [v] rfl, fun base _ _ => ?_⟩
  have c_cell : Cal P w K mg base 1 "_law_cell" (spCell K) := cal_of F_cell g_cell b_cell (ok_cell F_cell m_len m_int)
  have c_draws : Cal P w K mg base 1 "_law_draws" spDraws := cal_of F_draws g_draws b_draws (ok_draws F_draws m_int m_abs m_range)
  have c_take : Cal P w K mg base 1 "_law_take" (spTake K) := cal_of F_take g_take b_take (ok_take F_take m_len)
  have c_is_party : Cal P w K mg base 1 "is_party" spIsP := cal_of F_is_party g_is_party b_is_party (ok_is_party F_is_party m_len tok_PARTIES g_PARTIES)
  have c_is_mark : Cal P w K mg base 1 "is_mark" spIsM := cal_of F_is_mark g_is_mark b_is_mark (ok_is_mark F_is_mark m_len tok_MARKS g_MARKS)
  have c_check_party : CalX P w K mg base 3 "check_party" (spChP (He.ga K "BadParty")) := ⟨_, _, _, ok_check_party F_check_party c_is_party (x_BadParty base), g_check_party, F_check_party.kp, b_check_party⟩
  have c_check_mark : CalX P w K mg base 3 "check_mark" spChM := ⟨_, _, _, ok_check_mark F_check_mark c_is_mark, g_check_mark, F_check_mark.kp, b_check_mark⟩
  have c_check_size : CalX P w K mg base 3 "check_size" spSize := ⟨_, _, _, ok_check_size F_check_size tok_MOST_WEIGHT g_MOST_WEIGHT tok_MOST_DEPTH g_MOST_DEPTH, g_check_size, F_check_size.kp, b_check_size⟩
  have FB : FnB P w K mg base (He.ma K (He.ga K "Part") "__init__") := fnr_okX (ok_part F_Part___init__ c_check_size) b_Part___init__
  have c_as_pact : CalX P w K mg base 1 "as_pact" (spAsP (kk K) K) := ⟨_, _, _, ok_as_pact F_as_pact m_isinstance paK g_Pact, g_as_pact, F_as_pact.kp, b_as_pact⟩
  have y_Transfer : MakY P w K mg base 5 "Transfer" (spT (kk K) K) := mk_T ⟨_, _, _, mk_Transfer, ok_tinit SI_Transfer FB m_super fl_Transfer n_Transfer_payer n_Transfer_payee n_Transfer_amount tok_MOST_AMOUNT g_AMT c_check_party, g_Transfer, b_Transfer___init__⟩
  have y_Event : MakY P w K mg base 5 "Event" (spE (kk K) K) := mk_E ⟨_, _, _, mk_Event, ok_einit SI_Event FB m_super fl_Event n_Event_mark c_check_mark, g_Event, b_Event___init__⟩
  have y_Choice : MakY P w K mg base 5 "Choice" (spC (kk K) K) := mk_C ⟨_, _, _, mk_Choice, ok_cinit SI_Choice FB m_super m_len m_tuple m_sum m_max tok_MOST_OPTIONS g_MOST_OPTIONS fl_Choice n_Choice_owner n_Choice_options paK c_check_party c_as_pact, g_Choice, b_Choice___init__⟩
  have y_Rounds : MakY P w K mg base 5 "Rounds" (spR (kk K) K) := mk_R ⟨_, _, _, mk_Rounds, ok_rinit SI_Rounds FB m_super fl_Rounds n_Rounds_owner n_Rounds_body paK c_check_party c_as_pact, g_Rounds, b_Rounds___init__⟩
  have y_Endless : MakY P w K mg base 5 "Endless" (spN (kk K) K) := mk_N ⟨_, _, _, mk_Endless, ok_ninit SI_Endless FB m_super fl_Endless n_Endless_body paK c_as_pact, g_Endless, b_Endless___init__⟩
  have y_Times : MakY P w K mg base 5 "Times" (spM (kk K) K) := mk_M ⟨_, _, _, mk_Times, ok_timesinit SI_Times FB m_super m_max tok_MOST_COUNT g_MOST_COUNT fl_Times n_Times_count n_Times_body paK c_as_pact, g_Times, b_Times___init__⟩
  have y_Pact : MakY P w K mg base 4 "Pact" (spP (kk K) K) := mk_P ⟨_, _, _, mk_Pact, ok_pinit F_Pact___init__ m_len m_tuple m_sum m_max m_isinstance g_Part paK pts c_check_size, g_Pact, b_Pact___init__⟩
  have c_value_at : Cal P w K mg base 1 "value_at" (spValueAt K) := cal_of F_value_at g_value_at b_value_at (ok_value_at F_value_at)
  have c_greatest_value : Cal P w K mg base 1 "greatest_value" (spGreatest K) := cal_of F_greatest_value g_greatest_value b_greatest_value (ok_greatest_value F_greatest_value m_len)
  have c_flat_point : Cal P w K mg base 1 "flat_point" (spFlat K) := cal_of F_flat_point g_flat_point b_flat_point (ok_flat_point F_flat_point)
  have c_joined : Cal P w K mg base 1 "joined" (spJoined K) := cal_of F_joined g_joined b_joined (ok_joined F_joined m_len m_tuple)
  have c_marks_of : Cal P w K mg base 1 "marks_of" (spMarks K) := cal_of F_marks_of g_marks_of b_marks_of (ok_marks_of F_marks_of m_list m_sorted m_int)
  have c_track : Cal P w K mg base 1 "track" (spTrack K) := cal_of F_track g_track b_track (ok_track F_track m_len)
  have c_rising_part : Cal P w K mg base 1 "rising_part" (spRPart K) := cal_of F_rising_part g_rising_part b_rising_part (ok_rising_part F_rising_part m_max)
  have c_combined : CalK P w K mg base 2 "combined" 2 ["smaller"] (fun vs zs => vs ++ zs) (spCombined2 K) := ⟨_, _, _, _, ok_combined F_combined m_len m_enumerate c_marks_of c_track c_rising_part c_joined, g_combined, F_combined.kp, kb_combined F_combined⟩
  have c_composed : Cal P w K mg base 2 "composed" (spComposed K) := cal_of F_composed g_composed b_composed (ok_composed F_composed m_max c_value_at c_joined)
  have k_Need : Mak P w K mg base 2 "Need" (spNeed (He.ga K "Need") K) := mak_need (si := ok_init F_Need___init__ cls_Need n_Need_start n_Need_rises n_Need_never m_tuple c_greatest_value) mk_Need g_Need b_Need___init__
  have me_value_for : Met P w K mg base 2 (He.ga K "Need") "value_for" (spCallN (He.ga K "Need") K) := ⟨_, _, _, cls_Need, me_Need_value_for, ok_value_for F_Need_value_for cls_Need n_Need_start n_Need_rises n_Need_never c_value_at, b_Need_value_for⟩
  have me_mine : Met P w K mg base 4 (He.ga K "Need") "mine" (spMine (He.ga K "Need") K) := ⟨_, _, _, cls_Need, me_Need_mine, ok_mine F_Need_mine cls_Need n_Need_start n_Need_rises n_Need_never c_flat_point k_Need, b_Need_mine⟩
  have me_theirs : Met P w K mg base 4 (He.ga K "Need") "theirs" (spTheirs (He.ga K "Need") K) := ⟨_, _, _, cls_Need, me_Need_theirs, ok_theirs F_Need_theirs cls_Need n_Need_start n_Need_rises n_Need_never c_flat_point k_Need, b_Need_theirs⟩
  have me_endless : Met P w K mg base 4 (He.ga K "Need") "endless" (spEndless (He.ga K "Need") K) := ⟨_, _, _, cls_Need, me_Need_endless, ok_endless F_Need_endless cls_Need n_Need_start n_Need_rises n_Need_never c_flat_point k_Need, b_Need_endless⟩
  have o_rshift : Bin2 P w K mg base 4 (He.ga K "Need") "__rshift__" (spRsh (He.ga K "Need") K) := ⟨_, _, _, ok_rshift F_Need___rshift__ cls_Need n_Need_start n_Need_rises n_Need_never k_Need me_value_for c_composed, r1, r2, b_Need___rshift__, sf⟩
  have o_or : Bin2 P w K mg base 4 (He.ga K "Need") "__or__" (spMM true (He.ga K "Need") K) := ⟨_, _, _, ok_or F_Need___or__ cls_Need n_Need_start n_Need_rises n_Need_never k_Need c_combined, o1, o2, b_Need___or__, sf⟩
  have o_and : Bin2 P w K mg base 4 (He.ga K "Need") "__and__" (spMM false (He.ga K "Need") K) := ⟨_, _, _, ok_and F_Need___and__ cls_Need n_Need_start n_Need_rises n_Need_never k_Need c_combined, a1, a2, b_Need___and__, sf⟩
  have o_mul : BinI P w K mg base 5 (He.ga K "Need") .Mult (spMul (He.ga K "Need") (He.ga K "BadCount") K) := ⟨_, _, _, fo, ro, ok_mul F_Need___mul__ g_MOST_TIMES m_range (x_BadCount base) k_Need o_rshift, u1, u2, b_Need___mul__, sf, hr0, hfo, hro, hsub⟩
  have c_need_of_transfer : Cal P w K mg base 4 "need_of_transfer" (spNdT (He.ga K "Need") (kk K) K) := cal_of F_need_of_transfer g_need_of_transfer b_need_of_transfer (ok_need_of_transfer F_need_of_transfer pa k_Need)
  have c_need_of := all_need_of F_need_of g_need_of b_need_of F_need_of_part g_need_of_part b_need_of_part F_need_of_choice g_need_of_choice b_need_of_choice pa k_Need o_rshift o_or o_and me_endless me_mine me_theirs o_mul c_check_party c_need_of_transfer 31
  have c_amount : Cal P w K mg base 1 "_law_amount" spAm := cal_of F_amount g_amount b_amount (ok_amount F_amount m_int m_range)
  have c_pact := all_pact F_pact g_pact b_pact F_part g_part b_part m_int m_len m_range c_take c_amount 2
  have c_part : Cal P w K mg base (2 * 2 + 7) "_law_part" (spPp K 2) := cal_of F_part g_part b_part (ok_part_ F_part m_int m_len m_range c_take c_amount c_pact)
  have c_weight : Cal P w K mg base (2 * 4 + 6) "_law_weight" (spWl 4) := all_weight F_weight g_weight b_weight F_part_weight g_part_weight b_part_weight m_sum m_max 4
  have c_part_weight : Cal P w K mg base (2 * 4 + 7) "_law_part_weight" (spWp 4) := cal_of F_part_weight g_part_weight b_part_weight (ok_part_weight F_part_weight m_sum m_max c_weight)
  have c_cut : Cal P w K mg base (2 * 4 + 8) "_law_cut" (spCut 4) := cal_of F_cut g_cut b_cut (ok_cut F_cut c_weight c_part_weight)
  have c_build := all_build F_build g_build b_build F_build_part g_build_part b_build_part y_Pact y_Transfer y_Event y_Choice y_Rounds y_Endless y_Times 31
  have c_parties : Cal P w K mg base 2 "_law_parties" (spPar K) := cal_of F_parties g_parties b_parties (ok_parties F_parties m_int m_len m_range c_take)
  have c_is_number : Cal P w K mg base 1 "_law_is_number" spIsN := cal_of F_is_number g_is_number b_is_number (ok_is_number F_is_number m_isinstance m_int m_bool)
  have c_fields : Cal P w K mg base 2 "_law_fields" (spFld (He.ga K "Need") K) := cal_of F_fields g_fields b_fields (ok_fields F_fields isC cls_Need n_Need_start n_Need_rises n_Need_never m_isinstance m_tuple m_len g_Need c_is_number)
  have c_first_above : Cal P w K mg base 2 "first_above" (spFA K) := cal_of F_first_above g_first_above b_first_above (ok_first_above F_first_above m_len m_enumerate c_marks_of c_track)
  have me_excess : Met P w K mg base 3 (He.ga K "Need") "excess" (spExcess (He.ga K "Need") K) := ⟨_, _, _, cls_Need, me_Need_excess, ok_excess F_Need_excess cls_Need n_Need_start n_Need_rises n_Need_never c_first_above, b_Need_excess⟩
  have co_call : Cob P w K mg base 3 (He.ga K "Need") (spCallN (He.ga K "Need") K) := ⟨_, ⟨y1, y2, y3⟩, fnr_okX (ok_call F_Need___call__ me_value_for) b_Need___call__⟩
  have o_add : Bin2 P w K mg base 6 (kk K).P "__add__" (spAd (kk K) K) := ⟨_, _, _, ok_add F_Pact___add__ pa y_Pact c_as_pact, ad1, ad2, b_Pact___add__, sfP⟩
  have o_mulP : BinJ P w K mg base 7 (kk K).P .Mult (spMu (kk K) K) := ⟨_, _, _, fo, ro, ok_mulP F_Pact___mul__ y_Pact y_Times, mu1, mu2, b_Pact___mul__, sfP, hr0P, hfo, hro, hsubP⟩
  have o_get : GetO P w K mg base 1 (kk K).P (spGt (kk K) K) := ⟨_, _, _, ok_getitem F_Pact___getitem__ pa, ge1, ge2, ge3, nsP, b_Pact___getitem__⟩
  have c_same : Cal P w K mg base 3 "_law_same" (spSame (He.ga K "Need") K) := cal_of F_same g_same b_same (ok_same F_same c_fields)
  have c_law_joined : Cal P w K mg base 99 "_law_joined" (spJoi (kk K) K) := cal_of F_law_joined g_law_joined b_law_joined (ok_law_joined F_law_joined pa y_Pact o_rshift o_add o_get c_same c_need_of)
  have c_repeated : Cal P w K mg base 99 "_law_repeated" (spRep (kk K) K) := cal_of F_repeated g_repeated b_repeated (ok_repeated F_repeated pa m_range y_Pact o_mul o_add o_mulP c_same c_need_of)
  have c_wrapped : Cal P w K mg base 99 "_law_wrapped" (spWr (kk K) K) := cal_of F_wrapped g_wrapped b_wrapped (ok_wrapped F_wrapped pa y_Pact y_Choice y_Rounds y_Endless o_or o_and me_endless me_mine me_theirs me_excess c_same c_need_of)
  have c_unrolled : Cal P w K mg base 99 "_law_unrolled" (spUr (kk K) K) := cal_of F_unrolled g_unrolled b_unrolled (ok_unrolled F_unrolled pa y_Pact y_Choice y_Rounds y_Endless o_add c_same c_need_of)
  have c_paid : Cal P w K mg base 99 "_law_paid" (spPd (kk K) K) := cal_of F_paid g_paid b_paid (ok_paid F_paid pa y_Pact y_Transfer o_add me_excess c_need_of)
  have c_idle : Cal P w K mg base (2 * 4 + 6) "_law_idle" (spIl 4) := all_idle F_idle g_idle b_idle F_idle_part g_idle_part b_idle_part 4
  have c_size : Cal P w K mg base 2 "_law_size" (spSz K) := cal_of F_size g_size b_size (ok_size F_size m_int c_take)
  have c_pacts : Cal P w K mg base 17 "_law_pacts" (spPcs K) := cal_of F_pacts g_pacts b_pacts (ok_pacts F_pacts m_range c_part c_cut)
  exact ok_law F_law m_int m_len m_min m_max c_cell c_draws c_take c_parties c_size c_pacts c_weight c_amount c_build c_law_joined c_repeated c_wrapped c_unrolled c_paid c_idle c_is_number co_call c_need_of
end Z
open PySem PySem.W PySem.Calls PyProof.Rows
theorem PySem.Challenge.cw_signedpacts_k40_whole_need_of_sums_holds : PySem.Challenge.rw_signedpacts_k40_whole_need_of_sums.Holds := by
  w_on; o_law
  refine HandSHeadRun.head_any (r := OpenLaw.row PySem.Challenge.rw_signedpacts_k40_whole_need_of_sums) (q := view (OpenLaw.row PySem.Challenge.rw_signedpacts_k40_whole_need_of_sums).prog [78]) (H := Zr.hk) (ob := Zr.ob) (M := 8000) (loose := Zr.loose) (d := HandSHeadRun.topDef (OpenLaw.row PySem.Challenge.rw_signedpacts_k40_whole_need_of_sums).prog 78) (kwd := []) Zr.ob_eq
    (by kernel_rfl) (fun s => by kernel_rfl) Zr.run (by kernel_rfl) (by kernel_rfl) (by kernel_rfl) (by rfl) (by first | assumption | decide +kernel) (by decide +kernel) ⟨rfl, rfl, rfl, rfl, rfl, by decide +kernel⟩ ?hw ?hc
  case hw => w_witness2
  case hc =>
    refine L2.walk_ofE (l := PySem.Challenge.rw_signedpacts_k40_whole_need_of_sums) (n := 63) (k := 110) (x := "_law_script") (CX := L2.CX0) rfl (by decide) (by kernel_rfl) ⟨rfl, by decide, by decide⟩ ?F (fun _ _ _ _ z => z)
    intro w mg fa h Y G hmg0
    obtain ⟨K, KX, c, cs, cx⟩ := Y
    have hmg : mg ("law" : PySem.Str) = some (.ref fa) := by
      have e : (HandSHeadRun.topDef (OpenLaw.row PySem.Challenge.rw_signedpacts_k40_whole_need_of_sums).prog 78).name = ("law" : PySem.Str) := by kernel_rfl
      rw [← e]
      exact hmg0
    obtain ⟨fd, hb, hF⟩ := Z.facts (P := (PySem.Challenge.rw_signedpacts_k40_whole_need_of_sums).prog) (w := w) KX G hmg c cs cx (by kernel_rfl) (by kernel_rfl)
    exact ⟨K, fd, Z.spLaw K, KX, hb, fun H a ns hl _ hS => ⟨a, ns, rfl, hS, fun _ => rfl⟩, hF⟩
