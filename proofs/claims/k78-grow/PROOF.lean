import PyProof.Rows.All
import Wide.All
import OpenK.AllK
import Wide.FinOn
import HandS.ForMost
import HandS.Zip
import HandS.TupMul
import HandS.Codes
import KE.GoesMore
import KE.GoesEnum
import HandS.Defaults
import HandS.IsInst
import HandS.Wide
import HandS.WideBits
import HandS.NoneIn
import HandS.OwnEq
import HandS.Star
import HandS.SetTxtIn
import HandS.ExcInit
import HandS.ExcField
import HandS.ExcIs
import HandS.Nested
import HandS.ClsMeth
import HandS.HeadHook1
import KE.KSuper
import KE.KExcSuper
import HandS.WordsExc
import HandS.ExcInitHot
import KE.KExcIs
import HandS.HeadHook2
import HandS.Property
import HandS.NamedTupGet
import HandS.ExcCtx
import HandS.ExcOwn
import PyProof.StrOps2
import HandS.Sort
import HandS.ListItems
import HandS.Strs
import HandS.Text
import HandS.Head0
import HandS.Head1
import HandS.Head2
import HandS.HeadEnd
import PySem.Challenge.RW_signedpacts_k78_grow
set_option Elab.async false
set_option linter.all false
set_option maxRecDepth 100000
set_option maxHeartbeats 4000000
namespace Z
open PySem PySem.Spec PyProof.Rows L2
/-! ### zip over two sequences, each a list (true) or a tuple (false) -/
def SqK (b : Bool) (K : PySem.W.Frag) (H : Hp) (a : Addr) (xs : List V) : Prop := match b with
  | true => SqL K H a xs
  | false => SqT K H a xs
def ItK (b : Bool) (h : Heap) (it l : Addr) (i : Nat) : Prop := match b with
  | true => h.IsListIter it l i
  | false => h.IsTupleIter it l i
def IsK (b : Bool) (h : Heap) (l : Addr) (xs : Array Value) : Prop := match b with
  | true => h.IsList l xs
  | false => h.IsTuple l xs
theorem ItK.at' {b : Bool} {h h' : Heap} {it l : Addr} {i : Nat} (x : ItK b h it l i) (k : ∀ o, h.get? it = some o → h'.get? it = some o) : ItK b h' it l i := by
  cases b
  · exact Heap.IsTupleIter.at x k
  · exact Heap.IsListIter.at x k
theorem ItK.obj {b : Bool} {h : Heap} {it l : Addr} {i : Nat} (x : ItK b h it l i) : ∃ o, h.get? it = some o ∧ ∀ v, o.data ≠ .cell v := by
  cases b
  · obtain ⟨o, e, _, d⟩ := (show h.IsTupleIter it l i from x)
    exact ⟨o, e, fun v q => by rw [d] at q; cases q⟩
  · obtain ⟨o, e, _, d⟩ := (show h.IsListIter it l i from x)
    exact ⟨o, e, fun v q => by rw [d] at q; cases q⟩
theorem sqk_is {X : Cx} {pins : List (Addr × Obj)} {σ : L2.St} {H : Hp} {s : Shared} {b : Bool} {a : Addr} {xs : List V} (I : Inv X pins σ H s) (h : SqK b X.K H a xs) :
    ∃ its : List Value, Vals xs its ∧ IsK b s.heap a its.toArray ∧ a < s.heap.objs.size := by
  cases b
  · obtain ⟨its, r, p, _⟩ := I.tuple h
    obtain ⟨o, ho, _⟩ := id p
    exact ⟨its, r, p, Heap.lt_size ho⟩
  · obtain ⟨its, r, p, _⟩ := I.list h
    exact ⟨its, r, p.isList, p.lt⟩
theorem sqk_inj {X : Cx} {pins : List (Addr × Obj)} {σ : L2.St} {H : Hp} {s : Shared} {b : Bool} {a : Addr} {xs ys : List V} (I : Inv X pins σ H s) (h : SqK b X.K H a xs) (h' : SqK b X.K H a ys) : xs = ys := by
  cases b
  · exact I.tuple_inj h h'
  · exact I.list_inj h h'
theorem drawsK {prog : Program} {w : World} {A : Around} (b : Bool) (hh : A.handled = none) (it l : Addr) (hne : l ≠ it) (items : Array Value) :
    Draws prog w A it [it, l] items.size (fun i v => items[i]? = some v) (fun i h => ItK b h it l i ∧ IsK b h l items) := by
  cases b
  · exact Draws.tuple hh it l hne items
  · exact Draws.list hh it l hne items
def ItzM (p q : Bool) (K : PySem.W.Frag) (a b : Addr) : It :=
  ⟨fun i H => ∃ (xs ys : List V) (x y : V), SqK p K H a xs ∧ SqK q K H b ys ∧ xs[i]? = some x ∧ ys[i]? = some y,
   fun i H v H' => ∃ T x y, v = .ref T ∧ H T = none ∧ H' = upd H T (.tup [x, y]) ∧ (∀ xs, SqK p K H a xs → xs[i]? = some x) ∧ (∀ ys, SqK q K H b ys → ys[i]? = some y),
   fun i H => ∃ xs ys : List V, SqK p K H a xs ∧ SqK q K H b ys ∧ (xs.length ≤ i ∨ ys.length ≤ i) ∧ i ≤ xs.length ∧ i ≤ ys.length⟩
theorem zsep {z TI TO i1 i2 a b : Addr} (D : ZipApart z TI TO i1 i2 a b) : ZipSep2 z TI TO i1 i2 [i1, a] [i2, b] where
  TIz := D.TIz
  TOz := D.TOz
  TITO := D.TITO
  TIi1 := D.TIi1
  mem1 := List.mem_cons_self
  zf1 := fun h => by rcases List.mem_cons.mp h with e | h; exact D.i1z e.symm; exact D.l1z (List.mem_singleton.mp h).symm
  Tf1 := fun h => by rcases List.mem_cons.mp h with e | h; exact D.TOi1 e; exact D.l1TO (List.mem_singleton.mp h).symm
  TIi2 := D.TIi2
  mem2 := List.mem_cons_self
  zf2 := fun h => by rcases List.mem_cons.mp h with e | h; exact D.i2z e.symm; exact D.l2z (List.mem_singleton.mp h).symm
  Tf2 := fun h => by rcases List.mem_cons.mp h with e | h; exact D.TOi2 e; exact D.l2TO (List.mem_singleton.mp h).symm
  sep1_2 := fun h => by rcases List.mem_cons.mp h with e | h; exact D.i12 e; exact D.l2i1 (List.mem_singleton.mp h).symm
  sep2_1 := fun h => by rcases List.mem_cons.mp h with e | h; exact D.i12 e.symm; exact D.l1i2 (List.mem_singleton.mp h).symm
theorem five {c z TI TO i1 i2 : Addr} {Pr : Addr → Prop} (hc : c ∈ [z, TI, TO, i1, i2]) (a : Pr z) (b : Pr TI) (d : Pr TO) (e : Pr i1) (f : Pr i2) : Pr c := by
  have q : c = z ∨ c = TI ∨ c = TO ∨ c = i1 ∨ c = i2 := by simpa using hc
  rcases q with rfl | rfl | rfl | rfl | rfl <;> assumption
theorem turn_zipM {p q : Bool} {P : Program} {w : World} {K : PySem.W.Frag} {elts : List Expr} {kk : Nat} {tpos : Pos} {a b z TI TO i1 i2 : Addr} (D : ZipApart z TI TO i1 i2 a b) :
    Turn P w K (.Tuple elts kk tpos) (ItzM p q K a b) [z, TI, TO, i1, i2] z (fun i h => IsZip h z TI TO .none ∧ IsTupOf2 h TI (.ref i1) (.ref i2) ∧ (∃ x y, IsTupOf2 h TO x y) ∧ ItK p h i1 a i ∧ ItK q h i2 b i) where
  mem := by simp
  obj := fun i h st c hc => by
    obtain ⟨hz, hI, ⟨x, y, hO⟩, h1, h2⟩ := st
    exact five (Pr := fun c => ∃ o, h.get? c = some o ∧ ∀ v, o.data ≠ .cell v) hc ⟨_, hz, fun v q => nomatch q⟩ ⟨_, hI, fun v q => nomatch q⟩ ⟨_, hO, fun v q => nomatch q⟩ h1.obj h2.obj
  keep := fun i h h' st k => by
    obtain ⟨hz, hI, ⟨x, y, hO⟩, h1, h2⟩ := st
    exact ⟨k z (by simp) _ hz, k TI (by simp) _ hI, ⟨x, y, k TO (by simp) _ hO⟩, h1.at' (fun o e => k i1 (by simp) o e), h2.at' (fun o e => k i2 (by simp) o e)⟩
  item := by
    intro X hP hw hK hc i pins s σ H E I hf st hg
    subst hP hw hK
    obtain ⟨hz, hI, ⟨x0, y0, hO⟩, h1, h2⟩ := st
    obtain ⟨xs, ys, x, y, qx, qy, ex, ey⟩ := hg
    obtain ⟨us, rx, kx, _⟩ := sqk_is I qx
    obtain ⟨vs, ry, ky, _⟩ := sqk_is I qy
    obtain ⟨u, eu, ru⟩ := rx.get ex
    obtain ⟨v, ev, rv⟩ := ry.get ey
    have hzl : z < s.heap.objs.size := Heap.lt_size hz
    have lu : i < us.toArray.size := by simpa using (List.getElem?_eq_some_iff.mp eu).1
    have lv : i < vs.toArray.size := by simpa using (List.getElem?_eq_some_iff.mp ev).1
    have hh : X.A.in1.handled = none := I.ok.hd hc
    refine wpAny_pyNext_zipD2_item (zsep D) (drawsK p hh i1 a D.l1i1 us.toArray) (drawsK q hh i2 b D.l2i2 vs.toArray) hz hI hO ⟨h1, kx⟩ ⟨h2, ky⟩ lu lv fun m1 m2 g tk p1 p2 gz gO g1 g2 gT gs gk => ?_
    have e1 : m1 = u := by
      have t1 : us.toArray[i]? = some u := by simpa using eu
      exact Option.some.inj (p1.symm.trans t1)
    have e2 : m2 = v := by
      have t1 : vs.toArray[i]? = some v := by simpa using ev
      exact Option.some.inj (p2.symm.trans t1)
    subst e1 e2
    refine ⟨_, rfl, wpAny_letOwnedTupleGo_zip (s := { s with heap := g, toks := tk }) gz fun g' gz' sb => ?_⟩
    have gT' : g'.get? s.heap.objs.size = some { cls := .type "tuple", data := .seq #[m1, m2] } := (sb.2 _ (Nat.ne_of_gt hzl)).trans gT
    have nw : ObjOk X.prog X.w (upd H s.heap.objs.size (.tup [x, y])) g' s.heap.objs.size (.tup [x, y]) := ⟨by show 2 ≤ sizeLine; decide, [m1, m2], .cons ru (.cons rv .nil), ⟨_, gT', rfl, _, rfl⟩⟩
    have I1 : Inv X pins σ (upd H s.heap.objs.size (.tup [x, y])) { s with heap := g', toks := tk } :=
      I.turnedNew (t' := tk) (ch := [z, TI, TO, i1, i2]) (fun c o nb e => (sb.2 c (fun w => nb (by simp [w]))).trans (gk c o (fun w => nb (by simp [w])) (fun w => nb (by simp [w])) (fun w => nb (by simp [w])) (fun w => nb (by simp [w])) e)) hf (Nat.le_refl _) nw
    refine ⟨.ref s.heap.objs.size, _, I1, rfl, ⟨_, x, y, rfl, I.hok.fresh (Nat.le_refl _), rfl, fun l hl => by rw [sqk_inj I hl qx]; exact ex, fun l hl => by rw [sqk_inj I hl qy]; exact ey⟩, ⟨gz', ?_, ⟨m1, m2, ?_⟩, ?_, ?_⟩, fun c hcm => ?_⟩
    · exact (sb.2 _ D.TIz).trans (gk _ _ D.TIz D.TITO D.TIi1 D.TIi2 hI)
    · exact (sb.2 _ D.TOz).trans gO
    · exact ItK.at' g1.1 (fun o e => (sb.2 _ D.i1z).trans e)
    · exact ItK.at' g2.1 (fun o e => (sb.2 _ D.i2z).trans e)
    · have lt : c < s.heap.objs.size := by
        obtain ⟨o1, q1, _⟩ := h1.obj
        obtain ⟨o2, q2, _⟩ := h2.obj
        exact five (Pr := fun c => c < s.heap.objs.size) hcm hzl (Heap.lt_size hI) (Heap.lt_size hO) (Heap.lt_size q1) (Heap.lt_size q2)
      rw [upd_ne (Nat.ne_of_lt lt)]
      exact (hf c hcm).1
  done := by
    intro X hP hw hK hc i pins s σ H E I hf st hg
    subst hP hw hK
    obtain ⟨hz, hI, ⟨x0, y0, hO⟩, h1, h2⟩ := st
    obtain ⟨xs, ys, qx, qy, hend, le1, le2⟩ := hg
    obtain ⟨us, rx, kx, _⟩ := sqk_is I qx
    obtain ⟨vs, ry, ky, _⟩ := sqk_is I qy
    have l1 := rx.length
    have l2 := ry.length
    have n1 : us.toArray.size = us.length := by simp
    have n2 : vs.toArray.size = vs.length := by simp
    have hh : X.A.in1.handled = none := I.ok.hd hc
    refine wpAny_pyNext_zipD2_end (i := i) (zsep D) (drawsK p hh i1 a D.l1i1 us.toArray) (drawsK q hh i2 b D.l2i2 vs.toArray) hz hI hO ⟨h1, kx⟩ ⟨h2, ky⟩ (by omega) (by omega) (by omega) fun g tk gk => ?_
    exact ⟨rfl, I.turnedL (t' := tk) (ch := [z, TI, TO, i1, i2]) (fun c o nb e => gk c o (fun w => nb (by simp [w])) (fun w => nb (by simp [w])) (fun w => nb (by simp [w])) (fun w => nb (by simp [w])) e) hf⟩
  self := fun A i s Q E st h => wpAny_pyIter_zip st.1 h
def iZipM (K : PySem.W.Frag) (ta : TA) : TI := fun σ H R => ta σ H fun vs H1 => ∃ p q a b xs ys, vs = [.ref a, .ref b] ∧ SqK p K H1 a xs ∧ SqK q K H1 b ys ∧ R (ItzM p q K a b) H1
theorem begK {p : Bool} {h : Heap} {a : Addr} {xs : Array Value} (k : IsK p h a xs) : ∃ o Hp', Begins (.ref a) o Hp' ∧ Hp' h ∧ ∀ h' it, h'.get? it = some o → ItK p h' it a 0 := by
  cases p
  · exact ⟨_, _, begins_tuple a xs, k, fun h' it e => ⟨_, e, rfl, rfl⟩⟩
  · exact ⟨_, _, begins_list a xs, k, fun h' it e => ⟨_, e, rfl, rfl⟩⟩
theorem pi_zipM {X : Cx} {e e2 : Expr} {ta : TA} {p pos tpos : Pos} {elts : List Expr} {kk : Nat} (hg : Gl X "zip") (hm : X.mg "zip" = none) (ha : PA X [e, e2] ta)
    (hs : starEach [e, e2] X.env = (false, eval e X.env) :: starEach [e2] X.env := by rfl) (hpl : (backTo pos (starEach [e2] X.env)).any (·.1) = false := by rfl) :
    PI X (.Tuple elts kk tpos) (.Call (.Name "zip" p) [e, e2] [] pos) (iZipM X.K ta) := by
  constructor
  intro pins s σ H R I h
  refine Call_ (ld_blt I hg hm PyProof.Rows.boot_zip (PyProof.Rows.callWith_type1 (thn (ha.run pos pins s σ H _ I h) fun us s1 ⟨vs, H1, I1, r1, q1⟩ => ?_) hs hpl))
  obtain ⟨k1, k2, a, b, xs, ys, ex, qx, qy, q⟩ := q1
  subst ex
  obtain ⟨u, v, rfl, ru, rv⟩ := Vals.two r1
  cases ru
  cases rv
  obtain ⟨i1, _, p1, lt1⟩ := sqk_is I1 qx
  obtain ⟨i2, _, p2, lt2⟩ := sqk_is I1 qy
  obtain ⟨o1, G1, B1, g1, w1⟩ := begK p1
  obtain ⟨o2, G2, B2, g2, w2⟩ := begK p2
  refine zip_begins2 B1 B2 g1 g2 fun h' hz hI hO e1 e2 hsz hk => wpAny_pyIter_zip hz ?_
  have I2 : Inv X pins σ H1 { s1 with heap := h' } := I1.kept (t' := s1.toks) hk
  refine ⟨s1.heap.objs.size + 4, [s1.heap.objs.size + 4, s1.heap.objs.size + 2, s1.heap.objs.size + 3, s1.heap.objs.size, s1.heap.objs.size + 1], _, _, H1, rfl, I2, turn_zipM (PySem.W.ktu_apart s1.heap.objs.size a b lt1 lt2), ⟨hz, hI, ⟨_, _, hO⟩, w1 _ _ e1, w2 _ _ e2⟩, fun c hcm => ?_, q⟩
  have hle : s1.heap.objs.size ≤ c := five (Pr := fun c => s1.heap.objs.size ≤ c) hcm (Nat.le_add_right _ _) (Nat.le_add_right _ _) (Nat.le_add_right _ _) (Nat.le_refl _) (Nat.le_add_right _ _)
  exact I1.fpOk hle (I1.hok.fresh hle)
end Z
set_option Elab.async false
set_option linter.all false
set_option maxRecDepth 100000
set_option maxHeartbeats 4000000
namespace Z
open PySem PySem.Spec PyProof.Rows L2
/-! ### (v,) * k for 0 ≤ k -/
theorem tmul0 (l : Addr) (v : Value) (n : Nat) (dd : Option Addr) (sl : Array (Option Value)) (u : Tok) :
    Meets (Builtin.«tuple.__mul__» ⟨[.ref l, .int 0 u], []⟩) (fun _ R s => s.heap.get? l = some { cls := .type "tuple", dict := dd, data := .seq #[v] n, slots := sl } ∧
      R (.ok (.ret (Value.ref s.heap.objs.size))) { s with heap := s.heap.push { cls := Value.type "tuple", data := Data.seq #[] }, toks := s.toks }) :=
  .of_wp fun prog w A R s h => by
    obtain ⟨hp, g, d, tk, os⟩ := s
    obtain ⟨hl, h⟩ := h
    have f1 := AutoSeq1.idx_int
    wp_walk using AutoSeq1.wpAny_loadPart' hl
    exact ⟨_, rfl, h⟩
theorem tmul1 (l : Addr) (items : Array Value) (n : Nat) (dd : Option Addr) (sl : Array (Option Value)) (u : Tok) :
    Meets (Builtin.«tuple.__mul__» ⟨[.ref l, .int 1 u], []⟩) (fun _ R s => s.heap.get? l = some { cls := .type "tuple", dict := dd, data := .seq items n, slots := sl } ∧ R (.ok (.ret (Value.ref l))) s) :=
  .of_wp fun prog w A R s h => by
    obtain ⟨hp, g, d, tk, os⟩ := s
    obtain ⟨hl, h⟩ := h
    have f1 := AutoSeq1.idx_int
    wp_walk using AutoSeq1.wpAny_loadPart' hl
    exact ⟨_, rfl, h⟩
theorem same_new {H : Hp} {p : Addr} {o : HO} (h : H p = none) : Same H (upd H p o) := fun b x e => by
  rw [upd_ne (ne_of_none e h)]
  exact e
def rRepU : R2 := fun x y H Q => ∃ l k v, x = .ref l ∧ y = .int k ∧ H l = some (.tup [v]) ∧ 0 ≤ k ∧ k ≤ 1000 ∧ ∀ p H', Same H H' → H' p = some (.tup (List.replicate k.toNat v)) → Q (.ref p) H'
theorem op_repU {X : Cx} : OpR X (binaryOp .Mult) rRepU := by
  intro pins s σ H x y vv uu Q I rx ry h
  obtain ⟨l, k, v, rfl, rfl, hT, h0, h1, q⟩ := id h
  by_cases k2 : 2 ≤ k
  · refine op_repT pins s σ H _ _ vv uu Q I rx ry ⟨l, k, [v], rfl, rfl, .inl (.inl hT), by simp, k2, h1, by simp, fun p np => q p _ (same_new np) ?_⟩
    rw [upd_same]
    congr 2
    generalize k.toNat = m
    induction m with
    | zero => rfl
    | succ m ih => rw [List.replicate_succ, List.flatten_cons, ih, List.replicate_succ]; rfl
  · cases rx
    obtain ⟨t, rfl⟩ := ry
    obtain ⟨its, r, ⟨⟨cls, dd, data, sl⟩, ho, hc, n, hd⟩, hs⟩ := I.tuple (.inl (.inl hT) : SqT X.K H l [v])
    simp only at hc hd
    subst hc hd
    obtain ⟨u, rfl, ru⟩ := Vals.one r
    by_cases k1 : k = 1
    · subst k1
      refine wpAny_binaryOp_repeat_ref (T := "tuple") (U := "int") (by decide) ⟨_, ho, rfl⟩ (fun s' => typeIs_int s' 1 t) noFill_tuple_mul F.fills_int_mul F.slot_int_rmul repeat_tuple F.slot_int_index.lookup
        (call_meets F.slot_int_rmul (typeIs_int s 1 t) F.entry_int_rmul (F.args_int_rmul_2 _ _) (int_rmul_tuple 1 t l [u].toArray n dd sl)
          ⟨ho, rfl, ⟨_, ho, rfl⟩, call_meets F.slot_tuple_mul ⟨_, ho, rfl⟩ F.entry_tuple_mul (F.args_tuple_mul_2 _ _) (tmul1 l [u].toArray n dd sl t) ⟨ho, ?_⟩⟩)
      exact ⟨.ref l, H, I, rfl, q l H (Same.refl H) hT⟩
    · have k0 : k = 0 := by omega
      subst k0
      refine wpAny_binaryOp_repeat_ref (T := "tuple") (U := "int") (by decide) ⟨_, ho, rfl⟩ (fun s' => typeIs_int s' 0 t) noFill_tuple_mul F.fills_int_mul F.slot_int_rmul repeat_tuple F.slot_int_index.lookup
        (call_meets F.slot_int_rmul (typeIs_int s 0 t) F.entry_int_rmul (F.args_int_rmul_2 _ _) (int_rmul_tuple 0 t l [u].toArray n dd sl)
          ⟨ho, rfl, ⟨_, ho, rfl⟩, call_meets F.slot_tuple_mul ⟨_, ho, rfl⟩ F.entry_tuple_mul (F.args_tuple_mul_2 _ _) (tmul0 l u n dd sl t) ⟨ho, ?_⟩⟩)
      refine ⟨.ref s.heap.objs.size, _, I.laid (t' := s.toks) (o := .tup []) (fun b ob z => Heap.get?_push_of_some _ z) (Nat.le_refl _) ?_, rfl, q _ _ (same_new (I.hok.fresh (Nat.le_refl _))) upd_same⟩
      exact ⟨Nat.zero_le _, [], .nil, IsTup.new _ _⟩
/-! ### loops and comprehensions over any iterator -/
def forW (J : It) (g : TG) (tb : TS) (D : Ends) (σ : L2.St) (H : Hp) : Prop := ∃ W : Nat → Nat → L2.St → Hp → Prop, (∃ m, W 0 m σ H) ∧ ∀ i m σ H, W i m σ H →
  (J.stop i H ∧ D.nx σ H) ∨ (J.go i H ∧ ∃ N : L2.St → Hp → Prop, (∀ σ' H', N σ' H' → ∃ m', m' < m ∧ W (i + 1) m' σ' H') ∧ ∀ x H', J.yld i H x H' → g x σ H' fun σ2 H2 => tb { D with nx := N, ct := N, bk := D.nx } σ2 H2)
theorem for_gen {J : It} {n : Nat} {g : TG} {tb : TS} {D : Ends} {σ : L2.St} {H : Hp} (Pv : Nat → L2.St → Hp → Prop) (h0 : Pv 0 σ H) (hgo : ∀ i σ H, i < n → Pv i σ H → J.go i H) (hst : ∀ σ H, Pv n σ H → J.stop n H)
    (hs : ∀ i σ H x H', i < n → Pv i σ H → J.yld i H x H' → g x σ H' fun σ2 H2 => tb { D with nx := Pv (i + 1), ct := Pv (i + 1), bk := D.nx } σ2 H2) (hd : ∀ σ H, Pv n σ H → D.nx σ H) : forW J g tb D σ H := by
  refine ⟨fun i m σ H => m = n - i ∧ i ≤ n ∧ Pv i σ H, ⟨n, by omega, Nat.zero_le _, h0⟩, fun i m σ H w => ?_⟩
  obtain ⟨rfl, hi, p⟩ := w
  by_cases hlt : i < n
  · exact .inr ⟨hgo i σ H hlt p, Pv (i + 1), fun σ' H' z => ⟨n - (i + 1), by omega, rfl, hlt, z⟩, fun x H' y => hs i σ H x H' hlt p y⟩
  · have e : i = n := by omega
    subst e
    exact .inl ⟨hst σ H p, hd σ H p⟩
def lcW (J : It) (g : TG) (tt : TT) (te : TE) (vs : List Nat) (σ : L2.St) (D : Addr) (Qd : Hp → Prop) (H1 : Hp) : Prop := ∃ W : Nat → Nat → Hp → Prop, (∃ m, W 0 m (upd H1 D (.lst []))) ∧ ∀ i m H, W i m H →
  (J.stop i H ∧ Qd H) ∨ (J.go i H ∧ ∃ Nx : Hp → Prop, (∀ H', Nx H' → ∃ m', m' < m ∧ W (i + 1) m' H') ∧ ∀ x H', J.yld i H x H' → g x (wipe σ vs) H' fun σ2 H2 => wipe σ2 vs = wipe σ vs ∧ tt σ2 H2 fun b H3 =>
    if b = true then te σ2 H3 fun y H4 => ∃ acc, H4 D = some (.lst acc) ∧ acc.length < sizeLine ∧ Nx (upd H4 D (.lst (acc ++ [y]))) else Nx H3)
theorem lc_gen {J : It} {n : Nat} {g : TG} {tt : TT} {te : TE} {vs : List Nat} {σ : L2.St} {H1 : Hp} {D : Addr} {Qd : Hp → Prop} (Pv : Nat → Hp → Prop) (h0 : Pv 0 (upd H1 D (.lst []))) (hgo : ∀ i H, i < n → Pv i H → J.go i H) (hst : ∀ H, Pv n H → J.stop n H)
    (hs : ∀ i H x H', i < n → Pv i H → J.yld i H x H' → g x (wipe σ vs) H' fun σ2 H2 => wipe σ2 vs = wipe σ vs ∧ tt σ2 H2 fun b H3 =>
      if b = true then te σ2 H3 fun y H4 => ∃ acc, H4 D = some (.lst acc) ∧ acc.length < sizeLine ∧ Pv (i + 1) (upd H4 D (.lst (acc ++ [y]))) else Pv (i + 1) H3) (hd : ∀ H, Pv n H → Qd H) : lcW J g tt te vs σ D Qd H1 := by
  refine ⟨fun i m H => m = n - i ∧ i ≤ n ∧ Pv i H, ⟨n, by omega, Nat.zero_le _, h0⟩, fun i m H w => ?_⟩
  obtain ⟨rfl, hi, p⟩ := w
  by_cases hlt : i < n
  · exact .inr ⟨hgo i H hlt p, Pv (i + 1), fun H' z => ⟨n - (i + 1), by omega, rfl, hlt, z⟩, fun x H' y => hs i H x H' hlt p y⟩
  · have e : i = n := by omega
    subst e
    exact .inl ⟨hst H p, hd H p⟩
/-! ### a def of the module that may be called by its name -/
structure Cal (P : Program) (w : World) (K : PySem.W.Frag) (mg : Str → Option Value) (base : Heap) (k : Nat) (x : Str) (sp : Sp) : Prop where
  ex : ∃ (f : Addr) (fd : FuncData) (ps : List Str), FnOk P w K mg base CX0 k f fd ps sp ∧ mg x = some (.ref f) ∧ PySem.W.keepIn K (.ref f) = true ∧ Binds K fd ps []
section
variable {X : Cx} {k j : Nat} {x : Str} {sp : Sp} {p pos : Pos} {e : Expr} {es : List Expr} {t : TA}
theorem pe_cl (c : Cal X.prog X.w X.K X.mg X.base k x sp) (hr : Room j X.A) (hk : k ≤ j) (hg : Gl X x) (ha : PA X (e :: es) t)
    (hdb : (x == ("__debug__" : Str)) = false := by decide) (he : starEach (e :: es) X.env = (false, eval e X.env) :: starEach es X.env := by rfl) (hpl : (backTo pos (starEach es X.env)).any (·.1) = false := by rfl) : PE X (.Call (.Name x p) (e :: es) [] pos) (tCall sp [] E0 t) := by
  obtain ⟨f, fd, ps, F, hm, kp, b⟩ := c.ex
  exact pe_call F (hr.mono hk) hg hm kp b .nil pass0 ha hdb he hpl
end
structure CalK (P : Program) (w : World) (K : PySem.W.Frag) (mg : Str → Option Value) (base : Heap) (k : Nat) (x : Str) (n : Nat) (ks : List Str) (gV : List V → List V → List V) (sp : Sp) : Prop where
  ex : ∃ (f : Addr) (fd : FuncData) (ps : List Str) (g : List Value → List Value → List Value), FnOk P w K mg base CX0 k f fd ps sp ∧ mg x = some (.ref f) ∧ PySem.W.keepIn K (.ref f) = true ∧ KBn K fd ps n ks g gV
section
variable {X : Cx} {k j n : Nat} {x : Str} {sp : Sp} {ks : List Str} {gV : List V → List V → List V} {p pos : Pos} {e : Expr} {es : List Expr} {kws : List Keyword} {t tk : TA}
theorem pe_clK (c : CalK X.prog X.w X.K X.mg X.base k x n ks gV sp) (hr : Room j X.A) (hk : k ≤ j) (hg : Gl X x) (ha : PA X (e :: es) t) (hkw : PK X kws tk)
    (hall : (backToKw pos (keywordEach kws X.env)).all (·.1.isSome) = true := by rfl) (hks : (backToKw pos (keywordEach kws X.env)).filterMap (·.1) = ks := by rfl) (hdb : (x == ("__debug__" : Str)) = false := by decide)
    (he : starEach (e :: es) X.env = (false, eval e X.env) :: starEach es X.env := by rfl) (hpl : ((backTo pos (starEach (e :: es) X.env)).any (·.1) || (backToKw pos (keywordEach kws X.env)).any (·.1.isNone)) = false := by rfl) :
    PE X (.Call (.Name x p) (e :: es) kws pos) (tCallN n ks.length sp gV E0 t tk) := by
  obtain ⟨f, fd, ps, g, F, hm, kp, b⟩ := c.ex
  exact pe_callN F (hr.mono hk) hg hm kp b pass0 ha hkw hall hks hdb he hpl
end
/-! ### heaps -/
/-- all but p stands -/
def SB (p : Addr) (H H' : Hp) : Prop := ∀ b o, b ≠ p → H b = some o → H' b = some o
theorem Same.sb {p : Addr} {H H' : Hp} (s : Same H H') : SB p H H' := fun b o _ h => s b o h
theorem SB.trans {p : Addr} {H H1 H2 : Hp} (a : SB p H H1) (b : SB p H1 H2) : SB p H H2 := fun c o n h => b c o n (a c o n h)
theorem SB.upd {p : Addr} {H H' : Hp} {o : HO} (s : SB p H H') : SB p H (upd H' p o) := fun b u n h => by
  rw [upd_ne n]
  exact s b u n h
theorem SB.same {p : Addr} {H H' : Hp} (s : SB p H H') (n : H p = none) : Same H H' := fun b o h => s b o (ne_of_none h n) h
theorem Same.mut {p : Addr} {H H' : Hp} {o : HO} (s : Same H H') (n : H p = none) : Same H (L2.upd H' p o) := fun b u h => by
  rw [upd_ne (ne_of_none h n)]
  exact s b u h
theorem SB.sq {K : PySem.W.Frag} {p a : Addr} {H H' : Hp} {xs : List V} (s : SB p H H') (n : a ≠ p) (h : SqL K H a xs) : SqL K H' a xs := by
  rcases h with (h | ⟨o, h⟩) | h
  · exact .inl (.inl (s _ _ n h))
  · exact .inl (.inr ⟨o, s _ _ n h⟩)
  · exact .inr h
theorem Same.sqT {K : PySem.W.Frag} {a : Addr} {H H' : Hp} {xs : List V} (s : Same H H') (h : SqT K H a xs) : SqT K H' a xs := by
  rcases h with (h | ⟨o, h⟩) | h
  · exact .inl (.inl (s _ _ h))
  · exact .inl (.inr ⟨o, s _ _ h⟩)
  · exact .inr h
theorem Same.sqK {b : Bool} {K : PySem.W.Frag} {a : Addr} {H H' : Hp} {xs : List V} (s : Same H H') (h : SqK b K H a xs) : SqK b K H' a xs := by
  cases b
  · exact Z.Same.sqT s h
  · exact s.seq h
theorem at_map {α : Type} {f : α → V} {xs : List α} {i : Nat} {x : α} (h : xs[i]? = some x) : atI (xs.map f) (i : Int) = some (f x) := atI_nat (by rw [List.getElem?_map, h]; rfl)
theorem of_map {α : Type} {f : α → V} {xs : List α} {i : Nat} {v : V} (h : (xs.map f)[i]? = some v) : ∃ x, xs[i]? = some x ∧ v = f x := by
  rw [List.getElem?_map] at h
  cases e : xs[i]? with
  | none => rw [e] at h; cases h
  | some x => rw [e] at h; exact ⟨x, rfl, (Option.some.inj h).symm⟩
end Z
set_option Elab.async false
set_option linter.all false
set_option maxRecDepth 100000
set_option maxHeartbeats 4000000
namespace Z
open PySem PySem.Spec PyProof.Rows L2
/-! ### data -/
def sqD (b : Bool) (ds : List PyData) : PyData := match b with
  | true => .list ds
  | false => .tuple ds
def intsD (b : Bool) (ns : List Int) : PyData := sqD b (ns.map PyData.int)
def matD (b : Bool) (rs : List (List Int)) : PyData := sqD b (rs.map (intsD b))
theorem dp_sq {b : Bool} {K : PySem.W.Frag} {H : Hp} {a : Addr} {xs : List V} {ds : List PyData} (h : SqK b K H a xs) (d : DpAll K H xs ds) : Dp K H (.ref a) (sqD b ds) := by
  cases b
  · exact .tup h d
  · exact .lst h d
theorem dpa_ints {K : PySem.W.Frag} {H : Hp} : ∀ ns : List Int, DpAll K H (ns.map V.int) (ns.map PyData.int)
  | [] => .nil
  | n :: r => .cons (.int n) (dpa_ints r)
theorem dp_ints {b : Bool} {K : PySem.W.Frag} {H : Hp} {a : Addr} {ns : List Int} (h : SqK b K H a (ns.map V.int)) : Dp K H (.ref a) (intsD b ns) := dp_sq h (dpa_ints ns)
/-- a matrix: a list (or tuple) of lists (or tuples) of ints, at ps -/
def Mat (b : Bool) (K : PySem.W.Frag) (H : Hp) (a : Addr) (ps : List Addr) (rs : List (List Int)) : Prop := SqK b K H a (ps.map V.ref) ∧ ps.length = rs.length ∧ ∀ (i : Nat) (p : Addr) (r : List Int), ps[i]? = some p → rs[i]? = some r → SqK b K H p (r.map V.int)
theorem Mat.mono {b : Bool} {K : PySem.W.Frag} {H H' : Hp} {a : Addr} {ps : List Addr} {rs : List (List Int)} (s : Same H H') (m : Mat b K H a ps rs) : Mat b K H' a ps rs := ⟨Z.Same.sqK s m.1, m.2.1, fun i p r h1 h2 => Z.Same.sqK s (m.2.2 i p r h1 h2)⟩
theorem dpa_mat {b : Bool} {K : PySem.W.Frag} {H : Hp} : ∀ (ps : List Addr) (rs : List (List Int)), ps.length = rs.length → (∀ (i : Nat) (p : Addr) (r : List Int), ps[i]? = some p → rs[i]? = some r → SqK b K H p (r.map V.int)) → DpAll K H (ps.map V.ref) (rs.map (intsD b))
  | [], [], _, _ => .nil
  | p :: ps, r :: rs, hl, h => .cons (dp_ints (h 0 p r rfl rfl)) (dpa_mat ps rs (by simpa using hl) fun i q s h1 h2 => h (i + 1) q s h1 h2)
theorem Mat.dp {b : Bool} {K : PySem.W.Frag} {H : Hp} {a : Addr} {ps : List Addr} {rs : List (List Int)} (m : Mat b K H a ps rs) : Dp K H (.ref a) (matD b rs) := dp_sq m.1 (dpa_mat ps rs m.2.1 m.2.2)
theorem lay_ints : ∀ ns : List Int, PyData.canLayAll0 (ns.map PyData.int) = true
  | [] => rfl
  | n :: r => by
    rw [List.map_cons, PyData.canLayAll0, lay_ints r]
    rfl
theorem dep_ints : ∀ ns : List Int, PyData.depthAll (ns.map PyData.int) = 0
  | [] => rfl
  | n :: r => by
    rw [List.map_cons, PyData.depthAll, dep_ints r]
    rfl
theorem shaped_ints (b : Bool) (ns : List Int) : SeqAt.shaped (intsD b ns) = true := by
  unfold SeqAt.shaped intsD
  cases b
  · show (PyData.canLayAll0 (ns.map PyData.int) && decide (PyData.depthAll (ns.map PyData.int) + 1 ≤ 64)) = true
    rw [lay_ints, dep_ints]
    rfl
  · show (PyData.canLayAll0 (ns.map PyData.int) && decide (PyData.depthAll (ns.map PyData.int) + 1 ≤ 64)) = true
    rw [lay_ints, dep_ints]
    rfl
theorem lay_mat (b : Bool) : ∀ rs : List (List Int), PyData.canLayAll0 (rs.map (intsD b)) = true
  | [] => rfl
  | n :: r => by
    rw [List.map_cons, PyData.canLayAll0, lay_mat b r, SeqAt.canLay_of_shaped (shaped_ints b n)]
    rfl
theorem dep_mat (b : Bool) : ∀ rs : List (List Int), PyData.depthAll (rs.map (intsD b)) ≤ 1
  | [] => Nat.zero_le _
  | n :: r => by
    rw [List.map_cons, PyData.depthAll]
    have h := dep_mat b r
    have h2 : (intsD b n).depth = 1 := by
      cases b
      · show PyData.depthAll (n.map PyData.int) + 1 = 1
        rw [dep_ints]
      · show PyData.depthAll (n.map PyData.int) + 1 = 1
        rw [dep_ints]
    omega
theorem shaped_mat (b : Bool) (rs : List (List Int)) : SeqAt.shaped (matD b rs) = true := by
  have h := dep_mat b rs
  unfold SeqAt.shaped matD
  cases b
  · show (PyData.canLayAll0 (rs.map (intsD false)) && decide (PyData.depthAll (rs.map (intsD false)) + 1 ≤ 64)) = true
    rw [lay_mat, decide_eq_true (by omega)]
    rfl
  · show (PyData.canLayAll0 (rs.map (intsD true)) && decide (PyData.depthAll (rs.map (intsD true)) + 1 ≤ 64)) = true
    rw [lay_mat, decide_eq_true (by omega)]
    rfl
theorem same2 {K : PySem.W.Frag} {H : Hp} {x y : V} {d : PyData} {R : PyData → PyData → Prop} (hx : Dp K H x d) (hy : Dp K H y d) (hs : SeqAt.shaped d = true) (q : R d d) : ∃ d' e', Dp K H x d' ∧ Dp K H y e' ∧ SeqAt.shaped d' = true ∧ SeqAt.shaped e' = true ∧ R d' e' := ⟨d, d, hx, hy, hs, hs, q⟩
theorem eqv_same {d : PyData} (hs : SeqAt.shaped d = true) : PyData.eqv d d = true := SeqAt.eqv_refl d (SeqAt.canLay_of_shaped hs)
/-! ### a target that is one of two kinds -/
def gOr (t u : TG) : TG := fun v σ H Q => t v σ H Q ∨ u v σ H Q
theorem pg_or {X : Cx} {e : Expr} {t u : TG} (h1 : PG X e t) (h2 : PG X e u) : PG X e (gOr t u) := by
  refine ⟨fun pins s σ H v uu Q I r hw => ?_⟩
  rcases hw with h | h
  · exact h1.run pins s σ H v uu Q I r h
  · exact h2.run pins s σ H v uu Q I r h
/-! ### isinstance of built-in kinds -/
theorem isi {K : PySem.W.Frag} {H : Hp} {x : V} {T c : String} {b : Bool} {R : Bool → Prop} (t : TyOf K H x (.type T)) (h : kitB T c = some b) (q : R b) : ∃ (x' c' : V) (t' u' : Value) (b' : Bool), [x, .ty c] = [x', c'] ∧ ClsV c' u' ∧ TyX K H x' t' ∧ PySem.W.kitOne K t' u' = some b' ∧ R b' :=
  ⟨x, .ty c, .type T, .type c, b, rfl, .ty c, .base t, kit_ty h, q⟩
/-! ### rules by the written part itself (within a comprehension's block) -/
section
variable {X : Cx} {K : PySem.W.Frag}
theorem ix_list_K (h : X.K = K) : IxR X (rIxL K) := by subst h; exact ix_list
theorem ix_tup_K (h : X.K = K) : IxR X (rIxT K) := by subst h; exact ix_tup
theorem ix_seq_K (h : X.K = K) : IxR X (rIx K) := by subst h; exact ix_seq
theorem call_len_seq_K (h : X.K = K) : CallR X (.builtin "len") (fun xs H Q => ∃ p ys, xs = [.ref p] ∧ (SqL K H p ys ∨ SqT K H p ys) ∧ Q (.int ys.length) H) := by subst h; exact call_len_seq
theorem call_list_of_K (h : X.K = K) : CallR X (.type "list") (fun xs H Q => ∃ p ys, xs = [.ref p] ∧ (SqL K H p ys ∨ SqT K H p ys) ∧ ∀ l, H l = none → Q (.ref l) (upd H l (.lst ys))) := by subst h; exact call_list_of
theorem call_tuple_of_K (h : X.K = K) : CallR X (.type "tuple") (fun xs H Q => ∃ p ys, xs = [.ref p] ∧ ((SqL K H p ys ∧ ∀ l, H l = none → Q (.ref l) (upd H l (.tup ys))) ∨ (SqT K H p ys ∧ Q (.ref p) H))) := by subst h; exact call_tuple_of
theorem op_in_seq_K (h : X.K = K) : OpR X (compareOp .In) (rIn K false) := by subst h; exact op_in_seq
theorem op_notIn_seq_K (h : X.K = K) : OpR X (compareOp .NotIn) (rIn K true) := by subst h; exact op_notIn_seq
theorem op_eqD_K (h : X.K = K) (hu : X.A.units + 64 < cLine) : OpR X (compareOp .Eq) (rEqD K) := by subst h; exact op_eqD hu
theorem op_neD_K (h : X.K = K) (hu : X.A.units + 64 < cLine) : OpR X (compareOp .NotEq) (rNeD K) := by subst h; exact op_neD hu
theorem call_isi_K (h : X.K = K) : CallR X (.builtin "isinstance") (rIsi K) := by subst h; exact call_isi
end
/-! ### great products -/
theorem big_mul {i j : Int} (hi : i.natAbs < 2 ^ 4000) (hj : j.natAbs < 2 ^ 4000) : CMulX i j := mulx_ok hi hj (by decide)
/-! ### sums of multiples of rows -/
def combN (rs : List (List Int)) (fs : List Int) (w : Nat) : Nat → List Int
  | 0 => List.replicate w 0
  | n + 1 => List.zipWith (fun a b => a + fs.getD n 0 * b) (combN rs fs w n) (rs.getD n [])
theorem combN_len {rs : List (List Int)} {fs : List Int} {w : Nat} (h : ∀ r ∈ rs, r.length = w) : ∀ n, n ≤ rs.length → (combN rs fs w n).length = w
  | 0, _ => List.length_replicate
  | n + 1, hn => by
    rw [combN, List.length_zipWith, combN_len h n (by omega), List.getD_eq_getElem?_getD, List.getElem?_eq_getElem (by omega), Option.getD_some, h _ (List.getElem_mem _)]
    omega
theorem combN_at {rs : List (List Int)} {fs : List Int} {w i c : Nat} (hi : i < rs.length) (hf : i < fs.length) (c1 : c < (combN rs fs w i).length) (c2 : c < rs[i].length) : (combN rs fs w (i + 1))[c]? = some ((combN rs fs w i)[c] + fs[i] * rs[i][c]) := by
  have g1 : fs.getD i 0 = fs[i] := by rw [List.getD_eq_getElem?_getD, List.getElem?_eq_getElem hf]; rfl
  have g2 : rs.getD i [] = rs[i] := by rw [List.getD_eq_getElem?_getD, List.getElem?_eq_getElem hi]; rfl
  rw [combN, List.getElem?_zipWith, g1, g2, List.getElem?_eq_getElem c1, List.getElem?_eq_getElem c2]
end Z
set_option Elab.async false
set_option linter.all false
set_option maxRecDepth 100000
set_option maxHeartbeats 4000000
namespace Z
open PySem PySem.Spec PyProof.Rows L2
open C8 (pss_cut tCut)
local macro_rules | `(tactic| walk_at "num") => `(tactic| first | omega | decide | exact ⟨by omega, by omega⟩ | exact ⟨by omega, by omega, by omega⟩ | exact ⟨by decide, by decide, by decide⟩ | exact Or.inl ⟨by omega, by omega⟩ | exact Or.inr ⟨by omega, by omega⟩)
local macro_rules | `(tactic| walk_at "go") => `(tactic| repeat (first | refine ⟨_, rfl, ?_⟩ | refine ⟨_, _, rfl, rfl, ?_⟩ | refine ⟨_, _, rfl, rfl, (by walk_at "num"), ?_⟩ | refine Or.inl ⟨_, rfl, ?_⟩ | refine ⟨rfl, ?_⟩ | refine And.intro (by walk_at "num") ?_))
def topS (i : Nat) : Stmt := PySem.Challenge.pw_signedpacts_k78_grow.main.body.getD i (.Pass ⟨0, 0, 0, 0⟩)
abbrev s_cell : Stmt := topS 21
abbrev N_cell : List Str := ["_law_script", "_law_k"]
abbrev P_cell : List Str := ["_law_script", "_law_k"]
theorem sc_cell : FnScope N_cell P_cell (defScope s_cell) := ⟨rfl, rfl, rfl, by decide +kernel, rfl, by decide +kernel, by decide +kernel⟩
abbrev s_draws : Stmt := topS 22
abbrev N_draws : List Str := ["_law_cell_here", "_law_many", "_law_rest", "_law_large", "_law_seed", "_law_found", "_law_k"]
abbrev P_draws : List Str := ["_law_cell_here", "_law_many"]
theorem sc_draws : FnScope N_draws P_draws (defScope s_draws) := ⟨rfl, rfl, rfl, by decide +kernel, rfl, by decide +kernel, by decide +kernel⟩
abbrev s_take : Stmt := topS 23
abbrev N_take : List Str := ["_law_draws_here", "_law_place"]
abbrev P_take : List Str := ["_law_draws_here", "_law_place"]
theorem sc_take : FnScope N_take P_take (defScope s_take) := ⟨rfl, rfl, rfl, by decide +kernel, rfl, by decide +kernel, by decide +kernel⟩
abbrev FnP (K : PySem.W.Frag) (x : Str) (st : Stmt) (f : Addr) (fd : FuncData) : Prop := FunD K x x (defArgs st) (defBody st) (defScope st) [] [] f fd
section
variable {P : Program} {w : World} {K : PySem.W.Frag} {mg : Str → Option Value} {base : Heap} {f : Addr} {fd : FuncData}
theorem cal_of {k : Nat} {x : Str} {st : Stmt} {ps : List Str} {sp : Sp} (F : FnP K x st f fd) (g : mg x = some (.ref f)) (b : Binds K fd ps []) (h : FnOk P w K mg base CX0 k f fd ps sp) : Cal P w K mg base k x sp := ⟨f, fd, ps, h, g, F.kp, b⟩
/-! ### _law_cell -/
def spCell (K : PySem.W.Frag) : Sp := fun vs H Q _ => ∃ (a : Addr) (ns : List Int) (k : Nat), vs = [.ref a, .int (k : Int)] ∧ SqL K H a (ns.map V.int) ∧ Q (.int (ns.getD k 0)) H
theorem ok_cell (F : FnP K "_law_cell" s_cell f fd) (m_len : mg "len" = none) (m_int : mg "int" = none) : FnOk P w K mg base CX0 1 f fd P_cell (spCell K) := by
  refine F.ok sc_cell (fun vs H Q E h => ?_) (fun cdv A outer s H vs Q E hr h => ?_)
  · obtain ⟨a, ns, k, rfl, _⟩ := h
    rfl
  · obtain ⟨a, ns, k, rfl, hS, q⟩ := h
    refine ⟨_, PSs.nox (pss_cons (ps_if (pt_cmpR op_lt (pv 1) (pe_callB call_len_seq (by rfl) m_len PySem.boot_len (pa_cons (pv 0) pa_nil)) (nomark _)) (pss_one (ps_ret (pe_callTy call_int1 (by rfl) m_int (by decide +kernel) (pa_cons (pe_ix ix_list (pv 0) (pv 1) (fun _ _ => rfl)) pa_nil)))) pss_nil)
      (pss_one (ps_ret pe_int))), ?_⟩
    walk_at "go"
    refine ⟨a, _, rfl, .inl hS, ?_⟩
    walk_at "go"
    rw [List.length_map]
    refine ite2 (fun e => ?_) (fun e => ?_)
    · have hk : k < ns.length := by have := of_decide_eq_true e; omega
      walk_at "go"
      refine ⟨a, _, _, _, rfl, rfl, hS, at_map (List.getElem?_eq_getElem hk), ?_⟩
      walk_at "go"
      rw [List.getD_eq_getElem?_getD, List.getElem?_eq_getElem hk] at q
      exact q
    · have hk : ¬ k < ns.length := fun z => e (decide_eq_true (by omega))
      rw [List.getD_eq_getElem?_getD, List.getElem?_eq_none (by omega)] at q
      exact q
/-! ### _law_draws -/
def Dr (n : Nat) (ds : List Int) : Prop := ds.length = n ∧ ∀ d ∈ ds, 0 ≤ d ∧ d < 1000000
def spDraws : Sp := fun vs H Q _ => ∃ (c : Int) (n : Nat), vs = [.int c, .int (n : Int)] ∧ n ≤ 100000 ∧ ∀ p ds, H p = none → Dr n ds → Q (.ref p) (upd H p (.lst (ds.map V.int)))
theorem ok_draws (F : FnP K "_law_draws" s_draws f fd) (m_int : mg "int" = none) (m_abs : mg "abs" = none) (m_range : mg "range" = none) : FnOk P w K mg base CX0 1 f fd P_draws spDraws := by
  refine F.ok sc_draws (fun vs H Q E h => ?_) (fun cdv A outer s H vs Q E hr h => ?_)
  · obtain ⟨c, n, rfl, _⟩ := h
    rfl
  · obtain ⟨c, n, rfl, hn, q⟩ := h
    refine ⟨_, PSs.nox (pss_cons (ps_set (i := 2) sc_draws.nd rfl (by first | exact .inl rfl | exact .inr rfl) (pe_callB call_abs (by rfl) m_abs (by decide +kernel) (pa_cons (pe_callTy call_int1 (by rfl) m_int (by decide +kernel) (pa_cons (pv 0) pa_nil)) pa_nil)))
      (pss_cons (ps_set (i := 3) sc_draws.nd rfl (by first | exact .inl rfl | exact .inr rfl) (pe_cmpR op_ge (pv 2) (pe_op op_pow pe_int pe_int) (nomark _)))
      (pss_cons (ps_set (i := 4) sc_draws.nd rfl (by first | exact .inl rfl | exact .inr rfl) (pe_op op_mod (pe_callTy call_int1 (by rfl) m_int (by decide +kernel) (pa_cons (pv 2) pa_nil)) pe_int))
      (pss_cons (ps_set (i := 5) sc_draws.nd rfl (by first | exact .inl rfl | exact .inr rfl) (pe_lst pa_nil))
      (pss_cons (ps_for PassesOwn.never rfl (pi_range1 (by rfl) m_range (pa_cons (pv 1) pa_nil)) (pg_name (i := 6) sc_draws.nd rfl (by first | exact .inl rfl | exact .inr rfl))
        (pss_cons (ps_set (i := 4) sc_draws.nd rfl (by first | exact .inl rfl | exact .inr rfl) (pe_op op_mod (pe_callTy call_int1 (by rfl) m_int (by decide +kernel) (pa_cons (pe_op op_add (pe_op op_add (pe_op op_mul (pv 4) pe_int) (pe_op op_mul pe_int (pv 6))) pe_int) pa_nil)) pe_int))
      (pss_one (ps_if (PW.pt (pw_and (pt_val (pv 3)) (pw_and1 (pt_cmpR op_gt (pv 2) pe_int (nomark _))))) (pss_cons (ps_expr (pe_bm PySem.F.plainAttrs_list PySem.F.slot_list_append PySem.F.type_list_append mt_append (pv 5) (pa_cons (pe_op op_mod (pe_callTy call_int1 (by rfl) m_int (by decide +kernel) (pa_cons (pv 2) pa_nil)) pe_int) pa_nil)))
      (pss_one (ps_set (i := 2) sc_draws.nd rfl (by first | exact .inl rfl | exact .inr rfl) (pe_op op_fdiv (pv 2) pe_int)))) (pss_one (ps_expr (pe_bm PySem.F.plainAttrs_list PySem.F.slot_list_append PySem.F.type_list_append mt_append (pv 5) (pa_cons (pe_op op_mod (pe_callTy call_int1 (by rfl) m_int (by decide +kernel) (pa_cons (pe_op op_fdiv (pe_op op_mod (pe_callTy call_int1 (by rfl) m_int (by decide +kernel) (pa_cons (pe_op op_add (pe_op op_mul (pv 4) pe_int) (pe_op op_mul pe_int (pv 6))) pa_nil)) pe_int) pe_int) pa_nil)) pe_int) pa_nil))))))))
      (pss_one (ps_ret (pv 5)))))))), ?_⟩
    walk_at "go"
    intro p np
    walk_at "go"
    refine for_gen (n := n) (fun i σ H1 => ∃ (r : Int) (z : Int) (ds : List Int) (v : Option V), 0 ≤ r ∧ 0 ≤ z ∧ z < 2147483647 ∧ Dr i ds ∧ H1 = upd H p (.lst (ds.map V.int)) ∧
      σ = [some (.int c), some (.int (n : Int)), some (.int r), some (.bl (decide ((10 : Int) ^ 18 ≤ (if c < 0 then -c else c)))), some (.int z), some (.ref p), v]) ?_ ?_ ?_ ?_ ?_
    · refine ⟨_, _, [], none, ?_, ?_, ?_, ⟨rfl, fun d hd => nomatch hd⟩, rfl, rfl⟩
      · split <;> omega
      · omega
      · omega
    · intro i σ H1 hi _
      show i < (n : Int).toNat
      omega
    · intro σ H1 _
      show (n : Int).toNat ≤ n
      omega
    · rintro i σ H1 x H' hi ⟨r, z, ds, v, hr0, hz0, hz1, hd, rfl, rfl⟩ ⟨rfl, rfl⟩
      have hlen : (ds.map V.int).length < sizeLine := by
        rw [List.length_map, hd.1]
        exact Nat.lt_of_lt_of_le hi (Nat.le_trans hn (by decide))
      have fin : ∀ (r' z' d : Int) (u : Option V), 0 ≤ r' → 0 ≤ z' → z' < 2147483647 → 0 ≤ d → d < 1000000 → ∃ (r : Int) (z : Int) (es : List Int) (v : Option V), 0 ≤ r ∧ 0 ≤ z ∧ z < 2147483647 ∧ Dr (i + 1) es ∧ upd (upd H p (.lst (ds.map V.int))) p (.lst (ds.map V.int ++ [.int d])) = upd H p (.lst (es.map V.int)) ∧
          [some (.int c), some (.int (n : Int)), some (.int r'), some (.bl (decide ((10 : Int) ^ 18 ≤ (if c < 0 then -c else c)))), some (.int z'), some (.ref p), u] = [some (.int c), some (.int (n : Int)), some (.int r), some (.bl (decide ((10 : Int) ^ 18 ≤ (if c < 0 then -c else c)))), some (.int z), some (.ref p), v] := by
        intro r' z' d u a1 a2 a3 a4 a5
        refine ⟨r', z', ds ++ [d], u, a1, a2, a3, ⟨by rw [List.length_append, hd.1]; rfl, fun x hx => ?_⟩, ?_, rfl⟩
        · rcases List.mem_append.mp hx with h | h
          · exact hd.2 x h
          · rw [List.mem_singleton.mp h]
            exact ⟨a4, a5⟩
        · rw [upd_upd, List.map_append]
          rfl
      walk_at "go"
      refine ite2 (fun e => ?_) (fun e => ?_)
      · walk_at "go"
        refine ite2 (fun e2 => ?_) (fun e2 => ?_)
        · walk_at "go"
          refine ⟨.inl ⟨rfl, _, .inl (.inl upd_same)⟩, ?_⟩
          walk_at "go"
          refine ⟨_, _, _, rfl, rfl, upd_same, hlen, ?_⟩
          walk_at "go"
          exact fin _ _ _ _ (by omega) (by omega) (by omega) (by omega) (by omega)
        · walk_at "go"
          refine ⟨.inl ⟨rfl, _, .inl (.inl upd_same)⟩, ?_⟩
          walk_at "go"
          refine ⟨_, _, _, rfl, rfl, upd_same, hlen, ?_⟩
          walk_at "go"
          exact fin _ _ _ _ (by omega) (by omega) (by omega) (by omega) (by omega)
      · walk_at "go"
        refine ⟨.inl ⟨rfl, _, .inl (.inl upd_same)⟩, ?_⟩
        walk_at "go"
        refine ⟨_, _, _, rfl, rfl, upd_same, hlen, ?_⟩
        walk_at "go"
        exact fin _ _ _ _ (by omega) (by omega) (by omega) (by omega) (by omega)
    · rintro σ H1 ⟨r, z, ds, v, hr0, hz0, hz1, hd, rfl, rfl⟩
      walk_at "go"
      exact q p ds np hd
/-! ### _law_take -/
def spTake (K : PySem.W.Frag) : Sp := fun vs H Q _ => ∃ (a p : Addr) (n m : Nat) (ds : List Int), vs = [.ref a, .ref p] ∧ SqL K H a (ds.map V.int) ∧ Dr n ds ∧ H p = some (.lst [.int (m : Int)]) ∧ a ≠ p ∧ ∀ r : Int, 0 ≤ r → r < 1000000 → Q (.int r) (upd H p (.lst [.int ((m + 1 : Nat) : Int)]))
theorem ok_take (F : FnP K "_law_take" s_take f fd) (m_len : mg "len" = none) : FnOk P w K mg base CX0 1 f fd P_take (spTake K) := by
  refine F.ok sc_take (fun vs H Q E h => ?_) (fun cdv A outer s H vs Q E hr h => ?_)
  · obtain ⟨a, p, n, m, ds, rfl, _⟩ := h
    rfl
  · obtain ⟨a, p, n, m, ds, rfl, hS, hd, hp, ne, q⟩ := h
    refine ⟨_, PSs.nox (pss_cons (ps_asg (pe_op op_add (pe_ix ix_list (pv 1) pe_int (fun _ _ => rfl)) pe_int) (pg_sub (pv 1) pe_int set_list))
      (pss_cons (ps_if (pt_cmpR op_gt (pe_ix ix_list (pv 1) pe_int (fun _ _ => rfl)) (pe_callB call_len_seq (by rfl) m_len PySem.boot_len (pa_cons (pv 0) pa_nil)) (nomark _)) (pss_one (ps_ret pe_int)) pss_nil)
      (pss_one (ps_ret (pe_ix ix_list (pv 0) (pe_op op_sub (pe_ix ix_list (pv 1) pe_int (fun _ _ => rfl)) pe_int) (fun _ _ => rfl)))))), ?_⟩
    have sb : SB p H (upd H p (.lst [.int ((m + 1 : Nat) : Int)])) := SB.upd (Z.Same.sb (Same.refl H))
    have hS' := sb.sq ne hS
    walk_at "go"
    refine ⟨p, _, 0, _, rfl, rfl, SqL.of hp, rfl, ?_⟩
    walk_at "go"
    refine ⟨p, _, 0, 0, rfl, rfl, hp, rfl, ?_⟩
    show tSeq _ _ _ _ (upd H p (.lst [.int ((m : Int) + 1)]))
    rw [show ((m : Int) + 1) = ((m + 1 : Nat) : Int) by omega]
    walk_at "go"
    refine ⟨p, _, 0, _, rfl, rfl, SqL.of upd_same, rfl, ?_⟩
    walk_at "go"
    refine ⟨a, _, rfl, .inl hS', ?_⟩
    walk_at "go"
    rw [List.length_map]
    refine ite2 (fun e => ?_) (fun e => ?_)
    · exact q 0 (by omega) (by omega)
    · have hk : m < ds.length := by
        apply Decidable.byContradiction
        intro z
        exact e (decide_eq_true (by omega))
      walk_at "go"
      refine ⟨p, _, 0, _, rfl, rfl, SqL.of upd_same, rfl, ?_⟩
      walk_at "go"
      refine ⟨a, _, _, _, rfl, rfl, hS', at_of (by omega) (show (ds.map V.int)[m]? = some (.int ds[m]) by rw [List.getElem?_map, List.getElem?_eq_getElem hk]; rfl), ?_⟩
      have h1 := hd.2 ds[m] (List.getElem_mem hk)
      exact q _ h1.1 h1.2
end
end Z
set_option Elab.async false
set_option linter.all false
set_option maxRecDepth 100000
set_option maxHeartbeats 4000000
namespace Z
open PySem PySem.Spec PyProof.Rows L2
/-! ### own classes: making, methods, calls of instances, == -/
structure Mak (P : Program) (w : World) (K : PySem.W.Frag) (mg : Str → Option Value) (base : Heap) (k : Nat) (x : Str) (sp : Sp) : Prop where
  ex : ∃ (C f : Addr) (fd : FuncData) (ps : List Str) (si : Sp), Mk K C f ∧ FnOk P w K mg base CX0 k f fd ps si ∧ mg x = some (.ref C) ∧ Binds K fd ps [] ∧
    ∀ vs H Q E, sp vs H Q E → ∀ n dx, H n = none → H dx = none → dx ≠ n → si (.ref n :: vs) (upd (upd H dx (.own n)) n (.ins C dx [])) (fun v H2 => v = .non ∧ Q (.ref n) H2) E
structure Met (P : Program) (w : World) (K : PySem.W.Frag) (mg : Str → Option Value) (base : Heap) (k : Nat) (C : Addr) (m : Str) (sp : Sp) : Prop where
  ex : ∃ (f : Addr) (fd : FuncData) (ps : List Str), Cls K C ∧ Meth K C m f ∧ FnOk P w K mg base CX0 k f fd ps sp ∧ Binds K fd ps []
section
variable {X : Cx} {k j : Nat} {x m : Str} {sp : Sp} {C : Addr} {p pos apos : Pos} {e o : Expr} {es : List Expr} {t : TA} {ta : TE}
theorem pe_mk (c : Mak X.prog X.w X.K X.mg X.base k x sp) (hr : Room j X.A) (hk : k + 1 ≤ j) (hg : Gl X x) (ha : PA X (e :: es) t)
    (hdb : (x == ("__debug__" : Str)) = false := by decide) (he : starEach (e :: es) X.env = (false, eval e X.env) :: starEach es X.env := by rfl) (hpl : (backTo pos (starEach es X.env)).any (·.1) = false := by rfl) : PE X (.Call (.Name x p) (e :: es) [] pos) (tCall sp [] E0 t) := by
  obtain ⟨C, f, fd, ps, si, M, F, hm, b, imp⟩ := c.ex
  constructor
  intro pins s σ H Q I h
  refine wpAny_Call_Name_kw (ld_glob I hg hm ?_ hdb)
  refine PySem.W.callWith_K (h₀ := X.base) I.ok.mod.kin M.kp (thn (ha.run pos pins s σ H _ I h) fun us s1 ⟨vs, H1, I1, r, q⟩ => ⟨I1.kIn, ?_⟩) he hpl
  have q2 : sp vs H1 Q E0 := by
    have z : sp (vs ++ []) H1 Q E0 := q
    rw [List.append_nil] at z
    exact z
  refine run_make (dvs := []) M F (hr.mono hk) b .nil pass0 I1 r (fun n dx n1 n2 n3 => ?_)
  rw [List.append_nil]
  exact imp _ _ _ _ q2 n dx n1 n2 n3
theorem pe_me {pl : Sem Bool} (c : Met X.prog X.w X.K X.mg X.base k C m sp) (he : PE X o ta) (hr : Room j X.A) (hk : k ≤ j) (ha : PA X (e :: es) t)
    (hst : starEach (e :: es) X.env = (false, eval e X.env) :: starEach es X.env := by rfl) (hpl : (backTo pos (starEach es X.env)).any (·.1) = false := by rfl)
    (ht : eval (.Call (.Attribute o m apos) (e :: es) [] pos) X.env = (do
      let ov ← eval o X.env
      standAt apos.atName
      let (f, first) ← holding [ov] (getMethod ov m pl)
      callWith pos f first (backTo pos (starEach (e :: es) X.env)) (backToKw pos (keywordEach [] X.env))) := by rfl) : PE X (.Call (.Attribute o m apos) (e :: es) [] pos) (tMeth C m sp [] E0 ta t) := by
  obtain ⟨f, fd, ps, cl, me, F, b⟩ := c.ex
  exact pe_meth he cl me F (hr.mono hk) b .nil pass0 ha hst hpl ht
theorem pe_me0 {pl : Sem Bool} (c : Met X.prog X.w X.K X.mg X.base k C m sp) (he : PE X o ta) (hr : Room j X.A) (hk : k ≤ j)
    (ht : eval (.Call (.Attribute o m apos) [] [] pos) X.env = (do
      let ov ← eval o X.env
      standAt apos.atName
      let (f, first) ← holding [ov] (getMethod ov m pl)
      callWith pos f first (backTo pos (starEach [] X.env)) (backToKw pos (keywordEach [] X.env))) := by rfl) : PE X (.Call (.Attribute o m apos) [] [] pos) (tMeth C m sp [] E0 ta tNil) := by
  obtain ⟨f, fd, ps, cl, me, F, b⟩ := c.ex
  exact pe_meth0 he cl me F (hr.mono hk) b .nil pass0 ht
end
/-! ### f(e, ..), f an instance of C -/
structure Cob (P : Program) (w : World) (K : PySem.W.Frag) (mg : Str → Option Value) (base : Heap) (k : Nat) (C : Addr) (sp : Sp) : Prop where
  ex : ∃ g : Addr, StX.CallO K C g ∧ FnR P w K mg base CX0 k g sp
def tCo (C : Addr) (sp : Sp) (tf : TE) (t : TA) : TE := fun σ H Q => tf σ H fun y H1 => ∃ a, y = V.ref a ∧ t σ H1 fun vs H2 => (∃ dx fs, H2 a = some (.ins C dx fs)) ∧ sp (V.ref a :: vs) H2 Q E0
section
variable {X : Cx} {k j : Nat} {sp : Sp} {C : Addr} {pos : Pos} {e fe : Expr} {es : List Expr} {t : TA} {tf : TE}
theorem pe_co (c : Cob X.prog X.w X.K X.mg X.base k C sp) (hf : PE X fe tf) (hr : Room j X.A) (hk : k ≤ j) (ha : PA X (e :: es) t)
    (ht : eval (.Call fe (e :: es) [] pos) X.env = (do callWith pos (← eval fe X.env) [] (backTo pos (starEach (e :: es) X.env)) (backToKw pos (keywordEach [] X.env))) := by rfl)
    (he : starEach (e :: es) X.env = (false, eval e X.env) :: starEach es X.env := by rfl) (hpl : (backTo pos (starEach es X.env)).any (·.1) = false := by rfl) : PE X (.Call fe (e :: es) [] pos) (tCo C sp tf t) := by
  obtain ⟨g, co, F⟩ := c.ex
  constructor
  intro pins s σ H Q I h
  refine Call_ (thn (hf.run pins s σ H _ I h) fun u s1 ⟨y, H1, I1, ry, a, ey, q⟩ => ?_) ht
  subst ey
  obtain rfl : u = Value.ref a := ry
  refine StX.callO_with (thn (ha.run pos pins s1 σ H1 _ I1 q) fun us s2 ⟨vs, H2, I2, r, hi, q2⟩ => ?_) he hpl
  have hi2 : StX.InsC X H2 a C := .inr hi
  obtain ⟨ox, od, J, hd⟩ := StX.insC_at I2 hi2
  exact ⟨⟨C, ox, od, J, hd⟩, StX.run_callO co F (hr.mono hk) pass0 I2 hi2 r q2⟩
end
/-! ### a == b by the class's own __eq__ -/
structure Eqo (P : Program) (w : World) (K : PySem.W.Frag) (mg : Str → Option Value) (base : Heap) (k : Nat) (C : Addr) (sp : Sp) : Prop where
  ex : ∃ (f : Addr) (fd : FuncData) (ps : List Str), FnOk P w K mg base CX0 k f fd ps sp ∧ PySem.W.findIn K (.ref C) "__eq__" = some (some (.ref f)) ∧ PySem.W.isFn K (.ref f) = true ∧ Binds K fd ps []
def rOwn (C : Addr) (sp : Sp) : R2 := fun x y H Q => ∃ a b dx dy fs gs, x = .ref a ∧ y = .ref b ∧ H a = some (.ins C dx fs) ∧ H b = some (.ins C dy gs) ∧ sp [.ref a, .ref b] H (fun v H' => ∃ r, v = .bl r ∧ Q v H') E0
theorem op_own {X : Cx} {k j : Nat} {C : Addr} {sp : Sp} (c : Eqo X.prog X.w X.K X.mg X.base k C sp) (hr : Room j X.A) (hk : k ≤ j) : OpR X (compareOp .Eq) (rOwn C sp) := by
  intro pins s σ H x y v u Q I rx ry hq
  obtain ⟨f, fd, ps, F, hs, hf, hb⟩ := c.ex
  obtain ⟨a, b, dx, dy, fs, gs, rfl, rfl, ha, hb', q⟩ := hq
  cases rx
  cases ry
  obtain ⟨mA, J, _⟩ := ins_get I.hok ha
  obtain ⟨mB, J', _⟩ := ins_get I.hok hb'
  obtain ⟨od, J, _⟩ := J.look
  obtain ⟨od', J', _⟩ := J'.look
  obtain ⟨m, hF⟩ := I.fr
  show wpAny (model X.prog X.w) X.A (richCompare .Eq (Value.ref a) (Value.ref b)) (EP X pins σ Q) X.xe s
  refine PySem.W.cmp_K (op := .Eq) (tb := .ref C) (hr.mono hk).units0 hF I.ok.mod.kin J J'.type (by simp [PySem.W.notFirst]) hs hf ?_
  have r2 : Vals [V.ref a, V.ref b] [Value.ref a, Value.ref b] := .cons rfl (.cons rfl .nil)
  refine thn (run_fn (dvs := []) F (hr.mono hk) hb .nil pass0 I r2 q) fun r s' z => ?_
  obtain ⟨v, H', I', rv, b', rfl, q'⟩ := z
  cases rv
  exact ⟨.bl b', H', I', rfl, q'⟩
end Z
set_option Elab.async false
set_option linter.all false
set_option maxRecDepth 100000
set_option maxHeartbeats 4000000
namespace Z
open PySem PySem.Spec PyProof.Rows L2 NdefX
/-! ### an own exception whose __init__ begins with super().__init__(..) -/
/-- what the written part says of it: the function f of the class C (cell cc, code c) -/
structure SupK (P : Program) (K : PySem.W.Frag) (C f c cc : Addr) (fd : FuncData) : Prop where
  lk : ∃ oc od osl, K.lookup f = some ⟨oc, od, .func fd, osl⟩
  code : ∃ (ccl : Value) (cdd : Option Addr) (vs : Array Value) (ccs : Array (Option Value)) (file : Str) (tf : Tok), K.lookup c = some ⟨ccl, cdd, .fields vs, ccs⟩ ∧ vs[2]? = some (.str file tf) ∧ ((P.main.file : Str) == file) = true
  cell : ∃ cl cld csl, K.lookup cc = some ⟨cl, cld, .cell (some (.ref C)), csl⟩
  top : (P.main.scope.names.lookup ("super" : Str)).isSome = false
  mro : PySem.W.mroIn K C (.ref C) = some true
  opq : PySem.W.nsIn K cStatics "thirdparty.any" = some none
  ini : PySem.W.ks_superIn K C C "__init__" = some (some (.builtin "ValueError.__init__"))
  sub : PySem.W.subIn K (.ref C) (.type "ValueError") = some true
  exi : PySem.W.excInitIn K C He.veBase "ValueError.__new__" = true
  oex : OexC K C
section
variable {CX : CXT} {P : Program} {w : World} {K : PySem.W.Frag} {mg : Str → Option Value} {base : Heap} {N ps : List Str} {F : NF} {f C a cc : Addr} {A : Around} {outer : List Env} {s0 s : Shared} {H0 H : Hp} {E : XK} {σ : L2.St}
/-- the bound __init__ called -/
theorem call_mw {X : Cx} {pins : List (Addr × Obj)} {u : Addr} {us : List Value} {Q : Value → Shared → Prop} {E : Value → Shared → Prop} {A : Around} (S : SupK X.prog X.K C f c cc fd) (I : Inv X ((u, PySem.W.kxs_mw "ValueError.__init__" a) :: pins) σ H s) (e : H a = some (exo a C none)) (hz : us.length ≤ sizeLine)
    (h : ∀ s', Inv X ((u, PySem.W.kxs_mw "ValueError.__init__" a) :: pins) σ H s' → Q .none s') : wpAny (model X.prog X.w) A (call (.ref u) us) Q E s := by
  have FB := F.excBase_ValueError
  obtain ⟨nm, N', qn, bs, bm, hdct, sn, sub, ab, col, dd, k0, k1, k2, k3, k5, hC, hT⟩ := PySem.W.excInit_of I.kIn S.exi
  have hu := (I.pin (u, PySem.W.kxs_mw "ValueError.__init__" a) (List.mem_append_right _ (List.mem_cons_self ..))).1
  obtain ⟨t1, he⟩ := exo_at I.hok e
  obtain ⟨hh, g, d, tk, os⟩ := s
  refine wpAny_call (codeAny_of_tree ?_)
  show wpAny _ A.in1 (callAny (.ref u) ⟨us, []⟩) _ _ _
  simp only [callAny]
  refine wpAny_bind (wpAny_load hu ?_)
  simp only [PySem.W.kxs_mw, show (Value.type "method-wrapper" == Value.type "method" || Value.type "method-wrapper" == Value.type "builtin_function_or_method" || Value.type "method-wrapper" == Value.type "method-wrapper") = true by decide, if_true]
  refine PySem.W.KFB.if_so (by decide) ?_
  refine wpAny_bind (PySem.W.check_bound_init FB.toExcCallFacts hC he rfl ?_)
  refine wpAny_bind (wpAny_pure (wpAny_pure ?_))
  refine ⟨plainId_quiet FB.init.plain _, codeAny_builtin FB.initEntry ?_⟩
  refine PySem.W.exc_init_tree (cls := .ref C) (t0 := t1) (dv := none) (c2 := .none) (c3 := .none) (b4 := .bool false) he hz fun h' k hx _ => ?_
  have J := I.write (t' := tk) (x := a) (e := a) (o := exo a C none) (by rw [e]; exact True.intro) (.inl rfl) k ⟨_, hx⟩ (exo_ok hx)
  have eu : upd H a (exo a C none) = H := by
    funext b
    by_cases hb : b = a
    · rw [hb, upd_same, e]
    · rw [upd_ne hb]
  rw [eu] at J
  exact h _ J
/-- super().__init__(e, ..), the first statement -/
theorem super_first {pl : Sem Bool} {fd : FuncData} {ar : Arg} {t : TA} {e : Expr} {es : List Expr} {p0 p1 p2 pos pos2 : Pos} {Qn : Hp → Prop} (S : SupK P K C f F.c cc fd) (hcl : F.cl = [(("__class__" : Str), cc)]) (hp : (fd.params.posonlyargs ++ fd.params.args).head? = some ar)
    (hks : F.scope.names.lookup ("super" : Str) = some .globalImplicit) (hkc : F.scope.names.lookup ("__class__" : Str) = some .free) (hka : F.scope.names.lookup ar.arg = some .local) (hk : F.scope.kind = .function) (m_super : mg "super" = none)
    (hN : N[0]? = some ar.arg) (ha : PA (ncx CX P w K mg base N F f A outer s0 H0 E) (e :: es) t) (I : Inv (ncx CX P w K mg base N F f A outer s0 H0 E) [] σ H s) (hs : σ[0]? = some (some (.ref a))) (hx : H a = some (exo a C none))
    (ht : t σ H fun vs H1 => vs.length ≤ 1000 ∧ H1 a = some (exo a C none) ∧ Qn H1)
    (hint : interactive (ncx CX P w K mg base N F f A outer s0 H0 E).env = false := by rfl) (hsw : swapsWith (.Call (.Attribute (.Call (.Name "super" p0) [] [] p1) "__init__" p2) (e :: es) [] pos) none pos2.line (ncx CX P w K mg base N F f A outer s0 H0 E).env = pure false := by rfl)
    (hev : eval (.Call (.Attribute (.Call (.Name "super" p0) [] [] p1) "__init__" p2) (e :: es) [] pos) (ncx CX P w K mg base N F f A outer s0 H0 E).env = (do
      let ov ← attributeBase (.Call (.Name "super" p0) [] [] p1) "__init__" (ncx CX P w K mg base N F f A outer s0 H0 E).env (eval (.Call (.Name "super" p0) [] [] p1) (ncx CX P w K mg base N F f A outer s0 H0 E).env)
      standAt p2.atName
      let (g, first) ← holding [ov] (getMethod ov "__init__" pl)
      callWith pos g first (backTo pos (starEach (e :: es) (ncx CX P w K mg base N F f A outer s0 H0 E).env)) []) := by rfl)
    (he : starEach (e :: es) (ncx CX P w K mg base N F f A outer s0 H0 E).env = (false, eval e (ncx CX P w K mg base N F f A outer s0 H0 E).env) :: starEach es (ncx CX P w K mg base N F f A outer s0 H0 E).env := by rfl) (hpl : (backTo pos (starEach es (ncx CX P w K mg base N F f A outer s0 H0 E).env)).any (·.1) = false := by rfl) :
    _root_.PySem.wpAt (model P w) (ncx CX P w K mg base N F f A outer s0 H0 E).A (.func F.body (ncx CX P w K mg base N F f A outer s0 H0 E).env) (exec (.Expr (.Call (.Attribute (.Call (.Name "super" p0) [] [] p1) "__init__" p2) (e :: es) [] pos) pos2) (ncx CX P w K mg base N F f A outer s0 H0 E).env)
      (fun fl s' => fl = .next ∧ ∃ H1, Inv (ncx CX P w K mg base N F f A outer s0 H0 E) [] σ H1 s' ∧ H1 a = some (exo a C none) ∧ Qn H1) (ncx CX P w K mg base N F f A outer s0 H0 E).xe s := by
  obtain ⟨oc, od, osl, lkf⟩ := S.lk
  obtain ⟨ccl, cdd, vs, ccs, file, tf, lkc, hvs, hfile⟩ := S.code
  obtain ⟨cl, cld, csl, lkcc⟩ := S.cell
  have KX : K.In s.heap := I.kIn
  obtain ⟨m, hn, hl⟩ := I.loc
  obtain ⟨u, ru, lu⟩ := hl 0 ar.arg (.ref a) hN hs (.inl hka)
  obtain rfl : u = .ref a := ru
  have hma : m ar.arg = some (.ref a) := by
    rcases lu with ⟨_, z⟩ | ⟨z, _⟩
    · exact z
    · rcases z with z | z
      · rw [show (ncx CX P w K mg base N F f A outer s0 H0 E).env.kindOf ar.arg = some .local from hka] at z; cases z
      · rw [show (ncx CX P w K mg base N F f A outer s0 H0 E).env.kindOf ar.arg = some .local from hka] at z; cases z
  obtain ⟨nm, q, NN, bs, bm, sn, sub, ab, col, dd, k0, k1, k2, k3, k5, hC, hbm⟩ := S.oex.cls
  obtain ⟨t1, hox⟩ := exo_at I.hok hx
  refine ks_wpAt_Expr_any (ks_wpAt_MethodCall ?_ hev) hint hsw
  refine ks_wpAt_super_base (env := (ncx CX P w K mg base N F f A outer s0 H0 E).env) (cc := F.c) hks hkc (by decide) rfl (KX _ _ lkf) rfl hp rfl (KX _ _ lkc) rfl hvs hfile S.top ?_
  obtain ⟨mb, h1, h2⟩ := I.mod.blt
  refine PySem.W.ks_loadName_global hk hks (Calls.loadGlobal_builtin (by rw [I.ok.glob]; exact I.mod.glob.keeps I.bk) m_super (by rw [I.ok.blt]; exact h1.keeps I.bk) ((h2 "super" (by decide)).trans (by decide +kernel)) ⟨rfl, ?_⟩)
  refine wpAny_loadName_free hk hkc (c := cc) (by show F.cl.lookup _ = _; rw [hcl]; rfl) ⟨_, KX _ _ lkcc, rfl⟩ ?_
  refine wpAny_loadName_local hk hka hn hma ?_
  refine ks_wpAny_isType_cls (KX _ _ hC) rfl ⟨rfl, ?_⟩
  obtain ⟨hh, g, d, tk, os⟩ := s
  refine ks_wpAny_call_super (KX _ _ hC) rfl hox rfl (fun c z => by cases z) (PySem.W.looks_mroIn KX S.mro) (fun h' eso kso => ?_)
  have I2 : Inv (ncx CX P w K mg base N F f A outer s0 H0 E) [] σ H ⟨h', g, d, tk, os⟩ := I.kept kso
  have KX2 : K.In h' := I2.kIn
  have hox2 := kso _ _ hox
  have IA : PySem.W.InstAt h' a _ C none := ⟨hox2, rfl, rfl, trivial⟩
  have hI : PySem.W.Looks (model P w) h' (isInstance (.ref a) (.type "ValueError")) true := IA.type.andThen (PySem.W.looks_subIn KX2 S.sub)
  have hm := S.ini
  cases hc : PySem.W.clsIn K C with
  | none =>
    unfold PySem.W.ks_superIn at hm
    rw [hc] at hm
    cases hm
  | some cd =>
    unfold PySem.W.ks_superIn at hm
    rw [hc] at hm
    refine PySem.W.kxs_getMethod PySem.W.kxs_ValueError eso (PySem.W.looks_opaque KX2 S.opq) (l₀ := cd.mro) ?_ rfl KX2 hm hI (PySem.W.ks_ne KX2 IA hc) (by decide) ?_
    · exact fun A Q E s k q => wpAny_bind ((PySem.W.looks_clsIn KX2 hc) A _ E s k (wpAny_pure q))
    · have I3 : Inv (ncx CX P w K mg base N F f A outer s0 H0 E) [(h'.objs.size, PySem.W.kxs_mw "ValueError.__init__" a)] σ H ⟨h'.push (PySem.W.kxs_mw "ValueError.__init__" a), g, d, tk + 1, os⟩ := ClX.pin_new I2 (fun b o e => Heap.get?_push_of_some _ e) (Nat.le_refl _) (Heap.get?_push_at rfl rfl) (fun v z => by cases z)
      rw [he]
      refine PySem.W.kxs_callWith (i := "ValueError.__init__") (x := a) (by show (false || (backTo pos (starEach es _)).any (·.1)) = false; rw [hpl]; rfl) ?_
      refine PySem.Calls.evalArgs_plain ?_
      have hrun := ha.run pos _ _ σ H _ I3 ht
      rw [he] at hrun
      refine thn hrun fun us s3 ⟨ws, H3, I4, r, q1, q2, q3⟩ => ?_
      refine ⟨ClX.pin_at I4, ?_⟩
      refine call_mw (X := ncx CX P w K mg base N F f A outer s0 H0 E) S I4 q2 (by show us.length ≤ sizeLine; rw [← r.length]; exact Nat.le_trans q1 (by decide)) fun s' I5 => ⟨rfl, H3, ClX.unpin I5, q2, q3⟩
theorem wpAt_to {M : Model} {A : Around} {c : Code} {α : Type} {m : Sem α} {Q Q' : α → Shared → Prop} {E : Value → Shared → Prop} {s : Shared} (h : _root_.PySem.wpAt M A c m Q E s) (hq : ∀ a s', Q a s' → Q' a s') : _root_.PySem.wpAt M A c m Q' E s := ks_wpAt_mono h hq fun _ _ z => z
/-- THE RULE: such an __init__, the rest of its body by its readings -/
theorem sup_ok {pl : Sem Bool} {fd : FuncData} {dV kV doc pm ct : Value} {an : Option Addr} {ar : Arg} {k : Nat} {sp : Sp} {txt : Str} {j : Nat} {p0 p1 p2 p3 pos pos2 : Pos} {rest : List Stmt} (hfd : fd = PySem.W.fnX F.name F.qual F.params F.body F.scope F.cl dV kV doc pm an (.ref F.c) ct)
    (S : SupK P K C f F.c cc fd) (hcd : PySem.W.codeIn K (.ref F.c) F.qual = true) (NS : NScope N ps ["__class__"] F.scope) (hcl : F.cl = [(("__class__" : Str), cc)]) (hp : (F.params.posonlyargs ++ F.params.args).head? = some ar) (hks : F.scope.names.lookup ("super" : Str) = some .globalImplicit) (m_super : mg "super" = none)
    (hN : N[0]? = some ar.arg) (hka : F.scope.names.lookup ar.arg = some .local)
    (hb : F.body = .Expr (.Call (.Attribute (.Call (.Name "super" p0) [] [] p1) "__init__" p2) [.Constant (.str txt) j p3] [] pos) pos2 :: rest)
    (len : ∀ vs H Q E, sp vs H Q E → vs.length = ps.length) (hself : ∀ vs H Q E, sp vs H Q E → ∃ a vs', vs = .ref a :: vs' ∧ H a = some (exo a C none))
    (hint : ∀ (A : Around) (outer : List Env) (s : Shared) (H : Hp) (E : XK), interactive (ncx CX P w K mg base N F f A outer s H E).env = false)
    (hsw : ∀ (A : Around) (outer : List Env) (s : Shared) (H : Hp) (E : XK), swapsWith (.Call (.Attribute (.Call (.Name "super" p0) [] [] p1) "__init__" p2) [.Constant (.str txt) j p3] [] pos) none pos2.line (ncx CX P w K mg base N F f A outer s H E).env = pure false)
    (hev : ∀ (A : Around) (outer : List Env) (s : Shared) (H : Hp) (E : XK), eval (.Call (.Attribute (.Call (.Name "super" p0) [] [] p1) "__init__" p2) [.Constant (.str txt) j p3] [] pos) (ncx CX P w K mg base N F f A outer s H E).env = (do
      let ov ← attributeBase (.Call (.Name "super" p0) [] [] p1) "__init__" (ncx CX P w K mg base N F f A outer s H E).env (eval (.Call (.Name "super" p0) [] [] p1) (ncx CX P w K mg base N F f A outer s H E).env)
      standAt p2.atName
      let (g, first) ← holding [ov] (getMethod ov "__init__" pl)
      callWith pos g first (backTo pos (starEach [.Constant (.str txt) j p3] (ncx CX P w K mg base N F f A outer s H E).env)) []))
    (hrest : ∀ (A : Around) (outer : List Env) (s : Shared) (H : Hp) (vs : List V) (Q : VK) (E : XK), sp vs H Q E → ∃ t, PSs (ncx CX P w K mg base N F f A outer s H E) rest t ∧ t { nx := fun _ H' => Q .non H', rt := Q } (startF N vs [some (.ref C)]) H) : FnOk P w K mg base CX (k + 1) f fd ps sp := by
  refine ⟨len, fun A outer s H args us vs Q E hr e0 hbn r hsp => ?_⟩
  have hl := len _ _ _ _ hsp
  have KX : K.In s.heap := e0.mod.kin.keeps fun b o e => (e0.bs b o e).1
  have lim : s.heap.NoLimit := e0.mod.nolimit.keeps fun b o e => (e0.bs b o e).1
  obtain ⟨oc, od, osl, lkf⟩ := S.lk
  obtain ⟨cl, cld, csl, lkcc⟩ := S.cell
  have CA : CellsAt F.cl ["__class__"] [some (.ref C)] s.heap H := by
    refine ⟨rfl, fun y c e => ?_, fun x y c e1 e2 => ?_, fun i y e => ?_⟩
    · rw [hcl] at e
      have ec : c = cc := by
        unfold List.lookup at e
        split at e
        · exact (Option.some.inj e).symm
        · cases e
      subst ec
      exact ⟨(e0.bs _ _ (e0.mod.kin _ _ lkcc)).2, _, _, KX _ _ lkcc, rfl⟩
    · rw [hcl] at e1 e2
      have k : ∀ z : Str, ([(("__class__" : Str), cc)] : List (Str × Addr)).lookup z = some c → z = "__class__" := fun z e => by
        unfold List.lookup at e
        split at e
        · next h => exact beq_iff_eq.mp h
        · cases e
      rw [k x e1, k y e2]
    · have ey : y = "__class__" := by
        cases i with
        | zero => exact (Option.some.inj e).symm
        | succ i => cases e
      subst ey
      refine ⟨cc, by rw [hcl]; rfl, fun v hv => ?_⟩
      have ei : i = 0 := by
        cases i with
        | zero => rfl
        | succ i => cases e
      subst ei
      obtain rfl : V.ref C = v := Option.some.inj (Option.some.inj hv)
      exact ⟨.ref C, rfl, _, KX _ _ lkcc, rfl⟩
  subst hfd
  refine ks_codeAny_call_defAt hr.depth (KX _ _ lkf) rfl lim (PySem.W.codeRec_of KX hcd) rfl hbn NS.nocell (fun ⟨n, _⟩ hy => NS.par n (List.of_mem_zip hy).1) (fun h₁ hns kp => ?_) NS.co NS.gen NS.kind
  show _root_.PySem.wpAt _ (ncx CX P w K mg base N F f A outer s H E).A (.func F.body (ncx CX P w K mg base N F f A outer s H E).env) (execs F.body (ncx CX P w K mg base N F f A outer s H E).env) _ (ncx CX P w K mg base N F f A outer s H E).xe _
  have I : Inv (ncx CX P w K mg base N F f A outer s H E) [] (startF N vs [some (.ref C)]) H { s with heap := h₁, toks := s.toks + (ps.zip us).length } := inv_startN NS hr.hd e0 hl r CA hns kp
  obtain ⟨a, vs', rfl, hx⟩ := hself _ _ _ _ hsp
  have hexe : execs F.body (ncx CX P w K mg base N F f A outer s H E).env = execs (.Expr (.Call (.Attribute (.Call (.Name "super" p0) [] [] p1) "__init__" p2) [.Constant (.str txt) j p3] [] pos) pos2 :: rest) (ncx CX P w K mg base N F f A outer s H E).env := by rw [hb]
  rw [hexe]
  refine ks_wpAt_execs_cons (wpAt_to (super_first (Qn := fun H1 => H1 = H) S hcl hp hks (NS.frk _ (List.mem_cons_self ..)) hka NS.kind m_super hN (pa_cons pe_str pa_nil) I rfl hx ⟨by simp, hx, rfl⟩ (hint A outer s H E) (hsw A outer s H E) (hev A outer s H E)) ?_)
  rintro fl s1 ⟨rfl, H1, I1, _, rfl⟩
  obtain ⟨t, ht, hq⟩ := hrest A outer s H1 _ Q E hsp
  refine wpAt_of_wpAny (wpAny_mono (ht.run [] _ _ H1 _ I1 hq) (fun fl s' hs => ?_) fun e s' hs => hs)
  have fin : ∀ {σ' : L2.St} {H' : Hp} {v : V} {u : Value}, Inv (ncx CX P w K mg base N F f A outer s H1 E) [] σ' H' s' → L2.RelV v u → Q v H' → CE outer P w H1 s Q u s' :=
    fun {σ' H' v u} J rv q => ⟨v, H', J.os, J.bare, J.base, J.hok, rv, q⟩
  cases fl with
  | ret u =>
    obtain ⟨v, σ', H', J, rv, q⟩ := hs
    exact fin J rv q
  | next =>
    obtain ⟨σ', H', J, q⟩ := hs
    exact fin (v := V.non) (u := Value.none) J rfl q
  | brk =>
    obtain ⟨_, _, _, q⟩ := hs
    exact False.elim q
  | cont =>
    obtain ⟨_, _, _, q⟩ := hs
    exact False.elim q
end
end Z
set_option Elab.async false
set_option linter.all false
set_option maxRecDepth 100000
set_option maxHeartbeats 4000000
namespace Z
open PySem PySem.Spec PyProof.Rows L2 NdefX
/-! ### class X(..): def __init__(self, v): super().__init__("text"); self.field = v -/
def spEx (C : Addr) (field : Str) : Sp := fun vs H Q _ => ∃ (a : Addr) (v : V), vs = [.ref a, v] ∧ H a = some (exo a C none) ∧ ∀ dx, H dx = none → dx ≠ a → Q .non (upd (upd H dx (exd dx [(field, v)])) a (exo a C (some dx)))
theorem exn_ok {P : Program} {w : World} {K : PySem.W.Frag} {mg : Str → Option Value} {base : Heap} {F : NF} {f C cc : Addr} {pl : Sem Bool} {fd : FuncData} {dV kV doc pm ct : Value} {an : Option Addr} {ar : Arg} {txt v field : Str} {j : Nat} {p0 p1 p2 p3 pos pos2 q1 q2 q3 q4 : Pos} (hfd : fd = PySem.W.fnX F.name F.qual F.params F.body F.scope F.cl dV kV doc pm an (.ref F.c) ct)
    (S : SupK P K C f F.c cc fd) (hcd : PySem.W.codeIn K (.ref F.c) F.qual = true) (NS : NScope ["self", v, "__class__"] ["self", v] ["__class__"] F.scope) (hcl : F.cl = [(("__class__" : Str), cc)]) (hp : (F.params.posonlyargs ++ F.params.args).head? = some ar) (har : ar.arg = "self") (hks : F.scope.names.lookup ("super" : Str) = some .globalImplicit) (m_super : mg "super" = none)
    (hno : PySem.W.findIn K (.ref C) field = some none) (hvd : (v == ("__debug__" : Str)) = false) (hvc : (v == ("__classdict__" : Str)) = false)
    (hb : F.body = [.Expr (.Call (.Attribute (.Call (.Name "super" p0) [] [] p1) "__init__" p2) [.Constant (.str txt) j p3] [] pos) pos2, .Assign [.Attribute (.Name "self" q1) field q2] (.Name v q3) q4])
    (hint : ∀ (A : Around) (outer : List Env) (s : Shared) (H : Hp) (E : XK), interactive (ncx CX0 P w K mg base ["self", v, "__class__"] F f A outer s H E).env = false)
    (hsw : ∀ (A : Around) (outer : List Env) (s : Shared) (H : Hp) (E : XK), swapsWith (.Call (.Attribute (.Call (.Name "super" p0) [] [] p1) "__init__" p2) [.Constant (.str txt) j p3] [] pos) none pos2.line (ncx CX0 P w K mg base ["self", v, "__class__"] F f A outer s H E).env = pure false)
    (hev : ∀ (A : Around) (outer : List Env) (s : Shared) (H : Hp) (E : XK), eval (.Call (.Attribute (.Call (.Name "super" p0) [] [] p1) "__init__" p2) [.Constant (.str txt) j p3] [] pos) (ncx CX0 P w K mg base ["self", v, "__class__"] F f A outer s H E).env = (do
      let ov ← attributeBase (.Call (.Name "super" p0) [] [] p1) "__init__" (ncx CX0 P w K mg base ["self", v, "__class__"] F f A outer s H E).env (eval (.Call (.Name "super" p0) [] [] p1) (ncx CX0 P w K mg base ["self", v, "__class__"] F f A outer s H E).env)
      standAt p2.atName
      let (g, first) ← holding [ov] (getMethod ov "__init__" pl)
      callWith pos g first (backTo pos (starEach [.Constant (.str txt) j p3] (ncx CX0 P w K mg base ["self", v, "__class__"] F f A outer s H E).env)) []))
    (hs2 : ∀ (A : Around) (outer : List Env) (s : Shared) (H : Hp) (E : XK), swapsWith (.Name v q3) (some (.Attribute (.Name "self" q1) field q2)) q4.line (ncx CX0 P w K mg base ["self", v, "__class__"] F f A outer s H E).env = pure false) : FnOk P w K mg base CX0 1 f fd ["self", v] (spEx C field) := by
  refine sup_ok (k := 0) (rest := [.Assign [.Attribute (.Name "self" q1) field q2] (.Name v q3) q4]) hfd S hcd NS hcl hp hks m_super (by rw [har]; rfl) (by rw [har]; exact NS.par _ (List.mem_cons_self ..)) hb (fun vs H Q E h => ?_) (fun vs H Q E h => ?_) hint hsw hev (fun A outer s H vs Q E h => ?_)
  · obtain ⟨a, y, rfl, _⟩ := h
    rfl
  · obtain ⟨a, y, rfl, hx, _⟩ := h
    exact ⟨a, [y], rfl, hx⟩
  · obtain ⟨a, y, rfl, hx, q⟩ := h
    refine ⟨_, pss_one (ps_ost (pe_var (i := 0) rfl (.inl (NS.par _ (List.mem_cons_self ..)))) (pe_var (i := 1) rfl (.inl (NS.par _ (List.mem_cons_of_mem _ (List.mem_cons_self ..)))) hvd hvc) (hs2 A outer s H E)), ?_⟩
    refine ⟨y, rfl, .ref a, rfl, a, C, rfl, S.oex, hno, .inl ⟨hx, fun dx n1 n2 => ?_⟩⟩
    exact q dx n1 n2
/-! ### raise X(e) -/
structure Exn (P : Program) (w : World) (K : PySem.W.Frag) (mg : Str → Option Value) (base : Heap) (x : Str) (C : Addr) (field : Str) : Prop where
  oex : OexC K C
  gl : mg x = some (.ref C)
  ini : ∃ fI fd ps, PySem.W.findIn K (.ref C) "__init__" = some (some (.ref fI)) ∧ PySem.W.typeIn K (.ref fI) = some (.type "function") ∧ FnOk P w K mg base CX0 1 fI fd ps (spEx C field) ∧ Binds K fd ps []
/-! ### C(e): the exception's object has no context -/
section
variable {X : Cx} {x : Str} {C g : Addr} {k : Nat} {fd : FuncData} {ps : List Str} {sp : Sp} {e : Expr} {ta : TA} {p pos : Pos}
/-- the two objects that type.__call__ lays -/
abbrev hp2 (h : Heap) (C : Addr) (us : List Value) : Heap :=
  (h.push (PySem.W.kdv_tup us)).push (PySem.HandSPX.excO C h.objs.size)
theorem hp2_keep {h : Heap} {us : List Value} (b : Addr) (o : Obj) (z : h.get? b = some o) :
    (hp2 h C us).get? b = some o := Heap.get?_push_of_some _ (Heap.get?_push_of_some _ z)
theorem hp2_at {h : Heap} {us : List Value} :
    (hp2 h C us).get? (h.objs.size + 1) = some (PySem.HandSPX.excO C h.objs.size) := by heap_get
theorem inv2 {pins : List (Addr × Obj)} {σ : L2.St} {H : Hp} {h : Heap} {gs : Array GenState} {dr : Drawn} {tk : Nat} {os : OsState} {us : List Value}
    (I : Inv X pins σ H ⟨h, gs, dr, tk, os⟩) :
    Inv X pins σ (upd H (h.objs.size + 1) (exo (h.objs.size + 1) C none)) ⟨hp2 h C us, gs, dr, tk, os⟩ :=
  I.laid (t' := tk) (a := h.objs.size + 1) (o := exo (h.objs.size + 1) C none) (h' := hp2 h C us)
    hp2_keep (Nat.le_succ _) (exo_ok hp2_at)
theorem pmkN (T : OexC X.K C)
    (iC : PySem.W.findIn X.K (.ref C) "__init__" = some (some (.ref g)))
    (tI : PySem.W.typeIn X.K (.ref g) = some (.type "function"))
    (F : FnOk X.prog X.w X.K X.mg X.base CX0 k g fd ps sp) (hr : Room (k + 1) X.A) (hb : Binds X.K fd ps [])
    (hg : Gl X x) (hm : X.mg x = some (.ref C)) (ha : PA X [e] ta)
    (hdb : (x == ("__debug__" : Str)) = false := by decide)
    (he : starEach [e] X.env = (false, eval e X.env) :: starEach [] X.env := by rfl)
    (hpl : (backTo pos (starEach [] X.env)).any (·.1) = false := by rfl) :
    L2N.PMk X (.Call (.Name x p) [e] [] pos) (tMkO C sp [] ta) := by
  intro pins s σ H Q I h
  obtain ⟨_, _, _, _, vm, _, _, _, _, _, _, _, _, _, _, atC, inM⟩ := T.cls
  refine wpAny_Call_Name_kw (ld_glob I hg hm ?_ hdb)
  refine PySem.W.callWith_K (h₀ := X.base) I.ok.mod.kin T.kC ?_ he hpl
  refine thn (ha.run pos pins s σ H _ I h) fun us s1 hh => ?_
  obtain ⟨vs, H1, J, r, few, q⟩ := hh
  refine ⟨J.kIn, ?_⟩
  obtain ⟨hp, gs, dr, tk, os⟩ := s1
  have q := q (hp.objs.size + 1) (J.hok.fresh (Nat.le_succ _))
  rw [List.append_nil] at q
  have J2 := inv2 (C := C) (us := us) J
  have r2 : Vals (V.ref (hp.objs.size + 1) :: vs) (Value.ref (hp.objs.size + 1) :: us) := .cons rfl r
  have len2 : (Value.ref (hp.objs.size + 1) :: us ++ []).length = ps.length := by
    rw [List.append_nil, ← r2.length]
    exact F.len _ _ _ _ q
  have b2 := hb _ (Value.ref (hp.objs.size + 1) :: us) J2.kIn len2
  rw [List.append_nil] at b2
  have few2 : us.length ≤ sizeLine := by
    have := Paired.length r
    rw [sizeLine_eq]
    omega
  have run := F.run _ X.stack _ _ _ _ _ _ _ (hr.make C us []) (J2.env0.make C us []) b2 r2 q
  refine wpAny_call (PySem.HandSPX.call_own PySem.F.excBase_ValueError (fun Y => PySem.HandSPX.refsVE_contains Y vm inM)
    (J.kIn _ _ atC) (PySem.W.looks_findIn J.kIn iC) (fun self => PySem.W.bind_fn J.kIn self tI) few2
    (codeAny_mono run fun res s' z => ?_))
  match res, z with
  | .error er, z => exact z.elim
  | .ok (.ret u), z =>
    obtain ⟨v, H2, eo, bare, un, ok2, rv, ev, d, fs, ea, ed, nd, q2⟩ := z
    subst ev
    obtain ⟨h2, g2, d2, t2, os'⟩ := s'
    obtain ⟨t0, G, J3, kG, ge, hoe, na⟩ := mk_end0 (d2 := d2) (t2 := t2) J (Nat.le_succ _) hp2_keep un ok2 eo bare ea ed nd
    refine ⟨rv, hp.objs.size + 1, _, _, ⟨G, g2, d2, t2, os'⟩, _, .ref C, some d, rfl, J3, kG, ge, hoe, ⟨rfl, rfl, fun ws ew => ?_⟩, rfl, rfl, na, rfl, bare, raises_own T.exC T.tyC, q2⟩
    cases ew
    rfl
end
section
variable {X : Cx} {x field : Str} {C : Addr} {j : Nat} {e : Expr} {ta : TA} {p pos pos2 : Pos} {W : WX}
theorem pmk_exn (c : Exn X.prog X.w X.K X.mg X.base x C field) (hr : Room j X.A) (hk : 2 ≤ j) (hg : Gl X x) (ha : PA X [e] ta) (hdb : (x == ("__debug__" : Str)) = false := by decide) (he : starEach [e] X.env = (false, eval e X.env) :: starEach [] X.env := by rfl) (hpl : (backTo pos (starEach [] X.env)).any (·.1) = false := by rfl) :
    L2N.PMk X (.Call (.Name x p) [e] [] pos) (tMkO C (spEx C field) [] ta) := by
  obtain ⟨fI, fd, ps, iC, tI, F1, b⟩ := c.ini
  exact pmkN (X := X) (pos := pos) (p := p) c.oex iC tI F1 (hr.mono hk) b hg c.gl ha hdb he hpl
/-- raise X(e) -/
theorem ps_exn (hc : X.calm = true) (tk : L2N.Takes X W) (c : Exn X.prog X.w X.K X.mg X.base x C field) (hr : Room j X.A) (hk : 2 ≤ j) (hg : Gl X x) (ha : PA X [e] ta) (hdb : (x == ("__debug__" : Str)) = false := by decide) (he : starEach [e] X.env = (false, eval e X.env) :: starEach [] X.env := by rfl) (hpl : (backTo pos (starEach [] X.env)).any (·.1) = false := by rfl) :
    PS X (.Raise (some (.Call (.Name x p) [e] [] pos)) none pos2) (fun _ σ H => tMkO C (spEx C field) [] ta σ H fun cls d H' => W cls d σ H') := L2N.ps_raise hc tk (pmk_exn c hr hk hg ha hdb he hpl)
end
/-- what is left to show of X(v) -/
theorem mkx_of {C : Addr} {field : Str} {v : V} {H1 : Hp} {Q : XK} (q : ∀ d, H1 d = none → Q (.ref C) (some d) (upd H1 d (.xd [(field, v)]))) :
    [v].length ≤ 1000 ∧ ∀ a, H1 a = none → spEx C field (.ref a :: ([v] ++ [])) (upd H1 a (exo a C none)) (fun v H2 => v = .non ∧ ∃ (d : Addr) (fs : List (Str × V)), H2 a = some (exo a C (some d)) ∧ H2 d = some (exd d fs) ∧ H1 d = none ∧ Q (.ref C) (some d) (upd (del H2 a) d (.xd fs))) (fun _ _ _ => False) := by
  refine ⟨by simp, fun a na => ⟨a, v, rfl, upd_same, fun dx n1 n2 => ⟨rfl, dx, [(field, v)], upd_same, ?_, ?_, ?_⟩⟩⟩
  · rw [upd_ne n2, upd_same]
  · rw [← n1, upd_ne n2]
  · have n3 : H1 dx = none := by rw [← n1, upd_ne n2]
    have e1 : upd (del (upd (upd (upd H1 a (exo a C none)) dx (exd dx [(field, v)])) a (exo a C (some dx))) a) dx (.xd [(field, v)]) = upd H1 dx (.xd [(field, v)]) := by
      funext b
      by_cases hb : b = dx
      · rw [hb, upd_same, upd_same]
      · rw [upd_ne hb, upd_ne hb]
        by_cases ha2 : b = a
        · rw [ha2, del_same, na]
        · rw [del_ne ha2, upd_ne ha2, upd_ne hb, upd_ne ha2]
    rw [e1]
    exact q dx n3
/-! ### calls that may raise -/
structure CalX (P : Program) (w : World) (K : PySem.W.Frag) (mg : Str → Option Value) (base : Heap) (k : Nat) (x : Str) (sp : Sp) : Prop where
  ex : ∃ (f : Addr) (fd : FuncData) (ps : List Str), FnOk P w K mg base (L2N.CX P w) k f fd ps sp ∧ mg x = some (.ref f) ∧ PySem.W.keepIn K (.ref f) = true ∧ Binds K fd ps []
structure MakX (P : Program) (w : World) (K : PySem.W.Frag) (mg : Str → Option Value) (base : Heap) (k : Nat) (x : Str) (C : Addr) (sp : Sp) : Prop where
  ex : ∃ (f : Addr) (fd : FuncData) (ps : List Str), Mk K C f ∧ FnOk P w K mg base (L2N.CX P w) k f fd ps sp ∧ mg x = some (.ref C) ∧ Binds K fd ps []
structure MetX (P : Program) (w : World) (K : PySem.W.Frag) (mg : Str → Option Value) (base : Heap) (k : Nat) (C : Addr) (m : Str) (sp : Sp) : Prop where
  ex : ∃ (f : Addr) (fd : FuncData) (ps : List Str), Cls K C ∧ Meth K C m f ∧ FnOk P w K mg base (L2N.CX P w) k f fd ps sp ∧ Binds K fd ps []
structure CobX (P : Program) (w : World) (K : PySem.W.Frag) (mg : Str → Option Value) (base : Heap) (k : Nat) (C : Addr) (sp : Sp) : Prop where
  ex : ∃ (g : Addr) (fd : FuncData) (ps : List Str), StX.CallO K C g ∧ FnOk P w K mg base (L2N.CX P w) k g fd ps sp ∧ Binds K fd ps []
/-- C(e, ..) by its __init__'s promise; what is raised at the slots -/
def tMkW (C : Addr) (sp : Sp) (E : L2.St → XK) (t : TA) : TE := fun σ H Q => t σ H fun vs H1 => ∀ n dx, H1 n = none → H1 dx = none → dx ≠ n → sp (.ref n :: vs) (upd (upd H1 dx (.own n)) n (.ins C dx [])) (fun v H2 => v = .non ∧ Q (.ref n) H2) (E σ)
def tCoW (C : Addr) (sp : Sp) (E : L2.St → XK) (tf : TE) (t : TA) : TE := fun σ H Q => tf σ H fun y H1 => ∃ a, y = V.ref a ∧ t σ H1 fun vs H2 => (∃ dx fs, H2 a = some (.ins C dx fs)) ∧ sp (V.ref a :: vs) H2 Q (E σ)
def tMeW (C : Addr) (m : Str) (sp : Sp) (E : L2.St → XK) (ta : TE) (t : TA) : TE := fun σ H Q => ta σ H fun x H1 => ∃ a dx fs, x = V.ref a ∧ H1 a = some (.ins C dx fs) ∧ List.lookup m fs = none ∧ t σ H1 fun vs H2 => sp (x :: vs) H2 Q (E σ)
section
variable {X : Cx} {k j : Nat} {x m : Str} {sp : Sp} {C : Addr} {p pos apos : Pos} {e o fe : Expr} {es : List Expr} {t : TA} {ta tf : TE} {W : WX} {E : L2.St → XK}
theorem passS0 {σ : L2.St} : PassesAt (L2N.CX X.prog X.w) X σ E0 := fun _ _ _ _ _ _ h => by
  obtain ⟨_, _, _, _, _, _, _, _, _, _, _, _, z⟩ := h
  exact z.elim
/-- any result of a promise, at the slots -/
theorem back_at {σ : L2.St} {H : Hp} {s : Shared} {pins : List (Addr × Obj)} {Q : VK} {E : XK} {CX : CXT} (hx : PassesAt CX X σ E) (I : Inv X pins σ H s) : ∀ (r : Result) (s' : Shared), CR CX X.stack X.prog X.w H s Q E r s' → match r with
    | .ok (.ret v) => EP X pins σ Q v s'
    | .ok _ => False
    | .error e => X.xe e s'
  | .error e, s', h => hx pins H s e s' I h
  | .ok (.ret u), s', h => I.after h
  | .ok .next, s', h => h
  | .ok .brk, s', h => h
  | .ok .cont, s', h => h
theorem pe_clE (c : CalX X.prog X.w X.K X.mg X.base k x sp) (hx : ∀ σ, PassesAt (L2N.CX X.prog X.w) X σ (E σ)) (hr : Room j X.A) (hk : k ≤ j) (hg : Gl X x) (ha : PA X (e :: es) t) (hdb : (x == ("__debug__" : Str)) = false := by decide) (he : starEach (e :: es) X.env = (false, eval e X.env) :: starEach es X.env := by rfl) (hpl : (backTo pos (starEach es X.env)).any (·.1) = false := by rfl) :
    PE X (.Call (.Name x p) (e :: es) [] pos) (tCallS sp E t) := by
  obtain ⟨f, fd, ps, F, hm, kp, b⟩ := c.ex
  exact pe_callS F (hr.mono hk) hg hm kp b hx ha hdb he hpl
theorem pe_mkE (c : MakX X.prog X.w X.K X.mg X.base k x C sp) (hx : ∀ σ, PassesAt (L2N.CX X.prog X.w) X σ (E σ)) (hr : Room j X.A) (hk : k + 1 ≤ j) (hg : Gl X x) (ha : PA X (e :: es) t) (hdb : (x == ("__debug__" : Str)) = false := by decide) (he : starEach (e :: es) X.env = (false, eval e X.env) :: starEach es X.env := by rfl) (hpl : (backTo pos (starEach es X.env)).any (·.1) = false := by rfl) :
    PE X (.Call (.Name x p) (e :: es) [] pos) (tMkW C sp E t) := by
  obtain ⟨f, fd, ps, M, F, hm, b⟩ := c.ex
  constructor
  intro pins s σ H Q I h
  refine wpAny_Call_Name_kw (ld_glob I hg hm ?_ hdb)
  refine PySem.W.callWith_K (h₀ := X.base) I.ok.mod.kin M.kp (thn (ha.run pos pins s σ H _ I h) fun us s1 z => ?_) he hpl
  obtain ⟨vs, H1, I1, rr, q⟩ := z
  refine ⟨I1.kIn, ?_⟩
  obtain ⟨n, hn⟩ : ∃ n, n = s1.heap.objs.size := ⟨_, rfl⟩
  have q1 := q (n + 1) n (I1.hok.fresh (by rw [hn]; exact Nat.le_succ _)) (I1.hok.fresh (by rw [hn]; exact Nat.le_refl _)) (Nat.ne_of_lt (Nat.lt_succ_self _))
  subst hn
  have J := Inv.made (C := C) I1
  have r3 : Vals (V.ref (s1.heap.objs.size + 1) :: vs) (Value.ref (s1.heap.objs.size + 1) :: us) := .cons rfl rr
  have b3 := b { s1 with heap := (s1.heap.push PySem.W.emptyDict).push (PySem.W.instObj C s1.heap.objs.size) } (Value.ref (s1.heap.objs.size + 1) :: us) J.kIn (by rw [List.append_nil, ← r3.length]; exact F.len _ _ _ _ q1)
  rw [List.append_nil] at b3
  have run := F.run _ X.stack _ _ _ _ _ _ _ ((hr.mono hk).make C us []) (J.env0.make C us []) b3 r3 q1
  refine wpAny_call (make_map (f := f) I1.kIn M.makes M.init (beq_iff_eq.mp M.fn) (codeAny_mono run fun r s' hq => ?_))
  have z := back_at (hx σ) J r s' hq
  match r, z with
  | .error e, z => exact z
  | .ok (.ret u), ⟨v, H', J', rv, ev, q3⟩ =>
    subst ev
    exact ⟨rv, V.ref (s1.heap.objs.size + 1), H', J', rfl, q3⟩
theorem run_atE {f : Addr} {fd : FuncData} {ps : List Str} {σ : L2.St} {H : Hp} {s : Shared} {pins : List (Addr × Obj)} {Q : VK} {us : List Value} {vs : List V} (F : FnOk X.prog X.w X.K X.mg X.base (L2N.CX X.prog X.w) k f fd ps sp) (b : Binds X.K fd ps []) (hx : PassesAt (L2N.CX X.prog X.w) X σ (E σ)) (hr : Room k X.A) (I : Inv X pins σ H s) (r : Vals vs us) (h : sp vs H Q (E σ)) :
    codeAny (model X.prog X.w) X.A (.call (.ref f) ⟨us, []⟩) (fun r s' => match r with | .ok (.ret v) => EP X pins σ Q v s' | .ok _ => False | .error e => X.xe e s') s := by
  have b3 := b s us I.kIn (by rw [List.append_nil, ← r.length]; exact F.len _ _ _ _ h)
  rw [List.append_nil] at b3
  exact codeAny_mono (F.run _ X.stack _ _ _ _ _ _ _ hr I.env0 b3 r h) (back_at hx I)
theorem pe_coE (c : CobX X.prog X.w X.K X.mg X.base k C sp) (hf : PE X fe tf) (hx : ∀ σ, PassesAt (L2N.CX X.prog X.w) X σ (E σ)) (hr : Room j X.A) (hk : k ≤ j) (ha : PA X (e :: es) t)
    (ht : eval (.Call fe (e :: es) [] pos) X.env = (do callWith pos (← eval fe X.env) [] (backTo pos (starEach (e :: es) X.env)) (backToKw pos (keywordEach [] X.env))) := by rfl)
    (he : starEach (e :: es) X.env = (false, eval e X.env) :: starEach es X.env := by rfl) (hpl : (backTo pos (starEach es X.env)).any (·.1) = false := by rfl) : PE X (.Call fe (e :: es) [] pos) (tCoW C sp E tf t) := by
  obtain ⟨g, fd, ps, co, F, b⟩ := c.ex
  constructor
  intro pins s σ H Q I h
  refine Call_ (thn (hf.run pins s σ H _ I h) fun u s1 ⟨y, H1, I1, ry, a, ey, q⟩ => ?_) ht
  subst ey
  obtain rfl : u = Value.ref a := ry
  refine StX.callO_with (thn (ha.run pos pins s1 σ H1 _ I1 q) fun us s2 z => ?_) he hpl
  obtain ⟨vs, H2, I2, r, hi, q2⟩ := z
  have hi2 : StX.InsC X H2 a C := .inr hi
  obtain ⟨ox, od, J, hd⟩ := StX.insC_at I2 hi2
  exact ⟨⟨C, ox, od, J, hd⟩, wpAny_call (PySem.W.kco_code I2.kIn J hd co.at_ co.fn co.fi (run_atE (vs := .ref a :: vs) (us := .ref a :: us) F b (hx σ) (hr.mono hk) I2 (.cons rfl r) q2))⟩
theorem pe_meE {pl : Sem Bool} (c : MetX X.prog X.w X.K X.mg X.base k C m sp) (ho : PE X o ta) (hx : ∀ σ, PassesAt (L2N.CX X.prog X.w) X σ (E σ)) (hr : Room j X.A) (hk : k ≤ j) (ha : PA X (e :: es) t)
    (hst : starEach (e :: es) X.env = (false, eval e X.env) :: starEach es X.env := by rfl) (hpl : (backTo pos (starEach es X.env)).any (·.1) = false := by rfl)
    (ht : eval (.Call (.Attribute o m apos) (e :: es) [] pos) X.env = (do
      let ov ← eval o X.env
      standAt apos.atName
      let (g, first) ← holding [ov] (getMethod ov m pl)
      callWith pos g first (backTo pos (starEach (e :: es) X.env)) (backToKw pos (keywordEach [] X.env))) := by rfl) : PE X (.Call (.Attribute o m apos) (e :: es) [] pos) (tMeW C m sp E ta t) := by
  obtain ⟨f, fd, ps, cl, me, F, b⟩ := c.ex
  constructor
  intro pins s σ H Q I h
  refine PySem.W.methodCall_KW (pl := pl) (thn (ho.run pins s σ H _ I h) fun u s1 z => ?_) ht
  obtain ⟨y, H1, I1, ry, a, dx, fs, ey, ea, l, q⟩ := z
  subst ey
  obtain rfl : u = Value.ref a := ry
  refine getmeth_ok I1 ea cl me l ?_
  refine PySem.W.callWith_K (first := [.ref a]) (h₀ := X.base) I.ok.mod.kin me.kp (thn (ha.run pos pins s1 σ H1 _ I1 q) fun us s2 z => ?_) hst hpl
  obtain ⟨vs, H2, I2, r, q2⟩ := z
  exact ⟨I2.kIn, wpAny_call (run_atE (vs := .ref a :: vs) (us := .ref a :: us) F b (hx σ) (hr.mono hk) I2 (.cons rfl r) q2)⟩
theorem takes_fn {P : Program} {w : World} {K : PySem.W.Frag} {mg : Str → Option Value} {base : Heap} {N : List Str} {qual : Str} {scope : Scope} {f : Addr} {cd : Value} {A : Around} {outer : List Env} {s : Shared} {H : Hp} {E : XK} : L2N.Takes (cxOf (L2N.CX P w) P w K mg base N qual scope f cd A outer s H E) (fun cls d _ H' => E cls d H') := L2N.takes_of rfl rfl rfl rfl
end
end Z
set_option Elab.async false
set_option linter.all false
set_option maxRecDepth 100000
set_option maxHeartbeats 4000000
namespace Z
open PySem PySem.Spec PyProof.Rows L2 L2H
/-! ### calls within an except suite -/
section
variable {P : Program} {w : World} {K : PySem.W.Frag} {mg : Str → Option Value} {base : Heap} {x qual : Str} {params : Arguments} {body : List Stmt} {scope : Scope} {dvs : List V} {kws : List (Str × V)} {f : Addr} {fd : FuncData}
theorem fund_okH {N ps : List Str} {k : Nat} {sp : Sp} (F : FunD K x qual params body scope dvs kws f fd) (S : FnScope N ps scope) (len : ∀ vs H Q E, sp vs H Q E → vs.length = ps.length)
    (hbody : ∀ (cdv : Value) (A : Around) (outer : List Env) (s : Shared) (H : Hp) (vs : List V) (Q : VK) (E : XK) (p : Addr × Obj), Hot1 A p → RoomH k (A.deeper (envOfC qual scope s.heap.objs.size f cdv)) → sp vs H Q E →
      ∃ t, PSs (cxH CX0 P w K mg base N qual scope f cdv A outer s H E p) body t ∧ t { nx := fun _ H' => Q .non H', rt := Q } (L2.start N vs) H) : FnH P w K mg base CX0 (k + 1) f fd ps sp := by
  obtain ⟨oc, od, dV, kV, doc, pm, an, cdv, ct, osl, rfl, lk, hcd, _, _⟩ := F.ex
  exact fn_ofH lk hcd S len (hbody cdv)
structure CalH (P : Program) (w : World) (K : PySem.W.Frag) (mg : Str → Option Value) (base : Heap) (k : Nat) (x : Str) (sp : Sp) : Prop where
  ex : ∃ (f : Addr) (fd : FuncData) (ps : List Str), FnH P w K mg base CX0 k f fd ps sp ∧ mg x = some (.ref f) ∧ PySem.W.keepIn K (.ref f) = true ∧ Binds K fd ps []
end
section
variable {X : Cx} {k j : Nat} {x : Str} {sp : Sp} {p pos : Pos} {e : Expr} {es : List Expr} {t : TA}
theorem pe_clH (c : CalH X.prog X.w X.K X.mg X.base k x sp) (hr : RoomH j X.A) (hk : k ≤ j) (hc : HotC X) (hg : Gl X x) (ha : PA X (e :: es) t) (hdb : (x == ("__debug__" : Str)) = false := by decide) (he : starEach (e :: es) X.env = (false, eval e X.env) :: starEach es X.env := by rfl) (hpl : (backTo pos (starEach es X.env)).any (·.1) = false := by rfl) :
    PE X (.Call (.Name x p) (e :: es) [] pos) (tCallS sp (fun _ => E0) t) := by
  obtain ⟨f, fd, ps, F, hm, kp, b⟩ := c.ex
  exact pe_callH F (hr.mono hk) hc hg hm kp b (fun σ _ _ _ _ _ _ h => h.elim) ha hdb he hpl
theorem hotC_suite {a : Addr} {cls : Value} {d : Option Addr} {oe : Obj} {pn : List (Addr × Obj)} (hz : L2N.Zn cls d oe) (hf : ∃ vs, oe.data = .fields vs) : HotC (X.suite a ((a, oe) :: pn)) := by
  obtain ⟨vs, e⟩ := hf
  exact ⟨(a, oe), ⟨rfl, vs, e, hz.2.2 vs e⟩, List.mem_cons_self⟩
theorem room_mark {v : Option Value} {A : Around} (r : Room j A) : RoomH j (A.mark v) := roomH_mark r v
theorem takes0N : L2N.Takes X (fun _ _ _ _ => False) := fun _ _ x => by
  obtain ⟨_, _, _, _, _, _, _, _, _, _, _, _, _, _, _, _, z⟩ := x
  exact z.elim
end
theorem hotC_fn {P : Program} {w : World} {K : PySem.W.Frag} {mg : Str → Option Value} {base : Heap} {CX : CXT} {N : List Str} {qual : Str} {scope : Scope} {f : Addr} {cd : Value} {A : Around} {outer : List Env} {s : Shared} {H : Hp} {E : XK} {p : Addr × Obj} (h : Hot1 A p) : HotC (cxH CX P w K mg base N qual scope f cd A outer s H E p) :=
  ⟨p, ⟨h.1, h.2⟩, List.mem_cons_self⟩
end Z
set_option Elab.async false
set_option linter.all false
set_option maxRecDepth 100000
set_option maxHeartbeats 4000000
namespace Z
open PySem PySem.Spec PyProof.Rows L2 NdefX
/-! ### what the head tells of such a class -/
def oexB (K : PySem.W.Frag) (C : Addr) : Bool := (match K.lookup C with
  | some ⟨.type t, _, .cls cd, sl⟩ => (match cd.mro, sl.toList with
    | .ref D :: bm, [_, _, _, _, some (.builtin n), _] => decide (t = "type") && (decide (D = C) && (decide (n = "ValueError.__new__") && (!cd.hasDel && (cd.hasDict && PySem.HandSPX.refsVE bm))))
    | _, _ => false)
  | _ => false) && (He.eqO (PySem.W.findIn K (.ref C) "__setattr__") (some (some (.builtin "object.__setattr__"))) && (decide (PySem.W.subIn K (.ref C) (.type "BaseException") = some true) && (decide (PySem.W.typeIn K (.ref C) = some (.type "type")) && PySem.W.keepIn K (.ref C))))
theorem oexB_ok {K : PySem.W.Frag} {C : Addr} (h : oexB K C = true) : OexC K C := by
  obtain ⟨h0, h⟩ := He.ba h
  obtain ⟨h1, h⟩ := He.ba h
  obtain ⟨h2, h⟩ := He.ba h
  obtain ⟨h3, h4⟩ := He.ba h
  refine ⟨?_, He.eqO_ok h1, of_decide_eq_true h2, of_decide_eq_true h3, h4⟩
  split at h0
  · next t dd cd sl lk =>
    split at h0
    · next D bm a0 a1 a2 a3 n a5 em es =>
      obtain ⟨g1, h0⟩ := He.ba h0
      obtain ⟨g2, h0⟩ := He.ba h0
      obtain ⟨g3, h0⟩ := He.ba h0
      obtain ⟨g4, h0⟩ := He.ba h0
      obtain ⟨g5, g6⟩ := He.ba h0
      have g1 := of_decide_eq_true g1
      have g2 := of_decide_eq_true g2
      have g3 := of_decide_eq_true g3
      subst g1 g2 g3
      obtain ⟨c1, c2, c3, c4, c5, c6, c7, c8, c9, c10, c11⟩ := cd
      have k3 : c3 = .ref D :: bm := em
      have k4 : c11 = false := by
        have z : (!c11) = true := g4
        cases c11
        · rfl
        · cases z
      have k5 : c6 = true := g5
      clear em g4 g5
      subst k3 k4 k5
      refine ⟨c1, c5, c4, c2, bm, c7, c8, c9, c10, dd, a0, a1, a2, a3, a5, ?_, g6⟩
      rw [lk]
      have : sl = #[a0, a1, a2, a3, some (.builtin "ValueError.__new__"), a5] := by
        apply Array.toList_inj.mp
        rw [es]
      rw [this]
    · cases h0
  · cases h0
def initFd (K : PySem.W.Frag) (C : Addr) : Option FuncData := match K.lookup (He.ma K C "__init__") with
  | some ⟨_, _, .func fd, _⟩ => some fd
  | _ => none
abbrev SupV : Type := Option (Str × Str × Arguments × FuncBody × Scope × Addr × List Str × Value × Addr)
def supObs (K : PySem.W.Frag) (x : Str) : SupV := (initFd K (He.ga K x)).map fun fd => (fd.name, fd.qualname, fd.params, fd.body, fd.scope, fd.globals, fd.closure.map (·.1), fd.defaults, fd.builtins)
def supVal (q : Str) (st : Stmt) : SupV := some ("__init__", q, defArgs st, .stmts (defBody st), defScope st, mainGlobals, ["__class__"], .none, builtinsNs)
def supB (fl : Str) (K : PySem.W.Frag) (C : Addr) (q : Str) : Bool := (match initFd K C with
  | some fd => (match fd.code, fd.closure with
    | .ref c, [(_, cc)] => PySem.W.codeIn K (.ref c) q && ((match K.lookup c with
      | some ⟨_, _, .fields vs, _⟩ => (match (vs[2]? : Option Value) with
        | some (.str file _) => fl == file
        | _ => false)
      | _ => false) && (match K.lookup cc with
      | some ⟨_, _, .cell (some (.ref D)), _⟩ => decide (D = C)
      | _ => false))
    | _, _ => false)
  | none => false) && (decide (PySem.W.mroIn K C (.ref C) = some true) && (He.eqO (PySem.W.nsIn K cStatics "thirdparty.any") (some none) && (He.eqO (PySem.W.ks_superIn K C C "__init__") (some (some (.builtin "ValueError.__init__"))) && (decide (PySem.W.subIn K (.ref C) (.type "ValueError") = some true) && (PySem.W.excInitIn K C He.veBase "ValueError.__new__" && oexB K C)))))
theorem sup_of {P : Program} {K : PySem.W.Frag} {x q fl : Str} {st : Stmt} (h1 : supObs K x = supVal q st) (h2 : supB fl K (He.ga K x) q = true) (hfl : ((P.main.file : Str) == fl) = true) (htop : (P.main.scope.names.lookup ("super" : Str)).isSome = false) :
    ∃ (c cc : Addr) (fd : FuncData) (kV doc pm ct : Value) (an : Option Addr), fd = PySem.W.fnX "__init__" q (defArgs st) (defBody st) (defScope st) [(("__class__" : Str), cc)] .none kV doc pm an (.ref c) ct ∧ SupK P K (He.ga K x) (He.ma K (He.ga K x) "__init__") c cc fd ∧ PySem.W.codeIn K (.ref c) q = true := by
  obtain ⟨g0, h2⟩ := He.ba h2
  obtain ⟨g1, h2⟩ := He.ba h2
  obtain ⟨g2, h2⟩ := He.ba h2
  obtain ⟨g3, h2⟩ := He.ba h2
  obtain ⟨g4, h2⟩ := He.ba h2
  obtain ⟨g5, g6⟩ := He.ba h2
  unfold supObs at h1
  cases e : initFd K (He.ga K x) with
  | none =>
    rw [e] at h1
    cases h1
  | some fd =>
    rw [e] at h1 g0
    have lk : ∃ oc od osl, K.lookup (He.ma K (He.ga K x) "__init__") = some ⟨oc, od, .func fd, osl⟩ := by
      unfold initFd at e
      split at e
      · next oc od fd' osl l =>
        cases e
        exact ⟨_, _, _, l⟩
      · cases e
    obtain ⟨n1, n2, n3, n4, n5, n6, n7, n8, n9, n10, n11, n12, n13, n14, n15⟩ := fd
    have h1 : (some (n1, n2, n3, n4, n5, n6, n7.map (·.1), n8, n15) : SupV) = supVal q st := h1
    unfold supVal at h1
    simp only [Option.some.injEq, Prod.mk.injEq] at h1
    obtain ⟨a1, a2, a3, a4, a5, a6, a7, a8, a9⟩ := h1
    subst a1 a2 a3 a4 a5 a6 a8 a9
    dsimp only at g0
    split at g0
    · next c y cc =>
      obtain ⟨b1, g0⟩ := He.ba g0
      obtain ⟨b2, b3⟩ := He.ba g0
      have ey : y = "__class__" := by
        have := a7
        simpa using this
      subst ey
      refine ⟨c, cc, _, _, _, _, _, _, rfl, ⟨lk, ?_, ?_, htop, of_decide_eq_true g1, He.eqO_ok g2, He.eqO_ok g3, of_decide_eq_true g4, g5, oexB_ok g6⟩, b1⟩
      · split at b2
        · next u1 u2 vs u3 l =>
          split at b2
          · next file tf ev =>
            refine ⟨_, _, vs, _, file, tf, l, ev, ?_⟩
            rw [beq_iff_eq.mp b2] at hfl
            exact hfl
          · cases b2
        · cases b2
      · split at b3
        · next u1 u2 D u3 l =>
          have := of_decide_eq_true b3
          subst this
          exact ⟨_, _, _, l⟩
        · cases b3
    · cases g0
end Z
set_option Elab.async false
set_option linter.all false
set_option maxRecDepth 100000
set_option maxHeartbeats 4000000
namespace Z
open PySem PySem.Spec PyProof.Rows L2 NdefX
/-! ### isinstance(e, c), e a caught error with a dict of its own -/
def rIsX (K : PySem.W.Frag) (a : Addr) (cls : Value) (d : Option Addr) : List V → Hp → VK → Prop := fun xs H Q => ∃ (D dd : Addr) (fs : List (Str × V)) (c : V) (cv : Value) (b : Bool), cls = .ref D ∧ d = some dd ∧ ExcC K D ∧ H dd = some (.xd fs) ∧ xs = [.ref a, c] ∧ (∀ u, RelV c u → u = cv) ∧ PySem.W.kitOne K (.ref D) cv = some b ∧ Q (.bl b) H
theorem call_isX {X : Cx} {a : Addr} {cls : Value} {d : Option Addr} {oe : Obj} {pn : List (Addr × Obj)} (hz : Zc cls d oe) (hf : ∃ vs, oe.data = .fields vs) : CallR (X.suite a ((a, oe) :: pn)) (.builtin "isinstance") (rIsX X.K a cls d) := by
  intro pins s σ H xs us Q I r h
  obtain ⟨D, dd, fs, c, cv, b, rfl, rfl, C, ed, rfl, hcv, e, q⟩ := h
  obtain ⟨u1, u2, rfl, r1, r2⟩ := vals2 r
  cases r1
  have ec := hcv _ r2
  subst ec
  obtain ⟨hget, _⟩ := I.pin (a, oe) (List.mem_append.mpr (.inl List.mem_cons_self))
  obtain ⟨vs, hv⟩ := hf
  have hx : ObjOk X.prog X.w H s.heap dd (.xd fs) := I.hok dd _ ed
  obtain ⟨mA, hns, hr⟩ := hx
  obtain ⟨od, ho, hl⟩ := lookIn_ns hns
  have J : PySem.W.InstAt s.heap a oe D (some od) := ⟨hget, hz.1, by unfold PySem.W.notCls; rw [hv] <;> rfl, by rw [hz.2]; exact ho⟩
  have hcl : (PySem.W.clsIn X.K D).isSome = true := by
    obtain ⟨cd, hc, _⟩ := PySem.W.any_some C.hd
    rw [hc]
    rfl
  exact PySem.W.kia_one (PySem.W.kitx_exc hcl C.hg C.hk C.hs C.ha C.hn C.ht C.hm) I.kIn J e (fun z => nomatch z) fun tk => ⟨.bl b, H, I.kept (t' := tk) fun _ _ z => z, rfl, q⟩
end Z
set_option Elab.async false
set_option linter.all false
set_option maxRecDepth 100000
set_option maxHeartbeats 4000000
namespace Z
open PySem PySem.Spec PyProof.Rows L2 NdefX
/-! ### the head with own exceptions: facts of defs and classes, one more Bool, the __init__s -/
def asX (g : Addr → Option Obj) (n : Nat) : List Addr := He.asD g n ++ [cStatics]
def hookX (n : Nat) (fa : List He.Fa) (fn : List He.DefD) (xs : List Str) (vs : List SupV) (ex : PySem.W.Frag → Bool) : PySem.W.Hook where
  α := He.AlD × (List SupV × Bool)
  obs := fun s => (He.obsD fa fn (He.frG s.heap.get? (asX s.heap.get? n)), xs.map (supObs (He.frG s.heap.get? (asX s.heap.get? n))), ex (He.frG s.heap.get? (asX s.heap.get? n)))
  val := fun _ => (He.valD fn, vs, true)
  says := fun _ h => ∃ K : PySem.W.Frag, K.In h ∧ He.SaysD fa fn K ∧ xs.map (supObs K) = vs ∧ ex K = true
  of := fun _ _ e => ⟨_, He.frG_in, congrArg (fun z : He.AlD × (List SupV × Bool) => z.1) e, congrArg (fun z : He.AlD × (List SupV × Bool) => z.2.1) e, congrArg (fun z : He.AlD × (List SupV × Bool) => z.2.2) e⟩
  keeps := fun _ _ _ ⟨K, hK, c⟩ k => ⟨K, PySem.W.Frag.In.keeps hK k, c⟩
def obX (n : Nat) (fa : List He.Fa) (fn : List He.DefD) (xs : List Str) (ex : PySem.W.Frag → Bool) (g : Addr → Option Obj) : He.AlD × (List SupV × Bool) := (He.obsD fa fn (He.frG g (asX g n)), xs.map (supObs (He.frG g (asX g n))), ex (He.frG g (asX g n)))
theorem obX_eq {n : Nat} {fa : List He.Fa} {fn : List He.DefD} {xs : List Str} {vs : List SupV} {ex : PySem.W.Frag → Bool} {g : Addr → Option Obj} {s : Shared} (h : ∀ a, g a = s.heap.get? a) : obX n fa fn xs ex g = (hookX n fa fn xs vs ex).obs s := by
  have e : g = s.heap.get? := funext h
  rw [e] <;> rfl
theorem sup_at {xs : List Str} {vs : List SupV} {K : PySem.W.Frag} (e : xs.map (supObs K) = vs) (i : Nat) {x : Str} {v : SupV} (h1 : xs[i]? = some x := by rfl) (h2 : vs[i]? = some v := by rfl) : supObs K x = v := by
  have := congrArg (fun z : List SupV => z[i]?) e
  simp only [List.getElem?_map, h1, h2] at this
  exact Option.some.inj this
def excB (K : PySem.W.Frag) (D : Addr) : Bool := He.eqO (PySem.W.findIn K (.ref D) "__getattribute__") (some (some (.builtin "BaseException.__getattribute__"))) && (He.eqO (PySem.W.findIn K (.ref D) "__getattr__") (some none) && (decide (PySem.W.subIn K (.ref D) (.type "BaseException") = some true) && (PySem.W.hasDictIn K D && (He.eqO (PySem.W.findIn K (.ref D) "__class__") (some (some (.builtin "object.__class__"))) && (He.eqO (PySem.W.specialIn K (.builtin "object.__class__") "__get__") (some (some (.builtin "getset_descriptor.__get__"))) && (decide (PySem.W.takesIn K (.builtin "object.__class__") = some true) && decide (PySem.W.mroIn K D (.type "object") = some true)))))))
theorem excB_ok {K : PySem.W.Frag} {D : Addr} (h : excB K D = true) : ExcC K D ∧ XfC K D := by
  obtain ⟨h1, h⟩ := He.ba h
  obtain ⟨h2, h⟩ := He.ba h
  obtain ⟨h3, h⟩ := He.ba h
  obtain ⟨h4, h⟩ := He.ba h
  obtain ⟨h5, h⟩ := He.ba h
  obtain ⟨h6, h⟩ := He.ba h
  obtain ⟨h7, h8⟩ := He.ba h
  exact ⟨⟨He.eqO_ok h1, He.eqO_ok h2, of_decide_eq_true h3, h4, He.eqO_ok h5, He.eqO_ok h6, of_decide_eq_true h7, of_decide_eq_true h8⟩, ⟨He.eqO_ok h1, He.eqO_ok h2, of_decide_eq_true h3, h4⟩⟩
/-- an own exception class with the field -/
def exnB (fl q field : Str) (K : PySem.W.Frag) (C : Addr) : Bool := supB fl K C q && (He.eqO (PySem.W.findIn K (.ref C) "__init__") (some (some (.ref (He.ma K C "__init__")))) && (decide (PySem.W.typeIn K (.ref (He.ma K C "__init__")) = some (.type "function")) && (He.eqO (PySem.W.findIn K (.ref C) field) (some none) && excB K C)))
structure ExnF (K : PySem.W.Frag) (C : Addr) (q field fl : Str) : Prop where
  sup : supB fl K C q = true
  ini : PySem.W.findIn K (.ref C) "__init__" = some (some (.ref (He.ma K C "__init__")))
  ty : PySem.W.typeIn K (.ref (He.ma K C "__init__")) = some (.type "function")
  no : PySem.W.findIn K (.ref C) field = some none
  ec : ExcC K C
  xf : XfC K C
theorem exnB_ok {fl q field : Str} {K : PySem.W.Frag} {C : Addr} (h : exnB fl q field K C = true) : ExnF K C q field fl := by
  obtain ⟨h1, h⟩ := He.ba h
  obtain ⟨h2, h⟩ := He.ba h
  obtain ⟨h3, h⟩ := He.ba h
  obtain ⟨h4, h5⟩ := He.ba h
  exact ⟨h1, He.eqO_ok h2, of_decide_eq_true h3, He.eqO_ok h4, (excB_ok h5).1, (excB_ok h5).2⟩
def exmB (K : PySem.W.Frag) (a b : Addr) : Bool := decide (PySem.W.exmOne K (.ref a) (.ref b) = some true)
def kitVB (K : PySem.W.Frag) (a : Addr) (v : Value) (b : Bool) : Bool := decide (PySem.W.kitOne K (.ref a) v = some b)
end Z
set_option Elab.async false
set_option linter.all false
set_option maxRecDepth 100000
set_option maxHeartbeats 4000000
namespace Z
open PySem PySem.Spec PyProof.Rows L2 NdefX
/-! ### the head with own exceptions and properties: further observations are any functions of the written part -/
def hookY (n : Nat) (fa : List He.Fa) (fn : List He.DefD) (xs : List (PySem.W.Frag → SupV)) (vs : List SupV) (ex : PySem.W.Frag → Bool) : PySem.W.Hook where
  α := He.AlD × (List SupV × Bool)
  obs := fun s => (He.obsD fa fn (He.frG s.heap.get? (asX s.heap.get? n)), xs.map (fun f => f (He.frG s.heap.get? (asX s.heap.get? n))), ex (He.frG s.heap.get? (asX s.heap.get? n)))
  val := fun _ => (He.valD fn, vs, true)
  says := fun _ h => ∃ K : PySem.W.Frag, K.In h ∧ He.SaysD fa fn K ∧ xs.map (fun f => f K) = vs ∧ ex K = true
  of := fun _ _ e => ⟨_, He.frG_in, congrArg (fun z : He.AlD × (List SupV × Bool) => z.1) e, congrArg (fun z : He.AlD × (List SupV × Bool) => z.2.1) e, congrArg (fun z : He.AlD × (List SupV × Bool) => z.2.2) e⟩
  keeps := fun _ _ _ ⟨K, hK, c⟩ k => ⟨K, PySem.W.Frag.In.keeps hK k, c⟩
def obY (n : Nat) (fa : List He.Fa) (fn : List He.DefD) (xs : List (PySem.W.Frag → SupV)) (ex : PySem.W.Frag → Bool) (g : Addr → Option Obj) : He.AlD × (List SupV × Bool) := (He.obsD fa fn (He.frG g (asX g n)), xs.map (fun f => f (He.frG g (asX g n))), ex (He.frG g (asX g n)))
theorem obY_eq {n : Nat} {fa : List He.Fa} {fn : List He.DefD} {xs : List (PySem.W.Frag → SupV)} {vs : List SupV} {ex : PySem.W.Frag → Bool} {g : Addr → Option Obj} {s : Shared} (h : ∀ a, g a = s.heap.get? a) : obY n fa fn xs ex g = (hookY n fa fn xs vs ex).obs s := by
  have e : g = s.heap.get? := funext h
  rw [e] <;> rfl
theorem y_at {xs : List (PySem.W.Frag → SupV)} {vs : List SupV} {K : PySem.W.Frag} (e : xs.map (fun f => f K) = vs) (i : Nat) {f : PySem.W.Frag → SupV} {v : SupV} (h1 : xs[i]? = some f := by rfl) (h2 : vs[i]? = some v := by rfl) : f K = v := by
  have := congrArg (fun z : List SupV => z[i]?) e
  simp only [List.getElem?_map, h1, h2] at this
  exact Option.some.inj this
def isB (K : PySem.W.Frag) (C : Addr) : Bool := He.eqO (PySem.W.findIn K (.ref C) "__class__") (some (some (.builtin "object.__class__"))) && (He.eqO (PySem.W.specialIn K (.builtin "object.__class__") "__get__") (some (some (.builtin "getset_descriptor.__get__"))) && (decide (PySem.W.takesIn K (.builtin "object.__class__") = some true) && (decide (PySem.W.mroIn K C (.type "object") = some true) && decide (PySem.W.kitOne K (.ref C) (.ref C) = some true))))
theorem isB_ok {K : PySem.W.Frag} {C : Addr} (cl : Cls K C) (h : isB K C = true) : C8.InsC K C := by
  obtain ⟨h1, h⟩ := He.ba h
  obtain ⟨h2, h⟩ := He.ba h
  obtain ⟨h3, h⟩ := He.ba h
  obtain ⟨h4, h5⟩ := He.ba h
  exact ⟨cl, He.eqO_ok h1, He.eqO_ok h2, of_decide_eq_true h3, of_decide_eq_true h4, of_decide_eq_true h5⟩
def spB (K : PySem.W.Frag) (C : Addr) (m : Str) : Bool := He.eqO (PySem.W.findIn K (.ref C) m) (some (some (.ref (He.ma K C m)))) && (PySem.W.isFn K (.ref (He.ma K C m)) && PySem.W.fnIn K (He.ma K C m))
theorem spB_ok {K : PySem.W.Frag} {C : Addr} {m : Str} (h : spB K C m = true) : PySem.W.findIn K (.ref C) m = some (some (.ref (He.ma K C m))) ∧ PySem.W.isFn K (.ref (He.ma K C m)) = true ∧ PySem.W.fnIn K (He.ma K C m) = true := by
  obtain ⟨h1, h⟩ := He.ba h
  obtain ⟨h2, h3⟩ := He.ba h
  exact ⟨He.eqO_ok h1, h2, h3⟩
theorem all_at {bs : List Bool} (h : bs.all id = true) (i : Nat) {b : Bool} (e : bs[i]? = some b := by rfl) : b = true := List.all_eq_true.mp h b (List.mem_of_getElem? e)
theorem fnr_ok {P : Program} {w : World} {K : PySem.W.Frag} {mg : Str → Option Value} {base : Heap} {k : Nat} {f : Addr} {fd : FuncData} {ps : List Str} {sp : Sp} (F : FnOk P w K mg base CX0 k f fd ps sp) (b : Binds K fd ps []) : FnR P w K mg base CX0 k f sp := (FnOk.raw (dvs := []) F b .nil).imp fun vs H Q E h => by
  show sp (vs ++ []) H Q E
  rw [List.append_nil]
  exact h
/-! a property's getter -/
def gtA (K : PySem.W.Frag) (C : Addr) (m : Str) : Addr := match PySem.W.recIn K (He.ma K C m) "property" with
  | some (.ref g :: _) => g
  | _ => 0
def fdAt (K : PySem.W.Frag) (g : Addr) : Option FuncData := match K.lookup g with
  | some ⟨_, _, .func fd, _⟩ => some fd
  | _ => none
def propObs (x m : Str) (K : PySem.W.Frag) : SupV := (fdAt K (gtA K (He.ga K x) m)).map fun fd => (fd.name, fd.qualname, fd.params, fd.body, fd.scope, fd.globals, fd.closure.map (·.1), fd.defaults, fd.builtins)
def propVal (m q : Str) (st : Stmt) : SupV := some (m, q, defArgs st, .stmts (defBody st), defScope st, mainGlobals, [], .none, builtinsNs)
def propB (K : PySem.W.Frag) (C : Addr) (m q : Str) : Bool := He.eqO (PySem.W.findIn K (.ref C) m) (some (some (.ref (He.ma K C m)))) && (He.eqO (PySem.W.specialIn K (.ref (He.ma K C m)) "__get__") (some (some (.builtin "property.__get__"))) && (decide (PySem.W.takesIn K (.ref (He.ma K C m)) = some true) && ((match PySem.W.recIn K (He.ma K C m) "property" with
  | some (.ref _ :: _) => true
  | _ => false) && (PySem.W.keepIn K (.ref (gtA K C m)) && (match fdAt K (gtA K C m) with
  | some fd => PySem.W.codeIn K fd.code q && (He.dflB K fd.defaults [] && He.kwdB K fd.kwdefaults [])
  | none => false)))))
theorem prop_of {K : PySem.W.Frag} {x m q : Str} {st : Stmt} (h1 : propObs x m K = propVal m q st) (h2 : propB K (He.ga K x) m q = true) : ∃ fd : FuncData, PropOf K (He.ga K x) m (He.ma K (He.ga K x) m) (gtA K (He.ga K x) m) ∧ FunD K m q (defArgs st) (defBody st) (defScope st) [] [] (gtA K (He.ga K x) m) fd := by
  obtain ⟨g0, h2⟩ := He.ba h2
  obtain ⟨g1, h2⟩ := He.ba h2
  obtain ⟨g2, h2⟩ := He.ba h2
  obtain ⟨g3, h2⟩ := He.ba h2
  obtain ⟨g4, g5⟩ := He.ba h2
  have P : PropOf K (He.ga K x) m (He.ma K (He.ga K x) m) (gtA K (He.ga K x) m) := by
    refine ⟨He.eqO_ok g0, He.eqO_ok g1, of_decide_eq_true g2, ?_⟩
    unfold gtA
    split at g3
    · next g rest e =>
      rw [e]
      exact ⟨rest, rfl⟩
    · cases g3
  unfold propObs at h1
  cases e : fdAt K (gtA K (He.ga K x) m) with
  | none =>
    rw [e] at h1
    cases h1
  | some fd =>
    rw [e] at h1 g5
    have lk : ∃ oc od osl, K.lookup (gtA K (He.ga K x) m) = some ⟨oc, od, .func fd, osl⟩ := by
      unfold fdAt at e
      split at e
      · next oc od fd' osl l =>
        cases e
        exact ⟨_, _, _, l⟩
      · cases e
    obtain ⟨oc, od, osl, lk⟩ := lk
    obtain ⟨n1, n2, n3, n4, n5, n6, n7, n8, n9, n10, n11, n12, n13, n14, n15⟩ := fd
    have h1 : (some (n1, n2, n3, n4, n5, n6, n7.map (·.1), n8, n15) : SupV) = propVal m q st := h1
    unfold propVal at h1
    simp only [Option.some.injEq, Prod.mk.injEq] at h1
    obtain ⟨a1, a2, a3, a4, a5, a6, a7, a8, a9⟩ := h1
    have a7 : n7 = [] := List.map_eq_nil_iff.mp a7
    subst a1 a2 a3 a4 a5 a6 a7 a8 a9
    obtain ⟨k1, k2⟩ := He.ba (show (PySem.W.codeIn K n13 n2 && (He.dflB K .none [] && He.kwdB K n9 [])) = true from g5)
    obtain ⟨k3, k4⟩ := He.ba k2
    exact ⟨_, P, ⟨oc, od, _, n9, n10, n11, n12, n13, n14, osl, rfl, lk, k1, He.dflB_ok k3, He.kwdB_ok k4⟩, g4⟩
end Z
set_option Elab.async false
set_option linter.all false
set_option maxRecDepth 100000
set_option maxHeartbeats 4000000
namespace Z
open PySem PySem.Spec PyProof.Rows L2
/-! ### comprehensions that give ints, over a list of ints and over a range -/
theorem lc_ofs {K : PySem.W.Frag} {J : It} {D : Addr} {n : Nat} {H0 : Hp} {i : Nat} {te : TE} {vs : List Nat} {σ : L2.St} {Qd : Hp → Prop} (g : Nat → Int) (xv : Nat → V) (hn : n ≤ 1000000) (nD : H0 D = none)
    (hgo : ∀ k H1, k < n → Same H0 H1 → J.go k H1) (hst : ∀ H1, Same H0 H1 → J.stop n H1) (hy : ∀ k H1 x H2, k < n → Same H0 H1 → J.yld k H1 x H2 → H2 = H1 ∧ x = xv k)
    (hw : ∀ k, wipe ((wipe σ vs).set i (some (xv k))) vs = wipe σ vs)
    (ht : ∀ k H1 (Q : VK), k < n → Same H0 H1 → (∀ H2, Same H1 H2 → Q (.int (g k)) H2) → te ((wipe σ vs).set i (some (xv k))) H1 Q)
    (hd : ∀ H1, Same H0 H1 → H1 D = some (.lst (((List.range n).map g).map V.int)) → Qd H1) : lcW J (gName i) tYes te vs σ D Qd H0 := by
  refine lc_gen (n := n) (fun k H1 => Same H0 H1 ∧ H1 D = some (.lst (((List.range k).map g).map V.int))) ⟨same_new nD, upd_same⟩ (fun k H1 hk p => hgo k H1 hk p.1) (fun H1 p => hst H1 p.1) ?_ (fun H1 p => hd H1 p.1 p.2)
  rintro k H1 x H2 hk ⟨s, e⟩ y
  obtain ⟨rfl, rfl⟩ := hy k H1 x H2 hk s y
  refine ⟨hw k, ?_⟩
  refine ht k _ _ hk s (fun H3 s3 => ⟨_, s3 _ _ e, ?_, Z.Same.mut (s.trans s3) nD, ?_⟩)
  · rw [List.length_map, List.length_map, List.length_range]
    exact Nat.lt_of_lt_of_le hk (Nat.le_trans hn (by decide))
  · rw [upd_same, List.range_succ, List.map_append, List.map_append]
    rfl
theorem lc_rng {K : PySem.W.Frag} {lo : Int} {D : Addr} {n : Nat} {H0 : Hp} {i : Nat} {te : TE} {vs : List Nat} {σ : L2.St} {Qd : Hp → Prop} (g : Nat → Int) (hn : n ≤ 1000000) (nD : H0 D = none) (hw : ∀ k : Nat, wipe ((wipe σ vs).set i (some (.int (lo + k)))) vs = wipe σ vs)
    (ht : ∀ (k : Nat) H1 (Q : VK), k < n → Same H0 H1 → (∀ H2, Same H1 H2 → Q (.int (g k)) H2) → te ((wipe σ vs).set i (some (.int (lo + k)))) H1 Q)
    (hd : ∀ H1, Same H0 H1 → H1 D = some (.lst (((List.range n).map g).map V.int)) → Qd H1) : lcW (Itr lo n) (gName i) tYes te vs σ D Qd H0 :=
  lc_ofs (K := K) g (fun k => .int (lo + k)) hn nD (fun k H1 hk _ => hk) (fun H1 _ => Nat.le_refl _) (fun k H1 x H2 _ _ y => y) hw ht hd
theorem lc_lst {K : PySem.W.Frag} {a D : Addr} {xs : List Int} {H0 : Hp} {i : Nat} {te : TE} {vs : List Nat} {σ : L2.St} {Qd : Hp → Prop} (hS : SqL K H0 a (xs.map V.int)) (g : Int → Int) (hn : xs.length ≤ 1000000) (nD : H0 D = none) (hw : ∀ x : Int, wipe ((wipe σ vs).set i (some (.int x))) vs = wipe σ vs)
    (ht : ∀ x H1 (Q : VK), x ∈ xs → Same H0 H1 → (∀ H2, Same H1 H2 → Q (.int (g x)) H2) → te ((wipe σ vs).set i (some (.int x))) H1 Q)
    (hd : ∀ H1, Same H0 H1 → H1 D = some (.lst ((xs.map g).map V.int)) → Qd H1) : lcW (Itl K a) (gName i) tYes te vs σ D Qd H0 := by
  have ex : ∀ k, k < xs.length → (xs.map V.int)[k]? = some (.int (xs.getD k 0)) := fun k hk => by
    rw [List.getElem?_map, List.getD_eq_getElem?_getD, List.getElem?_eq_getElem hk]
    rfl
  refine lc_ofs (K := K) (n := xs.length) (fun k => g (xs.getD k 0)) (fun k => .int (xs.getD k 0)) hn nD (fun k H1 hk s => ⟨_, _, s.seq hS, ex k hk⟩) (fun H1 s => ⟨_, s.seq hS, by rw [List.length_map]; exact Nat.le_refl _⟩) (fun k H1 x H2 hk s y => ⟨y.1, Option.some.inj ((y.2 _ (s.seq hS)).symm.trans (ex k hk))⟩) (fun k => hw _) (fun k H1 Q hk s q => ht _ H1 Q ?_ s q) (fun H1 s e => hd H1 s ?_)
  · rw [List.getD_eq_getElem?_getD, List.getElem?_eq_getElem hk]
    exact List.getElem_mem hk
  · rw [e]
    congr 2
    congr 1
    apply List.ext_getElem
    · rw [List.length_map, List.length_map, List.length_range]
    · intro k h1 h2
      rw [List.length_map] at h2
      rw [List.getElem_map, List.getElem_map, List.getElem_range, List.getD_eq_getElem?_getD, List.getElem?_eq_getElem h2]
      rfl
/-- for x in xs, ints -/
theorem for_lst {K : PySem.W.Frag} {a : Addr} {xs : List Int} {H0 H : Hp} {i : Nat} {tb : TS} {D : Ends} {σ : L2.St} (hS : SqL K H0 a (xs.map V.int)) (Pv : Nat → L2.St → Hp → Prop) (h0 : Pv 0 σ H) (hq : ∀ k σ H1, Pv k σ H1 → Same H0 H1)
    (hs : ∀ (k : Nat) (x : Int) (σ : L2.St) (H1 : Hp), xs[k]? = some x → Pv k σ H1 → tb { D with nx := Pv (k + 1), ct := Pv (k + 1), bk := D.nx } (σ.set i (some (.int x))) H1)
    (hd : ∀ σ H1, Pv xs.length σ H1 → D.nx σ H1) : forW (Itl K a) (gName i) tb D σ H := by
  have ex : ∀ k, k < xs.length → (xs.map V.int)[k]? = some (.int (xs.getD k 0)) := fun k hk => by
    rw [List.getElem?_map, List.getD_eq_getElem?_getD, List.getElem?_eq_getElem hk]
    rfl
  refine for_gen (n := xs.length) Pv h0 (fun k σ H1 hk p => ⟨_, _, (hq k σ H1 p).seq hS, ex k hk⟩) (fun σ H1 p => ⟨_, (hq _ σ H1 p).seq hS, by rw [List.length_map]; exact Nat.le_refl _⟩) ?_ hd
  intro k σ H1 x H2 hk p y
  obtain ⟨rfl, e⟩ := y
  have e2 := Option.some.inj ((e _ ((hq k σ _ p).seq hS)).symm.trans (ex k hk))
  subst e2
  refine hs k _ σ _ ?_ p
  rw [List.getD_eq_getElem?_getD, List.getElem?_eq_getElem hk]
  rfl
/-- for x in xs, any values -/
theorem for_vs {K : PySem.W.Frag} {a : Addr} {xs : List V} {H0 H : Hp} {i : Nat} {tb : TS} {D : Ends} {σ : L2.St} (hS : SqL K H0 a xs) (Pv : Nat → L2.St → Hp → Prop) (h0 : Pv 0 σ H) (hq : ∀ k σ H1, Pv k σ H1 → Same H0 H1)
    (hs : ∀ (k : Nat) (x : V) (σ : L2.St) (H1 : Hp), xs[k]? = some x → Pv k σ H1 → tb { D with nx := Pv (k + 1), ct := Pv (k + 1), bk := D.nx } (σ.set i (some x)) H1)
    (hd : ∀ σ H1, Pv xs.length σ H1 → D.nx σ H1) : forW (Itl K a) (gName i) tb D σ H := by
  refine for_gen (n := xs.length) Pv h0 (fun k σ H1 hk p => ⟨_, _, (hq k σ H1 p).seq hS, List.getElem?_eq_getElem hk⟩) (fun σ H1 p => ⟨_, (hq _ σ H1 p).seq hS, Nat.le_refl _⟩) ?_ hd
  intro k σ H1 x H2 hk p y
  obtain ⟨rfl, e⟩ := y
  exact hs k x σ _ (e _ ((hq k σ _ p).seq hS)) p
theorem pe_fld_K {X : Cx} {K : PySem.W.Frag} {e : Expr} {f : Str} {pos : Pos} {ta : TE} (h : X.K = K) (he : PE X e ta) (hb : attributeBase e f X.env (eval e X.env) = eval e X.env) : PE X (.Attribute e f pos) (tFld K ta f) := by
  subst h
  exact pe_fld he hb
/-! ### reads -/
theorem at_nat {xs : List Int} {i : Int} (h0 : 0 ≤ i) (h1 : i < xs.length) : atI (xs.map V.int) i = some (.int (xs.getD i.toNat 0)) := by
  have hk : i.toNat < xs.length := by omega
  rw [show i = ((i.toNat : Nat) : Int) by omega, List.getD_eq_getElem?_getD, Int.toNat_natCast, List.getElem?_eq_getElem hk]
  exact at_map (List.getElem?_eq_getElem hk)
theorem rd_at {K : PySem.W.Frag} {H : Hp} {a : Addr} {xs : List Int} {i : Int} {R : V → Prop} (h : SqL K H a (xs.map V.int)) (h0 : 0 ≤ i) (h1 : i < xs.length) (q : R (.int (xs.getD i.toNat 0))) : ∃ a' ys j v, V.ref a = .ref a' ∧ V.int i = .int j ∧ SqL K H a' ys ∧ atI ys j = some v ∧ R v := ⟨a, _, i, _, rfl, rfl, h, at_nat h0 h1, q⟩
theorem rd_atT {K : PySem.W.Frag} {H : Hp} {a : Addr} {xs : List Int} {i : Int} {R : V → Prop} (h : SqT K H a (xs.map V.int)) (h0 : 0 ≤ i) (h1 : i < xs.length) (q : R (.int (xs.getD i.toNat 0))) : ∃ a' ys j v, V.ref a = .ref a' ∧ V.int i = .int j ∧ SqT K H a' ys ∧ atI ys j = some v ∧ R v := ⟨a, _, i, _, rfl, rfl, h, at_nat h0 h1, q⟩
end Z
set_option Elab.async false
set_option linter.all false
set_option maxRecDepth 100000
set_option maxHeartbeats 4000000
namespace Z
open PySem PySem.Spec PyProof.Rows L2
/-! ### enumerate(x) of one argument: x a list, a tuple or a text -/
theorem enum_new1 {v : Value} {o : Obj} {G : Heap → Prop} (B : Begins v o G) :
    Meets (Builtin.«enumerate.__new__» ⟨[.type "enumerate", v], []⟩) (fun _ R s => G s.heap ∧
      R (.ok (.ret (.ref (s.heap.push o).objs.size))) { s with heap := (s.heap.push o).push { cls := .type "enumerate", data := .fields #[.none, .bool false, .ref s.heap.objs.size, rawInt 0, .none, .none] } }) :=
  .of_wp fun prog w A R s h => by
    obtain ⟨hp, gl, dd, tok, oo⟩ := s
    obtain ⟨g1, h⟩ := h
    have hsub := sub_enumerate
    have step : ∀ {A' : Around} {E : Value → Shared → Prop} {Q : Value → Shared → Prop}, Q (.ref hp.objs.size) ⟨hp.push o, gl, dd, tok, oo⟩ → wpAny (model prog w) A' (pyIter v) Q E ⟨hp, gl, dd, tok, oo⟩ := fun z => B.iter prog w _ _ ⟨hp, gl, dd, tok, oo⟩ _ g1 z
    wp_walk using step
    refine wpAny_stack_any fun _ => wpAny_pure ?_
    split
    · rename_i cc _ _ _ _ _
      cases (cc == Value.type "enumerate") <;>
        (wp_walk using step
         exact ⟨_, rfl, h⟩)
    · wp_walk using step
      exact ⟨_, rfl, h⟩
section
variable {prog : Program} {w : World} {A : Around} {E : Value → Shared → Prop} {s : Shared}
theorem enum_begins1 {v : Value} {o : Obj} {G : Heap → Prop} {Q : Value → Shared → Prop} (B : Begins v o G) (g : G s.heap)
    (h : ∀ h', IsEnum h' (s.heap.objs.size + 1) s.heap.objs.size 0 .none → h'.get? s.heap.objs.size = some o → (∀ b ob, s.heap.get? b = some ob → h'.get? b = some ob) → Q (.ref (s.heap.objs.size + 1)) { s with heap := h' }) :
    wpAny (model prog w) A (call (.type "enumerate") [v]) Q E s := by
  refine callType_new F.called_enumerate (by decide) (F.typeCall_enumerate_1 v) (F.newCall_enumerate_1 v) (fun ob => F.args_object_init_2 ob _) F.entry_enumerate_new (enum_new1 B) ⟨g, ?_⟩
  have sz : (s.heap.push o).objs.size = s.heap.objs.size + 1 := Heap.size_push ..
  show _ ∧ _
  rw [sz]
  have ie : IsEnum ((s.heap.push o).push { cls := .type "enumerate", data := .fields #[.none, .bool false, .ref s.heap.objs.size, rawInt 0, .none, .none] }) (s.heap.objs.size + 1) s.heap.objs.size 0 .none := by
    have z := Heap.get?_push_size (s.heap.push o) (o := { cls := .type "enumerate", data := .fields #[.none, .bool false, .ref s.heap.objs.size, rawInt 0, .none, .none] }) rfl
    rw [sz] at z
    exact z
  exact ⟨⟨_, ie, rfl⟩, h _ ie (Heap.get?_push_of_some _ (Heap.get?_push_size _ B.free)) fun b ob z => Heap.get?_push_of_some _ (Heap.get?_push_of_some _ z)⟩
end
/-- pairs of a turn's number and its item -/
def ItEM (p : Bool) (K : PySem.W.Frag) (a : Addr) : It :=
  ⟨fun i H => ∃ (xs : List V) (x : V), SqK p K H a xs ∧ xs[i]? = some x,
   fun i H v H' => ∃ T x, v = .ref T ∧ H T = none ∧ H' = upd H T (.tup [.int (i : Nat), x]) ∧ (∀ xs, SqK p K H a xs → xs[i]? = some x),
   fun i H => ∃ xs : List V, SqK p K H a xs ∧ xs.length = i⟩
def ItES (z : Str) : It :=
  ⟨fun i _ => i < z.cps.size,
   fun i H v H' => ∃ T c, v = .ref T ∧ H T = none ∧ H' = upd H T (.tup [.int (i : Nat), .str ⟨#[c]⟩]) ∧ z.cps[i]? = some c,
   fun i _ => z.cps.size = i⟩
theorem enum_item {X : Cx} {pins : List (Addr × Obj)} {σ : L2.St} {H : Hp} {s : Shared} {e it : Addr} {fp : List Addr} {n i : Nat} {Pi : Nat → Value → Prop} {Si : Nat → Heap → Prop} {old : Value} {elts : List Expr} {kk : Nat} {tpos : Pos} {E : Value → Shared → Prop}
    (I : Inv X pins σ H s) (hf : ∀ b ∈ [e, it], FpOk X pins H b) (D : Draws X.prog X.w X.A.in1 it fp n Pi Si) (he : IsEnum s.heap e it ((i : Nat) : Int) old) (st : Si i s.heap) (lt : i < n) (ne : e ≠ it) (ef : e ∉ fp)
    (x : V) (ru : ∀ v, Pi i v → L2.RelV x v) :
    wpAny (model X.prog X.w) X.A (pyNext (.ref e)) (fun r s1 => ∃ u, r = some u ∧ wpAny (model X.prog X.w) X.A (letOwnedTupleGo (.Tuple elts kk tpos) (.ref e) u) (fun _ s2 => ∃ T, u = .ref T ∧ H T = none ∧ Inv X pins σ (upd H T (.tup [.int (i : Nat), x])) s2 ∧ (∃ o, IsEnum s2.heap e it ((i + 1 : Nat) : Int) o) ∧ Si (i + 1) s2.heap ∧ ∀ b ∈ [e, it], upd H T (.tup [.int (i : Nat), x]) b = none) E s1) E s := by
  have el : e < s.heap.objs.size := Heap.lt_size he
  have il : it < s.heap.objs.size := by
    obtain ⟨_, z⟩ := D.live _ _ st
    exact Heap.lt_size z
  refine wpAny_pyNext_enum_itemC D he st lt ne ef fun v g tk pv go st' gT gs gk => ?_
  refine ⟨_, rfl, wpAny_letOwnedTupleGo_enum (s := { s with heap := g, toks := tk + 1 }) go fun g2 ge sb => ?_⟩
  have gT2 : g2.get? s.heap.objs.size = some { cls := .type "tuple", data := .seq #[.int i tk, v] } := (sb.2 _ (Nat.ne_of_gt el)).trans gT
  have nw : ObjOk X.prog X.w (upd H s.heap.objs.size (.tup [.int (i : Nat), x])) g2 s.heap.objs.size (.tup [.int (i : Nat), x]) := ⟨by show 2 ≤ sizeLine; decide, [.int i tk, v], .cons ⟨tk, rfl⟩ (.cons (ru v pv) .nil), ⟨_, gT2, rfl, _, rfl⟩⟩
  have I1 : Inv X pins σ (upd H s.heap.objs.size (.tup [.int (i : Nat), x])) { s with heap := g2, toks := tk + 1 } :=
    I.turnedNew (t' := tk + 1) (ch := [e, it]) (fun b ob nb z => (sb.2 b (fun w => nb (by simp [w]))).trans (gk b ob (fun w => nb (by simp [w])) (fun w => nb (by simp [w])) z)) hf (Nat.le_refl _) nw
  refine ⟨_, rfl, I.hok.fresh (Nat.le_refl _), I1, ⟨v, ?_⟩, D.frame _ _ _ st' fun b hb o z => (sb.2 b fun w => ef (w ▸ hb)).trans z, fun b hb => ?_⟩
  · rw [show ((i + 1 : Nat) : Int) = (i : Int) + 1 by omega]
    exact ge
  · have lb : b < s.heap.objs.size := by
      rcases (show b = e ∨ b = it by simpa using hb) with z | z
      · rw [z]
        exact el
      · rw [z]
        exact il
    rw [upd_ne (Nat.ne_of_lt lb)]
    exact (hf b hb).1
theorem enum_done {X : Cx} {pins : List (Addr × Obj)} {σ : L2.St} {H : Hp} {s : Shared} {e it : Addr} {fp : List Addr} {n : Nat} {Pi : Nat → Value → Prop} {Si : Nat → Heap → Prop} {old : Value} {c : Int} {E : Value → Shared → Prop}
    (I : Inv X pins σ H s) (hf : ∀ b ∈ [e, it], FpOk X pins H b) (D : Draws X.prog X.w X.A.in1 it fp n Pi Si) (he : IsEnum s.heap e it c old) (st : Si n s.heap) :
    wpAny (model X.prog X.w) X.A (pyNext (.ref e)) (fun r s1 => r = none ∧ Inv X pins σ H s1) E s := by
  obtain ⟨f0, f1, f2, f3, f4, f5⟩ := hf it (by simp)
  exact wpAny_pyNext_enum_endD D he st fun g gk => ⟨rfl, I.turned (t' := s.toks) (fun b o hb z => gk b o hb z) f0 f1 f3 f4 f5⟩
theorem turn_enumM {p : Bool} {P : Program} {w : World} {K : PySem.W.Frag} {elts : List Expr} {kk : Nat} {tpos : Pos} (a e it : Addr) (ea : e ≠ a) (ia : a ≠ it) :
    Turn P w K (.Tuple elts kk tpos) (ItEM p K a) [e, it] e (fun i h => (∃ old, IsEnum h e it ((i : Nat) : Int) old) ∧ ItK p h it a i ∧ e ≠ it) where
  mem := by simp
  obj := fun i h st b hb => by
    obtain ⟨⟨old, he⟩, hi, _⟩ := st
    rcases (show b = e ∨ b = it by simpa using hb) with z | z
    · rw [z]
      exact ⟨_, he, fun v q => nomatch q⟩
    · rw [z]
      exact hi.obj
  keep := fun i h h' st k => by
    obtain ⟨⟨old, he⟩, hi, ne⟩ := st
    exact ⟨⟨old, k e (by simp) _ he⟩, hi.at' (fun o z => k it (by simp) o z), ne⟩
  item := by
    intro X hP hw hK hc i pins s σ H E I hf st hg
    subst hP hw hK
    obtain ⟨⟨old, he⟩, hi, ne⟩ := st
    obtain ⟨xs, x, qx, ex⟩ := hg
    obtain ⟨us, rx, kx, _⟩ := sqk_is I qx
    obtain ⟨u, eu, ru⟩ := rx.get ex
    have lu : i < us.toArray.size := by simpa using (List.getElem?_eq_some_iff.mp eu).1
    have hh : X.A.in1.handled = none := I.ok.hd hc
    have key : ∀ v, us.toArray[i]? = some v → L2.RelV x v := fun v pv => by
      have t1 : us.toArray[i]? = some u := by simpa using eu
      have t2 : u = v := Option.some.inj (t1.symm.trans pv)
      exact t2 ▸ ru
    refine thn (enum_item (elts := elts) (kk := kk) (tpos := tpos) (E := E) I hf (drawsK p hh it a ia us.toArray) he ⟨hi, kx⟩ lu ne (by simp [ne, ea]) x key) fun r s1 hr => ?_
    obtain ⟨v, er, hv⟩ := hr
    refine ⟨v, er, thn hv fun _ s2 z => ?_⟩
    obtain ⟨T, eT, nT, I2, ie, si, fr⟩ := z
    subst eT
    exact ⟨.ref T, _, I2, rfl, ⟨T, x, rfl, nT, rfl, fun l hl => by rw [sqk_inj I hl qx]; exact ex⟩, ⟨ie, si.1, ne⟩, fr⟩
  done := by
    intro X hP hw hK hc i pins s σ H E I hf st hg
    subst hP hw hK
    obtain ⟨⟨old, he⟩, hi, ne⟩ := st
    obtain ⟨xs, qx, el⟩ := hg
    obtain ⟨us, rx, kx, _⟩ := sqk_is I qx
    have lx := rx.length
    have hh : X.A.in1.handled = none := I.ok.hd hc
    have hn : us.toArray.size = i := by
      rw [List.size_toArray]
      omega
    exact enum_done I hf (drawsK p hh it a ia us.toArray) he (by rw [hn]; exact ⟨hi, kx⟩)
  self := fun A i s Q E st h => by
    obtain ⟨⟨_, he⟩, _⟩ := st
    exact wpAny_pyIter_enum he h
def iEnumM (K : PySem.W.Frag) (ta : TA) : TI := fun σ H R => ta σ H fun vs H1 => ∃ p a xs, vs = [.ref a] ∧ SqK p K H1 a xs ∧ R (ItEM p K a) H1
theorem pi_enumM {X : Cx} {e : Expr} {ta : TA} {p pos tpos : Pos} {elts : List Expr} {kk : Nat} (hg : Gl X "enumerate") (hm : X.mg "enumerate" = none) (ha : PA X [e] ta) (hs : starEach [e] X.env = [(false, eval e X.env)] := by rfl) :
    PI X (.Tuple elts kk tpos) (.Call (.Name "enumerate" p) [e] [] pos) (iEnumM X.K ta) := by
  constructor
  intro pins s σ H R I h
  refine Call_ (ld_blt I hg hm PyProof.Rows.boot_enumerate (PyProof.Rows.callWith_type1 (thn (ha.run pos pins s σ H _ I h) fun us s1 ⟨vs, H1, I1, r1, q1⟩ => ?_) hs rfl))
  obtain ⟨k1, a, xs, ex, qx, q⟩ := q1
  subst ex
  cases r1 with
  | cons r rr =>
    cases rr
    cases r
    obtain ⟨i1, _, p1, lt1⟩ := sqk_is I1 qx
    obtain ⟨o1, G1, B1, g1, w1⟩ := begK p1
    refine enum_begins1 B1 g1 fun h' he e1 hk => wpAny_pyIter_enum he ?_
    have I2 : Inv X pins σ H1 { s1 with heap := h' } := I1.kept (t' := s1.toks) hk
    refine ⟨s1.heap.objs.size + 1, [s1.heap.objs.size + 1, s1.heap.objs.size], _, _, H1, rfl, I2, turn_enumM a (s1.heap.objs.size + 1) s1.heap.objs.size (Nat.ne_of_gt (Nat.lt_succ_of_lt lt1)) (Nat.ne_of_lt lt1), ⟨⟨.none, he⟩, w1 _ _ e1, Nat.succ_ne_self _⟩, fun b hb => ?_, q⟩
    have lb : s1.heap.objs.size ≤ b := by
      rcases (show b = s1.heap.objs.size + 1 ∨ b = s1.heap.objs.size by simpa using hb) with z | z
      · rw [z]
        exact Nat.le_add_right _ _
      · rw [z]
        exact Nat.le_refl _
    exact I1.fpOk lb (I1.hok.fresh lb)
/-! over a text -/
theorem drawsS {prog : Program} {w : World} {A : Around} (hh : A.handled = none) (it : Addr) (z : Str) (t : Tok) :
    Draws prog w A it [it] z.cps.size (fun i v => ∃ c u, z.cps[i]? = some c ∧ v = .str ⟨#[c]⟩ u) (fun i h => h.IsStrIter it (strIterType z) z t i) := by
  unfold strIterType
  cases z.cps.all (· < 128)
  · exact Draws.strWide hh it z t
  · exact Draws.strAscii hh it z t
theorem turn_enumS {P : Program} {w : World} {K : PySem.W.Frag} {elts : List Expr} {kk : Nat} {tpos : Pos} (z : Str) (t : Tok) (e it : Addr) :
    Turn P w K (.Tuple elts kk tpos) (ItES z) [e, it] e (fun i h => (∃ old, IsEnum h e it ((i : Nat) : Int) old) ∧ h.IsStrIter it (strIterType z) z t i ∧ e ≠ it) where
  mem := by simp
  obj := fun i h st b hb => by
    obtain ⟨⟨old, he⟩, ⟨o, eo, _, d⟩, _⟩ := st
    rcases (show b = e ∨ b = it by simpa using hb) with y | y
    · rw [y]
      exact ⟨_, he, fun v q => nomatch q⟩
    · rw [y]
      exact ⟨o, eo, fun v q => by rw [d] at q; cases q⟩
  keep := fun i h h' st k => by
    obtain ⟨⟨old, he⟩, ⟨o, eo, r⟩, ne⟩ := st
    exact ⟨⟨old, k e (by simp) _ he⟩, ⟨o, k it (by simp) o eo, r⟩, ne⟩
  item := by
    intro X hP hw hK hc i pins s σ H E I hf st hg
    subst hP hw hK
    obtain ⟨⟨old, he⟩, hi, ne⟩ := st
    have lt : i < z.cps.size := hg
    have hh : X.A.in1.handled = none := I.ok.hd hc
    have ec : z.cps[i]? = some z.cps[i] := Array.getElem?_eq_getElem lt
    refine thn (enum_item (elts := elts) (kk := kk) (tpos := tpos) (E := E) I hf (drawsS hh it z t) he hi lt ne (by simp [ne]) (.str ⟨#[z.cps[i]]⟩) (fun v pv => ?_)) fun r s1 hr => ?_
    · obtain ⟨c, u, e1, e2⟩ := pv
      rw [ec] at e1
      cases e1
      subst e2
      exact ⟨u, rfl⟩
    obtain ⟨v, er, hv⟩ := hr
    refine ⟨v, er, thn hv fun _ s2 y => ?_⟩
    obtain ⟨T, eT, nT, I2, ie, si, fr⟩ := y
    subst eT
    exact ⟨.ref T, _, I2, rfl, ⟨T, _, rfl, nT, rfl, ec⟩, ⟨ie, si, ne⟩, fr⟩
  done := by
    intro X hP hw hK hc i pins s σ H E I hf st hg
    subst hP hw hK
    obtain ⟨⟨old, he⟩, hi, ne⟩ := st
    have el : z.cps.size = i := hg
    have hh : X.A.in1.handled = none := I.ok.hd hc
    exact enum_done I hf (drawsS hh it z t) he (by rw [el]; exact hi)
  self := fun A i s Q E st h => by
    obtain ⟨⟨_, he⟩, _⟩ := st
    exact wpAny_pyIter_enum he h
def iEnumS (ta : TA) : TI := fun σ H R => ta σ H fun vs H1 => ∃ z, vs = [.str z] ∧ R (ItES z) H1
theorem pi_enumS {X : Cx} {e : Expr} {ta : TA} {p pos tpos : Pos} {elts : List Expr} {kk : Nat} (hg : Gl X "enumerate") (hm : X.mg "enumerate" = none) (ha : PA X [e] ta) (hs : starEach [e] X.env = [(false, eval e X.env)] := by rfl) :
    PI X (.Tuple elts kk tpos) (.Call (.Name "enumerate" p) [e] [] pos) (iEnumS ta) := by
  constructor
  intro pins s σ H R I h
  refine Call_ (ld_blt I hg hm PyProof.Rows.boot_enumerate (PyProof.Rows.callWith_type1 (thn (ha.run pos pins s σ H _ I h) fun us s1 ⟨vs, H1, I1, r1, q1⟩ => ?_) hs rfl))
  obtain ⟨z, ex, q⟩ := q1
  subst ex
  cases r1 with
  | cons r rr =>
    cases rr
    obtain ⟨t, rfl⟩ := r
    refine enum_begins1 (begins_text z t) trivial fun h' he e1 hk => wpAny_pyIter_enum he ?_
    have I2 : Inv X pins σ H1 { s1 with heap := h' } := I1.kept (t' := s1.toks) hk
    refine ⟨s1.heap.objs.size + 1, [s1.heap.objs.size + 1, s1.heap.objs.size], _, _, H1, rfl, I2, turn_enumS z t (s1.heap.objs.size + 1) s1.heap.objs.size, ⟨⟨.none, he⟩, ⟨_, e1, rfl, rfl⟩, Nat.succ_ne_self _⟩, fun b hb => ?_, q⟩
    have lb : s1.heap.objs.size ≤ b := by
      rcases (show b = s1.heap.objs.size + 1 ∨ b = s1.heap.objs.size by simpa using hb) with y | y
      · rw [y]
        exact Nat.le_add_right _ _
      · rw [y]
        exact Nat.le_refl _
    exact I1.fpOk lb (I1.hok.fresh lb)
end Z
set_option Elab.async false
set_option linter.all false
set_option maxRecDepth 100000
set_option maxHeartbeats 4000000
namespace Z
open PySem PySem.Spec PyProof.Rows L2
/-! ### walks over a list (true) or a tuple (false) -/
inductive SeqOr (A B : Prop) : Prop
  | l : A → SeqOr A B
  | r : B → SeqOr A B
def iSeq (K : PySem.W.Frag) (tl : TE) : TI := fun σ H R => SeqOr (iList K tl σ H R) (iTup K tl σ H R)
theorem pi_sq {X : Cx} {tg l : Expr} {tl : TE} (he : PE X l tl) : PI X tg l (iSeq X.K tl) := by
  constructor
  intro pins s σ H R I h
  rcases h with h | h
  · exact (pi_list he).run pins s σ H R I h
  · exact (pi_tup he).run pins s σ H R I h
theorem pi_sq_K {X : Cx} {K : PySem.W.Frag} {tg l : Expr} {tl : TE} (h : X.K = K) (he : PE X l tl) : PI X tg l (iSeq K tl) := by
  subst h
  exact pi_sq he
theorem pi_list_K {X : Cx} {K : PySem.W.Frag} {tg l : Expr} {tl : TE} (h : X.K = K) (he : PE X l tl) : PI X tg l (iList K tl) := by
  subst h
  exact pi_list he
theorem pi_tup_K {X : Cx} {K : PySem.W.Frag} {tg l : Expr} {tl : TE} (h : X.K = K) (he : PE X l tl) : PI X tg l (iTup K tl) := by
  subst h
  exact pi_tup he
def ItQ (b : Bool) (K : PySem.W.Frag) (a : Addr) : It := match b with
  | true => Itl K a
  | false => Itt K a
theorem itq_go {b : Bool} {K : PySem.W.Frag} {H : Hp} {a : Addr} {xs : List V} {i : Nat} {x : V} (h : SqK b K H a xs) (e : xs[i]? = some x) : (ItQ b K a).go i H := by
  cases b <;> exact ⟨_, _, h, e⟩
theorem itq_stop {b : Bool} {K : PySem.W.Frag} {H : Hp} {a : Addr} {xs : List V} {i : Nat} (h : SqK b K H a xs) (e : xs.length ≤ i) : (ItQ b K a).stop i H := by
  cases b <;> exact ⟨_, h, e⟩
theorem itq_yld {b : Bool} {K : PySem.W.Frag} {H H' : Hp} {a : Addr} {xs : List V} {i : Nat} {x : V} (h : SqK b K H a xs) (y : (ItQ b K a).yld i H x H') : H' = H ∧ xs[i]? = some x := by
  cases b <;> exact ⟨y.1, y.2 _ h⟩
theorem rd_sq {b : Bool} {K : PySem.W.Frag} {σ : L2.St} {H : Hp} {i : Nat} {a : Addr} {xs : List V} {R : It → Hp → Prop} (e : σ[i]? = some (some (.ref a))) (h : SqK b K H a xs) (r : R (ItQ b K a) H) : iSeq K (tVar i) σ H R := by
  cases b
  · exact .r ⟨_, e, a, rfl, ⟨xs, h⟩, r⟩
  · exact .l ⟨_, e, a, rfl, ⟨xs, h⟩, r⟩
theorem lc_sq {b : Bool} {K : PySem.W.Frag} {a D : Addr} {xs : List Int} {H0 : Hp} {i : Nat} {te : TE} {vs : List Nat} {σ : L2.St} {Qd : Hp → Prop} (hS : SqK b K H0 a (xs.map V.int)) (g : Int → Int) (hn : xs.length ≤ 1000000) (nD : H0 D = none) (hw : ∀ x : Int, wipe ((wipe σ vs).set i (some (.int x))) vs = wipe σ vs)
    (ht : ∀ x H1 (Q : VK), x ∈ xs → Same H0 H1 → (∀ H2, Same H1 H2 → Q (.int (g x)) H2) → te ((wipe σ vs).set i (some (.int x))) H1 Q)
    (hd : ∀ H1, Same H0 H1 → H1 D = some (.lst ((xs.map g).map V.int)) → Qd H1) : lcW (ItQ b K a) (gName i) tYes te vs σ D Qd H0 := by
  have ex : ∀ k, k < xs.length → (xs.map V.int)[k]? = some (.int (xs.getD k 0)) := fun k hk => by
    rw [List.getElem?_map, List.getD_eq_getElem?_getD, List.getElem?_eq_getElem hk]
    rfl
  refine lc_ofs (K := K) (n := xs.length) (fun k => g (xs.getD k 0)) (fun k => .int (xs.getD k 0)) hn nD (fun k H1 hk s => itq_go (Z.Same.sqK s hS) (ex k hk)) (fun H1 s => itq_stop (Z.Same.sqK s hS) (by rw [List.length_map]; exact Nat.le_refl _)) (fun k H1 x H2 hk s y => ?_) (fun k => hw _) (fun k H1 Q hk s q => ht _ H1 Q ?_ s q) (fun H1 s e => hd H1 s ?_)
  · obtain ⟨e1, e2⟩ := itq_yld (Z.Same.sqK s hS) y
    exact ⟨e1, Option.some.inj (e2.symm.trans (ex k hk))⟩
  · rw [List.getD_eq_getElem?_getD, List.getElem?_eq_getElem hk]
    exact List.getElem_mem hk
  · rw [e]
    congr 2
    congr 1
    apply List.ext_getElem
    · rw [List.length_map, List.length_map, List.length_range]
    · intro k h1 h2
      rw [List.length_map] at h2
      rw [List.getElem_map, List.getElem_map, List.getElem_range, List.getD_eq_getElem?_getD, List.getElem?_eq_getElem h2]
      rfl
/-- for x in xs, any values -/
theorem for_sq {b : Bool} {K : PySem.W.Frag} {a : Addr} {xs : List V} {H0 H : Hp} {i : Nat} {tb : TS} {D : Ends} {σ : L2.St} (hS : SqK b K H0 a xs) (Pv : Nat → L2.St → Hp → Prop) (h0 : Pv 0 σ H) (hq : ∀ k σ H1, Pv k σ H1 → Same H0 H1)
    (hs : ∀ (k : Nat) (x : V) (σ : L2.St) (H1 : Hp), xs[k]? = some x → Pv k σ H1 → tb { D with nx := Pv (k + 1), ct := Pv (k + 1), bk := D.nx } (σ.set i (some x)) H1)
    (hd : ∀ σ H1, Pv xs.length σ H1 → D.nx σ H1) : forW (ItQ b K a) (gName i) tb D σ H := by
  refine for_gen (n := xs.length) Pv h0 (fun k σ H1 hk p => itq_go (Z.Same.sqK (hq k σ H1 p) hS) (List.getElem?_eq_getElem hk)) (fun σ H1 p => itq_stop (Z.Same.sqK (hq _ σ H1 p) hS) (Nat.le_refl _)) ?_ hd
  intro k σ H1 x H2 hk p y
  obtain ⟨rfl, e⟩ := itq_yld (Z.Same.sqK (hq k σ H1 p) hS) y
  exact hs k x σ _ e p
/-- for i, x in enumerate(xs) -/
theorem for_enum {b : Bool} {K : PySem.W.Frag} {a : Addr} {xs : List V} {H0 H : Hp} {i j : Nat} {tb : TS} {D : Ends} {σ : L2.St} (hS : SqK b K H0 a xs) (Pv : Nat → L2.St → Hp → Prop) (h0 : Pv 0 σ H) (hq : ∀ k σ H1, Pv k σ H1 → Same H0 H1)
    (hs : ∀ (k : Nat) (x : V) (σ : L2.St) (H1 H2 : Hp), xs[k]? = some x → Pv k σ H1 → Same H1 H2 → tb { D with nx := Pv (k + 1), ct := Pv (k + 1), bk := D.nx } ((σ.set i (some (.int (k : Nat)))).set j (some x)) H2)
    (hd : ∀ σ H1, Pv xs.length σ H1 → D.nx σ H1) : forW (ItEM b K a) (gTup K 2 (gCons (gName i) (gCons (gName j) gNil))) tb D σ H := by
  refine for_gen (n := xs.length) Pv h0 (fun k σ H1 hk p => ⟨xs, _, Z.Same.sqK (hq k σ H1 p) hS, List.getElem?_eq_getElem hk⟩) (fun σ H1 p => ⟨xs, Z.Same.sqK (hq _ σ H1 p) hS, rfl⟩) ?_ hd
  intro k σ H1 x H2 hk p y
  obtain ⟨T, z, rfl, nT, rfl, e⟩ := y
  exact ⟨T, _, rfl, SqT.of upd_same, rfl, _, _, rfl, _, _, rfl, rfl, hs k z σ H1 _ (e _ (Z.Same.sqK (hq k σ H1 p) hS)) p (same_new nT)⟩
/-- for i, c in enumerate(text) -/
theorem for_enumS {K : PySem.W.Frag} {z : Str} {H : Hp} {i j : Nat} {tb : TS} {D : Ends} {σ : L2.St} (Pv : Nat → L2.St → Hp → Prop) (h0 : Pv 0 σ H)
    (hs : ∀ (k : Nat) (c : Nat) (σ : L2.St) (H1 H2 : Hp), z.cps[k]? = some c → Pv k σ H1 → Same H1 H2 → tb { D with nx := Pv (k + 1), ct := Pv (k + 1), bk := D.nx } ((σ.set i (some (.int (k : Nat)))).set j (some (.str ⟨#[c]⟩))) H2)
    (hd : ∀ σ H1, Pv z.cps.size σ H1 → D.nx σ H1) : forW (ItES z) (gTup K 2 (gCons (gName i) (gCons (gName j) gNil))) tb D σ H := by
  refine for_gen (n := z.cps.size) Pv h0 (fun k σ H1 hk p => hk) (fun σ H1 p => rfl) ?_ hd
  intro k σ H1 x H2 hk p y
  obtain ⟨T, c, rfl, nT, rfl, e⟩ := y
  exact ⟨T, _, rfl, SqT.of upd_same, rfl, _, _, rfl, _, _, rfl, rfl, hs k c σ H1 _ e p (same_new nT)⟩
/-! ### built-ins within a comprehension's block -/
theorem cr_min_K {X : Cx} {K : PySem.W.Frag} (h : X.K = K) (hc : X.calm = true) : CallR X (.builtin "min") (rMin K) := by
  subst h
  exact cr_min hc
theorem cr_max_K {X : Cx} {K : PySem.W.Frag} (h : X.K = K) (hc : X.calm = true) : CallR X (.builtin "max") (rMax K) := by
  subst h
  exact cr_max hc
theorem cr_sum_K {X : Cx} {K : PySem.W.Frag} (h : X.K = K) (hc : X.calm = true) : CallR X (.builtin "sum") (rSum K) := by
  subst h
  exact cr_sum hc
theorem cr_all_K {X : Cx} {K : PySem.W.Frag} (h : X.K = K) (hc : X.calm = true) : CallR X (.builtin "all") (rAll K) := by
  subst h
  exact cr_all hc
theorem cr_any_K {X : Cx} {K : PySem.W.Frag} (h : X.K = K) (hc : X.calm = true) : CallR X (.builtin "any") (rAny K) := by
  subst h
  exact cr_any hc
/-! ### comprehensions with a test, any values -/
def fltL (kb : Nat → Bool) (g : Nat → V) (n : Nat) : List V := ((List.range n).filter kb).map g
theorem flt_succ (kb : Nat → Bool) (g : Nat → V) (n : Nat) : fltL kb g (n + 1) = fltL kb g n ++ (if kb n then [g n] else []) := by
  unfold fltL
  rw [List.range_succ, List.filter_append, List.map_append]
  cases e : kb n <;> simp [e]
theorem flt_len (kb : Nat → Bool) (g : Nat → V) (n : Nat) : (fltL kb g n).length ≤ n := by
  unfold fltL
  rw [List.length_map]
  exact Nat.le_trans (List.length_filter_le ..) (by rw [List.length_range]; exact Nat.le_refl _)
theorem lc_flt {J : It} {D : Addr} {n : Nat} {H0 : Hp} {i : Nat} {tt : TT} {te : TE} {vs : List Nat} {σ : L2.St} {Qd : Hp → Prop} (xv : Nat → V) (kb : Nat → Bool) (g : Nat → V) (hn : n ≤ 1000000) (nD : H0 D = none)
    (hgo : ∀ k H1, k < n → Same H0 H1 → J.go k H1) (hst : ∀ H1, Same H0 H1 → J.stop n H1) (hy : ∀ k H1 x H2, k < n → Same H0 H1 → J.yld k H1 x H2 → Same H1 H2 ∧ x = xv k)
    (hw : ∀ k, wipe ((wipe σ vs).set i (some (xv k))) vs = wipe σ vs)
    (hb : ∀ k H1 (Q : Bool → Hp → Prop), k < n → Same H0 H1 → (∀ H2, Same H1 H2 → Q (kb k) H2) → tt ((wipe σ vs).set i (some (xv k))) H1 Q)
    (ht : ∀ k H1 (Q : VK), k < n → kb k = true → Same H0 H1 → (∀ H2, Same H1 H2 → Q (g k) H2) → te ((wipe σ vs).set i (some (xv k))) H1 Q)
    (hd : ∀ H1, Same H0 H1 → H1 D = some (.lst (fltL kb g n)) → Qd H1) : lcW J (gName i) tt te vs σ D Qd H0 := by
  refine lc_gen (n := n) (fun k H1 => Same H0 H1 ∧ H1 D = some (.lst (fltL kb g k))) ⟨same_new nD, upd_same⟩ (fun k H1 hk p => hgo k H1 hk p.1) (fun H1 p => hst H1 p.1) ?_ (fun H1 p => hd H1 p.1 p.2)
  rintro k H1 x H2 hk ⟨s, e⟩ y
  obtain ⟨s2, rfl⟩ := hy k H1 x H2 hk s y
  refine ⟨hw k, ?_⟩
  refine hb k _ _ hk (s.trans s2) (fun H3 s3 => ?_)
  cases eb : kb k
  · rw [if_neg (by decide)]
    refine ⟨s.trans (s2.trans s3), ?_⟩
    rw [flt_succ, eb]
    simpa using s3 _ _ (s2 _ _ e)
  · rw [if_pos rfl]
    refine ht k _ _ hk eb (s.trans (s2.trans s3)) (fun H4 s4 => ⟨_, s4 _ _ (s3 _ _ (s2 _ _ e)), ?_, Z.Same.mut (s.trans (s2.trans (s3.trans s4))) nD, ?_⟩)
    · exact Nat.lt_of_le_of_lt (flt_len kb g k) (Nat.lt_of_lt_of_le hk (Nat.le_trans hn (by decide)))
    · rw [upd_same, flt_succ, eb]
      rfl
end Z
set_option Elab.async false
set_option linter.all false
set_option maxRecDepth 100000
set_option maxHeartbeats 4000000
namespace Z
open PySem PySem.Spec PyProof PyProof.Rows L2 F
/-! ### len(x), x an instance of a class with __len__ -/
structure LenO (P : Program) (w : World) (K : PySem.W.Frag) (mg : Str → Option Value) (base : Heap) (k : Nat) (C : Addr) (sp : Sp) : Prop where
  ex : ∃ (f : Addr) (fd : FuncData) (ps : List Str), FnOk P w K mg base CX0 k f fd ps sp ∧ PySem.W.findIn K (.ref C) "__len__" = some (some (.ref f)) ∧ PySem.W.isFn K (.ref f) = true ∧ Binds K fd ps []
def rLenO (C : Addr) (sp : Sp) : List V → Hp → VK → Prop := fun xs H Q => ∃ a dx fs, xs = [.ref a] ∧ H a = some (.ins C dx fs) ∧ sp [.ref a] H (fun v H' => ∃ n : Int, v = .int n ∧ 0 ≤ n ∧ n < 2 ^ 63 ∧ Q (.int n) H') E0
theorem call_lenO {X : Cx} {k j : Nat} {C : Addr} {sp : Sp} (c : LenO X.prog X.w X.K X.mg X.base k C sp) (hr : Room j X.A) (hk : k + 1 ≤ j) : CallR X (.builtin "len") (rLenO C sp) := by
  intro pins s σ H xs us Q I r h
  obtain ⟨f, fd, ps, F, hs, hf, hb⟩ := c.ex
  obtain ⟨a, dx, fs, rfl, ha, q⟩ := h
  obtain ⟨u, rfl, ru⟩ := vals1 r
  obtain rfl : u = Value.ref a := ru
  obtain ⟨mA, J, _⟩ := ins_get I.hok ha
  obtain ⟨od, J, _⟩ := J.look
  refine Calls.call_function_entry kind_len plain_len entry_len (args_len1 _) ?_
  unfold Builtin.«len»
  refine wpAny_bind (m := oneArg "len" _) (wpAny_pure ?_)
  have e0 : Env0 X.prog X.w X.K X.mg X.base X.A.in1 X.stack s H := by
    have e := I.env0
    exact ⟨e.frames, e.mod, e.bs, e.bsz, e.funs, e.frf, e.hok, e.bare⟩
  refine wpAny_bind (m := callSpecial? (.ref a) (PySem.Str.ofString "__len__")) (PySem.W.special_fn (name := "__len__") (args := []) I.kIn J hs (beq_iff_eq.mp hf) ?_)
  have hl := F.len _ _ _ _ q
  refine wpAny_call (codeAny_mono (F.run X.A.in1 X.stack s H ⟨[.ref a], []⟩ [.ref a] [.ref a] _ E0 (hr.mono hk).in1 e0 (by
    have := hb s [.ref a] I.kIn (by simpa using hl)
    simpa using this) (.cons rfl .nil) q) fun r s' hq => ?_)
  cases r with
  | error e => exact pass0 pins σ H s e s' I hq
  | ok fl =>
    cases fl with
    | next => exact False.elim hq
    | brk => exact False.elim hq
    | cont => exact False.elim hq
    | ret u =>
      obtain ⟨v, H1, I1, rv, n, rfl, h0, h1, q1⟩ := I.after hq
      obtain ⟨t, rfl⟩ := rv
      refine wpAny_bind (wpAny_holding (wpAny_pure ?_))
      refine wpAny_bind (wpAny_letGo ?_)
      show wpAny _ _ (if n < 0 then _ else _) _ _ _
      rw [if_neg (by omega)]
      show wpAny _ _ (if n ≥ 2 ^ 63 then _ else _) _ _ _
      rw [if_neg (by omega)]
      exact wpAny_bind (wpAny_mkInt (wpAny_pure ⟨_, rfl, .int n, H1, I1.tok _, ⟨_, rfl⟩, q1⟩))
end Z
set_option Elab.async false
set_option linter.all false
set_option maxRecDepth 100000
set_option maxHeartbeats 4000000
namespace L2N
open PySem PySem.Spec PyProof.Rows L2
/-! ### several clauses `except c as n` -/
/-- a clause: its class, the slot of its name, its suite's reading -/
abbrev Cl := Value × Nat × (Addr → Value → Option Addr → TS)
def wManyA (K : PySem.W.Frag) (Wout : WX) (D : Ends) : List Cl → WX
  | [] => Wout
  | h :: r => wAs K h.1 h.2.1 h.2.2 (wManyA K Wout D r) D
inductive HdsA (X : Cx) : List ExceptHandler → List Cl → Prop
  | nil : HdsA X [] []
  | cons {x n : Str} {c : Value} {i : Nat} {ts : Addr → Value → Option Addr → TS} {b₀ : Stmt} {suite : List Stmt} {np pos' : Pos} {hds : List ExceptHandler} {l : List Cl} (hi : X.N[i]? = some n) (hln : X.env.kindOf n = some .local) (hc : Names X x c)
      (hsu : ∀ (a : Addr) (oe : Obj) (cls : Value) (d : Option Addr) (pn : List (Addr × Obj)), Zn cls d oe → (∃ vs, oe.data = .fields vs) → PSs (X.suite a ((a, oe) :: pn)) (b₀ :: suite) (ts a cls d)) (r : HdsA X hds l) :
      HdsA X (.ExceptHandler (some (.Name x np)) (some n) (b₀ :: suite) pos' :: hds) ((c, i, ts) :: l)
section
variable {X : Cx} {body : List Stmt} {h₀ : ExceptHandler} {hds : List ExceptHandler} {l : List Cl} {pos : Pos} {tb : WX → TS} {Wout : WX}
theorem ps_try_manyA (hs : X.stack = X.env :: X.outer) (hf : X.env.frame = some X.env.locals) (hN : X.N.Nodup) (tk : Takes X Wout)
    (hb : ∀ (W : WX) (pn : List (Addr × Obj)) (xe : Value → Shared → Prop), Takes (X.tr pn xe) W → PassesOwn (model X.prog X.w) X.A X.env xe → PSs (X.tr pn xe) body (tb W))
    (hh : HdsA X (h₀ :: hds) l) : PS X (.Try body (h₀ :: hds) [] [] pos) (fun D σ H => tb (wManyA X.K Wout D l) D σ H) := by
  refine ⟨fun pins s σ H D I h => ?_⟩
  have ok := I.ok
  have hfr : X.A.frames = some (X.env :: X.outer) := by rw [ok.frames, hs]
  have calm : ∀ (f : Flow) (s1 : Shared) , SP (X.tr (X.pn ++ pins) (fun e s₁ => wpAny (model X.prog X.w) X.A (noteFrame e X.env) (fun _ s₂ => wpAny (model X.prog X.w) X.A (setFlight e none) (fun _ s₃ =>
      wpAny (model X.prog X.w) X.A (handleBy e X.env (h₀ :: hds)) (SP X pins D) X.xe s₃) X.xe s₂) X.xe s₁)) [] D f s1 → SP X pins D f s1 := fun f s1 hsp => by
    cases f with
    | next =>
      obtain ⟨σ', H', J', q⟩ := hsp
      exact ⟨σ', H', J'.ofTry ok, q⟩
    | brk =>
      obtain ⟨σ', H', J', q⟩ := hsp
      exact ⟨σ', H', J'.ofTry ok, q⟩
    | cont =>
      obtain ⟨σ', H', J', q⟩ := hsp
      exact ⟨σ', H', J'.ofTry ok, q⟩
    | ret u =>
      obtain ⟨v, σ', H', J', r, q⟩ := hsp
      exact ⟨v, σ', H', J'.ofTry ok, r, q⟩
  refine wpAny_Try_except ?_
  refine wpAny_mono ((hb (wManyA X.K Wout D l) (X.pn ++ pins) (fun e s₁ => wpAny (model X.prog X.w) X.A (noteFrame e X.env) (fun _ s₂ => wpAny (model X.prog X.w) X.A (setFlight e none) (fun _ s₃ =>
    wpAny (model X.prog X.w) X.A (handleBy e X.env (h₀ :: hds)) (SP X pins D) X.xe s₃) X.xe s₂) X.xe s₁) (fun u s' xx => ?_) PassesOwn.looking).run [] s σ H D (I.toTry _) h) (fun f s1 hsp => ?_) (fun e s1 he => he)
  · obtain ⟨a, B, sI, pins', σ', H', cls, d, rfl, J', nb, up, sky, na, os, ag, w⟩ := xx
    have J : Inv X pins σ' H' sI := J'.ofTry ok
    have sky' : Sky B (X.env :: X.outer) a (Zn cls d) X.env.locals s'.heap := by rw [← hs]; exact sky
    show wpAny (model X.prog X.w) X.A (noteFrame (.ref a) X.env) _ _ _
    refine Sky.land Zn.steady hfr hf sky' fun h3 fl3 up3 => ?_
    have J3 : Inv X pins σ' H' { s' with heap := h3 } := J.landed nb fl3.1 (up.trans up3) os ag
    obtain ⟨oe3, vs3, he3, hz3, hd3⟩ := fl3.there
    have nfr : a ∉ frs (X.env :: X.outer) := fun hm => by
      obtain ⟨_, o', e', hnf⟩ := fl3.2.2.1.mem hm
      rw [he3] at e'
      cases e'
      exact hnf _ hd3
    have nL : a ≠ X.env.locals := fun z => nfr (List.mem_filterMap.mpr ⟨X.env, List.mem_cons_self, by rw [hf, z]⟩)
    have nF : a ∉ X.fs := fun hm => by
      obtain ⟨e, he, q⟩ := List.mem_filterMap.mp hm
      exact nfr (List.mem_filterMap.mpr ⟨e, List.mem_cons_of_mem _ he, q⟩)
    have S3 := J3.suite he3 hd3 na nL nF
    have go : ∀ {hds' : List ExceptHandler} {l' : List Cl}, HdsA X hds' l' → wManyA X.K Wout D l' cls d σ' H' →
        wpAny (model X.prog X.w) X.A (handleBy (.ref a) X.env hds') (SP X pins D) X.xe { s' with heap := h3 } := by
      intro hds' l' hk
      induction hk with
      | nil =>
        intro w
        refine wpAny_handleBy_nil ?_
        obtain ⟨k1, k2, k3, oe, vs, T, oT, ts', he, hz, hd, h1, hr⟩ := id fl3
        unfold PySem.passOn
        refine wpAny_bind (wpAny_field he hd h1 ?_)
        rw [if_neg (show ¬ ((Value.ref T == Value.none) = true) from by simp)]
        have fin : wpAny (model X.prog X.w) X.A (setFlight (.ref a) X.env.frame) (fun _ s4 => wpAny (model X.prog X.w) X.A (throw (.ref a) : Sem Flow) (SP X pins D) X.xe s4) X.xe { s' with heap := h3 } := by
          rw [hf]
          refine HandSPX.setFlight_upZ fl3 fun h4 hh4 up4 => wpAny_throw (tk _ _ ?_)
          exact ⟨a, B, sI, pins, σ', H', cls, d, rfl, J, nb, (up.trans up3).trans up4, .inr (.inr (by rw [hs]; exact hh4)), na, os, ag, w⟩
        first
          | exact wpAny_bind (wpAny_pure (wpAny_bind fin))
          | exact wpAny_bind fin
      | @cons x n c i ts b₀ suite np pos' hds2 l2 hi hln hc hsu r ih =>
        intro w
        obtain ⟨b, hb1, hyes, hno⟩ := w
        have hloc : Loc X.env.scope n := .inl hln
        refine wpAny_handleBy_cons (codeAny_handlers_test ?_) (by intro q; cases q)
        have LT : PySem.W.Looks (model X.prog X.w) h3 (typeOf (.ref a)) cls := fun A Q E s k q => wpAny_typeOf_ref (k _ _ he3) (by rw [hz3.1]; exact q)
        have LM := PySem.W.exm_one (M := model X.prog X.w) (J3.kIn) LT hb1
        have test : ∀ {Q : Value → Shared → Prop} {E : Value → Shared → Prop}, Q c { s' with heap := h3 } → wpAny (model X.prog X.w) (X.A.mark (some (.ref a))) (eval (.Name x np) X.env) Q E { s' with heap := h3 } := fun {Q E} q => by
          obtain ⟨hg, hdbg, hm | ⟨hm, hv, hnn⟩⟩ := hc
          · exact ld_glob (X := X.suite a ((a, oe3) :: (X.pn ++ pins))) S3 hg hm q hdbg
          · exact ld_blt (X := X.suite a ((a, oe3) :: (X.pn ++ pins))) S3 hg hm hv q hnn hdbg
        refine test (LM.here ?_)
        cases b with
        | true =>
          refine codeAny_handlers_suite_as ?_
          refine HandSPX.lands_againZ fl3 fun h4 fl4 up4 => ?_
          have J4 : Inv X pins σ' H' { s' with heap := h4 } := J.landed nb fl4.1 ((up.trans up3).trans up4) os ag
          obtain ⟨oe4, vs4, he4, hz4, hd4⟩ := fl4.there
          have S4 := J4.suite he4 hd4 na nL nF
          refine store_ok (X := X.suite a ((a, oe4) :: (X.pn ++ pins))) (v := .ref a) S4 hN hi hloc rfl (fun s5 S5 => ?_) (.inr hln)
          refine wpAny_mono ((hsu a oe4 cls d (X.pn ++ pins) hz4 ⟨_, hd4⟩).run [] s5 _ H' _ S5 (hyes rfl a na)) (fun f s6 hsp => ?_) (fun _ _ z => False.elim z)
          have end_ : ∀ {σ6 : L2.St} {H6 : Hp} {Q : Shared → Prop}, Inv (X.suite a ((a, oe4) :: (X.pn ++ pins))) [] σ6 H6 s6 → (∀ s7, Inv X pins (σ6.set i none) H6 s7 → Q s7) →
              wpAny (model X.prog X.w) X.A (do bindName X.env n .none; unbindBehindTheSuite X.env n pos') (fun _ s7 => Q s7) X.xe s6 := fun {σ6 H6 Q} S6 hq => gone_ok (S6.unsuite ok) hN hi hln hq
          cases f with
          | next =>
            obtain ⟨σ6, H6, S6, q6⟩ := hsp
            exact end_ S6 fun s7 J7 => ⟨_, _, J7, q6⟩
          | brk =>
            obtain ⟨σ6, H6, S6, q6⟩ := hsp
            exact end_ S6 fun s7 J7 => ⟨_, _, J7, q6⟩
          | cont =>
            obtain ⟨σ6, H6, S6, q6⟩ := hsp
            exact end_ S6 fun s7 J7 => ⟨_, _, J7, q6⟩
          | ret u =>
            obtain ⟨v6, σ6, H6, S6, r6, q6⟩ := hsp
            exact end_ S6 fun s7 J7 => ⟨_, _, _, J7, r6, q6⟩
        | false =>
          show wpAny _ X.A (handleBy (.ref a) X.env hds2) _ _ _
          exact ih (hno rfl)
    exact go hh w
  · cases f with
    | next => exact wpAny_execs_nil (calm .next s1 hsp)
    | brk => exact calm .brk s1 hsp
    | cont => exact calm .cont s1 hsp
    | ret u => exact calm (.ret u) s1 hsp
end
end L2N
set_option Elab.async false
set_option linter.all false
set_option maxRecDepth 100000
set_option maxHeartbeats 4000000
namespace Z
open PySem PySem.Spec PyProof.Rows L2
/-! ### f(e, .., k = v), what is raised at the slots -/
structure CalKX (P : Program) (w : World) (K : PySem.W.Frag) (mg : Str → Option Value) (base : Heap) (k : Nat) (x : Str) (n : Nat) (ks : List Str) (gV : List V → List V → List V) (sp : Sp) : Prop where
  ex : ∃ (f : Addr) (fd : FuncData) (ps : List Str) (g : List Value → List Value → List Value), FnOk P w K mg base (L2N.CX P w) k f fd ps sp ∧ mg x = some (.ref f) ∧ PySem.W.keepIn K (.ref f) = true ∧ KBn K fd ps n ks g gV
def tClKW (n m : Nat) (sp : Sp) (gV : List V → List V → List V) (E : L2.St → XK) (t tk : TA) : TE := fun σ H Q => t σ H fun vs H1 => tk σ H1 fun zs H2 => vs.length = n ∧ zs.length = m ∧ sp (gV vs zs) H2 Q (E σ)
section
variable {X : Cx} {k j n : Nat} {x : Str} {sp : Sp} {ks : List Str} {gV : List V → List V → List V} {p pos : Pos} {e : Expr} {es : List Expr} {kws : List Keyword} {t tk : TA} {E : L2.St → XK}
theorem pe_clKE (c : CalKX X.prog X.w X.K X.mg X.base k x n ks gV sp) (hx : ∀ σ, PassesAt (L2N.CX X.prog X.w) X σ (E σ)) (hr : Room j X.A) (hk : k ≤ j) (hg : Gl X x) (ha : PA X (e :: es) t) (hkw : PK X kws tk)
    (hall : (backToKw pos (keywordEach kws X.env)).all (·.1.isSome) = true := by rfl) (hks : (backToKw pos (keywordEach kws X.env)).filterMap (·.1) = ks := by rfl) (hdb : (x == ("__debug__" : Str)) = false := by decide)
    (he : starEach (e :: es) X.env = (false, eval e X.env) :: starEach es X.env := by rfl) (hpl : ((backTo pos (starEach (e :: es) X.env)).any (·.1) || (backToKw pos (keywordEach kws X.env)).any (·.1.isNone)) = false := by rfl) :
    PE X (.Call (.Name x p) (e :: es) kws pos) (tClKW n ks.length sp gV E t tk) := by
  obtain ⟨f, fd, ps, g, F, hm, kp, hb⟩ := c.ex
  refine ⟨fun pins s σ H Q I h => ?_⟩
  refine wpAny_Call_Name_kw (ld_glob I hg hm ?_ hdb)
  refine PySem.W.callWith_KW (h₀ := X.base) I.ok.mod.kin kp hall (thn (ha.run pos pins s σ H _ I h) fun us s1 ⟨vs, H1, I1, r, q⟩ => ?_) hpl he
  refine thn (hkw.run pos pins s1 σ H1 _ I1 q) fun ws s2 ⟨zs, H2, I2, rz, l1, l2, q2⟩ => ⟨I2.kIn, ?_⟩
  rw [hks]
  have r2 := hb.rel r rz
  refine wpAny_call (codeAny_mono (F.run X.A X.stack s2 H2 ⟨us, ks.zip ws⟩ (g us ws) (gV vs zs) Q (E σ) (hr.mono hk) I2.env0 (hb.to s2 us ws I2.kIn (by rw [← r.length]; exact l1) (by rw [← rz.length]; exact l2)) r2 q2) fun r s' hq => ?_)
  exact back_at (hx σ) I2 r s' hq
end
end Z
set_option Elab.async false
set_option linter.all false
set_option maxRecDepth 100000
set_option maxHeartbeats 4000000
namespace Z
open PySem PySem.Spec PyProof.Rows L2
/-! ### raise X(), X an own class without own __init__ -/
structure Exn0 (K : PySem.W.Frag) (mg : Str → Option Value) (x : Str) (C : Addr) : Prop where
  ex : PySem.W.excIn K C He.veBase "ValueError.__new__" = true
  kp : PySem.W.keepIn K (.ref C) = true
  sub : PySem.W.subIn K (.ref C) (.type "BaseException") = some true
  ty : PySem.W.typeIn K (.ref C) = some (.type "type")
  gl : mg x = some (.ref C)
theorem pmk_ex0 {X : Cx} {x : Str} {C : Addr} {p pos : Pos} (c : Exn0 X.K X.mg x C) (hg : Gl X x) (hdb : (x == ("__debug__" : Str)) = false := by decide) :
    L2N.PMk X (.Call (.Name x p) [] [] pos) (fun _ H Q => Q (.ref C) none H) := by
  intro pins s σ H Q I h
  refine wpAny_Call_Name_kw (ld_glob I hg c.gl ?_ hdb)
  refine PySem.W.callWith_K0 I.kIn c.kp ?_
  obtain ⟨bm, N, nm, qn, bs, hdct, sn, sub, ab, col, dd, k0, k1, k2, k3, k5, mN, hC, hN, hni, T⟩ := exc_obj I.kIn c.ex
  refine wpAny_call_exc_subT PySem.F.excBase_ValueError T hC hN hni (fun h' e hm => ?_) (by decide)
  exact L2N.mk_of I hm (raises_own c.sub c.ty) h (I.hok.gone hm.new)
theorem ps_ex0 {X : Cx} {x : Str} {C : Addr} {p pos pos2 : Pos} {W : WX} (hc : X.calm = true) (tk : L2N.Takes X W) (c : Exn0 X.K X.mg x C) (hg : Gl X x) (hdb : (x == ("__debug__" : Str)) = false := by decide) :
    PS X (.Raise (some (.Call (.Name x p) [] [] pos)) none pos2) (fun _ σ H => W (.ref C) none σ H) := L2N.ps_raise hc tk (pmk_ex0 c hg hdb)
/-! ### isinstance(e, c), e a caught error without a dict -/
def rIs0 (K : PySem.W.Frag) (a : Addr) (cls : Value) (d : Option Addr) : List V → Hp → VK → Prop := fun xs H Q => ∃ (D : Addr) (c : V) (cv : Value) (b : Bool), cls = .ref D ∧ d = none ∧ ExcC K D ∧ xs = [.ref a, c] ∧ (∀ u, RelV c u → u = cv) ∧ PySem.W.kitOne K (.ref D) cv = some b ∧ Q (.bl b) H
theorem call_is0 {X : Cx} {a : Addr} {cls : Value} {d : Option Addr} {oe : Obj} {pn : List (Addr × Obj)} (hz : Zc cls d oe) (hf : ∃ vs, oe.data = .fields vs) : CallR (X.suite a ((a, oe) :: pn)) (.builtin "isinstance") (rIs0 X.K a cls d) := by
  intro pins s σ H xs us Q I r h
  obtain ⟨D, c, cv, b, rfl, rfl, C, rfl, hcv, e, q⟩ := h
  exact call_isE C hz hf pins s σ H _ us Q I r ⟨c, cv, b, rfl, hcv, e, q⟩
end Z
set_option Elab.async false
set_option linter.all false
set_option maxRecDepth 100000
set_option maxHeartbeats 4000000
namespace Z
open PySem PySem.Spec PyProof.Rows L2
open SX (S S_inj S_len S_cat)
/-! ### a text times an int -/
def rRepS : R2 := fun x y H Q => ∃ (l : List Nat) (k : Int), x = .str (S l) ∧ y = .int k ∧ -100000 ≤ k ∧ k ≤ 100000 ∧ l.length ≤ 10 ∧ Q (.str (S (List.replicate k.toNat l).flatten)) H
theorem op_repS {X : Cx} : OpR X (binaryOp .Mult) rRepS := by
  intro pins s σ H x y v u Q I rx ry h
  obtain ⟨l, k, rfl, rfl, h0, h1, hl, q⟩ := h
  obtain ⟨t, rfl⟩ := rx
  obtain ⟨t2, rfl⟩ := ry
  have el : (S l).length = l.length := S_len l
  have hm : l.length * k.toNat ≤ 10 * 100000 := Nat.mul_le_mul hl (by omega)
  refine PySem.P.mul_str ?_ ?_ ?_ ?_
  · rw [decide_eq_false (by omega), decide_eq_false (by omega)]
    rfl
  · intro h2 _ h3
    have : (k : Int) * ((2 ^ 63 - 1) / k) ≤ 2 ^ 63 - 1 := Int.mul_ediv_self_le (by omega)
    have h4 : (100000 : Int) ≤ (2 ^ 63 - 1) / k := by
      rw [Int.le_ediv_iff_mul_le (by omega)]
      omega
    rw [el] at h3
    omega
  · intro _ _
    rw [el]
    have hs : sizeLine = 16777216 := sizeLine_eq
    exact decide_eq_false (by omega)
  · have fr : ∀ (n : Nat) (acc : List Nat), List.foldl (fun x1 x2 => x1 ++ x2) acc.toArray (List.replicate n l.toArray) = (acc ++ (List.replicate n l).flatten).toArray := by
      intro n
      induction n with
      | zero => intro acc; simp
      | succ n ih =>
        intro acc
        have e : acc.toArray ++ l.toArray = (acc ++ l).toArray := by simp
        rw [List.replicate_succ, List.foldl_cons, e, ih, List.replicate_succ, List.flatten_cons, List.append_assoc]
    have fr0 := fr k.toNat []
    rw [List.nil_append] at fr0
    have e0 : (⟨List.foldl (fun x1 x2 => x1 ++ x2) #[] (List.replicate k.toNat (S l).cps)⟩ : Str) = S (List.replicate k.toNat l).flatten := congrArg Str.mk fr0
    have hz : (List.replicate k.toNat l).flatten.length ≤ 10 * 100000 := by
      rw [List.length_flatten, List.map_replicate, List.sum_replicate_nat]
      rw [Nat.mul_comm]
      exact hm
    by_cases c1 : k < 1
    · rw [if_pos c1]
      have : k.toNat = 0 := by omega
      rw [this] at q
      refine ⟨by decide, ?_⟩
      exact ⟨.str _, H, I.tok _, ⟨_, rfl⟩, q⟩
    · rw [if_neg c1]
      by_cases c2 : (k == 1 || (S l).length == 0) = true
      · rw [if_pos c2]
        have e2 : (List.replicate k.toNat l).flatten = l := by
          rw [Bool.or_eq_true, beq_iff_eq, beq_iff_eq, el] at c2
          rcases c2 with c2 | c2
          · rw [c2]
            simp
          · have : l = [] := List.length_eq_zero_iff.mp c2
            rw [this]
            simp
        rw [e2] at q
        exact ⟨.str _, H, I, ⟨_, rfl⟩, q⟩
      · rw [if_neg c2, e0]
        refine ⟨by rw [S_len]; exact Nat.le_trans hz (by decide), ?_⟩
        exact ⟨.str _, H, I.tok _, ⟨_, rfl⟩, q⟩
def rRepN : R2 := fun x y H Q => ∃ k : Int, x = .str "n" ∧ y = .int k ∧ -100000 ≤ k ∧ k ≤ 100000 ∧ Q (.str (S (List.replicate k.toNat 110))) H
theorem op_repN {X : Cx} : OpR X (binaryOp .Mult) rRepN := by
  intro pins s σ H x y v u Q I rx ry h
  obtain ⟨k, rfl, rfl, h0, h1, q⟩ := h
  have e : ∀ n : Nat, (List.replicate n [110]).flatten = List.replicate n 110 := by
    intro n
    induction n with
    | zero => rfl
    | succ n ih =>
      rw [List.replicate_succ, List.flatten_cons, ih, List.replicate_succ]
      rfl
  refine op_repS pins s σ H _ _ v u Q I rx ry ⟨[110], k, congrArg V.str (by decide +kernel), rfl, h0, h1, by decide, ?_⟩
  rw [e]
  exact q
end Z
set_option Elab.async false
set_option linter.all false
set_option maxRecDepth 100000
set_option maxHeartbeats 4000000
namespace Z
open PySem PySem.Spec PyProof.Rows L2
open SX (S S_inj S_len S_cat)
theorem relv_str {x : Str} {t : Tok} : L2.RelV (.str x) (.str x t) := ⟨t, rfl⟩
theorem szl {n : Nat} (h : n ≤ 2000) : n ≤ sizeLine := Nat.le_trans h (by decide)
theorem szlt {n : Nat} (h : n ≤ 2000) : n < sizeLine := Nat.lt_of_le_of_lt h (by decide)
theorem none_of {H H' : Hp} {p : Addr} (s : Same H H') (h : H' p = none) : H p = none := by
  cases e : H p with
  | none => rfl
  | some o =>
    rw [s _ _ e] at h
    cases h
/-! ### draws and their place -/
structure Tk (K : PySem.W.Frag) (a p : Addr) (ds : List Int) (n : Nat) (H0 H1 : Hp) : Prop where
  hA : H1 a = some (.lst (ds.map V.int))
  hd : Dr n ds
  ne : a ≠ p
  sb : SB p H0 H1
  pl : ∃ m : Nat, H1 p = some (.lst [.int (m : Int)])
section
variable {K : PySem.W.Frag} {a p : Addr} {ds : List Int} {n m : Nat} {H0 H1 H2 : Hp}
theorem Tk.more (t : Tk K a p ds n H0 H1) (s : Same H1 H2) : Tk K a p ds n H0 H2 := by
  obtain ⟨m, e⟩ := t.pl
  exact ⟨s _ _ t.hA, t.hd, t.ne, t.sb.trans (Z.Same.sb s), m, s _ _ e⟩
theorem Tk.next (t : Tk K a p ds n H0 H1) (e : H1 p = some (.lst [.int (m : Int)])) : Tk K a p ds n H0 (upd H1 p (.lst [.int ((m + 1 : Nat) : Int)])) ∧ SB p H1 (upd H1 p (.lst [.int ((m + 1 : Nat) : Int)])) := by
  have sb : SB p H1 (upd H1 p (.lst [.int ((m + 1 : Nat) : Int)])) := SB.upd (Z.Same.sb (Same.refl H1))
  exact ⟨⟨sb _ _ t.ne t.hA, t.hd, t.ne, t.sb.trans sb, m + 1, upd_same⟩, sb⟩
theorem Tk.slf (t : Tk K a p ds n H0 H1) : Tk K a p ds n H1 H1 := ⟨t.hA, t.hd, t.ne, Z.Same.sb (Same.refl _), t.pl⟩
theorem Tk.tr (t : Tk K a p ds n H0 H1) (u : Tk K a p ds n H1 H2) : Tk K a p ds n H0 H2 := ⟨u.hA, u.hd, u.ne, t.sb.trans u.sb, u.pl⟩
theorem Tk.nn {q : Addr} (t : Tk K a p ds n H0 H1) (h : H1 q = none) : H0 q = none := by
  cases e : H0 q with
  | none => rfl
  | some o =>
    have pq : q ≠ p := fun z => by
      obtain ⟨m, em⟩ := t.pl
      rw [z, em] at h
      cases h
    rw [t.sb _ _ pq e] at h
    cases h
theorem Tk.at_ {q : Addr} {o : HO} (t : Tk K a p ds n H0 H1) (h : H0 q = none) (hp : p ≠ q) (ha : a ≠ q) : Tk K a p ds n H0 (upd H1 q o) := by
  obtain ⟨m, em⟩ := t.pl
  refine ⟨by rw [upd_ne ha]; exact t.hA, t.hd, t.ne, fun b u n1 n2 => ?_, m, by rw [upd_ne hp]; exact em⟩
  have bq : b ≠ q := fun z => by rw [z, h] at n2; cases n2
  rw [upd_ne bq]
  exact t.sb _ _ n1 n2
/-- an object other than the place lives on -/
theorem Tk.up (t : Tk K a p ds n H0 H1) {b : Addr} {o : HO} (e : H0 b = some o) (h : b ≠ p) : H1 b = some o := t.sb _ _ h e
end
theorem at_0 {α : Type} {x : α} {xs : List α} : atI (x :: xs) 0 = some x := show atI _ ((0 : Nat) : Int) = _ from atI_nat rfl
theorem at_1 {α : Type} {x y : α} {xs : List α} : atI (x :: y :: xs) 1 = some y := show atI _ ((1 : Nat) : Int) = _ from atI_nat rfl
theorem at_2 {α : Type} {x y z : α} {xs : List α} : atI (x :: y :: z :: xs) 2 = some z := show atI _ ((2 : Nat) : Int) = _ from atI_nat rfl
theorem at_3 {α : Type} {x y z u : α} {xs : List α} : atI (x :: y :: z :: u :: xs) 3 = some u := show atI _ ((3 : Nat) : Int) = _ from atI_nat rfl
/-! ### fates -/
def isF (c : Nat) : Bool := decide (c = 98) || (decide (c = 102) || (decide (c = 115) || decide (c = 110)))
def Fts (l : List Nat) : Prop := ∀ c ∈ l, isF c = true
/-- the ends: first (false), second (true) -/
def eS (e : Bool) : Str := if e then "second" else "first"
def hrd (e : Bool) (c : Nat) : Bool := decide (c = 98) || decide (c = if e then 115 else 102)
/-- the last place below n of which P says yes -/
def lst (P : Nat → Bool) (l : List Nat) : Nat → Option Nat
  | 0 => none
  | n + 1 => if P (l.getD n 0) then some n else lst P l n
theorem lst_succ {P : Nat → Bool} {l : List Nat} {k : Nat} : lst P l (k + 1) = if P (l.getD k 0) then some k else lst P l k := rfl
theorem lst_lt {P : Nat → Bool} {l : List Nat} : ∀ {n i : Nat}, lst P l n = some i → i < n
  | 0, _, h => by cases h
  | n + 1, i, h => by
    unfold lst at h
    split at h
    · cases h
      omega
    · have := lst_lt h
      omega
structure Vw where
  own : Int
  oth : Option Int
  kn : List Nat
  si : Int
deriving DecidableEq
def vw (a b : Int) (l : List Nat) (e : Bool) : Vw :=
  match lst (hrd e) l l.length with
  | none => ⟨if e then b else a, none, [], l.length⟩
  | some i => ⟨if e then b else a, some (if e then a else b), l.take i, (l.length : Int) - 1 - i⟩
theorem vw_none {a b : Int} {l : List Nat} {e : Bool} (h : lst (hrd e) l l.length = none) : vw a b l e = ⟨if e then b else a, none, [], l.length⟩ := by
  unfold vw
  rw [h]
theorem vw_some {a b : Int} {l : List Nat} {e : Bool} {i : Nat} (h : lst (hrd e) l l.length = some i) : vw a b l e = ⟨if e then b else a, some (if e then a else b), l.take i, (l.length : Int) - 1 - i⟩ := by
  unfold vw
  rw [h]
def oV : Option Int → V
  | none => .non
  | some x => .int x
def oD : Option Int → PyData
  | none => .none
  | some x => .int x
def vwL (v : Vw) : List V := [.int v.own, oV v.oth, .str (S v.kn), .int v.si]
def vwD (v : Vw) : PyData := .tuple [.int v.own, oD v.oth, .str (S v.kn), .int v.si]
def VwOk (v : Vw) : Prop := v.kn.length ≤ 1000 ∧ ∀ c ∈ v.kn, c < 1000
theorem Fts.lt {l : List Nat} (h : Fts l) : ∀ c ∈ l, c < 1000 := fun c hc => by
  have := h c hc
  unfold isF at this
  simp only [Bool.or_eq_true, decide_eq_true_eq] at this
  omega
theorem vw_kn (a b : Int) (l : List Nat) (e : Bool) : ∃ i, (vw a b l e).kn = l.take i := by
  cases h : lst (hrd e) l l.length with
  | none =>
    rw [vw_none h]
    exact ⟨0, rfl⟩
  | some i =>
    rw [vw_some h]
    exact ⟨i, rfl⟩
theorem vw_ok {a b : Int} {l : List Nat} {e : Bool} (h : Fts l) (hl : l.length ≤ 1000) : VwOk (vw a b l e) := by
  obtain ⟨i, ek⟩ := vw_kn a b l e
  unfold VwOk
  rw [ek]
  exact ⟨by rw [List.length_take]; omega, fun c hc => h.lt c (List.mem_of_mem_take hc)⟩
theorem dp_oV {K : PySem.W.Frag} {H : Hp} : ∀ o : Option Int, Dp K H (oV o) (oD o)
  | none => .non
  | some x => .int x
theorem dp_vw {K : PySem.W.Frag} {H : Hp} {p : Addr} {v : Vw} (h : H p = some (.tup (vwL v))) : Dp K H (.ref p) (vwD v) := .tup (SqT.of h) (.cons (.int _) (.cons (dp_oV _) (.cons (.str _) (.cons (.int _) .nil))))
theorem strOk_of {l : List Nat} (h : ∀ c ∈ l, c < 1000) : PyData.strOk (S l) = true := by
  show (S l).cps.all (· < 0x110000) = true
  rw [Array.all_eq_true']
  intro c hc
  have := h c (by simpa using hc)
  simp
  omega
theorem shaped_vw {v : Vw} (h : VwOk v) : SeqAt.shaped (vwD v) = true := by
  have z := strOk_of h.2
  unfold SeqAt.shaped vwD
  cases v.oth <;> simp [oD, PyData.canLay0, PyData.canLayAll0, PyData.depth, PyData.depthAll, z]
theorem eqv_vw (u v : Vw) : PyData.eqv (vwD u) (vwD v) = decide (u = v) := by
  obtain ⟨a, o, k, s⟩ := u
  obtain ⟨a', o', k', s'⟩ := v
  have e1 : (S k == S k') = decide (k = k') := SX.S_beq_eq
  unfold vwD
  by_cases h : (⟨a, o, k, s⟩ : Vw) = ⟨a', o', k', s'⟩
  · rw [decide_eq_true h]
    cases h
    cases o <;> simp [oD, PyData.eqv, PyData.eqvAll]
  · rw [decide_eq_false h]
    cases o <;> cases o' <;> simp [oD, PyData.eqv, PyData.eqvAll, e1] <;> intro h1 <;> simp_all
/-- an exchange as a tuple -/
def exL (a b : Int) (l : List Nat) : List V := [.int a, .int b, .str (S l)]
def exD (a b : Int) (l : List Nat) : PyData := .tuple [.int a, .int b, .str (S l)]
theorem dp_ex {K : PySem.W.Frag} {H : Hp} {p : Addr} {a b : Int} {l : List Nat} (h : H p = some (.tup (exL a b l))) : Dp K H (.ref p) (exD a b l) := .tup (SqT.of h) (.cons (.int _) (.cons (.int _) (.cons (.str _) .nil)))
theorem shaped_ex {a b : Int} {l : List Nat} (h : Fts l) : SeqAt.shaped (exD a b l) = true := by
  have z := strOk_of h.lt
  unfold SeqAt.shaped exD
  simp [PyData.canLay0, PyData.canLayAll0, PyData.depth, PyData.depthAll, z]
theorem eqv_ex (a b : Int) (l : List Nat) (a' b' : Int) (l' : List Nat) : PyData.eqv (exD a b l) (exD a' b' l') = decide (a = a' ∧ b = b' ∧ l = l') := by
  have e1 : (S l == S l') = decide (l = l') := SX.S_beq_eq
  unfold exD
  by_cases h : a = a' ∧ b = b' ∧ l = l'
  · rw [decide_eq_true h]
    obtain ⟨rfl, rfl, rfl⟩ := h
    simp [PyData.eqv, PyData.eqvAll]
  · rw [decide_eq_false h]
    simp [PyData.eqv, PyData.eqvAll, e1]
    intro h1 h2
    exact fun h3 => h ⟨h1, h2, h3⟩
/-! ### refusals -/
inductive Bad where
  | bit (x : Int)
  | fate (i : Nat)
def isBit (x : Int) : Bool := decide (x = 0 ∨ x = 1)
/-- the first place that is no fate -/
def badF : List Nat → Nat → Option Nat
  | [], _ => none
  | c :: r, i => if isF c then badF r (i + 1) else some i
def bad (a b : Int) (l : List Nat) : Option Bad :=
  if isBit a then (if isBit b then (badF l 0).map Bad.fate else some (.bit b)) else some (.bit a)
theorem badF_fts : ∀ {l : List Nat} {i : Nat}, Fts l → badF l i = none
  | [], _, _ => rfl
  | c :: r, i, h => by
    unfold badF
    rw [if_pos (h c List.mem_cons_self)]
    exact badF_fts fun x hx => h x (List.mem_cons_of_mem _ hx)
theorem bad_ok {a b : Int} {l : List Nat} (ha : a = 0 ∨ a = 1) (hb : b = 0 ∨ b = 1) (h : Fts l) : bad a b l = none := by
  unfold bad isBit
  rw [if_pos (decide_eq_true ha), if_pos (decide_eq_true hb), badF_fts h]
  rfl
/-- all places below n are fates -/
def Up (l : List Nat) (n : Nat) : Prop := ∀ i, i < n → ∀ c, l[i]? = some c → isF c = true
theorem badF_at : ∀ {l : List Nat} {i j : Nat}, (∀ k, k < j → ∀ c, l[k]? = some c → isF c = true) → (∃ c, l[j]? = some c ∧ isF c = false) → badF l i = some (i + j)
  | [], _, _, _, h => by
    obtain ⟨c, e, _⟩ := h
    simp at e
  | x :: r, i, 0, _, h => by
    obtain ⟨c, e, f⟩ := h
    cases e
    unfold badF
    rw [f, if_neg (by decide)]
    rfl
  | x :: r, i, j + 1, u, h => by
    unfold badF
    rw [if_pos (u 0 (by omega) x rfl), badF_at (j := j) (fun k hk c e => u (k + 1) (by omega) c e) h]
    congr 1
    omega
theorem badF_up : ∀ {l : List Nat} {i : Nat}, (∀ (k c : Nat), l[k]? = some c → isF c = true) → badF l i = none := fun {l i} h => badF_fts fun c hc => by
  obtain ⟨k, hk, rfl⟩ := List.getElem_of_mem hc
  exact h k _ (List.getElem?_eq_getElem hk)
end Z
set_option pp.maxSteps 700
set_option Elab.async false
set_option linter.all false
set_option maxRecDepth 100000
set_option maxHeartbeats 4000000
open SX (S S_inj S_len S_cat)
namespace Z
open PySem PySem.Spec PyProof.Rows L2
open C8 (pss_cut tCut)
local macro_rules | `(tactic| walk_at "num") => `(tactic| first | rfl | omega | decide | exact Nat.le_of_lt (small1000 (by simp)) | exact ⟨by omega, by omega⟩ | exact ⟨by omega, by omega, by omega⟩ | exact ⟨by decide, by decide, by decide⟩ | exact Or.inl ⟨by omega, by omega⟩ | exact Or.inr ⟨by omega, by omega⟩)
local macro_rules | `(tactic| walk_at "go") => `(tactic| repeat (first | refine ⟨_, rfl, ?_⟩ | refine ⟨_, _, rfl, rfl, ?_⟩ | refine ⟨_, _, rfl, ?_⟩ | (refine ⟨_, _, rfl, rfl, ?_, ?_⟩; focus walk_at "num") | refine Or.inl ⟨_, rfl, ?_⟩ | refine ⟨_, _, _, _, rfl, rfl, (by assumption), (by rfl), ?_⟩ | refine ⟨_, _, _, _, _, rfl, (by assumption), (by assumption), (by assumption), (by rfl), ?_⟩ | refine ⟨rfl, ?_⟩ | (refine And.intro ?_ ?_; focus walk_at "num")))
abbrev s_check_fates : Stmt := topS 9
abbrev N_check_fates : List Str := ["fates", "at", "fate"]
abbrev P_check_fates : List Str := ["fates"]
theorem sc_check_fates : FnScope N_check_fates P_check_fates (defScope s_check_fates) := ⟨rfl, rfl, rfl, by decide +kernel, rfl, by decide +kernel, by decide +kernel⟩
abbrev s_check_end : Stmt := topS 10
abbrev N_check_end : List Str := ["end"]
abbrev P_check_end : List Str := ["end"]
theorem sc_check_end : FnScope N_check_end P_check_end (defScope s_check_end) := ⟨rfl, rfl, rfl, by decide +kernel, rfl, by decide +kernel, by decide +kernel⟩
abbrev s_check_bit : Stmt := topS 11
abbrev N_check_bit : List Str := ["bit"]
abbrev P_check_bit : List Str := ["bit"]
theorem sc_check_bit : FnScope N_check_bit P_check_bit (defScope s_check_bit) := ⟨rfl, rfl, rfl, by decide +kernel, rfl, by decide +kernel, by decide +kernel⟩
abbrev s_arrives : Stmt := topS 12
abbrev N_arrives : List Str := ["fate", "end"]
abbrev P_arrives : List Str := ["fate", "end"]
theorem sc_arrives : FnScope N_arrives P_arrives (defScope s_arrives) := ⟨rfl, rfl, rfl, by decide +kernel, rfl, by decide +kernel, by decide +kernel⟩
theorem relv_ref {a : Addr} : L2.RelV (.ref a) (.ref a) := rfl
/-- the module's tuple of the two ends -/
def EndsA (K : PySem.W.Frag) (a : Addr) : Prop := SqT K (fun _ => none) a [.str "first", .str "second"]
theorem EndsA.sq {K : PySem.W.Frag} {a : Addr} (h : EndsA K a) (H : Hp) : SqT K H a [.str "first", .str "second"] := by
  rcases h with h | h
  · rcases h with h | ⟨_, h⟩ <;> cases h
  · exact .inr h
theorem inV_ends (z : Str) : inV (.str z) [.str "first", .str "second"] = decide (z = eS false ∨ z = eS true) := by
  show (("first" : Str) == z || (("second" : Str) == z || false)) = _
  by_cases h1 : z = eS false
  · subst h1
    decide +kernel
  · by_cases h2 : z = eS true
    · subst h2
      decide +kernel
    · rw [decide_eq_false (by simp [h1, h2])]
      have e1 : (("first" : Str) == z) = false := beq_eq_false_iff_ne.mpr fun e => h1 e.symm
      have e2 : (("second" : Str) == z) = false := beq_eq_false_iff_ne.mpr fun e => h2 e.symm
      rw [e1, e2]
      rfl
section
variable {P : Program} {w : World} {K : PySem.W.Frag} {mg : Str → Option Value} {base : Heap} {f CB CE CF aE : Addr} {fd : FuncData}
def spCkF (CF : Addr) : Sp := fun vs H Q E => ∃ l, vs = [.str (S l)] ∧ (badF l 0 = none → ∀ H', Same H H' → Q .non H') ∧ ∀ i, badF l 0 = some i → ∀ H' d, Same H H' → H' d = none → E (.ref CF) (some d) (upd H' d (.xd [("at", .int (i : Int))]))
theorem bfsn_in (c : Nat) : decide (c ∈ (Str.ofString "bfsn").cps.toList) = isF c := by
  have e : (Str.ofString "bfsn").cps.toList = [98, 102, 115, 110] := by decide +kernel
  rw [e]
  unfold isF
  simp only [List.mem_cons, List.not_mem_nil, or_false, Bool.decide_or]
theorem ok_check_fates (F : FnP K "check_fates" s_check_fates f fd) (m_enumerate : mg "enumerate" = none) (tok_FATES : Tok) (g_FATES : mg "FATES" = some (.str "bfsn" tok_FATES)) (x_BadFate : Exn P w K mg base "BadFate" CF "at") : FnOk P w K mg base (L2N.CX P w) 3 f fd P_check_fates (spCkF CF) := by
  refine F.ok sc_check_fates (fun vs H Q E h => ?_) (fun cdv A outer s H vs Q E hr h => ?_)
  · obtain ⟨l, rfl, _⟩ := h
    rfl
  · obtain ⟨l, rfl, q1, q2⟩ := h
    have tk := takes_fn (P := P) (w := w) (K := K) (mg := mg) (base := base) (N := N_check_fates) (qual := "check_fates") (scope := defScope s_check_fates) (f := f) (cd := cdv) (A := A) (outer := outer) (s := s) (H := H) (E := E)
    refine ⟨_, (pss_one (ps_for (passes_of rfl) rfl (pi_enumS (by rfl) m_enumerate (pa_cons (pv 0) pa_nil)) (pg_tup rfl (pgs_cons (pg_name (i := 1) sc_check_fates.nd rfl (by first | exact .inl rfl | exact .inr rfl)) (pgs_cons (pg_name (i := 2) sc_check_fates.nd rfl (by first | exact .inl rfl | exact .inr rfl)) pgs_nil)))
        (pss_one (ps_if (pt_cmpR op_notIn_sign (pv 2) (pe_glob (by rfl) g_FATES (relv_str (x := "bfsn"))) (by rfl)) (pss_one (ps_exn rfl tk x_BadFate hr (by decide) (by rfl) (pa_cons (pv 1) pa_nil))) pss_nil)))), ?_⟩
    walk_at "go"
    refine for_enumS (K := K) (fun k σ H1 => Same H H1 ∧ (∀ j, j < k → ∀ c, l[j]? = some c → isF c = true) ∧ ∃ v1 v2 : Option V, σ = [some (.str (S l)), v1, v2]) ⟨Same.refl _, fun j h => absurd h (by omega), none, none, rfl⟩ ?_ ?_
    · rintro k c σ H1 H2 ec ⟨s1, up, v1, v2, rfl⟩ s2
      have ec : l[k]? = some c := by simpa using ec
      walk_at "go"
      refine ite2 (fun e => ?_) (fun e => ?_)
      · have e : isF c = false := by
          rw [← bfsn_in]
          simpa using e
        walk_at "go"
        refine mkx_of fun d nd => q2 k ?_ H2 d (s1.trans s2) nd
        have z := badF_at (i := 0) up ⟨c, ec, e⟩
        rw [Nat.zero_add] at z
        exact z
      · have e : isF c = true := by
          rw [← bfsn_in]
          simpa using e
        refine ⟨s1.trans s2, fun j hj c' ej => ?_, _, _, rfl⟩
        by_cases c2 : j = k
        · subst c2
          rw [ec] at ej
          cases ej
          exact e
        · exact up j (by omega) c' ej
    · rintro σ H1 ⟨s1, up, v1, v2, rfl⟩
      refine q1 (badF_up fun k c e => up k ?_ c e) H1 s1
      have := (List.getElem?_eq_some_iff.mp e).1
      simpa using this
def spCkE (CE : Addr) : Sp := fun vs H Q E => ∃ z : Str, vs = [.str z] ∧ (z = eS false ∨ z = eS true → Q .non H) ∧ (¬ (z = eS false ∨ z = eS true) → ∀ d, H d = none → E (.ref CE) (some d) (upd H d (.xd [("end", .str z)])))
theorem ok_check_end (F : FnP K "check_end" s_check_end f fd) (g_ENDS : mg "ENDS" = some (.ref aE)) (hE : EndsA K aE) (x_BadEnd : Exn P w K mg base "BadEnd" CE "end") : FnOk P w K mg base (L2N.CX P w) 3 f fd P_check_end (spCkE CE) := by
  refine F.ok sc_check_end (fun vs H Q E h => ?_) (fun cdv A outer s H vs Q E hr h => ?_)
  · obtain ⟨z, rfl, _⟩ := h
    rfl
  · obtain ⟨z, rfl, q1, q2⟩ := h
    have tk := takes_fn (P := P) (w := w) (K := K) (mg := mg) (base := base) (N := N_check_end) (qual := "check_end") (scope := defScope s_check_end) (f := f) (cd := cdv) (A := A) (outer := outer) (s := s) (H := H) (E := E)
    refine ⟨_, (pss_one (ps_if (pt_cmpR op_notIn_seq (pv 0) (pe_glob (by rfl) g_ENDS relv_ref) (by rfl)) (pss_one (ps_exn rfl tk x_BadEnd hr (by decide) (by rfl) (pa_cons (pv 0) pa_nil))) pss_nil)), ?_⟩
    walk_at "go"
    refine ⟨aE, _, rfl, .inr (hE.sq H), rfl, rfl, ?_⟩
    rw [inV_ends]
    walk_at "go"
    refine ite2 (fun e => ?_) (fun e => ?_)
    · have e : ¬ (z = eS false ∨ z = eS true) := by simpa using e
      walk_at "go"
      exact mkx_of (fun d nd => q2 e d nd)
    · have e : z = eS false ∨ z = eS true := Decidable.byContradiction fun c => e (by rw [decide_eq_false c]; rfl)
      exact q1 e
def spCkB (CB : Addr) : Sp := fun vs H Q E => ∃ x : Int, vs = [.int x] ∧ (isBit x = true → ∀ H', Same H H' → Q .non H') ∧ (isBit x = false → ∀ H' d, Same H H' → H' d = none → E (.ref CB) (some d) (upd H' d (.xd [("bit", .int x)])))
theorem inV_bit (x : Int) : inV (.int x) [.int 0, .int 1] = isBit x := by
  show ((0 : Int) == x || ((1 : Int) == x || false)) = _
  unfold isBit
  by_cases h0 : x = 0
  · subst h0
    rfl
  · by_cases h1 : x = 1
    · subst h1
      rfl
    · rw [decide_eq_false (by simp [h0, h1]), beq_eq_false_iff_ne.mpr (Ne.symm h0), beq_eq_false_iff_ne.mpr (Ne.symm h1)]
      rfl
theorem ok_check_bit (F : FnP K "check_bit" s_check_bit f fd) (x_BadBit : Exn P w K mg base "BadBit" CB "bit") : FnOk P w K mg base (L2N.CX P w) 3 f fd P_check_bit (spCkB CB) := by
  refine F.ok sc_check_bit (fun vs H Q E h => ?_) (fun cdv A outer s H vs Q E hr h => ?_)
  · obtain ⟨x, rfl, _⟩ := h
    rfl
  · obtain ⟨x, rfl, q1, q2⟩ := h
    have tk := takes_fn (P := P) (w := w) (K := K) (mg := mg) (base := base) (N := N_check_bit) (qual := "check_bit") (scope := defScope s_check_bit) (f := f) (cd := cdv) (A := A) (outer := outer) (s := s) (H := H) (E := E)
    refine ⟨_, (pss_one (ps_if (pt_cmpR op_notIn_seq (pv 0) (pe_tup (pa_cons pe_int (pa_cons pe_int pa_nil))) (by rfl)) (pss_one (ps_exn rfl tk x_BadBit hr (by decide) (by rfl) (pa_cons (pv 0) pa_nil))) pss_nil)), ?_⟩
    walk_at "go"
    intro t nt
    generalize eH_ : upd H t _ = H1
    have s1 : Same H H1 := by rw [← eH_]; exact same_new nt
    have et : H1 t = some (.tup [.int 0, .int 1]) := by rw [← eH_]; exact upd_same
    clear eH_
    walk_at "go"
    refine ⟨t, _, rfl, .inr (SqT.of et), rfl, rfl, ?_⟩
    rw [inV_bit]
    walk_at "go"
    refine ite2 (fun e => ?_) (fun e => ?_)
    · have e : isBit x = false := by simpa using e
      walk_at "go"
      exact mkx_of fun d nd => q2 e H1 d s1 nd
    · have e : isBit x = true := by simpa using e
      exact q1 e _ s1
def spArr : Sp := fun vs H Q _ => ∃ (c : Nat) (e : Bool), vs = [.str ⟨#[c]⟩, .str (eS e)] ∧ Q (.bl (hrd e c)) H
theorem one_eq (c d : Nat) : decide (V.str ⟨#[c]⟩ = V.str ⟨#[d]⟩) = decide (c = d) := by
  by_cases h : c = d
  · subst h
    simp
  · have h2 : ¬ (V.str ⟨#[c]⟩ = V.str ⟨#[d]⟩) := fun z => h (by injection z with z; injection z with z; simpa using z)
    rw [decide_eq_false h, decide_eq_false h2]
theorem b_str : Str.ofString "b" = ⟨#[98]⟩ := by decide +kernel
theorem f_str : Str.ofString "f" = ⟨#[102]⟩ := by decide +kernel
theorem s_str : Str.ofString "s" = ⟨#[115]⟩ := by decide +kernel
theorem n_str : Str.ofString "n" = ⟨#[110]⟩ := by decide +kernel
theorem ok_arrives (F : FnP K "arrives" s_arrives f fd) : FnOk P w K mg base CX0 1 f fd P_arrives spArr := by
  refine F.ok sc_arrives (fun vs H Q E h => ?_) (fun cdv A outer s H vs Q E hr h => ?_)
  · obtain ⟨c, e, rfl, _⟩ := h
    rfl
  · obtain ⟨c, e, rfl, q⟩ := h
    refine ⟨_, PSs.nox (pss_one (ps_ret (pe_or (pe_cmpR op_eq (pv 0) pe_str (nomark _)) (pe_one (pe_cmpR op_eq (pv 0) (pe_ifExp (pt_cmpR op_eq (pv 1) pe_str (nomark _)) pe_str pe_str) (nomark _)))))), ?_⟩
    unfold hrd at q
    walk_at "go"
    rw [b_str, one_eq]
    by_cases h1 : c = 98
    · rw [decide_eq_true h1, if_pos rfl]
      rw [decide_eq_true h1, Bool.true_or] at q
      exact q
    rw [decide_eq_false h1, if_neg (by decide)]
    rw [decide_eq_false h1, Bool.false_or] at q
    walk_at "go"
    cases e
    · rw [show decide (V.str (eS false) = V.str (Str.ofString "first")) = true from rfl, if_pos rfl]
      walk_at "go"
      rw [f_str, one_eq]
      exact q
    · rw [show decide (V.str (eS true) = V.str (Str.ofString "first")) = false by decide +kernel, if_neg (by decide)]
      walk_at "go"
      rw [s_str, one_eq]
      exact q
end
end Z
set_option pp.maxSteps 700
set_option Elab.async false
set_option linter.all false
set_option maxRecDepth 100000
set_option maxHeartbeats 4000000
open SX (S S_inj S_len S_cat)
namespace Z
open PySem PySem.Spec PyProof.Rows L2
open C8 (pss_cut tCut)
local macro_rules | `(tactic| walk_at "num") => `(tactic| first | rfl | omega | decide | exact Nat.le_of_lt (small1000 (by simp)) | exact ⟨by omega, by omega⟩ | exact ⟨by omega, by omega, by omega⟩ | exact ⟨by decide, by decide, by decide⟩ | exact Or.inl ⟨by omega, by omega⟩ | exact Or.inr ⟨by omega, by omega⟩)
local macro_rules | `(tactic| walk_at "go") => `(tactic| repeat (first | refine ⟨_, rfl, ?_⟩ | refine ⟨_, _, rfl, rfl, ?_⟩ | refine ⟨_, _, rfl, ?_⟩ | (refine ⟨_, _, rfl, rfl, ?_, ?_⟩; focus walk_at "num") | refine Or.inl ⟨_, rfl, ?_⟩ | refine ⟨_, _, _, _, rfl, rfl, (by assumption), (by rfl), ?_⟩ | refine ⟨_, _, _, _, _, rfl, (by assumption), (by assumption), (by assumption), (by rfl), ?_⟩ | refine ⟨rfl, ?_⟩ | (refine And.intro ?_ ?_; focus walk_at "num")))
abbrev s_Exchange___init__ : Stmt := inClass (topS 14) 0
abbrev N_Exchange___init__ : List Str := ["self", "first_bit", "second_bit", "fates"]
abbrev P_Exchange___init__ : List Str := ["self", "first_bit", "second_bit", "fates"]
theorem sc_Exchange___init__ : FnScope N_Exchange___init__ P_Exchange___init__ (defScope s_Exchange___init__) := ⟨rfl, rfl, rfl, by decide +kernel, rfl, by decide +kernel, by decide +kernel⟩
abbrev s_Exchange_seen : Stmt := inClass (topS 14) 3
abbrev N_Exchange_seen : List Str := ["self", "end", "own", "other", "at"]
abbrev P_Exchange_seen : List Str := ["self", "end"]
theorem sc_Exchange_seen : FnScope N_Exchange_seen P_Exchange_seen (defScope s_Exchange_seen) := ⟨rfl, rfl, rfl, by decide +kernel, rfl, by decide +kernel, by decide +kernel⟩
abbrev FnM (K : PySem.W.Frag) (x q : Str) (st : Stmt) (f : Addr) (fd : FuncData) : Prop := FunD K x q (defArgs st) (defBody st) (defScope st) [] [] f fd
abbrev exF (a b : Int) (l : List Nat) : List (Str × V) := [("first_bit", .int a), ("second_bit", .int b), ("fates", .str (S l))]
/-- an exchange -/
def ExA (C : Addr) (H : Hp) (n : Addr) (a b : Int) (l : List Nat) : Prop := ∃ dx, H n = some (.ins C dx (exF a b l))
theorem ExA.mono {C : Addr} {H H' : Hp} {n : Addr} {a b : Int} {l : List Nat} (s : Same H H') (h : ExA C H n a b l) : ExA C H' n a b l := h.imp fun _ e => s _ _ e
/-- what Exchange(a, b, l) raises -/
def badE (CB CF : Addr) (E : XK) (H : Hp) : Bad → Prop
  | .bit x => ∀ H' d, Same H H' → H' d = none → E (.ref CB) (some d) (upd H' d (.xd [("bit", .int x)]))
  | .fate i => ∀ H' d, Same H H' → H' d = none → E (.ref CF) (some d) (upd H' d (.xd [("at", .int (i : Int))]))
section
variable {P : Program} {w : World} {K : PySem.W.Frag} {mg : Str → Option Value} {base : Heap} {f C CB CE CF aE : Addr} {fd : FuncData}
def spEx1 (C CB CF : Addr) : Sp := fun vs H Q E => ∃ (n dx : Addr) (a b : Int) (l : List Nat), vs = [.ref n, .int a, .int b, .str (S l)] ∧ H n = some (.ins C dx []) ∧ l.length ≤ 1000 ∧
  (bad a b l = none → ∀ H', SB n H H' → H' n = some (.ins C dx (exF a b l)) → Q .non H') ∧ ∀ r, bad a b l = some r → badE CB CF E H r
theorem ok_init (F : FnM K "__init__" "Exchange.__init__" s_Exchange___init__ f fd) (cls : Cls K C) (n_first_bit : NoAttr K C "first_bit") (n_second_bit : NoAttr K C "second_bit") (n_fates : NoAttr K C "fates") (c_check_bit : CalX P w K mg base 3 "check_bit" (spCkB CB)) (c_check_fates : CalX P w K mg base 3 "check_fates" (spCkF CF)) : FnOk P w K mg base (L2N.CX P w) 4 f fd P_Exchange___init__ (spEx1 C CB CF) := by
  refine F.ok sc_Exchange___init__ (fun vs H Q E h => ?_) (fun cdv A outer s H vs Q E hr h => ?_)
  · obtain ⟨n, dx, a, b, l, rfl, _⟩ := h
    rfl
  · obtain ⟨n, dx, a, b, l, rfl, hn, ll, q1, q2⟩ := h
    have tk := takes_fn (P := P) (w := w) (K := K) (mg := mg) (base := base) (N := N_Exchange___init__) (qual := "Exchange.__init__") (scope := defScope s_Exchange___init__) (f := f) (cd := cdv) (A := A) (outer := outer) (s := s) (H := H) (E := E)
    refine ⟨_, (pss_cons (ps_expr (pe_clE c_check_bit (fun σ => L2N.passAt tk σ) hr (by decide) (by rfl) (pa_cons (pv 1) pa_nil)))
      (pss_cons (ps_expr (pe_clE c_check_bit (fun σ => L2N.passAt tk σ) hr (by decide) (by rfl) (pa_cons (pv 2) pa_nil)))
      (pss_cons (ps_expr (pe_clE c_check_fates (fun σ => L2N.passAt tk σ) hr (by decide) (by rfl) (pa_cons (pv 3) pa_nil)))
      (pss_cons (ps_fld (pv 0) (pv 1) rfl)
      (pss_cons (ps_fld (pv 0) (pv 2) rfl)
      (pss_one (ps_fld (pv 0) (pv 3) rfl))))))), ?_⟩
    unfold bad at q1 q2
    walk_at "go"
    refine ⟨fun e H1 s1 => ?_, fun e H1 d s1 nd => ?_⟩
    · rw [if_pos e] at q1 q2
      walk_at "go"
      refine ⟨fun e2 H2 s2 => ?_, fun e2 H2 d s2 nd => ?_⟩
      · rw [if_pos e2] at q1 q2
        walk_at "go"
        refine ⟨fun e3 H3 s3 => ?_, fun i e3 H3 d s3 nd => ?_⟩
        · have q1 := q1 (by rw [e3]; rfl)
          have s03 := s1.trans (s2.trans s3)
          have hn3 := s03 _ _ hn
          clear q2
          walk_at "go"
          refine ⟨n, C, dx, _, rfl, hn3, cls, n_first_bit, by decide, ?_⟩
          walk_at "go"
          refine ⟨n, C, dx, _, rfl, upd_same, cls, n_second_bit, (show (1 : Nat) < 1000 by omega), ?_⟩
          walk_at "go"
          refine ⟨n, C, dx, _, rfl, upd_same, cls, n_fates, (show (2 : Nat) < 1000 by omega), ?_⟩
          refine q1 _ (SB.upd (SB.upd (SB.upd (Z.Same.sb s03)))) ?_
          exact upd_same
        · exact q2 (.fate i) (by rw [e3]; rfl) H3 d (s1.trans (s2.trans s3)) nd
      · rw [e2] at q2
        exact q2 (.bit b) rfl H2 d (s1.trans s2) nd
    · rw [e] at q2
      exact q2 (.bit a) rfl H1 d s1 nd
def spSeen (C CE : Addr) : Sp := fun vs H Q E => ∃ (n : Addr) (z : Str) (a b : Int) (l : List Nat), vs = [.ref n, .str z] ∧ ExA C H n a b l ∧ l.length ≤ 1000 ∧ (∀ e, z = eS e → ∀ p H', Same H H' → H p = none → H' p = some (.tup (vwL (vw a b l e))) → Q (.ref p) H') ∧
  (¬ (z = eS false ∨ z = eS true) → ∀ d, H d = none → E (.ref CE) (some d) (upd H d (.xd [("end", .str z)])))
theorem ok_seen (F : FnM K "seen" "Exchange.seen" s_Exchange_seen f fd) (m_range : mg "range" = none) (m_len : mg "len" = none) (cls : Cls K C) (n_first_bit : NoAttr K C "first_bit") (n_second_bit : NoAttr K C "second_bit") (n_fates : NoAttr K C "fates") (c_check_end : CalX P w K mg base 3 "check_end" (spCkE CE)) (c_arrives : Cal P w K mg base 1 "arrives" spArr) : FnOk P w K mg base (L2N.CX P w) 4 f fd P_Exchange_seen (spSeen C CE) := by
  refine F.ok sc_Exchange_seen (fun vs H Q E h => ?_) (fun cdv A outer s H vs Q E hr h => ?_)
  · obtain ⟨n, z, a, b, l, rfl, _⟩ := h
    rfl
  · obtain ⟨n, z, a, b, l, rfl, ⟨dx, hn⟩, ll, q1, q2⟩ := h
    have tk := takes_fn (P := P) (w := w) (K := K) (mg := mg) (base := base) (N := N_Exchange_seen) (qual := "Exchange.seen") (scope := defScope s_Exchange_seen) (f := f) (cd := cdv) (A := A) (outer := outer) (s := s) (H := H) (E := E)
    refine ⟨_, (pss_cons (ps_expr (pe_clE c_check_end (fun σ => L2N.passAt tk σ) hr (by decide) (by rfl) (pa_cons (pv 1) pa_nil)))
      (pss_cut (ps_asg (pe_ifExp (pt_cmpR op_eq (pv 1) pe_str (nomark _)) (pe_tup (pa_cons (pe_fld (pv 0) rfl) (pa_cons (pe_fld (pv 0) rfl) pa_nil))) (pe_tup (pa_cons (pe_fld (pv 0) rfl) (pa_cons (pe_fld (pv 0) rfl) pa_nil)))) (pg_tup rfl (pgs_cons (pg_name (i := 2) sc_Exchange_seen.nd rfl (by first | exact .inl rfl | exact .inr rfl)) (pgs_cons (pg_name (i := 3) sc_Exchange_seen.nd rfl (by first | exact .inl rfl | exact .inr rfl)) pgs_nil))))
      (pss_cons (ps_for (passes_of rfl) rfl (pi_range3 (by rfl) m_range (pa_cons (pe_op op_sub (pe_callB call_len_str (by rfl) m_len PySem.boot_len (pa_cons (pe_fld (pv 0) rfl) pa_nil)) pe_int) (pa_cons (pe_un un_neg pe_int) (pa_cons (pe_un un_neg pe_int) pa_nil)))) (pg_name (i := 4) sc_Exchange_seen.nd rfl (by first | exact .inl rfl | exact .inr rfl))
        (pss_one (ps_if (pt_val (pe_cl c_arrives hr (by decide) (by rfl) (pa_cons (pe_ix ix_str (pe_fld (pv 0) rfl) (pv 4) (fun _ _ => rfl)) (pa_cons (pv 1) pa_nil)))) (pss_one (ps_ret (pe_tup (pa_cons (pv 2) (pa_cons (pv 3) (pa_cons (pe_slice C8.sl_txt (pe_fld (pv 0) rfl) po_none (po_some (pv 4))) (pa_cons (pe_op op_sub (pe_op op_sub (pe_callB call_len_str (by rfl) m_len PySem.boot_len (pa_cons (pe_fld (pv 0) rfl) pa_nil)) pe_int) (pv 4)) pa_nil))))))) pss_nil)))
      (pss_one (ps_ret (pe_tup (pa_cons (pv 2) (pa_cons pe_non (pa_cons pe_str (pa_cons (pe_callB call_len_str (by rfl) m_len PySem.boot_len (pa_cons (pe_fld (pv 0) rfl) pa_nil)) pa_nil)))))))))), ?_⟩
    have hlen : (S l).length ≤ sizeLine := by rw [S_len]; exact szl (by omega)
    walk_at "go"
    refine ⟨fun hz => ?_, fun h => q2 h⟩
    obtain ⟨e, rfl⟩ : ∃ e, z = eS e := hz.elim (fun h => ⟨false, h⟩) (fun h => ⟨true, h⟩)
    have q1 := q1 e rfl
    clear q2 hz
    have k0 : (fun e => if e then b else a) e = if e then b else a := rfl
    refine ⟨fun σ J => Same H J ∧ ∃ ow ot, (ow = if e then b else a) ∧ (ot = if e then a else b) ∧ σ = [some (.ref n), some (.str (eS e)), some (.int ow), some (.int ot), none], ?_, ?_⟩
    · cases e
      · walk_at "go"
        intro t nt
        generalize eH_ : upd H t _ = H1
        have s1 : Same H H1 := by rw [← eH_]; exact same_new nt
        have et : H1 t = some (.tup [.int a, .int b]) := by rw [← eH_]; exact upd_same
        clear eH_
        walk_at "go"
        refine ⟨t, _, rfl, SqT.of et, rfl, ?_⟩
        walk_at "go"
        rfl
      · walk_at "go"
        intro t nt
        generalize eH_ : upd H t _ = H1
        have s1 : Same H H1 := by rw [← eH_]; exact same_new nt
        have et : H1 t = some (.tup [.int b, .int a]) := by rw [← eH_]; exact upd_same
        clear eH_
        walk_at "go"
        refine ⟨t, _, rfl, SqT.of et, rfl, ?_⟩
        walk_at "go"
        rfl
    · rintro σ J ⟨s1, ow, ot, eo, eu, rfl⟩
      have hn1 := s1 _ _ hn
      walk_at "go"
      rw [S_len]
      refine ⟨_, _, _, _, rfl, RgC.neg (by omega) (by omega) (by omega) (by omega), ?_⟩
      have en : ((l.length : Int) - 1 - -1).toNat = l.length := by omega
      refine for_gen (n := l.length) (fun i σ J1 => J1 = J ∧ lst (hrd e) l l.length = lst (hrd e) l (l.length - i) ∧ ∃ v4, σ = [some (.ref n), some (.str (eS e)), some (.int ow), some (.int ot), v4]) ⟨rfl, rfl, _, rfl⟩ ?_ ?_ ?_ ?_
      · intro i σ J1 hi _
        show i < ((l.length : Int) - 1 - -1).toNat
        omega
      · intro σ J1 _
        show ((l.length : Int) - 1 - -1).toNat ≤ l.length
        omega
      · rintro i σ J1 x J2 hi ⟨rfl, el, v4, rfl⟩ ⟨rfl, rfl⟩
        have hk : l.length - 1 - i < l.length := by omega
        have ek : (l.length : Int) - 1 + (i : Int) * -1 = ((l.length - 1 - i : Nat) : Int) := by omega
        have e1 : l.length - i = (l.length - 1 - i) + 1 := by omega
        have e2 : l.length - (i + 1) = l.length - 1 - i := by omega
        rw [e1] at el
        rw [e2]
        rw [lst_succ] at el
        have ec : l.getD (l.length - 1 - i) 0 = l[l.length - 1 - i] := by rw [List.getD_eq_getElem?_getD, List.getElem?_eq_getElem hk]; rfl
        rw [ec] at el
        have ea : atI (S l).cps.toList ((l.length - 1 - i : Nat) : Int) = some l[l.length - 1 - i] := atI_nat (by show l[l.length - 1 - i]? = _; exact List.getElem?_eq_getElem hk)
        generalize l[l.length - 1 - i] = c at ea el
        generalize l.length - 1 - i = k at ek ea el hk
        walk_at "go"
        rw [ek]
        refine ⟨S l, _, c, rfl, rfl, hlen, ea, ?_⟩
        walk_at "go"
        by_cases hc : hrd e c = true
        · rw [if_pos hc] at el
          rw [hc, if_pos rfl]
          walk_at "go"
          rw [SX.slice_to (by omega), Int.toNat_natCast, S_len]
          walk_at "go"
          intro p np
          refine q1 p _ (s1.trans (same_new np)) (none_of s1 np) ?_
          rw [upd_same, vw_some el, eo, eu]
          rfl
        · rw [if_neg hc] at el
          rw [Bool.eq_false_iff.mpr hc, if_neg (by decide)]
          exact ⟨rfl, el, _, rfl⟩
      · rintro σ J1 ⟨rfl, el, v4, rfl⟩
        rw [Nat.sub_self] at el
        have el : lst (hrd e) l l.length = none := el
        walk_at "go"
        intro p np
        rw [S_len]
        refine q1 p _ (s1.trans (same_new np)) (none_of s1 np) ?_
        rw [upd_same, vw_none el, eo]
        rfl
end
end Z
set_option pp.maxSteps 700
set_option Elab.async false
set_option linter.all false
set_option maxRecDepth 100000
set_option maxHeartbeats 4000000
open SX (S S_inj S_len S_cat)
namespace Z
open PySem PySem.Spec PyProof.Rows L2
open C8 (pss_cut tCut)
local macro_rules | `(tactic| walk_at "num") => `(tactic| first | rfl | omega | decide | exact Nat.le_of_lt (small1000 (by simp)) | exact ⟨by omega, by omega⟩ | exact ⟨by omega, by omega, by omega⟩ | exact ⟨by decide, by decide, by decide⟩ | exact Or.inl ⟨by omega, by omega⟩ | exact Or.inr ⟨by omega, by omega⟩)
local macro_rules | `(tactic| walk_at "go") => `(tactic| repeat (first | refine ⟨_, rfl, ?_⟩ | refine ⟨_, _, rfl, rfl, ?_⟩ | refine ⟨_, _, rfl, ?_⟩ | (refine ⟨_, _, rfl, rfl, ?_, ?_⟩; focus walk_at "num") | refine Or.inl ⟨_, rfl, ?_⟩ | refine ⟨_, _, _, _, rfl, rfl, (by assumption), (by rfl), ?_⟩ | refine ⟨_, _, _, _, _, rfl, (by assumption), (by assumption), (by assumption), (by rfl), ?_⟩ | refine ⟨rfl, ?_⟩ | (refine And.intro ?_ ?_; focus walk_at "num")))
abbrev s_exchange : Stmt := topS 24
abbrev N_exchange : List Str := ["_law_draws_here", "_law_place", "_law_most", "_law_shape", "_law_bits", "_law_menu", "_law_size", "_law_k", "_law_fates"]
abbrev P_exchange : List Str := ["_law_draws_here", "_law_place", "_law_most"]
theorem sc_exchange : FnScope N_exchange P_exchange (defScope s_exchange) := ⟨rfl, rfl, rfl, by decide +kernel, rfl, by decide +kernel, by decide +kernel⟩
def menu8 : List V := [.str "bfsn", .str "bfsn", .str "bfsn", .str "sn", .str "fn", .str "n", .str "bfsnnnn", .str "bbbfs"]
def menus : List (List Nat) := [[98, 102, 115, 110], [98, 102, 115, 110], [98, 102, 115, 110], [115, 110], [102, 110], [110], [98, 102, 115, 110, 110, 110, 110], [98, 98, 98, 102, 115]]
theorem menu8_at : ∀ i, i < 8 → atI menu8 ((i : Nat) : Int) = some (.str (S (menus.getD i []))) := by decide +kernel
theorem menus_ok : ∀ i, i < 8 → 0 < (menus.getD i []).length ∧ (menus.getD i []).length ≤ 7 ∧ (menus.getD i []).all isF = true := by decide +kernel
theorem sum_one : ∀ l : List Nat, (l.map fun _ => 1).sum = l.length
  | [] => rfl
  | _ :: r => by
    rw [List.map_cons, List.sum_cons, sum_one r, List.length_cons]
    omega
theorem join_one : ∀ l : List Nat, TL.joinL [] (l.map fun c => [c]) = l
  | [] => rfl
  | [c] => rfl
  | c :: d :: r => by
    have ih := join_one (d :: r)
    show [c] ++ ([] ++ TL.joinL [] ((d :: r).map fun c => [c])) = _
    rw [ih]
    rfl
section
variable {P : Program} {w : World} {K : PySem.W.Frag} {mg : Str → Option Value} {base : Heap} {f : Addr} {fd : FuncData}
/-- a drawn exchange -/
def Drawn (x y : Int) (l : List Nat) : Prop := (x = 0 ∨ x = 1) ∧ (y = 0 ∨ y = 1) ∧ Fts l ∧ l.length ≤ 60
def spLex (K : PySem.W.Frag) : Sp := fun vs H Q _ => ∃ (a p : Addr) (n : Nat) (ds : List Int) (mo : Int), vs = [.ref a, .ref p, .int mo] ∧ Tk K a p ds n H H ∧ 6 ≤ mo ∧ mo ≤ 60 ∧ ∀ (t : Addr) (x y : Int) (l : List Nat) H', Tk K a p ds n H H' → H t = none → H' t = some (.tup (exL x y l)) → Drawn x y l → Q (.ref t) H'
theorem ok_exchange (F : FnP K "_law_exchange" s_exchange f fd) (m_int : mg "int" = none) (m_len : mg "len" = none) (m_range : mg "range" = none) (c_take : Cal P w K mg base 1 "_law_take" (spTake K)) : FnOk P w K mg base CX0 2 f fd P_exchange (spLex K) := by
  refine F.ok sc_exchange (fun vs H Q E h => ?_) (fun cdv A outer s H vs Q E hr h => ?_)
  · obtain ⟨a, p, n, ds, mo, rfl, _⟩ := h
    rfl
  · obtain ⟨a, p, n, ds, mo, rfl, hT, m0, m1, q⟩ := h
    refine ⟨_, PSs.nox (pss_cons (ps_set (i := 3) sc_exchange.nd rfl (by first | exact .inl rfl | exact .inr rfl) (pe_cl c_take hr (by decide) (by rfl) (pa_cons (pv 0) (pa_cons (pv 1) pa_nil))))
      (pss_cons (ps_set (i := 4) sc_exchange.nd rfl (by first | exact .inl rfl | exact .inr rfl) (pe_cl c_take hr (by decide) (by rfl) (pa_cons (pv 0) (pa_cons (pv 1) pa_nil))))
      (pss_cons (ps_set (i := 5) sc_exchange.nd rfl (by first | exact .inl rfl | exact .inr rfl) (pe_ix ix_list (pe_lst (pa_cons pe_str (pa_cons pe_str (pa_cons pe_str (pa_cons pe_str (pa_cons pe_str (pa_cons pe_str (pa_cons pe_str (pa_cons pe_str pa_nil))))))))) (pe_op op_mod (pe_callTy call_int1 (by rfl) m_int (by decide +kernel) (pa_cons (pe_cl c_take hr (by decide) (by rfl) (pa_cons (pv 0) (pa_cons (pv 1) pa_nil))) pa_nil)) pe_int) (fun _ _ => rfl)))
      (pss_cons (ps_set (i := 6) sc_exchange.nd rfl (by first | exact .inl rfl | exact .inr rfl) (pe_op op_mod (pe_callTy call_int1 (by rfl) m_int (by decide +kernel) (pa_cons (pv 3) pa_nil)) pe_int))
      (pss_cut (ps_if (pt_cmpR op_eq (pe_op op_mod (pe_callTy call_int1 (by rfl) m_int (by decide +kernel) (pa_cons (pe_op op_fdiv (pv 3) pe_int) pa_nil)) pe_int) pe_int (nomark _)) (pss_one (ps_set (i := 6) sc_exchange.nd rfl (by first | exact .inl rfl | exact .inr rfl) (pe_op op_mod (pe_callTy call_int1 (by rfl) m_int (by decide +kernel) (pa_cons (pe_op op_fdiv (pv 3) pe_int) pa_nil)) (pe_op op_add (pv 2) pe_int)))) pss_nil)
      (pss_cons (ps_set (i := 8) sc_exchange.nd rfl (by first | exact .inl rfl | exact .inr rfl) (pe_join pe_str (pe_lc (own := [("_law_k", 7)]) (g := (gName 7)) (tt := tYes) (by rfl) sc_exchange.nd (pi_range1 (by rfl) m_range (pa_cons (pv 6) pa_nil)) (blkOk_by (own := [("_law_k", 7)]) (N := N_exchange) (sc := defScope s_exchange) (by decide +kernel)) (fun _ _ _ _ _ => (pg_name (i := 7) sc_exchange.nd rfl (by first | exact .inl rfl | exact .inr rfl))) (fun _ _ _ _ _ => pts_nil) (fun _ _ _ _ _ => (pe_ix ix_str (pv 5) (pe_op op_mod (pe_callTy call_int1 (by rfl) m_int (by decide +kernel) (pa_cons (pe_cl c_take hr (by decide) (by rfl) (pa_cons (pv 0) (pa_cons (pv 1) pa_nil))) pa_nil)) (pe_callB call_len_str (by rfl) m_len PySem.boot_len (pa_cons (pv 5) pa_nil))) (fun _ _ => rfl))))))
      (pss_one (ps_ret (pe_tup (pa_cons (pe_op op_mod (pe_callTy call_int1 (by rfl) m_int (by decide +kernel) (pa_cons (pv 4) pa_nil)) pe_int) (pa_cons (pe_op op_mod (pe_callTy call_int1 (by rfl) m_int (by decide +kernel) (pa_cons (pe_op op_fdiv (pv 4) pe_int) pa_nil)) pe_int) (pa_cons (pv 8) pa_nil)))))))))))), ?_⟩
    obtain ⟨mm, em⟩ := hT.pl
    walk_at "go"
    refine ⟨a, p, n, mm, ds, rfl, SqL.of hT.hA, hT.hd, em, hT.ne, fun r r0 r1 => ?_⟩
    obtain ⟨hT1, _⟩ := hT.next em
    generalize upd H p (.lst [.int ((mm + 1 : Nat) : Int)]) = H1 at hT1
    obtain ⟨m1, em1⟩ := hT1.pl
    walk_at "go"
    refine ⟨a, p, n, m1, ds, rfl, SqL.of hT1.hA, hT1.hd, em1, hT1.ne, fun r2 r20 r21 => ?_⟩
    obtain ⟨hT2, _⟩ := hT1.next em1
    generalize upd H1 p (.lst [.int ((m1 + 1 : Nat) : Int)]) = H2 at hT2
    walk_at "go"
    intro L8 nL8
    generalize eH_ : upd H2 L8 _ = H3
    have s3 : Same H2 H3 := by rw [← eH_]; exact same_new nL8
    have eL8 : H3 L8 = some (.lst menu8) := by rw [← eH_]; exact upd_same
    clear eH_
    have hT3 := hT2.more s3
    obtain ⟨m3, em3⟩ := hT3.pl
    walk_at "go"
    refine ⟨a, p, n, m3, ds, rfl, SqL.of hT3.hA, hT3.hd, em3, hT3.ne, fun r3 r30 r31 => ?_⟩
    obtain ⟨hT4, sb4⟩ := hT3.next em3
    have pL : L8 ≠ p := fun z => by rw [z, em3] at eL8; cases eL8
    have eL4 := sb4 _ _ pL eL8
    generalize upd H3 p (.lst [.int ((m3 + 1 : Nat) : Int)]) = H4 at hT4 eL4
    walk_at "go"
    obtain ⟨i, ei, hi⟩ : ∃ i : Nat, r3 % 8 = (i : Int) ∧ i < 8 := ⟨(r3 % 8).toNat, by omega, by omega⟩
    refine ⟨L8, menu8, r3 % 8, _, rfl, rfl, SqL.of eL4, by rw [ei]; exact menu8_at i hi, ?_⟩
    obtain ⟨mo1, mo2, mo3⟩ := menus_ok i hi
    generalize menus.getD i [] = ml at mo1 mo2 mo3
    have mo3 : Fts ml := fun c hc => List.all_eq_true.mp mo3 c hc
    dsimp only [List.set]
    walk_at "go"
    refine ⟨fun σ J => J = H4 ∧ ∃ sz : Nat, sz ≤ 60 ∧ σ = [some (.ref a), some (.ref p), some (.int mo), some (.int r), some (.int r2), some (.str (S ml)), some (.int sz), none, none], ?_, ?_⟩
    · walk_at "go"
      refine ite2 (fun e => ?_) (fun e => ?_)
      · walk_at "go"
        have z0 := Int.emod_nonneg (r / 28) (show mo + 1 ≠ 0 by omega)
        have z1 := Int.emod_lt_of_pos (r / 28) (show 0 < mo + 1 by omega)
        exact ⟨(r / 28 % (mo + 1)).toNat, by omega, by rw [Int.toNat_of_nonneg z0]; rfl⟩
      · walk_at "go"
        exact ⟨(r % 7).toNat, by omega, by rw [Int.toNat_of_nonneg (by omega)]; rfl⟩
    rintro σ J ⟨rfl, sz, hsz, rfl⟩
    have hlen : (S ml).length ≤ sizeLine := by rw [S_len]; exact szl (by omega)
    walk_at "go"
    refine ⟨⟨_, rfl⟩, ?_⟩
    walk_at "go"
    intro D nD
    refine lc_gen (n := sz) (fun i J1 => Tk K a p ds n H J1 ∧ ∃ l : List Nat, J1 D = some (.lst (l.map fun c => V.str (S [c]))) ∧ l.length = i ∧ Fts l) ⟨hT4.more (same_new nD), [], upd_same, rfl, fun c h => nomatch h⟩ ?_ ?_ ?_ ?_
    · intro i J1 hi _
      show i < (sz : Int).toNat
      omega
    · intro J1 _
      show (sz : Int).toNat ≤ sz
      omega
    · rintro i J1 x J2 hi ⟨hT5, l, eD, ll, hf⟩ ⟨rfl, rfl⟩
      obtain ⟨m5, em5⟩ := hT5.pl
      have pD : p ≠ D := fun z => by
        obtain ⟨m4, em4⟩ := hT4.pl
        rw [z, nD] at em4
        cases em4
      have aD : a ≠ D := fun z => by
        have := hT4.hA
        rw [z, nD] at this
        cases this
      walk_at "go"
      refine ⟨a, p, n, m5, ds, rfl, SqL.of hT5.hA, hT5.hd, em5, hT5.ne, fun r5 r50 r51 => ?_⟩
      obtain ⟨hT6, sb6⟩ := hT5.next em5
      have eD6 := sb6 _ _ pD.symm eD
      generalize upd J2 p (.lst [.int ((m5 + 1 : Nat) : Int)]) = J3 at hT6 eD6
      walk_at "go"
      rw [S_len]
      refine ⟨by show (0 : Int) < (ml.length : Int); omega, ?_⟩
      obtain ⟨j, ej, hj⟩ : ∃ j : Nat, r5 % (ml.length : Int) = (j : Int) ∧ j < ml.length := by
        have z0 := Int.emod_nonneg r5 (show (ml.length : Int) ≠ 0 by omega)
        have z1 := Int.emod_lt_of_pos r5 (show (0 : Int) < ml.length by omega)
        exact ⟨(r5 % (ml.length : Int)).toNat, by omega, by omega⟩
      have ea : atI (S ml).cps.toList (r5 % (ml.length : Int)) = some ml[j] := by
        rw [ej]
        exact atI_nat (by show ml[j]? = _; exact List.getElem?_eq_getElem hj)
      have hc := mo3 _ (List.getElem_mem hj)
      generalize ml[j] = c at ea hc
      refine ⟨S ml, _, c, rfl, rfl, hlen, ea, ?_⟩
      refine ⟨_, eD6, by rw [List.length_map]; exact szlt (by omega), hT6.at_ (hT4.nn nD) pD aD, l ++ [c], by rw [upd_same, List.map_append]; rfl, by rw [List.length_append, ll]; rfl, fun x hx => ?_⟩
      rcases List.mem_append.mp hx with h | h
      · exact hf x h
      · rw [List.mem_singleton.mp h]
        exact hc
    rintro J1 ⟨hT5, l, eD, ll, hf⟩
    walk_at "go"
    refine ⟨S [], D, l.map fun c => S [c], rfl, rfl, .inl (SqL.of (by rw [List.map_map]; exact eD)), ?_, ?_⟩
    · rw [List.map_map]
      have e : (l.map ((fun x : Str => x.length) ∘ fun c => S [c])) = l.map fun _ => 1 := List.map_congr_left fun c _ => S_len _
      rw [e, sum_one, List.length_map, S_len]
      simp
      omega
    rw [show (l.map fun c => S [c]) = (l.map fun c => [c]).map S by rw [List.map_map]; rfl, SX.join_S, join_one]
    walk_at "go"
    intro t nt
    refine q t (r2 % 2) (r2 / 2 % 2) l _ (hT5.more (same_new nt)) (hT5.nn nt) upd_same ⟨?_, ?_, hf, by omega⟩
    · omega
    · omega
theorem bfsn4_at : ∀ i, i < 4 → ∃ c, atI (Str.ofString "bfsn").cps.toList ((i : Nat) : Int) = some c ∧ isF c = true := by
  intro i hi
  match i, hi with
  | 0, _ => exact ⟨98, by decide +kernel, rfl⟩
  | 1, _ => exact ⟨102, by decide +kernel, rfl⟩
  | 2, _ => exact ⟨115, by decide +kernel, rfl⟩
  | 3, _ => exact ⟨110, by decide +kernel, rfl⟩
  | n + 4, h => exact absurd h (by omega)
theorem Fts.app {l r : List Nat} (h : Fts l) (k : Fts r) : Fts (l ++ r) := fun c hc => (List.mem_append.mp hc).elim (h c) (k c)
theorem Fts.take {l : List Nat} (i : Nat) (h : Fts l) : Fts (l.take i) := fun c hc => h c (List.mem_of_mem_take hc)
theorem Fts.drop {l : List Nat} (i : Nat) (h : Fts l) : Fts (l.drop i) := fun c hc => h c (List.mem_of_mem_drop hc)
theorem Fts.one {c : Nat} (h : isF c = true) : Fts [c] := fun x hx => by rw [List.mem_singleton.mp hx]; exact h
end
end Z
set_option pp.maxSteps 700
set_option Elab.async false
set_option linter.all false
set_option maxRecDepth 100000
set_option maxHeartbeats 4000000
open SX (S S_inj S_len S_cat)
namespace Z
open PySem PySem.Spec PyProof.Rows L2
open C8 (pss_cut tCut)
local macro_rules | `(tactic| walk_at "num") => `(tactic| first | rfl | omega | decide | exact Nat.le_of_lt (small1000 (by simp)) | exact ⟨by omega, by omega⟩ | exact ⟨by omega, by omega, by omega⟩ | exact ⟨by decide, by decide, by decide⟩ | exact Or.inl ⟨by omega, by omega⟩ | exact Or.inr ⟨by omega, by omega⟩)
local macro_rules | `(tactic| walk_at "go") => `(tactic| repeat (first | refine ⟨_, rfl, ?_⟩ | refine ⟨_, _, rfl, rfl, ?_⟩ | refine ⟨_, _, rfl, ?_⟩ | (refine ⟨_, _, rfl, rfl, ?_, ?_⟩; focus walk_at "num") | refine Or.inl ⟨_, rfl, ?_⟩ | refine ⟨_, _, _, _, rfl, rfl, (by assumption), (by rfl), ?_⟩ | refine ⟨_, _, _, _, _, rfl, (by assumption), (by assumption), (by assumption), (by rfl), ?_⟩ | refine ⟨rfl, ?_⟩ | (refine And.intro ?_ ?_; focus walk_at "num")))
abbrev s_wrong_end : Stmt := topS 27
abbrev N_wrong_end : List Str := ["_law_draw", "_law_ends", "_law_end", "_law_at", "_law_signs"]
abbrev P_wrong_end : List Str := ["_law_draw"]
theorem sc_wrong_end : FnScope N_wrong_end P_wrong_end (defScope s_wrong_end) := ⟨rfl, rfl, rfl, by decide +kernel, rfl, by decide +kernel, by decide +kernel⟩
def signsS : Str := "ABCDEFGHIJKLMNOPQRSTUVWXYZ0123456789 !&*+-./:;<=>?@^_|~"
theorem txt_at (z : Str) {i : Nat} (h : i < z.cps.toList.length) : ∃ c, atI z.cps.toList (i : Int) = some c ∧ c ∈ z.cps.toList := ⟨_, atI_nat (List.getElem?_eq_getElem h), List.getElem_mem h⟩
theorem signsS_len : signsS.length = 55 ∧ signsS.cps.toList.length = 55 := by decide +kernel
theorem signsS_no : ∀ c ∈ signsS.cps.toList, ¬ (97 ≤ c ∧ c ≤ 122) := by decide +kernel
def ends14 : List V := [.str "", .str "First", .str "SECOND", .str "third", .str "f", .str "s", .str "b", .str "first ", .str " second", .str "firstsecond", .str "firs", .str "econd", .str "0", .str "both"]
def endsS : List Str := ["", "First", "SECOND", "third", "f", "s", "b", "first ", " second", "firstsecond", "firs", "econd", "0", "both"]
theorem ends14_at : ∀ i, i < 14 → atI ends14 ((i : Nat) : Int) = some (.str (endsS.getD i "")) := by decide +kernel
theorem ends14_no : ∀ i, i < 14 → ¬ (endsS.getD i "" = eS false ∨ endsS.getD i "" = eS true) := by decide +kernel
def eL (e : Bool) : List Nat := if e then [115, 101, 99, 111, 110, 100] else [102, 105, 114, 115, 116]
theorem eS_S : ∀ e, eS e = S (eL e) := by decide +kernel
theorem eL_low : ∀ e, ∀ c ∈ eL e, 97 ≤ c ∧ c ≤ 122 := by decide +kernel
theorem ends2_at : ∀ i, i < 2 → atI [V.str "first", V.str "second"] ((i : Nat) : Int) = some (.str (S (eL (decide (i = 1))))) := by decide +kernel
theorem eL_len (e : Bool) : (eL e).length ≤ 6 := by cases e <;> decide
section
variable {P : Program} {w : World} {K : PySem.W.Frag} {mg : Str → Option Value} {base : Heap} {f : Addr} {fd : FuncData}
def spWE : Sp := fun vs H Q _ => ∃ d : Int, vs = [.int d] ∧ 0 ≤ d ∧ ∀ (z : Str) H', Same H H' → ¬ (z = eS false ∨ z = eS true) → Q (.str z) H'
theorem ok_wrong_end (F : FnP K "_law_wrong_end" s_wrong_end f fd) (m_int : mg "int" = none) (m_len : mg "len" = none) : FnOk P w K mg base CX0 1 f fd P_wrong_end spWE := by
  refine F.ok sc_wrong_end (fun vs H Q E h => ?_) (fun cdv A outer s H vs Q E hr h => ?_)
  · obtain ⟨d, rfl, _⟩ := h
    rfl
  · obtain ⟨d, rfl, d0, q⟩ := h
    refine ⟨_, PSs.nox (pss_cons (ps_set (i := 1) sc_wrong_end.nd rfl (by first | exact .inl rfl | exact .inr rfl) (pe_lst (pa_cons pe_str (pa_cons pe_str (pa_cons pe_str (pa_cons pe_str (pa_cons pe_str (pa_cons pe_str (pa_cons pe_str (pa_cons pe_str (pa_cons pe_str (pa_cons pe_str (pa_cons pe_str (pa_cons pe_str (pa_cons pe_str pa_nil)))))))))))))))
      (pss_cons (ps_expr (pe_bm PySem.F.plainAttrs_list PySem.F.slot_list_append PySem.F.type_list_append mt_append (pv 1) (pa_cons pe_str pa_nil)))
      (pss_cons (ps_if (pt_cmpR op_eq (pe_op op_mod (pe_callTy call_int1 (by rfl) m_int (by decide +kernel) (pa_cons (pe_op op_fdiv (pv 0) pe_int) pa_nil)) pe_int) pe_int (nomark _)) (pss_one (ps_ret (pe_ix ix_list (pv 1) (pe_op op_mod (pe_callTy call_int1 (by rfl) m_int (by decide +kernel) (pa_cons (pv 0) pa_nil)) pe_int) (fun _ _ => rfl)))) pss_nil)
      (pss_cons (ps_set (i := 2) sc_wrong_end.nd rfl (by first | exact .inl rfl | exact .inr rfl) (pe_ix ix_list (pe_lst (pa_cons pe_str (pa_cons pe_str pa_nil))) (pe_op op_mod (pe_callTy call_int1 (by rfl) m_int (by decide +kernel) (pa_cons (pv 0) pa_nil)) pe_int) (fun _ _ => rfl)))
      (pss_cons (ps_set (i := 3) sc_wrong_end.nd rfl (by first | exact .inl rfl | exact .inr rfl) (pe_op op_mod (pe_callTy call_int1 (by rfl) m_int (by decide +kernel) (pa_cons (pe_op op_fdiv (pv 0) pe_int) pa_nil)) (pe_op op_add (pe_callB call_len_str (by rfl) m_len PySem.boot_len (pa_cons (pv 2) pa_nil)) pe_int)))
      (pss_cons (ps_set (i := 4) sc_wrong_end.nd rfl (by first | exact .inl rfl | exact .inr rfl) pe_str)
      (pss_one (ps_ret (pe_op op_add_str (pe_op op_add_str (pe_slice C8.sl_txt (pv 2) po_none (po_some (pv 3))) (pe_ix ix_str (pv 4) (pe_op op_mod (pe_callTy call_int1 (by rfl) m_int (by decide +kernel) (pa_cons (pe_op op_fdiv (pv 0) pe_int) pa_nil)) (pe_callB call_len_str (by rfl) m_len PySem.boot_len (pa_cons (pv 4) pa_nil))) (fun _ _ => rfl))) (pe_slice C8.sl_txt (pv 2) (po_some (pe_op op_add (pv 3) (pe_op op_mod (pe_callTy call_int1 (by rfl) m_int (by decide +kernel) (pa_cons (pe_op op_fdiv (pv 0) pe_int) pa_nil)) pe_int))) po_none)))))))))), ?_⟩
    walk_at "go"
    intro L13 nL13
    generalize eH_ : upd H L13 _ = H1
    have s1 : Same H H1 := by rw [← eH_]; exact same_new nL13
    have eL13 : H1 L13 = some (.lst (ends14.take 13)) := by rw [← eH_]; exact upd_same
    clear eH_
    walk_at "go"
    refine ⟨.inl ⟨rfl, _, SqL.of eL13⟩, ?_⟩
    walk_at "go"
    refine ⟨L13, _, _, rfl, rfl, eL13, by decide, ?_⟩
    have s2 : Same H (upd H1 L13 (.lst ends14)) := Z.Same.mut s1 nL13
    have eE2 : (upd H1 L13 (.lst ends14)) L13 = some (.lst ends14) := upd_same
    show tSeq _ _ _ _ (upd H1 L13 (.lst ends14))
    generalize upd H1 L13 (.lst ends14) = H2 at s2 eE2
    walk_at "go"
    refine ite2 (fun e => ?_) (fun e => ?_)
    · walk_at "go"
      obtain ⟨i, ei, hi⟩ : ∃ i : Nat, d % 14 = (i : Int) ∧ i < 14 := ⟨(d % 14).toNat, by omega, by omega⟩
      refine ⟨L13, ends14, d % 14, _, rfl, rfl, SqL.of eE2, by rw [ei]; exact ends14_at i hi, ?_⟩
      exact q _ _ s2 (ends14_no i hi)
    walk_at "go"
    intro M2 nM2
    generalize eH_ : upd H2 M2 _ = H3
    have s3 : Same H2 H3 := by rw [← eH_]; exact same_new nM2
    have eM2 : H3 M2 = some (.lst [.str "first", .str "second"]) := by rw [← eH_]; exact upd_same
    clear eH_
    walk_at "go"
    obtain ⟨i, ei, hi⟩ : ∃ i : Nat, d % 2 = (i : Int) ∧ i < 2 := ⟨(d % 2).toNat, by omega, by omega⟩
    refine ⟨M2, _, d % 2, _, rfl, rfl, SqL.of eM2, by rw [ei]; exact ends2_at i hi, ?_⟩
    have hl := eL_len (decide (i = 1))
    generalize eL (decide (i = 1)) = l at hl
    have hlen : (S l).length ≤ sizeLine := by rw [S_len]; exact szl (by omega)
    have slen : signsS.length ≤ sizeLine := by rw [signsS_len.1]; exact szl (by decide)
    walk_at "go"
    rw [S_len]
    obtain ⟨k, ek, hk⟩ : ∃ k : Nat, d / 28 % ((l.length : Int) + 1) = (k : Int) ∧ k ≤ l.length := by
      have z0 := Int.emod_nonneg (d / 28) (show (l.length : Int) + 1 ≠ 0 by omega)
      have z1 := Int.emod_lt_of_pos (d / 28) (show (0 : Int) < l.length + 1 by omega)
      exact ⟨(d / 28 % ((l.length : Int) + 1)).toNat, by omega, by omega⟩
    dsimp only [List.set]
    walk_at "go"
    simp only [S_len]
    have sl : (Str.ofString "ABCDEFGHIJKLMNOPQRSTUVWXYZ0123456789 !&*+-./:;<=>?@^_|~").1.toList.length = 55 := signsS_len.2
    rw [ek, SX.slice_to (by omega), Int.toNat_natCast, sl]
    obtain ⟨c, ec, hc⟩ := txt_at signsS (i := (d / 196 % 55).toNat) (by rw [signsS_len.2]; omega)
    have hc := signsS_no c hc
    refine ⟨signsS, d / 196 % 55, c, rfl, rfl, slen, by rw [show d / 196 % 55 = ((d / 196 % 55).toNat : Int) by omega]; exact ec, ?_⟩
    have l1 : (l.take k).length ≤ 6 := by rw [List.length_take]; omega
    walk_at "go"
    refine ⟨by rw [S_len]; exact szl (show (l.take k).length + 1 ≤ 2000 by omega), ?_⟩
    rw [show (⟨#[c]⟩ : Str) = S [c] from rfl, S_cat]
    walk_at "go"
    have l2 : (l.drop ((k : Int) + d / 2 % 2).toNat).length ≤ 6 := by rw [List.length_drop]; omega
    rw [SX.slice_from (by omega), S_len, S_len]
    refine ⟨szl (show (l.take k ++ [c]).length + (l.drop _).length ≤ 2000 by rw [List.length_append]; show (l.take k).length + 1 + _ ≤ _; omega), ?_⟩
    rw [S_cat]
    refine q _ _ (s2.trans s3) fun z => ?_
    have key : ∀ e, S (l.take k ++ [c] ++ l.drop ((k : Int) + d / 2 % 2).toNat) ≠ eS e := fun e z => by
      rw [eS_S] at z
      have z := S_inj z
      refine hc (eL_low e c ?_)
      rw [← z]
      simp
    exact z.elim (key false) (key true)
end
end Z
set_option pp.maxSteps 700
set_option Elab.async false
set_option linter.all false
set_option maxRecDepth 100000
set_option maxHeartbeats 4000000
open SX (S S_inj S_len S_cat)
namespace Z
open PySem PySem.Spec PyProof.Rows L2
open C8 (pss_cut tCut)
local macro_rules | `(tactic| walk_at "num") => `(tactic| first | rfl | omega | decide | exact Nat.le_of_lt (small1000 (by simp)) | exact ⟨by omega, by omega⟩ | exact ⟨by omega, by omega, by omega⟩ | exact ⟨by decide, by decide, by decide⟩ | exact Or.inl ⟨by omega, by omega⟩ | exact Or.inr ⟨by omega, by omega⟩)
local macro_rules | `(tactic| walk_at "go") => `(tactic| repeat (first | refine ⟨_, rfl, ?_⟩ | refine ⟨_, _, rfl, rfl, ?_⟩ | refine ⟨_, _, rfl, ?_⟩ | (refine ⟨_, _, rfl, rfl, ?_, ?_⟩; focus walk_at "num") | refine Or.inl ⟨_, rfl, ?_⟩ | refine ⟨_, _, _, _, rfl, rfl, (by assumption), (by rfl), ?_⟩ | refine ⟨_, _, _, _, _, rfl, (by assumption), (by assumption), (by assumption), (by rfl), ?_⟩ | refine ⟨rfl, ?_⟩ | (refine And.intro ?_ ?_; focus walk_at "num")))
abbrev s_view : Stmt := topS 25
abbrev N_view : List Str := ["_law_exchange_here", "_law_end", "_law_own", "_law_other", "_law_heard", "_law_last", "_law_at"]
abbrev P_view : List Str := ["_law_exchange_here", "_law_end"]
theorem sc_view : FnScope N_view P_view (defScope s_view) := ⟨rfl, rfl, rfl, by decide +kernel, rfl, by decide +kernel, by decide +kernel⟩
abbrev s_is_number : Stmt := topS 28
abbrev N_is_number : List Str := ["_law_told", "_law_due"]
abbrev P_is_number : List Str := ["_law_told", "_law_due"]
theorem sc_is_number : FnScope N_is_number P_is_number (defScope s_is_number) := ⟨rfl, rfl, rfl, by decide +kernel, rfl, by decide +kernel, by decide +kernel⟩
abbrev s_is_view : Stmt := topS 29
abbrev N_is_view : List Str := ["_law_told", "_law_due"]
abbrev P_is_view : List Str := ["_law_told", "_law_due"]
theorem sc_is_view : FnScope N_is_view P_is_view (defScope s_is_view) := ⟨rfl, rfl, rfl, by decide +kernel, rfl, by decide +kernel, by decide +kernel⟩
def lI : Option Nat → Int
  | none => -1
  | some j => j
def hL (e : Bool) : List Nat := [98, if e then 115 else 102]
theorem hL_in (e : Bool) (c : Nat) : decide (c ∈ hL e) = hrd e c := by
  unfold hL hrd
  simp only [List.mem_cons, List.not_mem_nil, or_false, Bool.decide_or]
theorem bf_str : Str.ofString "bf" = S (hL false) := by decide +kernel
theorem bs_str : Str.ofString "bs" = S (hL true) := by decide +kernel
section
variable {P : Program} {w : World} {K : PySem.W.Frag} {mg : Str → Option Value} {base : Heap} {f C : Addr} {fd : FuncData}
def spView (K : PySem.W.Frag) : Sp := fun vs H Q _ => ∃ (o : Addr) (e : Bool) (x y : Int) (l : List Nat), vs = [.ref o, .str (eS e)] ∧ H o = some (.tup (exL x y l)) ∧ l.length ≤ 1000 ∧ ∀ p H', Same H H' → H p = none → H' p = some (.tup (vwL (vw x y l e))) → Q (.ref p) H'
theorem ok_view (F : FnP K "_law_view" s_view f fd) (m_len : mg "len" = none) (m_range : mg "range" = none) : FnOk P w K mg base CX0 1 f fd P_view (spView K) := by
  refine F.ok sc_view (fun vs H Q E h => ?_) (fun cdv A outer s H vs Q E hr h => ?_)
  · obtain ⟨o, e, x, y, l, rfl, _⟩ := h
    rfl
  · obtain ⟨o, e, x, y, l, rfl, ho, ll, q⟩ := h
    refine ⟨_, PSs.nox (pss_cons (ps_set (i := 2) sc_view.nd rfl (by first | exact .inl rfl | exact .inr rfl) (pe_ix ix_tup (pv 0) pe_int (fun _ _ => rfl)))
      (pss_cons (ps_set (i := 3) sc_view.nd rfl (by first | exact .inl rfl | exact .inr rfl) (pe_ix ix_tup (pv 0) pe_int (fun _ _ => rfl)))
      (pss_cons (ps_set (i := 4) sc_view.nd rfl (by first | exact .inl rfl | exact .inr rfl) pe_str)
      (pss_cut (ps_if (pt_cmpR op_eq (pv 1) pe_str (nomark _)) (pss_cons (ps_set (i := 2) sc_view.nd rfl (by first | exact .inl rfl | exact .inr rfl) (pe_ix ix_tup (pv 0) pe_int (fun _ _ => rfl)))
      (pss_cons (ps_set (i := 3) sc_view.nd rfl (by first | exact .inl rfl | exact .inr rfl) (pe_ix ix_tup (pv 0) pe_int (fun _ _ => rfl)))
      (pss_one (ps_set (i := 4) sc_view.nd rfl (by first | exact .inl rfl | exact .inr rfl) pe_str)))) pss_nil)
      (pss_cons (ps_set (i := 5) sc_view.nd rfl (by first | exact .inl rfl | exact .inr rfl) (pe_un un_neg pe_int))
      (pss_cons (ps_for PassesOwn.never rfl (pi_range1 (by rfl) m_range (pa_cons (pe_callB call_len_str (by rfl) m_len PySem.boot_len (pa_cons (pe_ix ix_tup (pv 0) pe_int (fun _ _ => rfl)) pa_nil)) pa_nil)) (pg_name (i := 6) sc_view.nd rfl (by first | exact .inl rfl | exact .inr rfl))
        (pss_one (ps_if (pt_cmpR op_in_sign (pe_ix ix_str (pe_ix ix_tup (pv 0) pe_int (fun _ _ => rfl)) (pv 6) (fun _ _ => rfl)) (pv 4) (by rfl)) (pss_one (ps_set (i := 5) sc_view.nd rfl (by first | exact .inl rfl | exact .inr rfl) (pv 6))) pss_nil)))
      (pss_cons (ps_if (pt_cmpR op_lt (pv 5) pe_int (nomark _)) (pss_one (ps_ret (pe_tup (pa_cons (pv 2) (pa_cons pe_non (pa_cons pe_str (pa_cons (pe_callB call_len_str (by rfl) m_len PySem.boot_len (pa_cons (pe_ix ix_tup (pv 0) pe_int (fun _ _ => rfl)) pa_nil)) pa_nil))))))) pss_nil)
      (pss_one (ps_ret (pe_tup (pa_cons (pv 2) (pa_cons (pv 3) (pa_cons (pe_slice C8.sl_txt (pe_ix ix_tup (pv 0) pe_int (fun _ _ => rfl)) po_none (po_some (pv 5))) (pa_cons (pe_op op_sub (pe_op op_sub (pe_callB call_len_str (by rfl) m_len PySem.boot_len (pa_cons (pe_ix ix_tup (pv 0) pe_int (fun _ _ => rfl)) pa_nil)) pe_int) (pv 5)) pa_nil)))))))))))))), ?_⟩
    have hlen : (S l).length ≤ sizeLine := by rw [S_len]; exact szl (by omega)
    walk_at "go"
    refine ⟨o, _, _, _, rfl, rfl, SqT.of ho, at_0, ?_⟩
    walk_at "go"
    refine ⟨o, _, _, _, rfl, rfl, SqT.of ho, at_1, ?_⟩
    walk_at "go"
    refine ⟨fun σ J => J = H ∧ ∃ ow ot, (ow = if e then y else x) ∧ (ot = if e then x else y) ∧ σ = [some (.ref o), some (.str (eS e)), some (.int ow), some (.int ot), some (.str (S (hL e))), none, none], ?_, ?_⟩
    · cases e
      · walk_at "go"
        rw [bf_str]
        rfl
      · walk_at "go"
        refine ⟨o, _, _, _, rfl, rfl, SqT.of ho, at_1, ?_⟩
        walk_at "go"
        refine ⟨o, _, _, _, rfl, rfl, SqT.of ho, at_0, ?_⟩
        walk_at "go"
        rw [bs_str]
        rfl
    rintro σ J ⟨rfl, ow, ot, eo, eu, rfl⟩
    walk_at "go"
    refine ⟨o, _, _, _, rfl, rfl, SqT.of ho, at_2, ?_⟩
    walk_at "go"
    rw [S_len]
    walk_at "go"
    refine for_gen (n := l.length) (fun i σ J1 => J1 = J ∧ ∃ v6, σ = [some (.ref o), some (.str (eS e)), some (.int ow), some (.int ot), some (.str (S (hL e))), some (.int (lI (lst (hrd e) l i))), v6]) ⟨rfl, _, rfl⟩ ?_ ?_ ?_ ?_
    · intro i σ J1 hi _
      show i < (l.length : Int).toNat
      omega
    · intro σ J1 _
      show (l.length : Int).toNat ≤ l.length
      omega
    · rintro i σ J1 x' J2 hi ⟨rfl, v6, rfl⟩ ⟨rfl, rfl⟩
      have ec : l.getD i 0 = l[i] := by rw [List.getD_eq_getElem?_getD, List.getElem?_eq_getElem hi]; rfl
      have ea : atI (S l).cps.toList (0 + (i : Int)) = some l[i] := by
        rw [Int.zero_add]
        exact atI_nat (by show l[i]? = _; exact List.getElem?_eq_getElem hi)
      rw [lst_succ, ec]
      generalize l[i] = c at ea
      walk_at "go"
      refine ⟨o, _, _, _, rfl, rfl, SqT.of ho, at_2, ?_⟩
      walk_at "go"
      refine ⟨S l, _, c, rfl, rfl, hlen, ea, ?_⟩
      walk_at "go"
      rw [show (S (hL e)).cps.toList = hL e from rfl, hL_in]
      by_cases hc : hrd e c = true
      · rw [hc, if_pos rfl]
        walk_at "go"
        exact ⟨some (.int (0 + (i : Int))), by rw [show lI (some i) = 0 + (i : Int) from (Int.zero_add _).symm]; rfl⟩
      · rw [Bool.eq_false_iff.mpr hc, if_neg (by decide)]
        exact ⟨rfl, some (.int (0 + (i : Int))), rfl⟩
    rintro σ J1 ⟨rfl, v6, rfl⟩
    cases el : lst (hrd e) l l.length with
    | none =>
      rw [show lI none = -1 from rfl]
      walk_at "go"
      refine ⟨o, _, _, _, rfl, rfl, SqT.of ho, at_2, ?_⟩
      walk_at "go"
      rw [S_len]
      intro p np
      refine q p _ (same_new np) np ?_
      rw [upd_same, vw_none el, eo]
      rfl
    | some i =>
      have il := lst_lt el
      rw [show lI (some i) = (i : Int) from rfl]
      walk_at "go"
      refine ⟨o, _, _, _, rfl, rfl, SqT.of ho, at_2, ?_⟩
      walk_at "go"
      rw [SX.slice_to (by omega), Int.toNat_natCast]
      refine ⟨o, _, _, _, rfl, rfl, SqT.of ho, at_2, ?_⟩
      walk_at "go"
      rw [S_len]
      intro p np
      refine q p _ (same_new np) np ?_
      rw [upd_same, vw_some el, eo, eu]
      rfl
def spNum : Sp := fun vs H Q _ => ∃ x : Int, vs = [.int x, .int x] ∧ Q (.bl true) H
theorem ok_is_number (F : FnP K "_law_is_number" s_is_number f fd) (m_isinstance : mg "isinstance" = none) (m_int : mg "int" = none) (m_bool : mg "bool" = none) : FnOk P w K mg base CX0 1 f fd P_is_number spNum := by
  refine F.ok sc_is_number (fun vs H Q E h => ?_) (fun cdv A outer s H vs Q E hr h => ?_)
  · obtain ⟨x, rfl, _⟩ := h
    rfl
  · obtain ⟨x, rfl, q⟩ := h
    refine ⟨_, PSs.nox (pss_one (ps_ret (pe_and (pe_callB call_isi (by rfl) m_isinstance (by decide +kernel) (pa_cons (pv 0) (pa_cons (pe_bltn (v := .ty "int") (by rfl) m_int (by decide +kernel) rfl) pa_nil))) (pe_and (pe_not (pe_callB call_isi (by rfl) m_isinstance (by decide +kernel) (pa_cons (pv 0) (pa_cons (pe_bltn (v := .ty "bool") (by rfl) m_bool (by decide +kernel) rfl) pa_nil)))) (pe_one (pe_cmpR op_eq (pv 0) (pv 1) (nomark _))))))), ?_⟩
    walk_at "go"
    refine isi (c := "int") (b := true) (.int x) (by decide +kernel) ?_
    walk_at "go"
    refine isi (c := "bool") (b := false) (.int x) (by decide +kernel) ?_
    walk_at "go"
    rw [decide_eq_true rfl]
    exact q
def spIsV : Sp := fun vs H Q _ => ∃ (p q : Addr) (v : Vw), vs = [.ref p, .ref q] ∧ H p = some (.tup (vwL v)) ∧ H q = some (.tup (vwL v)) ∧ Q (.bl true) H
theorem ok_is_view (F : FnP K "_law_is_view" s_is_view f fd) (m_isinstance : mg "isinstance" = none) (m_tuple : mg "tuple" = none) (m_len : mg "len" = none) (m_str : mg "str" = none) (c_is_number : Cal P w K mg base 1 "_law_is_number" spNum) : FnOk P w K mg base CX0 2 f fd P_is_view spIsV := by
  refine F.ok sc_is_view (fun vs H Q E h => ?_) (fun cdv A outer s H vs Q E hr h => ?_)
  · obtain ⟨p, u, v, rfl, _⟩ := h
    rfl
  · obtain ⟨p, u, v, rfl, hp, hu, q⟩ := h
    refine ⟨_, PSs.nox (pss_cons (ps_if (PW.pt (pw_or (pt_not (pt_val (pe_callB call_isi (by rfl) m_isinstance (by decide +kernel) (pa_cons (pv 0) (pa_cons (pe_bltn (v := .ty "tuple") (by rfl) m_tuple (by decide +kernel) rfl) pa_nil))))) (pw_or1 (pt_cmpR op_ne (pe_callB call_len_seq (by rfl) m_len PySem.boot_len (pa_cons (pv 0) pa_nil)) pe_int (nomark _))))) (pss_one (ps_ret pe_bl)) pss_nil)
      (pss_cons (ps_if (PW.pt (pw_and (pt_cmpR op_isN (pe_ix ix_tup (pv 1) pe_int (fun _ _ => rfl)) pe_non (nomark _)) (pw_and1 (pt_cmpR op_notN (pe_ix ix_tup (pv 0) pe_int (fun _ _ => rfl)) pe_non (nomark _))))) (pss_one (ps_ret pe_bl)) pss_nil)
      (pss_cons (ps_if (PW.pt (pw_and (pt_cmpR op_notN (pe_ix ix_tup (pv 1) pe_int (fun _ _ => rfl)) pe_non (nomark _)) (pw_and1 (pt_not (pt_val (pe_cl c_is_number hr (by decide) (by rfl) (pa_cons (pe_ix ix_tup (pv 0) pe_int (fun _ _ => rfl)) (pa_cons (pe_ix ix_tup (pv 1) pe_int (fun _ _ => rfl)) pa_nil)))))))) (pss_one (ps_ret pe_bl)) pss_nil)
      (pss_cons (ps_if (PW.pt (pw_or (pt_not (pt_val (pe_cl c_is_number hr (by decide) (by rfl) (pa_cons (pe_ix ix_tup (pv 0) pe_int (fun _ _ => rfl)) (pa_cons (pe_ix ix_tup (pv 1) pe_int (fun _ _ => rfl)) pa_nil))))) (pw_or1 (pt_not (pt_val (pe_cl c_is_number hr (by decide) (by rfl) (pa_cons (pe_ix ix_tup (pv 0) pe_int (fun _ _ => rfl)) (pa_cons (pe_ix ix_tup (pv 1) pe_int (fun _ _ => rfl)) pa_nil)))))))) (pss_one (ps_ret pe_bl)) pss_nil)
      (pss_one (ps_ret (pe_and (pe_callB call_isi (by rfl) m_isinstance (by decide +kernel) (pa_cons (pe_ix ix_tup (pv 0) pe_int (fun _ _ => rfl)) (pa_cons (pe_bltn (v := .ty "str") (by rfl) m_str (by decide +kernel) rfl) pa_nil))) (pe_one (pe_cmpR op_eq (pe_ix ix_tup (pv 0) pe_int (fun _ _ => rfl)) (pe_ix ix_tup (pv 1) pe_int (fun _ _ => rfl)) (nomark _)))))))))), ?_⟩
    walk_at "go"
    refine isi (c := "tuple") (b := true) (.tup hp) (by decide +kernel) ?_
    walk_at "go"
    refine ⟨p, _, rfl, .inr (SqT.of hp), ?_⟩
    walk_at "go"
    obtain ⟨a, ot, k, si⟩ := v
    cases ot with
    | none =>
      refine ⟨u, _, _, _, rfl, rfl, SqT.of hu, at_1, ?_⟩
      walk_at "go"
      refine ⟨p, _, _, _, rfl, rfl, SqT.of hp, at_1, ?_⟩
      walk_at "go"
      refine ⟨u, _, _, _, rfl, rfl, SqT.of hu, at_1, ?_⟩
      walk_at "go"
      refine ⟨p, _, _, _, rfl, rfl, SqT.of hp, at_0, ?_⟩
      walk_at "go"
      refine ⟨u, _, _, _, rfl, rfl, SqT.of hu, at_0, ?_⟩
      walk_at "go"
      refine ⟨p, _, _, _, rfl, rfl, SqT.of hp, at_3, ?_⟩
      walk_at "go"
      refine ⟨u, _, _, _, rfl, rfl, SqT.of hu, at_3, ?_⟩
      walk_at "go"
      refine ⟨p, _, _, _, rfl, rfl, SqT.of hp, at_2, ?_⟩
      walk_at "go"
      walk_at "go"
      refine isi (c := "str") (b := true) (.str _) (by decide +kernel) ?_
      walk_at "go"
      refine ⟨p, _, _, _, rfl, rfl, SqT.of hp, at_2, ?_⟩
      walk_at "go"
      refine ⟨u, _, _, _, rfl, rfl, SqT.of hu, at_2, ?_⟩
      walk_at "go"
      rw [decide_eq_true rfl]
      exact q
    | some b =>
      refine ⟨u, _, _, _, rfl, rfl, SqT.of hu, at_1, ?_⟩
      walk_at "go"
      refine ⟨u, _, _, _, rfl, rfl, SqT.of hu, at_1, ?_⟩
      walk_at "go"
      refine ⟨p, _, _, _, rfl, rfl, SqT.of hp, at_1, ?_⟩
      walk_at "go"
      refine ⟨u, _, _, _, rfl, rfl, SqT.of hu, at_1, ?_⟩
      walk_at "go"
      refine ⟨p, _, _, _, rfl, rfl, SqT.of hp, at_0, ?_⟩
      walk_at "go"
      refine ⟨u, _, _, _, rfl, rfl, SqT.of hu, at_0, ?_⟩
      walk_at "go"
      refine ⟨p, _, _, _, rfl, rfl, SqT.of hp, at_3, ?_⟩
      walk_at "go"
      refine ⟨u, _, _, _, rfl, rfl, SqT.of hu, at_3, ?_⟩
      walk_at "go"
      refine ⟨p, _, _, _, rfl, rfl, SqT.of hp, at_2, ?_⟩
      walk_at "go"
      walk_at "go"
      refine isi (c := "str") (b := true) (.str _) (by decide +kernel) ?_
      walk_at "go"
      refine ⟨p, _, _, _, rfl, rfl, SqT.of hp, at_2, ?_⟩
      walk_at "go"
      refine ⟨u, _, _, _, rfl, rfl, SqT.of hu, at_2, ?_⟩
      walk_at "go"
      rw [decide_eq_true rfl]
      exact q
end
end Z
set_option Elab.async false
set_option linter.all false
set_option maxRecDepth 100000
set_option maxHeartbeats 4000000
namespace Z
open PySem PySem.Spec PyProof.Rows L2
open SX (S S_inj S_len S_cat)
/-! ### heard rounds, joined views: no program -/
def hro (v : Vw) : Nat := match v.oth with
  | none => 0
  | some _ => v.kn.length + 1
def rnd (v : Vw) : Int := hro v + v.si
def jb (u v : Vw) : List Nat := if hro v < hro u then u.kn ++ [102] else if hro u < hro v then v.kn ++ [115] else if 0 < hro u then u.kn ++ [98] else []
def rep (k : Int) : List Nat := List.replicate k.toNat 110
def jn (u v : Vw) : List Nat := jb u v ++ rep (rnd u - (jb u v).length)
def jok (u v : Vw) : Bool := decide (rnd u = rnd v ∧ vw u.own v.own (jn u v) false = u ∧ vw u.own v.own (jn u v) true = v)
def hI : Option Nat → Nat
  | none => 0
  | some i => i + 1
theorem lst_no {P : Nat → Bool} {l : List Nat} : ∀ {n k : Nat}, hI (lst P l n) ≤ k → k < n → P (l.getD k 0) = false
  | 0, _, _, h => by omega
  | n + 1, k, h1, h2 => by
    unfold lst at h1
    split at h1
    · rename_i hp
      have h1 : n + 1 ≤ k := h1
      omega
    · rename_i hp
      by_cases c : k = n
      · subst c
        simpa using hp
      · exact lst_no h1 (by omega)
theorem lst_yes {P : Nat → Bool} {l : List Nat} : ∀ {n i : Nat}, lst P l n = some i → P (l.getD i 0) = true
  | 0, _, h => by cases h
  | n + 1, i, h => by
    unfold lst at h
    split at h
    · rename_i hp
      cases h
      exact hp
    · exact lst_yes h
theorem hI_le (P : Nat → Bool) (l : List Nat) (n : Nat) : hI (lst P l n) ≤ n := by
  cases h : lst P l n with
  | none => exact Nat.zero_le _
  | some i => exact lst_lt h
theorem hro_vw (x y : Int) (l : List Nat) (e : Bool) : hro (vw x y l e) = hI (lst (hrd e) l l.length) := by
  cases h : lst (hrd e) l l.length with
  | none =>
    rw [vw_none h]
    rfl
  | some i =>
    rw [vw_some h]
    have := lst_lt h
    show (l.take i).length + 1 = i + 1
    rw [List.length_take]
    omega
theorem rnd_vw (x y : Int) (l : List Nat) (e : Bool) : rnd (vw x y l e) = l.length := by
  unfold rnd
  rw [hro_vw]
  cases h : lst (hrd e) l l.length with
  | none =>
    rw [vw_none h]
    show ((0 : Nat) : Int) + (l.length : Int) = l.length
    omega
  | some i =>
    rw [vw_some h]
    show ((i + 1 : Nat) : Int) + ((l.length : Int) - 1 - i) = l.length
    omega
theorem kn_vw {x y : Int} {l : List Nat} {e : Bool} (h : 0 < hI (lst (hrd e) l l.length)) : (vw x y l e).kn = l.take (hI (lst (hrd e) l l.length) - 1) ∧ hrd e (l.getD (hI (lst (hrd e) l l.length) - 1) 0) = true := by
  cases hh : lst (hrd e) l l.length with
  | none =>
    rw [hh] at h
    exact absurd h (by decide)
  | some i =>
    rw [vw_some hh]
    exact ⟨rfl, lst_yes hh⟩
theorem take_snoc {l : List Nat} {a c : Nat} (h : a < l.length) (e : l.getD a 0 = c) : l.take a ++ [c] = l.take (a + 1) := by
  rw [List.take_succ, List.getElem?_eq_getElem h]
  rw [List.getD_eq_getElem?_getD, List.getElem?_eq_getElem h] at e
  rw [← e]
  rfl
theorem tail_rep {l : List Nat} {a : Nat} (ha : a ≤ l.length) (h : ∀ k, a ≤ k → k < l.length → l.getD k 0 = 110) : l.take a ++ rep ((l.length : Int) - a) = l := by
  have e : l.drop a = rep ((l.length : Int) - a) := by
    unfold rep
    refine List.eq_replicate_iff.mpr ⟨by rw [List.length_drop]; omega, fun b hb => ?_⟩
    obtain ⟨k, hk, rfl⟩ := List.getElem_of_mem hb
    rw [List.length_drop] at hk
    have z := h (a + k) (by omega) (by omega)
    rw [List.getD_eq_getElem?_getD, List.getElem?_eq_getElem (by omega)] at z
    rw [List.getElem_drop]
    exact z
  rw [← e, List.take_append_drop]
theorem isF_of {l : List Nat} (h : Fts l) {k : Nat} (hk : k < l.length) : isF (l.getD k 0) = true := by
  rw [List.getD_eq_getElem?_getD, List.getElem?_eq_getElem hk]
  exact h _ (List.getElem_mem hk)
theorem cls {c : Nat} (hf : isF c = true) : (hrd false c = true → hrd true c = false → c = 102) ∧ (hrd false c = false → hrd true c = true → c = 115) ∧ (hrd false c = true → hrd true c = true → c = 98) ∧ (hrd false c = false → hrd true c = false → c = 110) := by
  unfold isF at hf
  simp only [Bool.or_eq_true, decide_eq_true_eq] at hf
  rcases hf with rfl | rfl | rfl | rfl <;> decide
theorem jn_vw (x y : Int) {l : List Nat} (h : Fts l) : jn (vw x y l false) (vw x y l true) = l := by
  obtain ⟨a, ea⟩ : ∃ a, a = hI (lst (hrd false) l l.length) := ⟨_, rfl⟩
  obtain ⟨b, eb⟩ : ∃ b, b = hI (lst (hrd true) l l.length) := ⟨_, rfl⟩
  have la : a ≤ l.length := by rw [ea]; exact hI_le _ _ _
  have lb : b ≤ l.length := by rw [eb]; exact hI_le _ _ _
  have na : ∀ k, a ≤ k → k < l.length → hrd false (l.getD k 0) = false := fun k h1 h2 => lst_no (by rw [← ea]; exact h1) h2
  have nb : ∀ k, b ≤ k → k < l.length → hrd true (l.getD k 0) = false := fun k h1 h2 => lst_no (by rw [← eb]; exact h1) h2
  have ka : 0 < a → (vw x y l false).kn = l.take (a - 1) ∧ hrd false (l.getD (a - 1) 0) = true := by rw [ea]; exact kn_vw
  have kb : 0 < b → (vw x y l true).kn = l.take (b - 1) ∧ hrd true (l.getD (b - 1) 0) = true := by rw [eb]; exact kn_vw
  have fin : ∀ m, m ≤ l.length → a ≤ m → b ≤ m → jb (vw x y l false) (vw x y l true) = l.take m → jn (vw x y l false) (vw x y l true) = l := fun m h1 h2 h3 e => by
    unfold jn
    rw [e, rnd_vw, List.length_take, Nat.min_eq_left h1]
    exact tail_rep h1 fun k k1 k2 => (cls (isF_of h k2)).2.2.2 (na k (by omega) k2) (nb k (by omega) k2)
  have ej : jb (vw x y l false) (vw x y l true) = if b < a then (vw x y l false).kn ++ [102] else if a < b then (vw x y l true).kn ++ [115] else if 0 < a then (vw x y l false).kn ++ [98] else [] := by
    unfold jb
    rw [hro_vw, hro_vw, ← ea, ← eb]
  by_cases c1 : b < a
  · refine fin a la (Nat.le_refl _) (by omega) ?_
    obtain ⟨k1, k2⟩ := ka (by omega)
    have e := (cls (isF_of h (show a - 1 < l.length by omega))).1 k2 (nb _ (by omega) (by omega))
    rw [ej, if_pos c1, k1, take_snoc (by omega) e, show a - 1 + 1 = a by omega]
  · by_cases c2 : a < b
    · refine fin b lb (by omega) (Nat.le_refl _) ?_
      obtain ⟨k1, k2⟩ := kb (by omega)
      have e := (cls (isF_of h (show b - 1 < l.length by omega))).2.1 (na _ (by omega) (by omega)) k2
      rw [ej, if_neg c1, if_pos c2, k1, take_snoc (by omega) e, show b - 1 + 1 = b by omega]
    · have ab : a = b := by omega
      by_cases c3 : 0 < a
      · refine fin a la (Nat.le_refl _) (by omega) ?_
        obtain ⟨k1, k2⟩ := ka c3
        obtain ⟨k3, k4⟩ := kb (by omega)
        rw [← ab] at k4
        have e := (cls (isF_of h (show a - 1 < l.length by omega))).2.2.1 k2 k4
        rw [ej, if_neg c1, if_neg c2, if_pos c3, k1, take_snoc (by omega) e, show a - 1 + 1 = a by omega]
      · refine fin 0 (Nat.zero_le _) (by omega) (by omega) ?_
        rw [ej, if_neg c1, if_neg c2, if_neg c3]
        rfl
theorem own_vw (x y : Int) (l : List Nat) (e : Bool) : (vw x y l e).own = if e then y else x := by
  cases h : lst (hrd e) l l.length with
  | none => rw [vw_none h]
  | some i => rw [vw_some h]
/-- views of one text join to it -/
theorem jok_vw (x y : Int) {l : List Nat} (h : Fts l) : jok (vw x y l false) (vw x y l true) = true := by
  unfold jok
  rw [jn_vw x y h, rnd_vw, rnd_vw, own_vw, own_vw]
  exact decide_eq_true ⟨rfl, rfl, rfl⟩
theorem jok_of {x y : Int} {u v : Vw} {l : List Nat} (h : Fts l) (e1 : vw x y l false = u) (e2 : vw x y l true = v) : jok u v = true ∧ jn u v = l := by
  subst e1 e2
  exact ⟨jok_vw x y h, jn_vw x y h⟩
/-! ### a view grows -/
theorem lst_app (P : Nat → Bool) (l r : List Nat) : ∀ n, n ≤ l.length → lst P (l ++ r) n = lst P l n
  | 0, _ => rfl
  | n + 1, h => by
    have e : (l ++ r).getD n 0 = l.getD n 0 := by
      rw [List.getD_eq_getElem?_getD, List.getD_eq_getElem?_getD, List.getElem?_append_left (by omega)]
    rw [lst_succ, lst_succ, e, lst_app P l r n (by omega)]
theorem lst_snoc (P : Nat → Bool) (l : List Nat) (c : Nat) : lst P (l ++ [c]) (l ++ [c]).length = if P c then some l.length else lst P l l.length := by
  have e : (l ++ [c]).getD l.length 0 = c := by
    rw [List.getD_eq_getElem?_getD, List.getElem?_append_right (Nat.le_refl _), Nat.sub_self]
    rfl
  rw [List.length_append, List.length_singleton, lst_succ, e, lst_app P l [c] l.length (Nat.le_refl _)]
theorem vw_heard {x y : Int} {l : List Nat} {c : Nat} {e : Bool} (h : hrd e c = true) : vw x y (l ++ [c]) e = ⟨if e then y else x, some (if e then x else y), l, 0⟩ := by
  rw [vw_some (i := l.length) (by rw [lst_snoc, if_pos h]), List.take_left, List.length_append, List.length_singleton]
  rw [show ((l.length + 1 : Nat) : Int) - 1 - (l.length : Int) = 0 by omega]
theorem vw_deaf {x y : Int} {l : List Nat} {c : Nat} {e : Bool} (h : hrd e c = false) : vw x y (l ++ [c]) e = { vw x y l e with si := (vw x y l e).si + 1 } := by
  cases hh : lst (hrd e) l l.length with
  | none =>
    rw [vw_none hh, vw_none (by rw [lst_snoc, if_neg (by rw [h]; decide)]; exact hh), List.length_append, List.length_singleton]
    rfl
  | some i =>
    have hi := lst_lt hh
    rw [vw_some hh, vw_some (i := i) (by rw [lst_snoc, if_neg (by rw [h]; decide)]; exact hh), List.length_append, List.length_singleton, List.take_append_of_le_length (by omega)]
    show (⟨_, _, _, ((l.length + 1 : Nat) : Int) - 1 - i⟩ : Vw) = ⟨_, _, _, (l.length : Int) - 1 - i + 1⟩
    rw [show ((l.length + 1 : Nat) : Int) - 1 - i = (l.length : Int) - 1 - i + 1 by omega]
/-! ### the texts that the law tries -/
def candO (w : Vw) : List (List Nat) := match w.oth with
  | none => []
  | some _ => [98, 102, 115, 110].map fun c => w.kn ++ [c] ++ rep w.si
def cand (u v : Vw) : List (List Nat) := rep (rnd u) :: (candO u ++ candO v)
def Good (w : Vw) : Prop := Fts w.kn ∧ w.kn.length ≤ 100 ∧ 0 ≤ w.si ∧ w.si ≤ 200 ∧ (w.own = 0 ∨ w.own = 1)
theorem fts_rep (k : Int) : Fts (rep k) := fun c hc => by
  rw [(List.mem_replicate.mp hc).2]
  rfl
theorem fts_snoc {l : List Nat} {c : Nat} (h : Fts l) (k : isF c = true) : Fts (l ++ [c]) := h.app (.one k)
theorem rep_len (k : Int) : (rep k).length = k.toNat := List.length_replicate
theorem cand_fts {u v : Vw} (hu : Good u) (hv : Good v) : ∀ t ∈ cand u v, Fts t ∧ t.length ≤ 400 := by
  have h1 : ∀ w, Good w → ∀ t ∈ candO w, Fts t ∧ t.length ≤ 400 := fun w hw t ht => by
    unfold candO at ht
    cases ho : w.oth with
    | none =>
      rw [ho] at ht
      cases ht
    | some b =>
      rw [ho] at ht
      obtain ⟨c, hc, rfl⟩ := List.mem_map.mp ht
      refine ⟨(fts_snoc hw.1 ?_).app (fts_rep _), ?_⟩
      · simp only [List.mem_cons, List.not_mem_nil, or_false] at hc
        rcases hc with rfl | rfl | rfl | rfl <;> rfl
      · rw [List.length_append, List.length_append, rep_len]
        have := hw.2
        show _ + 1 + _ ≤ 400
        omega
  intro t ht
  rcases List.mem_cons.mp ht with rfl | ht
  · refine ⟨fts_rep _, ?_⟩
    rw [rep_len]
    have := hu.2
    unfold rnd hro
    split <;> omega
  · rcases List.mem_append.mp ht with h | h
    · exact h1 u hu t h
    · exact h1 v hv t h
theorem jn_cand {u v : Vw} (hu : Good u) (hv : Good v) (h : rnd u = rnd v) : jn u v ∈ cand u v := by
  have hk : ∀ w : Vw, 0 < hro w → (∃ b, w.oth = some b) ∧ hro w = w.kn.length + 1 := fun w hw => by
    unfold hro at hw ⊢
    cases ho : w.oth with
    | none =>
      rw [ho] at hw
      exact absurd hw (Nat.lt_irrefl 0)
    | some b => exact ⟨⟨b, rfl⟩, rfl⟩
  have inO : ∀ (w : Vw) (c : Nat), 0 < hro w → c ∈ [98, 102, 115, 110] → w.kn ++ [c] ++ rep w.si ∈ candO w := fun w c hw hc => by
    obtain ⟨⟨b, hb⟩, _⟩ := hk w hw
    unfold candO
    rw [hb]
    exact List.mem_map.mpr ⟨c, hc, rfl⟩
  have si : ∀ w : Vw, 0 < hro w → ∀ c : Nat, rnd w - ((w.kn ++ [c]).length : Nat) = w.si := fun w hw c => by
    have := (hk w hw).2
    unfold rnd
    rw [List.length_append, List.length_singleton]
    omega
  unfold jn
  by_cases c1 : hro v < hro u
  · have e : jb u v = u.kn ++ [102] := if_pos c1
    rw [e, si u (by omega)]
    exact List.mem_cons_of_mem _ (List.mem_append_left _ (inO u 102 (by omega) (by decide)))
  · by_cases c2 : hro u < hro v
    · have e : jb u v = v.kn ++ [115] := by unfold jb; rw [if_neg c1, if_pos c2]
      rw [e, h, si v (by omega)]
      exact List.mem_cons_of_mem _ (List.mem_append_right _ (inO v 115 (by omega) (by decide)))
    · by_cases c3 : 0 < hro u
      · have e : jb u v = u.kn ++ [98] := by unfold jb; rw [if_neg c1, if_neg c2, if_pos c3]
        rw [e, si u c3]
        exact List.mem_cons_of_mem _ (List.mem_append_left _ (inO u 98 c3 (by decide)))
      · have e : jb u v = [] := by unfold jb; rw [if_neg c1, if_neg c2, if_neg c3]
        rw [e]
        show [] ++ rep (rnd u - ((0 : Nat) : Int)) ∈ _
        rw [List.nil_append, show rnd u - ((0 : Nat) : Int) = rnd u by omega]
        exact List.mem_cons_self
theorem jn_len {u v : Vw} (hu : Good u) (hv : Good v) : Fts (jn u v) ∧ (jn u v).length ≤ 800 ∧ (jb u v).length ≤ 101 := by
  have hjb : Fts (jb u v) ∧ (jb u v).length ≤ 101 := by
    have a1 := hu.2
    have a2 := hv.2
    unfold jb
    split
    · exact ⟨fts_snoc hu.1 rfl, by rw [List.length_append]; show _ + 1 ≤ 101; omega⟩
    · split
      · exact ⟨fts_snoc hv.1 rfl, by rw [List.length_append]; show _ + 1 ≤ 101; omega⟩
      · split
        · exact ⟨fts_snoc hu.1 rfl, by rw [List.length_append]; show _ + 1 ≤ 101; omega⟩
        · exact ⟨(fun c hc => by cases hc), by decide⟩
  have hr : rnd u ≤ 301 := by
    have := hu.2
    unfold rnd hro
    split <;> omega
  refine ⟨hjb.1.app (fts_rep _), ?_, hjb.2⟩
  unfold jn
  rw [List.length_append, rep_len]
  omega
end Z
set_option pp.maxSteps 700
set_option Elab.async false
set_option linter.all false
set_option maxRecDepth 100000
set_option maxHeartbeats 4000000
open SX (S S_inj S_len S_cat)
namespace Z
open PySem PySem.Spec PyProof.Rows L2
open C8 (pss_cut tCut)
local macro_rules | `(tactic| walk_at "num") => `(tactic| first | rfl | omega | decide | exact Nat.le_of_lt (small1000 (by simp)) | exact ⟨by omega, by omega⟩ | exact ⟨by omega, by omega, by omega⟩ | exact ⟨by decide, by decide, by decide⟩ | exact Or.inl ⟨by omega, by omega⟩ | exact Or.inr ⟨by omega, by omega⟩)
local macro_rules | `(tactic| walk_at "go") => `(tactic| repeat (first | refine ⟨_, rfl, ?_⟩ | refine ⟨_, _, rfl, rfl, ?_⟩ | refine ⟨_, _, rfl, ?_⟩ | (refine ⟨_, _, rfl, rfl, ?_, ?_⟩; focus walk_at "num") | refine Or.inl ⟨_, rfl, ?_⟩ | refine ⟨_, _, _, _, rfl, rfl, (by assumption), (by rfl), ?_⟩ | refine ⟨_, _, _, _, _, rfl, (by assumption), (by assumption), (by assumption), (by rfl), ?_⟩ | refine ⟨rfl, ?_⟩ | (refine And.intro ?_ ?_; focus walk_at "num")))
abbrev s_heard_rounds : Stmt := topS 16
abbrev N_heard_rounds : List Str := ["view"]
abbrev P_heard_rounds : List Str := ["view"]
theorem sc_heard_rounds : FnScope N_heard_rounds P_heard_rounds (defScope s_heard_rounds) := ⟨rfl, rfl, rfl, by decide +kernel, rfl, by decide +kernel, by decide +kernel⟩
abbrev s_rounds_of : Stmt := topS 17
abbrev N_rounds_of : List Str := ["view"]
abbrev P_rounds_of : List Str := ["view"]
theorem sc_rounds_of : FnScope N_rounds_of P_rounds_of (defScope s_rounds_of) := ⟨rfl, rfl, rfl, by decide +kernel, rfl, by decide +kernel, by decide +kernel⟩
abbrev s_join_views : Stmt := topS 18
abbrev N_join_views : List Str := ["first_view", "second_view", "rounds", "first_heard", "second_heard", "fates", "exchange"]
abbrev P_join_views : List Str := ["first_view", "second_view"]
theorem sc_join_views : FnScope N_join_views P_join_views (defScope s_join_views) := ⟨rfl, rfl, rfl, by decide +kernel, rfl, by decide +kernel, by decide +kernel⟩
abbrev s_grow : Stmt := topS 19
abbrev N_grow : List Str := ["end", "view", "letter", "own", "other", "known", "silent", "exchange"]
abbrev P_grow : List Str := ["end", "view", "letter"]
theorem sc_grow : FnScope N_grow P_grow (defScope s_grow) := ⟨rfl, rfl, rfl, by decide +kernel, rfl, by decide +kernel, by decide +kernel⟩
/-- a list (true) or a tuple -/
def bO (b : Bool) (xs : List V) : HO := match b with
  | true => .lst xs
  | false => .tup xs
theorem bO_or {b : Bool} {K : PySem.W.Frag} {H : Hp} {a : Addr} {xs : List V} (h : H a = some (bO b xs)) : SqL K H a xs ∨ SqT K H a xs := by
  cases b
  · exact .inr (SqT.of h)
  · exact .inl (SqL.of h)
theorem rd_ix {b : Bool} {K : PySem.W.Frag} {H : Hp} {p : Addr} {xs : List V} {i : Int} {v : V} {Q : VK} (h : H p = some (bO b xs)) (e : atI xs i = some v) (q : Q v H) : rIx K (.ref p) (.int i) H Q := by
  cases b
  · exact .inr (.inl ⟨p, xs, i, v, rfl, rfl, SqT.of h, e, q⟩)
  · exact .inl ⟨p, xs, i, v, rfl, rfl, SqL.of h, e, q⟩
def rTupB : List V → Hp → VK → Prop := fun xs H Q => ∃ (p : Addr) (b : Bool) (ys : List V), xs = [.ref p] ∧ H p = some (bO b ys) ∧ ∀ r H', Same H H' → H' r = some (.tup ys) → Q (.ref r) H'
theorem call_tupB {X : Cx} : CallR X (.type "tuple") rTupB := by
  intro pins s σ H xs us Q I r h
  obtain ⟨p, b, ys, rfl, hp, q⟩ := h
  refine call_tuple_of pins s σ H _ us Q I r ⟨p, ys, rfl, ?_⟩
  cases b
  · exact .inr ⟨SqT.of hp, q p H (Same.refl _) hp⟩
  · exact .inl ⟨SqL.of hp, fun l nl => q l _ (same_new nl) upd_same⟩
theorem Good.ok {v : Vw} (h : Good v) : VwOk v := ⟨by have := h.2.1; omega, h.1.lt⟩
section
variable {P : Program} {w : World} {K : PySem.W.Frag} {mg : Str → Option Value} {base : Heap} {f C CB CE CF CU : Addr} {fd : FuncData}
def spHeard : Sp := fun vs H Q _ => ∃ (b : Bool) (p : Addr) (v : Vw), vs = [.ref p] ∧ H p = some (bO b (vwL v)) ∧ v.kn.length ≤ 1000 ∧ Q (.int (hro v)) H
theorem ok_heard_rounds (F : FnP K "heard_rounds" s_heard_rounds f fd) (m_len : mg "len" = none) : FnOk P w K mg base CX0 1 f fd P_heard_rounds spHeard := by
  refine F.ok sc_heard_rounds (fun vs H Q E h => ?_) (fun cdv A outer s H vs Q E hr h => ?_)
  · obtain ⟨b, p, v, rfl, _⟩ := h
    rfl
  · obtain ⟨b, p, v, rfl, hp, hl, q⟩ := h
    refine ⟨_, PSs.nox (pss_cons (ps_if (pt_cmpR op_isN (pe_ix ix_seq (pv 0) pe_int (fun _ _ => rfl)) pe_non (nomark _)) (pss_one (ps_ret pe_int)) pss_nil)
      (pss_one (ps_ret (pe_op op_add (pe_callB call_len_str (by rfl) m_len PySem.boot_len (pa_cons (pe_ix ix_seq (pv 0) pe_int (fun _ _ => rfl)) pa_nil)) pe_int)))), ?_⟩
    have hlen : (S v.kn).length ≤ sizeLine := by rw [S_len]; exact szl (by omega)
    walk_at "go"
    obtain ⟨ow, ot, kn, si⟩ := v
    cases ot with
    | none =>
      refine rd_ix hp at_1 ?_
      walk_at "go"
      exact q
    | some x =>
      refine rd_ix hp at_1 ?_
      walk_at "go"
      refine rd_ix hp at_2 ?_
      walk_at "go"
      rw [S_len]
      exact q
def spRounds : Sp := fun vs H Q _ => ∃ (b : Bool) (p : Addr) (v : Vw), vs = [.ref p] ∧ H p = some (bO b (vwL v)) ∧ v.kn.length ≤ 1000 ∧ Q (.int (rnd v)) H
theorem ok_rounds_of (F : FnP K "rounds_of" s_rounds_of f fd) (c_heard_rounds : Cal P w K mg base 1 "heard_rounds" spHeard) : FnOk P w K mg base CX0 2 f fd P_rounds_of spRounds := by
  refine F.ok sc_rounds_of (fun vs H Q E h => ?_) (fun cdv A outer s H vs Q E hr h => ?_)
  · obtain ⟨b, p, v, rfl, _⟩ := h
    rfl
  · obtain ⟨b, p, v, rfl, hp, hl, q⟩ := h
    refine ⟨_, PSs.nox (pss_one (ps_ret (pe_op op_add (pe_cl c_heard_rounds hr (by decide) (by rfl) (pa_cons (pv 0) pa_nil)) (pe_ix ix_seq (pv 0) pe_int (fun _ _ => rfl))))), ?_⟩
    walk_at "go"
    refine ⟨b, p, v, rfl, hp, hl, ?_⟩
    walk_at "go"
    refine rd_ix hp at_3 ?_
    walk_at "go"
    exact q
def spJoin (C CU : Addr) : Sp := fun vs H Q E => ∃ (b1 b2 : Bool) (p1 p2 : Addr) (u v : Vw), vs = [.ref p1, .ref p2] ∧ H p1 = some (bO b1 (vwL u)) ∧ H p2 = some (bO b2 (vwL v)) ∧ Good u ∧ Good v ∧
  (jok u v = true → ∀ n H', Same H H' → ExA C H' n u.own v.own (jn u v) → Q (.ref n) H') ∧ (jok u v = false → ∀ H', Same H H' → E (.ref CU) none H')
theorem ok_join_views (F : FnP K "join_views" s_join_views f fd) (m_len : mg "len" = none) (m_tuple : mg "tuple" = none) (x0_Unmatched : Exn0 K mg "Unmatched" CU) (c_heard_rounds : Cal P w K mg base 1 "heard_rounds" spHeard) (c_rounds_of : Cal P w K mg base 2 "rounds_of" spRounds) (k_Exchange : MakX P w K mg base 4 "Exchange" C (spEx1 C CB CF)) (me_seen : MetX P w K mg base 4 C "seen" (spSeen C CE)) : FnOk P w K mg base (L2N.CX P w) 6 f fd P_join_views (spJoin C CU) := by
  refine F.ok sc_join_views (fun vs H Q E h => ?_) (fun cdv A outer s H vs Q E hr h => ?_)
  · obtain ⟨b1, b2, p1, p2, u, v, rfl, _⟩ := h
    rfl
  · obtain ⟨b1, b2, p1, p2, u, v, rfl, hu, hv, gu, gv, q1, q2⟩ := h
    have tk := takes_fn (P := P) (w := w) (K := K) (mg := mg) (base := base) (N := N_join_views) (qual := "join_views") (scope := defScope s_join_views) (f := f) (cd := cdv) (A := A) (outer := outer) (s := s) (H := H) (E := E)
    refine ⟨_, (pss_cons (ps_set (i := 2) sc_join_views.nd rfl (by first | exact .inl rfl | exact .inr rfl) (pe_cl c_rounds_of hr (by decide) (by rfl) (pa_cons (pv 0) pa_nil)))
      (pss_cons (ps_if (pt_cmpR op_ne (pv 2) (pe_cl c_rounds_of hr (by decide) (by rfl) (pa_cons (pv 1) pa_nil)) (nomark _)) (pss_one (ps_ex0 rfl tk x0_Unmatched (by rfl))) pss_nil)
      (pss_cons (ps_set (i := 3) sc_join_views.nd rfl (by first | exact .inl rfl | exact .inr rfl) (pe_cl c_heard_rounds hr (by decide) (by rfl) (pa_cons (pv 0) pa_nil)))
      (pss_cons (ps_set (i := 4) sc_join_views.nd rfl (by first | exact .inl rfl | exact .inr rfl) (pe_cl c_heard_rounds hr (by decide) (by rfl) (pa_cons (pv 1) pa_nil)))
      (pss_cons (ps_set (i := 5) sc_join_views.nd rfl (by first | exact .inl rfl | exact .inr rfl) pe_str)
      (pss_cut (ps_if (pt_cmpR op_gt (pv 3) (pv 4) (nomark _)) (pss_one (ps_set (i := 5) sc_join_views.nd rfl (by first | exact .inl rfl | exact .inr rfl) (pe_op op_add_str (pe_ix ix_seq (pv 0) pe_int (fun _ _ => rfl)) pe_str))) (pss_one (ps_if (pt_cmpR op_lt (pv 3) (pv 4) (nomark _)) (pss_one (ps_set (i := 5) sc_join_views.nd rfl (by first | exact .inl rfl | exact .inr rfl) (pe_op op_add_str (pe_ix ix_seq (pv 1) pe_int (fun _ _ => rfl)) pe_str))) (pss_one (ps_if (pt_cmpR op_gt (pv 3) pe_int (nomark _)) (pss_one (ps_set (i := 5) sc_join_views.nd rfl (by first | exact .inl rfl | exact .inr rfl) (pe_op op_add_str (pe_ix ix_seq (pv 0) pe_int (fun _ _ => rfl)) pe_str))) pss_nil)))))
      (pss_cons (ps_set (i := 6) sc_join_views.nd rfl (by first | exact .inl rfl | exact .inr rfl) (pe_mkE k_Exchange (fun σ => L2N.passAt tk σ) hr (by decide) (by rfl) (pa_cons (pe_ix ix_seq (pv 0) pe_int (fun _ _ => rfl)) (pa_cons (pe_ix ix_seq (pv 1) pe_int (fun _ _ => rfl)) (pa_cons (pe_op op_add_str (pv 5) (pe_op op_repN pe_str (pe_op op_sub (pv 2) (pe_callB call_len_str (by rfl) m_len PySem.boot_len (pa_cons (pv 5) pa_nil))))) pa_nil)))))
      (pss_cons (ps_if (PW.pt (pw_or (pt_cmpR (op_neD hr.units) (pe_meE me_seen (pv 6) (fun σ => L2N.passAt tk σ) hr (by decide) (pa_cons pe_str pa_nil)) (pe_callTy call_tupB (by rfl) m_tuple (by decide +kernel) (pa_cons (pv 0) pa_nil)) (nomark _)) (pw_or1 (pt_cmpR (op_neD hr.units) (pe_meE me_seen (pv 6) (fun σ => L2N.passAt tk σ) hr (by decide) (pa_cons pe_str pa_nil)) (pe_callTy call_tupB (by rfl) m_tuple (by decide +kernel) (pa_cons (pv 1) pa_nil)) (nomark _))))) (pss_one (ps_ex0 rfl tk x0_Unmatched (by rfl))) pss_nil)
      (pss_one (ps_ret (pv 6))))))))))), ?_⟩
    have lu := gu.2.1
    have lv := gv.2.1
    walk_at "go"
    refine ⟨b1, p1, u, rfl, hu, by omega, ?_⟩
    walk_at "go"
    refine ⟨b2, p2, v, rfl, hv, by omega, ?_⟩
    walk_at "go"
    by_cases c0 : rnd u = rnd v
    · rw [show decide (V.int (rnd u) = V.int (rnd v)) = true from decide_eq_true (by rw [c0])]
      walk_at "go"
      refine ⟨b1, p1, u, rfl, hu, by omega, ?_⟩
      walk_at "go"
      refine ⟨b2, p2, v, rfl, hv, by omega, ?_⟩
      walk_at "go"
      refine ⟨fun σ J => J = H ∧ σ = [some (.ref p1), some (.ref p2), some (.int (rnd u)), some (.int (hro u)), some (.int (hro v)), some (.str (S (jb u v))), none], ?_, ?_⟩
      · unfold jb
        walk_at "go"
        refine ite2 (fun e => ?_) (fun e => ?_)
        · have e : hro v < hro u := by have := of_decide_eq_true e; omega
          rw [if_pos e]
          dsimp only [List.set]
          walk_at "go"
          refine rd_ix hu at_2 ?_
          walk_at "go"
          rw [f_str]
          walk_at "go"
          refine ⟨by rw [S_len]; exact szl (show u.kn.length + 1 ≤ 2000 by omega), ?_⟩
          rw [show (⟨#[102]⟩ : Str) = S [102] from rfl, S_cat]
          exact ⟨rfl, rfl⟩
        · have e : ¬ hro v < hro u := fun z => e (decide_eq_true (by omega))
          rw [if_neg e]
          walk_at "go"
          refine ite2 (fun e2 => ?_) (fun e2 => ?_)
          · have e2 : hro u < hro v := by have := of_decide_eq_true e2; omega
            rw [if_pos e2]
            dsimp only [List.set]
            walk_at "go"
            refine rd_ix hv at_2 ?_
            walk_at "go"
            rw [s_str]
            walk_at "go"
            refine ⟨by rw [S_len]; exact szl (show v.kn.length + 1 ≤ 2000 by omega), ?_⟩
            rw [show (⟨#[115]⟩ : Str) = S [115] from rfl, S_cat]
            exact ⟨rfl, rfl⟩
          · have e2 : ¬ hro u < hro v := fun z => e2 (decide_eq_true (by omega))
            rw [if_neg e2]
            walk_at "go"
            refine ite2 (fun e3 => ?_) (fun e3 => ?_)
            · have e3 : 0 < hro u := by have := of_decide_eq_true e3; omega
              rw [if_pos e3]
              dsimp only [List.set]
              walk_at "go"
              refine rd_ix hu at_2 ?_
              walk_at "go"
              rw [b_str]
              walk_at "go"
              refine ⟨by rw [S_len]; exact szl (show u.kn.length + 1 ≤ 2000 by omega), ?_⟩
              rw [show (⟨#[98]⟩ : Str) = S [98] from rfl, S_cat]
              exact ⟨rfl, rfl⟩
            · have e3 : ¬ 0 < hro u := fun z => e3 (decide_eq_true (by omega))
              rw [if_neg e3]
              exact ⟨rfl, rfl⟩
      rintro σ J ⟨rfl, rfl⟩
      obtain ⟨jf, jl, jbl⟩ := jn_len gu gv
      have hjb : (S (jb u v)).length ≤ sizeLine := by rw [S_len]; exact szl (by omega)
      walk_at "go"
      refine rd_ix hu at_0 ?_
      walk_at "go"
      refine rd_ix hv at_0 ?_
      walk_at "go"
      rw [S_len]
      have r0 : -1 ≤ rnd u ∧ rnd u ≤ 400 := by
        have z := gu.2
        unfold rnd hro
        split <;> omega
      refine ⟨_, rfl, rfl, by omega, by omega, ?_⟩
      rw [show List.replicate (rnd u - ((jb u v).length : Nat)).toNat 110 = rep (rnd u - (jb u v).length) from rfl]
      have jl2 : (jb u v).length + (rep (rnd u - (jb u v).length)).length ≤ 800 := by
        have := jl
        unfold jn at this
        rw [List.length_append] at this
        exact this
      walk_at "go"
      refine ⟨by rw [S_len, S_len]; exact szl (by omega), ?_⟩
      rw [S_cat, show jb u v ++ rep (rnd u - (jb u v).length) = jn u v from rfl]
      walk_at "go"
      intro n dx n1 n2 n3
      have sa : Same J (upd (upd J dx (.own n)) n (.ins C dx [])) := Z.Same.mut (same_new n2) n1
      refine ⟨n, dx, u.own, v.own, jn u v, rfl, upd_same, by omega, fun _ H2 sb en => ?_, fun r hr => by rw [bad_ok gu.2.2.2.2 gv.2.2.2.2 jf] at hr; cases hr⟩
      have s2 : Same J H2 := fun c u e => sb c u (fun z => by rw [z, n1] at e; cases e) (sa c u e)
      clear sa sb
      have hu2 := s2 _ _ hu
      have hv2 := s2 _ _ hv
      walk_at "go"
      refine ⟨n, dx, _, rfl, en, rfl, ?_⟩
      walk_at "go"
      refine ⟨n, eS false, u.own, v.own, jn u v, rfl, ⟨dx, en⟩, by omega, fun e ez p H3 s3 np ep => ?_, fun z => absurd (.inl rfl) z⟩
      obtain rfl : e = false := by
        revert ez
        cases e <;> decide +kernel
      walk_at "go"
      refine ⟨p1, b1, vwL u, rfl, s3 _ _ hu2, fun r H4 s4 er => ?_⟩
      walk_at "go"
      refine ⟨_, _, dp_vw (s4 _ _ ep), dp_vw er, shaped_vw (vw_ok jf (by omega)), shaped_vw gu.ok, ?_⟩
      rw [eqv_vw]
      have s34 := s3.trans s4
      by_cases c1 : vw u.own v.own (jn u v) false = u
      · rw [decide_eq_true c1]
        have en4 := s34 _ _ en
        have hv4 := s34 _ _ hv2
        walk_at "go"
        refine ⟨n, dx, _, rfl, en4, rfl, ?_⟩
        walk_at "go"
        refine ⟨n, eS true, u.own, v.own, jn u v, rfl, ⟨dx, en4⟩, by omega, fun e ez p5 H5 s5 np5 ep5 => ?_, fun z => absurd (.inr rfl) z⟩
        obtain rfl : e = true := by
          revert ez
          cases e <;> decide +kernel
        walk_at "go"
        refine ⟨p2, b2, vwL v, rfl, s5 _ _ hv4, fun r2 H6 s6 er2 => ?_⟩
        walk_at "go"
        refine ⟨_, _, dp_vw (s6 _ _ ep5), dp_vw er2, shaped_vw (vw_ok jf (by omega)), shaped_vw gv.ok, ?_⟩
        rw [eqv_vw]
        have s56 := s5.trans s6
        by_cases c2 : vw u.own v.own (jn u v) true = v
        · rw [decide_eq_true c2]
          walk_at "go"
          exact q1 (by unfold jok; exact decide_eq_true ⟨c0, c1, c2⟩) n H6 (s2.trans (s34.trans s56)) ⟨dx, s56 _ _ en4⟩
        · rw [decide_eq_false c2]
          walk_at "go"
          exact q2 (by unfold jok; exact decide_eq_false (fun z => c2 z.2.2)) H6 (s2.trans (s34.trans s56))
      · rw [decide_eq_false c1]
        walk_at "go"
        exact q2 (by unfold jok; exact decide_eq_false (fun z => c1 z.2.1)) H4 (s2.trans s34)
    · rw [show decide (V.int (rnd u) = V.int (rnd v)) = false from decide_eq_false (fun z => c0 (by injection z))]
      refine ite2 (fun _ => ?_) (fun h => absurd rfl h)
      exact q2 (by unfold jok; exact decide_eq_false (fun z => c0 z.1)) H (Same.refl _)
/-- what grow gives with a letter -/
def grown (e : Bool) (v u : Vw) : Option Vw := if jok (if e then u else v) (if e then v else u) then some ⟨v.own, some u.own, jn (if e then u else v) (if e then v else u), 0⟩ else none
def spGrow (CE CU : Addr) : Sp := fun vs H Q E => ∃ (z : Str) (b : Bool) (p : Addr) (v : Vw) (lt : V), vs = [.str z, .ref p, lt] ∧ H p = some (bO b (vwL v)) ∧
  (¬ (z = eS false ∨ z = eS true) → ∀ d, H d = none → E (.ref CE) (some d) (upd H d (.xd [("end", .str z)]))) ∧
  (∀ e, z = eS e → (lt = .non ∧ ∀ r H', Same H H' → H' r = some (.tup (vwL { v with si := v.si + 1 })) → Q (.ref r) H') ∨
    ∃ (b' : Bool) (q : Addr) (u : Vw), lt = .ref q ∧ H q = some (bO b' (vwL u)) ∧ Good v ∧ Good u ∧ (∀ g, grown e v u = some g → ∀ r H', Same H H' → H' r = some (.tup (vwL g)) → Q (.ref r) H') ∧ (grown e v u = none → ∀ H', Same H H' → E (.ref CU) none H'))
theorem ok_grow (F : FnP K "grow" s_grow f fd) (cls : Cls K C) (n_fates : NoAttr K C "fates") (c_check_end : CalX P w K mg base 3 "check_end" (spCkE CE)) (c_join_views : CalX P w K mg base 6 "join_views" (spJoin C CU)) : FnOk P w K mg base (L2N.CX P w) 7 f fd P_grow (spGrow CE CU) := by
  refine F.ok sc_grow (fun vs H Q E h => ?_) (fun cdv A outer s H vs Q E hr h => ?_)
  · obtain ⟨z, b, p, v, lt, rfl, _⟩ := h
    rfl
  · obtain ⟨z, b, p, v, lt, rfl, hp, q1, q2⟩ := h
    have tk := takes_fn (P := P) (w := w) (K := K) (mg := mg) (base := base) (N := N_grow) (qual := "grow") (scope := defScope s_grow) (f := f) (cd := cdv) (A := A) (outer := outer) (s := s) (H := H) (E := E)
    refine ⟨_, (pss_cons (ps_expr (pe_clE c_check_end (fun σ => L2N.passAt tk σ) hr (by decide) (by rfl) (pa_cons (pv 0) pa_nil)))
      (pss_cut (ps_asg (pv 1) (pg_or (pg_unl rfl (pgs_cons (pg_name (i := 3) sc_grow.nd rfl (by first | exact .inl rfl | exact .inr rfl)) (pgs_cons (pg_name (i := 4) sc_grow.nd rfl (by first | exact .inl rfl | exact .inr rfl)) (pgs_cons (pg_name (i := 5) sc_grow.nd rfl (by first | exact .inl rfl | exact .inr rfl)) (pgs_cons (pg_name (i := 6) sc_grow.nd rfl (by first | exact .inl rfl | exact .inr rfl)) pgs_nil))))) (pg_tup rfl (pgs_cons (pg_name (i := 3) sc_grow.nd rfl (by first | exact .inl rfl | exact .inr rfl)) (pgs_cons (pg_name (i := 4) sc_grow.nd rfl (by first | exact .inl rfl | exact .inr rfl)) (pgs_cons (pg_name (i := 5) sc_grow.nd rfl (by first | exact .inl rfl | exact .inr rfl)) (pgs_cons (pg_name (i := 6) sc_grow.nd rfl (by first | exact .inl rfl | exact .inr rfl)) pgs_nil)))))))
      (pss_cons (ps_if (pt_cmpR op_isN (pv 2) pe_non (nomark _)) (pss_one (ps_ret (pe_tup (pa_cons (pv 3) (pa_cons (pv 4) (pa_cons (pv 5) (pa_cons (pe_op op_add (pv 6) pe_int) pa_nil))))))) pss_nil)
      (pss_cut (ps_if (pt_cmpR op_eq (pv 0) pe_str (nomark _)) (pss_one (ps_set (i := 7) sc_grow.nd rfl (by first | exact .inl rfl | exact .inr rfl) (pe_clE c_join_views (fun σ => L2N.passAt tk σ) hr (by decide) (by rfl) (pa_cons (pv 1) (pa_cons (pv 2) pa_nil))))) (pss_one (ps_set (i := 7) sc_grow.nd rfl (by first | exact .inl rfl | exact .inr rfl) (pe_clE c_join_views (fun σ => L2N.passAt tk σ) hr (by decide) (by rfl) (pa_cons (pv 2) (pa_cons (pv 1) pa_nil))))))
      (pss_one (ps_ret (pe_tup (pa_cons (pv 3) (pa_cons (pe_ix ix_seq (pv 2) pe_int (fun _ _ => rfl)) (pa_cons (pe_fld (pv 7) rfl) (pa_cons pe_int pa_nil))))))))))), ?_⟩
    walk_at "go"
    refine ⟨fun hz => ?_, fun h d nd => q1 h d nd⟩
    obtain ⟨e, rfl⟩ : ∃ e, z = eS e := hz.elim (fun h => ⟨false, h⟩) (fun h => ⟨true, h⟩)
    have qq := q2 e rfl
    clear q1 q2 hz
    walk_at "go"
    refine ⟨fun σ J => J = H ∧ σ = [some (.str (eS e)), some (.ref p), some lt, some (.int v.own), some (oV v.oth), some (.str (S v.kn)), some (.int v.si), none], ?_, ?_⟩
    · cases b
      · walk_at "go"
        exact .inr ⟨p, _, rfl, SqT.of hp, rfl, _, _, rfl, _, _, rfl, _, _, rfl, _, _, rfl, rfl, rfl, rfl⟩
      · walk_at "go"
        exact .inl ⟨p, _, rfl, SqL.of hp, rfl, _, _, rfl, _, _, rfl, _, _, rfl, _, _, rfl, rfl, rfl, rfl⟩
    rintro σ J ⟨rfl, rfl⟩
    rcases qq with ⟨rfl, q2⟩ | ⟨b', u, g, rfl, hg, gv, gg, q2, q3⟩
    · walk_at "go"
      intro r nr
      exact q2 r _ (same_new nr) upd_same
    · walk_at "go"
      refine ite2 (fun h => absurd h (by simp)) (fun _ => ?_)
      walk_at "go"
      refine ⟨fun σ J1 => Same J J1 ∧ ∃ n x y l, grown e v g = some ⟨v.own, some g.own, l, 0⟩ ∧ ExA C J1 n x y l ∧ σ = [some (.str (eS e)), some (.ref p), some (.ref u), some (.int v.own), some (oV v.oth), some (.str (S v.kn)), some (.int v.si), some (.ref n)], ?_, ?_⟩
      · cases e
        · walk_at "go"
          refine ⟨b, b', p, u, v, g, rfl, hp, hg, gv, gg, fun ok n H1 s1 hn => ?_, fun no H1 s1 => q3 (if_neg (by show ¬ jok v g = true; rw [no]; decide)) H1 s1⟩
          exact ⟨s1, n, _, _, _, if_pos ok, hn, rfl⟩
        · walk_at "go"
          refine ⟨b', b, u, p, g, v, rfl, hg, hp, gg, gv, fun ok n H1 s1 hn => ?_, fun no H1 s1 => q3 (if_neg (by show ¬ jok g v = true; rw [no]; decide)) H1 s1⟩
          exact ⟨s1, n, _, _, _, if_pos ok, hn, rfl⟩
      rintro σ J1 ⟨s1, n, x, y, l, eg, ⟨dx, hn⟩, rfl⟩
      have hg1 := s1 _ _ hg
      walk_at "go"
      refine rd_ix hg1 at_0 ?_
      walk_at "go"
      intro r nr
      exact q2 _ eg r _ (s1.trans (same_new nr)) upd_same
end
end Z
set_option pp.maxSteps 700
set_option Elab.async false
set_option linter.all false
set_option maxRecDepth 100000
set_option maxHeartbeats 4000000
open SX (S S_inj S_len S_cat)
namespace Z
open PySem PySem.Spec PyProof.Rows L2
open C8 (pss_cut tCut)
local macro_rules | `(tactic| walk_at "num") => `(tactic| first | rfl | omega | decide | exact Nat.le_of_lt (small1000 (by simp)) | exact ⟨by omega, by omega⟩ | exact ⟨by omega, by omega, by omega⟩ | exact ⟨by decide, by decide, by decide⟩ | exact Or.inl ⟨by omega, by omega⟩ | exact Or.inr ⟨by omega, by omega⟩)
local macro_rules | `(tactic| walk_at "go") => `(tactic| repeat (first | refine ⟨_, rfl, ?_⟩ | refine ⟨_, _, rfl, rfl, ?_⟩ | refine ⟨_, _, rfl, ?_⟩ | (refine ⟨_, _, rfl, rfl, ?_, ?_⟩; focus walk_at "num") | refine Or.inl ⟨_, rfl, ?_⟩ | refine ⟨_, _, _, _, rfl, rfl, (by assumption), (by rfl), ?_⟩ | refine ⟨_, _, _, _, _, rfl, (by assumption), (by assumption), (by assumption), (by rfl), ?_⟩ | refine ⟨rfl, ?_⟩ | (refine And.intro ?_ ?_; focus walk_at "num")))
abbrev s_changed : Stmt := topS 26
abbrev N_changed : List Str := ["_law_view_here", "_law_draws_here", "_law_place", "_law_kind", "_law_draw", "_law_known", "_law_at"]
abbrev P_changed : List Str := ["_law_view_here", "_law_draws_here", "_law_place"]
theorem sc_changed : FnScope N_changed P_changed (defScope s_changed) := ⟨rfl, rfl, rfl, by decide +kernel, rfl, by decide +kernel, by decide +kernel⟩
abbrev s_joined : Stmt := topS 30
abbrev N_joined : List Str := ["_law_views", "_law_rounds", "_law_texts", "_law_view_here", "_law_fate", "_law_fates", "_law_exchange_here"]
abbrev P_joined : List Str := ["_law_views"]
theorem sc_joined : FnScope N_joined P_joined (defScope s_joined) := ⟨rfl, rfl, rfl, by decide +kernel, rfl, by decide +kernel, by decide +kernel⟩
def GdN (n : Nat) (v : Vw) : Prop := Fts v.kn ∧ v.kn.length ≤ n ∧ 0 ≤ v.si ∧ v.si ≤ n ∧ (v.own = 0 ∨ v.own = 1)
theorem GdN.good {n : Nat} {v : Vw} (h : GdN n v) (hn : n ≤ 100) : Good v := ⟨h.1, by have := h.2.1; omega, h.2.2.1, by have := h.2.2.2.1; omega, h.2.2.2.2⟩
theorem mkGd {n : Nat} {ow si : Int} {ot : Option Int} {kn : List Nat} (h1 : Fts kn) (h2 : kn.length ≤ n) (h3 : 0 ≤ si) (h4 : si ≤ n) (h5 : ow = 0 ∨ ow = 1) : GdN n ⟨ow, ot, kn, si⟩ := ⟨h1, h2, h3, h4, h5⟩
theorem in3_at : ∀ i, i < 3 → ∃ o, atI [V.int 0, V.int 1, V.non] ((i : Nat) : Int) = some (oV o) := by
  intro i hi
  match i, hi with
  | 0, _ => exact ⟨some 0, at_0⟩
  | 1, _ => exact ⟨some 1, at_1⟩
  | 2, _ => exact ⟨none, at_2⟩
  | n + 3, h => exact absurd h (by omega)
section
variable {P : Program} {w : World} {K : PySem.W.Frag} {mg : Str → Option Value} {base : Heap} {f C CB CE CF CU CH : Addr} {fd : FuncData}
def spChanged (K : PySem.W.Frag) : Sp := fun vs H Q _ => ∃ (a p r : Addr) (n k : Nat) (ds : List Int) (v : Vw), vs = [.ref r, .ref a, .ref p] ∧ Tk K a p ds n H H ∧ H r = some (.tup (vwL v)) ∧ GdN k v ∧ k ≤ 90 ∧
  ∀ (r' : Addr) (v' : Vw) H', Tk K a p ds n H H' → H' r' = some (.tup (vwL v')) → GdN (k + 1) v' → Q (.ref r') H'
theorem ok_changed (F : FnP K "_law_changed" s_changed f fd) (m_int : mg "int" = none) (m_len : mg "len" = none) (m_max : mg "max" = none) (c_take : Cal P w K mg base 1 "_law_take" (spTake K)) : FnOk P w K mg base CX0 2 f fd P_changed (spChanged K) := by
  refine F.ok sc_changed (fun vs H Q E h => ?_) (fun cdv A outer s H vs Q E hr h => ?_)
  · obtain ⟨a, p, r, n, k, ds, v, rfl, _⟩ := h
    rfl
  · obtain ⟨a, p, r, n, k, ds, v, rfl, hT, hv, gv, hk, q⟩ := h
    refine ⟨_, PSs.nox (pss_cons (ps_set (i := 3) sc_changed.nd rfl (by first | exact .inl rfl | exact .inr rfl) (pe_op op_mod (pe_callTy call_int1 (by rfl) m_int (by decide +kernel) (pa_cons (pe_cl c_take hr (by decide) (by rfl) (pa_cons (pv 1) (pa_cons (pv 2) pa_nil))) pa_nil)) pe_int))
      (pss_cons (ps_set (i := 4) sc_changed.nd rfl (by first | exact .inl rfl | exact .inr rfl) (pe_cl c_take hr (by decide) (by rfl) (pa_cons (pv 1) (pa_cons (pv 2) pa_nil))))
      (pss_cons (ps_set (i := 5) sc_changed.nd rfl (by first | exact .inl rfl | exact .inr rfl) (pe_ix ix_tup (pv 0) pe_int (fun _ _ => rfl)))
      (pss_cons (ps_set (i := 6) sc_changed.nd rfl (by first | exact .inl rfl | exact .inr rfl) (pe_op op_mod (pe_callTy call_int1 (by rfl) m_int (by decide +kernel) (pa_cons (pe_op op_fdiv (pv 4) pe_int) pa_nil)) (pe_op op_add (pe_callB call_len_str (by rfl) m_len PySem.boot_len (pa_cons (pv 5) pa_nil)) pe_int)))
      (pss_cons (ps_if (pt_cmpR op_eq (pv 3) pe_int (nomark _)) (pss_one (ps_ret (pe_tup (pa_cons (pe_op op_sub pe_int (pe_ix ix_tup (pv 0) pe_int (fun _ _ => rfl))) (pa_cons (pe_ix ix_tup (pv 0) pe_int (fun _ _ => rfl)) (pa_cons (pv 5) (pa_cons (pe_ix ix_tup (pv 0) pe_int (fun _ _ => rfl)) pa_nil))))))) pss_nil)
      (pss_cons (ps_if (pt_cmpR op_eq (pv 3) pe_int (nomark _)) (pss_one (ps_ret (pe_tup (pa_cons (pe_ix ix_tup (pv 0) pe_int (fun _ _ => rfl)) (pa_cons (pe_ix ix_list (pe_lst (pa_cons pe_int (pa_cons pe_int (pa_cons pe_non pa_nil)))) (pe_op op_mod (pe_callTy call_int1 (by rfl) m_int (by decide +kernel) (pa_cons (pv 4) pa_nil)) pe_int) (fun _ _ => rfl)) (pa_cons (pv 5) (pa_cons (pe_ix ix_tup (pv 0) pe_int (fun _ _ => rfl)) pa_nil))))))) pss_nil)
      (pss_cons (ps_if (pt_cmpR op_eq (pv 3) pe_int (nomark _)) (pss_one (ps_ret (pe_tup (pa_cons (pe_ix ix_tup (pv 0) pe_int (fun _ _ => rfl)) (pa_cons (pe_ix ix_tup (pv 0) pe_int (fun _ _ => rfl)) (pa_cons (pe_op op_add_str (pe_op op_add_str (pe_slice C8.sl_txt (pv 5) po_none (po_some (pv 6))) (pe_ix ix_str pe_str (pe_op op_mod (pe_callTy call_int1 (by rfl) m_int (by decide +kernel) (pa_cons (pv 4) pa_nil)) pe_int) (fun _ _ => rfl))) (pe_slice C8.sl_txt (pv 5) (po_some (pe_op op_add (pv 6) pe_int)) po_none)) (pa_cons (pe_ix ix_tup (pv 0) pe_int (fun _ _ => rfl)) pa_nil))))))) pss_nil)
      (pss_cons (ps_if (pt_cmpR op_eq (pv 3) pe_int (nomark _)) (pss_one (ps_ret (pe_tup (pa_cons (pe_ix ix_tup (pv 0) pe_int (fun _ _ => rfl)) (pa_cons (pe_ix ix_tup (pv 0) pe_int (fun _ _ => rfl)) (pa_cons (pe_slice C8.sl_txt (pv 5) po_none (po_some (pv 6))) (pa_cons (pe_ix ix_tup (pv 0) pe_int (fun _ _ => rfl)) pa_nil))))))) pss_nil)
      (pss_cons (ps_if (pt_cmpR op_eq (pv 3) pe_int (nomark _)) (pss_one (ps_ret (pe_tup (pa_cons (pe_ix ix_tup (pv 0) pe_int (fun _ _ => rfl)) (pa_cons (pe_ix ix_tup (pv 0) pe_int (fun _ _ => rfl)) (pa_cons (pv 5) (pa_cons (pe_op op_add (pe_ix ix_tup (pv 0) pe_int (fun _ _ => rfl)) pe_int) pa_nil))))))) pss_nil)
      (pss_one (ps_ret (pe_tup (pa_cons (pe_ix ix_tup (pv 0) pe_int (fun _ _ => rfl)) (pa_cons (pe_ix ix_tup (pv 0) pe_int (fun _ _ => rfl)) (pa_cons (pv 5) (pa_cons (pe_callB (call_max2 rfl) (by rfl) m_max (by decide +kernel) (pa_cons pe_int (pa_cons (pe_op op_sub (pe_ix ix_tup (pv 0) pe_int (fun _ _ => rfl)) pe_int) pa_nil))) pa_nil)))))))))))))))), ?_⟩
    obtain ⟨ow, ot, kn, si⟩ := v
    obtain ⟨gf, gl, g0, g1, go⟩ := gv
    dsimp only at gf gl g0 g1 go
    have hlen : (S kn).length ≤ sizeLine := by rw [S_len]; exact szl (by omega)
    have pr : r ≠ p := fun z => by
      obtain ⟨m, em⟩ := hT.pl
      rw [z, em] at hv
      cases hv
    obtain ⟨mm, em⟩ := hT.pl
    walk_at "go"
    refine ⟨a, p, n, mm, ds, rfl, SqL.of hT.hA, hT.hd, em, hT.ne, fun r1 r10 r11 => ?_⟩
    obtain ⟨hT1, _⟩ := hT.next em
    generalize upd H p (.lst [.int ((mm + 1 : Nat) : Int)]) = H1 at hT1
    obtain ⟨m1, em1⟩ := hT1.pl
    walk_at "go"
    refine ⟨a, p, n, m1, ds, rfl, SqL.of hT1.hA, hT1.hd, em1, hT1.ne, fun r2 r20 r21 => ?_⟩
    obtain ⟨hT2, _⟩ := hT1.next em1
    generalize upd H1 p (.lst [.int ((m1 + 1 : Nat) : Int)]) = H2 at hT2
    have hv2 := hT2.up hv pr
    walk_at "go"
    refine ⟨r, _, _, _, rfl, rfl, SqT.of hv2, at_2, ?_⟩
    walk_at "go"
    rw [S_len]
    obtain ⟨j, ej, hj⟩ : ∃ j : Nat, r2 / 4 % ((kn.length : Int) + 1) = (j : Int) ∧ j ≤ kn.length := by
      have z0 := Int.emod_nonneg (r2 / 4) (show (kn.length : Int) + 1 ≠ 0 by omega)
      have z1 := Int.emod_lt_of_pos (r2 / 4) (show (0 : Int) < kn.length + 1 by omega)
      exact ⟨(r2 / 4 % ((kn.length : Int) + 1)).toNat, by omega, by omega⟩
    dsimp only [List.set]
    walk_at "go"
    rw [ej]
    have l1 : (kn.take j).length ≤ k := by rw [List.length_take]; omega
    have l2 : (kn.drop (j + 1)).length ≤ k := by rw [List.length_drop]; omega
    refine ite2 (fun e => ?_) (fun e => ?_)
    · walk_at "go"
      refine ⟨r, _, _, _, rfl, rfl, SqT.of hv2, at_0, ?_⟩
      walk_at "go"
      refine ⟨r, _, _, _, rfl, rfl, SqT.of hv2, at_1, ?_⟩
      walk_at "go"
      refine ⟨r, _, _, _, rfl, rfl, SqT.of hv2, at_3, ?_⟩
      walk_at "go"
      intro t nt
      exact q t _ _ (hT2.more (same_new nt)) upd_same (mkGd (ow := 1 - ow) gf (by omega) g0 (by omega) (by omega))
    walk_at "go"
    refine ite2 (fun e => ?_) (fun e => ?_)
    · walk_at "go"
      refine ⟨r, _, _, _, rfl, rfl, SqT.of hv2, at_0, ?_⟩
      walk_at "go"
      intro M nM
      generalize eH_ : upd H2 M _ = H3
      have s3 : Same H2 H3 := by rw [← eH_]; exact same_new nM
      have eM : H3 M = some (.lst [.int 0, .int 1, .non]) := by rw [← eH_]; exact upd_same
      clear eH_
      have hv3 := s3 _ _ hv2
      walk_at "go"
      obtain ⟨i, ei, hi⟩ : ∃ i : Nat, r2 % 3 = (i : Int) ∧ i < 3 := ⟨(r2 % 3).toNat, by omega, by omega⟩
      obtain ⟨o, eo⟩ := in3_at i hi
      refine ⟨M, _, r2 % 3, _, rfl, rfl, SqL.of eM, by rw [ei]; exact eo, ?_⟩
      walk_at "go"
      refine ⟨r, _, _, _, rfl, rfl, SqT.of hv3, at_3, ?_⟩
      walk_at "go"
      intro t nt
      exact q t ⟨ow, o, kn, si⟩ _ (hT2.more (s3.trans (same_new nt))) upd_same (mkGd gf (by omega) g0 (by omega) go)
    walk_at "go"
    refine ite2 (fun e => ?_) (fun e => ?_)
    · walk_at "go"
      refine ⟨r, _, _, _, rfl, rfl, SqT.of hv2, at_0, ?_⟩
      walk_at "go"
      refine ⟨r, _, _, _, rfl, rfl, SqT.of hv2, at_1, ?_⟩
      walk_at "go"
      rw [SX.slice_to (by omega), Int.toNat_natCast]
      obtain ⟨i, ei, hi⟩ : ∃ i : Nat, r2 % 4 = (i : Int) ∧ i < 4 := ⟨(r2 % 4).toNat, by omega, by omega⟩
      obtain ⟨c, ec, hc⟩ := bfsn4_at i hi
      refine ⟨_, r2 % 4, c, rfl, rfl, by decide, by rw [ei]; exact ec, ?_⟩
      walk_at "go"
      refine ⟨by rw [S_len]; exact szl (show (kn.take j).length + 1 ≤ 2000 by omega), ?_⟩
      rw [show (⟨#[c]⟩ : Str) = S [c] from rfl, S_cat]
      walk_at "go"
      rw [SX.slice_from (by omega), show ((j : Int) + 1).toNat = j + 1 by omega, S_len, S_len]
      refine ⟨szl (show (kn.take j ++ [c]).length + (kn.drop (j + 1)).length ≤ 2000 by rw [List.length_append]; show (kn.take j).length + 1 + _ ≤ _; omega), ?_⟩
      rw [S_cat]
      walk_at "go"
      refine ⟨r, _, _, _, rfl, rfl, SqT.of hv2, at_3, ?_⟩
      walk_at "go"
      intro t nt
      refine q t ⟨ow, ot, kn.take j ++ [c] ++ kn.drop (j + 1), si⟩ _ (hT2.more (same_new nt)) upd_same (mkGd (((gf.take j).app (.one hc)).app (gf.drop _)) ?_ g0 (by omega) go)
      rw [List.length_append, List.length_append, List.length_take, List.length_drop]
      show min j kn.length + 1 + _ ≤ _
      omega
    walk_at "go"
    refine ite2 (fun e => ?_) (fun e => ?_)
    · walk_at "go"
      refine ⟨r, _, _, _, rfl, rfl, SqT.of hv2, at_0, ?_⟩
      walk_at "go"
      refine ⟨r, _, _, _, rfl, rfl, SqT.of hv2, at_1, ?_⟩
      walk_at "go"
      rw [SX.slice_to (by omega), Int.toNat_natCast]
      refine ⟨r, _, _, _, rfl, rfl, SqT.of hv2, at_3, ?_⟩
      walk_at "go"
      intro t nt
      exact q t ⟨ow, ot, kn.take j, si⟩ _ (hT2.more (same_new nt)) upd_same (mkGd (gf.take j) (by omega) g0 (by omega) go)
    walk_at "go"
    refine ite2 (fun e => ?_) (fun e => ?_)
    · walk_at "go"
      refine ⟨r, _, _, _, rfl, rfl, SqT.of hv2, at_0, ?_⟩
      walk_at "go"
      refine ⟨r, _, _, _, rfl, rfl, SqT.of hv2, at_1, ?_⟩
      walk_at "go"
      refine ⟨r, _, _, _, rfl, rfl, SqT.of hv2, at_3, ?_⟩
      walk_at "go"
      intro t nt
      exact q t ⟨ow, ot, kn, si + 1⟩ _ (hT2.more (same_new nt)) upd_same (mkGd gf (by omega) (by omega) (by omega) go)
    walk_at "go"
    refine ⟨r, _, _, _, rfl, rfl, SqT.of hv2, at_0, ?_⟩
    walk_at "go"
    refine ⟨r, _, _, _, rfl, rfl, SqT.of hv2, at_1, ?_⟩
    walk_at "go"
    refine ⟨r, _, _, _, rfl, rfl, SqT.of hv2, at_3, ?_⟩
    walk_at "go"
    intro t nt
    refine q t ⟨ow, ot, kn, if si - 1 > 0 then si - 1 else 0⟩ _ (hT2.more (same_new nt)) upd_same (mkGd gf (by omega) ?_ ?_ go)
    · split <;> omega
    · split <;> omega
theorem cls_at : ∀ i, i < 4 → (Str.ofString "bfsn").cps[i]? = some ([98, 102, 115, 110].getD i 0) := by decide +kernel
theorem bfsn_sz : (Str.ofString "bfsn").cps.size = 4 := by decide +kernel
theorem candO_len (w : Vw) : (candO w).length ≤ 4 := by
  unfold candO
  cases w.oth
  · exact Nat.zero_le _
  · exact Nat.le_refl _
/-- the texts behind k views -/
def txs (u v : Vw) (k : Nat) : List (List Nat) := rep (rnd u) :: (if k = 0 then [] else if k = 1 then candO u else candO u ++ candO v)
def sxs (l : List (List Nat)) : List V := l.map fun t => V.str (S t)
theorem sxs_app (l r : List (List Nat)) : sxs (l ++ r) = sxs l ++ sxs r := List.map_append
theorem sxs_len (l : List (List Nat)) : (sxs l).length = l.length := List.length_map ..
def jV (u v : Vw) : V := if jok u v then .str (S (jn u v)) else .non
def spJoined : Sp := fun vs H Q _ => ∃ (W p1 p2 : Addr) (u v : Vw), vs = [.ref W] ∧ H W = some (.lst [.ref p1, .ref p2]) ∧ H p1 = some (.tup (vwL u)) ∧ H p2 = some (.tup (vwL v)) ∧ Good u ∧ Good v ∧ ∀ H', Same H H' → Q (jV u v) H'
theorem ok_joined (F : FnP K "_law_joined" s_joined f fd) (m_len : mg "len" = none) (c_view : Cal P w K mg base 1 "_law_view" (spView K)) : FnOk P w K mg base CX0 2 f fd P_joined spJoined := by
  refine F.ok sc_joined (fun vs H Q E h => ?_) (fun cdv A outer s H vs Q E hr h => ?_)
  · obtain ⟨W, p1, p2, u, v, rfl, _⟩ := h
    rfl
  · obtain ⟨W, p1, p2, u, v, rfl, hW, hu, hv, gu, gv, q⟩ := h
    refine ⟨_, PSs.nox (pss_cons (ps_set (i := 1) sc_joined.nd rfl (by first | exact .inl rfl | exact .inr rfl) (pe_ix ix_tup (pe_ix ix_list (pv 0) pe_int (fun _ _ => rfl)) pe_int (fun _ _ => rfl)))
      (pss_cut (ps_if (pt_cmpR op_notN (pe_ix ix_tup (pe_ix ix_list (pv 0) pe_int (fun _ _ => rfl)) pe_int (fun _ _ => rfl)) pe_non (nomark _)) (pss_one (ps_set (i := 1) sc_joined.nd rfl (by first | exact .inl rfl | exact .inr rfl) (pe_op op_add (pe_op op_add (pv 1) (pe_callB call_len_str (by rfl) m_len PySem.boot_len (pa_cons (pe_ix ix_tup (pe_ix ix_list (pv 0) pe_int (fun _ _ => rfl)) pe_int (fun _ _ => rfl)) pa_nil))) pe_int))) pss_nil)
      (pss_cons (ps_set (i := 2) sc_joined.nd rfl (by first | exact .inl rfl | exact .inr rfl) (pe_lst (pa_cons (pe_op op_repN pe_str (pv 1)) pa_nil)))
      (pss_cons (ps_for PassesOwn.never rfl (pi_list (pv 0)) (pg_name (i := 3) sc_joined.nd rfl (by first | exact .inl rfl | exact .inr rfl))
        (pss_one (ps_if (pt_cmpR op_notN (pe_ix ix_tup (pv 3) pe_int (fun _ _ => rfl)) pe_non (nomark _)) (pss_one (ps_for PassesOwn.never rfl (pi_str pe_str) (pg_name (i := 4) sc_joined.nd rfl (by first | exact .inl rfl | exact .inr rfl))
        (pss_one (ps_expr (pe_bm PySem.F.plainAttrs_list PySem.F.slot_list_append PySem.F.type_list_append mt_append (pv 2) (pa_cons (pe_op op_add_str (pe_op op_add_str (pe_ix ix_tup (pv 3) pe_int (fun _ _ => rfl)) (pv 4)) (pe_op op_repN pe_str (pe_ix ix_tup (pv 3) pe_int (fun _ _ => rfl)))) pa_nil)))))) pss_nil)))
      (pss_cons (ps_for PassesOwn.never rfl (pi_list (pv 2)) (pg_name (i := 5) sc_joined.nd rfl (by first | exact .inl rfl | exact .inr rfl))
        (pss_cons (ps_set (i := 6) sc_joined.nd rfl (by first | exact .inl rfl | exact .inr rfl) (pe_tup (pa_cons (pe_ix ix_tup (pe_ix ix_list (pv 0) pe_int (fun _ _ => rfl)) pe_int (fun _ _ => rfl)) (pa_cons (pe_ix ix_tup (pe_ix ix_list (pv 0) pe_int (fun _ _ => rfl)) pe_int (fun _ _ => rfl)) (pa_cons (pv 5) pa_nil)))))
      (pss_one (ps_if (PW.pt (pw_and (pt_cmpR (op_eqD hr.units) (pe_cl c_view hr (by decide) (by rfl) (pa_cons (pv 6) (pa_cons pe_str pa_nil))) (pe_ix ix_list (pv 0) pe_int (fun _ _ => rfl)) (nomark _)) (pw_and1 (pt_cmpR (op_eqD hr.units) (pe_cl c_view hr (by decide) (by rfl) (pa_cons (pv 6) (pa_cons pe_str pa_nil))) (pe_ix ix_list (pv 0) pe_int (fun _ _ => rfl)) (nomark _))))) (pss_one (ps_ret (pv 5))) pss_nil))))
      (pss_one (ps_ret pe_non))))))), ?_⟩
    have lu := gu.2.1
    have lv := gv.2.1
    have hlu : (S u.kn).length ≤ sizeLine := by rw [S_len]; exact szl (by omega)
    walk_at "go"
    refine ⟨W, _, _, _, rfl, rfl, SqL.of hW, at_0, ?_⟩
    walk_at "go"
    refine ⟨p1, _, _, _, rfl, rfl, SqT.of hu, at_3, ?_⟩
    walk_at "go"
    refine ⟨fun σ J => J = H ∧ σ = [some (.ref W), some (.int (rnd u)), none, none, none, none, none], ?_, ?_⟩
    · walk_at "go"
      refine ⟨W, _, _, _, rfl, rfl, SqL.of hW, at_0, ?_⟩
      walk_at "go"
      refine ⟨p1, _, _, _, rfl, rfl, SqT.of hu, at_1, ?_⟩
      walk_at "go"
      cases ho : u.oth with
      | none =>
        refine ite2 (fun h => absurd h (by simp [oV])) (fun _ => ?_)
        refine ⟨rfl, ?_⟩
        rw [show rnd u = u.si by unfold rnd hro; rw [ho]; exact Int.zero_add _]
        rfl
      | some x =>
        refine ite2 (fun _ => ?_) (fun h => absurd (show (!decide (oV (some x) = V.non)) = true by simp [oV]) h)
        walk_at "go"
        refine ⟨W, _, _, _, rfl, rfl, SqL.of hW, at_0, ?_⟩
        walk_at "go"
        refine ⟨p1, _, _, _, rfl, rfl, SqT.of hu, at_2, ?_⟩
        walk_at "go"
        rw [S_len]
        rw [show rnd u = u.si + (u.kn.length : Nat) + 1 by unfold rnd hro; rw [ho]; show ((u.kn.length + 1 : Nat) : Int) + u.si = _; omega]
        rfl
    rintro σ J ⟨rfl, rfl⟩
    have r0 : -1 ≤ rnd u ∧ rnd u ≤ 400 := by
      have z := gu.2
      unfold rnd hro
      split <;> omega
    walk_at "go"
    refine ⟨_, rfl, rfl, by omega, by omega, ?_⟩
    rw [show List.replicate (rnd u).toNat 110 = rep (rnd u) from rfl]
    walk_at "go"
    intro TL nTL
    generalize eH_ : upd J TL _ = H1
    have s1 : Same J H1 := by rw [← eH_]; exact same_new nTL
    have eTL : H1 TL = some (.lst [.str (S (rep (rnd u)))]) := by rw [← eH_]; exact upd_same
    clear eH_
    walk_at "go"
    refine ⟨⟨_, SqL.of (s1 _ _ hW)⟩, ?_⟩
    refine for_vs (SqL.of hW) (fun k σ J1 => Same J J1 ∧ J1 TL = some (.lst (sxs (txs u v k))) ∧ ∃ v3 v4, σ = [some (.ref W), some (.int (rnd u)), some (.ref TL), v3, v4, none, none]) ⟨s1, eTL, _, _, rfl⟩ (fun k σ J1 p => p.1) ?_ ?_
    · rintro k x σ J1 ek ⟨s2, eT, v3, v4, rfl⟩
      obtain ⟨p, w, rfl, hp, gw, et, tl⟩ : ∃ p w, x = .ref p ∧ J p = some (.tup (vwL w)) ∧ Good w ∧ txs u v (k + 1) = txs u v k ++ candO w ∧ (txs u v k).length ≤ 5 := by
        match k, ek with
        | 0, ek =>
          cases ek
          exact ⟨p1, u, rfl, hu, gu, rfl, by show 1 ≤ 5; decide⟩
        | 1, ek =>
          cases ek
          exact ⟨p2, v, rfl, hv, gv, rfl, by have := candO_len u; show (candO u).length + 1 ≤ 5; omega⟩
      rw [et]
      generalize txs u v k = tx at eT tl
      have hp1 := s2 _ _ hp
      have lw := gw.2.1
      have hlw : (S w.kn).length ≤ sizeLine := by rw [S_len]; exact szl (by omega)
      walk_at "go"
      refine ⟨p, _, _, _, rfl, rfl, SqT.of hp1, at_1, ?_⟩
      walk_at "go"
      cases ho : w.oth with
      | none =>
        refine ite2 (fun h => absurd h (by simp [oV])) (fun _ => ?_)
        refine ⟨s2, ?_, _, _, rfl⟩
        rw [show candO w = [] by unfold candO; rw [ho], List.append_nil]
        exact eT
      | some b =>
        refine ite2 (fun _ => ?_) (fun h => absurd (show (!decide (oV (some b) = V.non)) = true by simp [oV]) h)
        dsimp only [List.set]
        walk_at "go"
        refine for_gen (n := 4) (fun i σ J2 => Same J J2 ∧ J2 TL = some (.lst (sxs (tx ++ ([98, 102, 115, 110].take i).map fun c => w.kn ++ [c] ++ rep w.si))) ∧ ∃ v4, σ = [some (.ref W), some (.int (rnd u)), some (.ref TL), some (.ref p), v4, none, none]) ⟨s2, by rw [List.take_zero, List.map_nil, List.append_nil]; exact eT, _, rfl⟩ ?_ ?_ ?_ ?_
        · rintro i σ J2 hi _
          show i < (Str.ofString "bfsn").cps.size
          rw [bfsn_sz]
          exact hi
        · rintro σ J2 _
          show (Str.ofString "bfsn").cps.size ≤ 4
          rw [bfsn_sz]
          exact Nat.le_refl _
        · rintro i σ J2 x J3 hi ⟨s3, eT3, v4, rfl⟩ ⟨rfl, c, ec, rfl⟩
          rw [cls_at i hi] at ec
          have ec : [98, 102, 115, 110].getD i 0 = c := Option.some.inj ec
          have tk : [98, 102, 115, 110].take (i + 1) = [98, 102, 115, 110].take i ++ [c] := (take_snoc (by exact hi) ec).symm
          rw [tk, List.map_append, ← List.append_assoc]
          have l3 : (tx ++ ([98, 102, 115, 110].take i).map fun c => w.kn ++ [c] ++ rep w.si).length ≤ 9 := by
            rw [List.length_append, List.length_map, List.length_take]
            show tx.length + min i 4 ≤ 9
            omega
          generalize (tx ++ ([98, 102, 115, 110].take i).map fun c => w.kn ++ [c] ++ rep w.si) = ty at eT3 l3
          have hp3 := s3 _ _ hp
          walk_at "go"
          refine ⟨.inl ⟨rfl, _, SqL.of eT3⟩, ?_⟩
          walk_at "go"
          refine ⟨p, _, _, _, rfl, rfl, SqT.of hp3, at_2, ?_⟩
          walk_at "go"
          refine ⟨by rw [S_len]; exact szl (show w.kn.length + 1 ≤ 2000 by omega), ?_⟩
          rw [show (⟨#[c]⟩ : Str) = S [c] from rfl, S_cat]
          walk_at "go"
          refine ⟨p, _, _, _, rfl, rfl, SqT.of hp3, at_3, ?_⟩
          walk_at "go"
          have g4 := gw.2.2
          refine ⟨_, rfl, rfl, by omega, by omega, ?_⟩
          rw [show List.replicate w.si.toNat 110 = rep w.si from rfl]
          walk_at "go"
          refine ⟨by rw [S_len, S_len, rep_len, List.length_append]; exact szl (show w.kn.length + 1 + _ ≤ 2000 by omega), ?_⟩
          rw [S_cat]
          walk_at "go"
          refine ⟨TL, _, _, rfl, rfl, eT3, by rw [sxs_len]; exact szlt (by omega), ?_⟩
          refine ⟨Z.Same.mut s3 nTL, ?_, _, rfl⟩
          rw [upd_same, sxs_app]
          rfl
        rintro σ J2 ⟨s3, eT3, v4, rfl⟩
        refine ⟨s3, ?_, _, _, rfl⟩
        rw [show candO w = [98, 102, 115, 110].map fun c => w.kn ++ [c] ++ rep w.si by unfold candO; rw [ho]]
        exact eT3
    rintro σ J1 ⟨s2, eT, v3, v4, rfl⟩
    have eT : J1 TL = some (.lst (sxs (cand u v))) := eT
    walk_at "go"
    refine ⟨⟨_, SqL.of eT⟩, ?_⟩
    refine for_vs (SqL.of eT) (fun k σ J2 => Same J1 J2 ∧ (∀ j t, j < k → (cand u v)[j]? = some t → ¬ (vw u.own v.own t false = u ∧ vw u.own v.own t true = v)) ∧ ∃ v5 v6, σ = [some (.ref W), some (.int (rnd u)), some (.ref TL), v3, v4, v5, v6]) ⟨Same.refl _, fun j t h => absurd h (by omega), _, _, rfl⟩ (fun k σ J2 p => p.1) ?_ ?_
    · rintro k x σ J2 ek ⟨s3, no, v5, v6, rfl⟩
      obtain ⟨t, et, rfl⟩ := of_map ek
      obtain ⟨tf, tl⟩ := cand_fts gu gv t (List.mem_of_getElem? et)
      have s03 := s2.trans s3
      have hW3 := s03 _ _ hW
      have hu3 := s03 _ _ hu
      have hv3 := s03 _ _ hv
      have step : ¬ (vw u.own v.own t false = u ∧ vw u.own v.own t true = v) → ∀ j t', j < k + 1 → (cand u v)[j]? = some t' → ¬ (vw u.own v.own t' false = u ∧ vw u.own v.own t' true = v) := fun h j t' hj e => by
        by_cases c : j = k
        · subst c
          rw [et] at e
          cases e
          exact h
        · exact no j t' (by omega) e
      walk_at "go"
      refine ⟨W, _, _, _, rfl, rfl, SqL.of hW3, at_0, ?_⟩
      walk_at "go"
      refine ⟨p1, _, _, _, rfl, rfl, SqT.of hu3, at_0, ?_⟩
      walk_at "go"
      refine ⟨W, _, _, _, rfl, rfl, SqL.of hW3, at_1, ?_⟩
      walk_at "go"
      refine ⟨p2, _, _, _, rfl, rfl, SqT.of hv3, at_0, ?_⟩
      walk_at "go"
      intro X nX
      generalize eH_ : upd J2 X _ = J3
      have s4 : Same J2 J3 := by rw [← eH_]; exact same_new nX
      have eX : J3 X = some (.tup [.int u.own, .int v.own, .str (S t)]) := by rw [← eH_]; exact upd_same
      clear eH_
      dsimp only [List.set]
      walk_at "go"
      refine ⟨X, false, u.own, v.own, t, rfl, eX, by omega, fun r J4 s5 nr er => ?_⟩
      have s35 := s4.trans s5
      walk_at "go"
      refine ⟨W, _, _, _, rfl, rfl, SqL.of (s35 _ _ hW3), at_0, ?_⟩
      walk_at "go"
      refine ⟨_, _, dp_vw er, dp_vw (s35 _ _ hu3), shaped_vw (vw_ok tf (by omega)), shaped_vw gu.ok, ?_⟩
      rw [eqv_vw]
      by_cases c1 : vw u.own v.own t false = u
      · rw [decide_eq_true c1]
        walk_at "go"
        refine ⟨X, true, u.own, v.own, t, rfl, s5 _ _ eX, by omega, fun r2 J5 s6 nr2 er2 => ?_⟩
        have s36 := s35.trans s6
        walk_at "go"
        refine ⟨W, _, _, _, rfl, rfl, SqL.of (s36 _ _ hW3), at_1, ?_⟩
        walk_at "go"
        refine ⟨_, _, dp_vw er2, dp_vw (s36 _ _ hv3), shaped_vw (vw_ok tf (by omega)), shaped_vw gv.ok, ?_⟩
        rw [eqv_vw]
        by_cases c2 : vw u.own v.own t true = v
        · rw [decide_eq_true c2]
          walk_at "go"
          obtain ⟨ok, en⟩ := jok_of tf c1 c2
          have z := q J5 (s03.trans s36)
          unfold jV at z
          rw [if_pos ok, en] at z
          exact z
        · rw [decide_eq_false c2]
          walk_at "go"
          exact ⟨s3.trans s36, step fun z => c2 z.2, _, _, rfl⟩
      · rw [decide_eq_false c1]
        walk_at "go"
        exact ⟨s3.trans s35, step fun z => c1 z.1, _, _, rfl⟩
    rintro σ J2 ⟨s3, no, v5, v6, rfl⟩
    walk_at "go"
    have z := q J2 (s2.trans s3)
    unfold jV at z
    rw [if_neg ?_] at z
    · exact z
    · intro ok
      have ok := of_decide_eq_true ok
      obtain ⟨j, hj, ej⟩ := List.getElem_of_mem (jn_cand gu gv ok.1)
      refine no j (jn u v) (by show j < (sxs (cand u v)).length; rw [sxs_len]; exact hj) (by rw [List.getElem?_eq_getElem hj, ej]) ok.2
end
end Z
set_option pp.maxSteps 700
set_option Elab.async false
set_option linter.all false
set_option maxRecDepth 100000
set_option maxHeartbeats 4000000
open SX (S S_inj S_len S_cat)
namespace Z
open PySem PySem.Spec PyProof.Rows L2
open C8 (pss_cut tCut)
local macro_rules | `(tactic| walk_at "num") => `(tactic| first | rfl | omega | decide | exact Nat.le_of_lt (small1000 (by simp)) | exact ⟨by omega, by omega⟩ | exact ⟨by omega, by omega, by omega⟩ | exact ⟨by decide, by decide, by decide⟩ | exact Or.inl ⟨by omega, by omega⟩ | exact Or.inr ⟨by omega, by omega⟩)
local macro_rules | `(tactic| walk_at "go") => `(tactic| repeat (first | refine ⟨_, rfl, ?_⟩ | refine ⟨_, _, rfl, rfl, ?_⟩ | refine ⟨_, _, rfl, ?_⟩ | (refine ⟨_, _, rfl, rfl, ?_, ?_⟩; focus walk_at "num") | refine Or.inl ⟨_, rfl, ?_⟩ | refine ⟨_, _, _, _, rfl, rfl, (by assumption), (by rfl), ?_⟩ | refine ⟨_, _, _, _, _, rfl, (by assumption), (by assumption), (by assumption), (by rfl), ?_⟩ | refine ⟨rfl, ?_⟩ | (refine And.intro ?_ ?_; focus walk_at "num")))
abbrev s_grown : Stmt := topS 31
abbrev N_grown : List Str := ["_law_end", "_law_view_here", "_law_letter", "e"]
abbrev P_grown : List Str := ["_law_end", "_law_view_here", "_law_letter"]
theorem sc_grown : FnScope N_grown P_grown (defScope s_grown) := ⟨rfl, rfl, rfl, by decide +kernel, rfl, by decide +kernel, by decide +kernel⟩
abbrev s_grows : Stmt := topS 32
abbrev N_grows : List Str := ["_law_end", "_law_view_here", "_law_letter", "_law_due", "_law_listed", "_law_given", "_law_carried", "_law_told"]
abbrev P_grows : List Str := ["_law_end", "_law_view_here", "_law_letter", "_law_due", "_law_listed"]
theorem sc_grows : FnScope N_grows P_grows (defScope s_grows) := ⟨rfl, rfl, rfl, by decide +kernel, rfl, by decide +kernel, by decide +kernel⟩
/-- what grow answers -/
inductive Ans where
  | view (v : Vw)
  | unm
  | fin (z : Str)
def isEnd (z : Str) : Prop := z = eS false ∨ z = eS true
/-- the answer at z to view v with the letter o -/
inductive AnsOf : Str → Vw → Option Vw → Ans → Prop
  | fin {z : Str} {v : Vw} {o : Option Vw} : ¬ isEnd z → AnsOf z v o (.fin z)
  | mute {e : Bool} {v : Vw} : AnsOf (eS e) v none (.view { v with si := v.si + 1 })
  | yes {e : Bool} {v u g : Vw} : Good v → Good u → grown e v u = some g → AnsOf (eS e) v (some u) (.view g)
  | no {e : Bool} {v u : Vw} : Good v → Good u → grown e v u = none → AnsOf (eS e) v (some u) .unm
def ansW : Ans → Str
  | .view _ => "view"
  | .unm => "unmatched"
  | .fin _ => "end"
/-- the answer's second item -/
def AnsX (H : Hp) : Ans → V → Prop
  | .view v, x => ∃ r, x = .ref r ∧ H r = some (.tup (vwL v))
  | .unm, x => x = .non
  | .fin z, x => x = .str z
theorem AnsX.mono {H H' : Hp} {a : Ans} {x : V} (s : Same H H') (h : AnsX H a x) : AnsX H' a x := by
  cases a with
  | view v => exact h.imp fun r z => ⟨z.1, s _ _ z.2⟩
  | unm => exact h
  | fin z => exact h
/-- a letter: none, or a view at q -/
inductive Lt (b : Bool) (H : Hp) : V → Option Vw → Prop
  | non : Lt b H .non none
  | vw {q : Addr} {u : Vw} : H q = some (bO b (vwL u)) → Lt b H (.ref q) (some u)
theorem Lt.mono {b : Bool} {H H' : Hp} {x : V} {o : Option Vw} (s : Same H H') (h : Lt b H x o) : Lt b H' x o := by
  cases h with
  | non => exact .non
  | vw e => exact .vw (s _ _ e)
section
variable {P : Program} {w : World} {K : PySem.W.Frag} {mg : Str → Option Value} {base : Heap} {f C CB CE CF CU CH : Addr} {fd : FuncData}
def spGrown : Sp := fun vs H Q _ => ∃ (z : Str) (b b' : Bool) (p : Addr) (v : Vw) (lt : V) (o : Option Vw) (a : Ans), vs = [.str z, .ref p, lt] ∧ H p = some (bO b (vwL v)) ∧ Lt b' H lt o ∧ AnsOf z v o a ∧ ∀ t x H', Same H H' → H' t = some (.tup [.str (ansW a), x, .bl true]) → AnsX H' a x → Q (.ref t) H'
theorem ok_grown (F : FnP K "_law_grown" s_grown f fd) (m_isinstance : mg "isinstance" = none) (g_Unmatched : mg "Unmatched" = some (.ref CU)) (g_BadEnd : mg "BadEnd" = some (.ref CE)) (g_HouseError : mg "HouseError" = some (.ref CH)) (c_grow : CalX P w K mg base 7 "grow" (spGrow CE CU)) (xf_BadEnd : XfC K CE) (no_BadEnd_end : PySem.W.findIn K (.ref CE) "end" = some none) (ecE : ExcC K CE) (ecU : ExcC K CU) (teUU : PySem.W.exmOne K (.ref CU) (.ref CU) = some true) (teEU : PySem.W.exmOne K (.ref CE) (.ref CU) = some false) (teEE : PySem.W.exmOne K (.ref CE) (.ref CE) = some true) (kEH : PySem.W.kitOne K (.ref CE) (.ref CH) = some true) (kUH : PySem.W.kitOne K (.ref CU) (.ref CH) = some true) (kUE : PySem.W.kitOne K (.ref CU) (.ref CE) = some false) : FnOk P w K mg base CX0 8 f fd P_grown spGrown := by
  refine F.ok sc_grown (fun vs H Q E h => ?_) (fun cdv A outer s H vs Q E hr h => ?_)
  · obtain ⟨z, b, b', p, v, lt, o, a, rfl, _⟩ := h
    rfl
  · obtain ⟨z, b, b', p, v, lt, o, a, rfl, hp, hl, ha, q⟩ := h
    refine ⟨_, PSs.nox (pss_one (L2N.ps_try_manyA rfl rfl sc_grown.nd takes0N (fun W pn xe tk po => (pss_one (ps_ret (pe_tup (pa_cons pe_str (pa_cons (pe_clE c_grow (fun σ => L2N.passAt tk σ) hr (by decide) (by rfl) (pa_cons (pv 0) (pa_cons (pv 1) (pa_cons (pv 2) pa_nil)))) (pa_cons pe_bl pa_nil)))))))
      (.cons (i := 3) rfl rfl ⟨rfl, rfl, .inl g_Unmatched⟩ (fun ex oe cls d pn hzn hf => (pss_one (ps_ret (pe_tup (pa_cons pe_str (pa_cons pe_non (pa_cons (pe_and (pe_callB (call_is0 hzn.zc hf) (by rfl) m_isinstance (by decide +kernel) (pa_cons (pv 3) (pa_cons (pe_glob (by rfl) g_HouseError relv_ref) pa_nil))) (pe_one (pe_not (pe_callB (call_is0 hzn.zc hf) (by rfl) m_isinstance (by decide +kernel) (pa_cons (pv 3) (pa_cons (pe_glob (by rfl) g_BadEnd relv_ref) pa_nil)))))) pa_nil)))))))
      (.cons (i := 3) rfl rfl ⟨rfl, rfl, .inl g_BadEnd⟩ (fun ex oe cls d pn hzn hf => (pss_one (ps_ret (pe_tup (pa_cons pe_str (pa_cons (pe_xf xf_BadEnd no_BadEnd_end hzn.zc hf (pv 3)) (pa_cons (pe_callB (call_isX hzn.zc hf) (by rfl) m_isinstance (by decide +kernel) (pa_cons (pv 3) (pa_cons (pe_glob (by rfl) g_HouseError relv_ref) pa_nil))) pa_nil)))))))
      .nil)))), ?_⟩
    have inj : ∀ {e e2 : Bool}, eS e = eS e2 → e = e2 := fun {e e2} => by cases e <;> cases e2 <;> decide +kernel
    have isE : ∀ {R : Prop} (e : Bool), ¬ isEnd (eS e) → R := fun e h => absurd (by cases e <;> simp [isEnd]) h
    walk_at "go"
    cases ha with
    | fin hz =>
      refine ⟨z, b, p, v, lt, rfl, hp, fun _ d nd => ?_, fun e ez => isE e (by rw [← ez]; exact hz)⟩
      refine ⟨false, teEU, (fun z => by cases z), fun _ => ?_⟩
      refine ⟨true, teEE, fun _ a' na => ?_, (fun z => by cases z)⟩
      walk_at "go"
      refine ⟨d, _, _, rfl, upd_same, rfl, ?_⟩
      walk_at "go"
      refine ⟨CE, d, _, .ref CH, .ref CH, true, rfl, rfl, ecE, upd_same, rfl, (fun u z => by cases z; rfl), kEH, ?_⟩
      walk_at "go"
      intro t nt
      exact q t (.str z) _ ((same_new nd).trans (same_new nt)) upd_same rfl
    | @mute e v =>
      cases hl with
      | non =>
        refine ⟨eS e, b, p, v, .non, rfl, hp, fun h => isE e h, fun e2 ez => .inl ⟨rfl, fun r H1 s1 er => ?_⟩⟩
        walk_at "go"
        intro t nt
        exact q t (.ref r) _ (s1.trans (same_new nt)) upd_same ⟨r, rfl, (same_new nt) _ _ er⟩
    | @yes e v u g gv gu eg =>
      cases hl with
      | @vw q' u hq =>
        refine ⟨eS e, b, p, v, .ref q', rfl, hp, fun h => isE e h, fun e2 ez => .inr ⟨b', q', u, rfl, hq, gv, gu, fun g' eg' r H1 s1 er => ?_, fun no => ?_⟩⟩
        · rw [← inj ez, eg] at eg'
          cases eg'
          walk_at "go"
          intro t nt
          exact q t (.ref r) _ (s1.trans (same_new nt)) upd_same ⟨r, rfl, (same_new nt) _ _ er⟩
        · rw [← inj ez, eg] at no
          cases no
    | @no e v u gv gu eg =>
      cases hl with
      | @vw q' u hq =>
        refine ⟨eS e, b, p, v, .ref q', rfl, hp, fun h => isE e h, fun e2 ez => .inr ⟨b', q', u, rfl, hq, gv, gu, fun g' eg' => ?_, fun _ H1 s1 => ?_⟩⟩
        · rw [← inj ez, eg] at eg'
          cases eg'
        · refine ⟨true, teUU, fun _ a' na => ?_, (fun z => by cases z)⟩
          walk_at "go"
          refine ⟨CU, .ref CH, .ref CH, true, rfl, rfl, ecU, rfl, (fun u z => by cases z; rfl), kUH, ?_⟩
          walk_at "go"
          refine ⟨CU, .ref CE, .ref CE, false, rfl, rfl, ecU, rfl, (fun u z => by cases z; rfl), kUE, ?_⟩
          walk_at "go"
          intro t nt
          exact q t .non _ (s1.trans (same_new nt)) upd_same rfl
def vwDl (v : Vw) : PyData := .list [.int v.own, oD v.oth, .str (S v.kn), .int v.si]
theorem dp_vwl {K : PySem.W.Frag} {H : Hp} {p : Addr} {v : Vw} (h : H p = some (.lst (vwL v))) : Dp K H (.ref p) (vwDl v) := .lst (SqL.of h) (.cons (.int _) (.cons (dp_oV _) (.cons (.str _) (.cons (.int _) .nil))))
theorem shaped_vwl {v : Vw} (h : VwOk v) : SeqAt.shaped (vwDl v) = true := by
  have z := strOk_of h.2
  unfold SeqAt.shaped vwDl
  cases v.oth <;> simp [oD, PyData.canLay0, PyData.canLayAll0, PyData.depth, PyData.depthAll, z]
def spGrows : Sp := fun vs H Q _ => ∃ (z : Str) (p d : Addr) (v : Vw) (lt x : V) (o : Option Vw) (a : Ans) (bl : Bool), vs = [.str z, .ref p, lt, .ref d, .bl bl] ∧ H p = some (.tup (vwL v)) ∧ VwOk v ∧ Lt false H lt o ∧ (∀ u, o = some u → VwOk u) ∧ AnsOf z v o a ∧ H d = some (.tup [.str (ansW a), x]) ∧ AnsX H a x ∧ ∀ H', Same H H' → Q (.bl true) H'
theorem ok_grows (F : FnP K "_law_grows" s_grows f fd) (m_list : mg "list" = none) (m_isinstance : mg "isinstance" = none) (m_str : mg "str" = none) (c_grown : Cal P w K mg base 8 "_law_grown" spGrown) (c_is_view : Cal P w K mg base 2 "_law_is_view" spIsV) : FnOk P w K mg base CX0 9 f fd P_grows spGrows := by
  refine F.ok sc_grows (fun vs H Q E h => ?_) (fun cdv A outer s H vs Q E hr h => ?_)
  · obtain ⟨z, p, d, v, lt, x, o, a, bl, rfl, _⟩ := h
    rfl
  · obtain ⟨z, p, d, v, lt, x, o, a, bl, rfl, hp, vok, hl, uok, ha, hd, hx, q⟩ := h
    refine ⟨_, PSs.nox (pss_cons (ps_set (i := 5) sc_grows.nd rfl (by first | exact .inl rfl | exact .inr rfl) (pv 1))
      (pss_cons (ps_set (i := 6) sc_grows.nd rfl (by first | exact .inl rfl | exact .inr rfl) (pv 2))
      (pss_cut (ps_if (pt_val (pv 4)) (pss_cons (ps_set (i := 5) sc_grows.nd rfl (by first | exact .inl rfl | exact .inr rfl) (pe_callTy call_list_of (by rfl) m_list (by decide +kernel) (pa_cons (pv 1) pa_nil)))
      (pss_one (ps_if (pt_cmpR op_notN (pv 2) pe_non (nomark _)) (pss_one (ps_set (i := 6) sc_grows.nd rfl (by first | exact .inl rfl | exact .inr rfl) (pe_callTy call_list_of (by rfl) m_list (by decide +kernel) (pa_cons (pv 2) pa_nil)))) pss_nil))) pss_nil)
      (pss_cons (ps_set (i := 7) sc_grows.nd rfl (by first | exact .inl rfl | exact .inr rfl) (pe_cl c_grown hr (by decide) (by rfl) (pa_cons (pv 0) (pa_cons (pv 5) (pa_cons (pv 6) pa_nil)))))
      (pss_cut (ps_if (PW.pt (pw_or (PW.pt (pw_and (pt_val (pv 4)) (pw_and1 (pt_cmpR (op_neD hr.units) (pv 5) (pe_callTy call_list_of (by rfl) m_list (by decide +kernel) (pa_cons (pv 1) pa_nil)) (nomark _))))) (pw_or1 (PW.pt (pw_and (pt_val (pv 4)) (pw_and (pt_cmpR op_notN (pv 2) pe_non (nomark _)) (pw_and1 (pt_cmpR (op_neD hr.units) (pv 6) (pe_callTy call_list_of (by rfl) m_list (by decide +kernel) (pa_cons (pv 2) pa_nil)) (nomark _))))))))) (pss_one (ps_ret pe_bl)) pss_nil)
      (pss_cons (ps_if (PW.pt (pw_or (pt_cmpR op_ne (pe_ix ix_tup (pv 7) pe_int (fun _ _ => rfl)) (pe_ix ix_tup (pv 3) pe_int (fun _ _ => rfl)) (nomark _)) (pw_or1 (pt_not (pt_val (pe_ix ix_tup (pv 7) pe_int (fun _ _ => rfl))))))) (pss_one (ps_ret pe_bl)) pss_nil)
      (pss_cons (ps_if (pt_cmpR op_eq (pe_ix ix_tup (pv 3) pe_int (fun _ _ => rfl)) pe_str (nomark _)) (pss_one (ps_ret (pe_cl c_is_view hr (by decide) (by rfl) (pa_cons (pe_ix ix_tup (pv 7) pe_int (fun _ _ => rfl)) (pa_cons (pe_ix ix_tup (pv 3) pe_int (fun _ _ => rfl)) pa_nil))))) pss_nil)
      (pss_one (ps_ret (pe_or (pe_cmpR op_eq (pe_ix ix_tup (pv 3) pe_int (fun _ _ => rfl)) pe_str (nomark _)) (pe_one (pe_and (pe_callB call_isi (by rfl) m_isinstance (by decide +kernel) (pa_cons (pe_ix ix_tup (pv 7) pe_int (fun _ _ => rfl)) (pa_cons (pe_bltn (v := .ty "str") (by rfl) m_str (by decide +kernel) rfl) pa_nil))) (pe_one (pe_cmpR op_eq (pe_ix ix_tup (pv 7) pe_int (fun _ _ => rfl)) (pe_ix ix_tup (pv 3) pe_int (fun _ _ => rfl)) (nomark _))))))))))))))), ?_⟩
    walk_at "go"
    refine ⟨fun σ J => Same H J ∧ ∃ G Cr, J G = some (bO bl (vwL v)) ∧ Lt bl J Cr o ∧ σ = [some (.str z), some (.ref p), some lt, some (.ref d), some (.bl bl), some (.ref G), some Cr, none], ?_, ?_⟩
    · walk_at "go"
      cases bl
      · walk_at "go"
        exact ⟨Same.refl _, p, lt, hp, hl, rfl⟩
      · walk_at "go"
        refine ⟨p, _, rfl, .inr (SqT.of hp), fun G nG => ?_⟩
        have s1 := same_new (o := .lst (vwL v)) nG
        have eG : (upd H G (.lst (vwL v))) G = some (.lst (vwL v)) := upd_same
        generalize upd H G (.lst (vwL v)) = H1 at s1 eG
        walk_at "go"
        cases hl with
        | non =>
          refine ite2 (fun h => absurd h (by simp)) (fun _ => ?_)
          exact ⟨s1, G, .non, eG, .non, rfl⟩
        | @vw q' u hq =>
          refine ite2 (fun _ => ?_) (fun h => absurd (show (!decide (V.ref q' = V.non)) = true by simp) h)
          walk_at "go"
          refine ⟨q', _, rfl, .inr (SqT.of (s1 _ _ hq)), fun G2 nG2 => ?_⟩
          exact ⟨s1.trans (same_new nG2), G, .ref G2, (same_new nG2) _ _ eG, .vw upd_same, rfl⟩
    rintro σ J ⟨s1, G, Cr, eG, hC, rfl⟩
    walk_at "go"
    refine ⟨z, bl, bl, G, v, Cr, o, a, rfl, eG, hC, ha, fun t x' J1 s2 et hx' => ?_⟩
    have s02 := s1.trans s2
    have hp1 := s02 _ _ hp
    have eG1 := s2 _ _ eG
    have hC1 := hC.mono s2
    have hl1 := hl.mono s02
    walk_at "go"
    refine ⟨fun σ J2 => Same J1 J2 ∧ σ = [some (.str z), some (.ref p), some lt, some (.ref d), some (.bl bl), some (.ref G), some Cr, some (.ref t)], ?_, ?_⟩
    · cases bl
      · walk_at "go"
        refine ite2 (fun h => absurd h (by simp)) (fun _ => ?_)
        exact ⟨Same.refl _, rfl⟩
      · walk_at "go"
        refine ⟨p, _, rfl, .inr (SqT.of hp1), fun G3 nG3 => ?_⟩
        have s3 := same_new (o := .lst (vwL v)) nG3
        have eG3 : (upd J1 G3 (.lst (vwL v))) G3 = some (.lst (vwL v)) := upd_same
        generalize upd J1 G3 (.lst (vwL v)) = J3 at s3 eG3
        walk_at "go"
        refine ⟨_, _, dp_vwl (s3 _ _ eG1), dp_vwl eG3, shaped_vwl vok, shaped_vwl vok, ?_⟩
        rw [eqv_same (shaped_vwl vok)]
        walk_at "go"
        cases hl1 with
        | non =>
          walk_at "go"
          rfl
        | @vw q' u hq =>
          cases hC1 with
          | @vw q2 _ hq2 =>
            have uk := uok u rfl
            walk_at "go"
            refine ⟨q', _, rfl, .inr (SqT.of (s3 _ _ hq)), fun G4 nG4 => ?_⟩
            have s4 := same_new (o := .lst (vwL u)) nG4
            have eG4 : (upd J3 G4 (.lst (vwL u))) G4 = some (.lst (vwL u)) := upd_same
            generalize upd J3 G4 (.lst (vwL u)) = J4 at s4 eG4
            walk_at "go"
            refine ⟨_, _, dp_vwl (s4 _ _ (s3 _ _ hq2)), dp_vwl eG4, shaped_vwl uk, shaped_vwl uk, ?_⟩
            rw [eqv_same (shaped_vwl uk)]
            walk_at "go"
            exact ⟨s3.trans s4, rfl⟩
    rintro σ J2 ⟨s3, rfl⟩
    have s03 := s02.trans s3
    have et := s3 _ _ et
    have hx' := hx'.mono s3
    have hd := s03 _ _ hd
    have hx := hx.mono s03
    walk_at "go"
    refine ⟨t, _, _, _, rfl, rfl, SqT.of et, at_0, ?_⟩
    walk_at "go"
    refine ⟨d, _, _, _, rfl, rfl, SqT.of hd, at_0, ?_⟩
    walk_at "go"
    refine ite2 (fun h => absurd h (by simp)) (fun _ => ?_)
    walk_at "go"
    refine ⟨t, _, _, _, rfl, rfl, SqT.of et, at_2, ?_⟩
    walk_at "go"
    refine ⟨d, _, _, _, rfl, rfl, SqT.of hd, at_0, ?_⟩
    cases a with
    | view v2 =>
      obtain ⟨r1, rfl, hr1⟩ := hx'
      obtain ⟨r2, rfl, hr2⟩ := hx
      walk_at "go"
      refine ⟨t, _, _, _, rfl, rfl, SqT.of et, at_1, ?_⟩
      walk_at "go"
      refine ⟨d, _, _, _, rfl, rfl, SqT.of hd, at_1, ?_⟩
      walk_at "go"
      exact ⟨r1, r2, v2, rfl, hr1, hr2, q _ s03⟩
    | unm =>
      walk_at "go"
      refine ⟨d, _, _, _, rfl, rfl, SqT.of hd, at_0, ?_⟩
      walk_at "go"
      exact q _ s03
    | fin z2 =>
      obtain rfl : x' = .str z2 := hx'
      obtain rfl : x = .str z2 := hx
      walk_at "go"
      refine ⟨d, _, _, _, rfl, rfl, SqT.of hd, at_0, ?_⟩
      walk_at "go"
      refine ⟨t, _, _, _, rfl, rfl, SqT.of et, at_1, ?_⟩
      walk_at "go"
      refine isi (c := "str") (b := true) (.str _) (by decide +kernel) ?_
      walk_at "go"
      refine ⟨t, _, _, _, rfl, rfl, SqT.of et, at_1, ?_⟩
      walk_at "go"
      refine ⟨d, _, _, _, rfl, rfl, SqT.of hd, at_1, ?_⟩
      walk_at "go"
      rw [decide_eq_true rfl]
      exact q _ s03
end
end Z
set_option pp.maxSteps 700
set_option Elab.async false
set_option linter.all false
set_option maxRecDepth 100000
set_option maxHeartbeats 4000000
open SX (S S_inj S_len S_cat)
namespace Z
open PySem PySem.Spec PyProof.Rows L2
open C8 (pss_cut tCut)
local macro_rules | `(tactic| walk_at "num") => `(tactic| first | rfl | omega | decide | exact Nat.le_of_lt (small1000 (by simp)) | exact ⟨by omega, by omega⟩ | exact ⟨by omega, by omega, by omega⟩ | exact ⟨by decide, by decide, by decide⟩ | exact Or.inl ⟨by omega, by omega⟩ | exact Or.inr ⟨by omega, by omega⟩)
local macro_rules | `(tactic| walk_at "go") => `(tactic| repeat (first | refine ⟨_, rfl, ?_⟩ | refine ⟨_, _, rfl, rfl, ?_⟩ | refine ⟨_, _, rfl, ?_⟩ | (refine ⟨_, _, rfl, rfl, ?_, ?_⟩; focus walk_at "num") | refine Or.inl ⟨_, rfl, ?_⟩ | refine ⟨_, _, _, _, rfl, rfl, (by assumption), (by rfl), ?_⟩ | refine ⟨_, _, _, _, _, rfl, (by assumption), (by assumption), (by assumption), (by rfl), ?_⟩ | refine ⟨rfl, ?_⟩ | (refine And.intro ?_ ?_; focus walk_at "num")))
abbrev s_walked : Stmt := topS 33
abbrev N_walked : List Str := ["_law_one", "_law_listed", "_law_fates", "_law_at", "_law_end", "_law_views", "_law_k", "_law_letter", "_law_due"]
abbrev P_walked : List Str := ["_law_one", "_law_listed"]
theorem sc_walked : FnScope N_walked P_walked (defScope s_walked) := ⟨rfl, rfl, rfl, by decide +kernel, rfl, by decide +kernel, by decide +kernel⟩
theorem ends2e_at : ∀ i, i < 2 → atI [V.str "first", V.str "second"] ((i : Nat) : Int) = some (.str (eS (decide (i = 1)))) := by decide +kernel
theorem lst_none_or {P : Nat → Bool} {l : List Nat} {n : Nat} : lst P l n = none ∨ ∃ i, lst P l n = some i ∧ i < n := by
  cases h : lst P l n with
  | none => exact .inl rfl
  | some i => exact .inr ⟨i, rfl, lst_lt h⟩
theorem good_vw {x y : Int} {l : List Nat} {n : Nat} (e : Bool) (hx : x = 0 ∨ x = 1) (hy : y = 0 ∨ y = 1) (hf : Fts l) (hl : l.length ≤ n) : GdN n (vw x y l e) := by
  rcases lst_none_or (P := hrd e) (l := l) (n := l.length) with h | ⟨i, h, hi⟩
  · rw [vw_none h]
    exact ⟨(fun c hc => by cases hc), Nat.zero_le _, by show (0 : Int) ≤ l.length; omega, by show (l.length : Int) ≤ n; omega, by cases e <;> assumption⟩
  · rw [vw_some h]
    exact ⟨hf.take i, by show (l.take i).length ≤ n; rw [List.length_take]; omega, by show (0 : Int) ≤ (l.length : Int) - 1 - i; omega, by show (l.length : Int) - 1 - i ≤ n; omega, by cases e <;> assumption⟩
theorem grown_vw (x y : Int) {l : List Nat} (h : Fts l) (e : Bool) : grown e (vw x y l e) (vw x y l (!e)) = some ⟨if e then y else x, some (if e then x else y), l, 0⟩ := by
  cases e
  · show (if jok (vw x y l false) (vw x y l true) = true then some (⟨(vw x y l false).own, some (vw x y l true).own, jn (vw x y l false) (vw x y l true), 0⟩ : Vw) else none) = _
    rw [if_pos (jok_vw x y h), jn_vw x y h, own_vw, own_vw]
    rfl
  · show (if jok (vw x y l false) (vw x y l true) = true then some (⟨(vw x y l true).own, some (vw x y l false).own, jn (vw x y l false) (vw x y l true), 0⟩ : Vw) else none) = _
    rw [if_pos (jok_vw x y h), jn_vw x y h, own_vw, own_vw]
    rfl
/-- the letter of a turn -/
def ltO (x y : Int) (l : List Nat) (e : Bool) (c : Nat) : Option Vw := if hrd e c then some (vw x y l (!e)) else none
theorem ans_turn {x y : Int} {l : List Nat} {c : Nat} {e : Bool} (hx : x = 0 ∨ x = 1) (hy : y = 0 ∨ y = 1) (hf : Fts l) (hl : l.length ≤ 100) : AnsOf (eS e) (vw x y l e) (ltO x y l e c) (.view (vw x y (l ++ [c]) e)) := by
  unfold ltO
  by_cases h : hrd e c = true
  · rw [if_pos h, vw_heard h]
    exact .yes ((good_vw e hx hy hf hl).good (Nat.le_refl _)) ((good_vw _ hx hy hf hl).good (Nat.le_refl _)) (grown_vw x y hf e)
  · rw [if_neg h, vw_deaf (Bool.eq_false_iff.mpr h)]
    exact .mute
theorem fs_at (e : Bool) {k : Nat} (hk : k < 2) (he : e = decide (k = 1)) : atI (Str.ofString "fs").cps.toList (k : Int) = some (if e then 115 else 102) := by
  subst he
  match k, hk with
  | 0, _ => decide +kernel
  | 1, _ => decide +kernel
section
variable {P : Program} {w : World} {K : PySem.W.Frag} {mg : Str → Option Value} {base : Heap} {f C CB CE CF CU CH : Addr} {fd : FuncData}
def spWalked : Sp := fun vs H Q _ => ∃ (o : Addr) (x y : Int) (l : List Nat) (bl : Bool), vs = [.ref o, .bl bl] ∧ H o = some (.tup (exL x y l)) ∧ Drawn x y l ∧ ∀ H', Same H H' → Q (.bl true) H'
theorem ok_walked (F : FnP K "_law_walked" s_walked f fd) (m_len : mg "len" = none) (m_range : mg "range" = none) (c_view : Cal P w K mg base 1 "_law_view" (spView K)) (c_grows : Cal P w K mg base 9 "_law_grows" spGrows) : FnOk P w K mg base CX0 10 f fd P_walked spWalked := by
  refine F.ok sc_walked (fun vs H Q E h => ?_) (fun cdv A outer s H vs Q E hr h => ?_)
  · obtain ⟨o, x, y, l, bl, rfl, _⟩ := h
    rfl
  · obtain ⟨o, x, y, l, bl, rfl, ho, dr, q⟩ := h
    refine ⟨_, PSs.nox (pss_cons (ps_set (i := 2) sc_walked.nd rfl (by first | exact .inl rfl | exact .inr rfl) (pe_op op_add_str (pe_ix ix_tup (pv 0) pe_int (fun _ _ => rfl)) pe_str))
      (pss_cons (ps_for PassesOwn.never rfl (pi_range1 (by rfl) m_range (pa_cons (pe_callB call_len_str (by rfl) m_len PySem.boot_len (pa_cons (pv 2) pa_nil)) pa_nil)) (pg_name (i := 3) sc_walked.nd rfl (by first | exact .inl rfl | exact .inr rfl))
        (pss_cons (ps_setLc (i := 5) (own := [("_law_end", 4)]) (g := (gName 4)) (tt := tYes) (by rfl) sc_walked.nd rfl rfl (sw_true rfl rfl rfl (by decide +kernel)) (pi_list (pe_lst (pa_cons pe_str (pa_cons pe_str pa_nil)))) (blkOk_by (own := [("_law_end", 4)]) (N := N_walked) (sc := defScope s_walked) (by decide +kernel)) (fun _ _ _ _ _ => (pg_name (i := 4) sc_walked.nd rfl (by first | exact .inl rfl | exact .inr rfl))) (fun _ _ _ _ _ => pts_nil) (fun _ _ _ _ _ => (pe_cl c_view hr (by decide) (by rfl) (pa_cons (pe_tup (pa_cons (pe_ix (ix_tup_K (K := K) rfl) (pv 0) pe_int (fun _ _ => rfl)) (pa_cons (pe_ix (ix_tup_K (K := K) rfl) (pv 0) pe_int (fun _ _ => rfl)) (pa_cons (pe_slice C8.sl_txt (pv 2) po_none (po_some (pv 3))) pa_nil)))) (pa_cons (pv 4) pa_nil)))))
      (pss_one (ps_for PassesOwn.never rfl (pi_range1 (by rfl) m_range (pa_cons pe_int pa_nil)) (pg_name (i := 6) sc_walked.nd rfl (by first | exact .inl rfl | exact .inr rfl))
        (pss_cons (ps_set (i := 4) sc_walked.nd rfl (by first | exact .inl rfl | exact .inr rfl) (pe_ix ix_list (pe_lst (pa_cons pe_str (pa_cons pe_str pa_nil))) (pv 6) (fun _ _ => rfl)))
      (pss_cons (ps_set (i := 7) sc_walked.nd rfl (by first | exact .inl rfl | exact .inr rfl) pe_non)
      (pss_cut (ps_if (PW.pt (pw_or (pt_cmpR op_eq (pe_ix ix_str (pv 2) (pv 3) (fun _ _ => rfl)) pe_str (nomark _)) (pw_or1 (pt_cmpR op_eq (pe_ix ix_str (pv 2) (pv 3) (fun _ _ => rfl)) (pe_ix ix_str pe_str (pv 6) (fun _ _ => rfl)) (nomark _))))) (pss_one (ps_set (i := 7) sc_walked.nd rfl (by first | exact .inl rfl | exact .inr rfl) (pe_ix ix_list (pv 5) (pe_op op_sub pe_int (pv 6)) (fun _ _ => rfl)))) pss_nil)
      (pss_cons (ps_set (i := 8) sc_walked.nd rfl (by first | exact .inl rfl | exact .inr rfl) (pe_tup (pa_cons pe_str (pa_cons (pe_cl c_view hr (by decide) (by rfl) (pa_cons (pe_tup (pa_cons (pe_ix ix_tup (pv 0) pe_int (fun _ _ => rfl)) (pa_cons (pe_ix ix_tup (pv 0) pe_int (fun _ _ => rfl)) (pa_cons (pe_slice C8.sl_txt (pv 2) po_none (po_some (pe_op op_add (pv 3) pe_int))) pa_nil)))) (pa_cons (pv 4) pa_nil))) pa_nil))))
      (pss_one (ps_if (pt_not (pt_val (pe_cl c_grows hr (by decide) (by rfl) (pa_cons (pv 4) (pa_cons (pe_ix ix_list (pv 5) (pv 6) (fun _ _ => rfl)) (pa_cons (pv 7) (pa_cons (pv 8) (pa_cons (pv 1) pa_nil)))))))) (pss_one (ps_ret pe_bl)) pss_nil))))))))))
      (pss_one (ps_ret pe_bl)))), ?_⟩
    obtain ⟨hx, hy, hf, hl⟩ := dr
    have hlen : (S l).length ≤ sizeLine := by rw [S_len]; exact szl (by omega)
    walk_at "go"
    refine ⟨o, _, _, _, rfl, rfl, SqT.of ho, at_2, ?_⟩
    walk_at "go"
    refine ⟨by rw [S_len]; exact szl (show l.length + 1 ≤ 2000 by omega), ?_⟩
    rw [b_str, show (⟨#[98]⟩ : Str) = S [98] from rfl, S_cat]
    obtain ⟨F, eF⟩ : ∃ F, F = l ++ [98] := ⟨_, rfl⟩
    rw [← eF]
    have fF : Fts F := by rw [eF]; exact hf.app (.one rfl)
    have lF : F.length ≤ 61 := by rw [eF, List.length_append]; show l.length + 1 ≤ 61; omega
    have hlF : (S F).length ≤ sizeLine := by rw [S_len]; exact szl (by omega)
    clear eF
    walk_at "go"
    rw [S_len]
    walk_at "go"
    refine for_gen (n := F.length) (fun i σ J => Same H J ∧ ∃ v3 v4 v5 v6 v7 v8, σ = [some (.ref o), some (.bl bl), some (.str (S F)), v3, v4, v5, v6, v7, v8]) ⟨Same.refl _, _, _, _, _, _, _, rfl⟩ ?_ ?_ ?_ ?_
    · intro i σ J hi _
      show i < (F.length : Int).toNat
      omega
    · intro σ J _
      show (F.length : Int).toNat ≤ F.length
      omega
    · rintro i σ J x' J' hi ⟨s1, v3, v4, v5, v6, v7, v8, rfl⟩ ⟨rfl, rfl⟩
      have ea : atI (S F).cps.toList (0 + (i : Int)) = some F[i] := by
        rw [Int.zero_add]
        exact atI_nat (by show F[i]? = _; exact List.getElem?_eq_getElem hi)
      have epre : F.take (i + 1) = F.take i ++ [F[i]] := (take_snoc hi (by rw [List.getD_eq_getElem?_getD, List.getElem?_eq_getElem hi]; rfl)).symm
      generalize F[i] = c at ea epre
      have fpre : Fts (F.take i) := fF.take i
      have lpre : (F.take i).length ≤ 61 := by rw [List.length_take]; omega
      walk_at "go"
      intro L nL
      generalize eH_ : upd J' L _ = J1
      have s2 : Same J' J1 := by rw [← eH_]; exact same_new nL
      have eL : J1 L = some (.lst [.str (eS false), .str (eS true)]) := by rw [← eH_]; exact upd_same
      clear eH_
      walk_at "go"
      have s12 := s1.trans s2
      refine ⟨⟨_, SqL.of eL⟩, fun D nD => ?_⟩
      refine lc_gen (n := 2) (fun i2 J2 => Same J1 J2 ∧ ∃ qs : List Addr, J2 D = some (.lst (qs.map V.ref)) ∧ qs.length = i2 ∧ ∀ (j : Nat) p, qs[j]? = some p → J2 p = some (.tup (vwL (vw x y (F.take i) (decide (j = 1)))))) ⟨same_new nD, [], upd_same, rfl, fun j p h => by simp at h⟩ ?_ ?_ ?_ ?_
      · rintro i2 J2 hi2 ⟨s3, _⟩
        exact ⟨_, _, s3.seq (SqL.of eL), List.getElem?_eq_getElem hi2⟩
      · rintro J2 ⟨s3, _⟩
        exact ⟨_, s3.seq (SqL.of eL), Nat.le_refl _⟩
      · rintro i2 J2 x2 J3 hi2 ⟨s3, qs, eD, lq, al⟩ ⟨rfl, ex⟩
        have ex := ex _ (s3.seq (SqL.of eL))
        obtain ⟨e, rfl, he⟩ : ∃ e, x2 = .str (eS e) ∧ e = decide (i2 = 1) := by
          match i2, hi2, ex with
          | 0, _, ex =>
            cases ex
            exact ⟨false, rfl, rfl⟩
          | 1, _, ex =>
            cases ex
            exact ⟨true, rfl, rfl⟩
        have ho3 := s3 _ _ (s12 _ _ ho)
        walk_at "go"
        refine ⟨o, _, _, _, rfl, rfl, SqT.of ho3, at_0, ?_⟩
        walk_at "go"
        refine ⟨o, _, _, _, rfl, rfl, SqT.of ho3, at_1, ?_⟩
        walk_at "go"
        rw [SX.slice_to (by omega), Int.zero_add, Int.toNat_natCast]
        intro X nX
        generalize eH_ : upd J3 X _ = J4
        have s4 : Same J3 J4 := by rw [← eH_]; exact same_new nX
        have eX : J4 X = some (.tup [.int x, .int y, .str (S (F.take i))]) := by rw [← eH_]; exact upd_same
        clear eH_
        walk_at "go"
        refine ⟨X, e, x, y, F.take i, rfl, eX, by omega, fun p J5 s5 np ep => ?_⟩
        have s25 := s4.trans s5
        have eD5 := s25 _ _ eD
        have pD : p ≠ D := fun z => by rw [z, eD5] at ep; cases ep
        refine ⟨_, eD5, by rw [List.length_map]; exact szlt (by omega), Z.Same.mut (s3.trans s25) nD, qs ++ [p], by rw [upd_same, List.map_append]; rfl, by rw [List.length_append, lq]; rfl, fun j p' hj => ?_⟩
        rcases Nat.lt_or_ge j qs.length with c1 | c1
        · rw [List.getElem?_append_left c1] at hj
          have z := s25 _ _ (al j p' hj)
          rw [upd_ne (fun z2 => by rw [z2, eD5] at z; cases z)]
          exact z
        · rw [List.getElem?_append_right c1] at hj
          have c2 : j = qs.length := by
            have := (List.getElem?_eq_some_iff.mp hj).1
            simp at this
            omega
          subst c2
          rw [Nat.sub_self] at hj
          cases hj
          rw [upd_ne pD, lq, ← he]
          exact ep
      rintro J2 ⟨s3, qs, eD, lq, al⟩
      obtain ⟨p1, p2, rfl⟩ : ∃ p1 p2, qs = [p1, p2] := by
        match qs, lq with
        | [a, b], _ => exact ⟨a, b, rfl⟩
      have ep1 : J2 p1 = some (.tup (vwL (vw x y (F.take i) false))) := al 0 p1 rfl
      have ep2 : J2 p2 = some (.tup (vwL (vw x y (F.take i) true))) := al 1 p2 rfl
      have s03 := s12.trans s3
      clear al s3 eL
      dsimp only [List.set]
      walk_at "go"
      refine for_gen (n := 2) (fun k σ J3 => Same J2 J3 ∧ ∃ v4 v6 v7 v8, σ = [some (.ref o), some (.bl bl), some (.str (S F)), some (.int (0 + (i : Int))), v4, some (.ref D), v6, v7, v8]) ⟨Same.refl _, _, _, _, _, rfl⟩ ?_ ?_ ?_ ?_
      · intro k σ J3 hk _
        exact hk
      · intro σ J3 _
        exact Nat.le_refl _
      · rintro k σ J3 x2 Jk hk ⟨s4, v4, v6, v7, v8, rfl⟩ ⟨rfl, rfl⟩
        walk_at "go"
        intro M nM
        generalize eH_ : upd Jk M _ = J4
        have s5 : Same Jk J4 := by rw [← eH_]; exact same_new nM
        have eM : J4 M = some (.lst [.str "first", .str "second"]) := by rw [← eH_]; exact upd_same
        clear eH_
        walk_at "go"
        refine ⟨M, _, 0 + (k : Int), _, rfl, rfl, SqL.of eM, by rw [Int.zero_add]; exact ends2e_at k hk, ?_⟩
        obtain ⟨e, he⟩ : ∃ e, e = decide (k = 1) := ⟨_, rfl⟩
        rw [← he]
        dsimp only [List.set]
        walk_at "go"
        have s45 := s4.trans s5
        have s05 := s03.trans s45
        have eD4 := s45 _ _ eD
        obtain ⟨pk, pl, ak, al, epk, epl⟩ : ∃ pk pl, atI [V.ref p1, V.ref p2] (0 + (k : Int)) = some (.ref pk) ∧ atI [V.ref p1, V.ref p2] (1 - (0 + (k : Int))) = some (.ref pl) ∧ J4 pk = some (.tup (vwL (vw x y (F.take i) e))) ∧ J4 pl = some (.tup (vwL (vw x y (F.take i) (!e)))) := by
          match k, hk, he with
          | 0, _, he =>
            subst he
            exact ⟨p1, p2, at_0, at_1, s45 _ _ ep1, s45 _ _ ep2⟩
          | 1, _, he =>
            subst he
            exact ⟨p2, p1, at_1, at_0, s45 _ _ ep2, s45 _ _ ep1⟩
        refine ⟨fun σ J5 => Same J4 J5 ∧ ∃ lt, Lt false J5 lt (ltO x y (F.take i) e c) ∧ σ = [some (.ref o), some (.bl bl), some (.str (S F)), some (.int (0 + (i : Int))), some (.str (eS e)), some (.ref D), some (.int (0 + (k : Int))), some lt, v8], ?_, ?_⟩
        · walk_at "go"
          refine ⟨S F, _, c, rfl, rfl, hlF, ea, ?_⟩
          walk_at "go"
          rw [show (V.str (S [98])) = V.str ⟨#[98]⟩ from rfl, one_eq]
          by_cases c1 : c = 98
          · have hh : hrd e c = true := by unfold hrd; rw [decide_eq_true c1]; rfl
            rw [decide_eq_true c1]
            walk_at "go"
            dsimp only [List.set]
            walk_at "go"
            refine ⟨D, _, _, _, rfl, rfl, SqL.of eD4, al, ?_⟩
            exact ⟨Same.refl _, .ref pl, by unfold ltO; rw [if_pos hh]; exact .vw epl, rfl⟩
          · rw [decide_eq_false c1]
            walk_at "go"
            refine ⟨S F, _, c, rfl, rfl, hlF, ea, ?_⟩
            walk_at "go"
            refine ⟨_, 0 + (k : Int), _, rfl, rfl, by decide, by rw [Int.zero_add]; exact fs_at e hk he, ?_⟩
            walk_at "go"
            rw [one_eq]
            by_cases c2 : c = if e then 115 else 102
            · have hh : hrd e c = true := by unfold hrd; rw [decide_eq_true c2, Bool.or_true]
              rw [decide_eq_true c2]
              walk_at "go"
              dsimp only [List.set]
              walk_at "go"
              refine ⟨D, _, _, _, rfl, rfl, SqL.of eD4, al, ?_⟩
              exact ⟨Same.refl _, .ref pl, by unfold ltO; rw [if_pos hh]; exact .vw epl, rfl⟩
            · have hh : hrd e c = false := by unfold hrd; rw [decide_eq_false c1, decide_eq_false c2]; rfl
              rw [decide_eq_false c2]
              exact ⟨Same.refl _, .non, by unfold ltO; rw [if_neg (by rw [hh]; decide)]; exact .non, rfl⟩
        rintro σ J5 ⟨s6, lt, hlt, rfl⟩
        have s06 := s05.trans s6
        have ho5 := s06 _ _ ho
        walk_at "go"
        refine ⟨o, _, _, _, rfl, rfl, SqT.of ho5, at_0, ?_⟩
        walk_at "go"
        refine ⟨o, _, _, _, rfl, rfl, SqT.of ho5, at_1, ?_⟩
        walk_at "go"
        rw [SX.slice_to (by omega), show (0 + (i : Int) + 1).toNat = i + 1 by omega, epre]
        intro Y nY
        generalize eH_ : upd J5 Y _ = J6
        have s7 : Same J5 J6 := by rw [← eH_]; exact same_new nY
        have eY : J6 Y = some (.tup [.int x, .int y, .str (S (F.take i ++ [c]))]) := by rw [← eH_]; exact upd_same
        clear eH_
        walk_at "go"
        refine ⟨Y, e, x, y, F.take i ++ [c], rfl, eY, by rw [List.length_append]; show (F.take i).length + 1 ≤ 1000; omega, fun r J7 s8 nr er => ?_⟩
        walk_at "go"
        intro dd ndd
        generalize eH_ : upd J7 dd _ = J8
        have s9 : Same J7 J8 := by rw [← eH_]; exact same_new ndd
        have edd : J8 dd = some (.tup [.str "view", .ref r]) := by rw [← eH_]; exact upd_same
        clear eH_
        have s68 := s7.trans (s8.trans s9)
        have s48 := s6.trans s68
        dsimp only [List.set]
        walk_at "go"
        refine ⟨D, _, _, _, rfl, rfl, SqL.of (s48 _ _ eD4), ak, ?_⟩
        walk_at "go"
        have uok : ∀ u, ltO x y (F.take i) e c = some u → VwOk u := fun u hu => by
          unfold ltO at hu
          split at hu
          · cases hu
            exact vw_ok fpre (by omega)
          · cases hu
        refine ⟨eS e, pk, dd, vw x y (F.take i) e, lt, .ref r, ltO x y (F.take i) e c, .view (vw x y (F.take i ++ [c]) e), bl, rfl, s48 _ _ epk, vw_ok fpre (by omega), hlt.mono s68, uok, ans_turn hx hy fpre (by omega), edd, ⟨r, rfl, s9 _ _ er⟩, fun J9 s10 => ?_⟩
        walk_at "go"
        exact ⟨s45.trans (s48.trans s10), _, _, _, _, rfl⟩
      rintro σ J3 ⟨s4, v4, v6, v7, v8, rfl⟩
      exact ⟨s03.trans s4, _, _, _, _, _, _, rfl⟩
    rintro σ J ⟨s1, v3, v4, v5, v6, v7, v8, rfl⟩
    walk_at "go"
    exact q _ s1
end
end Z
set_option pp.maxSteps 700
set_option Elab.async false
set_option linter.all false
set_option maxRecDepth 100000
set_option maxHeartbeats 4000000
open SX (S S_inj S_len S_cat)
namespace Z
open PySem PySem.Spec PyProof.Rows L2
open C8 (pss_cut tCut)
local macro_rules | `(tactic| walk_at "num") => `(tactic| first | rfl | omega | decide | exact Nat.le_of_lt (small1000 (by simp)) | exact ⟨by omega, by omega⟩ | exact ⟨by omega, by omega, by omega⟩ | exact ⟨by decide, by decide, by decide⟩ | exact Or.inl ⟨by omega, by omega⟩ | exact Or.inr ⟨by omega, by omega⟩)
local macro_rules | `(tactic| walk_at "go") => `(tactic| repeat (first | refine ⟨_, rfl, ?_⟩ | refine ⟨_, _, rfl, rfl, ?_⟩ | refine ⟨_, _, rfl, ?_⟩ | (refine ⟨_, _, rfl, rfl, ?_, ?_⟩; focus walk_at "num") | refine Or.inl ⟨_, rfl, ?_⟩ | refine ⟨_, _, _, _, rfl, rfl, (by assumption), (by rfl), ?_⟩ | refine ⟨_, _, _, _, _, rfl, (by assumption), (by assumption), (by assumption), (by rfl), ?_⟩ | refine ⟨rfl, ?_⟩ | (refine And.intro ?_ ?_; focus walk_at "num")))
abbrev s_pair_holds : Stmt := topS 34
abbrev N_pair_holds : List Str := ["_law_draws_here", "_law_place", "_law_one", "_law_views", "_law_k", "_law_at", "_law_fates", "_law_listed", "_law_wrong", "_law_silence", "_law_turn", "_law_end", "_law_view_here", "_law_letter", "_law_due", "_law_long"]
abbrev P_pair_holds : List Str := ["_law_draws_here"]
theorem sc_pair_holds : FnScope N_pair_holds P_pair_holds (defScope s_pair_holds) := ⟨rfl, rfl, rfl, by decide +kernel, rfl, by decide +kernel, by decide +kernel⟩
theorem Tk.nt {K : PySem.W.Frag} {a p b : Addr} {ds : List Int} {n : Nat} {H J : Hp} {xs : List V} (t : Tk K a p ds n H J) (e : J b = some (.tup xs)) : b ≠ p := fun z => by
  obtain ⟨m, em⟩ := t.pl
  rw [z, em] at e
  cases e
/-- the two views in the list VW -/
def PI (VW : Addr) (k : Nat) (J : Hp) (p1 p2 : Addr) (u v : Vw) : Prop := J VW = some (.lst [.ref p1, .ref p2]) ∧ J p1 = some (.tup (vwL u)) ∧ J p2 = some (.tup (vwL v)) ∧ GdN k u ∧ GdN k v
theorem PI.tk {K : PySem.W.Frag} {a p VW p1 p2 : Addr} {ds : List Int} {n k : Nat} {J J' : Hp} {u v : Vw} (h : PI VW k J p1 p2 u v) (t0 : Tk K a p ds n J J) (hn : VW ≠ p) (t : Tk K a p ds n J J') : PI VW k J' p1 p2 u v :=
  ⟨t.up h.1 hn, t.up h.2.1 (t0.nt h.2.1), t.up h.2.2.1 (t0.nt h.2.2.1), h.2.2.2⟩
theorem PI.mono {VW p1 p2 : Addr} {k : Nat} {J J' : Hp} {u v : Vw} (s : Same J J') (h : PI VW k J p1 p2 u v) : PI VW k J' p1 p2 u v := ⟨s _ _ h.1, s _ _ h.2.1, s _ _ h.2.2.1, h.2.2.2⟩
theorem PI.ne {VW p1 p2 b : Addr} {k : Nat} {J : Hp} {u v : Vw} {xs : List V} (h : PI VW k J p1 p2 u v) (e : J b = some (.tup xs)) : b ≠ VW := fun z => by
  have := h.1
  rw [← z, e] at this
  cases this
theorem PI.set1 {VW p1 p2 p3 : Addr} {k m : Nat} {J : Hp} {u v w : Vw} (h : PI VW k J p1 p2 u v) (e : J p3 = some (.tup (vwL w))) (g : GdN m w) (hk : ∀ u, GdN k u → GdN m u) : PI VW m (upd J VW (.lst [.ref p1, .ref p3])) p1 p3 u w :=
  ⟨upd_same, by rw [upd_ne (h.ne h.2.1)]; exact h.2.1, by rw [upd_ne (h.ne e)]; exact e, hk _ h.2.2.2.1, g⟩
theorem PI.set0 {VW p1 p2 p3 : Addr} {k m : Nat} {J : Hp} {u v w : Vw} (h : PI VW k J p1 p2 u v) (e : J p3 = some (.tup (vwL w))) (g : GdN m w) (hk : ∀ u, GdN k u → GdN m u) : PI VW m (upd J VW (.lst [.ref p3, .ref p2])) p3 p2 w v :=
  ⟨upd_same, by rw [upd_ne (h.ne e)]; exact e, by rw [upd_ne (h.ne h.2.2.1)]; exact h.2.2.1, g, hk _ h.2.2.2.2⟩
theorem GdN.mono {k m : Nat} {v : Vw} (h : GdN k v) (hk : k ≤ m) : GdN m v := ⟨h.1, by have := h.2.1; omega, h.2.2.1, by have := h.2.2.2.1; omega, h.2.2.2.2⟩
section
variable {P : Program} {w : World} {K : PySem.W.Frag} {mg : Str → Option Value} {base : Heap} {f C CB CE CF CU CH : Addr} {fd : FuncData}
def spPair (K : PySem.W.Frag) : Sp := fun vs H Q _ => ∃ (a : Addr) (n : Nat) (ds : List Int), vs = [.ref a] ∧ H a = some (.lst (ds.map V.int)) ∧ Dr n ds ∧ ∀ H', Same H H' → Q (.bl true) H'
theorem ok_pair_holds (F : FnP K "_law_pair_holds" s_pair_holds f fd) (m_int : mg "int" = none) (m_range : mg "range" = none) (c_take : Cal P w K mg base 1 "_law_take" (spTake K)) (c_exchange : Cal P w K mg base 2 "_law_exchange" (spLex K)) (c_view : Cal P w K mg base 1 "_law_view" (spView K)) (c_changed : Cal P w K mg base 2 "_law_changed" (spChanged K)) (c_joined : Cal P w K mg base 2 "_law_joined" spJoined) (c_wrong_end : Cal P w K mg base 1 "_law_wrong_end" spWE) (c_grows : Cal P w K mg base 9 "_law_grows" spGrows) : FnOk P w K mg base CX0 10 f fd P_pair_holds (spPair K) := by
  refine F.ok sc_pair_holds (fun vs H Q E h => ?_) (fun cdv A outer s H vs Q E hr h => ?_)
  · obtain ⟨a, n, ds, rfl, _⟩ := h
    rfl
  · obtain ⟨a, n, ds, rfl, hA, hd, q⟩ := h
    refine ⟨_, PSs.nox (pss_cons (ps_set (i := 1) sc_pair_holds.nd rfl (by first | exact .inl rfl | exact .inr rfl) (pe_lst (pa_cons pe_int pa_nil)))
      (pss_cons (ps_set (i := 2) sc_pair_holds.nd rfl (by first | exact .inl rfl | exact .inr rfl) (pe_cl c_exchange hr (by decide) (by rfl) (pa_cons (pv 0) (pa_cons (pv 1) (pa_cons pe_int pa_nil)))))
      (pss_cons (ps_set (i := 3) sc_pair_holds.nd rfl (by first | exact .inl rfl | exact .inr rfl) (pe_lst (pa_cons (pe_cl c_view hr (by decide) (by rfl) (pa_cons (pv 2) (pa_cons pe_str pa_nil))) (pa_cons (pe_cl c_view hr (by decide) (by rfl) (pa_cons (pv 2) (pa_cons pe_str pa_nil))) pa_nil))))
      (pss_cut (ps_if (pt_cmpR op_eq (pe_op op_mod (pe_callTy call_int1 (by rfl) m_int (by decide +kernel) (pa_cons (pe_cl c_take hr (by decide) (by rfl) (pa_cons (pv 0) (pa_cons (pv 1) pa_nil))) pa_nil)) pe_int) pe_int (nomark _)) (pss_one (ps_asg (pe_cl c_view hr (by decide) (by rfl) (pa_cons (pe_cl c_exchange hr (by decide) (by rfl) (pa_cons (pv 0) (pa_cons (pv 1) (pa_cons pe_int pa_nil)))) (pa_cons pe_str pa_nil))) (pg_sub (pv 3) pe_int set_list))) pss_nil)
      (pss_cons (ps_for PassesOwn.never rfl (pi_range1 (by rfl) m_range (pa_cons (pe_op op_mod (pe_callTy call_int1 (by rfl) m_int (by decide +kernel) (pa_cons (pe_cl c_take hr (by decide) (by rfl) (pa_cons (pv 0) (pa_cons (pv 1) pa_nil))) pa_nil)) pe_int) pa_nil)) (pg_name (i := 4) sc_pair_holds.nd rfl (by first | exact .inl rfl | exact .inr rfl))
        (pss_cons (ps_set (i := 5) sc_pair_holds.nd rfl (by first | exact .inl rfl | exact .inr rfl) (pe_op op_mod (pe_callTy call_int1 (by rfl) m_int (by decide +kernel) (pa_cons (pe_cl c_take hr (by decide) (by rfl) (pa_cons (pv 0) (pa_cons (pv 1) pa_nil))) pa_nil)) pe_int))
      (pss_one (ps_asg (pe_cl c_changed hr (by decide) (by rfl) (pa_cons (pe_ix ix_list (pv 3) (pv 5) (fun _ _ => rfl)) (pa_cons (pv 0) (pa_cons (pv 1) pa_nil)))) (pg_sub (pv 3) (pv 5) set_list)))))
      (pss_cons (ps_set (i := 6) sc_pair_holds.nd rfl (by first | exact .inl rfl | exact .inr rfl) (pe_cl c_joined hr (by decide) (by rfl) (pa_cons (pv 3) pa_nil)))
      (pss_cons (ps_set (i := 7) sc_pair_holds.nd rfl (by first | exact .inl rfl | exact .inr rfl) (pe_cmpR op_eq (pe_op op_mod (pe_callTy call_int1 (by rfl) m_int (by decide +kernel) (pa_cons (pe_cl c_take hr (by decide) (by rfl) (pa_cons (pv 0) (pa_cons (pv 1) pa_nil))) pa_nil)) pe_int) pe_int (nomark _)))
      (pss_cons (ps_set (i := 8) sc_pair_holds.nd rfl (by first | exact .inl rfl | exact .inr rfl) (pe_cl c_wrong_end hr (by decide) (by rfl) (pa_cons (pe_cl c_take hr (by decide) (by rfl) (pa_cons (pv 0) (pa_cons (pv 1) pa_nil))) pa_nil)))
      (pss_cons (ps_set (i := 9) sc_pair_holds.nd rfl (by first | exact .inl rfl | exact .inr rfl) (pe_cl c_take hr (by decide) (by rfl) (pa_cons (pv 0) (pa_cons (pv 1) pa_nil))))
      (pss_cut (ps_if (pt_cmpR op_eq (pe_op op_mod (pe_callTy call_int1 (by rfl) m_int (by decide +kernel) (pa_cons (pv 9) pa_nil)) pe_int) pe_int (nomark _)) (pss_one (ps_set (i := 9) sc_pair_holds.nd rfl (by first | exact .inl rfl | exact .inr rfl) (pe_op op_pow (pv 9) pe_int))) pss_nil)
      (pss_cons (ps_for PassesOwn.never rfl (pi_range1 (by rfl) m_range (pa_cons pe_int pa_nil)) (pg_name (i := 10) sc_pair_holds.nd rfl (by first | exact .inl rfl | exact .inr rfl))
        (pss_cons (ps_set (i := 5) sc_pair_holds.nd rfl (by first | exact .inl rfl | exact .inr rfl) (pe_op op_mod (pe_callTy call_int1 (by rfl) m_int (by decide +kernel) (pa_cons (pv 10) pa_nil)) pe_int))
      (pss_cons (ps_set (i := 11) sc_pair_holds.nd rfl (by first | exact .inl rfl | exact .inr rfl) (pe_ix ix_list (pe_lst (pa_cons pe_str (pa_cons pe_str pa_nil))) (pv 5) (fun _ _ => rfl)))
      (pss_cons (ps_set (i := 12) sc_pair_holds.nd rfl (by first | exact .inl rfl | exact .inr rfl) (pe_ix ix_list (pv 3) (pv 5) (fun _ _ => rfl)))
      (pss_cons (ps_set (i := 13) sc_pair_holds.nd rfl (by first | exact .inl rfl | exact .inr rfl) (pe_ix ix_list (pv 3) (pe_op op_sub pe_int (pv 5)) (fun _ _ => rfl)))
      (pss_cons (ps_set (i := 14) sc_pair_holds.nd rfl (by first | exact .inl rfl | exact .inr rfl) (pe_tup (pa_cons pe_str (pa_cons pe_non pa_nil))))
      (pss_cut (ps_if (pt_cmpR op_notN (pv 6) pe_non (nomark _)) (pss_one (ps_set (i := 14) sc_pair_holds.nd rfl (by first | exact .inl rfl | exact .inr rfl) (pe_tup (pa_cons pe_str (pa_cons (pe_tup (pa_cons (pe_ix ix_tup (pv 12) pe_int (fun _ _ => rfl)) (pa_cons (pe_ix ix_tup (pv 13) pe_int (fun _ _ => rfl)) (pa_cons (pv 6) (pa_cons pe_int pa_nil))))) pa_nil))))) pss_nil)
      (pss_cons (ps_if (pt_not (pt_val (pe_cl c_grows hr (by decide) (by rfl) (pa_cons (pv 11) (pa_cons (pv 12) (pa_cons (pv 13) (pa_cons (pv 14) (pa_cons (pv 7) pa_nil)))))))) (pss_one (ps_ret pe_bl)) pss_nil)
      (pss_cons (ps_if (pt_not (pt_val (pe_cl c_grows hr (by decide) (by rfl) (pa_cons (pv 11) (pa_cons (pv 12) (pa_cons pe_non (pa_cons (pe_tup (pa_cons pe_str (pa_cons (pe_tup (pa_cons (pe_ix ix_tup (pv 12) pe_int (fun _ _ => rfl)) (pa_cons (pe_ix ix_tup (pv 12) pe_int (fun _ _ => rfl)) (pa_cons (pe_ix ix_tup (pv 12) pe_int (fun _ _ => rfl)) (pa_cons (pe_op op_add (pe_ix ix_tup (pv 12) pe_int (fun _ _ => rfl)) pe_int) pa_nil))))) pa_nil))) (pa_cons (pv 7) pa_nil)))))))) (pss_one (ps_ret pe_bl)) pss_nil)
      (pss_cons (ps_set (i := 15) sc_pair_holds.nd rfl (by first | exact .inl rfl | exact .inr rfl) (pe_tup (pa_cons (pe_ix ix_tup (pv 12) pe_int (fun _ _ => rfl)) (pa_cons (pe_ix ix_tup (pv 12) pe_int (fun _ _ => rfl)) (pa_cons (pe_ix ix_tup (pv 12) pe_int (fun _ _ => rfl)) (pa_cons (pv 9) pa_nil))))))
      (pss_cons (ps_if (pt_not (pt_val (pe_cl c_grows hr (by decide) (by rfl) (pa_cons (pv 11) (pa_cons (pv 15) (pa_cons pe_non (pa_cons (pe_tup (pa_cons pe_str (pa_cons (pe_tup (pa_cons (pe_ix ix_tup (pv 12) pe_int (fun _ _ => rfl)) (pa_cons (pe_ix ix_tup (pv 12) pe_int (fun _ _ => rfl)) (pa_cons (pe_ix ix_tup (pv 12) pe_int (fun _ _ => rfl)) (pa_cons (pe_op op_add (pv 9) pe_int) pa_nil))))) pa_nil))) (pa_cons (pv 7) pa_nil)))))))) (pss_one (ps_ret pe_bl)) pss_nil)
      (pss_one (ps_if (pt_not (pt_val (pe_cl c_grows hr (by decide) (by rfl) (pa_cons (pv 8) (pa_cons (pv 12) (pa_cons (pe_ix ix_list (pe_lst (pa_cons (pv 13) (pa_cons pe_non pa_nil))) (pe_op op_fdiv (pv 10) pe_int) (fun _ _ => rfl)) (pa_cons (pe_tup (pa_cons pe_str (pa_cons (pv 8) pa_nil))) (pa_cons (pv 7) pa_nil)))))))) (pss_one (ps_ret pe_bl)) pss_nil)))))))))))))
      (pss_one (ps_ret pe_bl))))))))))))), ?_⟩
    walk_at "go"
    intro p np
    generalize eH_ : upd H p _ = H1
    have s1 : Same H H1 := by rw [← eH_]; exact same_new np
    have ep : H1 p = some (.lst [.int 0]) := by rw [← eH_]; exact upd_same
    clear eH_
    have ap : a ≠ p := ne_of_none hA np
    have hT1 : Tk K a p ds n H H1 := ⟨s1 _ _ hA, hd, ap, Z.Same.sb s1, 0, ep⟩
    have fin : ∀ J, Tk K a p ds n H J → Same H J := fun J t c u e => t.sb c u (fun z => by rw [z, np] at e; cases e) e
    walk_at "go"
    refine ⟨a, p, n, ds, 56, rfl, hT1.slf, by decide, by decide, fun o x y l H2 hT2 no eo dr => ?_⟩
    have hT2 := hT1.tr hT2
    have ll : l.length ≤ 60 := dr.2.2.2
    walk_at "go"
    refine ⟨o, false, x, y, l, rfl, eo, by omega, fun p1 H3 s3 np1 ep1 => ?_⟩
    walk_at "go"
    refine ⟨o, true, x, y, l, rfl, s3 _ _ eo, by omega, fun p2 H4 s4 np2 ep2 => ?_⟩
    walk_at "go"
    intro VW nVW
    generalize eH_ : upd H4 VW _ = H5
    have s5 : Same H4 H5 := by rw [← eH_]; exact same_new nVW
    have eVW : H5 VW = some (.lst [.ref p1, .ref p2]) := by rw [← eH_]; exact upd_same
    clear eH_
    have s25 := s3.trans (s4.trans s5)
    have hT5 := hT2.more s25
    have hI : PI VW 60 H5 p1 p2 (vw x y l false) (vw x y l true) := ⟨eVW, s5 _ _ (s4 _ _ ep1), s5 _ _ ep2, good_vw false dr.1 dr.2.1 dr.2.2.1 ll, good_vw true dr.1 dr.2.1 dr.2.2.1 ll⟩
    have nV2 := none_of (s3.trans s4) nVW
    have pV : p ≠ VW := fun z => by
      obtain ⟨m, em⟩ := hT2.pl
      rw [z, nV2] at em
      cases em
    have aV : a ≠ VW := ne_of_none hT2.hA nV2
    have nVH := hT2.nn nV2
    clear s1 ep s3 s4 s5 s25 ep1 ep2 eVW hT1 hT2 eo np1 np2 nVW nV2 no
    generalize vw x y l false = u at hI
    generalize vw x y l true = v at hI
    obtain ⟨m5, em5⟩ := hT5.pl
    walk_at "go"
    refine ⟨fun σ J => Tk K a p ds n H J ∧ ∃ p1 p2 u v, PI VW 60 J p1 p2 u v ∧ σ = [some (.ref a), some (.ref p), some (.ref o), some (.ref VW), none, none, none, none, none, none, none, none, none, none, none, none], ?_, ?_⟩
    · walk_at "go"
      refine ⟨a, p, n, m5, ds, rfl, SqL.of hT5.hA, hT5.hd, em5, hT5.ne, fun r0 r00 r01 => ?_⟩
      have hI := hI.tk hT5.slf pV.symm (hT5.slf.next em5).1
      obtain ⟨hT6, _⟩ := hT5.next em5
      generalize upd H5 p (.lst [.int ((m5 + 1 : Nat) : Int)]) = H6 at hT6 hI
      walk_at "go"
      refine ite2 (fun e => ?_) (fun e => ?_)
      · dsimp only [List.set]
        walk_at "go"
        refine ⟨a, p, n, ds, 56, rfl, hT6.slf, by decide, by decide, fun o2 x2 y2 l2 H7 hT7 no2 eo2 dr2 => ?_⟩
        have hI := hI.tk hT6.slf pV.symm hT7
        have hT7 := hT6.tr hT7
        have ll2 : l2.length ≤ 60 := dr2.2.2.2
        walk_at "go"
        refine ⟨o2, true, x2, y2, l2, rfl, eo2, by omega, fun p3 H8 s8 np3 ep3 => ?_⟩
        have hT8 := hT7.more s8
        have hI := hI.mono s8
        walk_at "go"
        refine ⟨VW, _, 1, 1, rfl, rfl, hI.1, rfl, ?_⟩
        exact ⟨hT8.at_ nVH pV aV, p1, p3, u, _, hI.set1 ep3 (good_vw true dr2.1 dr2.2.1 dr2.2.2.1 ll2) (fun _ z => z), rfl⟩
      · exact ⟨hT6, _, _, _, _, hI, rfl⟩
    clear hI hT5 em5
    rintro σ J ⟨hT, p1, p2, u, v, hI, rfl⟩
    obtain ⟨m5, em5⟩ := hT.pl
    walk_at "go"
    refine ⟨a, p, n, m5, ds, rfl, SqL.of hT.hA, hT.hd, em5, hT.ne, fun r0 r00 r01 => ?_⟩
    have hI := hI.tk hT.slf pV.symm (hT.slf.next em5).1
    obtain ⟨hT6, _⟩ := hT.next em5
    generalize upd J p (.lst [.int ((m5 + 1 : Nat) : Int)]) = H6 at hT6 hI
    walk_at "go"
    refine for_gen (n := (r0 % 3).toNat) (fun i σ J => Tk K a p ds n H J ∧ ∃ p1 p2 u v v4 v5, PI VW (60 + i) J p1 p2 u v ∧ σ = [some (.ref a), some (.ref p), some (.ref o), some (.ref VW), v4, v5, none, none, none, none, none, none, none, none, none, none]) ⟨hT6, _, _, _, _, _, _, hI, rfl⟩ ?_ ?_ ?_ ?_
    · intro i σ J hi _
      exact hi
    · intro σ J _
      exact Nat.le_refl _
    · clear hI hT6
      rintro i σ J x' Jk hi ⟨hT, p1, p2, u, v, v4, v5, hI, rfl⟩ ⟨rfl, rfl⟩
      have hi2 : i < 2 := by omega
      obtain ⟨m5, em5⟩ := hT.pl
      walk_at "go"
      refine ⟨a, p, n, m5, ds, rfl, SqL.of hT.hA, hT.hd, em5, hT.ne, fun r1 r10 r11 => ?_⟩
      have hI := hI.tk hT.slf pV.symm (hT.slf.next em5).1
      obtain ⟨hT6, _⟩ := hT.next em5
      generalize upd Jk p (.lst [.int ((m5 + 1 : Nat) : Int)]) = H6 at hT6 hI
      walk_at "go"
      obtain ⟨j, ej, hj⟩ : ∃ j : Nat, r1 % 2 = (j : Int) ∧ j < 2 := ⟨(r1 % 2).toNat, by omega, by omega⟩
      dsimp only [List.set]
      rw [ej]
      obtain ⟨pk, wk, ak, epk, gk⟩ : ∃ pk wk, atI [V.ref p1, V.ref p2] (j : Int) = some (.ref pk) ∧ H6 pk = some (.tup (vwL wk)) ∧ GdN (60 + i) wk := by
        match j, hj with
        | 0, _ => exact ⟨p1, u, at_0, hI.2.1, hI.2.2.2.1⟩
        | 1, _ => exact ⟨p2, v, at_1, hI.2.2.1, hI.2.2.2.2⟩
      walk_at "go"
      refine ⟨VW, _, _, _, rfl, rfl, SqL.of hI.1, ak, ?_⟩
      walk_at "go"
      refine ⟨a, p, pk, n, 60 + i, ds, wk, rfl, hT6.slf, epk, gk, by omega, fun r' v' J' t' e' g' => ?_⟩
      have hI := hI.tk hT6.slf pV.symm t'
      have hT7 := hT6.tr t'
      walk_at "go"
      have mono : ∀ w, GdN (60 + i) w → GdN (60 + (i + 1)) w := fun w z => z.mono (by omega)
      have hj2 : j = 0 ∨ j = 1 := by omega
      rcases hj2 with rfl | rfl
      · refine ⟨VW, _, 0, 0, rfl, rfl, hI.1, rfl, ?_⟩
        exact ⟨hT7.at_ nVH pV aV, r', p2, v', v, _, _, hI.set0 e' g' mono, rfl⟩
      · refine ⟨VW, _, 1, 1, rfl, rfl, hI.1, rfl, ?_⟩
        exact ⟨hT7.at_ nVH pV aV, p1, r', u, v', _, _, hI.set1 e' g' mono, rfl⟩
    clear hI hT6
    rintro σ J ⟨hT, p1, p2, u, v, v4, v5, hI, rfl⟩
    have hk : 60 + (r0 % 3).toNat ≤ 62 := by omega
    have gu := (hI.2.2.2.1.mono hk).good (by decide)
    have gv := (hI.2.2.2.2.mono hk).good (by decide)
    walk_at "go"
    refine ⟨VW, p1, p2, u, v, rfl, hI.1, hI.2.1, hI.2.2.1, gu, gv, fun J1 s1 => ?_⟩
    have hI := hI.mono s1
    have hT := hT.more s1
    obtain ⟨m5, em5⟩ := hT.pl
    walk_at "go"
    refine ⟨a, p, n, m5, ds, rfl, SqL.of hT.hA, hT.hd, em5, hT.ne, fun r1 r10 r11 => ?_⟩
    have hI := hI.tk hT.slf pV.symm (hT.slf.next em5).1
    obtain ⟨hT6, _⟩ := hT.next em5
    generalize upd J1 p (.lst [.int ((m5 + 1 : Nat) : Int)]) = H6 at hT6 hI
    obtain ⟨m6, em6⟩ := hT6.pl
    walk_at "go"
    refine ⟨a, p, n, m6, ds, rfl, SqL.of hT6.hA, hT6.hd, em6, hT6.ne, fun r2 r20 r21 => ?_⟩
    have hI := hI.tk hT6.slf pV.symm (hT6.slf.next em6).1
    obtain ⟨hT7, _⟩ := hT6.next em6
    generalize upd H6 p (.lst [.int ((m6 + 1 : Nat) : Int)]) = H7 at hT7 hI
    walk_at "go"
    intro z H8 s8 hz
    have hI := hI.mono s8
    have hT8 := hT7.more s8
    obtain ⟨m8, em8⟩ := hT8.pl
    dsimp only [List.set]
    walk_at "go"
    refine ⟨a, p, n, m8, ds, rfl, SqL.of hT8.hA, hT8.hd, em8, hT8.ne, fun r3 r30 r31 => ?_⟩
    have hI := hI.tk hT8.slf pV.symm (hT8.slf.next em8).1
    obtain ⟨hT9, _⟩ := hT8.next em8
    generalize upd H8 p (.lst [.int ((m8 + 1 : Nat) : Int)]) = H9 at hT9 hI
    generalize decide (V.int (r1 % 2) = V.int 1) = bl
    dsimp only [List.set]
    walk_at "go"
    refine ⟨fun σ J => J = H9 ∧ ∃ sil : Int, 0 ≤ sil ∧ σ = [some (.ref a), some (.ref p), some (.ref o), some (.ref VW), v4, v5, some (jV u v), some (.bl bl), some (.str z), some (.int sil), none, none, none, none, none, none], ?_, ?_⟩
    · walk_at "go"
      refine ite2 (fun e => ?_) (fun e => ?_)
      · walk_at "go"
        have pw : ∀ n : Nat, 0 ≤ r3 ^ n := by
          intro n
          induction n with
          | zero =>
            rw [Int.pow_zero]
            decide
          | succ n ih =>
            rw [Int.pow_succ]
            exact Int.mul_nonneg ih r30
        exact ⟨r3 ^ Int.toNat 9, pw _, rfl⟩
      · exact ⟨rfl, r3, r30, rfl⟩
    rintro σ J ⟨rfl, sil, hsil, rfl⟩
    have sH := fin J hT9
    walk_at "go"
    refine for_gen (n := 4) (fun i σ J1 => Same J J1 ∧ ∃ v5 v10 v11 v12 v13 v14 v15, σ = [some (.ref a), some (.ref p), some (.ref o), some (.ref VW), v4, v5, some (jV u v), some (.bl bl), some (.str z), some (.int sil), v10, v11, v12, v13, v14, v15]) ⟨Same.refl _, _, _, _, _, _, _, _, rfl⟩ ?_ ?_ ?_ ?_
    · intro i σ J1 hi _
      exact hi
    · intro σ J1 _
      exact Nat.le_refl _
    · rintro i σ J1 x' Jk hi ⟨s1, v5, v10, v11, v12, v13, v14, v15, rfl⟩ ⟨rfl, rfl⟩
      obtain ⟨j, ej, hj⟩ : ∃ j : Nat, (0 + (i : Int)) % 2 = (j : Int) ∧ j < 2 := ⟨((0 + (i : Int)) % 2).toNat, by omega, by omega⟩
      obtain ⟨e, he⟩ : ∃ e, e = decide (j = 1) := ⟨_, rfl⟩
      have hI1 := hI.mono s1
      obtain ⟨pe, po, ve, vo, ae, ao, epe, epo, ge, go', hg⟩ : ∃ pe po ve vo, atI [V.ref p1, V.ref p2] (j : Int) = some (.ref pe) ∧ atI [V.ref p1, V.ref p2] (1 - (j : Int)) = some (.ref po) ∧ Jk pe = some (.tup (vwL ve)) ∧ Jk po = some (.tup (vwL vo)) ∧ Good ve ∧ Good vo ∧ grown e ve vo = if jok u v then some ⟨ve.own, some vo.own, jn u v, 0⟩ else none := by
        match j, hj, he with
        | 0, _, he =>
          subst he
          exact ⟨p1, p2, u, v, at_0, at_1, hI1.2.1, hI1.2.2.1, gu, gv, rfl⟩
        | 1, _, he =>
          subst he
          exact ⟨p2, p1, v, u, at_1, at_0, hI1.2.2.1, hI1.2.1, gv, gu, rfl⟩
      have hVW := hI1.1
      clear hI1
      walk_at "go"
      intro M nM
      generalize eH_ : upd Jk M _ = J2
      have s2 : Same Jk J2 := by rw [← eH_]; exact same_new nM
      have eM : J2 M = some (.lst [.str "first", .str "second"]) := by rw [← eH_]; exact upd_same
      clear eH_
      dsimp only [List.set]
      rw [ej]
      walk_at "go"
      refine ⟨M, _, (j : Int), _, rfl, rfl, SqL.of eM, ends2e_at j hj, ?_⟩
      rw [← he]
      dsimp only [List.set]
      walk_at "go"
      refine ⟨VW, _, _, _, rfl, rfl, SqL.of (s2 _ _ hVW), ae, ?_⟩
      walk_at "go"
      refine ⟨VW, _, _, _, rfl, rfl, SqL.of (s2 _ _ hVW), ao, ?_⟩
      walk_at "go"
      intro d0 nd0
      generalize eH_ : upd J2 d0 _ = J3
      have s3 : Same J2 J3 := by rw [← eH_]; exact same_new nd0
      have ed0 : J3 d0 = some (.tup [.str "unmatched", .non]) := by rw [← eH_]; exact upd_same
      clear eH_
      have s23 := s2.trans s3
      have hpe := s23 _ _ epe
      have hpo := s23 _ _ epo
      dsimp only [List.set]
      walk_at "go"
      refine ⟨fun σ J4 => Same J3 J4 ∧ ∃ dd x an, J4 dd = some (.tup [.str (ansW an), x]) ∧ AnsX J4 an x ∧ AnsOf (eS e) ve (some vo) an ∧ σ = [some (.ref a), some (.ref p), some (.ref o), some (.ref VW), v4, some (.int (j : Int)), some (jV u v), some (.bl bl), some (.str z), some (.int sil), some (.int (0 + (i : Int))), some (.str (eS e)), some (.ref pe), some (.ref po), some (.ref dd), v15], ?_, ?_⟩
      · walk_at "go"
        cases hk2 : jok u v with
        | true =>
          rw [hk2, if_pos rfl] at hg
          have ej2 : jV u v = .str (S (jn u v)) := if_pos hk2
          rw [ej2]
          refine ite2 (fun _ => ?_) (fun h => absurd (show (!decide (V.str (S (jn u v)) = V.non)) = true by simp) h)
          dsimp only [List.set]
          walk_at "go"
          refine ⟨pe, _, _, _, rfl, rfl, SqT.of hpe, at_0, ?_⟩
          walk_at "go"
          refine ⟨po, _, _, _, rfl, rfl, SqT.of hpo, at_0, ?_⟩
          walk_at "go"
          intro tg ntg
          generalize eH_ : upd J3 tg _ = J4
          have s4 : Same J3 J4 := by rw [← eH_]; exact same_new ntg
          have etg : J4 tg = some (.tup [.int ve.own, .int vo.own, .str (S (jn u v)), .int 0]) := by rw [← eH_]; exact upd_same
          clear eH_
          walk_at "go"
          intro dd ndd
          generalize eH_ : upd J4 dd _ = J5
          have s5 : Same J4 J5 := by rw [← eH_]; exact same_new ndd
          have edd : J5 dd = some (.tup [.str "view", .ref tg]) := by rw [← eH_]; exact upd_same
          clear eH_
          exact ⟨s4.trans s5, dd, .ref tg, .view ⟨ve.own, some vo.own, jn u v, 0⟩, edd, ⟨tg, rfl, s5 _ _ etg⟩, .yes ge go' hg, rfl⟩
        | false =>
          rw [hk2, if_neg (by decide)] at hg
          have ej2 : jV u v = .non := if_neg (by rw [hk2]; decide)
          rw [ej2]
          refine ite2 (fun h => absurd h (by simp)) (fun _ => ?_)
          exact ⟨Same.refl _, d0, .non, .unm, ed0, rfl, .no ge go' hg, rfl⟩
      clear hpe hpo ed0
      rintro σ J4 ⟨s4, dd, x, an, hdd, hx, han, rfl⟩
      have s24 := s23.trans s4
      have hpe := s24 _ _ epe
      have hpo := s24 _ _ epo
      walk_at "go"
      refine ⟨eS e, pe, dd, ve, .ref po, x, some vo, an, bl, rfl, hpe, ge.ok, .vw hpo, (fun u h => by cases h; exact go'.ok), han, hdd, hx, fun J5 s5 => ?_⟩
      have hpe := s5 _ _ hpe
      have hpo := s5 _ _ hpo
      walk_at "go"
      refine ⟨pe, _, _, _, rfl, rfl, SqT.of hpe, at_0, ?_⟩
      walk_at "go"
      refine ⟨pe, _, _, _, rfl, rfl, SqT.of hpe, at_1, ?_⟩
      walk_at "go"
      refine ⟨pe, _, _, _, rfl, rfl, SqT.of hpe, at_2, ?_⟩
      walk_at "go"
      refine ⟨pe, _, _, _, rfl, rfl, SqT.of hpe, at_3, ?_⟩
      walk_at "go"
      intro t6 nt6
      generalize eH_ : upd J5 t6 _ = J6
      have s6 : Same J5 J6 := by rw [← eH_]; exact same_new nt6
      have et6 : J6 t6 = some (.tup [.int ve.own, oV ve.oth, .str (S ve.kn), .int (ve.si + 1)]) := by rw [← eH_]; exact upd_same
      clear eH_
      walk_at "go"
      intro d7 nd7
      generalize eH_ : upd J6 d7 _ = J7
      have s7 : Same J6 J7 := by rw [← eH_]; exact same_new nd7
      have ed7 : J7 d7 = some (.tup [.str "view", .ref t6]) := by rw [← eH_]; exact upd_same
      clear eH_
      have hpe := s7 _ _ (s6 _ _ hpe)
      have hpo := s7 _ _ (s6 _ _ hpo)
      walk_at "go"
      refine ⟨eS e, pe, d7, ve, .non, .ref t6, none, .view { ve with si := ve.si + 1 }, bl, rfl, hpe, ge.ok, .non, (fun u h => by cases h), .mute, ed7, ⟨t6, rfl, s7 _ _ et6⟩, fun J8 s8 => ?_⟩
      have hpe := s8 _ _ hpe
      have hpo := s8 _ _ hpo
      walk_at "go"
      refine ⟨pe, _, _, _, rfl, rfl, SqT.of hpe, at_0, ?_⟩
      walk_at "go"
      refine ⟨pe, _, _, _, rfl, rfl, SqT.of hpe, at_1, ?_⟩
      walk_at "go"
      refine ⟨pe, _, _, _, rfl, rfl, SqT.of hpe, at_2, ?_⟩
      walk_at "go"
      intro lg nlg
      generalize eH_ : upd J8 lg _ = J9
      have s9 : Same J8 J9 := by rw [← eH_]; exact same_new nlg
      have elg : J9 lg = some (.tup [.int ve.own, oV ve.oth, .str (S ve.kn), .int sil]) := by rw [← eH_]; exact upd_same
      clear eH_
      have hpe := s9 _ _ hpe
      have hpo := s9 _ _ hpo
      dsimp only [List.set]
      walk_at "go"
      refine ⟨pe, _, _, _, rfl, rfl, SqT.of hpe, at_0, ?_⟩
      walk_at "go"
      refine ⟨pe, _, _, _, rfl, rfl, SqT.of hpe, at_1, ?_⟩
      walk_at "go"
      refine ⟨pe, _, _, _, rfl, rfl, SqT.of hpe, at_2, ?_⟩
      walk_at "go"
      intro ta nta
      generalize eH_ : upd J9 ta _ = Ja
      have sa : Same J9 Ja := by rw [← eH_]; exact same_new nta
      have eta : Ja ta = some (.tup [.int ve.own, oV ve.oth, .str (S ve.kn), .int (sil + 1)]) := by rw [← eH_]; exact upd_same
      clear eH_
      walk_at "go"
      intro db ndb
      generalize eH_ : upd Ja db _ = Jb
      have sb : Same Ja Jb := by rw [← eH_]; exact same_new ndb
      have edb : Jb db = some (.tup [.str "view", .ref ta]) := by rw [← eH_]; exact upd_same
      clear eH_
      have hpe := sb _ _ (sa _ _ hpe)
      have hpo := sb _ _ (sa _ _ hpo)
      walk_at "go"
      refine ⟨eS e, lg, db, { ve with si := sil }, .non, .ref ta, none, .view { ve with si := sil + 1 }, bl, rfl, sb _ _ (sa _ _ elg), ge.ok, .non, (fun u h => by cases h), .mute, edb, ⟨ta, rfl, sb _ _ eta⟩, fun Jc sc => ?_⟩
      have hpe := sc _ _ hpe
      have hpo := sc _ _ hpo
      walk_at "go"
      intro M2 nM2
      generalize eH_ : upd Jc M2 _ = Jd
      have sd : Same Jc Jd := by rw [← eH_]; exact same_new nM2
      have eM2 : Jd M2 = some (.lst [.ref po, .non]) := by rw [← eH_]; exact upd_same
      clear eH_
      have hpe := sd _ _ hpe
      have hpo := sd _ _ hpo
      walk_at "go"
      obtain ⟨lt, ol, al, hlt, olk⟩ : ∃ lt ol, atI [V.ref po, V.non] ((0 + (i : Int)) / 2) = some lt ∧ Lt false Jd lt ol ∧ ∀ u, ol = some u → VwOk u := by
        have hi2 : (0 + (i : Int)) / 2 = 0 ∨ (0 + (i : Int)) / 2 = 1 := by omega
        rcases hi2 with h | h
        · rw [h]
          exact ⟨_, some vo, at_0, .vw hpo, fun u hu => by cases hu; exact go'.ok⟩
        · rw [h]
          exact ⟨_, none, at_1, .non, fun u hu => by cases hu⟩
      refine ⟨M2, _, (0 + (i : Int)) / 2, lt, rfl, rfl, SqL.of eM2, al, ?_⟩
      walk_at "go"
      intro df ndf
      generalize eH_ : upd Jd df _ = Je
      have sf : Same Jd Je := by rw [← eH_]; exact same_new ndf
      have edf : Je df = some (.tup [.str "end", .str z]) := by rw [← eH_]; exact upd_same
      clear eH_
      walk_at "go"
      refine ⟨z, pe, df, ve, lt, .str z, ol, .fin z, bl, rfl, sf _ _ hpe, ge.ok, hlt.mono sf, olk, .fin hz, edf, rfl, fun Jg sg => ?_⟩
      have sAll : Same Jk Jg := s24.trans (s5.trans (s6.trans (s7.trans (s8.trans (s9.trans (sa.trans (sb.trans (sc.trans (sd.trans (sf.trans sg))))))))))
      walk_at "go"
      exact ⟨s1.trans sAll, _, _, _, _, _, _, _, rfl⟩
    rintro σ J1 ⟨s1, v5, v10, v11, v12, v13, v14, v15, rfl⟩
    walk_at "go"
    exact q _ (sH.trans s1)
end
end Z
set_option pp.maxSteps 700
set_option Elab.async false
set_option linter.all false
set_option maxRecDepth 100000
set_option maxHeartbeats 4000000
open SX (S S_inj S_len S_cat)
namespace Z
open PySem PySem.Spec PyProof.Rows L2
open C8 (pss_cut tCut)
local macro_rules | `(tactic| walk_at "num") => `(tactic| first | rfl | omega | decide | exact Nat.le_of_lt (small1000 (by simp)) | exact ⟨by omega, by omega⟩ | exact ⟨by omega, by omega, by omega⟩ | exact ⟨by decide, by decide, by decide⟩ | exact Or.inl ⟨by omega, by omega⟩ | exact Or.inr ⟨by omega, by omega⟩)
local macro_rules | `(tactic| walk_at "go") => `(tactic| repeat (first | refine ⟨_, rfl, ?_⟩ | refine ⟨_, _, rfl, rfl, ?_⟩ | refine ⟨_, _, rfl, ?_⟩ | (refine ⟨_, _, rfl, rfl, ?_, ?_⟩; focus walk_at "num") | refine Or.inl ⟨_, rfl, ?_⟩ | refine ⟨_, _, _, _, rfl, rfl, (by assumption), (by rfl), ?_⟩ | refine ⟨_, _, _, _, _, rfl, (by assumption), (by assumption), (by assumption), (by rfl), ?_⟩ | refine ⟨rfl, ?_⟩ | (refine And.intro ?_ ?_; focus walk_at "num")))
abbrev s_law : Stmt := topS 35
abbrev N_law : List Str := ["_law_script", "_law_draws_here", "_law_place", "_law_one", "_law_k"]
abbrev P_law : List Str := ["_law_script"]
theorem sc_law : FnScope N_law P_law (defScope s_law) := ⟨rfl, rfl, rfl, by decide +kernel, rfl, by decide +kernel, by decide +kernel⟩
section
variable {P : Program} {w : World} {K : PySem.W.Frag} {mg : Str → Option Value} {base : Heap} {f : Addr} {fd : FuncData}
def spLaw (K : PySem.W.Frag) : Sp := fun vs H Q _ => ∃ (s : Addr) (ns : List Int), vs = [.ref s] ∧ SqL K H s (ns.map V.int) ∧ ns.length ≤ 63 ∧ ∀ H', Q (.bl true) H'
theorem ok_law (F : FnP K "law" s_law f fd) (m_int : mg "int" = none) (m_range : mg "range" = none) (c_cell : Cal P w K mg base 1 "_law_cell" (spCell K)) (c_draws : Cal P w K mg base 1 "_law_draws" spDraws) (c_take : Cal P w K mg base 1 "_law_take" (spTake K)) (c_exchange : Cal P w K mg base 2 "_law_exchange" (spLex K)) (c_walked : Cal P w K mg base 10 "_law_walked" spWalked) (c_pair_holds : Cal P w K mg base 10 "_law_pair_holds" (spPair K)) : FnOk P w K mg base CX0 11 f fd P_law (spLaw K) := by
  refine F.ok sc_law (fun vs H Q E h => ?_) (fun cdv A outer s H vs Q E hr h => ?_)
  · obtain ⟨s, ns, rfl, _⟩ := h
    rfl
  · obtain ⟨s, ns, rfl, hS, ls, q⟩ := h
    refine ⟨_, PSs.nox (pss_cons (ps_set (i := 1) sc_law.nd rfl (by first | exact .inl rfl | exact .inr rfl) (pe_cl c_draws hr (by decide) (by rfl) (pa_cons (pe_cl c_cell hr (by decide) (by rfl) (pa_cons (pv 0) (pa_cons pe_int pa_nil))) (pa_cons pe_int pa_nil))))
      (pss_cons (ps_set (i := 2) sc_law.nd rfl (by first | exact .inl rfl | exact .inr rfl) (pe_lst (pa_cons pe_int pa_nil)))
      (pss_cons (ps_set (i := 3) sc_law.nd rfl (by first | exact .inl rfl | exact .inr rfl) (pe_cl c_exchange hr (by decide) (by rfl) (pa_cons (pv 1) (pa_cons (pv 2) (pa_cons pe_int pa_nil)))))
      (pss_cons (ps_if (pt_not (pt_val (pe_cl c_walked hr (by decide) (by rfl) (pa_cons (pv 3) (pa_cons (pe_cmpR op_eq (pe_op op_mod (pe_callTy call_int1 (by rfl) m_int (by decide +kernel) (pa_cons (pe_cl c_take hr (by decide) (by rfl) (pa_cons (pv 1) (pa_cons (pv 2) pa_nil))) pa_nil)) pe_int) pe_int (nomark _)) pa_nil))))) (pss_one (ps_ret pe_bl)) pss_nil)
      (pss_cons (ps_for PassesOwn.never rfl (pi_range1 (by rfl) m_range (pa_cons pe_int pa_nil)) (pg_name (i := 4) sc_law.nd rfl (by first | exact .inl rfl | exact .inr rfl))
        (pss_one (ps_if (pt_not (pt_val (pe_cl c_pair_holds hr (by decide) (by rfl) (pa_cons (pe_cl c_draws hr (by decide) (by rfl) (pa_cons (pe_cl c_cell hr (by decide) (by rfl) (pa_cons (pv 0) (pa_cons (pe_op op_add pe_int (pv 4)) pa_nil))) (pa_cons pe_int pa_nil))) pa_nil)))) (pss_one (ps_ret pe_bl)) pss_nil)))
      (pss_one (ps_ret pe_bl))))))), ?_⟩
    walk_at "go"
    refine ⟨s, ns, 0, rfl, hS, ?_⟩
    walk_at "go"
    intro a ds na hd
    have s1 := same_new (o := .lst (ds.map V.int)) na
    have ea : (upd H a (.lst (ds.map V.int))) a = some (.lst (ds.map V.int)) := upd_same
    generalize upd H a (.lst (ds.map V.int)) = H1 at s1 ea
    walk_at "go"
    intro p np
    generalize eH_ : upd H1 p _ = H2
    have s2 : Same H1 H2 := by rw [← eH_]; exact same_new np
    have ep : H2 p = some (.lst [.int 0]) := by rw [← eH_]; exact upd_same
    clear eH_
    have ap : a ≠ p := ne_of_none ea np
    have npH := none_of s1 np
    have s12 := s1.trans s2
    have hT : Tk K a p ds 66 H2 H2 := ⟨s2 _ _ ea, hd, ap, Z.Same.sb (Same.refl _), 0, ep⟩
    walk_at "go"
    refine ⟨a, p, 66, ds, 60, rfl, hT, by decide, by decide, fun o x y l H3 hT3 no eo dr => ?_⟩
    have hT3 := hT.tr hT3
    obtain ⟨m3, em3⟩ := hT3.pl
    walk_at "go"
    refine ⟨a, p, 66, m3, ds, rfl, SqL.of hT3.hA, hT3.hd, em3, hT3.ne, fun r r0 r1 => ?_⟩
    have eo4 := (hT3.slf.next em3).1.up eo (hT3.slf.nt eo)
    obtain ⟨hT4, _⟩ := hT3.next em3
    generalize upd H3 p (.lst [.int ((m3 + 1 : Nat) : Int)]) = H4 at hT4 eo4
    have s04 : Same H H4 := fun c u e => hT4.sb c u (fun z => by rw [z, npH] at e; cases e) (s12 c u e)
    walk_at "go"
    refine ⟨o, x, y, l, _, rfl, eo4, dr, fun H5 s5 => ?_⟩
    have s05 := s04.trans s5
    walk_at "go"
    refine for_gen (n := 4) (fun i σ J => Same H J ∧ ∃ v1 v2 v3 v4, σ = [some (.ref s), v1, v2, v3, v4]) ⟨s05, _, _, _, _, rfl⟩ ?_ ?_ ?_ ?_
    · intro i σ J hi _
      exact hi
    · intro σ J _
      exact Nat.le_refl _
    · rintro i σ J x' Jk hi ⟨s6, v1, v2, v3, v4, rfl⟩ ⟨rfl, rfl⟩
      walk_at "go"
      refine ⟨s, ns, i + 1, ?_, s6.seq hS, ?_⟩
      · show [V.ref s, V.int (1 + (0 + (i : Int)))] = [V.ref s, V.int ((i + 1 : Nat) : Int)]
        rw [show (1 : Int) + (0 + (i : Int)) = ((i + 1 : Nat) : Int) by omega]
      walk_at "go"
      intro b ds2 nb hd2
      have s7 := same_new (o := .lst (ds2.map V.int)) nb
      have eb : (upd Jk b (.lst (ds2.map V.int))) b = some (.lst (ds2.map V.int)) := upd_same
      generalize upd Jk b (.lst (ds2.map V.int)) = J2 at s7 eb
      walk_at "go"
      refine ⟨b, 135, ds2, rfl, eb, hd2, fun J3 s8 => ?_⟩
      walk_at "go"
      exact ⟨s6.trans (s7.trans s8), _, _, _, _, rfl⟩
    rintro σ J ⟨s6, v1, v2, v3, v4, rfl⟩
    walk_at "go"
    exact q _
end
end Z
set_option pp.maxSteps 700
set_option Elab.async false
set_option linter.all false
set_option maxRecDepth 100000
set_option maxHeartbeats 4000000
set_option maxHeartbeats 0
namespace Z
open PySem PySem.Spec PyProof.Rows L2
/-- the module's tuple ("first", "second") -/
def endsB (K : PySem.W.Frag) (a : Addr) : Bool := match K.lookup a with
  | some ⟨.type t, _, .seq its _, _⟩ => decide (t = "tuple") && (match its.toList with
    | [.str x _, .str y _] => decide (x = "first") && decide (y = "second")
    | _ => false)
  | _ => false
theorem endsB_ok {K : PySem.W.Frag} {a : Addr} (h : endsB K a = true) : EndsA K a := by
  unfold endsB at h
  split at h
  · rename_i t d its n sl e
    obtain ⟨h1, h2⟩ := He.ba h
    have h1 := of_decide_eq_true h1
    split at h2
    · rename_i x tx y ty e2
      obtain ⟨h3, h4⟩ := He.ba h2
      have h3 := of_decide_eq_true h3
      have h4 := of_decide_eq_true h4
      subst h3 h4
      refine .inr ⟨_, its, n, e, by rw [h1], rfl, ?_, by rw [e2]; exact .cons ⟨tx, rfl⟩ (.cons ⟨ty, rfl⟩ .nil)⟩
      have : its.size = 2 := by rw [← Array.length_toList, e2]; rfl
      rw [this]
      decide
    · cases h2
  · cases h
def d_check_fates : He.DefD := ⟨("check_fates", none), "check_fates", "check_fates", defArgs s_check_fates, defBody s_check_fates, defScope s_check_fates, [], []⟩
def d_check_end : He.DefD := ⟨("check_end", none), "check_end", "check_end", defArgs s_check_end, defBody s_check_end, defScope s_check_end, [], []⟩
def d_check_bit : He.DefD := ⟨("check_bit", none), "check_bit", "check_bit", defArgs s_check_bit, defBody s_check_bit, defScope s_check_bit, [], []⟩
def d_arrives : He.DefD := ⟨("arrives", none), "arrives", "arrives", defArgs s_arrives, defBody s_arrives, defScope s_arrives, [], []⟩
def d_Exchange___init__ : He.DefD := ⟨("Exchange", some "__init__"), "__init__", "Exchange.__init__", defArgs s_Exchange___init__, defBody s_Exchange___init__, defScope s_Exchange___init__, [], []⟩
def d_Exchange_seen : He.DefD := ⟨("Exchange", some "seen"), "seen", "Exchange.seen", defArgs s_Exchange_seen, defBody s_Exchange_seen, defScope s_Exchange_seen, [], []⟩
def d_heard_rounds : He.DefD := ⟨("heard_rounds", none), "heard_rounds", "heard_rounds", defArgs s_heard_rounds, defBody s_heard_rounds, defScope s_heard_rounds, [], []⟩
def d_rounds_of : He.DefD := ⟨("rounds_of", none), "rounds_of", "rounds_of", defArgs s_rounds_of, defBody s_rounds_of, defScope s_rounds_of, [], []⟩
def d_join_views : He.DefD := ⟨("join_views", none), "join_views", "join_views", defArgs s_join_views, defBody s_join_views, defScope s_join_views, [], []⟩
def d_grow : He.DefD := ⟨("grow", none), "grow", "grow", defArgs s_grow, defBody s_grow, defScope s_grow, [], []⟩
def d_cell : He.DefD := ⟨("_law_cell", none), "_law_cell", "_law_cell", defArgs s_cell, defBody s_cell, defScope s_cell, [], []⟩
def d_draws : He.DefD := ⟨("_law_draws", none), "_law_draws", "_law_draws", defArgs s_draws, defBody s_draws, defScope s_draws, [], []⟩
def d_take : He.DefD := ⟨("_law_take", none), "_law_take", "_law_take", defArgs s_take, defBody s_take, defScope s_take, [], []⟩
def d_exchange : He.DefD := ⟨("_law_exchange", none), "_law_exchange", "_law_exchange", defArgs s_exchange, defBody s_exchange, defScope s_exchange, [], []⟩
def d_view : He.DefD := ⟨("_law_view", none), "_law_view", "_law_view", defArgs s_view, defBody s_view, defScope s_view, [], []⟩
def d_changed : He.DefD := ⟨("_law_changed", none), "_law_changed", "_law_changed", defArgs s_changed, defBody s_changed, defScope s_changed, [], []⟩
def d_wrong_end : He.DefD := ⟨("_law_wrong_end", none), "_law_wrong_end", "_law_wrong_end", defArgs s_wrong_end, defBody s_wrong_end, defScope s_wrong_end, [], []⟩
def d_is_number : He.DefD := ⟨("_law_is_number", none), "_law_is_number", "_law_is_number", defArgs s_is_number, defBody s_is_number, defScope s_is_number, [], []⟩
def d_is_view : He.DefD := ⟨("_law_is_view", none), "_law_is_view", "_law_is_view", defArgs s_is_view, defBody s_is_view, defScope s_is_view, [], []⟩
def d_joined : He.DefD := ⟨("_law_joined", none), "_law_joined", "_law_joined", defArgs s_joined, defBody s_joined, defScope s_joined, [], []⟩
def d_grown : He.DefD := ⟨("_law_grown", none), "_law_grown", "_law_grown", defArgs s_grown, defBody s_grown, defScope s_grown, [], []⟩
def d_grows : He.DefD := ⟨("_law_grows", none), "_law_grows", "_law_grows", defArgs s_grows, defBody s_grows, defScope s_grows, [], []⟩
def d_walked : He.DefD := ⟨("_law_walked", none), "_law_walked", "_law_walked", defArgs s_walked, defBody s_walked, defScope s_walked, [], []⟩
def d_pair_holds : He.DefD := ⟨("_law_pair_holds", none), "_law_pair_holds", "_law_pair_holds", defArgs s_pair_holds, defBody s_pair_holds, defScope s_pair_holds, [], []⟩
def d_law : He.DefD := ⟨("law", none), "law", "law", defArgs s_law, defBody s_law, defScope s_law, [], []⟩
abbrev s_BadBit___init__ : Stmt := inClass (topS 2) 0
theorem xn_BadBit {P : Program} {w : World} {K : PySem.W.Frag} {mg : Str → Option Value} {base : Heap} {fl : Str} (h1 : supObs K "BadBit" = supVal "BadBit.__init__" s_BadBit___init__) (h : ExnF K (He.ga K "BadBit") "BadBit.__init__" "bit" fl) (hfl : ((P.main.file : Str) == fl) = true) (htop : (P.main.scope.names.lookup ("super" : Str)).isSome = false) (g : mg "BadBit" = some (.ref (He.ga K "BadBit"))) (m_super : mg "super" = none) : Exn P w K mg base "BadBit" (He.ga K "BadBit") "bit" := by
  obtain ⟨c, cc, fd, kV, doc, pm, ct, an, hfd, S, hcd⟩ := sup_of h1 h.sup hfl htop
  refine ⟨S.oex, g, He.ma K _ "__init__", fd, ["self", "bit"], h.ini, h.ty, ?_, ?_⟩
  · exact exn_ok (v := "bit") (F := ⟨"__init__", "BadBit.__init__", defArgs s_BadBit___init__, defBody s_BadBit___init__, defScope s_BadBit___init__, [("__class__", cc)], c⟩) hfd S hcd (NdefX.nscope_by (sc := defScope s_BadBit___init__) (by decide +kernel)) rfl rfl rfl (show (defScope s_BadBit___init__).names.lookup ("super" : Str) = some .globalImplicit by decide +kernel) m_super h.no (by decide) (by decide) rfl (fun _ _ _ _ _ => rfl) (fun _ _ _ _ _ => rfl) (fun _ _ _ _ _ => rfl) (fun _ _ _ _ _ => rfl)
  · subst hfd
    exact Binds.all fun us hl => match us, hl with | [_, _], _ => rfl
abbrev s_BadEnd___init__ : Stmt := inClass (topS 3) 0
theorem xn_BadEnd {P : Program} {w : World} {K : PySem.W.Frag} {mg : Str → Option Value} {base : Heap} {fl : Str} (h1 : supObs K "BadEnd" = supVal "BadEnd.__init__" s_BadEnd___init__) (h : ExnF K (He.ga K "BadEnd") "BadEnd.__init__" "end" fl) (hfl : ((P.main.file : Str) == fl) = true) (htop : (P.main.scope.names.lookup ("super" : Str)).isSome = false) (g : mg "BadEnd" = some (.ref (He.ga K "BadEnd"))) (m_super : mg "super" = none) : Exn P w K mg base "BadEnd" (He.ga K "BadEnd") "end" := by
  obtain ⟨c, cc, fd, kV, doc, pm, ct, an, hfd, S, hcd⟩ := sup_of h1 h.sup hfl htop
  refine ⟨S.oex, g, He.ma K _ "__init__", fd, ["self", "end"], h.ini, h.ty, ?_, ?_⟩
  · exact exn_ok (v := "end") (F := ⟨"__init__", "BadEnd.__init__", defArgs s_BadEnd___init__, defBody s_BadEnd___init__, defScope s_BadEnd___init__, [("__class__", cc)], c⟩) hfd S hcd (NdefX.nscope_by (sc := defScope s_BadEnd___init__) (by decide +kernel)) rfl rfl rfl (show (defScope s_BadEnd___init__).names.lookup ("super" : Str) = some .globalImplicit by decide +kernel) m_super h.no (by decide) (by decide) rfl (fun _ _ _ _ _ => rfl) (fun _ _ _ _ _ => rfl) (fun _ _ _ _ _ => rfl) (fun _ _ _ _ _ => rfl)
  · subst hfd
    exact Binds.all fun us hl => match us, hl with | [_, _], _ => rfl
abbrev s_BadFate___init__ : Stmt := inClass (topS 4) 0
theorem xn_BadFate {P : Program} {w : World} {K : PySem.W.Frag} {mg : Str → Option Value} {base : Heap} {fl : Str} (h1 : supObs K "BadFate" = supVal "BadFate.__init__" s_BadFate___init__) (h : ExnF K (He.ga K "BadFate") "BadFate.__init__" "at" fl) (hfl : ((P.main.file : Str) == fl) = true) (htop : (P.main.scope.names.lookup ("super" : Str)).isSome = false) (g : mg "BadFate" = some (.ref (He.ga K "BadFate"))) (m_super : mg "super" = none) : Exn P w K mg base "BadFate" (He.ga K "BadFate") "at" := by
  obtain ⟨c, cc, fd, kV, doc, pm, ct, an, hfd, S, hcd⟩ := sup_of h1 h.sup hfl htop
  refine ⟨S.oex, g, He.ma K _ "__init__", fd, ["self", "at"], h.ini, h.ty, ?_, ?_⟩
  · exact exn_ok (v := "at") (F := ⟨"__init__", "BadFate.__init__", defArgs s_BadFate___init__, defBody s_BadFate___init__, defScope s_BadFate___init__, [("__class__", cc)], c⟩) hfd S hcd (NdefX.nscope_by (sc := defScope s_BadFate___init__) (by decide +kernel)) rfl rfl rfl (show (defScope s_BadFate___init__).names.lookup ("super" : Str) = some .globalImplicit by decide +kernel) m_super h.no (by decide) (by decide) rfl (fun _ _ _ _ _ => rfl) (fun _ _ _ _ _ => rfl) (fun _ _ _ _ _ => rfl) (fun _ _ _ _ _ => rfl)
  · subst hfd
    exact Binds.all fun us hl => match us, hl with | [_, _], _ => rfl
def xns : List (PySem.W.Frag → SupV) := [fun K => supObs K "BadBit", fun K => supObs K "BadEnd", fun K => supObs K "BadFate"]
def exPr (K : PySem.W.Frag) : List Bool := []
def xvs : List SupV := [supVal "BadBit.__init__" s_BadBit___init__, supVal "BadEnd.__init__" s_BadEnd___init__, supVal "BadFate.__init__" s_BadFate___init__]
def exXn (fl : Str) (K : PySem.W.Frag) : List Bool := [exnB fl "BadBit.__init__" "bit" K (He.ga K "BadBit"), exnB fl "BadEnd.__init__" "end" K (He.ga K "BadEnd"), exnB fl "BadFate.__init__" "at" K (He.ga K "BadFate")]
def fn : List He.DefD := [d_check_fates, d_check_end, d_check_bit, d_arrives, d_Exchange___init__, d_Exchange_seen, d_heard_rounds, d_rounds_of, d_join_views, d_grow, d_cell, d_draws, d_take, d_exchange, d_view, d_changed, d_wrong_end, d_is_number, d_is_view, d_joined, d_grown, d_grows, d_walked, d_pair_holds, d_law]
def fa : List He.Fa := [.glo "check_fates", .glo "check_end", .glo "check_bit", .glo "arrives", .glo "heard_rounds", .glo "rounds_of", .glo "join_views", .glo "grow", .glo "_law_cell", .glo "_law_draws", .glo "_law_take", .glo "_law_exchange", .glo "_law_view", .glo "_law_changed", .glo "_law_wrong_end", .glo "_law_is_number", .glo "_law_is_view", .glo "_law_joined", .glo "_law_grown", .glo "_law_grows", .glo "_law_walked", .glo "_law_pair_holds", .glo "law", .free "abs", .free "bool", .free "enumerate", .free "int", .free "isinstance", .free "len", .free "list", .free "max", .free "range", .free "str", .free "super", .free "tuple", .glo "Exchange", .cls "Exchange", .mkr "Exchange", .noat "Exchange" "first_bit", .noat "Exchange" "second_bit", .noat "Exchange" "fates", .meth "Exchange" "seen", .str "FATES" "bfsn", .glo "HouseError", .glo "ENDS", .glo "Unmatched", .glo "BadBit", .glo "BadEnd", .glo "BadFate"]
def loose : List Str := [("HouseError" : Str), ("BadBit" : Str), ("BadEnd" : Str), ("BadFate" : Str), ("Unmatched" : Str), ("FATES" : Str), ("ENDS" : Str), ("check_fates" : Str), ("check_end" : Str), ("check_bit" : Str), ("arrives" : Str), ("Exchange" : Str), ("heard_rounds" : Str), ("rounds_of" : Str), ("join_views" : Str), ("grow" : Str), ("_law_cell" : Str), ("_law_draws" : Str), ("_law_take" : Str), ("_law_exchange" : Str), ("_law_view" : Str), ("_law_changed" : Str), ("_law_wrong_end" : Str), ("_law_is_number" : Str), ("_law_is_view" : Str), ("_law_joined" : Str), ("_law_grown" : Str), ("_law_grows" : Str), ("_law_walked" : Str), ("_law_pair_holds" : Str)]
def fl : Str := PySem.Challenge.pw_signedpacts_k78_grow.main.file
def exF0 (K : PySem.W.Frag) (a b : Addr) : Bool := decide (PySem.W.exmOne K (.ref a) (.ref b) = some false)
def exL0 (K : PySem.W.Frag) : List Bool := [endsB K (He.ga K "ENDS"), exmB K (He.ga K "Unmatched") (He.ga K "Unmatched"), exF0 K (He.ga K "BadEnd") (He.ga K "Unmatched"), exmB K (He.ga K "BadEnd") (He.ga K "BadEnd"),
  kitVB K (He.ga K "BadEnd") (.ref (He.ga K "HouseError")) true, kitVB K (He.ga K "Unmatched") (.ref (He.ga K "HouseError")) true, kitVB K (He.ga K "Unmatched") (.ref (He.ga K "BadEnd")) false, excB K (He.ga K "Unmatched"),
  PySem.W.excIn K (He.ga K "Unmatched") He.veBase "ValueError.__new__", PySem.W.keepIn K (.ref (He.ga K "Unmatched")), decide (PySem.W.subIn K (.ref (He.ga K "Unmatched")) (.type "BaseException") = some true), decide (PySem.W.typeIn K (.ref (He.ga K "Unmatched")) = some (.type "type"))]
def ex (K : PySem.W.Frag) : Bool := (exL0 K).all id && ((exXn fl K).all id && (exPr K).all id)
abbrev R : PySem.W.OpenRow := PySem.W.OpenLaw.row PySem.Challenge.rw_signedpacts_k78_grow
abbrev hk : PySem.W.Hook := hookY 5 fa fn xns xvs ex
def ob (s : PySem.W.SharedT) : He.AlD × (List SupV × Bool) := obY 5 fa fn xns ex (HandSHeadRun.getT s)
theorem ob_eq (s : PySem.W.SharedT) : ob s = hk.obs s.abs := obY_eq (HandSHeadRun.getT_eq s)
theorem run (w : World) : HandSHeadRun.RunEq R (PySem.W.view R.prog [35]) hk ob 8000 loose w := by
  intro os
  kernel_rfl
theorem facts {P : Program} {w : World} {K : PySem.W.Frag} {h : Heap} {mg : Str → Option Value} {f : Addr} (X : K.In h) (G : h.Ns mainGlobals mg) (hfa : mg ("law" : Str) = some (.ref f)) (c : He.SaysD fa fn K) (cs : xns.map (fun f => f K) = xvs) (cx : ex K = true) (hfl : ((P.main.file : Str) == fl) = true) (htop : (P.main.scope.names.lookup ("super" : Str)).isSome = false) :
    ∃ fd : FuncData, (∀ (s : Shared) (v : Value), BindsTo s fd ⟨[v], []⟩ [("_law_script", v)]) ∧ ∀ base : Heap, K.In base → base.Ns mainGlobals mg → FnOk P w K mg base CX0 11 f fd ["_law_script"] (spLaw K) := by
  obtain ⟨cx, cy⟩ := He.ba cx
  obtain ⟨cy, cp⟩ := He.ba cy
  obtain ⟨fd_check_fates, F_check_fates⟩ := c.def_ 0 (d := d_check_fates) rfl
  have F_check_fates : FnP K "check_fates" s_check_fates _ fd_check_fates := F_check_fates
  have g_check_fates := He.glo_ok X G (c.fact 0 (f := .glo "check_fates") rfl)
  have b_check_fates : Binds K fd_check_fates P_check_fates [] := F_check_fates.bindsN fun _ _ _ _ _ _ us hl => match us, hl with | [_], _ => rfl
  obtain ⟨fd_check_end, F_check_end⟩ := c.def_ 1 (d := d_check_end) rfl
  have F_check_end : FnP K "check_end" s_check_end _ fd_check_end := F_check_end
  have g_check_end := He.glo_ok X G (c.fact 1 (f := .glo "check_end") rfl)
  have b_check_end : Binds K fd_check_end P_check_end [] := F_check_end.bindsN fun _ _ _ _ _ _ us hl => match us, hl with | [_], _ => rfl
  obtain ⟨fd_check_bit, F_check_bit⟩ := c.def_ 2 (d := d_check_bit) rfl
  have F_check_bit : FnP K "check_bit" s_check_bit _ fd_check_bit := F_check_bit
  have g_check_bit := He.glo_ok X G (c.fact 2 (f := .glo "check_bit") rfl)
  have b_check_bit : Binds K fd_check_bit P_check_bit [] := F_check_bit.bindsN fun _ _ _ _ _ _ us hl => match us, hl with | [_], _ => rfl
  obtain ⟨fd_arrives, F_arrives⟩ := c.def_ 3 (d := d_arrives) rfl
  have F_arrives : FnP K "arrives" s_arrives _ fd_arrives := F_arrives
  have g_arrives := He.glo_ok X G (c.fact 3 (f := .glo "arrives") rfl)
  have b_arrives : Binds K fd_arrives P_arrives [] := F_arrives.bindsN fun _ _ _ _ _ _ us hl => match us, hl with | [_, _], _ => rfl
  obtain ⟨fd_Exchange___init__, F_Exchange___init__⟩ := c.def_ 4 (d := d_Exchange___init__) rfl
  have F_Exchange___init__ : FnM K "__init__" "Exchange.__init__" s_Exchange___init__ (He.ma K (He.ga K "Exchange") "__init__") fd_Exchange___init__ := F_Exchange___init__
  have b_Exchange___init__ : Binds K fd_Exchange___init__ P_Exchange___init__ [] := F_Exchange___init__.bindsN fun _ _ _ _ _ _ us hl => match us, hl with | [_, _, _, _], _ => rfl
  obtain ⟨fd_Exchange_seen, F_Exchange_seen⟩ := c.def_ 5 (d := d_Exchange_seen) rfl
  have F_Exchange_seen : FnM K "seen" "Exchange.seen" s_Exchange_seen (He.ma K (He.ga K "Exchange") "seen") fd_Exchange_seen := F_Exchange_seen
  have b_Exchange_seen : Binds K fd_Exchange_seen P_Exchange_seen [] := F_Exchange_seen.bindsN fun _ _ _ _ _ _ us hl => match us, hl with | [_, _], _ => rfl
  obtain ⟨fd_heard_rounds, F_heard_rounds⟩ := c.def_ 6 (d := d_heard_rounds) rfl
  have F_heard_rounds : FnP K "heard_rounds" s_heard_rounds _ fd_heard_rounds := F_heard_rounds
  have g_heard_rounds := He.glo_ok X G (c.fact 4 (f := .glo "heard_rounds") rfl)
  have b_heard_rounds : Binds K fd_heard_rounds P_heard_rounds [] := F_heard_rounds.bindsN fun _ _ _ _ _ _ us hl => match us, hl with | [_], _ => rfl
  obtain ⟨fd_rounds_of, F_rounds_of⟩ := c.def_ 7 (d := d_rounds_of) rfl
  have F_rounds_of : FnP K "rounds_of" s_rounds_of _ fd_rounds_of := F_rounds_of
  have g_rounds_of := He.glo_ok X G (c.fact 5 (f := .glo "rounds_of") rfl)
  have b_rounds_of : Binds K fd_rounds_of P_rounds_of [] := F_rounds_of.bindsN fun _ _ _ _ _ _ us hl => match us, hl with | [_], _ => rfl
  obtain ⟨fd_join_views, F_join_views⟩ := c.def_ 8 (d := d_join_views) rfl
  have F_join_views : FnP K "join_views" s_join_views _ fd_join_views := F_join_views
  have g_join_views := He.glo_ok X G (c.fact 6 (f := .glo "join_views") rfl)
  have b_join_views : Binds K fd_join_views P_join_views [] := F_join_views.bindsN fun _ _ _ _ _ _ us hl => match us, hl with | [_, _], _ => rfl
  obtain ⟨fd_grow, F_grow⟩ := c.def_ 9 (d := d_grow) rfl
  have F_grow : FnP K "grow" s_grow _ fd_grow := F_grow
  have g_grow := He.glo_ok X G (c.fact 7 (f := .glo "grow") rfl)
  have b_grow : Binds K fd_grow P_grow [] := F_grow.bindsN fun _ _ _ _ _ _ us hl => match us, hl with | [_, _, _], _ => rfl
  obtain ⟨fd_cell, F_cell⟩ := c.def_ 10 (d := d_cell) rfl
  have F_cell : FnP K "_law_cell" s_cell _ fd_cell := F_cell
  have g_cell := He.glo_ok X G (c.fact 8 (f := .glo "_law_cell") rfl)
  have b_cell : Binds K fd_cell P_cell [] := F_cell.bindsN fun _ _ _ _ _ _ us hl => match us, hl with | [_, _], _ => rfl
  obtain ⟨fd_draws, F_draws⟩ := c.def_ 11 (d := d_draws) rfl
  have F_draws : FnP K "_law_draws" s_draws _ fd_draws := F_draws
  have g_draws := He.glo_ok X G (c.fact 9 (f := .glo "_law_draws") rfl)
  have b_draws : Binds K fd_draws P_draws [] := F_draws.bindsN fun _ _ _ _ _ _ us hl => match us, hl with | [_, _], _ => rfl
  obtain ⟨fd_take, F_take⟩ := c.def_ 12 (d := d_take) rfl
  have F_take : FnP K "_law_take" s_take _ fd_take := F_take
  have g_take := He.glo_ok X G (c.fact 10 (f := .glo "_law_take") rfl)
  have b_take : Binds K fd_take P_take [] := F_take.bindsN fun _ _ _ _ _ _ us hl => match us, hl with | [_, _], _ => rfl
  obtain ⟨fd_exchange, F_exchange⟩ := c.def_ 13 (d := d_exchange) rfl
  have F_exchange : FnP K "_law_exchange" s_exchange _ fd_exchange := F_exchange
  have g_exchange := He.glo_ok X G (c.fact 11 (f := .glo "_law_exchange") rfl)
  have b_exchange : Binds K fd_exchange P_exchange [] := F_exchange.bindsN fun _ _ _ _ _ _ us hl => match us, hl with | [_, _, _], _ => rfl
  obtain ⟨fd_view, F_view⟩ := c.def_ 14 (d := d_view) rfl
  have F_view : FnP K "_law_view" s_view _ fd_view := F_view
  have g_view := He.glo_ok X G (c.fact 12 (f := .glo "_law_view") rfl)
  have b_view : Binds K fd_view P_view [] := F_view.bindsN fun _ _ _ _ _ _ us hl => match us, hl with | [_, _], _ => rfl
  obtain ⟨fd_changed, F_changed⟩ := c.def_ 15 (d := d_changed) rfl
  have F_changed : FnP K "_law_changed" s_changed _ fd_changed := F_changed
  have g_changed := He.glo_ok X G (c.fact 13 (f := .glo "_law_changed") rfl)
  have b_changed : Binds K fd_changed P_changed [] := F_changed.bindsN fun _ _ _ _ _ _ us hl => match us, hl with | [_, _, _], _ => rfl
  obtain ⟨fd_wrong_end, F_wrong_end⟩ := c.def_ 16 (d := d_wrong_end) rfl
  have F_wrong_end : FnP K "_law_wrong_end" s_wrong_end _ fd_wrong_end := F_wrong_end
  have g_wrong_end := He.glo_ok X G (c.fact 14 (f := .glo "_law_wrong_end") rfl)
  have b_wrong_end : Binds K fd_wrong_end P_wrong_end [] := F_wrong_end.bindsN fun _ _ _ _ _ _ us hl => match us, hl with | [_], _ => rfl
  obtain ⟨fd_is_number, F_is_number⟩ := c.def_ 17 (d := d_is_number) rfl
  have F_is_number : FnP K "_law_is_number" s_is_number _ fd_is_number := F_is_number
  have g_is_number := He.glo_ok X G (c.fact 15 (f := .glo "_law_is_number") rfl)
  have b_is_number : Binds K fd_is_number P_is_number [] := F_is_number.bindsN fun _ _ _ _ _ _ us hl => match us, hl with | [_, _], _ => rfl
  obtain ⟨fd_is_view, F_is_view⟩ := c.def_ 18 (d := d_is_view) rfl
  have F_is_view : FnP K "_law_is_view" s_is_view _ fd_is_view := F_is_view
  have g_is_view := He.glo_ok X G (c.fact 16 (f := .glo "_law_is_view") rfl)
  have b_is_view : Binds K fd_is_view P_is_view [] := F_is_view.bindsN fun _ _ _ _ _ _ us hl => match us, hl with | [_, _], _ => rfl
  obtain ⟨fd_joined, F_joined⟩ := c.def_ 19 (d := d_joined) rfl
  have F_joined : FnP K "_law_joined" s_joined _ fd_joined := F_joined
  have g_joined := He.glo_ok X G (c.fact 17 (f := .glo "_law_joined") rfl)
  have b_joined : Binds K fd_joined P_joined [] := F_joined.bindsN fun _ _ _ _ _ _ us hl => match us, hl with | [_], _ => rfl
  obtain ⟨fd_grown, F_grown⟩ := c.def_ 20 (d := d_grown) rfl
  have F_grown : FnP K "_law_grown" s_grown _ fd_grown := F_grown
  have g_grown := He.glo_ok X G (c.fact 18 (f := .glo "_law_grown") rfl)
  have b_grown : Binds K fd_grown P_grown [] := F_grown.bindsN fun _ _ _ _ _ _ us hl => match us, hl with | [_, _, _], _ => rfl
  obtain ⟨fd_grows, F_grows⟩ := c.def_ 21 (d := d_grows) rfl
  have F_grows : FnP K "_law_grows" s_grows _ fd_grows := F_grows
  have g_grows := He.glo_ok X G (c.fact 19 (f := .glo "_law_grows") rfl)
  have b_grows : Binds K fd_grows P_grows [] := F_grows.bindsN fun _ _ _ _ _ _ us hl => match us, hl with | [_, _, _, _, _], _ => rfl
  obtain ⟨fd_walked, F_walked⟩ := c.def_ 22 (d := d_walked) rfl
  have F_walked : FnP K "_law_walked" s_walked _ fd_walked := F_walked
  have g_walked := He.glo_ok X G (c.fact 20 (f := .glo "_law_walked") rfl)
  have b_walked : Binds K fd_walked P_walked [] := F_walked.bindsN fun _ _ _ _ _ _ us hl => match us, hl with | [_, _], _ => rfl
  obtain ⟨fd_pair_holds, F_pair_holds⟩ := c.def_ 23 (d := d_pair_holds) rfl
  have F_pair_holds : FnP K "_law_pair_holds" s_pair_holds _ fd_pair_holds := F_pair_holds
  have g_pair_holds := He.glo_ok X G (c.fact 21 (f := .glo "_law_pair_holds") rfl)
  have b_pair_holds : Binds K fd_pair_holds P_pair_holds [] := F_pair_holds.bindsN fun _ _ _ _ _ _ us hl => match us, hl with | [_], _ => rfl
  obtain ⟨fd_law, F_law⟩ := c.def_ 24 (d := d_law) rfl
  have F_law : FnP K "law" s_law _ fd_law := F_law
  have g_law := He.glo_ok X G (c.fact 22 (f := .glo "law") rfl)
  have m_abs := He.free_ok X G (c.fact 23 (f := .free "abs") rfl)
  have m_bool := He.free_ok X G (c.fact 24 (f := .free "bool") rfl)
  have m_enumerate := He.free_ok X G (c.fact 25 (f := .free "enumerate") rfl)
  have m_int := He.free_ok X G (c.fact 26 (f := .free "int") rfl)
  have m_isinstance := He.free_ok X G (c.fact 27 (f := .free "isinstance") rfl)
  have m_len := He.free_ok X G (c.fact 28 (f := .free "len") rfl)
  have m_list := He.free_ok X G (c.fact 29 (f := .free "list") rfl)
  have m_max := He.free_ok X G (c.fact 30 (f := .free "max") rfl)
  have m_range := He.free_ok X G (c.fact 31 (f := .free "range") rfl)
  have m_str := He.free_ok X G (c.fact 32 (f := .free "str") rfl)
  have m_super := He.free_ok X G (c.fact 33 (f := .free "super") rfl)
  have m_tuple := He.free_ok X G (c.fact 34 (f := .free "tuple") rfl)
  have g_Exchange := He.glo_ok X G (c.fact 35 (f := .glo "Exchange") rfl)
  have cls_Exchange := He.cls_ok (c.fact 36 (f := .cls "Exchange") rfl)
  have mk_Exchange := He.mkr_ok (c.fact 37 (f := .mkr "Exchange") rfl)
  have n_Exchange_first_bit := He.noat_ok (c.fact 38 (f := .noat "Exchange" "first_bit") rfl)
  have n_Exchange_second_bit := He.noat_ok (c.fact 39 (f := .noat "Exchange" "second_bit") rfl)
  have n_Exchange_fates := He.noat_ok (c.fact 40 (f := .noat "Exchange" "fates") rfl)
  have me_Exchange_seen := He.meth_ok (c.fact 41 (f := .meth "Exchange" "seen") rfl)
  have g0_FATES := He.str_ok X G (c.fact 42 (f := .str "FATES" "bfsn") rfl)
  obtain ⟨tok_FATES, g_FATES⟩ := g0_FATES
  have g_HouseError := He.glo_ok X G (c.fact 43 (f := .glo "HouseError") rfl)
  have g_ENDS := He.glo_ok X G (c.fact 44 (f := .glo "ENDS") rfl)
  have g_Unmatched := He.glo_ok X G (c.fact 45 (f := .glo "Unmatched") rfl)
  have g_BadBit := He.glo_ok X G (c.fact 46 (f := .glo "BadBit") rfl)
  have g_BadEnd := He.glo_ok X G (c.fact 47 (f := .glo "BadEnd") rfl)
  have g_BadFate := He.glo_ok X G (c.fact 48 (f := .glo "BadFate") rfl)
  have f_BadBit := exnB_ok (all_at cy 0)
  have x_BadBit : ∀ base : Heap, Exn P w K mg base "BadBit" (He.ga K "BadBit") "bit" := fun base => xn_BadBit (y_at cs 0) f_BadBit hfl htop g_BadBit m_super
  have f_BadEnd := exnB_ok (all_at cy 1)
  have x_BadEnd : ∀ base : Heap, Exn P w K mg base "BadEnd" (He.ga K "BadEnd") "end" := fun base => xn_BadEnd (y_at cs 1) f_BadEnd hfl htop g_BadEnd m_super
  have f_BadFate := exnB_ok (all_at cy 2)
  have x_BadFate : ∀ base : Heap, Exn P w K mg base "BadFate" (He.ga K "BadFate") "at" := fun base => xn_BadFate (y_at cs 2) f_BadFate hfl htop g_BadFate m_super
  have hE := endsB_ok (all_at cx 0)
  have teUU := of_decide_eq_true (all_at cx 1)
  have teEU := of_decide_eq_true (all_at cx 2)
  have teEE := of_decide_eq_true (all_at cx 3)
  have kEH := of_decide_eq_true (all_at cx 4)
  have kUH := of_decide_eq_true (all_at cx 5)
  have kUE := of_decide_eq_true (all_at cx 6)
  have ecU := (excB_ok (all_at cx 7)).1
  have x0_Unmatched : Exn0 K mg "Unmatched" (He.ga K "Unmatched") := ⟨all_at cx 8, all_at cx 9, of_decide_eq_true (all_at cx 10), of_decide_eq_true (all_at cx 11), g_Unmatched⟩
  have e := hfa.symm.trans g_law
  cases e
  have b := FunD.bindsA (ps := ["_law_script"]) F_law fun _ _ _ _ _ _ us hl => match us, hl with | [_], _ => rfl
  refine ⟨fd_law, fun s v => b s [v] rfl, fun base _ _ => ?_⟩
  have c_cell : Cal P w K mg base 1 "_law_cell" (spCell K) := cal_of F_cell g_cell b_cell (ok_cell F_cell m_len m_int)
  have c_draws : Cal P w K mg base 1 "_law_draws" spDraws := cal_of F_draws g_draws b_draws (ok_draws F_draws m_int m_abs m_range)
  have c_take : Cal P w K mg base 1 "_law_take" (spTake K) := cal_of F_take g_take b_take (ok_take F_take m_len)
  have c_check_fates : CalX P w K mg base 3 "check_fates" (spCkF (He.ga K "BadFate")) := ⟨_, _, _, ok_check_fates F_check_fates m_enumerate tok_FATES g_FATES (x_BadFate base), g_check_fates, F_check_fates.kp, b_check_fates⟩
  have c_check_end : CalX P w K mg base 3 "check_end" (spCkE (He.ga K "BadEnd")) := ⟨_, _, _, ok_check_end F_check_end g_ENDS hE (x_BadEnd base), g_check_end, F_check_end.kp, b_check_end⟩
  have c_check_bit : CalX P w K mg base 3 "check_bit" (spCkB (He.ga K "BadBit")) := ⟨_, _, _, ok_check_bit F_check_bit (x_BadBit base), g_check_bit, F_check_bit.kp, b_check_bit⟩
  have c_arrives : Cal P w K mg base 1 "arrives" spArr := cal_of F_arrives g_arrives b_arrives (ok_arrives F_arrives)
  have k_Exchange : MakX P w K mg base 4 "Exchange" (He.ga K "Exchange") (spEx1 (He.ga K "Exchange") (He.ga K "BadBit") (He.ga K "BadFate")) := ⟨_, _, _, mk_Exchange, ok_init F_Exchange___init__ cls_Exchange n_Exchange_first_bit n_Exchange_second_bit n_Exchange_fates c_check_bit c_check_fates, g_Exchange, b_Exchange___init__⟩
  have me_seen : MetX P w K mg base 4 (He.ga K "Exchange") "seen" (spSeen (He.ga K "Exchange") (He.ga K "BadEnd")) := ⟨_, _, _, cls_Exchange, me_Exchange_seen, ok_seen F_Exchange_seen m_range m_len cls_Exchange n_Exchange_first_bit n_Exchange_second_bit n_Exchange_fates c_check_end c_arrives, b_Exchange_seen⟩
  have c_exchange : Cal P w K mg base 2 "_law_exchange" (spLex K) := cal_of F_exchange g_exchange b_exchange (ok_exchange F_exchange m_int m_len m_range c_take)
  have c_wrong_end : Cal P w K mg base 1 "_law_wrong_end" spWE := cal_of F_wrong_end g_wrong_end b_wrong_end (ok_wrong_end F_wrong_end m_int m_len)
  have c_view : Cal P w K mg base 1 "_law_view" (spView K) := cal_of F_view g_view b_view (ok_view F_view m_len m_range)
  have c_is_number : Cal P w K mg base 1 "_law_is_number" spNum := cal_of F_is_number g_is_number b_is_number (ok_is_number F_is_number m_isinstance m_int m_bool)
  have c_is_view : Cal P w K mg base 2 "_law_is_view" spIsV := cal_of F_is_view g_is_view b_is_view (ok_is_view F_is_view m_isinstance m_tuple m_len m_str c_is_number)
  have c_heard_rounds : Cal P w K mg base 1 "heard_rounds" spHeard := cal_of F_heard_rounds g_heard_rounds b_heard_rounds (ok_heard_rounds F_heard_rounds m_len)
  have c_rounds_of : Cal P w K mg base 2 "rounds_of" spRounds := cal_of F_rounds_of g_rounds_of b_rounds_of (ok_rounds_of F_rounds_of c_heard_rounds)
  have c_join_views : CalX P w K mg base 6 "join_views" (spJoin (He.ga K "Exchange") (He.ga K "Unmatched")) := ⟨_, _, _, ok_join_views F_join_views m_len m_tuple x0_Unmatched c_heard_rounds c_rounds_of k_Exchange me_seen, g_join_views, F_join_views.kp, b_join_views⟩
  have c_grow : CalX P w K mg base 7 "grow" (spGrow (He.ga K "BadEnd") (He.ga K "Unmatched")) := ⟨_, _, _, ok_grow F_grow cls_Exchange n_Exchange_fates c_check_end c_join_views, g_grow, F_grow.kp, b_grow⟩
  have c_changed : Cal P w K mg base 2 "_law_changed" (spChanged K) := cal_of F_changed g_changed b_changed (ok_changed F_changed m_int m_len m_max c_take)
  have c_joined : Cal P w K mg base 2 "_law_joined" spJoined := cal_of F_joined g_joined b_joined (ok_joined F_joined m_len c_view)
  have c_grown : Cal P w K mg base 8 "_law_grown" spGrown := cal_of F_grown g_grown b_grown (ok_grown F_grown m_isinstance g_Unmatched g_BadEnd g_HouseError c_grow f_BadEnd.xf f_BadEnd.no f_BadEnd.ec ecU teUU teEU teEE kEH kUH kUE)
  have c_grows : Cal P w K mg base 9 "_law_grows" spGrows := cal_of F_grows g_grows b_grows (ok_grows F_grows m_list m_isinstance m_str c_grown c_is_view)
  have c_walked : Cal P w K mg base 10 "_law_walked" spWalked := cal_of F_walked g_walked b_walked (ok_walked F_walked m_len m_range c_view c_grows)
  have c_pair_holds : Cal P w K mg base 10 "_law_pair_holds" (spPair K) := cal_of F_pair_holds g_pair_holds b_pair_holds (ok_pair_holds F_pair_holds m_int m_range c_take c_exchange c_view c_changed c_joined c_wrong_end c_grows)
  exact ok_law F_law m_int m_range c_cell c_draws c_take c_exchange c_walked c_pair_holds
end Z
open PySem PySem.W PySem.Calls PyProof.Rows
theorem PySem.Challenge.cw_signedpacts_k78_grow_holds : PySem.Challenge.rw_signedpacts_k78_grow.Holds := by
  w_on; o_law
  refine HandSHeadRun.head_any (r := OpenLaw.row PySem.Challenge.rw_signedpacts_k78_grow) (q := view (OpenLaw.row PySem.Challenge.rw_signedpacts_k78_grow).prog [35]) (H := Z.hk) (ob := Z.ob) (M := 8000) (loose := Z.loose) (d := HandSHeadRun.topDef (OpenLaw.row PySem.Challenge.rw_signedpacts_k78_grow).prog 35) (kwd := []) Z.ob_eq
    (by kernel_rfl) (fun s => by kernel_rfl) Z.run (by kernel_rfl) (by kernel_rfl) (by kernel_rfl) (by rfl) (by first | assumption | decide +kernel) (by decide +kernel) ⟨rfl, rfl, rfl, rfl, rfl, by decide +kernel⟩ ?hw ?hc
  case hw => w_witness2
  case hc =>
    refine L2.walk_ofE (l := PySem.Challenge.rw_signedpacts_k78_grow) (n := 63) (k := 11) (x := "_law_script") (CX := L2.CX0) rfl (by decide) (by kernel_rfl) ⟨rfl, by decide, by decide⟩ ?F (fun _ _ _ _ z => z)
    intro w mg fa h Y G hmg0
    obtain ⟨K, KX, c, cs, cx⟩ := Y
    have hmg : mg ("law" : PySem.Str) = some (.ref fa) := by
      have e : (HandSHeadRun.topDef (OpenLaw.row PySem.Challenge.rw_signedpacts_k78_grow).prog 35).name = ("law" : PySem.Str) := by kernel_rfl
      rw [← e]
      exact hmg0
    obtain ⟨fd, hb, hF⟩ := Z.facts (P := (PySem.Challenge.rw_signedpacts_k78_grow).prog) (w := w) KX G hmg c cs cx (by kernel_rfl) (by kernel_rfl)
    exact ⟨K, fd, Z.spLaw K, KX, hb, fun H a ns hl _ hS => ⟨a, ns, rfl, hS, hl, fun _ => rfl⟩, hF⟩
