import PyProof.Rows.All
import Wide.All
import OpenK.AllK
import Wide.FinOn
import HandS.ForMost
import HandS.Zip
import HandS.TupMul
import HandS.Codes
import KE.GoesMore
import KE.GoesEnum
import HandS.Defaults
import HandS.IsInst
import HandS.Wide
import HandS.WideBits
import HandS.NoneIn
import HandS.OwnEq
import HandS.Star
import HandS.SetTxtIn
import HandS.ExcInit
import HandS.ExcField
import HandS.ExcIs
import HandS.Nested
import HandS.ClsMeth
import HandS.HeadHook1
import KE.KSuper
import KE.KExcSuper
import HandS.WordsExc
import HandS.ExcInitHot
import KE.KExcIs
import HandS.HeadHook2
import HandS.Property
import HandS.NamedTupGet
import HandS.ExcCtx
import HandS.Sort
import HandS.ListItems
import HandS.Strs
import HandS.Text
import HandS.Head0
import HandS.Head1
import HandS.Head2
import HandS.HeadEnd
import PySem.Challenge.RW_signedpacts_k77_views
set_option Elab.async false
set_option linter.all false
set_option maxRecDepth 100000
set_option maxHeartbeats 4000000
namespace Z
open PySem PySem.Spec PyProof.Rows L2
/-! ### zip over two sequences, each a list (true) or a tuple (false) -/
def SqK (b : Bool) (K : PySem.W.Frag) (H : Hp) (a : Addr) (xs : List V) : Prop := match b with
  | true => SqL K H a xs
  | false => SqT K H a xs
def ItK (b : Bool) (h : Heap) (it l : Addr) (i : Nat) : Prop := match b with
  | true => h.IsListIter it l i
  | false => h.IsTupleIter it l i
def IsK (b : Bool) (h : Heap) (l : Addr) (xs : Array Value) : Prop := match b with
  | true => h.IsList l xs
  | false => h.IsTuple l xs
theorem ItK.at' {b : Bool} {h h' : Heap} {it l : Addr} {i : Nat} (x : ItK b h it l i) (k : ∀ o, h.get? it = some o → h'.get? it = some o) : ItK b h' it l i := by
  cases b
  · exact Heap.IsTupleIter.at x k
  · exact Heap.IsListIter.at x k
theorem ItK.obj {b : Bool} {h : Heap} {it l : Addr} {i : Nat} (x : ItK b h it l i) : ∃ o, h.get? it = some o ∧ ∀ v, o.data ≠ .cell v := by
  cases b
  · obtain ⟨o, e, _, d⟩ := (show h.IsTupleIter it l i from x)
    exact ⟨o, e, fun v q => by rw [d] at q; cases q⟩
  · obtain ⟨o, e, _, d⟩ := (show h.IsListIter it l i from x)
    exact ⟨o, e, fun v q => by rw [d] at q; cases q⟩
theorem sqk_is {X : Cx} {pins : List (Addr × Obj)} {σ : L2.St} {H : Hp} {s : Shared} {b : Bool} {a : Addr} {xs : List V} (I : Inv X pins σ H s) (h : SqK b X.K H a xs) :
    ∃ its : List Value, Vals xs its ∧ IsK b s.heap a its.toArray ∧ a < s.heap.objs.size := by
  cases b
  · obtain ⟨its, r, p, _⟩ := I.tuple h
    obtain ⟨o, ho, _⟩ := id p
    exact ⟨its, r, p, Heap.lt_size ho⟩
  · obtain ⟨its, r, p, _⟩ := I.list h
    exact ⟨its, r, p.isList, p.lt⟩
theorem sqk_inj {X : Cx} {pins : List (Addr × Obj)} {σ : L2.St} {H : Hp} {s : Shared} {b : Bool} {a : Addr} {xs ys : List V} (I : Inv X pins σ H s) (h : SqK b X.K H a xs) (h' : SqK b X.K H a ys) : xs = ys := by
  cases b
  · exact I.tuple_inj h h'
  · exact I.list_inj h h'
theorem drawsK {prog : Program} {w : World} {A : Around} (b : Bool) (hh : A.handled = none) (it l : Addr) (hne : l ≠ it) (items : Array Value) :
    Draws prog w A it [it, l] items.size (fun i v => items[i]? = some v) (fun i h => ItK b h it l i ∧ IsK b h l items) := by
  cases b
  · exact Draws.tuple hh it l hne items
  · exact Draws.list hh it l hne items
def ItzM (p q : Bool) (K : PySem.W.Frag) (a b : Addr) : It :=
  ⟨fun i H => ∃ (xs ys : List V) (x y : V), SqK p K H a xs ∧ SqK q K H b ys ∧ xs[i]? = some x ∧ ys[i]? = some y,
   fun i H v H' => ∃ T x y, v = .ref T ∧ H T = none ∧ H' = upd H T (.tup [x, y]) ∧ (∀ xs, SqK p K H a xs → xs[i]? = some x) ∧ (∀ ys, SqK q K H b ys → ys[i]? = some y),
   fun i H => ∃ xs ys : List V, SqK p K H a xs ∧ SqK q K H b ys ∧ (xs.length ≤ i ∨ ys.length ≤ i) ∧ i ≤ xs.length ∧ i ≤ ys.length⟩
theorem zsep {z TI TO i1 i2 a b : Addr} (D : ZipApart z TI TO i1 i2 a b) : ZipSep2 z TI TO i1 i2 [i1, a] [i2, b] where
  TIz := D.TIz
  TOz := D.TOz
  TITO := D.TITO
  TIi1 := D.TIi1
  mem1 := List.mem_cons_self
  zf1 := fun h => by rcases List.mem_cons.mp h with e | h; exact D.i1z e.symm; exact D.l1z (List.mem_singleton.mp h).symm
  Tf1 := fun h => by rcases List.mem_cons.mp h with e | h; exact D.TOi1 e; exact D.l1TO (List.mem_singleton.mp h).symm
  TIi2 := D.TIi2
  mem2 := List.mem_cons_self
  zf2 := fun h => by rcases List.mem_cons.mp h with e | h; exact D.i2z e.symm; exact D.l2z (List.mem_singleton.mp h).symm
  Tf2 := fun h => by rcases List.mem_cons.mp h with e | h; exact D.TOi2 e; exact D.l2TO (List.mem_singleton.mp h).symm
  sep1_2 := fun h => by rcases List.mem_cons.mp h with e | h; exact D.i12 e; exact D.l2i1 (List.mem_singleton.mp h).symm
  sep2_1 := fun h => by rcases List.mem_cons.mp h with e | h; exact D.i12 e.symm; exact D.l1i2 (List.mem_singleton.mp h).symm
theorem five {c z TI TO i1 i2 : Addr} {Pr : Addr → Prop} (hc : c ∈ [z, TI, TO, i1, i2]) (a : Pr z) (b : Pr TI) (d : Pr TO) (e : Pr i1) (f : Pr i2) : Pr c := by
  have q : c = z ∨ c = TI ∨ c = TO ∨ c = i1 ∨ c = i2 := by simpa using hc
  rcases q with rfl | rfl | rfl | rfl | rfl <;> assumption
theorem turn_zipM {p q : Bool} {P : Program} {w : World} {K : PySem.W.Frag} {elts : List Expr} {kk : Nat} {tpos : Pos} {a b z TI TO i1 i2 : Addr} (D : ZipApart z TI TO i1 i2 a b) :
    Turn P w K (.Tuple elts kk tpos) (ItzM p q K a b) [z, TI, TO, i1, i2] z (fun i h => IsZip h z TI TO .none ∧ IsTupOf2 h TI (.ref i1) (.ref i2) ∧ (∃ x y, IsTupOf2 h TO x y) ∧ ItK p h i1 a i ∧ ItK q h i2 b i) where
  mem := by simp
  obj := fun i h st c hc => by
    obtain ⟨hz, hI, ⟨x, y, hO⟩, h1, h2⟩ := st
    exact five (Pr := fun c => ∃ o, h.get? c = some o ∧ ∀ v, o.data ≠ .cell v) hc ⟨_, hz, fun v q => nomatch q⟩ ⟨_, hI, fun v q => nomatch q⟩ ⟨_, hO, fun v q => nomatch q⟩ h1.obj h2.obj
  keep := fun i h h' st k => by
    obtain ⟨hz, hI, ⟨x, y, hO⟩, h1, h2⟩ := st
    exact ⟨k z (by simp) _ hz, k TI (by simp) _ hI, ⟨x, y, k TO (by simp) _ hO⟩, h1.at' (fun o e => k i1 (by simp) o e), h2.at' (fun o e => k i2 (by simp) o e)⟩
  item := by
    intro X hP hw hK hc i pins s σ H E I hf st hg
    subst hP hw hK
    obtain ⟨hz, hI, ⟨x0, y0, hO⟩, h1, h2⟩ := st
    obtain ⟨xs, ys, x, y, qx, qy, ex, ey⟩ := hg
    obtain ⟨us, rx, kx, _⟩ := sqk_is I qx
    obtain ⟨vs, ry, ky, _⟩ := sqk_is I qy
    obtain ⟨u, eu, ru⟩ := rx.get ex
    obtain ⟨v, ev, rv⟩ := ry.get ey
    have hzl : z < s.heap.objs.size := Heap.lt_size hz
    have lu : i < us.toArray.size := by simpa using (List.getElem?_eq_some_iff.mp eu).1
    have lv : i < vs.toArray.size := by simpa using (List.getElem?_eq_some_iff.mp ev).1
    have hh : X.A.in1.handled = none := I.ok.hd hc
    refine wpAny_pyNext_zipD2_item (zsep D) (drawsK p hh i1 a D.l1i1 us.toArray) (drawsK q hh i2 b D.l2i2 vs.toArray) hz hI hO ⟨h1, kx⟩ ⟨h2, ky⟩ lu lv fun m1 m2 g tk p1 p2 gz gO g1 g2 gT gs gk => ?_
    have e1 : m1 = u := by
      have t1 : us.toArray[i]? = some u := by simpa using eu
      exact Option.some.inj (p1.symm.trans t1)
    have e2 : m2 = v := by
      have t1 : vs.toArray[i]? = some v := by simpa using ev
      exact Option.some.inj (p2.symm.trans t1)
    subst e1 e2
    refine ⟨_, rfl, wpAny_letOwnedTupleGo_zip (s := { s with heap := g, toks := tk }) gz fun g' gz' sb => ?_⟩
    have gT' : g'.get? s.heap.objs.size = some { cls := .type "tuple", data := .seq #[m1, m2] } := (sb.2 _ (Nat.ne_of_gt hzl)).trans gT
    have nw : ObjOk X.prog X.w (upd H s.heap.objs.size (.tup [x, y])) g' s.heap.objs.size (.tup [x, y]) := ⟨by show 2 ≤ sizeLine; decide, [m1, m2], .cons ru (.cons rv .nil), ⟨_, gT', rfl, _, rfl⟩⟩
    have I1 : Inv X pins σ (upd H s.heap.objs.size (.tup [x, y])) { s with heap := g', toks := tk } :=
      I.turnedNew (t' := tk) (ch := [z, TI, TO, i1, i2]) (fun c o nb e => (sb.2 c (fun w => nb (by simp [w]))).trans (gk c o (fun w => nb (by simp [w])) (fun w => nb (by simp [w])) (fun w => nb (by simp [w])) (fun w => nb (by simp [w])) e)) hf (Nat.le_refl _) nw
    refine ⟨.ref s.heap.objs.size, _, I1, rfl, ⟨_, x, y, rfl, I.hok.fresh (Nat.le_refl _), rfl, fun l hl => by rw [sqk_inj I hl qx]; exact ex, fun l hl => by rw [sqk_inj I hl qy]; exact ey⟩, ⟨gz', ?_, ⟨m1, m2, ?_⟩, ?_, ?_⟩, fun c hcm => ?_⟩
    · exact (sb.2 _ D.TIz).trans (gk _ _ D.TIz D.TITO D.TIi1 D.TIi2 hI)
    · exact (sb.2 _ D.TOz).trans gO
    · exact ItK.at' g1.1 (fun o e => (sb.2 _ D.i1z).trans e)
    · exact ItK.at' g2.1 (fun o e => (sb.2 _ D.i2z).trans e)
    · have lt : c < s.heap.objs.size := by
        obtain ⟨o1, q1, _⟩ := h1.obj
        obtain ⟨o2, q2, _⟩ := h2.obj
        exact five (Pr := fun c => c < s.heap.objs.size) hcm hzl (Heap.lt_size hI) (Heap.lt_size hO) (Heap.lt_size q1) (Heap.lt_size q2)
      rw [upd_ne (Nat.ne_of_lt lt)]
      exact (hf c hcm).1
  done := by
    intro X hP hw hK hc i pins s σ H E I hf st hg
    subst hP hw hK
    obtain ⟨hz, hI, ⟨x0, y0, hO⟩, h1, h2⟩ := st
    obtain ⟨xs, ys, qx, qy, hend, le1, le2⟩ := hg
    obtain ⟨us, rx, kx, _⟩ := sqk_is I qx
    obtain ⟨vs, ry, ky, _⟩ := sqk_is I qy
    have l1 := rx.length
    have l2 := ry.length
    have n1 : us.toArray.size = us.length := by simp
    have n2 : vs.toArray.size = vs.length := by simp
    have hh : X.A.in1.handled = none := I.ok.hd hc
    refine wpAny_pyNext_zipD2_end (i := i) (zsep D) (drawsK p hh i1 a D.l1i1 us.toArray) (drawsK q hh i2 b D.l2i2 vs.toArray) hz hI hO ⟨h1, kx⟩ ⟨h2, ky⟩ (by omega) (by omega) (by omega) fun g tk gk => ?_
    exact ⟨rfl, I.turnedL (t' := tk) (ch := [z, TI, TO, i1, i2]) (fun c o nb e => gk c o (fun w => nb (by simp [w])) (fun w => nb (by simp [w])) (fun w => nb (by simp [w])) (fun w => nb (by simp [w])) e) hf⟩
  self := fun A i s Q E st h => wpAny_pyIter_zip st.1 h
def iZipM (K : PySem.W.Frag) (ta : TA) : TI := fun σ H R => ta σ H fun vs H1 => ∃ p q a b xs ys, vs = [.ref a, .ref b] ∧ SqK p K H1 a xs ∧ SqK q K H1 b ys ∧ R (ItzM p q K a b) H1
theorem begK {p : Bool} {h : Heap} {a : Addr} {xs : Array Value} (k : IsK p h a xs) : ∃ o Hp', Begins (.ref a) o Hp' ∧ Hp' h ∧ ∀ h' it, h'.get? it = some o → ItK p h' it a 0 := by
  cases p
  · exact ⟨_, _, begins_tuple a xs, k, fun h' it e => ⟨_, e, rfl, rfl⟩⟩
  · exact ⟨_, _, begins_list a xs, k, fun h' it e => ⟨_, e, rfl, rfl⟩⟩
theorem pi_zipM {X : Cx} {e e2 : Expr} {ta : TA} {p pos tpos : Pos} {elts : List Expr} {kk : Nat} (hg : Gl X "zip") (hm : X.mg "zip" = none) (ha : PA X [e, e2] ta)
    (hs : starEach [e, e2] X.env = (false, eval e X.env) :: starEach [e2] X.env := by rfl) (hpl : (backTo pos (starEach [e2] X.env)).any (·.1) = false := by rfl) :
    PI X (.Tuple elts kk tpos) (.Call (.Name "zip" p) [e, e2] [] pos) (iZipM X.K ta) := by
  constructor
  intro pins s σ H R I h
  refine Call_ (ld_blt I hg hm PyProof.Rows.boot_zip (PyProof.Rows.callWith_type1 (thn (ha.run pos pins s σ H _ I h) fun us s1 ⟨vs, H1, I1, r1, q1⟩ => ?_) hs hpl))
  obtain ⟨k1, k2, a, b, xs, ys, ex, qx, qy, q⟩ := q1
  subst ex
  obtain ⟨u, v, rfl, ru, rv⟩ := Vals.two r1
  cases ru
  cases rv
  obtain ⟨i1, _, p1, lt1⟩ := sqk_is I1 qx
  obtain ⟨i2, _, p2, lt2⟩ := sqk_is I1 qy
  obtain ⟨o1, G1, B1, g1, w1⟩ := begK p1
  obtain ⟨o2, G2, B2, g2, w2⟩ := begK p2
  refine zip_begins2 B1 B2 g1 g2 fun h' hz hI hO e1 e2 hsz hk => wpAny_pyIter_zip hz ?_
  have I2 : Inv X pins σ H1 { s1 with heap := h' } := I1.kept (t' := s1.toks) hk
  refine ⟨s1.heap.objs.size + 4, [s1.heap.objs.size + 4, s1.heap.objs.size + 2, s1.heap.objs.size + 3, s1.heap.objs.size, s1.heap.objs.size + 1], _, _, H1, rfl, I2, turn_zipM (PySem.W.ktu_apart s1.heap.objs.size a b lt1 lt2), ⟨hz, hI, ⟨_, _, hO⟩, w1 _ _ e1, w2 _ _ e2⟩, fun c hcm => ?_, q⟩
  have hle : s1.heap.objs.size ≤ c := five (Pr := fun c => s1.heap.objs.size ≤ c) hcm (Nat.le_add_right _ _) (Nat.le_add_right _ _) (Nat.le_add_right _ _) (Nat.le_refl _) (Nat.le_add_right _ _)
  exact I1.fpOk hle (I1.hok.fresh hle)
end Z
set_option Elab.async false
set_option linter.all false
set_option maxRecDepth 100000
set_option maxHeartbeats 4000000
namespace Z
open PySem PySem.Spec PyProof.Rows L2
/-! ### (v,) * k for 0 ≤ k -/
theorem tmul0 (l : Addr) (v : Value) (n : Nat) (dd : Option Addr) (sl : Array (Option Value)) (u : Tok) :
    Meets (Builtin.«tuple.__mul__» ⟨[.ref l, .int 0 u], []⟩) (fun _ R s => s.heap.get? l = some { cls := .type "tuple", dict := dd, data := .seq #[v] n, slots := sl } ∧
      R (.ok (.ret (Value.ref s.heap.objs.size))) { s with heap := s.heap.push { cls := Value.type "tuple", data := Data.seq #[] }, toks := s.toks }) :=
  .of_wp fun prog w A R s h => by
    obtain ⟨hp, g, d, tk, os⟩ := s
    obtain ⟨hl, h⟩ := h
    have f1 := AutoSeq1.idx_int
    wp_walk using AutoSeq1.wpAny_loadPart' hl
    exact ⟨_, rfl, h⟩
theorem tmul1 (l : Addr) (items : Array Value) (n : Nat) (dd : Option Addr) (sl : Array (Option Value)) (u : Tok) :
    Meets (Builtin.«tuple.__mul__» ⟨[.ref l, .int 1 u], []⟩) (fun _ R s => s.heap.get? l = some { cls := .type "tuple", dict := dd, data := .seq items n, slots := sl } ∧ R (.ok (.ret (Value.ref l))) s) :=
  .of_wp fun prog w A R s h => by
    obtain ⟨hp, g, d, tk, os⟩ := s
    obtain ⟨hl, h⟩ := h
    have f1 := AutoSeq1.idx_int
    wp_walk using AutoSeq1.wpAny_loadPart' hl
    exact ⟨_, rfl, h⟩
theorem same_new {H : Hp} {p : Addr} {o : HO} (h : H p = none) : Same H (upd H p o) := fun b x e => by
  rw [upd_ne (ne_of_none e h)]
  exact e
def rRepU : R2 := fun x y H Q => ∃ l k v, x = .ref l ∧ y = .int k ∧ H l = some (.tup [v]) ∧ 0 ≤ k ∧ k ≤ 1000 ∧ ∀ p H', Same H H' → H' p = some (.tup (List.replicate k.toNat v)) → Q (.ref p) H'
theorem op_repU {X : Cx} : OpR X (binaryOp .Mult) rRepU := by
  intro pins s σ H x y vv uu Q I rx ry h
  obtain ⟨l, k, v, rfl, rfl, hT, h0, h1, q⟩ := id h
  by_cases k2 : 2 ≤ k
  · refine op_repT pins s σ H _ _ vv uu Q I rx ry ⟨l, k, [v], rfl, rfl, .inl (.inl hT), by simp, k2, h1, by simp, fun p np => q p _ (same_new np) ?_⟩
    rw [upd_same]
    congr 2
    generalize k.toNat = m
    induction m with
    | zero => rfl
    | succ m ih => rw [List.replicate_succ, List.flatten_cons, ih, List.replicate_succ]; rfl
  · cases rx
    obtain ⟨t, rfl⟩ := ry
    obtain ⟨its, r, ⟨⟨cls, dd, data, sl⟩, ho, hc, n, hd⟩, hs⟩ := I.tuple (.inl (.inl hT) : SqT X.K H l [v])
    simp only at hc hd
    subst hc hd
    obtain ⟨u, rfl, ru⟩ := Vals.one r
    by_cases k1 : k = 1
    · subst k1
      refine wpAny_binaryOp_repeat_ref (T := "tuple") (U := "int") (by decide) ⟨_, ho, rfl⟩ (fun s' => typeIs_int s' 1 t) noFill_tuple_mul F.fills_int_mul F.slot_int_rmul repeat_tuple F.slot_int_index.lookup
        (call_meets F.slot_int_rmul (typeIs_int s 1 t) F.entry_int_rmul (F.args_int_rmul_2 _ _) (int_rmul_tuple 1 t l [u].toArray n dd sl)
          ⟨ho, rfl, ⟨_, ho, rfl⟩, call_meets F.slot_tuple_mul ⟨_, ho, rfl⟩ F.entry_tuple_mul (F.args_tuple_mul_2 _ _) (tmul1 l [u].toArray n dd sl t) ⟨ho, ?_⟩⟩)
      exact ⟨.ref l, H, I, rfl, q l H (Same.refl H) hT⟩
    · have k0 : k = 0 := by omega
      subst k0
      refine wpAny_binaryOp_repeat_ref (T := "tuple") (U := "int") (by decide) ⟨_, ho, rfl⟩ (fun s' => typeIs_int s' 0 t) noFill_tuple_mul F.fills_int_mul F.slot_int_rmul repeat_tuple F.slot_int_index.lookup
        (call_meets F.slot_int_rmul (typeIs_int s 0 t) F.entry_int_rmul (F.args_int_rmul_2 _ _) (int_rmul_tuple 0 t l [u].toArray n dd sl)
          ⟨ho, rfl, ⟨_, ho, rfl⟩, call_meets F.slot_tuple_mul ⟨_, ho, rfl⟩ F.entry_tuple_mul (F.args_tuple_mul_2 _ _) (tmul0 l u n dd sl t) ⟨ho, ?_⟩⟩)
      refine ⟨.ref s.heap.objs.size, _, I.laid (t' := s.toks) (o := .tup []) (fun b ob z => Heap.get?_push_of_some _ z) (Nat.le_refl _) ?_, rfl, q _ _ (same_new (I.hok.fresh (Nat.le_refl _))) upd_same⟩
      exact ⟨Nat.zero_le _, [], .nil, IsTup.new _ _⟩
/-! ### loops and comprehensions over any iterator -/
def forW (J : It) (g : TG) (tb : TS) (D : Ends) (σ : L2.St) (H : Hp) : Prop := ∃ W : Nat → Nat → L2.St → Hp → Prop, (∃ m, W 0 m σ H) ∧ ∀ i m σ H, W i m σ H →
  (J.stop i H ∧ D.nx σ H) ∨ (J.go i H ∧ ∃ N : L2.St → Hp → Prop, (∀ σ' H', N σ' H' → ∃ m', m' < m ∧ W (i + 1) m' σ' H') ∧ ∀ x H', J.yld i H x H' → g x σ H' fun σ2 H2 => tb { D with nx := N, ct := N, bk := D.nx } σ2 H2)
theorem for_gen {J : It} {n : Nat} {g : TG} {tb : TS} {D : Ends} {σ : L2.St} {H : Hp} (Pv : Nat → L2.St → Hp → Prop) (h0 : Pv 0 σ H) (hgo : ∀ i σ H, i < n → Pv i σ H → J.go i H) (hst : ∀ σ H, Pv n σ H → J.stop n H)
    (hs : ∀ i σ H x H', i < n → Pv i σ H → J.yld i H x H' → g x σ H' fun σ2 H2 => tb { D with nx := Pv (i + 1), ct := Pv (i + 1), bk := D.nx } σ2 H2) (hd : ∀ σ H, Pv n σ H → D.nx σ H) : forW J g tb D σ H := by
  refine ⟨fun i m σ H => m = n - i ∧ i ≤ n ∧ Pv i σ H, ⟨n, by omega, Nat.zero_le _, h0⟩, fun i m σ H w => ?_⟩
  obtain ⟨rfl, hi, p⟩ := w
  by_cases hlt : i < n
  · exact .inr ⟨hgo i σ H hlt p, Pv (i + 1), fun σ' H' z => ⟨n - (i + 1), by omega, rfl, hlt, z⟩, fun x H' y => hs i σ H x H' hlt p y⟩
  · have e : i = n := by omega
    subst e
    exact .inl ⟨hst σ H p, hd σ H p⟩
def lcW (J : It) (g : TG) (tt : TT) (te : TE) (vs : List Nat) (σ : L2.St) (D : Addr) (Qd : Hp → Prop) (H1 : Hp) : Prop := ∃ W : Nat → Nat → Hp → Prop, (∃ m, W 0 m (upd H1 D (.lst []))) ∧ ∀ i m H, W i m H →
  (J.stop i H ∧ Qd H) ∨ (J.go i H ∧ ∃ Nx : Hp → Prop, (∀ H', Nx H' → ∃ m', m' < m ∧ W (i + 1) m' H') ∧ ∀ x H', J.yld i H x H' → g x (wipe σ vs) H' fun σ2 H2 => wipe σ2 vs = wipe σ vs ∧ tt σ2 H2 fun b H3 =>
    if b = true then te σ2 H3 fun y H4 => ∃ acc, H4 D = some (.lst acc) ∧ acc.length < sizeLine ∧ Nx (upd H4 D (.lst (acc ++ [y]))) else Nx H3)
theorem lc_gen {J : It} {n : Nat} {g : TG} {tt : TT} {te : TE} {vs : List Nat} {σ : L2.St} {H1 : Hp} {D : Addr} {Qd : Hp → Prop} (Pv : Nat → Hp → Prop) (h0 : Pv 0 (upd H1 D (.lst []))) (hgo : ∀ i H, i < n → Pv i H → J.go i H) (hst : ∀ H, Pv n H → J.stop n H)
    (hs : ∀ i H x H', i < n → Pv i H → J.yld i H x H' → g x (wipe σ vs) H' fun σ2 H2 => wipe σ2 vs = wipe σ vs ∧ tt σ2 H2 fun b H3 =>
      if b = true then te σ2 H3 fun y H4 => ∃ acc, H4 D = some (.lst acc) ∧ acc.length < sizeLine ∧ Pv (i + 1) (upd H4 D (.lst (acc ++ [y]))) else Pv (i + 1) H3) (hd : ∀ H, Pv n H → Qd H) : lcW J g tt te vs σ D Qd H1 := by
  refine ⟨fun i m H => m = n - i ∧ i ≤ n ∧ Pv i H, ⟨n, by omega, Nat.zero_le _, h0⟩, fun i m H w => ?_⟩
  obtain ⟨rfl, hi, p⟩ := w
  by_cases hlt : i < n
  · exact .inr ⟨hgo i H hlt p, Pv (i + 1), fun H' z => ⟨n - (i + 1), by omega, rfl, hlt, z⟩, fun x H' y => hs i H x H' hlt p y⟩
  · have e : i = n := by omega
    subst e
    exact .inl ⟨hst H p, hd H p⟩
/-! ### a def of the module that may be called by its name -/
structure Cal (P : Program) (w : World) (K : PySem.W.Frag) (mg : Str → Option Value) (base : Heap) (k : Nat) (x : Str) (sp : Sp) : Prop where
  ex : ∃ (f : Addr) (fd : FuncData) (ps : List Str), FnOk P w K mg base CX0 k f fd ps sp ∧ mg x = some (.ref f) ∧ PySem.W.keepIn K (.ref f) = true ∧ Binds K fd ps []
section
variable {X : Cx} {k j : Nat} {x : Str} {sp : Sp} {p pos : Pos} {e : Expr} {es : List Expr} {t : TA}
theorem pe_cl (c : Cal X.prog X.w X.K X.mg X.base k x sp) (hr : Room j X.A) (hk : k ≤ j) (hg : Gl X x) (ha : PA X (e :: es) t)
    (hdb : (x == ("__debug__" : Str)) = false := by decide) (he : starEach (e :: es) X.env = (false, eval e X.env) :: starEach es X.env := by rfl) (hpl : (backTo pos (starEach es X.env)).any (·.1) = false := by rfl) : PE X (.Call (.Name x p) (e :: es) [] pos) (tCall sp [] E0 t) := by
  obtain ⟨f, fd, ps, F, hm, kp, b⟩ := c.ex
  exact pe_call F (hr.mono hk) hg hm kp b .nil pass0 ha hdb he hpl
end
structure CalK (P : Program) (w : World) (K : PySem.W.Frag) (mg : Str → Option Value) (base : Heap) (k : Nat) (x : Str) (n : Nat) (ks : List Str) (gV : List V → List V → List V) (sp : Sp) : Prop where
  ex : ∃ (f : Addr) (fd : FuncData) (ps : List Str) (g : List Value → List Value → List Value), FnOk P w K mg base CX0 k f fd ps sp ∧ mg x = some (.ref f) ∧ PySem.W.keepIn K (.ref f) = true ∧ KBn K fd ps n ks g gV
section
variable {X : Cx} {k j n : Nat} {x : Str} {sp : Sp} {ks : List Str} {gV : List V → List V → List V} {p pos : Pos} {e : Expr} {es : List Expr} {kws : List Keyword} {t tk : TA}
theorem pe_clK (c : CalK X.prog X.w X.K X.mg X.base k x n ks gV sp) (hr : Room j X.A) (hk : k ≤ j) (hg : Gl X x) (ha : PA X (e :: es) t) (hkw : PK X kws tk)
    (hall : (backToKw pos (keywordEach kws X.env)).all (·.1.isSome) = true := by rfl) (hks : (backToKw pos (keywordEach kws X.env)).filterMap (·.1) = ks := by rfl) (hdb : (x == ("__debug__" : Str)) = false := by decide)
    (he : starEach (e :: es) X.env = (false, eval e X.env) :: starEach es X.env := by rfl) (hpl : ((backTo pos (starEach (e :: es) X.env)).any (·.1) || (backToKw pos (keywordEach kws X.env)).any (·.1.isNone)) = false := by rfl) :
    PE X (.Call (.Name x p) (e :: es) kws pos) (tCallN n ks.length sp gV E0 t tk) := by
  obtain ⟨f, fd, ps, g, F, hm, kp, b⟩ := c.ex
  exact pe_callN F (hr.mono hk) hg hm kp b pass0 ha hkw hall hks hdb he hpl
end
/-! ### heaps -/
/-- all but p stands -/
def SB (p : Addr) (H H' : Hp) : Prop := ∀ b o, b ≠ p → H b = some o → H' b = some o
theorem Same.sb {p : Addr} {H H' : Hp} (s : Same H H') : SB p H H' := fun b o _ h => s b o h
theorem SB.trans {p : Addr} {H H1 H2 : Hp} (a : SB p H H1) (b : SB p H1 H2) : SB p H H2 := fun c o n h => b c o n (a c o n h)
theorem SB.upd {p : Addr} {H H' : Hp} {o : HO} (s : SB p H H') : SB p H (upd H' p o) := fun b u n h => by
  rw [upd_ne n]
  exact s b u n h
theorem SB.same {p : Addr} {H H' : Hp} (s : SB p H H') (n : H p = none) : Same H H' := fun b o h => s b o (ne_of_none h n) h
theorem Same.mut {p : Addr} {H H' : Hp} {o : HO} (s : Same H H') (n : H p = none) : Same H (L2.upd H' p o) := fun b u h => by
  rw [upd_ne (ne_of_none h n)]
  exact s b u h
theorem SB.sq {K : PySem.W.Frag} {p a : Addr} {H H' : Hp} {xs : List V} (s : SB p H H') (n : a ≠ p) (h : SqL K H a xs) : SqL K H' a xs := by
  rcases h with (h | ⟨o, h⟩) | h
  · exact .inl (.inl (s _ _ n h))
  · exact .inl (.inr ⟨o, s _ _ n h⟩)
  · exact .inr h
theorem Same.sqT {K : PySem.W.Frag} {a : Addr} {H H' : Hp} {xs : List V} (s : Same H H') (h : SqT K H a xs) : SqT K H' a xs := by
  rcases h with (h | ⟨o, h⟩) | h
  · exact .inl (.inl (s _ _ h))
  · exact .inl (.inr ⟨o, s _ _ h⟩)
  · exact .inr h
theorem Same.sqK {b : Bool} {K : PySem.W.Frag} {a : Addr} {H H' : Hp} {xs : List V} (s : Same H H') (h : SqK b K H a xs) : SqK b K H' a xs := by
  cases b
  · exact Z.Same.sqT s h
  · exact s.seq h
theorem at_map {α : Type} {f : α → V} {xs : List α} {i : Nat} {x : α} (h : xs[i]? = some x) : atI (xs.map f) (i : Int) = some (f x) := atI_nat (by rw [List.getElem?_map, h]; rfl)
theorem of_map {α : Type} {f : α → V} {xs : List α} {i : Nat} {v : V} (h : (xs.map f)[i]? = some v) : ∃ x, xs[i]? = some x ∧ v = f x := by
  rw [List.getElem?_map] at h
  cases e : xs[i]? with
  | none => rw [e] at h; cases h
  | some x => rw [e] at h; exact ⟨x, rfl, (Option.some.inj h).symm⟩
end Z
set_option Elab.async false
set_option linter.all false
set_option maxRecDepth 100000
set_option maxHeartbeats 4000000
namespace Z
open PySem PySem.Spec PyProof.Rows L2
/-! ### data -/
def sqD (b : Bool) (ds : List PyData) : PyData := match b with
  | true => .list ds
  | false => .tuple ds
def intsD (b : Bool) (ns : List Int) : PyData := sqD b (ns.map PyData.int)
def matD (b : Bool) (rs : List (List Int)) : PyData := sqD b (rs.map (intsD b))
theorem dp_sq {b : Bool} {K : PySem.W.Frag} {H : Hp} {a : Addr} {xs : List V} {ds : List PyData} (h : SqK b K H a xs) (d : DpAll K H xs ds) : Dp K H (.ref a) (sqD b ds) := by
  cases b
  · exact .tup h d
  · exact .lst h d
theorem dpa_ints {K : PySem.W.Frag} {H : Hp} : ∀ ns : List Int, DpAll K H (ns.map V.int) (ns.map PyData.int)
  | [] => .nil
  | n :: r => .cons (.int n) (dpa_ints r)
theorem dp_ints {b : Bool} {K : PySem.W.Frag} {H : Hp} {a : Addr} {ns : List Int} (h : SqK b K H a (ns.map V.int)) : Dp K H (.ref a) (intsD b ns) := dp_sq h (dpa_ints ns)
/-- a matrix: a list (or tuple) of lists (or tuples) of ints, at ps -/
def Mat (b : Bool) (K : PySem.W.Frag) (H : Hp) (a : Addr) (ps : List Addr) (rs : List (List Int)) : Prop := SqK b K H a (ps.map V.ref) ∧ ps.length = rs.length ∧ ∀ (i : Nat) (p : Addr) (r : List Int), ps[i]? = some p → rs[i]? = some r → SqK b K H p (r.map V.int)
theorem Mat.mono {b : Bool} {K : PySem.W.Frag} {H H' : Hp} {a : Addr} {ps : List Addr} {rs : List (List Int)} (s : Same H H') (m : Mat b K H a ps rs) : Mat b K H' a ps rs := ⟨Z.Same.sqK s m.1, m.2.1, fun i p r h1 h2 => Z.Same.sqK s (m.2.2 i p r h1 h2)⟩
theorem dpa_mat {b : Bool} {K : PySem.W.Frag} {H : Hp} : ∀ (ps : List Addr) (rs : List (List Int)), ps.length = rs.length → (∀ (i : Nat) (p : Addr) (r : List Int), ps[i]? = some p → rs[i]? = some r → SqK b K H p (r.map V.int)) → DpAll K H (ps.map V.ref) (rs.map (intsD b))
  | [], [], _, _ => .nil
  | p :: ps, r :: rs, hl, h => .cons (dp_ints (h 0 p r rfl rfl)) (dpa_mat ps rs (by simpa using hl) fun i q s h1 h2 => h (i + 1) q s h1 h2)
theorem Mat.dp {b : Bool} {K : PySem.W.Frag} {H : Hp} {a : Addr} {ps : List Addr} {rs : List (List Int)} (m : Mat b K H a ps rs) : Dp K H (.ref a) (matD b rs) := dp_sq m.1 (dpa_mat ps rs m.2.1 m.2.2)
theorem lay_ints : ∀ ns : List Int, PyData.canLayAll0 (ns.map PyData.int) = true
  | [] => rfl
  | n :: r => by
    rw [List.map_cons, PyData.canLayAll0, lay_ints r]
    rfl
theorem dep_ints : ∀ ns : List Int, PyData.depthAll (ns.map PyData.int) = 0
  | [] => rfl
  | n :: r => by
    rw [List.map_cons, PyData.depthAll, dep_ints r]
    rfl
theorem shaped_ints (b : Bool) (ns : List Int) : SeqAt.shaped (intsD b ns) = true := by
  unfold SeqAt.shaped intsD
  cases b
  · show (PyData.canLayAll0 (ns.map PyData.int) && decide (PyData.depthAll (ns.map PyData.int) + 1 ≤ 64)) = true
    rw [lay_ints, dep_ints]
    rfl
  · show (PyData.canLayAll0 (ns.map PyData.int) && decide (PyData.depthAll (ns.map PyData.int) + 1 ≤ 64)) = true
    rw [lay_ints, dep_ints]
    rfl
theorem lay_mat (b : Bool) : ∀ rs : List (List Int), PyData.canLayAll0 (rs.map (intsD b)) = true
  | [] => rfl
  | n :: r => by
    rw [List.map_cons, PyData.canLayAll0, lay_mat b r, SeqAt.canLay_of_shaped (shaped_ints b n)]
    rfl
theorem dep_mat (b : Bool) : ∀ rs : List (List Int), PyData.depthAll (rs.map (intsD b)) ≤ 1
  | [] => Nat.zero_le _
  | n :: r => by
    rw [List.map_cons, PyData.depthAll]
    have h := dep_mat b r
    have h2 : (intsD b n).depth = 1 := by
      cases b
      · show PyData.depthAll (n.map PyData.int) + 1 = 1
        rw [dep_ints]
      · show PyData.depthAll (n.map PyData.int) + 1 = 1
        rw [dep_ints]
    omega
theorem shaped_mat (b : Bool) (rs : List (List Int)) : SeqAt.shaped (matD b rs) = true := by
  have h := dep_mat b rs
  unfold SeqAt.shaped matD
  cases b
  · show (PyData.canLayAll0 (rs.map (intsD false)) && decide (PyData.depthAll (rs.map (intsD false)) + 1 ≤ 64)) = true
    rw [lay_mat, decide_eq_true (by omega)]
    rfl
  · show (PyData.canLayAll0 (rs.map (intsD true)) && decide (PyData.depthAll (rs.map (intsD true)) + 1 ≤ 64)) = true
    rw [lay_mat, decide_eq_true (by omega)]
    rfl
theorem same2 {K : PySem.W.Frag} {H : Hp} {x y : V} {d : PyData} {R : PyData → PyData → Prop} (hx : Dp K H x d) (hy : Dp K H y d) (hs : SeqAt.shaped d = true) (q : R d d) : ∃ d' e', Dp K H x d' ∧ Dp K H y e' ∧ SeqAt.shaped d' = true ∧ SeqAt.shaped e' = true ∧ R d' e' := ⟨d, d, hx, hy, hs, hs, q⟩
theorem eqv_same {d : PyData} (hs : SeqAt.shaped d = true) : PyData.eqv d d = true := SeqAt.eqv_refl d (SeqAt.canLay_of_shaped hs)
/-! ### a target that is one of two kinds -/
def gOr (t u : TG) : TG := fun v σ H Q => t v σ H Q ∨ u v σ H Q
theorem pg_or {X : Cx} {e : Expr} {t u : TG} (h1 : PG X e t) (h2 : PG X e u) : PG X e (gOr t u) := by
  refine ⟨fun pins s σ H v uu Q I r hw => ?_⟩
  rcases hw with h | h
  · exact h1.run pins s σ H v uu Q I r h
  · exact h2.run pins s σ H v uu Q I r h
/-! ### isinstance of built-in kinds -/
theorem isi {K : PySem.W.Frag} {H : Hp} {x : V} {T c : String} {b : Bool} {R : Bool → Prop} (t : TyOf K H x (.type T)) (h : kitB T c = some b) (q : R b) : ∃ (x' c' : V) (t' u' : Value) (b' : Bool), [x, .ty c] = [x', c'] ∧ ClsV c' u' ∧ TyX K H x' t' ∧ PySem.W.kitOne K t' u' = some b' ∧ R b' :=
  ⟨x, .ty c, .type T, .type c, b, rfl, .ty c, .base t, kit_ty h, q⟩
/-! ### rules by the written part itself (within a comprehension's block) -/
section
variable {X : Cx} {K : PySem.W.Frag}
theorem ix_list_K (h : X.K = K) : IxR X (rIxL K) := by subst h; exact ix_list
theorem ix_tup_K (h : X.K = K) : IxR X (rIxT K) := by subst h; exact ix_tup
theorem ix_seq_K (h : X.K = K) : IxR X (rIx K) := by subst h; exact ix_seq
theorem call_len_seq_K (h : X.K = K) : CallR X (.builtin "len") (fun xs H Q => ∃ p ys, xs = [.ref p] ∧ (SqL K H p ys ∨ SqT K H p ys) ∧ Q (.int ys.length) H) := by subst h; exact call_len_seq
theorem call_list_of_K (h : X.K = K) : CallR X (.type "list") (fun xs H Q => ∃ p ys, xs = [.ref p] ∧ (SqL K H p ys ∨ SqT K H p ys) ∧ ∀ l, H l = none → Q (.ref l) (upd H l (.lst ys))) := by subst h; exact call_list_of
theorem call_tuple_of_K (h : X.K = K) : CallR X (.type "tuple") (fun xs H Q => ∃ p ys, xs = [.ref p] ∧ ((SqL K H p ys ∧ ∀ l, H l = none → Q (.ref l) (upd H l (.tup ys))) ∨ (SqT K H p ys ∧ Q (.ref p) H))) := by subst h; exact call_tuple_of
theorem op_in_seq_K (h : X.K = K) : OpR X (compareOp .In) (rIn K false) := by subst h; exact op_in_seq
theorem op_notIn_seq_K (h : X.K = K) : OpR X (compareOp .NotIn) (rIn K true) := by subst h; exact op_notIn_seq
theorem op_eqD_K (h : X.K = K) (hu : X.A.units + 64 < cLine) : OpR X (compareOp .Eq) (rEqD K) := by subst h; exact op_eqD hu
theorem op_neD_K (h : X.K = K) (hu : X.A.units + 64 < cLine) : OpR X (compareOp .NotEq) (rNeD K) := by subst h; exact op_neD hu
theorem call_isi_K (h : X.K = K) : CallR X (.builtin "isinstance") (rIsi K) := by subst h; exact call_isi
end
/-! ### great products -/
theorem big_mul {i j : Int} (hi : i.natAbs < 2 ^ 4000) (hj : j.natAbs < 2 ^ 4000) : CMulX i j := mulx_ok hi hj (by decide)
/-! ### sums of multiples of rows -/
def combN (rs : List (List Int)) (fs : List Int) (w : Nat) : Nat → List Int
  | 0 => List.replicate w 0
  | n + 1 => List.zipWith (fun a b => a + fs.getD n 0 * b) (combN rs fs w n) (rs.getD n [])
theorem combN_len {rs : List (List Int)} {fs : List Int} {w : Nat} (h : ∀ r ∈ rs, r.length = w) : ∀ n, n ≤ rs.length → (combN rs fs w n).length = w
  | 0, _ => List.length_replicate
  | n + 1, hn => by
    rw [combN, List.length_zipWith, combN_len h n (by omega), List.getD_eq_getElem?_getD, List.getElem?_eq_getElem (by omega), Option.getD_some, h _ (List.getElem_mem _)]
    omega
theorem combN_at {rs : List (List Int)} {fs : List Int} {w i c : Nat} (hi : i < rs.length) (hf : i < fs.length) (c1 : c < (combN rs fs w i).length) (c2 : c < rs[i].length) : (combN rs fs w (i + 1))[c]? = some ((combN rs fs w i)[c] + fs[i] * rs[i][c]) := by
  have g1 : fs.getD i 0 = fs[i] := by rw [List.getD_eq_getElem?_getD, List.getElem?_eq_getElem hf]; rfl
  have g2 : rs.getD i [] = rs[i] := by rw [List.getD_eq_getElem?_getD, List.getElem?_eq_getElem hi]; rfl
  rw [combN, List.getElem?_zipWith, g1, g2, List.getElem?_eq_getElem c1, List.getElem?_eq_getElem c2]
end Z
set_option Elab.async false
set_option linter.all false
set_option maxRecDepth 100000
set_option maxHeartbeats 4000000
namespace Z
open PySem PySem.Spec PyProof.Rows L2
open C8 (pss_cut tCut)
local macro_rules | `(tactic| walk_at "num") => `(tactic| first | omega | decide | exact ⟨by omega, by omega⟩ | exact ⟨by omega, by omega, by omega⟩ | exact ⟨by decide, by decide, by decide⟩ | exact Or.inl ⟨by omega, by omega⟩ | exact Or.inr ⟨by omega, by omega⟩)
local macro_rules | `(tactic| walk_at "go") => `(tactic| repeat (first | refine ⟨_, rfl, ?_⟩ | refine ⟨_, _, rfl, rfl, ?_⟩ | refine ⟨_, _, rfl, rfl, (by walk_at "num"), ?_⟩ | refine Or.inl ⟨_, rfl, ?_⟩ | refine ⟨rfl, ?_⟩ | refine And.intro (by walk_at "num") ?_))
def topS (i : Nat) : Stmt := PySem.Challenge.pw_signedpacts_k77_views.main.body.getD i (.Pass ⟨0, 0, 0, 0⟩)
abbrev s_cell : Stmt := topS 16
abbrev N_cell : List Str := ["_law_script", "_law_k"]
abbrev P_cell : List Str := ["_law_script", "_law_k"]
theorem sc_cell : FnScope N_cell P_cell (defScope s_cell) := ⟨rfl, rfl, rfl, by decide +kernel, rfl, by decide +kernel, by decide +kernel⟩
abbrev s_draws : Stmt := topS 17
abbrev N_draws : List Str := ["_law_cell_here", "_law_many", "_law_rest", "_law_large", "_law_seed", "_law_found", "_law_k"]
abbrev P_draws : List Str := ["_law_cell_here", "_law_many"]
theorem sc_draws : FnScope N_draws P_draws (defScope s_draws) := ⟨rfl, rfl, rfl, by decide +kernel, rfl, by decide +kernel, by decide +kernel⟩
abbrev s_take : Stmt := topS 18
abbrev N_take : List Str := ["_law_draws_here", "_law_place"]
abbrev P_take : List Str := ["_law_draws_here", "_law_place"]
theorem sc_take : FnScope N_take P_take (defScope s_take) := ⟨rfl, rfl, rfl, by decide +kernel, rfl, by decide +kernel, by decide +kernel⟩
abbrev FnP (K : PySem.W.Frag) (x : Str) (st : Stmt) (f : Addr) (fd : FuncData) : Prop := FunD K x x (defArgs st) (defBody st) (defScope st) [] [] f fd
section
variable {P : Program} {w : World} {K : PySem.W.Frag} {mg : Str → Option Value} {base : Heap} {f : Addr} {fd : FuncData}
theorem cal_of {k : Nat} {x : Str} {st : Stmt} {ps : List Str} {sp : Sp} (F : FnP K x st f fd) (g : mg x = some (.ref f)) (b : Binds K fd ps []) (h : FnOk P w K mg base CX0 k f fd ps sp) : Cal P w K mg base k x sp := ⟨f, fd, ps, h, g, F.kp, b⟩
/-! ### _law_cell -/
def spCell (K : PySem.W.Frag) : Sp := fun vs H Q _ => ∃ (a : Addr) (ns : List Int) (k : Nat), vs = [.ref a, .int (k : Int)] ∧ SqL K H a (ns.map V.int) ∧ Q (.int (ns.getD k 0)) H
theorem ok_cell (F : FnP K "_law_cell" s_cell f fd) (m_len : mg "len" = none) (m_int : mg "int" = none) : FnOk P w K mg base CX0 1 f fd P_cell (spCell K) := by
  refine F.ok sc_cell (fun vs H Q E h => ?_) (fun cdv A outer s H vs Q E hr h => ?_)
  · obtain ⟨a, ns, k, rfl, _⟩ := h
    rfl
  · obtain ⟨a, ns, k, rfl, hS, q⟩ := h
    refine ⟨_, PSs.nox (pss_cons (ps_if (pt_cmpR op_lt (pv 1) (pe_callB call_len_seq (by rfl) m_len PySem.boot_len (pa_cons (pv 0) pa_nil)) (nomark _)) (pss_one (ps_ret (pe_callTy call_int1 (by rfl) m_int (by decide +kernel) (pa_cons (pe_ix ix_list (pv 0) (pv 1) (fun _ _ => rfl)) pa_nil)))) pss_nil)
      (pss_one (ps_ret pe_int))), ?_⟩
    walk_at "go"
    refine ⟨a, _, rfl, .inl hS, ?_⟩
    walk_at "go"
    rw [List.length_map]
    refine ite2 (fun e => ?_) (fun e => ?_)
    · have hk : k < ns.length := by have := of_decide_eq_true e; omega
      walk_at "go"
      refine ⟨a, _, _, _, rfl, rfl, hS, at_map (List.getElem?_eq_getElem hk), ?_⟩
      walk_at "go"
      rw [List.getD_eq_getElem?_getD, List.getElem?_eq_getElem hk] at q
      exact q
    · have hk : ¬ k < ns.length := fun z => e (decide_eq_true (by omega))
      rw [List.getD_eq_getElem?_getD, List.getElem?_eq_none (by omega)] at q
      exact q
/-! ### _law_draws -/
def Dr (n : Nat) (ds : List Int) : Prop := ds.length = n ∧ ∀ d ∈ ds, 0 ≤ d ∧ d < 1000000
def spDraws : Sp := fun vs H Q _ => ∃ (c : Int) (n : Nat), vs = [.int c, .int (n : Int)] ∧ n ≤ 100000 ∧ ∀ p ds, H p = none → Dr n ds → Q (.ref p) (upd H p (.lst (ds.map V.int)))
theorem ok_draws (F : FnP K "_law_draws" s_draws f fd) (m_int : mg "int" = none) (m_abs : mg "abs" = none) (m_range : mg "range" = none) : FnOk P w K mg base CX0 1 f fd P_draws spDraws := by
  refine F.ok sc_draws (fun vs H Q E h => ?_) (fun cdv A outer s H vs Q E hr h => ?_)
  · obtain ⟨c, n, rfl, _⟩ := h
    rfl
  · obtain ⟨c, n, rfl, hn, q⟩ := h
    refine ⟨_, PSs.nox (pss_cons (ps_set (i := 2) sc_draws.nd rfl (by first | exact .inl rfl | exact .inr rfl) (pe_callB call_abs (by rfl) m_abs (by decide +kernel) (pa_cons (pe_callTy call_int1 (by rfl) m_int (by decide +kernel) (pa_cons (pv 0) pa_nil)) pa_nil)))
      (pss_cons (ps_set (i := 3) sc_draws.nd rfl (by first | exact .inl rfl | exact .inr rfl) (pe_cmpR op_ge (pv 2) (pe_op op_pow pe_int pe_int) (nomark _)))
      (pss_cons (ps_set (i := 4) sc_draws.nd rfl (by first | exact .inl rfl | exact .inr rfl) (pe_op op_mod (pe_callTy call_int1 (by rfl) m_int (by decide +kernel) (pa_cons (pv 2) pa_nil)) pe_int))
      (pss_cons (ps_set (i := 5) sc_draws.nd rfl (by first | exact .inl rfl | exact .inr rfl) (pe_lst pa_nil))
      (pss_cons (ps_for PassesOwn.never rfl (pi_range1 (by rfl) m_range (pa_cons (pv 1) pa_nil)) (pg_name (i := 6) sc_draws.nd rfl (by first | exact .inl rfl | exact .inr rfl))
        (pss_cons (ps_set (i := 4) sc_draws.nd rfl (by first | exact .inl rfl | exact .inr rfl) (pe_op op_mod (pe_callTy call_int1 (by rfl) m_int (by decide +kernel) (pa_cons (pe_op op_add (pe_op op_add (pe_op op_mul (pv 4) pe_int) (pe_op op_mul pe_int (pv 6))) pe_int) pa_nil)) pe_int))
      (pss_one (ps_if (PW.pt (pw_and (pt_val (pv 3)) (pw_and1 (pt_cmpR op_gt (pv 2) pe_int (nomark _))))) (pss_cons (ps_expr (pe_bm PySem.F.plainAttrs_list PySem.F.slot_list_append PySem.F.type_list_append mt_append (pv 5) (pa_cons (pe_op op_mod (pe_callTy call_int1 (by rfl) m_int (by decide +kernel) (pa_cons (pv 2) pa_nil)) pe_int) pa_nil)))
      (pss_one (ps_set (i := 2) sc_draws.nd rfl (by first | exact .inl rfl | exact .inr rfl) (pe_op op_fdiv (pv 2) pe_int)))) (pss_one (ps_expr (pe_bm PySem.F.plainAttrs_list PySem.F.slot_list_append PySem.F.type_list_append mt_append (pv 5) (pa_cons (pe_op op_mod (pe_callTy call_int1 (by rfl) m_int (by decide +kernel) (pa_cons (pe_op op_fdiv (pe_op op_mod (pe_callTy call_int1 (by rfl) m_int (by decide +kernel) (pa_cons (pe_op op_add (pe_op op_mul (pv 4) pe_int) (pe_op op_mul pe_int (pv 6))) pa_nil)) pe_int) pe_int) pa_nil)) pe_int) pa_nil))))))))
      (pss_one (ps_ret (pv 5)))))))), ?_⟩
    walk_at "go"
    intro p np
    walk_at "go"
    refine for_gen (n := n) (fun i σ H1 => ∃ (r : Int) (z : Int) (ds : List Int) (v : Option V), 0 ≤ r ∧ 0 ≤ z ∧ z < 2147483647 ∧ Dr i ds ∧ H1 = upd H p (.lst (ds.map V.int)) ∧
      σ = [some (.int c), some (.int (n : Int)), some (.int r), some (.bl (decide ((10 : Int) ^ 18 ≤ (if c < 0 then -c else c)))), some (.int z), some (.ref p), v]) ?_ ?_ ?_ ?_ ?_
    · refine ⟨_, _, [], none, ?_, ?_, ?_, ⟨rfl, fun d hd => nomatch hd⟩, rfl, rfl⟩
      · split <;> omega
      · omega
      · omega
    · intro i σ H1 hi _
      show i < (n : Int).toNat
      omega
    · intro σ H1 _
      show (n : Int).toNat ≤ n
      omega
    · rintro i σ H1 x H' hi ⟨r, z, ds, v, hr0, hz0, hz1, hd, rfl, rfl⟩ ⟨rfl, rfl⟩
      have hlen : (ds.map V.int).length < sizeLine := by
        rw [List.length_map, hd.1]
        exact Nat.lt_of_lt_of_le hi (Nat.le_trans hn (by decide))
      have fin : ∀ (r' z' d : Int) (u : Option V), 0 ≤ r' → 0 ≤ z' → z' < 2147483647 → 0 ≤ d → d < 1000000 → ∃ (r : Int) (z : Int) (es : List Int) (v : Option V), 0 ≤ r ∧ 0 ≤ z ∧ z < 2147483647 ∧ Dr (i + 1) es ∧ upd (upd H p (.lst (ds.map V.int))) p (.lst (ds.map V.int ++ [.int d])) = upd H p (.lst (es.map V.int)) ∧
          [some (.int c), some (.int (n : Int)), some (.int r'), some (.bl (decide ((10 : Int) ^ 18 ≤ (if c < 0 then -c else c)))), some (.int z'), some (.ref p), u] = [some (.int c), some (.int (n : Int)), some (.int r), some (.bl (decide ((10 : Int) ^ 18 ≤ (if c < 0 then -c else c)))), some (.int z), some (.ref p), v] := by
        intro r' z' d u a1 a2 a3 a4 a5
        refine ⟨r', z', ds ++ [d], u, a1, a2, a3, ⟨by rw [List.length_append, hd.1]; rfl, fun x hx => ?_⟩, ?_, rfl⟩
        · rcases List.mem_append.mp hx with h | h
          · exact hd.2 x h
          · rw [List.mem_singleton.mp h]
            exact ⟨a4, a5⟩
        · rw [upd_upd, List.map_append]
          rfl
      walk_at "go"
      refine ite2 (fun e => ?_) (fun e => ?_)
      · walk_at "go"
        refine ite2 (fun e2 => ?_) (fun e2 => ?_)
        · walk_at "go"
          refine ⟨.inl ⟨rfl, _, .inl (.inl upd_same)⟩, ?_⟩
          walk_at "go"
          refine ⟨_, _, _, rfl, rfl, upd_same, hlen, ?_⟩
          walk_at "go"
          exact fin _ _ _ _ (by omega) (by omega) (by omega) (by omega) (by omega)
        · walk_at "go"
          refine ⟨.inl ⟨rfl, _, .inl (.inl upd_same)⟩, ?_⟩
          walk_at "go"
          refine ⟨_, _, _, rfl, rfl, upd_same, hlen, ?_⟩
          walk_at "go"
          exact fin _ _ _ _ (by omega) (by omega) (by omega) (by omega) (by omega)
      · walk_at "go"
        refine ⟨.inl ⟨rfl, _, .inl (.inl upd_same)⟩, ?_⟩
        walk_at "go"
        refine ⟨_, _, _, rfl, rfl, upd_same, hlen, ?_⟩
        walk_at "go"
        exact fin _ _ _ _ (by omega) (by omega) (by omega) (by omega) (by omega)
    · rintro σ H1 ⟨r, z, ds, v, hr0, hz0, hz1, hd, rfl, rfl⟩
      walk_at "go"
      exact q p ds np hd
/-! ### _law_take -/
def spTake (K : PySem.W.Frag) : Sp := fun vs H Q _ => ∃ (a p : Addr) (n m : Nat) (ds : List Int), vs = [.ref a, .ref p] ∧ SqL K H a (ds.map V.int) ∧ Dr n ds ∧ H p = some (.lst [.int (m : Int)]) ∧ a ≠ p ∧ ∀ r : Int, 0 ≤ r → r < 1000000 → Q (.int r) (upd H p (.lst [.int ((m + 1 : Nat) : Int)]))
theorem ok_take (F : FnP K "_law_take" s_take f fd) (m_len : mg "len" = none) : FnOk P w K mg base CX0 1 f fd P_take (spTake K) := by
  refine F.ok sc_take (fun vs H Q E h => ?_) (fun cdv A outer s H vs Q E hr h => ?_)
  · obtain ⟨a, p, n, m, ds, rfl, _⟩ := h
    rfl
  · obtain ⟨a, p, n, m, ds, rfl, hS, hd, hp, ne, q⟩ := h
    refine ⟨_, PSs.nox (pss_cons (ps_asg (pe_op op_add (pe_ix ix_list (pv 1) pe_int (fun _ _ => rfl)) pe_int) (pg_sub (pv 1) pe_int set_list))
      (pss_cons (ps_if (pt_cmpR op_gt (pe_ix ix_list (pv 1) pe_int (fun _ _ => rfl)) (pe_callB call_len_seq (by rfl) m_len PySem.boot_len (pa_cons (pv 0) pa_nil)) (nomark _)) (pss_one (ps_ret pe_int)) pss_nil)
      (pss_one (ps_ret (pe_ix ix_list (pv 0) (pe_op op_sub (pe_ix ix_list (pv 1) pe_int (fun _ _ => rfl)) pe_int) (fun _ _ => rfl)))))), ?_⟩
    have sb : SB p H (upd H p (.lst [.int ((m + 1 : Nat) : Int)])) := SB.upd (Z.Same.sb (Same.refl H))
    have hS' := sb.sq ne hS
    walk_at "go"
    refine ⟨p, _, 0, _, rfl, rfl, SqL.of hp, rfl, ?_⟩
    walk_at "go"
    refine ⟨p, _, 0, 0, rfl, rfl, hp, rfl, ?_⟩
    show tSeq _ _ _ _ (upd H p (.lst [.int ((m : Int) + 1)]))
    rw [show ((m : Int) + 1) = ((m + 1 : Nat) : Int) by omega]
    walk_at "go"
    refine ⟨p, _, 0, _, rfl, rfl, SqL.of upd_same, rfl, ?_⟩
    walk_at "go"
    refine ⟨a, _, rfl, .inl hS', ?_⟩
    walk_at "go"
    rw [List.length_map]
    refine ite2 (fun e => ?_) (fun e => ?_)
    · exact q 0 (by omega) (by omega)
    · have hk : m < ds.length := by
        apply Decidable.byContradiction
        intro z
        exact e (decide_eq_true (by omega))
      walk_at "go"
      refine ⟨p, _, 0, _, rfl, rfl, SqL.of upd_same, rfl, ?_⟩
      walk_at "go"
      refine ⟨a, _, _, _, rfl, rfl, hS', at_of (by omega) (show (ds.map V.int)[m]? = some (.int ds[m]) by rw [List.getElem?_map, List.getElem?_eq_getElem hk]; rfl), ?_⟩
      have h1 := hd.2 ds[m] (List.getElem_mem hk)
      exact q _ h1.1 h1.2
end
end Z
set_option Elab.async false
set_option linter.all false
set_option maxRecDepth 100000
set_option maxHeartbeats 4000000
namespace Z
open PySem PySem.Spec PyProof.Rows L2
/-! ### own classes: making, methods, calls of instances, == -/
structure Mak (P : Program) (w : World) (K : PySem.W.Frag) (mg : Str → Option Value) (base : Heap) (k : Nat) (x : Str) (sp : Sp) : Prop where
  ex : ∃ (C f : Addr) (fd : FuncData) (ps : List Str) (si : Sp), Mk K C f ∧ FnOk P w K mg base CX0 k f fd ps si ∧ mg x = some (.ref C) ∧ Binds K fd ps [] ∧
    ∀ vs H Q E, sp vs H Q E → ∀ n dx, H n = none → H dx = none → dx ≠ n → si (.ref n :: vs) (upd (upd H dx (.own n)) n (.ins C dx [])) (fun v H2 => v = .non ∧ Q (.ref n) H2) E
structure Met (P : Program) (w : World) (K : PySem.W.Frag) (mg : Str → Option Value) (base : Heap) (k : Nat) (C : Addr) (m : Str) (sp : Sp) : Prop where
  ex : ∃ (f : Addr) (fd : FuncData) (ps : List Str), Cls K C ∧ Meth K C m f ∧ FnOk P w K mg base CX0 k f fd ps sp ∧ Binds K fd ps []
section
variable {X : Cx} {k j : Nat} {x m : Str} {sp : Sp} {C : Addr} {p pos apos : Pos} {e o : Expr} {es : List Expr} {t : TA} {ta : TE}
theorem pe_mk (c : Mak X.prog X.w X.K X.mg X.base k x sp) (hr : Room j X.A) (hk : k + 1 ≤ j) (hg : Gl X x) (ha : PA X (e :: es) t)
    (hdb : (x == ("__debug__" : Str)) = false := by decide) (he : starEach (e :: es) X.env = (false, eval e X.env) :: starEach es X.env := by rfl) (hpl : (backTo pos (starEach es X.env)).any (·.1) = false := by rfl) : PE X (.Call (.Name x p) (e :: es) [] pos) (tCall sp [] E0 t) := by
  obtain ⟨C, f, fd, ps, si, M, F, hm, b, imp⟩ := c.ex
  constructor
  intro pins s σ H Q I h
  refine wpAny_Call_Name_kw (ld_glob I hg hm ?_ hdb)
  refine PySem.W.callWith_K (h₀ := X.base) I.ok.mod.kin M.kp (thn (ha.run pos pins s σ H _ I h) fun us s1 ⟨vs, H1, I1, r, q⟩ => ⟨I1.kIn, ?_⟩) he hpl
  have q2 : sp vs H1 Q E0 := by
    have z : sp (vs ++ []) H1 Q E0 := q
    rw [List.append_nil] at z
    exact z
  refine run_make (dvs := []) M F (hr.mono hk) b .nil pass0 I1 r (fun n dx n1 n2 n3 => ?_)
  rw [List.append_nil]
  exact imp _ _ _ _ q2 n dx n1 n2 n3
theorem pe_me {pl : Sem Bool} (c : Met X.prog X.w X.K X.mg X.base k C m sp) (he : PE X o ta) (hr : Room j X.A) (hk : k ≤ j) (ha : PA X (e :: es) t)
    (hst : starEach (e :: es) X.env = (false, eval e X.env) :: starEach es X.env := by rfl) (hpl : (backTo pos (starEach es X.env)).any (·.1) = false := by rfl)
    (ht : eval (.Call (.Attribute o m apos) (e :: es) [] pos) X.env = (do
      let ov ← eval o X.env
      standAt apos.atName
      let (f, first) ← holding [ov] (getMethod ov m pl)
      callWith pos f first (backTo pos (starEach (e :: es) X.env)) (backToKw pos (keywordEach [] X.env))) := by rfl) : PE X (.Call (.Attribute o m apos) (e :: es) [] pos) (tMeth C m sp [] E0 ta t) := by
  obtain ⟨f, fd, ps, cl, me, F, b⟩ := c.ex
  exact pe_meth he cl me F (hr.mono hk) b .nil pass0 ha hst hpl ht
theorem pe_me0 {pl : Sem Bool} (c : Met X.prog X.w X.K X.mg X.base k C m sp) (he : PE X o ta) (hr : Room j X.A) (hk : k ≤ j)
    (ht : eval (.Call (.Attribute o m apos) [] [] pos) X.env = (do
      let ov ← eval o X.env
      standAt apos.atName
      let (f, first) ← holding [ov] (getMethod ov m pl)
      callWith pos f first (backTo pos (starEach [] X.env)) (backToKw pos (keywordEach [] X.env))) := by rfl) : PE X (.Call (.Attribute o m apos) [] [] pos) (tMeth C m sp [] E0 ta tNil) := by
  obtain ⟨f, fd, ps, cl, me, F, b⟩ := c.ex
  exact pe_meth0 he cl me F (hr.mono hk) b .nil pass0 ht
end
/-! ### f(e, ..), f an instance of C -/
structure Cob (P : Program) (w : World) (K : PySem.W.Frag) (mg : Str → Option Value) (base : Heap) (k : Nat) (C : Addr) (sp : Sp) : Prop where
  ex : ∃ g : Addr, StX.CallO K C g ∧ FnR P w K mg base CX0 k g sp
def tCo (C : Addr) (sp : Sp) (tf : TE) (t : TA) : TE := fun σ H Q => tf σ H fun y H1 => ∃ a, y = V.ref a ∧ t σ H1 fun vs H2 => (∃ dx fs, H2 a = some (.ins C dx fs)) ∧ sp (V.ref a :: vs) H2 Q E0
section
variable {X : Cx} {k j : Nat} {sp : Sp} {C : Addr} {pos : Pos} {e fe : Expr} {es : List Expr} {t : TA} {tf : TE}
theorem pe_co (c : Cob X.prog X.w X.K X.mg X.base k C sp) (hf : PE X fe tf) (hr : Room j X.A) (hk : k ≤ j) (ha : PA X (e :: es) t)
    (ht : eval (.Call fe (e :: es) [] pos) X.env = (do callWith pos (← eval fe X.env) [] (backTo pos (starEach (e :: es) X.env)) (backToKw pos (keywordEach [] X.env))) := by rfl)
    (he : starEach (e :: es) X.env = (false, eval e X.env) :: starEach es X.env := by rfl) (hpl : (backTo pos (starEach es X.env)).any (·.1) = false := by rfl) : PE X (.Call fe (e :: es) [] pos) (tCo C sp tf t) := by
  obtain ⟨g, co, F⟩ := c.ex
  constructor
  intro pins s σ H Q I h
  refine Call_ (thn (hf.run pins s σ H _ I h) fun u s1 ⟨y, H1, I1, ry, a, ey, q⟩ => ?_) ht
  subst ey
  obtain rfl : u = Value.ref a := ry
  refine StX.callO_with (thn (ha.run pos pins s1 σ H1 _ I1 q) fun us s2 ⟨vs, H2, I2, r, hi, q2⟩ => ?_) he hpl
  have hi2 : StX.InsC X H2 a C := .inr hi
  obtain ⟨ox, od, J, hd⟩ := StX.insC_at I2 hi2
  exact ⟨⟨C, ox, od, J, hd⟩, StX.run_callO co F (hr.mono hk) pass0 I2 hi2 r q2⟩
end
/-! ### a == b by the class's own __eq__ -/
structure Eqo (P : Program) (w : World) (K : PySem.W.Frag) (mg : Str → Option Value) (base : Heap) (k : Nat) (C : Addr) (sp : Sp) : Prop where
  ex : ∃ (f : Addr) (fd : FuncData) (ps : List Str), FnOk P w K mg base CX0 k f fd ps sp ∧ PySem.W.findIn K (.ref C) "__eq__" = some (some (.ref f)) ∧ PySem.W.isFn K (.ref f) = true ∧ Binds K fd ps []
def rOwn (C : Addr) (sp : Sp) : R2 := fun x y H Q => ∃ a b dx dy fs gs, x = .ref a ∧ y = .ref b ∧ H a = some (.ins C dx fs) ∧ H b = some (.ins C dy gs) ∧ sp [.ref a, .ref b] H (fun v H' => ∃ r, v = .bl r ∧ Q v H') E0
theorem op_own {X : Cx} {k j : Nat} {C : Addr} {sp : Sp} (c : Eqo X.prog X.w X.K X.mg X.base k C sp) (hr : Room j X.A) (hk : k ≤ j) : OpR X (compareOp .Eq) (rOwn C sp) := by
  intro pins s σ H x y v u Q I rx ry hq
  obtain ⟨f, fd, ps, F, hs, hf, hb⟩ := c.ex
  obtain ⟨a, b, dx, dy, fs, gs, rfl, rfl, ha, hb', q⟩ := hq
  cases rx
  cases ry
  obtain ⟨mA, J, _⟩ := ins_get I.hok ha
  obtain ⟨mB, J', _⟩ := ins_get I.hok hb'
  obtain ⟨od, J, _⟩ := J.look
  obtain ⟨od', J', _⟩ := J'.look
  obtain ⟨m, hF⟩ := I.fr
  show wpAny (model X.prog X.w) X.A (richCompare .Eq (Value.ref a) (Value.ref b)) (EP X pins σ Q) X.xe s
  refine PySem.W.cmp_K (op := .Eq) (tb := .ref C) (hr.mono hk).units0 hF I.ok.mod.kin J J'.type (by simp [PySem.W.notFirst]) hs hf ?_
  have r2 : Vals [V.ref a, V.ref b] [Value.ref a, Value.ref b] := .cons rfl (.cons rfl .nil)
  refine thn (run_fn (dvs := []) F (hr.mono hk) hb .nil pass0 I r2 q) fun r s' z => ?_
  obtain ⟨v, H', I', rv, b', rfl, q'⟩ := z
  cases rv
  exact ⟨.bl b', H', I', rfl, q'⟩
end Z
set_option Elab.async false
set_option linter.all false
set_option maxRecDepth 100000
set_option maxHeartbeats 4000000
namespace Z
open PySem PySem.Spec PyProof.Rows L2 NdefX
/-! ### an own exception whose __init__ begins with super().__init__(..) -/
/-- what the written part says of it: the function f of the class C (cell cc, code c) -/
structure SupK (P : Program) (K : PySem.W.Frag) (C f c cc : Addr) (fd : FuncData) : Prop where
  lk : ∃ oc od osl, K.lookup f = some ⟨oc, od, .func fd, osl⟩
  code : ∃ (ccl : Value) (cdd : Option Addr) (vs : Array Value) (ccs : Array (Option Value)) (file : Str) (tf : Tok), K.lookup c = some ⟨ccl, cdd, .fields vs, ccs⟩ ∧ vs[2]? = some (.str file tf) ∧ ((P.main.file : Str) == file) = true
  cell : ∃ cl cld csl, K.lookup cc = some ⟨cl, cld, .cell (some (.ref C)), csl⟩
  top : (P.main.scope.names.lookup ("super" : Str)).isSome = false
  mro : PySem.W.mroIn K C (.ref C) = some true
  opq : PySem.W.nsIn K cStatics "thirdparty.any" = some none
  ini : PySem.W.ks_superIn K C C "__init__" = some (some (.builtin "ValueError.__init__"))
  sub : PySem.W.subIn K (.ref C) (.type "ValueError") = some true
  exi : PySem.W.excInitIn K C He.veBase "ValueError.__new__" = true
  oex : OexC K C
section
variable {CX : CXT} {P : Program} {w : World} {K : PySem.W.Frag} {mg : Str → Option Value} {base : Heap} {N ps : List Str} {F : NF} {f C a cc : Addr} {A : Around} {outer : List Env} {s0 s : Shared} {H0 H : Hp} {E : XK} {σ : L2.St}
/-- the bound __init__ called -/
theorem call_mw {X : Cx} {pins : List (Addr × Obj)} {u : Addr} {us : List Value} {Q : Value → Shared → Prop} {E : Value → Shared → Prop} {A : Around} (S : SupK X.prog X.K C f c cc fd) (I : Inv X ((u, PySem.W.kxs_mw "ValueError.__init__" a) :: pins) σ H s) (e : H a = some (exo a C none)) (hz : us.length ≤ sizeLine)
    (h : ∀ s', Inv X ((u, PySem.W.kxs_mw "ValueError.__init__" a) :: pins) σ H s' → Q .none s') : wpAny (model X.prog X.w) A (call (.ref u) us) Q E s := by
  have FB := F.excBase_ValueError
  obtain ⟨nm, N', qn, bs, bm, hdct, sn, sub, ab, col, dd, k0, k1, k2, k3, k5, hC, hT⟩ := PySem.W.excInit_of I.kIn S.exi
  have hu := (I.pin (u, PySem.W.kxs_mw "ValueError.__init__" a) (List.mem_append_right _ (List.mem_cons_self ..))).1
  obtain ⟨t1, he⟩ := exo_at I.hok e
  obtain ⟨hh, g, d, tk, os⟩ := s
  refine wpAny_call (codeAny_of_tree ?_)
  show wpAny _ A.in1 (callAny (.ref u) ⟨us, []⟩) _ _ _
  simp only [callAny]
  refine wpAny_bind (wpAny_load hu ?_)
  simp only [PySem.W.kxs_mw, show (Value.type "method-wrapper" == Value.type "method" || Value.type "method-wrapper" == Value.type "builtin_function_or_method" || Value.type "method-wrapper" == Value.type "method-wrapper") = true by decide, if_true]
  refine PySem.W.KFB.if_so (by decide) ?_
  refine wpAny_bind (PySem.W.check_bound_init FB.toExcCallFacts hC he rfl ?_)
  refine wpAny_bind (wpAny_pure (wpAny_pure ?_))
  refine ⟨plainId_quiet FB.init.plain _, codeAny_builtin FB.initEntry ?_⟩
  refine PySem.W.exc_init_tree (cls := .ref C) (t0 := t1) (dv := none) (c2 := .none) (c3 := .none) (b4 := .bool false) he hz fun h' k hx _ => ?_
  have J := I.write (t' := tk) (x := a) (e := a) (o := exo a C none) (by rw [e]; exact True.intro) (.inl rfl) k ⟨_, hx⟩ (exo_ok hx)
  have eu : upd H a (exo a C none) = H := by
    funext b
    by_cases hb : b = a
    · rw [hb, upd_same, e]
    · rw [upd_ne hb]
  rw [eu] at J
  exact h _ J
/-- super().__init__(e, ..), the first statement -/
theorem super_first {pl : Sem Bool} {fd : FuncData} {ar : Arg} {t : TA} {e : Expr} {es : List Expr} {p0 p1 p2 pos pos2 : Pos} {Qn : Hp → Prop} (S : SupK P K C f F.c cc fd) (hcl : F.cl = [(("__class__" : Str), cc)]) (hp : (fd.params.posonlyargs ++ fd.params.args).head? = some ar)
    (hks : F.scope.names.lookup ("super" : Str) = some .globalImplicit) (hkc : F.scope.names.lookup ("__class__" : Str) = some .free) (hka : F.scope.names.lookup ar.arg = some .local) (hk : F.scope.kind = .function) (m_super : mg "super" = none)
    (hN : N[0]? = some ar.arg) (ha : PA (ncx CX P w K mg base N F f A outer s0 H0 E) (e :: es) t) (I : Inv (ncx CX P w K mg base N F f A outer s0 H0 E) [] σ H s) (hs : σ[0]? = some (some (.ref a))) (hx : H a = some (exo a C none))
    (ht : t σ H fun vs H1 => vs.length ≤ 1000 ∧ H1 a = some (exo a C none) ∧ Qn H1)
    (hint : interactive (ncx CX P w K mg base N F f A outer s0 H0 E).env = false := by rfl) (hsw : swapsWith (.Call (.Attribute (.Call (.Name "super" p0) [] [] p1) "__init__" p2) (e :: es) [] pos) none pos2.line (ncx CX P w K mg base N F f A outer s0 H0 E).env = pure false := by rfl)
    (hev : eval (.Call (.Attribute (.Call (.Name "super" p0) [] [] p1) "__init__" p2) (e :: es) [] pos) (ncx CX P w K mg base N F f A outer s0 H0 E).env = (do
      let ov ← attributeBase (.Call (.Name "super" p0) [] [] p1) "__init__" (ncx CX P w K mg base N F f A outer s0 H0 E).env (eval (.Call (.Name "super" p0) [] [] p1) (ncx CX P w K mg base N F f A outer s0 H0 E).env)
      standAt p2.atName
      let (g, first) ← holding [ov] (getMethod ov "__init__" pl)
      callWith pos g first (backTo pos (starEach (e :: es) (ncx CX P w K mg base N F f A outer s0 H0 E).env)) []) := by rfl)
    (he : starEach (e :: es) (ncx CX P w K mg base N F f A outer s0 H0 E).env = (false, eval e (ncx CX P w K mg base N F f A outer s0 H0 E).env) :: starEach es (ncx CX P w K mg base N F f A outer s0 H0 E).env := by rfl) (hpl : (backTo pos (starEach es (ncx CX P w K mg base N F f A outer s0 H0 E).env)).any (·.1) = false := by rfl) :
    _root_.PySem.wpAt (model P w) (ncx CX P w K mg base N F f A outer s0 H0 E).A (.func F.body (ncx CX P w K mg base N F f A outer s0 H0 E).env) (exec (.Expr (.Call (.Attribute (.Call (.Name "super" p0) [] [] p1) "__init__" p2) (e :: es) [] pos) pos2) (ncx CX P w K mg base N F f A outer s0 H0 E).env)
      (fun fl s' => fl = .next ∧ ∃ H1, Inv (ncx CX P w K mg base N F f A outer s0 H0 E) [] σ H1 s' ∧ H1 a = some (exo a C none) ∧ Qn H1) (ncx CX P w K mg base N F f A outer s0 H0 E).xe s := by
  obtain ⟨oc, od, osl, lkf⟩ := S.lk
  obtain ⟨ccl, cdd, vs, ccs, file, tf, lkc, hvs, hfile⟩ := S.code
  obtain ⟨cl, cld, csl, lkcc⟩ := S.cell
  have KX : K.In s.heap := I.kIn
  obtain ⟨m, hn, hl⟩ := I.loc
  obtain ⟨u, ru, lu⟩ := hl 0 ar.arg (.ref a) hN hs (.inl hka)
  obtain rfl : u = .ref a := ru
  have hma : m ar.arg = some (.ref a) := by
    rcases lu with ⟨_, z⟩ | ⟨z, _⟩
    · exact z
    · rcases z with z | z
      · rw [show (ncx CX P w K mg base N F f A outer s0 H0 E).env.kindOf ar.arg = some .local from hka] at z; cases z
      · rw [show (ncx CX P w K mg base N F f A outer s0 H0 E).env.kindOf ar.arg = some .local from hka] at z; cases z
  obtain ⟨nm, q, NN, bs, bm, sn, sub, ab, col, dd, k0, k1, k2, k3, k5, hC, hbm⟩ := S.oex.cls
  obtain ⟨t1, hox⟩ := exo_at I.hok hx
  refine ks_wpAt_Expr_any (ks_wpAt_MethodCall ?_ hev) hint hsw
  refine ks_wpAt_super_base (env := (ncx CX P w K mg base N F f A outer s0 H0 E).env) (cc := F.c) hks hkc (by decide) rfl (KX _ _ lkf) rfl hp rfl (KX _ _ lkc) rfl hvs hfile S.top ?_
  obtain ⟨mb, h1, h2⟩ := I.mod.blt
  refine PySem.W.ks_loadName_global hk hks (Calls.loadGlobal_builtin (by rw [I.ok.glob]; exact I.mod.glob.keeps I.bk) m_super (by rw [I.ok.blt]; exact h1.keeps I.bk) ((h2 "super" (by decide)).trans (by decide +kernel)) ⟨rfl, ?_⟩)
  refine wpAny_loadName_free hk hkc (c := cc) (by show F.cl.lookup _ = _; rw [hcl]; rfl) ⟨_, KX _ _ lkcc, rfl⟩ ?_
  refine wpAny_loadName_local hk hka hn hma ?_
  refine ks_wpAny_isType_cls (KX _ _ hC) rfl ⟨rfl, ?_⟩
  obtain ⟨hh, g, d, tk, os⟩ := s
  refine ks_wpAny_call_super (KX _ _ hC) rfl hox rfl (fun c z => by cases z) (PySem.W.looks_mroIn KX S.mro) (fun h' eso kso => ?_)
  have I2 : Inv (ncx CX P w K mg base N F f A outer s0 H0 E) [] σ H ⟨h', g, d, tk, os⟩ := I.kept kso
  have KX2 : K.In h' := I2.kIn
  have hox2 := kso _ _ hox
  have IA : PySem.W.InstAt h' a _ C none := ⟨hox2, rfl, rfl, trivial⟩
  have hI : PySem.W.Looks (model P w) h' (isInstance (.ref a) (.type "ValueError")) true := IA.type.andThen (PySem.W.looks_subIn KX2 S.sub)
  have hm := S.ini
  cases hc : PySem.W.clsIn K C with
  | none =>
    unfold PySem.W.ks_superIn at hm
    rw [hc] at hm
    cases hm
  | some cd =>
    unfold PySem.W.ks_superIn at hm
    rw [hc] at hm
    refine PySem.W.kxs_getMethod PySem.W.kxs_ValueError eso (PySem.W.looks_opaque KX2 S.opq) (l₀ := cd.mro) ?_ rfl KX2 hm hI (PySem.W.ks_ne KX2 IA hc) (by decide) ?_
    · exact fun A Q E s k q => wpAny_bind ((PySem.W.looks_clsIn KX2 hc) A _ E s k (wpAny_pure q))
    · have I3 : Inv (ncx CX P w K mg base N F f A outer s0 H0 E) [(h'.objs.size, PySem.W.kxs_mw "ValueError.__init__" a)] σ H ⟨h'.push (PySem.W.kxs_mw "ValueError.__init__" a), g, d, tk + 1, os⟩ := ClX.pin_new I2 (fun b o e => Heap.get?_push_of_some _ e) (Nat.le_refl _) (Heap.get?_push_at rfl rfl) (fun v z => by cases z)
      rw [he]
      refine PySem.W.kxs_callWith (i := "ValueError.__init__") (x := a) (by show (false || (backTo pos (starEach es _)).any (·.1)) = false; rw [hpl]; rfl) ?_
      refine PySem.Calls.evalArgs_plain ?_
      have hrun := ha.run pos _ _ σ H _ I3 ht
      rw [he] at hrun
      refine thn hrun fun us s3 ⟨ws, H3, I4, r, q1, q2, q3⟩ => ?_
      refine ⟨ClX.pin_at I4, ?_⟩
      refine call_mw (X := ncx CX P w K mg base N F f A outer s0 H0 E) S I4 q2 (by show us.length ≤ sizeLine; rw [← r.length]; exact Nat.le_trans q1 (by decide)) fun s' I5 => ⟨rfl, H3, ClX.unpin I5, q2, q3⟩
theorem wpAt_to {M : Model} {A : Around} {c : Code} {α : Type} {m : Sem α} {Q Q' : α → Shared → Prop} {E : Value → Shared → Prop} {s : Shared} (h : _root_.PySem.wpAt M A c m Q E s) (hq : ∀ a s', Q a s' → Q' a s') : _root_.PySem.wpAt M A c m Q' E s := ks_wpAt_mono h hq fun _ _ z => z
/-- THE RULE: such an __init__, the rest of its body by its readings -/
theorem sup_ok {pl : Sem Bool} {fd : FuncData} {dV kV doc pm ct : Value} {an : Option Addr} {ar : Arg} {k : Nat} {sp : Sp} {txt : Str} {j : Nat} {p0 p1 p2 p3 pos pos2 : Pos} {rest : List Stmt} (hfd : fd = PySem.W.fnX F.name F.qual F.params F.body F.scope F.cl dV kV doc pm an (.ref F.c) ct)
    (S : SupK P K C f F.c cc fd) (hcd : PySem.W.codeIn K (.ref F.c) F.qual = true) (NS : NScope N ps ["__class__"] F.scope) (hcl : F.cl = [(("__class__" : Str), cc)]) (hp : (F.params.posonlyargs ++ F.params.args).head? = some ar) (hks : F.scope.names.lookup ("super" : Str) = some .globalImplicit) (m_super : mg "super" = none)
    (hN : N[0]? = some ar.arg) (hka : F.scope.names.lookup ar.arg = some .local)
    (hb : F.body = .Expr (.Call (.Attribute (.Call (.Name "super" p0) [] [] p1) "__init__" p2) [.Constant (.str txt) j p3] [] pos) pos2 :: rest)
    (len : ∀ vs H Q E, sp vs H Q E → vs.length = ps.length) (hself : ∀ vs H Q E, sp vs H Q E → ∃ a vs', vs = .ref a :: vs' ∧ H a = some (exo a C none))
    (hint : ∀ (A : Around) (outer : List Env) (s : Shared) (H : Hp) (E : XK), interactive (ncx CX P w K mg base N F f A outer s H E).env = false)
    (hsw : ∀ (A : Around) (outer : List Env) (s : Shared) (H : Hp) (E : XK), swapsWith (.Call (.Attribute (.Call (.Name "super" p0) [] [] p1) "__init__" p2) [.Constant (.str txt) j p3] [] pos) none pos2.line (ncx CX P w K mg base N F f A outer s H E).env = pure false)
    (hev : ∀ (A : Around) (outer : List Env) (s : Shared) (H : Hp) (E : XK), eval (.Call (.Attribute (.Call (.Name "super" p0) [] [] p1) "__init__" p2) [.Constant (.str txt) j p3] [] pos) (ncx CX P w K mg base N F f A outer s H E).env = (do
      let ov ← attributeBase (.Call (.Name "super" p0) [] [] p1) "__init__" (ncx CX P w K mg base N F f A outer s H E).env (eval (.Call (.Name "super" p0) [] [] p1) (ncx CX P w K mg base N F f A outer s H E).env)
      standAt p2.atName
      let (g, first) ← holding [ov] (getMethod ov "__init__" pl)
      callWith pos g first (backTo pos (starEach [.Constant (.str txt) j p3] (ncx CX P w K mg base N F f A outer s H E).env)) []))
    (hrest : ∀ (A : Around) (outer : List Env) (s : Shared) (H : Hp) (vs : List V) (Q : VK) (E : XK), sp vs H Q E → ∃ t, PSs (ncx CX P w K mg base N F f A outer s H E) rest t ∧ t { nx := fun _ H' => Q .non H', rt := Q } (startF N vs [some (.ref C)]) H) : FnOk P w K mg base CX (k + 1) f fd ps sp := by
  refine ⟨len, fun A outer s H args us vs Q E hr e0 hbn r hsp => ?_⟩
  have hl := len _ _ _ _ hsp
  have KX : K.In s.heap := e0.mod.kin.keeps fun b o e => (e0.bs b o e).1
  have lim : s.heap.NoLimit := e0.mod.nolimit.keeps fun b o e => (e0.bs b o e).1
  obtain ⟨oc, od, osl, lkf⟩ := S.lk
  obtain ⟨cl, cld, csl, lkcc⟩ := S.cell
  have CA : CellsAt F.cl ["__class__"] [some (.ref C)] s.heap H := by
    refine ⟨rfl, fun y c e => ?_, fun x y c e1 e2 => ?_, fun i y e => ?_⟩
    · rw [hcl] at e
      have ec : c = cc := by
        unfold List.lookup at e
        split at e
        · exact (Option.some.inj e).symm
        · cases e
      subst ec
      exact ⟨(e0.bs _ _ (e0.mod.kin _ _ lkcc)).2, _, _, KX _ _ lkcc, rfl⟩
    · rw [hcl] at e1 e2
      have k : ∀ z : Str, ([(("__class__" : Str), cc)] : List (Str × Addr)).lookup z = some c → z = "__class__" := fun z e => by
        unfold List.lookup at e
        split at e
        · next h => exact beq_iff_eq.mp h
        · cases e
      rw [k x e1, k y e2]
    · have ey : y = "__class__" := by
        cases i with
        | zero => exact (Option.some.inj e).symm
        | succ i => cases e
      subst ey
      refine ⟨cc, by rw [hcl]; rfl, fun v hv => ?_⟩
      have ei : i = 0 := by
        cases i with
        | zero => rfl
        | succ i => cases e
      subst ei
      obtain rfl : V.ref C = v := Option.some.inj (Option.some.inj hv)
      exact ⟨.ref C, rfl, _, KX _ _ lkcc, rfl⟩
  subst hfd
  refine ks_codeAny_call_defAt hr.depth (KX _ _ lkf) rfl lim (PySem.W.codeRec_of KX hcd) rfl hbn NS.nocell (fun ⟨n, _⟩ hy => NS.par n (List.of_mem_zip hy).1) (fun h₁ hns kp => ?_) NS.co NS.gen NS.kind
  show _root_.PySem.wpAt _ (ncx CX P w K mg base N F f A outer s H E).A (.func F.body (ncx CX P w K mg base N F f A outer s H E).env) (execs F.body (ncx CX P w K mg base N F f A outer s H E).env) _ (ncx CX P w K mg base N F f A outer s H E).xe _
  have I : Inv (ncx CX P w K mg base N F f A outer s H E) [] (startF N vs [some (.ref C)]) H { s with heap := h₁, toks := s.toks + (ps.zip us).length } := inv_startN NS hr.hd e0 hl r CA hns kp
  obtain ⟨a, vs', rfl, hx⟩ := hself _ _ _ _ hsp
  have hexe : execs F.body (ncx CX P w K mg base N F f A outer s H E).env = execs (.Expr (.Call (.Attribute (.Call (.Name "super" p0) [] [] p1) "__init__" p2) [.Constant (.str txt) j p3] [] pos) pos2 :: rest) (ncx CX P w K mg base N F f A outer s H E).env := by rw [hb]
  rw [hexe]
  refine ks_wpAt_execs_cons (wpAt_to (super_first (Qn := fun H1 => H1 = H) S hcl hp hks (NS.frk _ (List.mem_cons_self ..)) hka NS.kind m_super hN (pa_cons pe_str pa_nil) I rfl hx ⟨by simp, hx, rfl⟩ (hint A outer s H E) (hsw A outer s H E) (hev A outer s H E)) ?_)
  rintro fl s1 ⟨rfl, H1, I1, _, rfl⟩
  obtain ⟨t, ht, hq⟩ := hrest A outer s H1 _ Q E hsp
  refine wpAt_of_wpAny (wpAny_mono (ht.run [] _ _ H1 _ I1 hq) (fun fl s' hs => ?_) fun e s' hs => hs)
  have fin : ∀ {σ' : L2.St} {H' : Hp} {v : V} {u : Value}, Inv (ncx CX P w K mg base N F f A outer s H1 E) [] σ' H' s' → L2.RelV v u → Q v H' → CE outer P w H1 s Q u s' :=
    fun {σ' H' v u} J rv q => ⟨v, H', J.os, J.bare, J.base, J.hok, rv, q⟩
  cases fl with
  | ret u =>
    obtain ⟨v, σ', H', J, rv, q⟩ := hs
    exact fin J rv q
  | next =>
    obtain ⟨σ', H', J, q⟩ := hs
    exact fin (v := V.non) (u := Value.none) J rfl q
  | brk =>
    obtain ⟨_, _, _, q⟩ := hs
    exact False.elim q
  | cont =>
    obtain ⟨_, _, _, q⟩ := hs
    exact False.elim q
end
end Z
set_option Elab.async false
set_option linter.all false
set_option maxRecDepth 100000
set_option maxHeartbeats 4000000
namespace Z
open PySem PySem.Spec PyProof.Rows L2 NdefX
/-! ### class X(..): def __init__(self, v): super().__init__("text"); self.field = v -/
def spEx (C : Addr) (field : Str) : Sp := fun vs H Q _ => ∃ (a : Addr) (v : V), vs = [.ref a, v] ∧ H a = some (exo a C none) ∧ ∀ dx, H dx = none → dx ≠ a → Q .non (upd (upd H dx (exd dx [(field, v)])) a (exo a C (some dx)))
theorem exn_ok {P : Program} {w : World} {K : PySem.W.Frag} {mg : Str → Option Value} {base : Heap} {F : NF} {f C cc : Addr} {pl : Sem Bool} {fd : FuncData} {dV kV doc pm ct : Value} {an : Option Addr} {ar : Arg} {txt v field : Str} {j : Nat} {p0 p1 p2 p3 pos pos2 q1 q2 q3 q4 : Pos} (hfd : fd = PySem.W.fnX F.name F.qual F.params F.body F.scope F.cl dV kV doc pm an (.ref F.c) ct)
    (S : SupK P K C f F.c cc fd) (hcd : PySem.W.codeIn K (.ref F.c) F.qual = true) (NS : NScope ["self", v, "__class__"] ["self", v] ["__class__"] F.scope) (hcl : F.cl = [(("__class__" : Str), cc)]) (hp : (F.params.posonlyargs ++ F.params.args).head? = some ar) (har : ar.arg = "self") (hks : F.scope.names.lookup ("super" : Str) = some .globalImplicit) (m_super : mg "super" = none)
    (hno : PySem.W.findIn K (.ref C) field = some none) (hvd : (v == ("__debug__" : Str)) = false) (hvc : (v == ("__classdict__" : Str)) = false)
    (hb : F.body = [.Expr (.Call (.Attribute (.Call (.Name "super" p0) [] [] p1) "__init__" p2) [.Constant (.str txt) j p3] [] pos) pos2, .Assign [.Attribute (.Name "self" q1) field q2] (.Name v q3) q4])
    (hint : ∀ (A : Around) (outer : List Env) (s : Shared) (H : Hp) (E : XK), interactive (ncx CX0 P w K mg base ["self", v, "__class__"] F f A outer s H E).env = false)
    (hsw : ∀ (A : Around) (outer : List Env) (s : Shared) (H : Hp) (E : XK), swapsWith (.Call (.Attribute (.Call (.Name "super" p0) [] [] p1) "__init__" p2) [.Constant (.str txt) j p3] [] pos) none pos2.line (ncx CX0 P w K mg base ["self", v, "__class__"] F f A outer s H E).env = pure false)
    (hev : ∀ (A : Around) (outer : List Env) (s : Shared) (H : Hp) (E : XK), eval (.Call (.Attribute (.Call (.Name "super" p0) [] [] p1) "__init__" p2) [.Constant (.str txt) j p3] [] pos) (ncx CX0 P w K mg base ["self", v, "__class__"] F f A outer s H E).env = (do
      let ov ← attributeBase (.Call (.Name "super" p0) [] [] p1) "__init__" (ncx CX0 P w K mg base ["self", v, "__class__"] F f A outer s H E).env (eval (.Call (.Name "super" p0) [] [] p1) (ncx CX0 P w K mg base ["self", v, "__class__"] F f A outer s H E).env)
      standAt p2.atName
      let (g, first) ← holding [ov] (getMethod ov "__init__" pl)
      callWith pos g first (backTo pos (starEach [.Constant (.str txt) j p3] (ncx CX0 P w K mg base ["self", v, "__class__"] F f A outer s H E).env)) []))
    (hs2 : ∀ (A : Around) (outer : List Env) (s : Shared) (H : Hp) (E : XK), swapsWith (.Name v q3) (some (.Attribute (.Name "self" q1) field q2)) q4.line (ncx CX0 P w K mg base ["self", v, "__class__"] F f A outer s H E).env = pure false) : FnOk P w K mg base CX0 1 f fd ["self", v] (spEx C field) := by
  refine sup_ok (k := 0) (rest := [.Assign [.Attribute (.Name "self" q1) field q2] (.Name v q3) q4]) hfd S hcd NS hcl hp hks m_super (by rw [har]; rfl) (by rw [har]; exact NS.par _ (List.mem_cons_self ..)) hb (fun vs H Q E h => ?_) (fun vs H Q E h => ?_) hint hsw hev (fun A outer s H vs Q E h => ?_)
  · obtain ⟨a, y, rfl, _⟩ := h
    rfl
  · obtain ⟨a, y, rfl, hx, _⟩ := h
    exact ⟨a, [y], rfl, hx⟩
  · obtain ⟨a, y, rfl, hx, q⟩ := h
    refine ⟨_, pss_one (ps_ost (pe_var (i := 0) rfl (.inl (NS.par _ (List.mem_cons_self ..)))) (pe_var (i := 1) rfl (.inl (NS.par _ (List.mem_cons_of_mem _ (List.mem_cons_self ..)))) hvd hvc) (hs2 A outer s H E)), ?_⟩
    refine ⟨y, rfl, .ref a, rfl, a, C, rfl, S.oex, hno, .inl ⟨hx, fun dx n1 n2 => ?_⟩⟩
    exact q dx n1 n2
/-! ### raise X(e) -/
structure Exn (P : Program) (w : World) (K : PySem.W.Frag) (mg : Str → Option Value) (base : Heap) (x : Str) (C : Addr) (field : Str) : Prop where
  oex : OexC K C
  gl : mg x = some (.ref C)
  ini : ∃ fI fd ps, PySem.W.findIn K (.ref C) "__init__" = some (some (.ref fI)) ∧ PySem.W.typeIn K (.ref fI) = some (.type "function") ∧ FnOk P w K mg base CX0 1 fI fd ps (spEx C field) ∧ Binds K fd ps []
/-! ### C(e): the exception's object has no context -/
section
variable {X : Cx} {x : Str} {C g : Addr} {k : Nat} {fd : FuncData} {ps : List Str} {sp : Sp} {e : Expr} {ta : TA} {p pos : Pos}
/-- the two objects that type.__call__ lays -/
abbrev hp2 (h : Heap) (C : Addr) (us : List Value) : Heap :=
  (h.push (PySem.W.kdv_tup us)).push (PySem.HandSPX.excO C h.objs.size)
theorem hp2_keep {h : Heap} {us : List Value} (b : Addr) (o : Obj) (z : h.get? b = some o) :
    (hp2 h C us).get? b = some o := Heap.get?_push_of_some _ (Heap.get?_push_of_some _ z)
theorem hp2_at {h : Heap} {us : List Value} :
    (hp2 h C us).get? (h.objs.size + 1) = some (PySem.HandSPX.excO C h.objs.size) := by heap_get
theorem inv2 {pins : List (Addr × Obj)} {σ : L2.St} {H : Hp} {h : Heap} {gs : Array GenState} {dr : Drawn} {tk : Nat} {os : OsState} {us : List Value}
    (I : Inv X pins σ H ⟨h, gs, dr, tk, os⟩) :
    Inv X pins σ (upd H (h.objs.size + 1) (exo (h.objs.size + 1) C none)) ⟨hp2 h C us, gs, dr, tk, os⟩ :=
  I.laid (t' := tk) (a := h.objs.size + 1) (o := exo (h.objs.size + 1) C none) (h' := hp2 h C us)
    hp2_keep (Nat.le_succ _) (exo_ok hp2_at)
theorem pmkN (T : OexC X.K C)
    (iC : PySem.W.findIn X.K (.ref C) "__init__" = some (some (.ref g)))
    (tI : PySem.W.typeIn X.K (.ref g) = some (.type "function"))
    (F : FnOk X.prog X.w X.K X.mg X.base CX0 k g fd ps sp) (hr : Room (k + 1) X.A) (hb : Binds X.K fd ps [])
    (hg : Gl X x) (hm : X.mg x = some (.ref C)) (ha : PA X [e] ta)
    (hdb : (x == ("__debug__" : Str)) = false := by decide)
    (he : starEach [e] X.env = (false, eval e X.env) :: starEach [] X.env := by rfl)
    (hpl : (backTo pos (starEach [] X.env)).any (·.1) = false := by rfl) :
    L2N.PMk X (.Call (.Name x p) [e] [] pos) (tMkO C sp [] ta) := by
  intro pins s σ H Q I h
  obtain ⟨_, _, _, _, vm, _, _, _, _, _, _, _, _, _, _, atC, inM⟩ := T.cls
  refine wpAny_Call_Name_kw (ld_glob I hg hm ?_ hdb)
  refine PySem.W.callWith_K (h₀ := X.base) I.ok.mod.kin T.kC ?_ he hpl
  refine thn (ha.run pos pins s σ H _ I h) fun us s1 hh => ?_
  obtain ⟨vs, H1, J, r, few, q⟩ := hh
  refine ⟨J.kIn, ?_⟩
  obtain ⟨hp, gs, dr, tk, os⟩ := s1
  have q := q (hp.objs.size + 1) (J.hok.fresh (Nat.le_succ _))
  rw [List.append_nil] at q
  have J2 := inv2 (C := C) (us := us) J
  have r2 : Vals (V.ref (hp.objs.size + 1) :: vs) (Value.ref (hp.objs.size + 1) :: us) := .cons rfl r
  have len2 : (Value.ref (hp.objs.size + 1) :: us ++ []).length = ps.length := by
    rw [List.append_nil, ← r2.length]
    exact F.len _ _ _ _ q
  have b2 := hb _ (Value.ref (hp.objs.size + 1) :: us) J2.kIn len2
  rw [List.append_nil] at b2
  have few2 : us.length ≤ sizeLine := by
    have := Paired.length r
    rw [sizeLine_eq]
    omega
  have run := F.run _ X.stack _ _ _ _ _ _ _ (hr.make C us []) (J2.env0.make C us []) b2 r2 q
  refine wpAny_call (PySem.HandSPX.call_own PySem.F.excBase_ValueError (fun Y => PySem.HandSPX.refsVE_contains Y vm inM)
    (J.kIn _ _ atC) (PySem.W.looks_findIn J.kIn iC) (fun self => PySem.W.bind_fn J.kIn self tI) few2
    (codeAny_mono run fun res s' z => ?_))
  match res, z with
  | .error er, z => exact z.elim
  | .ok (.ret u), z =>
    obtain ⟨v, H2, eo, bare, un, ok2, rv, ev, d, fs, ea, ed, nd, q2⟩ := z
    subst ev
    obtain ⟨h2, g2, d2, t2, os'⟩ := s'
    obtain ⟨t0, G, J3, kG, ge, hoe, na⟩ := mk_end0 (d2 := d2) (t2 := t2) J (Nat.le_succ _) hp2_keep un ok2 eo bare ea ed nd
    refine ⟨rv, hp.objs.size + 1, _, _, ⟨G, g2, d2, t2, os'⟩, _, .ref C, some d, rfl, J3, kG, ge, hoe, ⟨rfl, rfl, fun ws ew => ?_⟩, rfl, rfl, na, rfl, bare, raises_own T.exC T.tyC, q2⟩
    cases ew
    rfl
end
section
variable {X : Cx} {x field : Str} {C : Addr} {j : Nat} {e : Expr} {ta : TA} {p pos pos2 : Pos} {W : WX}
theorem pmk_exn (c : Exn X.prog X.w X.K X.mg X.base x C field) (hr : Room j X.A) (hk : 2 ≤ j) (hg : Gl X x) (ha : PA X [e] ta) (hdb : (x == ("__debug__" : Str)) = false := by decide) (he : starEach [e] X.env = (false, eval e X.env) :: starEach [] X.env := by rfl) (hpl : (backTo pos (starEach [] X.env)).any (·.1) = false := by rfl) :
    L2N.PMk X (.Call (.Name x p) [e] [] pos) (tMkO C (spEx C field) [] ta) := by
  obtain ⟨fI, fd, ps, iC, tI, F1, b⟩ := c.ini
  exact pmkN (X := X) (pos := pos) (p := p) c.oex iC tI F1 (hr.mono hk) b hg c.gl ha hdb he hpl
/-- raise X(e) -/
theorem ps_exn (hc : X.calm = true) (tk : L2N.Takes X W) (c : Exn X.prog X.w X.K X.mg X.base x C field) (hr : Room j X.A) (hk : 2 ≤ j) (hg : Gl X x) (ha : PA X [e] ta) (hdb : (x == ("__debug__" : Str)) = false := by decide) (he : starEach [e] X.env = (false, eval e X.env) :: starEach [] X.env := by rfl) (hpl : (backTo pos (starEach [] X.env)).any (·.1) = false := by rfl) :
    PS X (.Raise (some (.Call (.Name x p) [e] [] pos)) none pos2) (fun _ σ H => tMkO C (spEx C field) [] ta σ H fun cls d H' => W cls d σ H') := L2N.ps_raise hc tk (pmk_exn c hr hk hg ha hdb he hpl)
end
/-- what is left to show of X(v) -/
theorem mkx_of {C : Addr} {field : Str} {v : V} {H1 : Hp} {Q : XK} (q : ∀ d, H1 d = none → Q (.ref C) (some d) (upd H1 d (.xd [(field, v)]))) :
    [v].length ≤ 1000 ∧ ∀ a, H1 a = none → spEx C field (.ref a :: ([v] ++ [])) (upd H1 a (exo a C none)) (fun v H2 => v = .non ∧ ∃ (d : Addr) (fs : List (Str × V)), H2 a = some (exo a C (some d)) ∧ H2 d = some (exd d fs) ∧ H1 d = none ∧ Q (.ref C) (some d) (upd (del H2 a) d (.xd fs))) (fun _ _ _ => False) := by
  refine ⟨by simp, fun a na => ⟨a, v, rfl, upd_same, fun dx n1 n2 => ⟨rfl, dx, [(field, v)], upd_same, ?_, ?_, ?_⟩⟩⟩
  · rw [upd_ne n2, upd_same]
  · rw [← n1, upd_ne n2]
  · have n3 : H1 dx = none := by rw [← n1, upd_ne n2]
    have e1 : upd (del (upd (upd (upd H1 a (exo a C none)) dx (exd dx [(field, v)])) a (exo a C (some dx))) a) dx (.xd [(field, v)]) = upd H1 dx (.xd [(field, v)]) := by
      funext b
      by_cases hb : b = dx
      · rw [hb, upd_same, upd_same]
      · rw [upd_ne hb, upd_ne hb]
        by_cases ha2 : b = a
        · rw [ha2, del_same, na]
        · rw [del_ne ha2, upd_ne ha2, upd_ne hb, upd_ne ha2]
    rw [e1]
    exact q dx n3
/-! ### calls that may raise -/
structure CalX (P : Program) (w : World) (K : PySem.W.Frag) (mg : Str → Option Value) (base : Heap) (k : Nat) (x : Str) (sp : Sp) : Prop where
  ex : ∃ (f : Addr) (fd : FuncData) (ps : List Str), FnOk P w K mg base (L2N.CX P w) k f fd ps sp ∧ mg x = some (.ref f) ∧ PySem.W.keepIn K (.ref f) = true ∧ Binds K fd ps []
structure MakX (P : Program) (w : World) (K : PySem.W.Frag) (mg : Str → Option Value) (base : Heap) (k : Nat) (x : Str) (C : Addr) (sp : Sp) : Prop where
  ex : ∃ (f : Addr) (fd : FuncData) (ps : List Str), Mk K C f ∧ FnOk P w K mg base (L2N.CX P w) k f fd ps sp ∧ mg x = some (.ref C) ∧ Binds K fd ps []
structure MetX (P : Program) (w : World) (K : PySem.W.Frag) (mg : Str → Option Value) (base : Heap) (k : Nat) (C : Addr) (m : Str) (sp : Sp) : Prop where
  ex : ∃ (f : Addr) (fd : FuncData) (ps : List Str), Cls K C ∧ Meth K C m f ∧ FnOk P w K mg base (L2N.CX P w) k f fd ps sp ∧ Binds K fd ps []
structure CobX (P : Program) (w : World) (K : PySem.W.Frag) (mg : Str → Option Value) (base : Heap) (k : Nat) (C : Addr) (sp : Sp) : Prop where
  ex : ∃ (g : Addr) (fd : FuncData) (ps : List Str), StX.CallO K C g ∧ FnOk P w K mg base (L2N.CX P w) k g fd ps sp ∧ Binds K fd ps []
/-- C(e, ..) by its __init__'s promise; what is raised at the slots -/
def tMkW (C : Addr) (sp : Sp) (E : L2.St → XK) (t : TA) : TE := fun σ H Q => t σ H fun vs H1 => ∀ n dx, H1 n = none → H1 dx = none → dx ≠ n → sp (.ref n :: vs) (upd (upd H1 dx (.own n)) n (.ins C dx [])) (fun v H2 => v = .non ∧ Q (.ref n) H2) (E σ)
def tCoW (C : Addr) (sp : Sp) (E : L2.St → XK) (tf : TE) (t : TA) : TE := fun σ H Q => tf σ H fun y H1 => ∃ a, y = V.ref a ∧ t σ H1 fun vs H2 => (∃ dx fs, H2 a = some (.ins C dx fs)) ∧ sp (V.ref a :: vs) H2 Q (E σ)
def tMeW (C : Addr) (m : Str) (sp : Sp) (E : L2.St → XK) (ta : TE) (t : TA) : TE := fun σ H Q => ta σ H fun x H1 => ∃ a dx fs, x = V.ref a ∧ H1 a = some (.ins C dx fs) ∧ List.lookup m fs = none ∧ t σ H1 fun vs H2 => sp (x :: vs) H2 Q (E σ)
section
variable {X : Cx} {k j : Nat} {x m : Str} {sp : Sp} {C : Addr} {p pos apos : Pos} {e o fe : Expr} {es : List Expr} {t : TA} {ta tf : TE} {W : WX} {E : L2.St → XK}
theorem passS0 {σ : L2.St} : PassesAt (L2N.CX X.prog X.w) X σ E0 := fun _ _ _ _ _ _ h => by
  obtain ⟨_, _, _, _, _, _, _, _, _, _, _, _, z⟩ := h
  exact z.elim
/-- any result of a promise, at the slots -/
theorem back_at {σ : L2.St} {H : Hp} {s : Shared} {pins : List (Addr × Obj)} {Q : VK} {E : XK} {CX : CXT} (hx : PassesAt CX X σ E) (I : Inv X pins σ H s) : ∀ (r : Result) (s' : Shared), CR CX X.stack X.prog X.w H s Q E r s' → match r with
    | .ok (.ret v) => EP X pins σ Q v s'
    | .ok _ => False
    | .error e => X.xe e s'
  | .error e, s', h => hx pins H s e s' I h
  | .ok (.ret u), s', h => I.after h
  | .ok .next, s', h => h
  | .ok .brk, s', h => h
  | .ok .cont, s', h => h
theorem pe_clE (c : CalX X.prog X.w X.K X.mg X.base k x sp) (hx : ∀ σ, PassesAt (L2N.CX X.prog X.w) X σ (E σ)) (hr : Room j X.A) (hk : k ≤ j) (hg : Gl X x) (ha : PA X (e :: es) t) (hdb : (x == ("__debug__" : Str)) = false := by decide) (he : starEach (e :: es) X.env = (false, eval e X.env) :: starEach es X.env := by rfl) (hpl : (backTo pos (starEach es X.env)).any (·.1) = false := by rfl) :
    PE X (.Call (.Name x p) (e :: es) [] pos) (tCallS sp E t) := by
  obtain ⟨f, fd, ps, F, hm, kp, b⟩ := c.ex
  exact pe_callS F (hr.mono hk) hg hm kp b hx ha hdb he hpl
theorem pe_mkE (c : MakX X.prog X.w X.K X.mg X.base k x C sp) (hx : ∀ σ, PassesAt (L2N.CX X.prog X.w) X σ (E σ)) (hr : Room j X.A) (hk : k + 1 ≤ j) (hg : Gl X x) (ha : PA X (e :: es) t) (hdb : (x == ("__debug__" : Str)) = false := by decide) (he : starEach (e :: es) X.env = (false, eval e X.env) :: starEach es X.env := by rfl) (hpl : (backTo pos (starEach es X.env)).any (·.1) = false := by rfl) :
    PE X (.Call (.Name x p) (e :: es) [] pos) (tMkW C sp E t) := by
  obtain ⟨f, fd, ps, M, F, hm, b⟩ := c.ex
  constructor
  intro pins s σ H Q I h
  refine wpAny_Call_Name_kw (ld_glob I hg hm ?_ hdb)
  refine PySem.W.callWith_K (h₀ := X.base) I.ok.mod.kin M.kp (thn (ha.run pos pins s σ H _ I h) fun us s1 z => ?_) he hpl
  obtain ⟨vs, H1, I1, rr, q⟩ := z
  refine ⟨I1.kIn, ?_⟩
  obtain ⟨n, hn⟩ : ∃ n, n = s1.heap.objs.size := ⟨_, rfl⟩
  have q1 := q (n + 1) n (I1.hok.fresh (by rw [hn]; exact Nat.le_succ _)) (I1.hok.fresh (by rw [hn]; exact Nat.le_refl _)) (Nat.ne_of_lt (Nat.lt_succ_self _))
  subst hn
  have J := Inv.made (C := C) I1
  have r3 : Vals (V.ref (s1.heap.objs.size + 1) :: vs) (Value.ref (s1.heap.objs.size + 1) :: us) := .cons rfl rr
  have b3 := b { s1 with heap := (s1.heap.push PySem.W.emptyDict).push (PySem.W.instObj C s1.heap.objs.size) } (Value.ref (s1.heap.objs.size + 1) :: us) J.kIn (by rw [List.append_nil, ← r3.length]; exact F.len _ _ _ _ q1)
  rw [List.append_nil] at b3
  have run := F.run _ X.stack _ _ _ _ _ _ _ ((hr.mono hk).make C us []) (J.env0.make C us []) b3 r3 q1
  refine wpAny_call (make_map (f := f) I1.kIn M.makes M.init (beq_iff_eq.mp M.fn) (codeAny_mono run fun r s' hq => ?_))
  have z := back_at (hx σ) J r s' hq
  match r, z with
  | .error e, z => exact z
  | .ok (.ret u), ⟨v, H', J', rv, ev, q3⟩ =>
    subst ev
    exact ⟨rv, V.ref (s1.heap.objs.size + 1), H', J', rfl, q3⟩
theorem run_atE {f : Addr} {fd : FuncData} {ps : List Str} {σ : L2.St} {H : Hp} {s : Shared} {pins : List (Addr × Obj)} {Q : VK} {us : List Value} {vs : List V} (F : FnOk X.prog X.w X.K X.mg X.base (L2N.CX X.prog X.w) k f fd ps sp) (b : Binds X.K fd ps []) (hx : PassesAt (L2N.CX X.prog X.w) X σ (E σ)) (hr : Room k X.A) (I : Inv X pins σ H s) (r : Vals vs us) (h : sp vs H Q (E σ)) :
    codeAny (model X.prog X.w) X.A (.call (.ref f) ⟨us, []⟩) (fun r s' => match r with | .ok (.ret v) => EP X pins σ Q v s' | .ok _ => False | .error e => X.xe e s') s := by
  have b3 := b s us I.kIn (by rw [List.append_nil, ← r.length]; exact F.len _ _ _ _ h)
  rw [List.append_nil] at b3
  exact codeAny_mono (F.run _ X.stack _ _ _ _ _ _ _ hr I.env0 b3 r h) (back_at hx I)
theorem pe_coE (c : CobX X.prog X.w X.K X.mg X.base k C sp) (hf : PE X fe tf) (hx : ∀ σ, PassesAt (L2N.CX X.prog X.w) X σ (E σ)) (hr : Room j X.A) (hk : k ≤ j) (ha : PA X (e :: es) t)
    (ht : eval (.Call fe (e :: es) [] pos) X.env = (do callWith pos (← eval fe X.env) [] (backTo pos (starEach (e :: es) X.env)) (backToKw pos (keywordEach [] X.env))) := by rfl)
    (he : starEach (e :: es) X.env = (false, eval e X.env) :: starEach es X.env := by rfl) (hpl : (backTo pos (starEach es X.env)).any (·.1) = false := by rfl) : PE X (.Call fe (e :: es) [] pos) (tCoW C sp E tf t) := by
  obtain ⟨g, fd, ps, co, F, b⟩ := c.ex
  constructor
  intro pins s σ H Q I h
  refine Call_ (thn (hf.run pins s σ H _ I h) fun u s1 ⟨y, H1, I1, ry, a, ey, q⟩ => ?_) ht
  subst ey
  obtain rfl : u = Value.ref a := ry
  refine StX.callO_with (thn (ha.run pos pins s1 σ H1 _ I1 q) fun us s2 z => ?_) he hpl
  obtain ⟨vs, H2, I2, r, hi, q2⟩ := z
  have hi2 : StX.InsC X H2 a C := .inr hi
  obtain ⟨ox, od, J, hd⟩ := StX.insC_at I2 hi2
  exact ⟨⟨C, ox, od, J, hd⟩, wpAny_call (PySem.W.kco_code I2.kIn J hd co.at_ co.fn co.fi (run_atE (vs := .ref a :: vs) (us := .ref a :: us) F b (hx σ) (hr.mono hk) I2 (.cons rfl r) q2))⟩
theorem pe_meE {pl : Sem Bool} (c : MetX X.prog X.w X.K X.mg X.base k C m sp) (ho : PE X o ta) (hx : ∀ σ, PassesAt (L2N.CX X.prog X.w) X σ (E σ)) (hr : Room j X.A) (hk : k ≤ j) (ha : PA X (e :: es) t)
    (hst : starEach (e :: es) X.env = (false, eval e X.env) :: starEach es X.env := by rfl) (hpl : (backTo pos (starEach es X.env)).any (·.1) = false := by rfl)
    (ht : eval (.Call (.Attribute o m apos) (e :: es) [] pos) X.env = (do
      let ov ← eval o X.env
      standAt apos.atName
      let (g, first) ← holding [ov] (getMethod ov m pl)
      callWith pos g first (backTo pos (starEach (e :: es) X.env)) (backToKw pos (keywordEach [] X.env))) := by rfl) : PE X (.Call (.Attribute o m apos) (e :: es) [] pos) (tMeW C m sp E ta t) := by
  obtain ⟨f, fd, ps, cl, me, F, b⟩ := c.ex
  constructor
  intro pins s σ H Q I h
  refine PySem.W.methodCall_KW (pl := pl) (thn (ho.run pins s σ H _ I h) fun u s1 z => ?_) ht
  obtain ⟨y, H1, I1, ry, a, dx, fs, ey, ea, l, q⟩ := z
  subst ey
  obtain rfl : u = Value.ref a := ry
  refine getmeth_ok I1 ea cl me l ?_
  refine PySem.W.callWith_K (first := [.ref a]) (h₀ := X.base) I.ok.mod.kin me.kp (thn (ha.run pos pins s1 σ H1 _ I1 q) fun us s2 z => ?_) hst hpl
  obtain ⟨vs, H2, I2, r, q2⟩ := z
  exact ⟨I2.kIn, wpAny_call (run_atE (vs := .ref a :: vs) (us := .ref a :: us) F b (hx σ) (hr.mono hk) I2 (.cons rfl r) q2)⟩
theorem takes_fn {P : Program} {w : World} {K : PySem.W.Frag} {mg : Str → Option Value} {base : Heap} {N : List Str} {qual : Str} {scope : Scope} {f : Addr} {cd : Value} {A : Around} {outer : List Env} {s : Shared} {H : Hp} {E : XK} : L2N.Takes (cxOf (L2N.CX P w) P w K mg base N qual scope f cd A outer s H E) (fun cls d _ H' => E cls d H') := L2N.takes_of rfl rfl rfl rfl
end
end Z
set_option Elab.async false
set_option linter.all false
set_option maxRecDepth 100000
set_option maxHeartbeats 4000000
namespace Z
open PySem PySem.Spec PyProof.Rows L2 L2H
/-! ### calls within an except suite -/
section
variable {P : Program} {w : World} {K : PySem.W.Frag} {mg : Str → Option Value} {base : Heap} {x qual : Str} {params : Arguments} {body : List Stmt} {scope : Scope} {dvs : List V} {kws : List (Str × V)} {f : Addr} {fd : FuncData}
theorem fund_okH {N ps : List Str} {k : Nat} {sp : Sp} (F : FunD K x qual params body scope dvs kws f fd) (S : FnScope N ps scope) (len : ∀ vs H Q E, sp vs H Q E → vs.length = ps.length)
    (hbody : ∀ (cdv : Value) (A : Around) (outer : List Env) (s : Shared) (H : Hp) (vs : List V) (Q : VK) (E : XK) (p : Addr × Obj), Hot1 A p → RoomH k (A.deeper (envOfC qual scope s.heap.objs.size f cdv)) → sp vs H Q E →
      ∃ t, PSs (cxH CX0 P w K mg base N qual scope f cdv A outer s H E p) body t ∧ t { nx := fun _ H' => Q .non H', rt := Q } (L2.start N vs) H) : FnH P w K mg base CX0 (k + 1) f fd ps sp := by
  obtain ⟨oc, od, dV, kV, doc, pm, an, cdv, ct, osl, rfl, lk, hcd, _, _⟩ := F.ex
  exact fn_ofH lk hcd S len (hbody cdv)
structure CalH (P : Program) (w : World) (K : PySem.W.Frag) (mg : Str → Option Value) (base : Heap) (k : Nat) (x : Str) (sp : Sp) : Prop where
  ex : ∃ (f : Addr) (fd : FuncData) (ps : List Str), FnH P w K mg base CX0 k f fd ps sp ∧ mg x = some (.ref f) ∧ PySem.W.keepIn K (.ref f) = true ∧ Binds K fd ps []
end
section
variable {X : Cx} {k j : Nat} {x : Str} {sp : Sp} {p pos : Pos} {e : Expr} {es : List Expr} {t : TA}
theorem pe_clH (c : CalH X.prog X.w X.K X.mg X.base k x sp) (hr : RoomH j X.A) (hk : k ≤ j) (hc : HotC X) (hg : Gl X x) (ha : PA X (e :: es) t) (hdb : (x == ("__debug__" : Str)) = false := by decide) (he : starEach (e :: es) X.env = (false, eval e X.env) :: starEach es X.env := by rfl) (hpl : (backTo pos (starEach es X.env)).any (·.1) = false := by rfl) :
    PE X (.Call (.Name x p) (e :: es) [] pos) (tCallS sp (fun _ => E0) t) := by
  obtain ⟨f, fd, ps, F, hm, kp, b⟩ := c.ex
  exact pe_callH F (hr.mono hk) hc hg hm kp b (fun σ _ _ _ _ _ _ h => h.elim) ha hdb he hpl
theorem hotC_suite {a : Addr} {cls : Value} {d : Option Addr} {oe : Obj} {pn : List (Addr × Obj)} (hz : L2N.Zn cls d oe) (hf : ∃ vs, oe.data = .fields vs) : HotC (X.suite a ((a, oe) :: pn)) := by
  obtain ⟨vs, e⟩ := hf
  exact ⟨(a, oe), ⟨rfl, vs, e, hz.2.2 vs e⟩, List.mem_cons_self⟩
theorem room_mark {v : Option Value} {A : Around} (r : Room j A) : RoomH j (A.mark v) := roomH_mark r v
theorem takes0N : L2N.Takes X (fun _ _ _ _ => False) := fun _ _ x => by
  obtain ⟨_, _, _, _, _, _, _, _, _, _, _, _, _, _, _, _, z⟩ := x
  exact z.elim
end
theorem hotC_fn {P : Program} {w : World} {K : PySem.W.Frag} {mg : Str → Option Value} {base : Heap} {CX : CXT} {N : List Str} {qual : Str} {scope : Scope} {f : Addr} {cd : Value} {A : Around} {outer : List Env} {s : Shared} {H : Hp} {E : XK} {p : Addr × Obj} (h : Hot1 A p) : HotC (cxH CX P w K mg base N qual scope f cd A outer s H E p) :=
  ⟨p, ⟨h.1, h.2⟩, List.mem_cons_self⟩
end Z
set_option Elab.async false
set_option linter.all false
set_option maxRecDepth 100000
set_option maxHeartbeats 4000000
namespace Z
open PySem PySem.Spec PyProof.Rows L2 NdefX
/-! ### what the head tells of such a class -/
def oexB (K : PySem.W.Frag) (C : Addr) : Bool := (match K.lookup C with
  | some ⟨.type t, _, .cls cd, sl⟩ => (match cd.mro, sl.toList with
    | .ref D :: bm, [_, _, _, _, some (.builtin n), _] => decide (t = "type") && (decide (D = C) && (decide (n = "ValueError.__new__") && (!cd.hasDel && (cd.hasDict && PySem.HandSPX.refsVE bm))))
    | _, _ => false)
  | _ => false) && (He.eqO (PySem.W.findIn K (.ref C) "__setattr__") (some (some (.builtin "object.__setattr__"))) && (decide (PySem.W.subIn K (.ref C) (.type "BaseException") = some true) && (decide (PySem.W.typeIn K (.ref C) = some (.type "type")) && PySem.W.keepIn K (.ref C))))
theorem oexB_ok {K : PySem.W.Frag} {C : Addr} (h : oexB K C = true) : OexC K C := by
  obtain ⟨h0, h⟩ := He.ba h
  obtain ⟨h1, h⟩ := He.ba h
  obtain ⟨h2, h⟩ := He.ba h
  obtain ⟨h3, h4⟩ := He.ba h
  refine ⟨?_, He.eqO_ok h1, of_decide_eq_true h2, of_decide_eq_true h3, h4⟩
  split at h0
  · next t dd cd sl lk =>
    split at h0
    · next D bm a0 a1 a2 a3 n a5 em es =>
      obtain ⟨g1, h0⟩ := He.ba h0
      obtain ⟨g2, h0⟩ := He.ba h0
      obtain ⟨g3, h0⟩ := He.ba h0
      obtain ⟨g4, h0⟩ := He.ba h0
      obtain ⟨g5, g6⟩ := He.ba h0
      have g1 := of_decide_eq_true g1
      have g2 := of_decide_eq_true g2
      have g3 := of_decide_eq_true g3
      subst g1 g2 g3
      obtain ⟨c1, c2, c3, c4, c5, c6, c7, c8, c9, c10, c11⟩ := cd
      have k3 : c3 = .ref D :: bm := em
      have k4 : c11 = false := by
        have z : (!c11) = true := g4
        cases c11
        · rfl
        · cases z
      have k5 : c6 = true := g5
      clear em g4 g5
      subst k3 k4 k5
      refine ⟨c1, c5, c4, c2, bm, c7, c8, c9, c10, dd, a0, a1, a2, a3, a5, ?_, g6⟩
      rw [lk]
      have : sl = #[a0, a1, a2, a3, some (.builtin "ValueError.__new__"), a5] := by
        apply Array.toList_inj.mp
        rw [es]
      rw [this]
    · cases h0
  · cases h0
def initFd (K : PySem.W.Frag) (C : Addr) : Option FuncData := match K.lookup (He.ma K C "__init__") with
  | some ⟨_, _, .func fd, _⟩ => some fd
  | _ => none
abbrev SupV : Type := Option (Str × Str × Arguments × FuncBody × Scope × Addr × List Str × Value × Addr)
def supObs (K : PySem.W.Frag) (x : Str) : SupV := (initFd K (He.ga K x)).map fun fd => (fd.name, fd.qualname, fd.params, fd.body, fd.scope, fd.globals, fd.closure.map (·.1), fd.defaults, fd.builtins)
def supVal (q : Str) (st : Stmt) : SupV := some ("__init__", q, defArgs st, .stmts (defBody st), defScope st, mainGlobals, ["__class__"], .none, builtinsNs)
def supB (fl : Str) (K : PySem.W.Frag) (C : Addr) (q : Str) : Bool := (match initFd K C with
  | some fd => (match fd.code, fd.closure with
    | .ref c, [(_, cc)] => PySem.W.codeIn K (.ref c) q && ((match K.lookup c with
      | some ⟨_, _, .fields vs, _⟩ => (match (vs[2]? : Option Value) with
        | some (.str file _) => fl == file
        | _ => false)
      | _ => false) && (match K.lookup cc with
      | some ⟨_, _, .cell (some (.ref D)), _⟩ => decide (D = C)
      | _ => false))
    | _, _ => false)
  | none => false) && (decide (PySem.W.mroIn K C (.ref C) = some true) && (He.eqO (PySem.W.nsIn K cStatics "thirdparty.any") (some none) && (He.eqO (PySem.W.ks_superIn K C C "__init__") (some (some (.builtin "ValueError.__init__"))) && (decide (PySem.W.subIn K (.ref C) (.type "ValueError") = some true) && (PySem.W.excInitIn K C He.veBase "ValueError.__new__" && oexB K C)))))
theorem sup_of {P : Program} {K : PySem.W.Frag} {x q fl : Str} {st : Stmt} (h1 : supObs K x = supVal q st) (h2 : supB fl K (He.ga K x) q = true) (hfl : ((P.main.file : Str) == fl) = true) (htop : (P.main.scope.names.lookup ("super" : Str)).isSome = false) :
    ∃ (c cc : Addr) (fd : FuncData) (kV doc pm ct : Value) (an : Option Addr), fd = PySem.W.fnX "__init__" q (defArgs st) (defBody st) (defScope st) [(("__class__" : Str), cc)] .none kV doc pm an (.ref c) ct ∧ SupK P K (He.ga K x) (He.ma K (He.ga K x) "__init__") c cc fd ∧ PySem.W.codeIn K (.ref c) q = true := by
  obtain ⟨g0, h2⟩ := He.ba h2
  obtain ⟨g1, h2⟩ := He.ba h2
  obtain ⟨g2, h2⟩ := He.ba h2
  obtain ⟨g3, h2⟩ := He.ba h2
  obtain ⟨g4, h2⟩ := He.ba h2
  obtain ⟨g5, g6⟩ := He.ba h2
  unfold supObs at h1
  cases e : initFd K (He.ga K x) with
  | none =>
    rw [e] at h1
    cases h1
  | some fd =>
    rw [e] at h1 g0
    have lk : ∃ oc od osl, K.lookup (He.ma K (He.ga K x) "__init__") = some ⟨oc, od, .func fd, osl⟩ := by
      unfold initFd at e
      split at e
      · next oc od fd' osl l =>
        cases e
        exact ⟨_, _, _, l⟩
      · cases e
    obtain ⟨n1, n2, n3, n4, n5, n6, n7, n8, n9, n10, n11, n12, n13, n14, n15⟩ := fd
    have h1 : (some (n1, n2, n3, n4, n5, n6, n7.map (·.1), n8, n15) : SupV) = supVal q st := h1
    unfold supVal at h1
    simp only [Option.some.injEq, Prod.mk.injEq] at h1
    obtain ⟨a1, a2, a3, a4, a5, a6, a7, a8, a9⟩ := h1
    subst a1 a2 a3 a4 a5 a6 a8 a9
    dsimp only at g0
    split at g0
    · next c y cc =>
      obtain ⟨b1, g0⟩ := He.ba g0
      obtain ⟨b2, b3⟩ := He.ba g0
      have ey : y = "__class__" := by
        have := a7
        simpa using this
      subst ey
      refine ⟨c, cc, _, _, _, _, _, _, rfl, ⟨lk, ?_, ?_, htop, of_decide_eq_true g1, He.eqO_ok g2, He.eqO_ok g3, of_decide_eq_true g4, g5, oexB_ok g6⟩, b1⟩
      · split at b2
        · next u1 u2 vs u3 l =>
          split at b2
          · next file tf ev =>
            refine ⟨_, _, vs, _, file, tf, l, ev, ?_⟩
            rw [beq_iff_eq.mp b2] at hfl
            exact hfl
          · cases b2
        · cases b2
      · split at b3
        · next u1 u2 D u3 l =>
          have := of_decide_eq_true b3
          subst this
          exact ⟨_, _, _, l⟩
        · cases b3
    · cases g0
end Z
set_option Elab.async false
set_option linter.all false
set_option maxRecDepth 100000
set_option maxHeartbeats 4000000
namespace Z
open PySem PySem.Spec PyProof.Rows L2 NdefX
/-! ### isinstance(e, c), e a caught error with a dict of its own -/
def rIsX (K : PySem.W.Frag) (a : Addr) (cls : Value) (d : Option Addr) : List V → Hp → VK → Prop := fun xs H Q => ∃ (D dd : Addr) (fs : List (Str × V)) (c : V) (cv : Value) (b : Bool), cls = .ref D ∧ d = some dd ∧ ExcC K D ∧ H dd = some (.xd fs) ∧ xs = [.ref a, c] ∧ (∀ u, RelV c u → u = cv) ∧ PySem.W.kitOne K (.ref D) cv = some b ∧ Q (.bl b) H
theorem call_isX {X : Cx} {a : Addr} {cls : Value} {d : Option Addr} {oe : Obj} {pn : List (Addr × Obj)} (hz : Zc cls d oe) (hf : ∃ vs, oe.data = .fields vs) : CallR (X.suite a ((a, oe) :: pn)) (.builtin "isinstance") (rIsX X.K a cls d) := by
  intro pins s σ H xs us Q I r h
  obtain ⟨D, dd, fs, c, cv, b, rfl, rfl, C, ed, rfl, hcv, e, q⟩ := h
  obtain ⟨u1, u2, rfl, r1, r2⟩ := vals2 r
  cases r1
  have ec := hcv _ r2
  subst ec
  obtain ⟨hget, _⟩ := I.pin (a, oe) (List.mem_append.mpr (.inl List.mem_cons_self))
  obtain ⟨vs, hv⟩ := hf
  have hx : ObjOk X.prog X.w H s.heap dd (.xd fs) := I.hok dd _ ed
  obtain ⟨mA, hns, hr⟩ := hx
  obtain ⟨od, ho, hl⟩ := lookIn_ns hns
  have J : PySem.W.InstAt s.heap a oe D (some od) := ⟨hget, hz.1, by unfold PySem.W.notCls; rw [hv] <;> rfl, by rw [hz.2]; exact ho⟩
  have hcl : (PySem.W.clsIn X.K D).isSome = true := by
    obtain ⟨cd, hc, _⟩ := PySem.W.any_some C.hd
    rw [hc]
    rfl
  exact PySem.W.kia_one (PySem.W.kitx_exc hcl C.hg C.hk C.hs C.ha C.hn C.ht C.hm) I.kIn J e (fun z => nomatch z) fun tk => ⟨.bl b, H, I.kept (t' := tk) fun _ _ z => z, rfl, q⟩
end Z
set_option Elab.async false
set_option linter.all false
set_option maxRecDepth 100000
set_option maxHeartbeats 4000000
namespace Z
open PySem PySem.Spec PyProof.Rows L2 NdefX
/-! ### the head with own exceptions: facts of defs and classes, one more Bool, the __init__s -/
def asX (g : Addr → Option Obj) (n : Nat) : List Addr := He.asD g n ++ [cStatics]
def hookX (n : Nat) (fa : List He.Fa) (fn : List He.DefD) (xs : List Str) (vs : List SupV) (ex : PySem.W.Frag → Bool) : PySem.W.Hook where
  α := He.AlD × (List SupV × Bool)
  obs := fun s => (He.obsD fa fn (He.frG s.heap.get? (asX s.heap.get? n)), xs.map (supObs (He.frG s.heap.get? (asX s.heap.get? n))), ex (He.frG s.heap.get? (asX s.heap.get? n)))
  val := fun _ => (He.valD fn, vs, true)
  says := fun _ h => ∃ K : PySem.W.Frag, K.In h ∧ He.SaysD fa fn K ∧ xs.map (supObs K) = vs ∧ ex K = true
  of := fun _ _ e => ⟨_, He.frG_in, congrArg (fun z : He.AlD × (List SupV × Bool) => z.1) e, congrArg (fun z : He.AlD × (List SupV × Bool) => z.2.1) e, congrArg (fun z : He.AlD × (List SupV × Bool) => z.2.2) e⟩
  keeps := fun _ _ _ ⟨K, hK, c⟩ k => ⟨K, PySem.W.Frag.In.keeps hK k, c⟩
def obX (n : Nat) (fa : List He.Fa) (fn : List He.DefD) (xs : List Str) (ex : PySem.W.Frag → Bool) (g : Addr → Option Obj) : He.AlD × (List SupV × Bool) := (He.obsD fa fn (He.frG g (asX g n)), xs.map (supObs (He.frG g (asX g n))), ex (He.frG g (asX g n)))
theorem obX_eq {n : Nat} {fa : List He.Fa} {fn : List He.DefD} {xs : List Str} {vs : List SupV} {ex : PySem.W.Frag → Bool} {g : Addr → Option Obj} {s : Shared} (h : ∀ a, g a = s.heap.get? a) : obX n fa fn xs ex g = (hookX n fa fn xs vs ex).obs s := by
  have e : g = s.heap.get? := funext h
  rw [e] <;> rfl
theorem sup_at {xs : List Str} {vs : List SupV} {K : PySem.W.Frag} (e : xs.map (supObs K) = vs) (i : Nat) {x : Str} {v : SupV} (h1 : xs[i]? = some x := by rfl) (h2 : vs[i]? = some v := by rfl) : supObs K x = v := by
  have := congrArg (fun z : List SupV => z[i]?) e
  simp only [List.getElem?_map, h1, h2] at this
  exact Option.some.inj this
def excB (K : PySem.W.Frag) (D : Addr) : Bool := He.eqO (PySem.W.findIn K (.ref D) "__getattribute__") (some (some (.builtin "BaseException.__getattribute__"))) && (He.eqO (PySem.W.findIn K (.ref D) "__getattr__") (some none) && (decide (PySem.W.subIn K (.ref D) (.type "BaseException") = some true) && (PySem.W.hasDictIn K D && (He.eqO (PySem.W.findIn K (.ref D) "__class__") (some (some (.builtin "object.__class__"))) && (He.eqO (PySem.W.specialIn K (.builtin "object.__class__") "__get__") (some (some (.builtin "getset_descriptor.__get__"))) && (decide (PySem.W.takesIn K (.builtin "object.__class__") = some true) && decide (PySem.W.mroIn K D (.type "object") = some true)))))))
theorem excB_ok {K : PySem.W.Frag} {D : Addr} (h : excB K D = true) : ExcC K D ∧ XfC K D := by
  obtain ⟨h1, h⟩ := He.ba h
  obtain ⟨h2, h⟩ := He.ba h
  obtain ⟨h3, h⟩ := He.ba h
  obtain ⟨h4, h⟩ := He.ba h
  obtain ⟨h5, h⟩ := He.ba h
  obtain ⟨h6, h⟩ := He.ba h
  obtain ⟨h7, h8⟩ := He.ba h
  exact ⟨⟨He.eqO_ok h1, He.eqO_ok h2, of_decide_eq_true h3, h4, He.eqO_ok h5, He.eqO_ok h6, of_decide_eq_true h7, of_decide_eq_true h8⟩, ⟨He.eqO_ok h1, He.eqO_ok h2, of_decide_eq_true h3, h4⟩⟩
/-- an own exception class with the field -/
def exnB (fl q field : Str) (K : PySem.W.Frag) (C : Addr) : Bool := supB fl K C q && (He.eqO (PySem.W.findIn K (.ref C) "__init__") (some (some (.ref (He.ma K C "__init__")))) && (decide (PySem.W.typeIn K (.ref (He.ma K C "__init__")) = some (.type "function")) && (He.eqO (PySem.W.findIn K (.ref C) field) (some none) && excB K C)))
structure ExnF (K : PySem.W.Frag) (C : Addr) (q field fl : Str) : Prop where
  sup : supB fl K C q = true
  ini : PySem.W.findIn K (.ref C) "__init__" = some (some (.ref (He.ma K C "__init__")))
  ty : PySem.W.typeIn K (.ref (He.ma K C "__init__")) = some (.type "function")
  no : PySem.W.findIn K (.ref C) field = some none
  ec : ExcC K C
  xf : XfC K C
theorem exnB_ok {fl q field : Str} {K : PySem.W.Frag} {C : Addr} (h : exnB fl q field K C = true) : ExnF K C q field fl := by
  obtain ⟨h1, h⟩ := He.ba h
  obtain ⟨h2, h⟩ := He.ba h
  obtain ⟨h3, h⟩ := He.ba h
  obtain ⟨h4, h5⟩ := He.ba h
  exact ⟨h1, He.eqO_ok h2, of_decide_eq_true h3, He.eqO_ok h4, (excB_ok h5).1, (excB_ok h5).2⟩
def exmB (K : PySem.W.Frag) (a b : Addr) : Bool := decide (PySem.W.exmOne K (.ref a) (.ref b) = some true)
def kitVB (K : PySem.W.Frag) (a : Addr) (v : Value) (b : Bool) : Bool := decide (PySem.W.kitOne K (.ref a) v = some b)
end Z
set_option Elab.async false
set_option linter.all false
set_option maxRecDepth 100000
set_option maxHeartbeats 4000000
namespace Z
open PySem PySem.Spec PyProof.Rows L2 NdefX
/-! ### the head with own exceptions and properties: further observations are any functions of the written part -/
def hookY (n : Nat) (fa : List He.Fa) (fn : List He.DefD) (xs : List (PySem.W.Frag → SupV)) (vs : List SupV) (ex : PySem.W.Frag → Bool) : PySem.W.Hook where
  α := He.AlD × (List SupV × Bool)
  obs := fun s => (He.obsD fa fn (He.frG s.heap.get? (asX s.heap.get? n)), xs.map (fun f => f (He.frG s.heap.get? (asX s.heap.get? n))), ex (He.frG s.heap.get? (asX s.heap.get? n)))
  val := fun _ => (He.valD fn, vs, true)
  says := fun _ h => ∃ K : PySem.W.Frag, K.In h ∧ He.SaysD fa fn K ∧ xs.map (fun f => f K) = vs ∧ ex K = true
  of := fun _ _ e => ⟨_, He.frG_in, congrArg (fun z : He.AlD × (List SupV × Bool) => z.1) e, congrArg (fun z : He.AlD × (List SupV × Bool) => z.2.1) e, congrArg (fun z : He.AlD × (List SupV × Bool) => z.2.2) e⟩
  keeps := fun _ _ _ ⟨K, hK, c⟩ k => ⟨K, PySem.W.Frag.In.keeps hK k, c⟩
def obY (n : Nat) (fa : List He.Fa) (fn : List He.DefD) (xs : List (PySem.W.Frag → SupV)) (ex : PySem.W.Frag → Bool) (g : Addr → Option Obj) : He.AlD × (List SupV × Bool) := (He.obsD fa fn (He.frG g (asX g n)), xs.map (fun f => f (He.frG g (asX g n))), ex (He.frG g (asX g n)))
theorem obY_eq {n : Nat} {fa : List He.Fa} {fn : List He.DefD} {xs : List (PySem.W.Frag → SupV)} {vs : List SupV} {ex : PySem.W.Frag → Bool} {g : Addr → Option Obj} {s : Shared} (h : ∀ a, g a = s.heap.get? a) : obY n fa fn xs ex g = (hookY n fa fn xs vs ex).obs s := by
  have e : g = s.heap.get? := funext h
  rw [e] <;> rfl
theorem y_at {xs : List (PySem.W.Frag → SupV)} {vs : List SupV} {K : PySem.W.Frag} (e : xs.map (fun f => f K) = vs) (i : Nat) {f : PySem.W.Frag → SupV} {v : SupV} (h1 : xs[i]? = some f := by rfl) (h2 : vs[i]? = some v := by rfl) : f K = v := by
  have := congrArg (fun z : List SupV => z[i]?) e
  simp only [List.getElem?_map, h1, h2] at this
  exact Option.some.inj this
def isB (K : PySem.W.Frag) (C : Addr) : Bool := He.eqO (PySem.W.findIn K (.ref C) "__class__") (some (some (.builtin "object.__class__"))) && (He.eqO (PySem.W.specialIn K (.builtin "object.__class__") "__get__") (some (some (.builtin "getset_descriptor.__get__"))) && (decide (PySem.W.takesIn K (.builtin "object.__class__") = some true) && (decide (PySem.W.mroIn K C (.type "object") = some true) && decide (PySem.W.kitOne K (.ref C) (.ref C) = some true))))
theorem isB_ok {K : PySem.W.Frag} {C : Addr} (cl : Cls K C) (h : isB K C = true) : C8.InsC K C := by
  obtain ⟨h1, h⟩ := He.ba h
  obtain ⟨h2, h⟩ := He.ba h
  obtain ⟨h3, h⟩ := He.ba h
  obtain ⟨h4, h5⟩ := He.ba h
  exact ⟨cl, He.eqO_ok h1, He.eqO_ok h2, of_decide_eq_true h3, of_decide_eq_true h4, of_decide_eq_true h5⟩
def spB (K : PySem.W.Frag) (C : Addr) (m : Str) : Bool := He.eqO (PySem.W.findIn K (.ref C) m) (some (some (.ref (He.ma K C m)))) && (PySem.W.isFn K (.ref (He.ma K C m)) && PySem.W.fnIn K (He.ma K C m))
theorem spB_ok {K : PySem.W.Frag} {C : Addr} {m : Str} (h : spB K C m = true) : PySem.W.findIn K (.ref C) m = some (some (.ref (He.ma K C m))) ∧ PySem.W.isFn K (.ref (He.ma K C m)) = true ∧ PySem.W.fnIn K (He.ma K C m) = true := by
  obtain ⟨h1, h⟩ := He.ba h
  obtain ⟨h2, h3⟩ := He.ba h
  exact ⟨He.eqO_ok h1, h2, h3⟩
theorem all_at {bs : List Bool} (h : bs.all id = true) (i : Nat) {b : Bool} (e : bs[i]? = some b := by rfl) : b = true := List.all_eq_true.mp h b (List.mem_of_getElem? e)
theorem fnr_ok {P : Program} {w : World} {K : PySem.W.Frag} {mg : Str → Option Value} {base : Heap} {k : Nat} {f : Addr} {fd : FuncData} {ps : List Str} {sp : Sp} (F : FnOk P w K mg base CX0 k f fd ps sp) (b : Binds K fd ps []) : FnR P w K mg base CX0 k f sp := (FnOk.raw (dvs := []) F b .nil).imp fun vs H Q E h => by
  show sp (vs ++ []) H Q E
  rw [List.append_nil]
  exact h
/-! a property's getter -/
def gtA (K : PySem.W.Frag) (C : Addr) (m : Str) : Addr := match PySem.W.recIn K (He.ma K C m) "property" with
  | some (.ref g :: _) => g
  | _ => 0
def fdAt (K : PySem.W.Frag) (g : Addr) : Option FuncData := match K.lookup g with
  | some ⟨_, _, .func fd, _⟩ => some fd
  | _ => none
def propObs (x m : Str) (K : PySem.W.Frag) : SupV := (fdAt K (gtA K (He.ga K x) m)).map fun fd => (fd.name, fd.qualname, fd.params, fd.body, fd.scope, fd.globals, fd.closure.map (·.1), fd.defaults, fd.builtins)
def propVal (m q : Str) (st : Stmt) : SupV := some (m, q, defArgs st, .stmts (defBody st), defScope st, mainGlobals, [], .none, builtinsNs)
def propB (K : PySem.W.Frag) (C : Addr) (m q : Str) : Bool := He.eqO (PySem.W.findIn K (.ref C) m) (some (some (.ref (He.ma K C m)))) && (He.eqO (PySem.W.specialIn K (.ref (He.ma K C m)) "__get__") (some (some (.builtin "property.__get__"))) && (decide (PySem.W.takesIn K (.ref (He.ma K C m)) = some true) && ((match PySem.W.recIn K (He.ma K C m) "property" with
  | some (.ref _ :: _) => true
  | _ => false) && (PySem.W.keepIn K (.ref (gtA K C m)) && (match fdAt K (gtA K C m) with
  | some fd => PySem.W.codeIn K fd.code q && (He.dflB K fd.defaults [] && He.kwdB K fd.kwdefaults [])
  | none => false)))))
theorem prop_of {K : PySem.W.Frag} {x m q : Str} {st : Stmt} (h1 : propObs x m K = propVal m q st) (h2 : propB K (He.ga K x) m q = true) : ∃ fd : FuncData, PropOf K (He.ga K x) m (He.ma K (He.ga K x) m) (gtA K (He.ga K x) m) ∧ FunD K m q (defArgs st) (defBody st) (defScope st) [] [] (gtA K (He.ga K x) m) fd := by
  obtain ⟨g0, h2⟩ := He.ba h2
  obtain ⟨g1, h2⟩ := He.ba h2
  obtain ⟨g2, h2⟩ := He.ba h2
  obtain ⟨g3, h2⟩ := He.ba h2
  obtain ⟨g4, g5⟩ := He.ba h2
  have P : PropOf K (He.ga K x) m (He.ma K (He.ga K x) m) (gtA K (He.ga K x) m) := by
    refine ⟨He.eqO_ok g0, He.eqO_ok g1, of_decide_eq_true g2, ?_⟩
    unfold gtA
    split at g3
    · next g rest e =>
      rw [e]
      exact ⟨rest, rfl⟩
    · cases g3
  unfold propObs at h1
  cases e : fdAt K (gtA K (He.ga K x) m) with
  | none =>
    rw [e] at h1
    cases h1
  | some fd =>
    rw [e] at h1 g5
    have lk : ∃ oc od osl, K.lookup (gtA K (He.ga K x) m) = some ⟨oc, od, .func fd, osl⟩ := by
      unfold fdAt at e
      split at e
      · next oc od fd' osl l =>
        cases e
        exact ⟨_, _, _, l⟩
      · cases e
    obtain ⟨oc, od, osl, lk⟩ := lk
    obtain ⟨n1, n2, n3, n4, n5, n6, n7, n8, n9, n10, n11, n12, n13, n14, n15⟩ := fd
    have h1 : (some (n1, n2, n3, n4, n5, n6, n7.map (·.1), n8, n15) : SupV) = propVal m q st := h1
    unfold propVal at h1
    simp only [Option.some.injEq, Prod.mk.injEq] at h1
    obtain ⟨a1, a2, a3, a4, a5, a6, a7, a8, a9⟩ := h1
    have a7 : n7 = [] := List.map_eq_nil_iff.mp a7
    subst a1 a2 a3 a4 a5 a6 a7 a8 a9
    obtain ⟨k1, k2⟩ := He.ba (show (PySem.W.codeIn K n13 n2 && (He.dflB K .none [] && He.kwdB K n9 [])) = true from g5)
    obtain ⟨k3, k4⟩ := He.ba k2
    exact ⟨_, P, ⟨oc, od, _, n9, n10, n11, n12, n13, n14, osl, rfl, lk, k1, He.dflB_ok k3, He.kwdB_ok k4⟩, g4⟩
end Z
set_option Elab.async false
set_option linter.all false
set_option maxRecDepth 100000
set_option maxHeartbeats 4000000
namespace Z
open PySem PySem.Spec PyProof.Rows L2
/-! ### comprehensions that give ints, over a list of ints and over a range -/
theorem lc_ofs {K : PySem.W.Frag} {J : It} {D : Addr} {n : Nat} {H0 : Hp} {i : Nat} {te : TE} {vs : List Nat} {σ : L2.St} {Qd : Hp → Prop} (g : Nat → Int) (xv : Nat → V) (hn : n ≤ 1000000) (nD : H0 D = none)
    (hgo : ∀ k H1, k < n → Same H0 H1 → J.go k H1) (hst : ∀ H1, Same H0 H1 → J.stop n H1) (hy : ∀ k H1 x H2, k < n → Same H0 H1 → J.yld k H1 x H2 → H2 = H1 ∧ x = xv k)
    (hw : ∀ k, wipe ((wipe σ vs).set i (some (xv k))) vs = wipe σ vs)
    (ht : ∀ k H1 (Q : VK), k < n → Same H0 H1 → (∀ H2, Same H1 H2 → Q (.int (g k)) H2) → te ((wipe σ vs).set i (some (xv k))) H1 Q)
    (hd : ∀ H1, Same H0 H1 → H1 D = some (.lst (((List.range n).map g).map V.int)) → Qd H1) : lcW J (gName i) tYes te vs σ D Qd H0 := by
  refine lc_gen (n := n) (fun k H1 => Same H0 H1 ∧ H1 D = some (.lst (((List.range k).map g).map V.int))) ⟨same_new nD, upd_same⟩ (fun k H1 hk p => hgo k H1 hk p.1) (fun H1 p => hst H1 p.1) ?_ (fun H1 p => hd H1 p.1 p.2)
  rintro k H1 x H2 hk ⟨s, e⟩ y
  obtain ⟨rfl, rfl⟩ := hy k H1 x H2 hk s y
  refine ⟨hw k, ?_⟩
  refine ht k _ _ hk s (fun H3 s3 => ⟨_, s3 _ _ e, ?_, Z.Same.mut (s.trans s3) nD, ?_⟩)
  · rw [List.length_map, List.length_map, List.length_range]
    exact Nat.lt_of_lt_of_le hk (Nat.le_trans hn (by decide))
  · rw [upd_same, List.range_succ, List.map_append, List.map_append]
    rfl
theorem lc_rng {K : PySem.W.Frag} {lo : Int} {D : Addr} {n : Nat} {H0 : Hp} {i : Nat} {te : TE} {vs : List Nat} {σ : L2.St} {Qd : Hp → Prop} (g : Nat → Int) (hn : n ≤ 1000000) (nD : H0 D = none) (hw : ∀ k : Nat, wipe ((wipe σ vs).set i (some (.int (lo + k)))) vs = wipe σ vs)
    (ht : ∀ (k : Nat) H1 (Q : VK), k < n → Same H0 H1 → (∀ H2, Same H1 H2 → Q (.int (g k)) H2) → te ((wipe σ vs).set i (some (.int (lo + k)))) H1 Q)
    (hd : ∀ H1, Same H0 H1 → H1 D = some (.lst (((List.range n).map g).map V.int)) → Qd H1) : lcW (Itr lo n) (gName i) tYes te vs σ D Qd H0 :=
  lc_ofs (K := K) g (fun k => .int (lo + k)) hn nD (fun k H1 hk _ => hk) (fun H1 _ => Nat.le_refl _) (fun k H1 x H2 _ _ y => y) hw ht hd
theorem lc_lst {K : PySem.W.Frag} {a D : Addr} {xs : List Int} {H0 : Hp} {i : Nat} {te : TE} {vs : List Nat} {σ : L2.St} {Qd : Hp → Prop} (hS : SqL K H0 a (xs.map V.int)) (g : Int → Int) (hn : xs.length ≤ 1000000) (nD : H0 D = none) (hw : ∀ x : Int, wipe ((wipe σ vs).set i (some (.int x))) vs = wipe σ vs)
    (ht : ∀ x H1 (Q : VK), x ∈ xs → Same H0 H1 → (∀ H2, Same H1 H2 → Q (.int (g x)) H2) → te ((wipe σ vs).set i (some (.int x))) H1 Q)
    (hd : ∀ H1, Same H0 H1 → H1 D = some (.lst ((xs.map g).map V.int)) → Qd H1) : lcW (Itl K a) (gName i) tYes te vs σ D Qd H0 := by
  have ex : ∀ k, k < xs.length → (xs.map V.int)[k]? = some (.int (xs.getD k 0)) := fun k hk => by
    rw [List.getElem?_map, List.getD_eq_getElem?_getD, List.getElem?_eq_getElem hk]
    rfl
  refine lc_ofs (K := K) (n := xs.length) (fun k => g (xs.getD k 0)) (fun k => .int (xs.getD k 0)) hn nD (fun k H1 hk s => ⟨_, _, s.seq hS, ex k hk⟩) (fun H1 s => ⟨_, s.seq hS, by rw [List.length_map]; exact Nat.le_refl _⟩) (fun k H1 x H2 hk s y => ⟨y.1, Option.some.inj ((y.2 _ (s.seq hS)).symm.trans (ex k hk))⟩) (fun k => hw _) (fun k H1 Q hk s q => ht _ H1 Q ?_ s q) (fun H1 s e => hd H1 s ?_)
  · rw [List.getD_eq_getElem?_getD, List.getElem?_eq_getElem hk]
    exact List.getElem_mem hk
  · rw [e]
    congr 2
    congr 1
    apply List.ext_getElem
    · rw [List.length_map, List.length_map, List.length_range]
    · intro k h1 h2
      rw [List.length_map] at h2
      rw [List.getElem_map, List.getElem_map, List.getElem_range, List.getD_eq_getElem?_getD, List.getElem?_eq_getElem h2]
      rfl
/-- for x in xs, ints -/
theorem for_lst {K : PySem.W.Frag} {a : Addr} {xs : List Int} {H0 H : Hp} {i : Nat} {tb : TS} {D : Ends} {σ : L2.St} (hS : SqL K H0 a (xs.map V.int)) (Pv : Nat → L2.St → Hp → Prop) (h0 : Pv 0 σ H) (hq : ∀ k σ H1, Pv k σ H1 → Same H0 H1)
    (hs : ∀ (k : Nat) (x : Int) (σ : L2.St) (H1 : Hp), xs[k]? = some x → Pv k σ H1 → tb { D with nx := Pv (k + 1), ct := Pv (k + 1), bk := D.nx } (σ.set i (some (.int x))) H1)
    (hd : ∀ σ H1, Pv xs.length σ H1 → D.nx σ H1) : forW (Itl K a) (gName i) tb D σ H := by
  have ex : ∀ k, k < xs.length → (xs.map V.int)[k]? = some (.int (xs.getD k 0)) := fun k hk => by
    rw [List.getElem?_map, List.getD_eq_getElem?_getD, List.getElem?_eq_getElem hk]
    rfl
  refine for_gen (n := xs.length) Pv h0 (fun k σ H1 hk p => ⟨_, _, (hq k σ H1 p).seq hS, ex k hk⟩) (fun σ H1 p => ⟨_, (hq _ σ H1 p).seq hS, by rw [List.length_map]; exact Nat.le_refl _⟩) ?_ hd
  intro k σ H1 x H2 hk p y
  obtain ⟨rfl, e⟩ := y
  have e2 := Option.some.inj ((e _ ((hq k σ _ p).seq hS)).symm.trans (ex k hk))
  subst e2
  refine hs k _ σ _ ?_ p
  rw [List.getD_eq_getElem?_getD, List.getElem?_eq_getElem hk]
  rfl
/-- for x in xs, any values -/
theorem for_vs {K : PySem.W.Frag} {a : Addr} {xs : List V} {H0 H : Hp} {i : Nat} {tb : TS} {D : Ends} {σ : L2.St} (hS : SqL K H0 a xs) (Pv : Nat → L2.St → Hp → Prop) (h0 : Pv 0 σ H) (hq : ∀ k σ H1, Pv k σ H1 → Same H0 H1)
    (hs : ∀ (k : Nat) (x : V) (σ : L2.St) (H1 : Hp), xs[k]? = some x → Pv k σ H1 → tb { D with nx := Pv (k + 1), ct := Pv (k + 1), bk := D.nx } (σ.set i (some x)) H1)
    (hd : ∀ σ H1, Pv xs.length σ H1 → D.nx σ H1) : forW (Itl K a) (gName i) tb D σ H := by
  refine for_gen (n := xs.length) Pv h0 (fun k σ H1 hk p => ⟨_, _, (hq k σ H1 p).seq hS, List.getElem?_eq_getElem hk⟩) (fun σ H1 p => ⟨_, (hq _ σ H1 p).seq hS, Nat.le_refl _⟩) ?_ hd
  intro k σ H1 x H2 hk p y
  obtain ⟨rfl, e⟩ := y
  exact hs k x σ _ (e _ ((hq k σ _ p).seq hS)) p
theorem pe_fld_K {X : Cx} {K : PySem.W.Frag} {e : Expr} {f : Str} {pos : Pos} {ta : TE} (h : X.K = K) (he : PE X e ta) (hb : attributeBase e f X.env (eval e X.env) = eval e X.env) : PE X (.Attribute e f pos) (tFld K ta f) := by
  subst h
  exact pe_fld he hb
/-! ### reads -/
theorem at_nat {xs : List Int} {i : Int} (h0 : 0 ≤ i) (h1 : i < xs.length) : atI (xs.map V.int) i = some (.int (xs.getD i.toNat 0)) := by
  have hk : i.toNat < xs.length := by omega
  rw [show i = ((i.toNat : Nat) : Int) by omega, List.getD_eq_getElem?_getD, Int.toNat_natCast, List.getElem?_eq_getElem hk]
  exact at_map (List.getElem?_eq_getElem hk)
theorem rd_at {K : PySem.W.Frag} {H : Hp} {a : Addr} {xs : List Int} {i : Int} {R : V → Prop} (h : SqL K H a (xs.map V.int)) (h0 : 0 ≤ i) (h1 : i < xs.length) (q : R (.int (xs.getD i.toNat 0))) : ∃ a' ys j v, V.ref a = .ref a' ∧ V.int i = .int j ∧ SqL K H a' ys ∧ atI ys j = some v ∧ R v := ⟨a, _, i, _, rfl, rfl, h, at_nat h0 h1, q⟩
theorem rd_atT {K : PySem.W.Frag} {H : Hp} {a : Addr} {xs : List Int} {i : Int} {R : V → Prop} (h : SqT K H a (xs.map V.int)) (h0 : 0 ≤ i) (h1 : i < xs.length) (q : R (.int (xs.getD i.toNat 0))) : ∃ a' ys j v, V.ref a = .ref a' ∧ V.int i = .int j ∧ SqT K H a' ys ∧ atI ys j = some v ∧ R v := ⟨a, _, i, _, rfl, rfl, h, at_nat h0 h1, q⟩
end Z
set_option Elab.async false
set_option linter.all false
set_option maxRecDepth 100000
set_option maxHeartbeats 4000000
namespace Z
open PySem PySem.Spec PyProof.Rows L2
/-! ### enumerate(x) of one argument: x a list, a tuple or a text -/
theorem enum_new1 {v : Value} {o : Obj} {G : Heap → Prop} (B : Begins v o G) :
    Meets (Builtin.«enumerate.__new__» ⟨[.type "enumerate", v], []⟩) (fun _ R s => G s.heap ∧
      R (.ok (.ret (.ref (s.heap.push o).objs.size))) { s with heap := (s.heap.push o).push { cls := .type "enumerate", data := .fields #[.none, .bool false, .ref s.heap.objs.size, rawInt 0, .none, .none] } }) :=
  .of_wp fun prog w A R s h => by
    obtain ⟨hp, gl, dd, tok, oo⟩ := s
    obtain ⟨g1, h⟩ := h
    have hsub := sub_enumerate
    have step : ∀ {A' : Around} {E : Value → Shared → Prop} {Q : Value → Shared → Prop}, Q (.ref hp.objs.size) ⟨hp.push o, gl, dd, tok, oo⟩ → wpAny (model prog w) A' (pyIter v) Q E ⟨hp, gl, dd, tok, oo⟩ := fun z => B.iter prog w _ _ ⟨hp, gl, dd, tok, oo⟩ _ g1 z
    wp_walk using step
    refine wpAny_stack_any fun _ => wpAny_pure ?_
    split
    · rename_i cc _ _ _ _ _
      cases (cc == Value.type "enumerate") <;>
        (wp_walk using step
         exact ⟨_, rfl, h⟩)
    · wp_walk using step
      exact ⟨_, rfl, h⟩
section
variable {prog : Program} {w : World} {A : Around} {E : Value → Shared → Prop} {s : Shared}
theorem enum_begins1 {v : Value} {o : Obj} {G : Heap → Prop} {Q : Value → Shared → Prop} (B : Begins v o G) (g : G s.heap)
    (h : ∀ h', IsEnum h' (s.heap.objs.size + 1) s.heap.objs.size 0 .none → h'.get? s.heap.objs.size = some o → (∀ b ob, s.heap.get? b = some ob → h'.get? b = some ob) → Q (.ref (s.heap.objs.size + 1)) { s with heap := h' }) :
    wpAny (model prog w) A (call (.type "enumerate") [v]) Q E s := by
  refine callType_new F.called_enumerate (by decide) (F.typeCall_enumerate_1 v) (F.newCall_enumerate_1 v) (fun ob => F.args_object_init_2 ob _) F.entry_enumerate_new (enum_new1 B) ⟨g, ?_⟩
  have sz : (s.heap.push o).objs.size = s.heap.objs.size + 1 := Heap.size_push ..
  show _ ∧ _
  rw [sz]
  have ie : IsEnum ((s.heap.push o).push { cls := .type "enumerate", data := .fields #[.none, .bool false, .ref s.heap.objs.size, rawInt 0, .none, .none] }) (s.heap.objs.size + 1) s.heap.objs.size 0 .none := by
    have z := Heap.get?_push_size (s.heap.push o) (o := { cls := .type "enumerate", data := .fields #[.none, .bool false, .ref s.heap.objs.size, rawInt 0, .none, .none] }) rfl
    rw [sz] at z
    exact z
  exact ⟨⟨_, ie, rfl⟩, h _ ie (Heap.get?_push_of_some _ (Heap.get?_push_size _ B.free)) fun b ob z => Heap.get?_push_of_some _ (Heap.get?_push_of_some _ z)⟩
end
/-- pairs of a turn's number and its item -/
def ItEM (p : Bool) (K : PySem.W.Frag) (a : Addr) : It :=
  ⟨fun i H => ∃ (xs : List V) (x : V), SqK p K H a xs ∧ xs[i]? = some x,
   fun i H v H' => ∃ T x, v = .ref T ∧ H T = none ∧ H' = upd H T (.tup [.int (i : Nat), x]) ∧ (∀ xs, SqK p K H a xs → xs[i]? = some x),
   fun i H => ∃ xs : List V, SqK p K H a xs ∧ xs.length = i⟩
def ItES (z : Str) : It :=
  ⟨fun i _ => i < z.cps.size,
   fun i H v H' => ∃ T c, v = .ref T ∧ H T = none ∧ H' = upd H T (.tup [.int (i : Nat), .str ⟨#[c]⟩]) ∧ z.cps[i]? = some c,
   fun i _ => z.cps.size = i⟩
theorem enum_item {X : Cx} {pins : List (Addr × Obj)} {σ : L2.St} {H : Hp} {s : Shared} {e it : Addr} {fp : List Addr} {n i : Nat} {Pi : Nat → Value → Prop} {Si : Nat → Heap → Prop} {old : Value} {elts : List Expr} {kk : Nat} {tpos : Pos} {E : Value → Shared → Prop}
    (I : Inv X pins σ H s) (hf : ∀ b ∈ [e, it], FpOk X pins H b) (D : Draws X.prog X.w X.A.in1 it fp n Pi Si) (he : IsEnum s.heap e it ((i : Nat) : Int) old) (st : Si i s.heap) (lt : i < n) (ne : e ≠ it) (ef : e ∉ fp)
    (x : V) (ru : ∀ v, Pi i v → L2.RelV x v) :
    wpAny (model X.prog X.w) X.A (pyNext (.ref e)) (fun r s1 => ∃ u, r = some u ∧ wpAny (model X.prog X.w) X.A (letOwnedTupleGo (.Tuple elts kk tpos) (.ref e) u) (fun _ s2 => ∃ T, u = .ref T ∧ H T = none ∧ Inv X pins σ (upd H T (.tup [.int (i : Nat), x])) s2 ∧ (∃ o, IsEnum s2.heap e it ((i + 1 : Nat) : Int) o) ∧ Si (i + 1) s2.heap ∧ ∀ b ∈ [e, it], upd H T (.tup [.int (i : Nat), x]) b = none) E s1) E s := by
  have el : e < s.heap.objs.size := Heap.lt_size he
  have il : it < s.heap.objs.size := by
    obtain ⟨_, z⟩ := D.live _ _ st
    exact Heap.lt_size z
  refine wpAny_pyNext_enum_itemC D he st lt ne ef fun v g tk pv go st' gT gs gk => ?_
  refine ⟨_, rfl, wpAny_letOwnedTupleGo_enum (s := { s with heap := g, toks := tk + 1 }) go fun g2 ge sb => ?_⟩
  have gT2 : g2.get? s.heap.objs.size = some { cls := .type "tuple", data := .seq #[.int i tk, v] } := (sb.2 _ (Nat.ne_of_gt el)).trans gT
  have nw : ObjOk X.prog X.w (upd H s.heap.objs.size (.tup [.int (i : Nat), x])) g2 s.heap.objs.size (.tup [.int (i : Nat), x]) := ⟨by show 2 ≤ sizeLine; decide, [.int i tk, v], .cons ⟨tk, rfl⟩ (.cons (ru v pv) .nil), ⟨_, gT2, rfl, _, rfl⟩⟩
  have I1 : Inv X pins σ (upd H s.heap.objs.size (.tup [.int (i : Nat), x])) { s with heap := g2, toks := tk + 1 } :=
    I.turnedNew (t' := tk + 1) (ch := [e, it]) (fun b ob nb z => (sb.2 b (fun w => nb (by simp [w]))).trans (gk b ob (fun w => nb (by simp [w])) (fun w => nb (by simp [w])) z)) hf (Nat.le_refl _) nw
  refine ⟨_, rfl, I.hok.fresh (Nat.le_refl _), I1, ⟨v, ?_⟩, D.frame _ _ _ st' fun b hb o z => (sb.2 b fun w => ef (w ▸ hb)).trans z, fun b hb => ?_⟩
  · rw [show ((i + 1 : Nat) : Int) = (i : Int) + 1 by omega]
    exact ge
  · have lb : b < s.heap.objs.size := by
      rcases (show b = e ∨ b = it by simpa using hb) with z | z
      · rw [z]
        exact el
      · rw [z]
        exact il
    rw [upd_ne (Nat.ne_of_lt lb)]
    exact (hf b hb).1
theorem enum_done {X : Cx} {pins : List (Addr × Obj)} {σ : L2.St} {H : Hp} {s : Shared} {e it : Addr} {fp : List Addr} {n : Nat} {Pi : Nat → Value → Prop} {Si : Nat → Heap → Prop} {old : Value} {c : Int} {E : Value → Shared → Prop}
    (I : Inv X pins σ H s) (hf : ∀ b ∈ [e, it], FpOk X pins H b) (D : Draws X.prog X.w X.A.in1 it fp n Pi Si) (he : IsEnum s.heap e it c old) (st : Si n s.heap) :
    wpAny (model X.prog X.w) X.A (pyNext (.ref e)) (fun r s1 => r = none ∧ Inv X pins σ H s1) E s := by
  obtain ⟨f0, f1, f2, f3, f4, f5⟩ := hf it (by simp)
  exact wpAny_pyNext_enum_endD D he st fun g gk => ⟨rfl, I.turned (t' := s.toks) (fun b o hb z => gk b o hb z) f0 f1 f3 f4 f5⟩
theorem turn_enumM {p : Bool} {P : Program} {w : World} {K : PySem.W.Frag} {elts : List Expr} {kk : Nat} {tpos : Pos} (a e it : Addr) (ea : e ≠ a) (ia : a ≠ it) :
    Turn P w K (.Tuple elts kk tpos) (ItEM p K a) [e, it] e (fun i h => (∃ old, IsEnum h e it ((i : Nat) : Int) old) ∧ ItK p h it a i ∧ e ≠ it) where
  mem := by simp
  obj := fun i h st b hb => by
    obtain ⟨⟨old, he⟩, hi, _⟩ := st
    rcases (show b = e ∨ b = it by simpa using hb) with z | z
    · rw [z]
      exact ⟨_, he, fun v q => nomatch q⟩
    · rw [z]
      exact hi.obj
  keep := fun i h h' st k => by
    obtain ⟨⟨old, he⟩, hi, ne⟩ := st
    exact ⟨⟨old, k e (by simp) _ he⟩, hi.at' (fun o z => k it (by simp) o z), ne⟩
  item := by
    intro X hP hw hK hc i pins s σ H E I hf st hg
    subst hP hw hK
    obtain ⟨⟨old, he⟩, hi, ne⟩ := st
    obtain ⟨xs, x, qx, ex⟩ := hg
    obtain ⟨us, rx, kx, _⟩ := sqk_is I qx
    obtain ⟨u, eu, ru⟩ := rx.get ex
    have lu : i < us.toArray.size := by simpa using (List.getElem?_eq_some_iff.mp eu).1
    have hh : X.A.in1.handled = none := I.ok.hd hc
    have key : ∀ v, us.toArray[i]? = some v → L2.RelV x v := fun v pv => by
      have t1 : us.toArray[i]? = some u := by simpa using eu
      have t2 : u = v := Option.some.inj (t1.symm.trans pv)
      exact t2 ▸ ru
    refine thn (enum_item (elts := elts) (kk := kk) (tpos := tpos) (E := E) I hf (drawsK p hh it a ia us.toArray) he ⟨hi, kx⟩ lu ne (by simp [ne, ea]) x key) fun r s1 hr => ?_
    obtain ⟨v, er, hv⟩ := hr
    refine ⟨v, er, thn hv fun _ s2 z => ?_⟩
    obtain ⟨T, eT, nT, I2, ie, si, fr⟩ := z
    subst eT
    exact ⟨.ref T, _, I2, rfl, ⟨T, x, rfl, nT, rfl, fun l hl => by rw [sqk_inj I hl qx]; exact ex⟩, ⟨ie, si.1, ne⟩, fr⟩
  done := by
    intro X hP hw hK hc i pins s σ H E I hf st hg
    subst hP hw hK
    obtain ⟨⟨old, he⟩, hi, ne⟩ := st
    obtain ⟨xs, qx, el⟩ := hg
    obtain ⟨us, rx, kx, _⟩ := sqk_is I qx
    have lx := rx.length
    have hh : X.A.in1.handled = none := I.ok.hd hc
    have hn : us.toArray.size = i := by
      rw [List.size_toArray]
      omega
    exact enum_done I hf (drawsK p hh it a ia us.toArray) he (by rw [hn]; exact ⟨hi, kx⟩)
  self := fun A i s Q E st h => by
    obtain ⟨⟨_, he⟩, _⟩ := st
    exact wpAny_pyIter_enum he h
def iEnumM (K : PySem.W.Frag) (ta : TA) : TI := fun σ H R => ta σ H fun vs H1 => ∃ p a xs, vs = [.ref a] ∧ SqK p K H1 a xs ∧ R (ItEM p K a) H1
theorem pi_enumM {X : Cx} {e : Expr} {ta : TA} {p pos tpos : Pos} {elts : List Expr} {kk : Nat} (hg : Gl X "enumerate") (hm : X.mg "enumerate" = none) (ha : PA X [e] ta) (hs : starEach [e] X.env = [(false, eval e X.env)] := by rfl) :
    PI X (.Tuple elts kk tpos) (.Call (.Name "enumerate" p) [e] [] pos) (iEnumM X.K ta) := by
  constructor
  intro pins s σ H R I h
  refine Call_ (ld_blt I hg hm PyProof.Rows.boot_enumerate (PyProof.Rows.callWith_type1 (thn (ha.run pos pins s σ H _ I h) fun us s1 ⟨vs, H1, I1, r1, q1⟩ => ?_) hs rfl))
  obtain ⟨k1, a, xs, ex, qx, q⟩ := q1
  subst ex
  cases r1 with
  | cons r rr =>
    cases rr
    cases r
    obtain ⟨i1, _, p1, lt1⟩ := sqk_is I1 qx
    obtain ⟨o1, G1, B1, g1, w1⟩ := begK p1
    refine enum_begins1 B1 g1 fun h' he e1 hk => wpAny_pyIter_enum he ?_
    have I2 : Inv X pins σ H1 { s1 with heap := h' } := I1.kept (t' := s1.toks) hk
    refine ⟨s1.heap.objs.size + 1, [s1.heap.objs.size + 1, s1.heap.objs.size], _, _, H1, rfl, I2, turn_enumM a (s1.heap.objs.size + 1) s1.heap.objs.size (Nat.ne_of_gt (Nat.lt_succ_of_lt lt1)) (Nat.ne_of_lt lt1), ⟨⟨.none, he⟩, w1 _ _ e1, Nat.succ_ne_self _⟩, fun b hb => ?_, q⟩
    have lb : s1.heap.objs.size ≤ b := by
      rcases (show b = s1.heap.objs.size + 1 ∨ b = s1.heap.objs.size by simpa using hb) with z | z
      · rw [z]
        exact Nat.le_add_right _ _
      · rw [z]
        exact Nat.le_refl _
    exact I1.fpOk lb (I1.hok.fresh lb)
/-! over a text -/
theorem drawsS {prog : Program} {w : World} {A : Around} (hh : A.handled = none) (it : Addr) (z : Str) (t : Tok) :
    Draws prog w A it [it] z.cps.size (fun i v => ∃ c u, z.cps[i]? = some c ∧ v = .str ⟨#[c]⟩ u) (fun i h => h.IsStrIter it (strIterType z) z t i) := by
  unfold strIterType
  cases z.cps.all (· < 128)
  · exact Draws.strWide hh it z t
  · exact Draws.strAscii hh it z t
theorem turn_enumS {P : Program} {w : World} {K : PySem.W.Frag} {elts : List Expr} {kk : Nat} {tpos : Pos} (z : Str) (t : Tok) (e it : Addr) :
    Turn P w K (.Tuple elts kk tpos) (ItES z) [e, it] e (fun i h => (∃ old, IsEnum h e it ((i : Nat) : Int) old) ∧ h.IsStrIter it (strIterType z) z t i ∧ e ≠ it) where
  mem := by simp
  obj := fun i h st b hb => by
    obtain ⟨⟨old, he⟩, ⟨o, eo, _, d⟩, _⟩ := st
    rcases (show b = e ∨ b = it by simpa using hb) with y | y
    · rw [y]
      exact ⟨_, he, fun v q => nomatch q⟩
    · rw [y]
      exact ⟨o, eo, fun v q => by rw [d] at q; cases q⟩
  keep := fun i h h' st k => by
    obtain ⟨⟨old, he⟩, ⟨o, eo, r⟩, ne⟩ := st
    exact ⟨⟨old, k e (by simp) _ he⟩, ⟨o, k it (by simp) o eo, r⟩, ne⟩
  item := by
    intro X hP hw hK hc i pins s σ H E I hf st hg
    subst hP hw hK
    obtain ⟨⟨old, he⟩, hi, ne⟩ := st
    have lt : i < z.cps.size := hg
    have hh : X.A.in1.handled = none := I.ok.hd hc
    have ec : z.cps[i]? = some z.cps[i] := Array.getElem?_eq_getElem lt
    refine thn (enum_item (elts := elts) (kk := kk) (tpos := tpos) (E := E) I hf (drawsS hh it z t) he hi lt ne (by simp [ne]) (.str ⟨#[z.cps[i]]⟩) (fun v pv => ?_)) fun r s1 hr => ?_
    · obtain ⟨c, u, e1, e2⟩ := pv
      rw [ec] at e1
      cases e1
      subst e2
      exact ⟨u, rfl⟩
    obtain ⟨v, er, hv⟩ := hr
    refine ⟨v, er, thn hv fun _ s2 y => ?_⟩
    obtain ⟨T, eT, nT, I2, ie, si, fr⟩ := y
    subst eT
    exact ⟨.ref T, _, I2, rfl, ⟨T, _, rfl, nT, rfl, ec⟩, ⟨ie, si, ne⟩, fr⟩
  done := by
    intro X hP hw hK hc i pins s σ H E I hf st hg
    subst hP hw hK
    obtain ⟨⟨old, he⟩, hi, ne⟩ := st
    have el : z.cps.size = i := hg
    have hh : X.A.in1.handled = none := I.ok.hd hc
    exact enum_done I hf (drawsS hh it z t) he (by rw [el]; exact hi)
  self := fun A i s Q E st h => by
    obtain ⟨⟨_, he⟩, _⟩ := st
    exact wpAny_pyIter_enum he h
def iEnumS (ta : TA) : TI := fun σ H R => ta σ H fun vs H1 => ∃ z, vs = [.str z] ∧ R (ItES z) H1
theorem pi_enumS {X : Cx} {e : Expr} {ta : TA} {p pos tpos : Pos} {elts : List Expr} {kk : Nat} (hg : Gl X "enumerate") (hm : X.mg "enumerate" = none) (ha : PA X [e] ta) (hs : starEach [e] X.env = [(false, eval e X.env)] := by rfl) :
    PI X (.Tuple elts kk tpos) (.Call (.Name "enumerate" p) [e] [] pos) (iEnumS ta) := by
  constructor
  intro pins s σ H R I h
  refine Call_ (ld_blt I hg hm PyProof.Rows.boot_enumerate (PyProof.Rows.callWith_type1 (thn (ha.run pos pins s σ H _ I h) fun us s1 ⟨vs, H1, I1, r1, q1⟩ => ?_) hs rfl))
  obtain ⟨z, ex, q⟩ := q1
  subst ex
  cases r1 with
  | cons r rr =>
    cases rr
    obtain ⟨t, rfl⟩ := r
    refine enum_begins1 (begins_text z t) trivial fun h' he e1 hk => wpAny_pyIter_enum he ?_
    have I2 : Inv X pins σ H1 { s1 with heap := h' } := I1.kept (t' := s1.toks) hk
    refine ⟨s1.heap.objs.size + 1, [s1.heap.objs.size + 1, s1.heap.objs.size], _, _, H1, rfl, I2, turn_enumS z t (s1.heap.objs.size + 1) s1.heap.objs.size, ⟨⟨.none, he⟩, ⟨_, e1, rfl, rfl⟩, Nat.succ_ne_self _⟩, fun b hb => ?_, q⟩
    have lb : s1.heap.objs.size ≤ b := by
      rcases (show b = s1.heap.objs.size + 1 ∨ b = s1.heap.objs.size by simpa using hb) with y | y
      · rw [y]
        exact Nat.le_add_right _ _
      · rw [y]
        exact Nat.le_refl _
    exact I1.fpOk lb (I1.hok.fresh lb)
end Z
set_option Elab.async false
set_option linter.all false
set_option maxRecDepth 100000
set_option maxHeartbeats 4000000
namespace Z
open PySem PySem.Spec PyProof.Rows L2
/-! ### walks over a list (true) or a tuple (false) -/
inductive SeqOr (A B : Prop) : Prop
  | l : A → SeqOr A B
  | r : B → SeqOr A B
def iSeq (K : PySem.W.Frag) (tl : TE) : TI := fun σ H R => SeqOr (iList K tl σ H R) (iTup K tl σ H R)
theorem pi_sq {X : Cx} {tg l : Expr} {tl : TE} (he : PE X l tl) : PI X tg l (iSeq X.K tl) := by
  constructor
  intro pins s σ H R I h
  rcases h with h | h
  · exact (pi_list he).run pins s σ H R I h
  · exact (pi_tup he).run pins s σ H R I h
theorem pi_sq_K {X : Cx} {K : PySem.W.Frag} {tg l : Expr} {tl : TE} (h : X.K = K) (he : PE X l tl) : PI X tg l (iSeq K tl) := by
  subst h
  exact pi_sq he
theorem pi_list_K {X : Cx} {K : PySem.W.Frag} {tg l : Expr} {tl : TE} (h : X.K = K) (he : PE X l tl) : PI X tg l (iList K tl) := by
  subst h
  exact pi_list he
theorem pi_tup_K {X : Cx} {K : PySem.W.Frag} {tg l : Expr} {tl : TE} (h : X.K = K) (he : PE X l tl) : PI X tg l (iTup K tl) := by
  subst h
  exact pi_tup he
def ItQ (b : Bool) (K : PySem.W.Frag) (a : Addr) : It := match b with
  | true => Itl K a
  | false => Itt K a
theorem itq_go {b : Bool} {K : PySem.W.Frag} {H : Hp} {a : Addr} {xs : List V} {i : Nat} {x : V} (h : SqK b K H a xs) (e : xs[i]? = some x) : (ItQ b K a).go i H := by
  cases b <;> exact ⟨_, _, h, e⟩
theorem itq_stop {b : Bool} {K : PySem.W.Frag} {H : Hp} {a : Addr} {xs : List V} {i : Nat} (h : SqK b K H a xs) (e : xs.length ≤ i) : (ItQ b K a).stop i H := by
  cases b <;> exact ⟨_, h, e⟩
theorem itq_yld {b : Bool} {K : PySem.W.Frag} {H H' : Hp} {a : Addr} {xs : List V} {i : Nat} {x : V} (h : SqK b K H a xs) (y : (ItQ b K a).yld i H x H') : H' = H ∧ xs[i]? = some x := by
  cases b <;> exact ⟨y.1, y.2 _ h⟩
theorem rd_sq {b : Bool} {K : PySem.W.Frag} {σ : L2.St} {H : Hp} {i : Nat} {a : Addr} {xs : List V} {R : It → Hp → Prop} (e : σ[i]? = some (some (.ref a))) (h : SqK b K H a xs) (r : R (ItQ b K a) H) : iSeq K (tVar i) σ H R := by
  cases b
  · exact .r ⟨_, e, a, rfl, ⟨xs, h⟩, r⟩
  · exact .l ⟨_, e, a, rfl, ⟨xs, h⟩, r⟩
theorem lc_sq {b : Bool} {K : PySem.W.Frag} {a D : Addr} {xs : List Int} {H0 : Hp} {i : Nat} {te : TE} {vs : List Nat} {σ : L2.St} {Qd : Hp → Prop} (hS : SqK b K H0 a (xs.map V.int)) (g : Int → Int) (hn : xs.length ≤ 1000000) (nD : H0 D = none) (hw : ∀ x : Int, wipe ((wipe σ vs).set i (some (.int x))) vs = wipe σ vs)
    (ht : ∀ x H1 (Q : VK), x ∈ xs → Same H0 H1 → (∀ H2, Same H1 H2 → Q (.int (g x)) H2) → te ((wipe σ vs).set i (some (.int x))) H1 Q)
    (hd : ∀ H1, Same H0 H1 → H1 D = some (.lst ((xs.map g).map V.int)) → Qd H1) : lcW (ItQ b K a) (gName i) tYes te vs σ D Qd H0 := by
  have ex : ∀ k, k < xs.length → (xs.map V.int)[k]? = some (.int (xs.getD k 0)) := fun k hk => by
    rw [List.getElem?_map, List.getD_eq_getElem?_getD, List.getElem?_eq_getElem hk]
    rfl
  refine lc_ofs (K := K) (n := xs.length) (fun k => g (xs.getD k 0)) (fun k => .int (xs.getD k 0)) hn nD (fun k H1 hk s => itq_go (Z.Same.sqK s hS) (ex k hk)) (fun H1 s => itq_stop (Z.Same.sqK s hS) (by rw [List.length_map]; exact Nat.le_refl _)) (fun k H1 x H2 hk s y => ?_) (fun k => hw _) (fun k H1 Q hk s q => ht _ H1 Q ?_ s q) (fun H1 s e => hd H1 s ?_)
  · obtain ⟨e1, e2⟩ := itq_yld (Z.Same.sqK s hS) y
    exact ⟨e1, Option.some.inj (e2.symm.trans (ex k hk))⟩
  · rw [List.getD_eq_getElem?_getD, List.getElem?_eq_getElem hk]
    exact List.getElem_mem hk
  · rw [e]
    congr 2
    congr 1
    apply List.ext_getElem
    · rw [List.length_map, List.length_map, List.length_range]
    · intro k h1 h2
      rw [List.length_map] at h2
      rw [List.getElem_map, List.getElem_map, List.getElem_range, List.getD_eq_getElem?_getD, List.getElem?_eq_getElem h2]
      rfl
/-- for x in xs, any values -/
theorem for_sq {b : Bool} {K : PySem.W.Frag} {a : Addr} {xs : List V} {H0 H : Hp} {i : Nat} {tb : TS} {D : Ends} {σ : L2.St} (hS : SqK b K H0 a xs) (Pv : Nat → L2.St → Hp → Prop) (h0 : Pv 0 σ H) (hq : ∀ k σ H1, Pv k σ H1 → Same H0 H1)
    (hs : ∀ (k : Nat) (x : V) (σ : L2.St) (H1 : Hp), xs[k]? = some x → Pv k σ H1 → tb { D with nx := Pv (k + 1), ct := Pv (k + 1), bk := D.nx } (σ.set i (some x)) H1)
    (hd : ∀ σ H1, Pv xs.length σ H1 → D.nx σ H1) : forW (ItQ b K a) (gName i) tb D σ H := by
  refine for_gen (n := xs.length) Pv h0 (fun k σ H1 hk p => itq_go (Z.Same.sqK (hq k σ H1 p) hS) (List.getElem?_eq_getElem hk)) (fun σ H1 p => itq_stop (Z.Same.sqK (hq _ σ H1 p) hS) (Nat.le_refl _)) ?_ hd
  intro k σ H1 x H2 hk p y
  obtain ⟨rfl, e⟩ := itq_yld (Z.Same.sqK (hq k σ H1 p) hS) y
  exact hs k x σ _ e p
/-- for i, x in enumerate(xs) -/
theorem for_enum {b : Bool} {K : PySem.W.Frag} {a : Addr} {xs : List V} {H0 H : Hp} {i j : Nat} {tb : TS} {D : Ends} {σ : L2.St} (hS : SqK b K H0 a xs) (Pv : Nat → L2.St → Hp → Prop) (h0 : Pv 0 σ H) (hq : ∀ k σ H1, Pv k σ H1 → Same H0 H1)
    (hs : ∀ (k : Nat) (x : V) (σ : L2.St) (H1 H2 : Hp), xs[k]? = some x → Pv k σ H1 → Same H1 H2 → tb { D with nx := Pv (k + 1), ct := Pv (k + 1), bk := D.nx } ((σ.set i (some (.int (k : Nat)))).set j (some x)) H2)
    (hd : ∀ σ H1, Pv xs.length σ H1 → D.nx σ H1) : forW (ItEM b K a) (gTup K 2 (gCons (gName i) (gCons (gName j) gNil))) tb D σ H := by
  refine for_gen (n := xs.length) Pv h0 (fun k σ H1 hk p => ⟨xs, _, Z.Same.sqK (hq k σ H1 p) hS, List.getElem?_eq_getElem hk⟩) (fun σ H1 p => ⟨xs, Z.Same.sqK (hq _ σ H1 p) hS, rfl⟩) ?_ hd
  intro k σ H1 x H2 hk p y
  obtain ⟨T, z, rfl, nT, rfl, e⟩ := y
  exact ⟨T, _, rfl, SqT.of upd_same, rfl, _, _, rfl, _, _, rfl, rfl, hs k z σ H1 _ (e _ (Z.Same.sqK (hq k σ H1 p) hS)) p (same_new nT)⟩
/-- for i, c in enumerate(text) -/
theorem for_enumS {K : PySem.W.Frag} {z : Str} {H : Hp} {i j : Nat} {tb : TS} {D : Ends} {σ : L2.St} (Pv : Nat → L2.St → Hp → Prop) (h0 : Pv 0 σ H)
    (hs : ∀ (k : Nat) (c : Nat) (σ : L2.St) (H1 H2 : Hp), z.cps[k]? = some c → Pv k σ H1 → Same H1 H2 → tb { D with nx := Pv (k + 1), ct := Pv (k + 1), bk := D.nx } ((σ.set i (some (.int (k : Nat)))).set j (some (.str ⟨#[c]⟩))) H2)
    (hd : ∀ σ H1, Pv z.cps.size σ H1 → D.nx σ H1) : forW (ItES z) (gTup K 2 (gCons (gName i) (gCons (gName j) gNil))) tb D σ H := by
  refine for_gen (n := z.cps.size) Pv h0 (fun k σ H1 hk p => hk) (fun σ H1 p => rfl) ?_ hd
  intro k σ H1 x H2 hk p y
  obtain ⟨T, c, rfl, nT, rfl, e⟩ := y
  exact ⟨T, _, rfl, SqT.of upd_same, rfl, _, _, rfl, _, _, rfl, rfl, hs k c σ H1 _ e p (same_new nT)⟩
/-! ### built-ins within a comprehension's block -/
theorem cr_min_K {X : Cx} {K : PySem.W.Frag} (h : X.K = K) (hc : X.calm = true) : CallR X (.builtin "min") (rMin K) := by
  subst h
  exact cr_min hc
theorem cr_max_K {X : Cx} {K : PySem.W.Frag} (h : X.K = K) (hc : X.calm = true) : CallR X (.builtin "max") (rMax K) := by
  subst h
  exact cr_max hc
theorem cr_sum_K {X : Cx} {K : PySem.W.Frag} (h : X.K = K) (hc : X.calm = true) : CallR X (.builtin "sum") (rSum K) := by
  subst h
  exact cr_sum hc
theorem cr_all_K {X : Cx} {K : PySem.W.Frag} (h : X.K = K) (hc : X.calm = true) : CallR X (.builtin "all") (rAll K) := by
  subst h
  exact cr_all hc
theorem cr_any_K {X : Cx} {K : PySem.W.Frag} (h : X.K = K) (hc : X.calm = true) : CallR X (.builtin "any") (rAny K) := by
  subst h
  exact cr_any hc
/-! ### comprehensions with a test, any values -/
def fltL (kb : Nat → Bool) (g : Nat → V) (n : Nat) : List V := ((List.range n).filter kb).map g
theorem flt_succ (kb : Nat → Bool) (g : Nat → V) (n : Nat) : fltL kb g (n + 1) = fltL kb g n ++ (if kb n then [g n] else []) := by
  unfold fltL
  rw [List.range_succ, List.filter_append, List.map_append]
  cases e : kb n <;> simp [e]
theorem flt_len (kb : Nat → Bool) (g : Nat → V) (n : Nat) : (fltL kb g n).length ≤ n := by
  unfold fltL
  rw [List.length_map]
  exact Nat.le_trans (List.length_filter_le ..) (by rw [List.length_range]; exact Nat.le_refl _)
theorem lc_flt {J : It} {D : Addr} {n : Nat} {H0 : Hp} {i : Nat} {tt : TT} {te : TE} {vs : List Nat} {σ : L2.St} {Qd : Hp → Prop} (xv : Nat → V) (kb : Nat → Bool) (g : Nat → V) (hn : n ≤ 1000000) (nD : H0 D = none)
    (hgo : ∀ k H1, k < n → Same H0 H1 → J.go k H1) (hst : ∀ H1, Same H0 H1 → J.stop n H1) (hy : ∀ k H1 x H2, k < n → Same H0 H1 → J.yld k H1 x H2 → Same H1 H2 ∧ x = xv k)
    (hw : ∀ k, wipe ((wipe σ vs).set i (some (xv k))) vs = wipe σ vs)
    (hb : ∀ k H1 (Q : Bool → Hp → Prop), k < n → Same H0 H1 → (∀ H2, Same H1 H2 → Q (kb k) H2) → tt ((wipe σ vs).set i (some (xv k))) H1 Q)
    (ht : ∀ k H1 (Q : VK), k < n → kb k = true → Same H0 H1 → (∀ H2, Same H1 H2 → Q (g k) H2) → te ((wipe σ vs).set i (some (xv k))) H1 Q)
    (hd : ∀ H1, Same H0 H1 → H1 D = some (.lst (fltL kb g n)) → Qd H1) : lcW J (gName i) tt te vs σ D Qd H0 := by
  refine lc_gen (n := n) (fun k H1 => Same H0 H1 ∧ H1 D = some (.lst (fltL kb g k))) ⟨same_new nD, upd_same⟩ (fun k H1 hk p => hgo k H1 hk p.1) (fun H1 p => hst H1 p.1) ?_ (fun H1 p => hd H1 p.1 p.2)
  rintro k H1 x H2 hk ⟨s, e⟩ y
  obtain ⟨s2, rfl⟩ := hy k H1 x H2 hk s y
  refine ⟨hw k, ?_⟩
  refine hb k _ _ hk (s.trans s2) (fun H3 s3 => ?_)
  cases eb : kb k
  · rw [if_neg (by decide)]
    refine ⟨s.trans (s2.trans s3), ?_⟩
    rw [flt_succ, eb]
    simpa using s3 _ _ (s2 _ _ e)
  · rw [if_pos rfl]
    refine ht k _ _ hk eb (s.trans (s2.trans s3)) (fun H4 s4 => ⟨_, s4 _ _ (s3 _ _ (s2 _ _ e)), ?_, Z.Same.mut (s.trans (s2.trans (s3.trans s4))) nD, ?_⟩)
    · exact Nat.lt_of_le_of_lt (flt_len kb g k) (Nat.lt_of_lt_of_le hk (Nat.le_trans hn (by decide)))
    · rw [upd_same, flt_succ, eb]
      rfl
end Z
set_option Elab.async false
set_option linter.all false
set_option maxRecDepth 100000
set_option maxHeartbeats 4000000
namespace Z
open PySem PySem.Spec PyProof PyProof.Rows L2 F
/-! ### len(x), x an instance of a class with __len__ -/
structure LenO (P : Program) (w : World) (K : PySem.W.Frag) (mg : Str → Option Value) (base : Heap) (k : Nat) (C : Addr) (sp : Sp) : Prop where
  ex : ∃ (f : Addr) (fd : FuncData) (ps : List Str), FnOk P w K mg base CX0 k f fd ps sp ∧ PySem.W.findIn K (.ref C) "__len__" = some (some (.ref f)) ∧ PySem.W.isFn K (.ref f) = true ∧ Binds K fd ps []
def rLenO (C : Addr) (sp : Sp) : List V → Hp → VK → Prop := fun xs H Q => ∃ a dx fs, xs = [.ref a] ∧ H a = some (.ins C dx fs) ∧ sp [.ref a] H (fun v H' => ∃ n : Int, v = .int n ∧ 0 ≤ n ∧ n < 2 ^ 63 ∧ Q (.int n) H') E0
theorem call_lenO {X : Cx} {k j : Nat} {C : Addr} {sp : Sp} (c : LenO X.prog X.w X.K X.mg X.base k C sp) (hr : Room j X.A) (hk : k + 1 ≤ j) : CallR X (.builtin "len") (rLenO C sp) := by
  intro pins s σ H xs us Q I r h
  obtain ⟨f, fd, ps, F, hs, hf, hb⟩ := c.ex
  obtain ⟨a, dx, fs, rfl, ha, q⟩ := h
  obtain ⟨u, rfl, ru⟩ := vals1 r
  obtain rfl : u = Value.ref a := ru
  obtain ⟨mA, J, _⟩ := ins_get I.hok ha
  obtain ⟨od, J, _⟩ := J.look
  refine Calls.call_function_entry kind_len plain_len entry_len (args_len1 _) ?_
  unfold Builtin.«len»
  refine wpAny_bind (m := oneArg "len" _) (wpAny_pure ?_)
  have e0 : Env0 X.prog X.w X.K X.mg X.base X.A.in1 X.stack s H := by
    have e := I.env0
    exact ⟨e.frames, e.mod, e.bs, e.bsz, e.funs, e.frf, e.hok, e.bare⟩
  refine wpAny_bind (m := callSpecial? (.ref a) (PySem.Str.ofString "__len__")) (PySem.W.special_fn (name := "__len__") (args := []) I.kIn J hs (beq_iff_eq.mp hf) ?_)
  have hl := F.len _ _ _ _ q
  refine wpAny_call (codeAny_mono (F.run X.A.in1 X.stack s H ⟨[.ref a], []⟩ [.ref a] [.ref a] _ E0 (hr.mono hk).in1 e0 (by
    have := hb s [.ref a] I.kIn (by simpa using hl)
    simpa using this) (.cons rfl .nil) q) fun r s' hq => ?_)
  cases r with
  | error e => exact pass0 pins σ H s e s' I hq
  | ok fl =>
    cases fl with
    | next => exact False.elim hq
    | brk => exact False.elim hq
    | cont => exact False.elim hq
    | ret u =>
      obtain ⟨v, H1, I1, rv, n, rfl, h0, h1, q1⟩ := I.after hq
      obtain ⟨t, rfl⟩ := rv
      refine wpAny_bind (wpAny_holding (wpAny_pure ?_))
      refine wpAny_bind (wpAny_letGo ?_)
      show wpAny _ _ (if n < 0 then _ else _) _ _ _
      rw [if_neg (by omega)]
      show wpAny _ _ (if n ≥ 2 ^ 63 then _ else _) _ _ _
      rw [if_neg (by omega)]
      exact wpAny_bind (wpAny_mkInt (wpAny_pure ⟨_, rfl, .int n, H1, I1.tok _, ⟨_, rfl⟩, q1⟩))
end Z
set_option Elab.async false
set_option linter.all false
set_option maxRecDepth 100000
set_option maxHeartbeats 4000000
namespace L2N
open PySem PySem.Spec PyProof.Rows L2
/-! ### several clauses `except c as n` -/
/-- a clause: its class, the slot of its name, its suite's reading -/
abbrev Cl := Value × Nat × (Addr → Value → Option Addr → TS)
def wManyA (K : PySem.W.Frag) (Wout : WX) (D : Ends) : List Cl → WX
  | [] => Wout
  | h :: r => wAs K h.1 h.2.1 h.2.2 (wManyA K Wout D r) D
inductive HdsA (X : Cx) : List ExceptHandler → List Cl → Prop
  | nil : HdsA X [] []
  | cons {x n : Str} {c : Value} {i : Nat} {ts : Addr → Value → Option Addr → TS} {b₀ : Stmt} {suite : List Stmt} {np pos' : Pos} {hds : List ExceptHandler} {l : List Cl} (hi : X.N[i]? = some n) (hln : X.env.kindOf n = some .local) (hc : Names X x c)
      (hsu : ∀ (a : Addr) (oe : Obj) (cls : Value) (d : Option Addr) (pn : List (Addr × Obj)), Zn cls d oe → (∃ vs, oe.data = .fields vs) → PSs (X.suite a ((a, oe) :: pn)) (b₀ :: suite) (ts a cls d)) (r : HdsA X hds l) :
      HdsA X (.ExceptHandler (some (.Name x np)) (some n) (b₀ :: suite) pos' :: hds) ((c, i, ts) :: l)
section
variable {X : Cx} {body : List Stmt} {h₀ : ExceptHandler} {hds : List ExceptHandler} {l : List Cl} {pos : Pos} {tb : WX → TS} {Wout : WX}
theorem ps_try_manyA (hs : X.stack = X.env :: X.outer) (hf : X.env.frame = some X.env.locals) (hN : X.N.Nodup) (tk : Takes X Wout)
    (hb : ∀ (W : WX) (pn : List (Addr × Obj)) (xe : Value → Shared → Prop), Takes (X.tr pn xe) W → PassesOwn (model X.prog X.w) X.A X.env xe → PSs (X.tr pn xe) body (tb W))
    (hh : HdsA X (h₀ :: hds) l) : PS X (.Try body (h₀ :: hds) [] [] pos) (fun D σ H => tb (wManyA X.K Wout D l) D σ H) := by
  refine ⟨fun pins s σ H D I h => ?_⟩
  have ok := I.ok
  have hfr : X.A.frames = some (X.env :: X.outer) := by rw [ok.frames, hs]
  have calm : ∀ (f : Flow) (s1 : Shared) , SP (X.tr (X.pn ++ pins) (fun e s₁ => wpAny (model X.prog X.w) X.A (noteFrame e X.env) (fun _ s₂ => wpAny (model X.prog X.w) X.A (setFlight e none) (fun _ s₃ =>
      wpAny (model X.prog X.w) X.A (handleBy e X.env (h₀ :: hds)) (SP X pins D) X.xe s₃) X.xe s₂) X.xe s₁)) [] D f s1 → SP X pins D f s1 := fun f s1 hsp => by
    cases f with
    | next =>
      obtain ⟨σ', H', J', q⟩ := hsp
      exact ⟨σ', H', J'.ofTry ok, q⟩
    | brk =>
      obtain ⟨σ', H', J', q⟩ := hsp
      exact ⟨σ', H', J'.ofTry ok, q⟩
    | cont =>
      obtain ⟨σ', H', J', q⟩ := hsp
      exact ⟨σ', H', J'.ofTry ok, q⟩
    | ret u =>
      obtain ⟨v, σ', H', J', r, q⟩ := hsp
      exact ⟨v, σ', H', J'.ofTry ok, r, q⟩
  refine wpAny_Try_except ?_
  refine wpAny_mono ((hb (wManyA X.K Wout D l) (X.pn ++ pins) (fun e s₁ => wpAny (model X.prog X.w) X.A (noteFrame e X.env) (fun _ s₂ => wpAny (model X.prog X.w) X.A (setFlight e none) (fun _ s₃ =>
    wpAny (model X.prog X.w) X.A (handleBy e X.env (h₀ :: hds)) (SP X pins D) X.xe s₃) X.xe s₂) X.xe s₁) (fun u s' xx => ?_) PassesOwn.looking).run [] s σ H D (I.toTry _) h) (fun f s1 hsp => ?_) (fun e s1 he => he)
  · obtain ⟨a, B, sI, pins', σ', H', cls, d, rfl, J', nb, up, sky, na, os, ag, w⟩ := xx
    have J : Inv X pins σ' H' sI := J'.ofTry ok
    have sky' : Sky B (X.env :: X.outer) a (Zn cls d) X.env.locals s'.heap := by rw [← hs]; exact sky
    show wpAny (model X.prog X.w) X.A (noteFrame (.ref a) X.env) _ _ _
    refine Sky.land Zn.steady hfr hf sky' fun h3 fl3 up3 => ?_
    have J3 : Inv X pins σ' H' { s' with heap := h3 } := J.landed nb fl3.1 (up.trans up3) os ag
    obtain ⟨oe3, vs3, he3, hz3, hd3⟩ := fl3.there
    have nfr : a ∉ frs (X.env :: X.outer) := fun hm => by
      obtain ⟨_, o', e', hnf⟩ := fl3.2.2.1.mem hm
      rw [he3] at e'
      cases e'
      exact hnf _ hd3
    have nL : a ≠ X.env.locals := fun z => nfr (List.mem_filterMap.mpr ⟨X.env, List.mem_cons_self, by rw [hf, z]⟩)
    have nF : a ∉ X.fs := fun hm => by
      obtain ⟨e, he, q⟩ := List.mem_filterMap.mp hm
      exact nfr (List.mem_filterMap.mpr ⟨e, List.mem_cons_of_mem _ he, q⟩)
    have S3 := J3.suite he3 hd3 na nL nF
    have go : ∀ {hds' : List ExceptHandler} {l' : List Cl}, HdsA X hds' l' → wManyA X.K Wout D l' cls d σ' H' →
        wpAny (model X.prog X.w) X.A (handleBy (.ref a) X.env hds') (SP X pins D) X.xe { s' with heap := h3 } := by
      intro hds' l' hk
      induction hk with
      | nil =>
        intro w
        refine wpAny_handleBy_nil ?_
        obtain ⟨k1, k2, k3, oe, vs, T, oT, ts', he, hz, hd, h1, hr⟩ := id fl3
        unfold PySem.passOn
        refine wpAny_bind (wpAny_field he hd h1 ?_)
        rw [if_neg (show ¬ ((Value.ref T == Value.none) = true) from by simp)]
        have fin : wpAny (model X.prog X.w) X.A (setFlight (.ref a) X.env.frame) (fun _ s4 => wpAny (model X.prog X.w) X.A (throw (.ref a) : Sem Flow) (SP X pins D) X.xe s4) X.xe { s' with heap := h3 } := by
          rw [hf]
          refine HandSPX.setFlight_upZ fl3 fun h4 hh4 up4 => wpAny_throw (tk _ _ ?_)
          exact ⟨a, B, sI, pins, σ', H', cls, d, rfl, J, nb, (up.trans up3).trans up4, .inr (.inr (by rw [hs]; exact hh4)), na, os, ag, w⟩
        first
          | exact wpAny_bind (wpAny_pure (wpAny_bind fin))
          | exact wpAny_bind fin
      | @cons x n c i ts b₀ suite np pos' hds2 l2 hi hln hc hsu r ih =>
        intro w
        obtain ⟨b, hb1, hyes, hno⟩ := w
        have hloc : Loc X.env.scope n := .inl hln
        refine wpAny_handleBy_cons (codeAny_handlers_test ?_) (by intro q; cases q)
        have LT : PySem.W.Looks (model X.prog X.w) h3 (typeOf (.ref a)) cls := fun A Q E s k q => wpAny_typeOf_ref (k _ _ he3) (by rw [hz3.1]; exact q)
        have LM := PySem.W.exm_one (M := model X.prog X.w) (J3.kIn) LT hb1
        have test : ∀ {Q : Value → Shared → Prop} {E : Value → Shared → Prop}, Q c { s' with heap := h3 } → wpAny (model X.prog X.w) (X.A.mark (some (.ref a))) (eval (.Name x np) X.env) Q E { s' with heap := h3 } := fun {Q E} q => by
          obtain ⟨hg, hdbg, hm | ⟨hm, hv, hnn⟩⟩ := hc
          · exact ld_glob (X := X.suite a ((a, oe3) :: (X.pn ++ pins))) S3 hg hm q hdbg
          · exact ld_blt (X := X.suite a ((a, oe3) :: (X.pn ++ pins))) S3 hg hm hv q hnn hdbg
        refine test (LM.here ?_)
        cases b with
        | true =>
          refine codeAny_handlers_suite_as ?_
          refine HandSPX.lands_againZ fl3 fun h4 fl4 up4 => ?_
          have J4 : Inv X pins σ' H' { s' with heap := h4 } := J.landed nb fl4.1 ((up.trans up3).trans up4) os ag
          obtain ⟨oe4, vs4, he4, hz4, hd4⟩ := fl4.there
          have S4 := J4.suite he4 hd4 na nL nF
          refine store_ok (X := X.suite a ((a, oe4) :: (X.pn ++ pins))) (v := .ref a) S4 hN hi hloc rfl (fun s5 S5 => ?_) (.inr hln)
          refine wpAny_mono ((hsu a oe4 cls d (X.pn ++ pins) hz4 ⟨_, hd4⟩).run [] s5 _ H' _ S5 (hyes rfl a na)) (fun f s6 hsp => ?_) (fun _ _ z => False.elim z)
          have end_ : ∀ {σ6 : L2.St} {H6 : Hp} {Q : Shared → Prop}, Inv (X.suite a ((a, oe4) :: (X.pn ++ pins))) [] σ6 H6 s6 → (∀ s7, Inv X pins (σ6.set i none) H6 s7 → Q s7) →
              wpAny (model X.prog X.w) X.A (do bindName X.env n .none; unbindBehindTheSuite X.env n pos') (fun _ s7 => Q s7) X.xe s6 := fun {σ6 H6 Q} S6 hq => gone_ok (S6.unsuite ok) hN hi hln hq
          cases f with
          | next =>
            obtain ⟨σ6, H6, S6, q6⟩ := hsp
            exact end_ S6 fun s7 J7 => ⟨_, _, J7, q6⟩
          | brk =>
            obtain ⟨σ6, H6, S6, q6⟩ := hsp
            exact end_ S6 fun s7 J7 => ⟨_, _, J7, q6⟩
          | cont =>
            obtain ⟨σ6, H6, S6, q6⟩ := hsp
            exact end_ S6 fun s7 J7 => ⟨_, _, J7, q6⟩
          | ret u =>
            obtain ⟨v6, σ6, H6, S6, r6, q6⟩ := hsp
            exact end_ S6 fun s7 J7 => ⟨_, _, _, J7, r6, q6⟩
        | false =>
          show wpAny _ X.A (handleBy (.ref a) X.env hds2) _ _ _
          exact ih (hno rfl)
    exact go hh w
  · cases f with
    | next => exact wpAny_execs_nil (calm .next s1 hsp)
    | brk => exact calm .brk s1 hsp
    | cont => exact calm .cont s1 hsp
    | ret u => exact calm (.ret u) s1 hsp
end
end L2N
set_option Elab.async false
set_option linter.all false
set_option maxRecDepth 100000
set_option maxHeartbeats 4000000
namespace Z
open PySem PySem.Spec PyProof.Rows L2
/-! ### f(e, .., k = v), what is raised at the slots -/
structure CalKX (P : Program) (w : World) (K : PySem.W.Frag) (mg : Str → Option Value) (base : Heap) (k : Nat) (x : Str) (n : Nat) (ks : List Str) (gV : List V → List V → List V) (sp : Sp) : Prop where
  ex : ∃ (f : Addr) (fd : FuncData) (ps : List Str) (g : List Value → List Value → List Value), FnOk P w K mg base (L2N.CX P w) k f fd ps sp ∧ mg x = some (.ref f) ∧ PySem.W.keepIn K (.ref f) = true ∧ KBn K fd ps n ks g gV
def tClKW (n m : Nat) (sp : Sp) (gV : List V → List V → List V) (E : L2.St → XK) (t tk : TA) : TE := fun σ H Q => t σ H fun vs H1 => tk σ H1 fun zs H2 => vs.length = n ∧ zs.length = m ∧ sp (gV vs zs) H2 Q (E σ)
section
variable {X : Cx} {k j n : Nat} {x : Str} {sp : Sp} {ks : List Str} {gV : List V → List V → List V} {p pos : Pos} {e : Expr} {es : List Expr} {kws : List Keyword} {t tk : TA} {E : L2.St → XK}
theorem pe_clKE (c : CalKX X.prog X.w X.K X.mg X.base k x n ks gV sp) (hx : ∀ σ, PassesAt (L2N.CX X.prog X.w) X σ (E σ)) (hr : Room j X.A) (hk : k ≤ j) (hg : Gl X x) (ha : PA X (e :: es) t) (hkw : PK X kws tk)
    (hall : (backToKw pos (keywordEach kws X.env)).all (·.1.isSome) = true := by rfl) (hks : (backToKw pos (keywordEach kws X.env)).filterMap (·.1) = ks := by rfl) (hdb : (x == ("__debug__" : Str)) = false := by decide)
    (he : starEach (e :: es) X.env = (false, eval e X.env) :: starEach es X.env := by rfl) (hpl : ((backTo pos (starEach (e :: es) X.env)).any (·.1) || (backToKw pos (keywordEach kws X.env)).any (·.1.isNone)) = false := by rfl) :
    PE X (.Call (.Name x p) (e :: es) kws pos) (tClKW n ks.length sp gV E t tk) := by
  obtain ⟨f, fd, ps, g, F, hm, kp, hb⟩ := c.ex
  refine ⟨fun pins s σ H Q I h => ?_⟩
  refine wpAny_Call_Name_kw (ld_glob I hg hm ?_ hdb)
  refine PySem.W.callWith_KW (h₀ := X.base) I.ok.mod.kin kp hall (thn (ha.run pos pins s σ H _ I h) fun us s1 ⟨vs, H1, I1, r, q⟩ => ?_) hpl he
  refine thn (hkw.run pos pins s1 σ H1 _ I1 q) fun ws s2 ⟨zs, H2, I2, rz, l1, l2, q2⟩ => ⟨I2.kIn, ?_⟩
  rw [hks]
  have r2 := hb.rel r rz
  refine wpAny_call (codeAny_mono (F.run X.A X.stack s2 H2 ⟨us, ks.zip ws⟩ (g us ws) (gV vs zs) Q (E σ) (hr.mono hk) I2.env0 (hb.to s2 us ws I2.kIn (by rw [← r.length]; exact l1) (by rw [← rz.length]; exact l2)) r2 q2) fun r s' hq => ?_)
  exact back_at (hx σ) I2 r s' hq
end
end Z
set_option Elab.async false
set_option linter.all false
set_option maxRecDepth 100000
set_option maxHeartbeats 4000000
namespace Z
open PySem PySem.Spec PyProof.Rows L2
open SX (S S_inj S_len S_cat)
theorem relv_str {x : Str} {t : Tok} : L2.RelV (.str x) (.str x t) := ⟨t, rfl⟩
theorem szl {n : Nat} (h : n ≤ 2000) : n ≤ sizeLine := Nat.le_trans h (by decide)
theorem szlt {n : Nat} (h : n ≤ 2000) : n < sizeLine := Nat.lt_of_le_of_lt h (by decide)
theorem none_of {H H' : Hp} {p : Addr} (s : Same H H') (h : H' p = none) : H p = none := by
  cases e : H p with
  | none => rfl
  | some o =>
    rw [s _ _ e] at h
    cases h
/-! ### draws and their place -/
structure Tk (K : PySem.W.Frag) (a p : Addr) (ds : List Int) (n : Nat) (H0 H1 : Hp) : Prop where
  hA : H1 a = some (.lst (ds.map V.int))
  hd : Dr n ds
  ne : a ≠ p
  sb : SB p H0 H1
  pl : ∃ m : Nat, H1 p = some (.lst [.int (m : Int)])
section
variable {K : PySem.W.Frag} {a p : Addr} {ds : List Int} {n m : Nat} {H0 H1 H2 : Hp}
theorem Tk.more (t : Tk K a p ds n H0 H1) (s : Same H1 H2) : Tk K a p ds n H0 H2 := by
  obtain ⟨m, e⟩ := t.pl
  exact ⟨s _ _ t.hA, t.hd, t.ne, t.sb.trans (Z.Same.sb s), m, s _ _ e⟩
theorem Tk.next (t : Tk K a p ds n H0 H1) (e : H1 p = some (.lst [.int (m : Int)])) : Tk K a p ds n H0 (upd H1 p (.lst [.int ((m + 1 : Nat) : Int)])) ∧ SB p H1 (upd H1 p (.lst [.int ((m + 1 : Nat) : Int)])) := by
  have sb : SB p H1 (upd H1 p (.lst [.int ((m + 1 : Nat) : Int)])) := SB.upd (Z.Same.sb (Same.refl H1))
  exact ⟨⟨sb _ _ t.ne t.hA, t.hd, t.ne, t.sb.trans sb, m + 1, upd_same⟩, sb⟩
theorem Tk.slf (t : Tk K a p ds n H0 H1) : Tk K a p ds n H1 H1 := ⟨t.hA, t.hd, t.ne, Z.Same.sb (Same.refl _), t.pl⟩
theorem Tk.tr (t : Tk K a p ds n H0 H1) (u : Tk K a p ds n H1 H2) : Tk K a p ds n H0 H2 := ⟨u.hA, u.hd, u.ne, t.sb.trans u.sb, u.pl⟩
theorem Tk.nn {q : Addr} (t : Tk K a p ds n H0 H1) (h : H1 q = none) : H0 q = none := by
  cases e : H0 q with
  | none => rfl
  | some o =>
    have pq : q ≠ p := fun z => by
      obtain ⟨m, em⟩ := t.pl
      rw [z, em] at h
      cases h
    rw [t.sb _ _ pq e] at h
    cases h
theorem Tk.at_ {q : Addr} {o : HO} (t : Tk K a p ds n H0 H1) (h : H0 q = none) (hp : p ≠ q) (ha : a ≠ q) : Tk K a p ds n H0 (upd H1 q o) := by
  obtain ⟨m, em⟩ := t.pl
  refine ⟨by rw [upd_ne ha]; exact t.hA, t.hd, t.ne, fun b u n1 n2 => ?_, m, by rw [upd_ne hp]; exact em⟩
  have bq : b ≠ q := fun z => by rw [z, h] at n2; cases n2
  rw [upd_ne bq]
  exact t.sb _ _ n1 n2
/-- an object other than the place lives on -/
theorem Tk.up (t : Tk K a p ds n H0 H1) {b : Addr} {o : HO} (e : H0 b = some o) (h : b ≠ p) : H1 b = some o := t.sb _ _ h e
end
theorem at_0 {α : Type} {x : α} {xs : List α} : atI (x :: xs) 0 = some x := show atI _ ((0 : Nat) : Int) = _ from atI_nat rfl
theorem at_1 {α : Type} {x y : α} {xs : List α} : atI (x :: y :: xs) 1 = some y := show atI _ ((1 : Nat) : Int) = _ from atI_nat rfl
theorem at_2 {α : Type} {x y z : α} {xs : List α} : atI (x :: y :: z :: xs) 2 = some z := show atI _ ((2 : Nat) : Int) = _ from atI_nat rfl
theorem at_3 {α : Type} {x y z u : α} {xs : List α} : atI (x :: y :: z :: u :: xs) 3 = some u := show atI _ ((3 : Nat) : Int) = _ from atI_nat rfl
/-! ### fates -/
def isF (c : Nat) : Bool := decide (c = 98) || (decide (c = 102) || (decide (c = 115) || decide (c = 110)))
def Fts (l : List Nat) : Prop := ∀ c ∈ l, isF c = true
/-- the ends: first (false), second (true) -/
def eS (e : Bool) : Str := if e then "second" else "first"
def hrd (e : Bool) (c : Nat) : Bool := decide (c = 98) || decide (c = if e then 115 else 102)
/-- the last place below n of which P says yes -/
def lst (P : Nat → Bool) (l : List Nat) : Nat → Option Nat
  | 0 => none
  | n + 1 => if P (l.getD n 0) then some n else lst P l n
theorem lst_succ {P : Nat → Bool} {l : List Nat} {k : Nat} : lst P l (k + 1) = if P (l.getD k 0) then some k else lst P l k := rfl
theorem lst_lt {P : Nat → Bool} {l : List Nat} : ∀ {n i : Nat}, lst P l n = some i → i < n
  | 0, _, h => by cases h
  | n + 1, i, h => by
    unfold lst at h
    split at h
    · cases h
      omega
    · have := lst_lt h
      omega
structure Vw where
  own : Int
  oth : Option Int
  kn : List Nat
  si : Int
deriving DecidableEq
def vw (a b : Int) (l : List Nat) (e : Bool) : Vw :=
  match lst (hrd e) l l.length with
  | none => ⟨if e then b else a, none, [], l.length⟩
  | some i => ⟨if e then b else a, some (if e then a else b), l.take i, (l.length : Int) - 1 - i⟩
theorem vw_none {a b : Int} {l : List Nat} {e : Bool} (h : lst (hrd e) l l.length = none) : vw a b l e = ⟨if e then b else a, none, [], l.length⟩ := by
  unfold vw
  rw [h]
theorem vw_some {a b : Int} {l : List Nat} {e : Bool} {i : Nat} (h : lst (hrd e) l l.length = some i) : vw a b l e = ⟨if e then b else a, some (if e then a else b), l.take i, (l.length : Int) - 1 - i⟩ := by
  unfold vw
  rw [h]
def oV : Option Int → V
  | none => .non
  | some x => .int x
def oD : Option Int → PyData
  | none => .none
  | some x => .int x
def vwL (v : Vw) : List V := [.int v.own, oV v.oth, .str (S v.kn), .int v.si]
def vwD (v : Vw) : PyData := .tuple [.int v.own, oD v.oth, .str (S v.kn), .int v.si]
def VwOk (v : Vw) : Prop := v.kn.length ≤ 1000 ∧ ∀ c ∈ v.kn, c < 1000
theorem Fts.lt {l : List Nat} (h : Fts l) : ∀ c ∈ l, c < 1000 := fun c hc => by
  have := h c hc
  unfold isF at this
  simp only [Bool.or_eq_true, decide_eq_true_eq] at this
  omega
theorem vw_kn (a b : Int) (l : List Nat) (e : Bool) : ∃ i, (vw a b l e).kn = l.take i := by
  cases h : lst (hrd e) l l.length with
  | none =>
    rw [vw_none h]
    exact ⟨0, rfl⟩
  | some i =>
    rw [vw_some h]
    exact ⟨i, rfl⟩
theorem vw_ok {a b : Int} {l : List Nat} {e : Bool} (h : Fts l) (hl : l.length ≤ 1000) : VwOk (vw a b l e) := by
  obtain ⟨i, ek⟩ := vw_kn a b l e
  unfold VwOk
  rw [ek]
  exact ⟨by rw [List.length_take]; omega, fun c hc => h.lt c (List.mem_of_mem_take hc)⟩
theorem dp_oV {K : PySem.W.Frag} {H : Hp} : ∀ o : Option Int, Dp K H (oV o) (oD o)
  | none => .non
  | some x => .int x
theorem dp_vw {K : PySem.W.Frag} {H : Hp} {p : Addr} {v : Vw} (h : H p = some (.tup (vwL v))) : Dp K H (.ref p) (vwD v) := .tup (SqT.of h) (.cons (.int _) (.cons (dp_oV _) (.cons (.str _) (.cons (.int _) .nil))))
theorem strOk_of {l : List Nat} (h : ∀ c ∈ l, c < 1000) : PyData.strOk (S l) = true := by
  show (S l).cps.all (· < 0x110000) = true
  rw [Array.all_eq_true']
  intro c hc
  have := h c (by simpa using hc)
  simp
  omega
theorem shaped_vw {v : Vw} (h : VwOk v) : SeqAt.shaped (vwD v) = true := by
  have z := strOk_of h.2
  unfold SeqAt.shaped vwD
  cases v.oth <;> simp [oD, PyData.canLay0, PyData.canLayAll0, PyData.depth, PyData.depthAll, z]
theorem eqv_vw (u v : Vw) : PyData.eqv (vwD u) (vwD v) = decide (u = v) := by
  obtain ⟨a, o, k, s⟩ := u
  obtain ⟨a', o', k', s'⟩ := v
  have e1 : (S k == S k') = decide (k = k') := SX.S_beq_eq
  unfold vwD
  by_cases h : (⟨a, o, k, s⟩ : Vw) = ⟨a', o', k', s'⟩
  · rw [decide_eq_true h]
    cases h
    cases o <;> simp [oD, PyData.eqv, PyData.eqvAll]
  · rw [decide_eq_false h]
    cases o <;> cases o' <;> simp [oD, PyData.eqv, PyData.eqvAll, e1] <;> intro h1 <;> simp_all
/-- an exchange as a tuple -/
def exL (a b : Int) (l : List Nat) : List V := [.int a, .int b, .str (S l)]
def exD (a b : Int) (l : List Nat) : PyData := .tuple [.int a, .int b, .str (S l)]
theorem dp_ex {K : PySem.W.Frag} {H : Hp} {p : Addr} {a b : Int} {l : List Nat} (h : H p = some (.tup (exL a b l))) : Dp K H (.ref p) (exD a b l) := .tup (SqT.of h) (.cons (.int _) (.cons (.int _) (.cons (.str _) .nil)))
theorem shaped_ex {a b : Int} {l : List Nat} (h : Fts l) : SeqAt.shaped (exD a b l) = true := by
  have z := strOk_of h.lt
  unfold SeqAt.shaped exD
  simp [PyData.canLay0, PyData.canLayAll0, PyData.depth, PyData.depthAll, z]
theorem eqv_ex (a b : Int) (l : List Nat) (a' b' : Int) (l' : List Nat) : PyData.eqv (exD a b l) (exD a' b' l') = decide (a = a' ∧ b = b' ∧ l = l') := by
  have e1 : (S l == S l') = decide (l = l') := SX.S_beq_eq
  unfold exD
  by_cases h : a = a' ∧ b = b' ∧ l = l'
  · rw [decide_eq_true h]
    obtain ⟨rfl, rfl, rfl⟩ := h
    simp [PyData.eqv, PyData.eqvAll]
  · rw [decide_eq_false h]
    simp [PyData.eqv, PyData.eqvAll, e1]
    intro h1 h2
    exact fun h3 => h ⟨h1, h2, h3⟩
/-! ### refusals -/
inductive Bad where
  | bit (x : Int)
  | fate (i : Nat)
def isBit (x : Int) : Bool := decide (x = 0 ∨ x = 1)
/-- the first place that is no fate -/
def badF : List Nat → Nat → Option Nat
  | [], _ => none
  | c :: r, i => if isF c then badF r (i + 1) else some i
def bad (a b : Int) (l : List Nat) : Option Bad :=
  if isBit a then (if isBit b then (badF l 0).map Bad.fate else some (.bit b)) else some (.bit a)
theorem badF_fts : ∀ {l : List Nat} {i : Nat}, Fts l → badF l i = none
  | [], _, _ => rfl
  | c :: r, i, h => by
    unfold badF
    rw [if_pos (h c List.mem_cons_self)]
    exact badF_fts fun x hx => h x (List.mem_cons_of_mem _ hx)
theorem bad_ok {a b : Int} {l : List Nat} (ha : a = 0 ∨ a = 1) (hb : b = 0 ∨ b = 1) (h : Fts l) : bad a b l = none := by
  unfold bad isBit
  rw [if_pos (decide_eq_true ha), if_pos (decide_eq_true hb), badF_fts h]
  rfl
/-- all places below n are fates -/
def Up (l : List Nat) (n : Nat) : Prop := ∀ i, i < n → ∀ c, l[i]? = some c → isF c = true
theorem badF_at : ∀ {l : List Nat} {i j : Nat}, (∀ k, k < j → ∀ c, l[k]? = some c → isF c = true) → (∃ c, l[j]? = some c ∧ isF c = false) → badF l i = some (i + j)
  | [], _, _, _, h => by
    obtain ⟨c, e, _⟩ := h
    simp at e
  | x :: r, i, 0, _, h => by
    obtain ⟨c, e, f⟩ := h
    cases e
    unfold badF
    rw [f, if_neg (by decide)]
    rfl
  | x :: r, i, j + 1, u, h => by
    unfold badF
    rw [if_pos (u 0 (by omega) x rfl), badF_at (j := j) (fun k hk c e => u (k + 1) (by omega) c e) h]
    congr 1
    omega
theorem badF_up : ∀ {l : List Nat} {i : Nat}, (∀ (k c : Nat), l[k]? = some c → isF c = true) → badF l i = none := fun {l i} h => badF_fts fun c hc => by
  obtain ⟨k, hk, rfl⟩ := List.getElem_of_mem hc
  exact h k _ (List.getElem?_eq_getElem hk)
end Z
set_option pp.maxSteps 700
set_option Elab.async false
set_option linter.all false
set_option maxRecDepth 100000
set_option maxHeartbeats 4000000
open SX (S S_inj S_len S_cat)
namespace Z
open PySem PySem.Spec PyProof.Rows L2
open C8 (pss_cut tCut)
local macro_rules | `(tactic| walk_at "num") => `(tactic| first | rfl | omega | decide | exact Nat.le_of_lt (small1000 (by simp)) | exact ⟨by omega, by omega⟩ | exact ⟨by omega, by omega, by omega⟩ | exact ⟨by decide, by decide, by decide⟩ | exact Or.inl ⟨by omega, by omega⟩ | exact Or.inr ⟨by omega, by omega⟩)
local macro_rules | `(tactic| walk_at "go") => `(tactic| repeat (first | refine ⟨_, rfl, ?_⟩ | refine ⟨_, _, rfl, rfl, ?_⟩ | refine ⟨_, _, rfl, ?_⟩ | (refine ⟨_, _, rfl, rfl, ?_, ?_⟩; focus walk_at "num") | refine Or.inl ⟨_, rfl, ?_⟩ | refine ⟨_, _, _, _, rfl, rfl, (by assumption), (by rfl), ?_⟩ | refine ⟨_, _, _, _, _, rfl, (by assumption), (by assumption), (by assumption), (by rfl), ?_⟩ | refine ⟨rfl, ?_⟩ | (refine And.intro ?_ ?_; focus walk_at "num")))
abbrev s_check_fates : Stmt := topS 8
abbrev N_check_fates : List Str := ["fates", "at", "fate"]
abbrev P_check_fates : List Str := ["fates"]
theorem sc_check_fates : FnScope N_check_fates P_check_fates (defScope s_check_fates) := ⟨rfl, rfl, rfl, by decide +kernel, rfl, by decide +kernel, by decide +kernel⟩
abbrev s_check_end : Stmt := topS 9
abbrev N_check_end : List Str := ["end"]
abbrev P_check_end : List Str := ["end"]
theorem sc_check_end : FnScope N_check_end P_check_end (defScope s_check_end) := ⟨rfl, rfl, rfl, by decide +kernel, rfl, by decide +kernel, by decide +kernel⟩
abbrev s_check_bit : Stmt := topS 10
abbrev N_check_bit : List Str := ["bit"]
abbrev P_check_bit : List Str := ["bit"]
theorem sc_check_bit : FnScope N_check_bit P_check_bit (defScope s_check_bit) := ⟨rfl, rfl, rfl, by decide +kernel, rfl, by decide +kernel, by decide +kernel⟩
abbrev s_arrives : Stmt := topS 11
abbrev N_arrives : List Str := ["fate", "end"]
abbrev P_arrives : List Str := ["fate", "end"]
theorem sc_arrives : FnScope N_arrives P_arrives (defScope s_arrives) := ⟨rfl, rfl, rfl, by decide +kernel, rfl, by decide +kernel, by decide +kernel⟩
theorem relv_ref {a : Addr} : L2.RelV (.ref a) (.ref a) := rfl
/-- the module's tuple of the two ends -/
def EndsA (K : PySem.W.Frag) (a : Addr) : Prop := SqT K (fun _ => none) a [.str "first", .str "second"]
theorem EndsA.sq {K : PySem.W.Frag} {a : Addr} (h : EndsA K a) (H : Hp) : SqT K H a [.str "first", .str "second"] := by
  rcases h with h | h
  · rcases h with h | ⟨_, h⟩ <;> cases h
  · exact .inr h
theorem inV_ends (z : Str) : inV (.str z) [.str "first", .str "second"] = decide (z = eS false ∨ z = eS true) := by
  show (("first" : Str) == z || (("second" : Str) == z || false)) = _
  by_cases h1 : z = eS false
  · subst h1
    decide +kernel
  · by_cases h2 : z = eS true
    · subst h2
      decide +kernel
    · rw [decide_eq_false (by simp [h1, h2])]
      have e1 : (("first" : Str) == z) = false := beq_eq_false_iff_ne.mpr fun e => h1 e.symm
      have e2 : (("second" : Str) == z) = false := beq_eq_false_iff_ne.mpr fun e => h2 e.symm
      rw [e1, e2]
      rfl
section
variable {P : Program} {w : World} {K : PySem.W.Frag} {mg : Str → Option Value} {base : Heap} {f CB CE CF aE : Addr} {fd : FuncData}
def spCkF (CF : Addr) : Sp := fun vs H Q E => ∃ l, vs = [.str (S l)] ∧ (badF l 0 = none → ∀ H', Same H H' → Q .non H') ∧ ∀ i, badF l 0 = some i → ∀ H' d, Same H H' → H' d = none → E (.ref CF) (some d) (upd H' d (.xd [("at", .int (i : Int))]))
theorem bfsn_in (c : Nat) : decide (c ∈ (Str.ofString "bfsn").cps.toList) = isF c := by
  have e : (Str.ofString "bfsn").cps.toList = [98, 102, 115, 110] := by decide +kernel
  rw [e]
  unfold isF
  simp only [List.mem_cons, List.not_mem_nil, or_false, Bool.decide_or]
theorem ok_check_fates (F : FnP K "check_fates" s_check_fates f fd) (m_enumerate : mg "enumerate" = none) (tok_FATES : Tok) (g_FATES : mg "FATES" = some (.str "bfsn" tok_FATES)) (x_BadFate : Exn P w K mg base "BadFate" CF "at") : FnOk P w K mg base (L2N.CX P w) 3 f fd P_check_fates (spCkF CF) := by
  refine F.ok sc_check_fates (fun vs H Q E h => ?_) (fun cdv A outer s H vs Q E hr h => ?_)
  · obtain ⟨l, rfl, _⟩ := h
    rfl
  · obtain ⟨l, rfl, q1, q2⟩ := h
    have tk := takes_fn (P := P) (w := w) (K := K) (mg := mg) (base := base) (N := N_check_fates) (qual := "check_fates") (scope := defScope s_check_fates) (f := f) (cd := cdv) (A := A) (outer := outer) (s := s) (H := H) (E := E)
    refine ⟨_, (pss_one (ps_for (passes_of rfl) rfl (pi_enumS (by rfl) m_enumerate (pa_cons (pv 0) pa_nil)) (pg_tup rfl (pgs_cons (pg_name (i := 1) sc_check_fates.nd rfl (by first | exact .inl rfl | exact .inr rfl)) (pgs_cons (pg_name (i := 2) sc_check_fates.nd rfl (by first | exact .inl rfl | exact .inr rfl)) pgs_nil)))
        (pss_one (ps_if (pt_cmpR op_notIn_sign (pv 2) (pe_glob (by rfl) g_FATES (relv_str (x := "bfsn"))) (by rfl)) (pss_one (ps_exn rfl tk x_BadFate hr (by decide) (by rfl) (pa_cons (pv 1) pa_nil))) pss_nil)))), ?_⟩
    walk_at "go"
    refine for_enumS (K := K) (fun k σ H1 => Same H H1 ∧ (∀ j, j < k → ∀ c, l[j]? = some c → isF c = true) ∧ ∃ v1 v2 : Option V, σ = [some (.str (S l)), v1, v2]) ⟨Same.refl _, fun j h => absurd h (by omega), none, none, rfl⟩ ?_ ?_
    · rintro k c σ H1 H2 ec ⟨s1, up, v1, v2, rfl⟩ s2
      have ec : l[k]? = some c := by simpa using ec
      walk_at "go"
      refine ite2 (fun e => ?_) (fun e => ?_)
      · have e : isF c = false := by
          rw [← bfsn_in]
          simpa using e
        walk_at "go"
        refine mkx_of fun d nd => q2 k ?_ H2 d (s1.trans s2) nd
        have z := badF_at (i := 0) up ⟨c, ec, e⟩
        rw [Nat.zero_add] at z
        exact z
      · have e : isF c = true := by
          rw [← bfsn_in]
          simpa using e
        refine ⟨s1.trans s2, fun j hj c' ej => ?_, _, _, rfl⟩
        by_cases c2 : j = k
        · subst c2
          rw [ec] at ej
          cases ej
          exact e
        · exact up j (by omega) c' ej
    · rintro σ H1 ⟨s1, up, v1, v2, rfl⟩
      refine q1 (badF_up fun k c e => up k ?_ c e) H1 s1
      have := (List.getElem?_eq_some_iff.mp e).1
      simpa using this
def spCkE (CE : Addr) : Sp := fun vs H Q E => ∃ z : Str, vs = [.str z] ∧ (z = eS false ∨ z = eS true → Q .non H) ∧ (¬ (z = eS false ∨ z = eS true) → ∀ d, H d = none → E (.ref CE) (some d) (upd H d (.xd [("end", .str z)])))
theorem ok_check_end (F : FnP K "check_end" s_check_end f fd) (g_ENDS : mg "ENDS" = some (.ref aE)) (hE : EndsA K aE) (x_BadEnd : Exn P w K mg base "BadEnd" CE "end") : FnOk P w K mg base (L2N.CX P w) 3 f fd P_check_end (spCkE CE) := by
  refine F.ok sc_check_end (fun vs H Q E h => ?_) (fun cdv A outer s H vs Q E hr h => ?_)
  · obtain ⟨z, rfl, _⟩ := h
    rfl
  · obtain ⟨z, rfl, q1, q2⟩ := h
    have tk := takes_fn (P := P) (w := w) (K := K) (mg := mg) (base := base) (N := N_check_end) (qual := "check_end") (scope := defScope s_check_end) (f := f) (cd := cdv) (A := A) (outer := outer) (s := s) (H := H) (E := E)
    refine ⟨_, (pss_one (ps_if (pt_cmpR op_notIn_seq (pv 0) (pe_glob (by rfl) g_ENDS relv_ref) (by rfl)) (pss_one (ps_exn rfl tk x_BadEnd hr (by decide) (by rfl) (pa_cons (pv 0) pa_nil))) pss_nil)), ?_⟩
    walk_at "go"
    refine ⟨aE, _, rfl, .inr (hE.sq H), rfl, rfl, ?_⟩
    rw [inV_ends]
    walk_at "go"
    refine ite2 (fun e => ?_) (fun e => ?_)
    · have e : ¬ (z = eS false ∨ z = eS true) := by simpa using e
      walk_at "go"
      exact mkx_of (fun d nd => q2 e d nd)
    · have e : z = eS false ∨ z = eS true := Decidable.byContradiction fun c => e (by rw [decide_eq_false c]; rfl)
      exact q1 e
def spCkB (CB : Addr) : Sp := fun vs H Q E => ∃ x : Int, vs = [.int x] ∧ (isBit x = true → ∀ H', Same H H' → Q .non H') ∧ (isBit x = false → ∀ H' d, Same H H' → H' d = none → E (.ref CB) (some d) (upd H' d (.xd [("bit", .int x)])))
theorem inV_bit (x : Int) : inV (.int x) [.int 0, .int 1] = isBit x := by
  show ((0 : Int) == x || ((1 : Int) == x || false)) = _
  unfold isBit
  by_cases h0 : x = 0
  · subst h0
    rfl
  · by_cases h1 : x = 1
    · subst h1
      rfl
    · rw [decide_eq_false (by simp [h0, h1]), beq_eq_false_iff_ne.mpr (Ne.symm h0), beq_eq_false_iff_ne.mpr (Ne.symm h1)]
      rfl
theorem ok_check_bit (F : FnP K "check_bit" s_check_bit f fd) (x_BadBit : Exn P w K mg base "BadBit" CB "bit") : FnOk P w K mg base (L2N.CX P w) 3 f fd P_check_bit (spCkB CB) := by
  refine F.ok sc_check_bit (fun vs H Q E h => ?_) (fun cdv A outer s H vs Q E hr h => ?_)
  · obtain ⟨x, rfl, _⟩ := h
    rfl
  · obtain ⟨x, rfl, q1, q2⟩ := h
    have tk := takes_fn (P := P) (w := w) (K := K) (mg := mg) (base := base) (N := N_check_bit) (qual := "check_bit") (scope := defScope s_check_bit) (f := f) (cd := cdv) (A := A) (outer := outer) (s := s) (H := H) (E := E)
    refine ⟨_, (pss_one (ps_if (pt_cmpR op_notIn_seq (pv 0) (pe_tup (pa_cons pe_int (pa_cons pe_int pa_nil))) (by rfl)) (pss_one (ps_exn rfl tk x_BadBit hr (by decide) (by rfl) (pa_cons (pv 0) pa_nil))) pss_nil)), ?_⟩
    walk_at "go"
    intro t nt
    generalize eH_ : upd H t _ = H1
    have s1 : Same H H1 := by rw [← eH_]; exact same_new nt
    have et : H1 t = some (.tup [.int 0, .int 1]) := by rw [← eH_]; exact upd_same
    clear eH_
    walk_at "go"
    refine ⟨t, _, rfl, .inr (SqT.of et), rfl, rfl, ?_⟩
    rw [inV_bit]
    walk_at "go"
    refine ite2 (fun e => ?_) (fun e => ?_)
    · have e : isBit x = false := by simpa using e
      walk_at "go"
      exact mkx_of fun d nd => q2 e H1 d s1 nd
    · have e : isBit x = true := by simpa using e
      exact q1 e _ s1
def spArr : Sp := fun vs H Q _ => ∃ (c : Nat) (e : Bool), vs = [.str ⟨#[c]⟩, .str (eS e)] ∧ Q (.bl (hrd e c)) H
theorem one_eq (c d : Nat) : decide (V.str ⟨#[c]⟩ = V.str ⟨#[d]⟩) = decide (c = d) := by
  by_cases h : c = d
  · subst h
    simp
  · have h2 : ¬ (V.str ⟨#[c]⟩ = V.str ⟨#[d]⟩) := fun z => h (by injection z with z; injection z with z; simpa using z)
    rw [decide_eq_false h, decide_eq_false h2]
theorem b_str : Str.ofString "b" = ⟨#[98]⟩ := by decide +kernel
theorem f_str : Str.ofString "f" = ⟨#[102]⟩ := by decide +kernel
theorem s_str : Str.ofString "s" = ⟨#[115]⟩ := by decide +kernel
theorem n_str : Str.ofString "n" = ⟨#[110]⟩ := by decide +kernel
theorem ok_arrives (F : FnP K "arrives" s_arrives f fd) : FnOk P w K mg base CX0 1 f fd P_arrives spArr := by
  refine F.ok sc_arrives (fun vs H Q E h => ?_) (fun cdv A outer s H vs Q E hr h => ?_)
  · obtain ⟨c, e, rfl, _⟩ := h
    rfl
  · obtain ⟨c, e, rfl, q⟩ := h
    refine ⟨_, PSs.nox (pss_one (ps_ret (pe_or (pe_cmpR op_eq (pv 0) pe_str (nomark _)) (pe_one (pe_cmpR op_eq (pv 0) (pe_ifExp (pt_cmpR op_eq (pv 1) pe_str (nomark _)) pe_str pe_str) (nomark _)))))), ?_⟩
    unfold hrd at q
    walk_at "go"
    rw [b_str, one_eq]
    by_cases h1 : c = 98
    · rw [decide_eq_true h1, if_pos rfl]
      rw [decide_eq_true h1, Bool.true_or] at q
      exact q
    rw [decide_eq_false h1, if_neg (by decide)]
    rw [decide_eq_false h1, Bool.false_or] at q
    walk_at "go"
    cases e
    · rw [show decide (V.str (eS false) = V.str (Str.ofString "first")) = true from rfl, if_pos rfl]
      walk_at "go"
      rw [f_str, one_eq]
      exact q
    · rw [show decide (V.str (eS true) = V.str (Str.ofString "first")) = false by decide +kernel, if_neg (by decide)]
      walk_at "go"
      rw [s_str, one_eq]
      exact q
end
end Z
set_option pp.maxSteps 700
set_option Elab.async false
set_option linter.all false
set_option maxRecDepth 100000
set_option maxHeartbeats 4000000
open SX (S S_inj S_len S_cat)
namespace Z
open PySem PySem.Spec PyProof.Rows L2
open C8 (pss_cut tCut)
local macro_rules | `(tactic| walk_at "num") => `(tactic| first | rfl | omega | decide | exact Nat.le_of_lt (small1000 (by simp)) | exact ⟨by omega, by omega⟩ | exact ⟨by omega, by omega, by omega⟩ | exact ⟨by decide, by decide, by decide⟩ | exact Or.inl ⟨by omega, by omega⟩ | exact Or.inr ⟨by omega, by omega⟩)
local macro_rules | `(tactic| walk_at "go") => `(tactic| repeat (first | refine ⟨_, rfl, ?_⟩ | refine ⟨_, _, rfl, rfl, ?_⟩ | refine ⟨_, _, rfl, ?_⟩ | (refine ⟨_, _, rfl, rfl, ?_, ?_⟩; focus walk_at "num") | refine Or.inl ⟨_, rfl, ?_⟩ | refine ⟨_, _, _, _, rfl, rfl, (by assumption), (by rfl), ?_⟩ | refine ⟨_, _, _, _, _, rfl, (by assumption), (by assumption), (by assumption), (by rfl), ?_⟩ | refine ⟨rfl, ?_⟩ | (refine And.intro ?_ ?_; focus walk_at "num")))
abbrev s_Exchange___init__ : Stmt := inClass (topS 13) 0
abbrev N_Exchange___init__ : List Str := ["self", "first_bit", "second_bit", "fates"]
abbrev P_Exchange___init__ : List Str := ["self", "first_bit", "second_bit", "fates"]
theorem sc_Exchange___init__ : FnScope N_Exchange___init__ P_Exchange___init__ (defScope s_Exchange___init__) := ⟨rfl, rfl, rfl, by decide +kernel, rfl, by decide +kernel, by decide +kernel⟩
abbrev s_Exchange___len__ : Stmt := inClass (topS 13) 1
abbrev N_Exchange___len__ : List Str := ["self"]
abbrev P_Exchange___len__ : List Str := ["self"]
theorem sc_Exchange___len__ : FnScope N_Exchange___len__ P_Exchange___len__ (defScope s_Exchange___len__) := ⟨rfl, rfl, rfl, by decide +kernel, rfl, by decide +kernel, by decide +kernel⟩
abbrev s_Exchange___eq__ : Stmt := inClass (topS 13) 2
abbrev N_Exchange___eq__ : List Str := ["self", "other"]
abbrev P_Exchange___eq__ : List Str := ["self", "other"]
theorem sc_Exchange___eq__ : FnScope N_Exchange___eq__ P_Exchange___eq__ (defScope s_Exchange___eq__) := ⟨rfl, rfl, rfl, by decide +kernel, rfl, by decide +kernel, by decide +kernel⟩
abbrev s_Exchange_seen : Stmt := inClass (topS 13) 3
abbrev N_Exchange_seen : List Str := ["self", "end", "own", "other", "at"]
abbrev P_Exchange_seen : List Str := ["self", "end"]
theorem sc_Exchange_seen : FnScope N_Exchange_seen P_Exchange_seen (defScope s_Exchange_seen) := ⟨rfl, rfl, rfl, by decide +kernel, rfl, by decide +kernel, by decide +kernel⟩
abbrev s_alike : Stmt := topS 14
abbrev N_alike : List Str := ["one", "other", "to"]
abbrev P_alike : List Str := ["one", "other", "to"]
theorem sc_alike : FnScope N_alike P_alike (defScope s_alike) := ⟨rfl, rfl, rfl, by decide +kernel, rfl, by decide +kernel, by decide +kernel⟩
abbrev FnM (K : PySem.W.Frag) (x q : Str) (st : Stmt) (f : Addr) (fd : FuncData) : Prop := FunD K x q (defArgs st) (defBody st) (defScope st) [] [] f fd
abbrev exF (a b : Int) (l : List Nat) : List (Str × V) := [("first_bit", .int a), ("second_bit", .int b), ("fates", .str (S l))]
/-- an exchange -/
def ExA (C : Addr) (H : Hp) (n : Addr) (a b : Int) (l : List Nat) : Prop := ∃ dx, H n = some (.ins C dx (exF a b l))
theorem ExA.mono {C : Addr} {H H' : Hp} {n : Addr} {a b : Int} {l : List Nat} (s : Same H H') (h : ExA C H n a b l) : ExA C H' n a b l := h.imp fun _ e => s _ _ e
/-- what Exchange(a, b, l) raises -/
def badE (CB CF : Addr) (E : XK) (H : Hp) : Bad → Prop
  | .bit x => ∀ H' d, Same H H' → H' d = none → E (.ref CB) (some d) (upd H' d (.xd [("bit", .int x)]))
  | .fate i => ∀ H' d, Same H H' → H' d = none → E (.ref CF) (some d) (upd H' d (.xd [("at", .int (i : Int))]))
section
variable {P : Program} {w : World} {K : PySem.W.Frag} {mg : Str → Option Value} {base : Heap} {f C CB CE CF aE : Addr} {fd : FuncData}
def spEx1 (C CB CF : Addr) : Sp := fun vs H Q E => ∃ (n dx : Addr) (a b : Int) (l : List Nat), vs = [.ref n, .int a, .int b, .str (S l)] ∧ H n = some (.ins C dx []) ∧ l.length ≤ 1000 ∧
  (bad a b l = none → ∀ H', SB n H H' → H' n = some (.ins C dx (exF a b l)) → Q .non H') ∧ ∀ r, bad a b l = some r → badE CB CF E H r
theorem ok_init (F : FnM K "__init__" "Exchange.__init__" s_Exchange___init__ f fd) (cls : Cls K C) (n_first_bit : NoAttr K C "first_bit") (n_second_bit : NoAttr K C "second_bit") (n_fates : NoAttr K C "fates") (c_check_bit : CalX P w K mg base 3 "check_bit" (spCkB CB)) (c_check_fates : CalX P w K mg base 3 "check_fates" (spCkF CF)) : FnOk P w K mg base (L2N.CX P w) 4 f fd P_Exchange___init__ (spEx1 C CB CF) := by
  refine F.ok sc_Exchange___init__ (fun vs H Q E h => ?_) (fun cdv A outer s H vs Q E hr h => ?_)
  · obtain ⟨n, dx, a, b, l, rfl, _⟩ := h
    rfl
  · obtain ⟨n, dx, a, b, l, rfl, hn, ll, q1, q2⟩ := h
    have tk := takes_fn (P := P) (w := w) (K := K) (mg := mg) (base := base) (N := N_Exchange___init__) (qual := "Exchange.__init__") (scope := defScope s_Exchange___init__) (f := f) (cd := cdv) (A := A) (outer := outer) (s := s) (H := H) (E := E)
    refine ⟨_, (pss_cons (ps_expr (pe_clE c_check_bit (fun σ => L2N.passAt tk σ) hr (by decide) (by rfl) (pa_cons (pv 1) pa_nil)))
      (pss_cons (ps_expr (pe_clE c_check_bit (fun σ => L2N.passAt tk σ) hr (by decide) (by rfl) (pa_cons (pv 2) pa_nil)))
      (pss_cons (ps_expr (pe_clE c_check_fates (fun σ => L2N.passAt tk σ) hr (by decide) (by rfl) (pa_cons (pv 3) pa_nil)))
      (pss_cons (ps_fld (pv 0) (pv 1) rfl)
      (pss_cons (ps_fld (pv 0) (pv 2) rfl)
      (pss_one (ps_fld (pv 0) (pv 3) rfl))))))), ?_⟩
    unfold bad at q1 q2
    walk_at "go"
    refine ⟨fun e H1 s1 => ?_, fun e H1 d s1 nd => ?_⟩
    · rw [if_pos e] at q1 q2
      walk_at "go"
      refine ⟨fun e2 H2 s2 => ?_, fun e2 H2 d s2 nd => ?_⟩
      · rw [if_pos e2] at q1 q2
        walk_at "go"
        refine ⟨fun e3 H3 s3 => ?_, fun i e3 H3 d s3 nd => ?_⟩
        · have q1 := q1 (by rw [e3]; rfl)
          have s03 := s1.trans (s2.trans s3)
          have hn3 := s03 _ _ hn
          clear q2
          walk_at "go"
          refine ⟨n, C, dx, _, rfl, hn3, cls, n_first_bit, by decide, ?_⟩
          walk_at "go"
          refine ⟨n, C, dx, _, rfl, upd_same, cls, n_second_bit, (show (1 : Nat) < 1000 by omega), ?_⟩
          walk_at "go"
          refine ⟨n, C, dx, _, rfl, upd_same, cls, n_fates, (show (2 : Nat) < 1000 by omega), ?_⟩
          refine q1 _ (SB.upd (SB.upd (SB.upd (Z.Same.sb s03)))) ?_
          exact upd_same
        · exact q2 (.fate i) (by rw [e3]; rfl) H3 d (s1.trans (s2.trans s3)) nd
      · rw [e2] at q2
        exact q2 (.bit b) rfl H2 d (s1.trans s2) nd
    · rw [e] at q2
      exact q2 (.bit a) rfl H1 d s1 nd
def spLen1 (C : Addr) : Sp := fun vs H Q _ => ∃ (n : Addr) (a b : Int) (l : List Nat), vs = [.ref n] ∧ ExA C H n a b l ∧ l.length ≤ 1000 ∧ Q (.int l.length) H
theorem ok_len (F : FnM K "__len__" "Exchange.__len__" s_Exchange___len__ f fd) (m_len : mg "len" = none) (cls : Cls K C) (n_fates : NoAttr K C "fates") : FnOk P w K mg base CX0 1 f fd P_Exchange___len__ (spLen1 C) := by
  refine F.ok sc_Exchange___len__ (fun vs H Q E h => ?_) (fun cdv A outer s H vs Q E hr h => ?_)
  · obtain ⟨n, a, b, l, rfl, _⟩ := h
    rfl
  · obtain ⟨n, a, b, l, rfl, ⟨dx, hn⟩, ll, q⟩ := h
    refine ⟨_, PSs.nox (pss_one (ps_ret (pe_callB call_len_str (by rfl) m_len PySem.boot_len (pa_cons (pe_fld (pv 0) rfl) pa_nil)))), ?_⟩
    have hlen : (S l).length ≤ sizeLine := by rw [S_len]; exact szl (by omega)
    walk_at "go"
    rw [S_len]
    exact q
def spEq1 (C : Addr) : Sp := fun vs H Q _ => ∃ (n m : Addr) (a b : Int) (l : List Nat) (a' b' : Int) (l' : List Nat), vs = [.ref n, .ref m] ∧ ExA C H n a b l ∧ ExA C H m a' b' l' ∧ Q (.bl (decide (a = a' ∧ b = b' ∧ l = l'))) H
theorem ok_eq (F : FnM K "__eq__" "Exchange.__eq__" s_Exchange___eq__ f fd) (isC : C8.InsC K C) (m_isinstance : mg "isinstance" = none) (g_Exchange : mg "Exchange" = some (.ref C)) (cls : Cls K C) (n_first_bit : NoAttr K C "first_bit") (n_second_bit : NoAttr K C "second_bit") (n_fates : NoAttr K C "fates") : FnOk P w K mg base CX0 1 f fd P_Exchange___eq__ (spEq1 C) := by
  refine F.ok sc_Exchange___eq__ (fun vs H Q E h => ?_) (fun cdv A outer s H vs Q E hr h => ?_)
  · obtain ⟨n, m, a, b, l, a', b', l', rfl, _⟩ := h
    rfl
  · obtain ⟨n, m, a, b, l, a', b', l', rfl, ⟨dx, hn⟩, ⟨dy, hm⟩, q⟩ := h
    refine ⟨_, PSs.nox (pss_one (ps_ret (pe_and (pe_callB (C8.call_isC isC) (by rfl) m_isinstance (by decide +kernel) (pa_cons (pv 1) (pa_cons (pe_glob (by rfl) g_Exchange relv_ref) pa_nil))) (pe_and (pe_cmpR op_eq (pe_fld (pv 0) rfl) (pe_fld (pv 1) rfl) (nomark _)) (pe_and (pe_cmpR op_eq (pe_fld (pv 0) rfl) (pe_fld (pv 1) rfl) (nomark _)) (pe_one (pe_cmpR op_eq (pe_fld (pv 0) rfl) (pe_fld (pv 1) rfl) (nomark _)))))))), ?_⟩
    walk_at "go"
    refine ⟨m, dy, _, rfl, hm, ?_⟩
    walk_at "go"
    by_cases h1 : a = a'
    · subst h1
      rw [decide_eq_true rfl, if_pos rfl]
      walk_at "go"
      by_cases h2 : b = b'
      · subst h2
        rw [decide_eq_true rfl, if_pos rfl]
        walk_at "go"
        have e3 : decide (V.str (S l) = V.str (S l')) = decide (a = a ∧ b = b ∧ l = l') := by
          by_cases h3 : l = l'
          · subst h3
            simp
          · have h4 : ¬ (V.str (S l) = V.str (S l')) := fun z => h3 (by injection z with z; exact S_inj z)
            rw [decide_eq_false h4, decide_eq_false (fun z => h3 z.2.2)]
        rw [e3]
        exact q
      · rw [decide_eq_false (fun z => h2 (by injection z)), if_neg (by decide)]
        rw [decide_eq_false (fun z => h2 z.2.1)] at q
        exact q
    · rw [decide_eq_false (fun z => h1 (by injection z)), if_neg (by decide)]
      rw [decide_eq_false (fun z => h1 z.1)] at q
      exact q
def spSeen (C CE : Addr) : Sp := fun vs H Q E => ∃ (n : Addr) (z : Str) (a b : Int) (l : List Nat), vs = [.ref n, .str z] ∧ ExA C H n a b l ∧ l.length ≤ 1000 ∧ (∀ e, z = eS e → ∀ p H', Same H H' → H p = none → H' p = some (.tup (vwL (vw a b l e))) → Q (.ref p) H') ∧
  (¬ (z = eS false ∨ z = eS true) → ∀ d, H d = none → E (.ref CE) (some d) (upd H d (.xd [("end", .str z)])))
theorem ok_seen (F : FnM K "seen" "Exchange.seen" s_Exchange_seen f fd) (m_range : mg "range" = none) (m_len : mg "len" = none) (cls : Cls K C) (n_first_bit : NoAttr K C "first_bit") (n_second_bit : NoAttr K C "second_bit") (n_fates : NoAttr K C "fates") (c_check_end : CalX P w K mg base 3 "check_end" (spCkE CE)) (c_arrives : Cal P w K mg base 1 "arrives" spArr) : FnOk P w K mg base (L2N.CX P w) 4 f fd P_Exchange_seen (spSeen C CE) := by
  refine F.ok sc_Exchange_seen (fun vs H Q E h => ?_) (fun cdv A outer s H vs Q E hr h => ?_)
  · obtain ⟨n, z, a, b, l, rfl, _⟩ := h
    rfl
  · obtain ⟨n, z, a, b, l, rfl, ⟨dx, hn⟩, ll, q1, q2⟩ := h
    have tk := takes_fn (P := P) (w := w) (K := K) (mg := mg) (base := base) (N := N_Exchange_seen) (qual := "Exchange.seen") (scope := defScope s_Exchange_seen) (f := f) (cd := cdv) (A := A) (outer := outer) (s := s) (H := H) (E := E)
    refine ⟨_, (pss_cons (ps_expr (pe_clE c_check_end (fun σ => L2N.passAt tk σ) hr (by decide) (by rfl) (pa_cons (pv 1) pa_nil)))
      (pss_cut (ps_asg (pe_ifExp (pt_cmpR op_eq (pv 1) pe_str (nomark _)) (pe_tup (pa_cons (pe_fld (pv 0) rfl) (pa_cons (pe_fld (pv 0) rfl) pa_nil))) (pe_tup (pa_cons (pe_fld (pv 0) rfl) (pa_cons (pe_fld (pv 0) rfl) pa_nil)))) (pg_tup rfl (pgs_cons (pg_name (i := 2) sc_Exchange_seen.nd rfl (by first | exact .inl rfl | exact .inr rfl)) (pgs_cons (pg_name (i := 3) sc_Exchange_seen.nd rfl (by first | exact .inl rfl | exact .inr rfl)) pgs_nil))))
      (pss_cons (ps_for (passes_of rfl) rfl (pi_range3 (by rfl) m_range (pa_cons (pe_op op_sub (pe_callB call_len_str (by rfl) m_len PySem.boot_len (pa_cons (pe_fld (pv 0) rfl) pa_nil)) pe_int) (pa_cons (pe_un un_neg pe_int) (pa_cons (pe_un un_neg pe_int) pa_nil)))) (pg_name (i := 4) sc_Exchange_seen.nd rfl (by first | exact .inl rfl | exact .inr rfl))
        (pss_one (ps_if (pt_val (pe_cl c_arrives hr (by decide) (by rfl) (pa_cons (pe_ix ix_str (pe_fld (pv 0) rfl) (pv 4) (fun _ _ => rfl)) (pa_cons (pv 1) pa_nil)))) (pss_one (ps_ret (pe_tup (pa_cons (pv 2) (pa_cons (pv 3) (pa_cons (pe_slice C8.sl_txt (pe_fld (pv 0) rfl) po_none (po_some (pv 4))) (pa_cons (pe_op op_sub (pe_op op_sub (pe_callB call_len_str (by rfl) m_len PySem.boot_len (pa_cons (pe_fld (pv 0) rfl) pa_nil)) pe_int) (pv 4)) pa_nil))))))) pss_nil)))
      (pss_one (ps_ret (pe_tup (pa_cons (pv 2) (pa_cons pe_non (pa_cons pe_str (pa_cons (pe_callB call_len_str (by rfl) m_len PySem.boot_len (pa_cons (pe_fld (pv 0) rfl) pa_nil)) pa_nil)))))))))), ?_⟩
    have hlen : (S l).length ≤ sizeLine := by rw [S_len]; exact szl (by omega)
    walk_at "go"
    refine ⟨fun hz => ?_, fun h => q2 h⟩
    obtain ⟨e, rfl⟩ : ∃ e, z = eS e := hz.elim (fun h => ⟨false, h⟩) (fun h => ⟨true, h⟩)
    have q1 := q1 e rfl
    clear q2 hz
    have k0 : (fun e => if e then b else a) e = if e then b else a := rfl
    refine ⟨fun σ J => Same H J ∧ ∃ ow ot, (ow = if e then b else a) ∧ (ot = if e then a else b) ∧ σ = [some (.ref n), some (.str (eS e)), some (.int ow), some (.int ot), none], ?_, ?_⟩
    · cases e
      · walk_at "go"
        intro t nt
        generalize eH_ : upd H t _ = H1
        have s1 : Same H H1 := by rw [← eH_]; exact same_new nt
        have et : H1 t = some (.tup [.int a, .int b]) := by rw [← eH_]; exact upd_same
        clear eH_
        walk_at "go"
        refine ⟨t, _, rfl, SqT.of et, rfl, ?_⟩
        walk_at "go"
        rfl
      · walk_at "go"
        intro t nt
        generalize eH_ : upd H t _ = H1
        have s1 : Same H H1 := by rw [← eH_]; exact same_new nt
        have et : H1 t = some (.tup [.int b, .int a]) := by rw [← eH_]; exact upd_same
        clear eH_
        walk_at "go"
        refine ⟨t, _, rfl, SqT.of et, rfl, ?_⟩
        walk_at "go"
        rfl
    · rintro σ J ⟨s1, ow, ot, eo, eu, rfl⟩
      have hn1 := s1 _ _ hn
      walk_at "go"
      rw [S_len]
      refine ⟨_, _, _, _, rfl, RgC.neg (by omega) (by omega) (by omega) (by omega), ?_⟩
      have en : ((l.length : Int) - 1 - -1).toNat = l.length := by omega
      refine for_gen (n := l.length) (fun i σ J1 => J1 = J ∧ lst (hrd e) l l.length = lst (hrd e) l (l.length - i) ∧ ∃ v4, σ = [some (.ref n), some (.str (eS e)), some (.int ow), some (.int ot), v4]) ⟨rfl, rfl, _, rfl⟩ ?_ ?_ ?_ ?_
      · intro i σ J1 hi _
        show i < ((l.length : Int) - 1 - -1).toNat
        omega
      · intro σ J1 _
        show ((l.length : Int) - 1 - -1).toNat ≤ l.length
        omega
      · rintro i σ J1 x J2 hi ⟨rfl, el, v4, rfl⟩ ⟨rfl, rfl⟩
        have hk : l.length - 1 - i < l.length := by omega
        have ek : (l.length : Int) - 1 + (i : Int) * -1 = ((l.length - 1 - i : Nat) : Int) := by omega
        have e1 : l.length - i = (l.length - 1 - i) + 1 := by omega
        have e2 : l.length - (i + 1) = l.length - 1 - i := by omega
        rw [e1] at el
        rw [e2]
        rw [lst_succ] at el
        have ec : l.getD (l.length - 1 - i) 0 = l[l.length - 1 - i] := by rw [List.getD_eq_getElem?_getD, List.getElem?_eq_getElem hk]; rfl
        rw [ec] at el
        have ea : atI (S l).cps.toList ((l.length - 1 - i : Nat) : Int) = some l[l.length - 1 - i] := atI_nat (by show l[l.length - 1 - i]? = _; exact List.getElem?_eq_getElem hk)
        generalize l[l.length - 1 - i] = c at ea el
        generalize l.length - 1 - i = k at ek ea el hk
        walk_at "go"
        rw [ek]
        refine ⟨S l, _, c, rfl, rfl, hlen, ea, ?_⟩
        walk_at "go"
        by_cases hc : hrd e c = true
        · rw [if_pos hc] at el
          rw [hc, if_pos rfl]
          walk_at "go"
          rw [SX.slice_to (by omega), Int.toNat_natCast, S_len]
          walk_at "go"
          intro p np
          refine q1 p _ (s1.trans (same_new np)) (none_of s1 np) ?_
          rw [upd_same, vw_some el, eo, eu]
          rfl
        · rw [if_neg hc] at el
          rw [Bool.eq_false_iff.mpr hc, if_neg (by decide)]
          exact ⟨rfl, el, _, rfl⟩
      · rintro σ J1 ⟨rfl, el, v4, rfl⟩
        rw [Nat.sub_self] at el
        have el : lst (hrd e) l l.length = none := el
        walk_at "go"
        intro p np
        rw [S_len]
        refine q1 p _ (s1.trans (same_new np)) (none_of s1 np) ?_
        rw [upd_same, vw_none el, eo]
        rfl
def gAl (vs zs : List V) : List V := vs ++ zs
def spAlike (C CE : Addr) : Sp := fun vs H Q E => ∃ (n m : Addr) (z : Str) (a b : Int) (l : List Nat) (a' b' : Int) (l' : List Nat), vs = [.ref n, .ref m, .str z] ∧ ExA C H n a b l ∧ ExA C H m a' b' l' ∧ Fts l ∧ Fts l' ∧ l.length ≤ 1000 ∧ l'.length ≤ 1000 ∧ (∀ e, z = eS e → ∀ H', Same H H' → Q (.bl (decide (vw a b l e = vw a' b' l' e))) H') ∧
  (¬ (z = eS false ∨ z = eS true) → ∀ d, H d = none → E (.ref CE) (some d) (upd H d (.xd [("end", .str z)])))
theorem ok_alike (F : FnP K "alike" s_alike f fd) (me_seen : MetX P w K mg base 4 C "seen" (spSeen C CE)) : FnOk P w K mg base (L2N.CX P w) 5 f fd P_alike (spAlike C CE) := by
  refine F.ok sc_alike (fun vs H Q E h => ?_) (fun cdv A outer s H vs Q E hr h => ?_)
  · obtain ⟨n, m, z, a, b, l, a', b', l', rfl, _⟩ := h
    rfl
  · obtain ⟨n, m, z, a, b, l, a', b', l', rfl, ⟨dx, hn⟩, ⟨dy, hm⟩, hf, hf', ll, ll', q1, q2⟩ := h
    have tk := takes_fn (P := P) (w := w) (K := K) (mg := mg) (base := base) (N := N_alike) (qual := "alike") (scope := defScope s_alike) (f := f) (cd := cdv) (A := A) (outer := outer) (s := s) (H := H) (E := E)
    refine ⟨_, (pss_one (ps_ret (pe_cmpR (op_eqD hr.units) (pe_meE me_seen (pv 0) (fun σ => L2N.passAt tk σ) hr (by decide) (pa_cons (pv 2) pa_nil)) (pe_meE me_seen (pv 1) (fun σ => L2N.passAt tk σ) hr (by decide) (pa_cons (pv 2) pa_nil)) (nomark _)))), ?_⟩
    walk_at "go"
    refine ⟨n, dx, _, rfl, hn, rfl, ?_⟩
    walk_at "go"
    refine ⟨n, z, a, b, l, rfl, ⟨dx, hn⟩, ll, fun e ez p H1 s1 np ep => ?_, fun h d nd => q2 h d nd⟩
    have hm1 := s1 _ _ hm
    walk_at "go"
    refine ⟨m, dy, _, rfl, hm1, rfl, ?_⟩
    walk_at "go"
    refine ⟨m, z, a', b', l', rfl, ⟨dy, hm1⟩, ll', fun e2 ez2 p2 H2 s2 np2 ep2 => ?_, fun h => absurd (by rw [ez]; cases e <;> simp) h⟩
    obtain rfl : e = e2 := by
      rw [ez] at ez2
      revert ez2
      cases e <;> cases e2 <;> decide +kernel
    refine ⟨_, _, dp_vw (s2 _ _ ep), dp_vw ep2, shaped_vw (vw_ok hf ll), shaped_vw (vw_ok hf' ll'), ?_⟩
    rw [eqv_vw]
    exact q1 e ez H2 (s1.trans s2)
end
end Z
set_option pp.maxSteps 700
set_option Elab.async false
set_option linter.all false
set_option maxRecDepth 100000
set_option maxHeartbeats 4000000
open SX (S S_inj S_len S_cat)
namespace Z
open PySem PySem.Spec PyProof.Rows L2
open C8 (pss_cut tCut)
local macro_rules | `(tactic| walk_at "num") => `(tactic| first | rfl | omega | decide | exact Nat.le_of_lt (small1000 (by simp)) | exact ⟨by omega, by omega⟩ | exact ⟨by omega, by omega, by omega⟩ | exact ⟨by decide, by decide, by decide⟩ | exact Or.inl ⟨by omega, by omega⟩ | exact Or.inr ⟨by omega, by omega⟩)
local macro_rules | `(tactic| walk_at "go") => `(tactic| repeat (first | refine ⟨_, rfl, ?_⟩ | refine ⟨_, _, rfl, rfl, ?_⟩ | refine ⟨_, _, rfl, ?_⟩ | (refine ⟨_, _, rfl, rfl, ?_, ?_⟩; focus walk_at "num") | refine Or.inl ⟨_, rfl, ?_⟩ | refine ⟨_, _, _, _, rfl, rfl, (by assumption), (by rfl), ?_⟩ | refine ⟨_, _, _, _, _, rfl, (by assumption), (by assumption), (by assumption), (by rfl), ?_⟩ | refine ⟨rfl, ?_⟩ | (refine And.intro ?_ ?_; focus walk_at "num")))
abbrev s_exchange : Stmt := topS 19
abbrev N_exchange : List Str := ["_law_draws_here", "_law_place", "_law_most", "_law_shape", "_law_bits", "_law_menu", "_law_size", "_law_k", "_law_fates"]
abbrev P_exchange : List Str := ["_law_draws_here", "_law_place", "_law_most"]
theorem sc_exchange : FnScope N_exchange P_exchange (defScope s_exchange) := ⟨rfl, rfl, rfl, by decide +kernel, rfl, by decide +kernel, by decide +kernel⟩
abbrev s_other : Stmt := topS 20
abbrev N_other : List Str := ["_law_one", "_law_draws_here", "_law_place", "_law_kind", "_law_fate", "_law_fates", "_law_at"]
abbrev P_other : List Str := ["_law_one", "_law_draws_here", "_law_place"]
theorem sc_other : FnScope N_other P_other (defScope s_other) := ⟨rfl, rfl, rfl, by decide +kernel, rfl, by decide +kernel, by decide +kernel⟩
def menu8 : List V := [.str "bfsn", .str "bfsn", .str "bfsn", .str "sn", .str "fn", .str "n", .str "bfsnnnn", .str "bbbfs"]
def menus : List (List Nat) := [[98, 102, 115, 110], [98, 102, 115, 110], [98, 102, 115, 110], [115, 110], [102, 110], [110], [98, 102, 115, 110, 110, 110, 110], [98, 98, 98, 102, 115]]
theorem menu8_at : ∀ i, i < 8 → atI menu8 ((i : Nat) : Int) = some (.str (S (menus.getD i []))) := by decide +kernel
theorem menus_ok : ∀ i, i < 8 → 0 < (menus.getD i []).length ∧ (menus.getD i []).length ≤ 7 ∧ (menus.getD i []).all isF = true := by decide +kernel
theorem sum_one : ∀ l : List Nat, (l.map fun _ => 1).sum = l.length
  | [] => rfl
  | _ :: r => by
    rw [List.map_cons, List.sum_cons, sum_one r, List.length_cons]
    omega
theorem join_one : ∀ l : List Nat, TL.joinL [] (l.map fun c => [c]) = l
  | [] => rfl
  | [c] => rfl
  | c :: d :: r => by
    have ih := join_one (d :: r)
    show [c] ++ ([] ++ TL.joinL [] ((d :: r).map fun c => [c])) = _
    rw [ih]
    rfl
section
variable {P : Program} {w : World} {K : PySem.W.Frag} {mg : Str → Option Value} {base : Heap} {f : Addr} {fd : FuncData}
/-- a drawn exchange -/
def Drawn (x y : Int) (l : List Nat) : Prop := (x = 0 ∨ x = 1) ∧ (y = 0 ∨ y = 1) ∧ Fts l ∧ l.length ≤ 60
def spLex (K : PySem.W.Frag) : Sp := fun vs H Q _ => ∃ (a p : Addr) (n : Nat) (ds : List Int) (mo : Int), vs = [.ref a, .ref p, .int mo] ∧ Tk K a p ds n H H ∧ 6 ≤ mo ∧ mo ≤ 60 ∧ ∀ (t : Addr) (x y : Int) (l : List Nat) H', Tk K a p ds n H H' → H t = none → H' t = some (.tup (exL x y l)) → Drawn x y l → Q (.ref t) H'
theorem ok_exchange (F : FnP K "_law_exchange" s_exchange f fd) (m_int : mg "int" = none) (m_len : mg "len" = none) (m_range : mg "range" = none) (c_take : Cal P w K mg base 1 "_law_take" (spTake K)) : FnOk P w K mg base CX0 2 f fd P_exchange (spLex K) := by
  refine F.ok sc_exchange (fun vs H Q E h => ?_) (fun cdv A outer s H vs Q E hr h => ?_)
  · obtain ⟨a, p, n, ds, mo, rfl, _⟩ := h
    rfl
  · obtain ⟨a, p, n, ds, mo, rfl, hT, m0, m1, q⟩ := h
    refine ⟨_, PSs.nox (pss_cons (ps_set (i := 3) sc_exchange.nd rfl (by first | exact .inl rfl | exact .inr rfl) (pe_cl c_take hr (by decide) (by rfl) (pa_cons (pv 0) (pa_cons (pv 1) pa_nil))))
      (pss_cons (ps_set (i := 4) sc_exchange.nd rfl (by first | exact .inl rfl | exact .inr rfl) (pe_cl c_take hr (by decide) (by rfl) (pa_cons (pv 0) (pa_cons (pv 1) pa_nil))))
      (pss_cons (ps_set (i := 5) sc_exchange.nd rfl (by first | exact .inl rfl | exact .inr rfl) (pe_ix ix_list (pe_lst (pa_cons pe_str (pa_cons pe_str (pa_cons pe_str (pa_cons pe_str (pa_cons pe_str (pa_cons pe_str (pa_cons pe_str (pa_cons pe_str pa_nil))))))))) (pe_op op_mod (pe_callTy call_int1 (by rfl) m_int (by decide +kernel) (pa_cons (pe_cl c_take hr (by decide) (by rfl) (pa_cons (pv 0) (pa_cons (pv 1) pa_nil))) pa_nil)) pe_int) (fun _ _ => rfl)))
      (pss_cons (ps_set (i := 6) sc_exchange.nd rfl (by first | exact .inl rfl | exact .inr rfl) (pe_op op_mod (pe_callTy call_int1 (by rfl) m_int (by decide +kernel) (pa_cons (pv 3) pa_nil)) pe_int))
      (pss_cut (ps_if (pt_cmpR op_eq (pe_op op_mod (pe_callTy call_int1 (by rfl) m_int (by decide +kernel) (pa_cons (pe_op op_fdiv (pv 3) pe_int) pa_nil)) pe_int) pe_int (nomark _)) (pss_one (ps_set (i := 6) sc_exchange.nd rfl (by first | exact .inl rfl | exact .inr rfl) (pe_op op_mod (pe_callTy call_int1 (by rfl) m_int (by decide +kernel) (pa_cons (pe_op op_fdiv (pv 3) pe_int) pa_nil)) (pe_op op_add (pv 2) pe_int)))) pss_nil)
      (pss_cons (ps_set (i := 8) sc_exchange.nd rfl (by first | exact .inl rfl | exact .inr rfl) (pe_join pe_str (pe_lc (own := [("_law_k", 7)]) (g := (gName 7)) (tt := tYes) (by rfl) sc_exchange.nd (pi_range1 (by rfl) m_range (pa_cons (pv 6) pa_nil)) (blkOk_by (own := [("_law_k", 7)]) (N := N_exchange) (sc := defScope s_exchange) (by decide +kernel)) (fun _ _ _ _ _ => (pg_name (i := 7) sc_exchange.nd rfl (by first | exact .inl rfl | exact .inr rfl))) (fun _ _ _ _ _ => pts_nil) (fun _ _ _ _ _ => (pe_ix ix_str (pv 5) (pe_op op_mod (pe_callTy call_int1 (by rfl) m_int (by decide +kernel) (pa_cons (pe_cl c_take hr (by decide) (by rfl) (pa_cons (pv 0) (pa_cons (pv 1) pa_nil))) pa_nil)) (pe_callB call_len_str (by rfl) m_len PySem.boot_len (pa_cons (pv 5) pa_nil))) (fun _ _ => rfl))))))
      (pss_one (ps_ret (pe_tup (pa_cons (pe_op op_mod (pe_callTy call_int1 (by rfl) m_int (by decide +kernel) (pa_cons (pv 4) pa_nil)) pe_int) (pa_cons (pe_op op_mod (pe_callTy call_int1 (by rfl) m_int (by decide +kernel) (pa_cons (pe_op op_fdiv (pv 4) pe_int) pa_nil)) pe_int) (pa_cons (pv 8) pa_nil)))))))))))), ?_⟩
    obtain ⟨mm, em⟩ := hT.pl
    walk_at "go"
    refine ⟨a, p, n, mm, ds, rfl, SqL.of hT.hA, hT.hd, em, hT.ne, fun r r0 r1 => ?_⟩
    obtain ⟨hT1, _⟩ := hT.next em
    generalize upd H p (.lst [.int ((mm + 1 : Nat) : Int)]) = H1 at hT1
    obtain ⟨m1, em1⟩ := hT1.pl
    walk_at "go"
    refine ⟨a, p, n, m1, ds, rfl, SqL.of hT1.hA, hT1.hd, em1, hT1.ne, fun r2 r20 r21 => ?_⟩
    obtain ⟨hT2, _⟩ := hT1.next em1
    generalize upd H1 p (.lst [.int ((m1 + 1 : Nat) : Int)]) = H2 at hT2
    walk_at "go"
    intro L8 nL8
    generalize eH_ : upd H2 L8 _ = H3
    have s3 : Same H2 H3 := by rw [← eH_]; exact same_new nL8
    have eL8 : H3 L8 = some (.lst menu8) := by rw [← eH_]; exact upd_same
    clear eH_
    have hT3 := hT2.more s3
    obtain ⟨m3, em3⟩ := hT3.pl
    walk_at "go"
    refine ⟨a, p, n, m3, ds, rfl, SqL.of hT3.hA, hT3.hd, em3, hT3.ne, fun r3 r30 r31 => ?_⟩
    obtain ⟨hT4, sb4⟩ := hT3.next em3
    have pL : L8 ≠ p := fun z => by rw [z, em3] at eL8; cases eL8
    have eL4 := sb4 _ _ pL eL8
    generalize upd H3 p (.lst [.int ((m3 + 1 : Nat) : Int)]) = H4 at hT4 eL4
    walk_at "go"
    obtain ⟨i, ei, hi⟩ : ∃ i : Nat, r3 % 8 = (i : Int) ∧ i < 8 := ⟨(r3 % 8).toNat, by omega, by omega⟩
    refine ⟨L8, menu8, r3 % 8, _, rfl, rfl, SqL.of eL4, by rw [ei]; exact menu8_at i hi, ?_⟩
    obtain ⟨mo1, mo2, mo3⟩ := menus_ok i hi
    generalize menus.getD i [] = ml at mo1 mo2 mo3
    have mo3 : Fts ml := fun c hc => List.all_eq_true.mp mo3 c hc
    dsimp only [List.set]
    walk_at "go"
    refine ⟨fun σ J => J = H4 ∧ ∃ sz : Nat, sz ≤ 60 ∧ σ = [some (.ref a), some (.ref p), some (.int mo), some (.int r), some (.int r2), some (.str (S ml)), some (.int sz), none, none], ?_, ?_⟩
    · walk_at "go"
      refine ite2 (fun e => ?_) (fun e => ?_)
      · walk_at "go"
        have z0 := Int.emod_nonneg (r / 28) (show mo + 1 ≠ 0 by omega)
        have z1 := Int.emod_lt_of_pos (r / 28) (show 0 < mo + 1 by omega)
        exact ⟨(r / 28 % (mo + 1)).toNat, by omega, by rw [Int.toNat_of_nonneg z0]; rfl⟩
      · walk_at "go"
        exact ⟨(r % 7).toNat, by omega, by rw [Int.toNat_of_nonneg (by omega)]; rfl⟩
    rintro σ J ⟨rfl, sz, hsz, rfl⟩
    have hlen : (S ml).length ≤ sizeLine := by rw [S_len]; exact szl (by omega)
    walk_at "go"
    refine ⟨⟨_, rfl⟩, ?_⟩
    walk_at "go"
    intro D nD
    refine lc_gen (n := sz) (fun i J1 => Tk K a p ds n H J1 ∧ ∃ l : List Nat, J1 D = some (.lst (l.map fun c => V.str (S [c]))) ∧ l.length = i ∧ Fts l) ⟨hT4.more (same_new nD), [], upd_same, rfl, fun c h => nomatch h⟩ ?_ ?_ ?_ ?_
    · intro i J1 hi _
      show i < (sz : Int).toNat
      omega
    · intro J1 _
      show (sz : Int).toNat ≤ sz
      omega
    · rintro i J1 x J2 hi ⟨hT5, l, eD, ll, hf⟩ ⟨rfl, rfl⟩
      obtain ⟨m5, em5⟩ := hT5.pl
      have pD : p ≠ D := fun z => by
        obtain ⟨m4, em4⟩ := hT4.pl
        rw [z, nD] at em4
        cases em4
      have aD : a ≠ D := fun z => by
        have := hT4.hA
        rw [z, nD] at this
        cases this
      walk_at "go"
      refine ⟨a, p, n, m5, ds, rfl, SqL.of hT5.hA, hT5.hd, em5, hT5.ne, fun r5 r50 r51 => ?_⟩
      obtain ⟨hT6, sb6⟩ := hT5.next em5
      have eD6 := sb6 _ _ pD.symm eD
      generalize upd J2 p (.lst [.int ((m5 + 1 : Nat) : Int)]) = J3 at hT6 eD6
      walk_at "go"
      rw [S_len]
      refine ⟨by show (0 : Int) < (ml.length : Int); omega, ?_⟩
      obtain ⟨j, ej, hj⟩ : ∃ j : Nat, r5 % (ml.length : Int) = (j : Int) ∧ j < ml.length := by
        have z0 := Int.emod_nonneg r5 (show (ml.length : Int) ≠ 0 by omega)
        have z1 := Int.emod_lt_of_pos r5 (show (0 : Int) < ml.length by omega)
        exact ⟨(r5 % (ml.length : Int)).toNat, by omega, by omega⟩
      have ea : atI (S ml).cps.toList (r5 % (ml.length : Int)) = some ml[j] := by
        rw [ej]
        exact atI_nat (by show ml[j]? = _; exact List.getElem?_eq_getElem hj)
      have hc := mo3 _ (List.getElem_mem hj)
      generalize ml[j] = c at ea hc
      refine ⟨S ml, _, c, rfl, rfl, hlen, ea, ?_⟩
      refine ⟨_, eD6, by rw [List.length_map]; exact szlt (by omega), hT6.at_ (hT4.nn nD) pD aD, l ++ [c], by rw [upd_same, List.map_append]; rfl, by rw [List.length_append, ll]; rfl, fun x hx => ?_⟩
      rcases List.mem_append.mp hx with h | h
      · exact hf x h
      · rw [List.mem_singleton.mp h]
        exact hc
    rintro J1 ⟨hT5, l, eD, ll, hf⟩
    walk_at "go"
    refine ⟨S [], D, l.map fun c => S [c], rfl, rfl, .inl (SqL.of (by rw [List.map_map]; exact eD)), ?_, ?_⟩
    · rw [List.map_map]
      have e : (l.map ((fun x : Str => x.length) ∘ fun c => S [c])) = l.map fun _ => 1 := List.map_congr_left fun c _ => S_len _
      rw [e, sum_one, List.length_map, S_len]
      simp
      omega
    rw [show (l.map fun c => S [c]) = (l.map fun c => [c]).map S by rw [List.map_map]; rfl, SX.join_S, join_one]
    walk_at "go"
    intro t nt
    refine q t (r2 % 2) (r2 / 2 % 2) l _ (hT5.more (same_new nt)) (hT5.nn nt) upd_same ⟨?_, ?_, hf, by omega⟩
    · omega
    · omega
theorem bfsn4_at : ∀ i, i < 4 → ∃ c, atI (Str.ofString "bfsn").cps.toList ((i : Nat) : Int) = some c ∧ isF c = true := by
  intro i hi
  match i, hi with
  | 0, _ => exact ⟨98, by decide +kernel, rfl⟩
  | 1, _ => exact ⟨102, by decide +kernel, rfl⟩
  | 2, _ => exact ⟨115, by decide +kernel, rfl⟩
  | 3, _ => exact ⟨110, by decide +kernel, rfl⟩
  | n + 4, h => exact absurd h (by omega)
theorem Fts.app {l r : List Nat} (h : Fts l) (k : Fts r) : Fts (l ++ r) := fun c hc => (List.mem_append.mp hc).elim (h c) (k c)
theorem Fts.take {l : List Nat} (i : Nat) (h : Fts l) : Fts (l.take i) := fun c hc => h c (List.mem_of_mem_take hc)
theorem Fts.drop {l : List Nat} (i : Nat) (h : Fts l) : Fts (l.drop i) := fun c hc => h c (List.mem_of_mem_drop hc)
theorem Fts.one {c : Nat} (h : isF c = true) : Fts [c] := fun x hx => by rw [List.mem_singleton.mp hx]; exact h
def spOther (K : PySem.W.Frag) : Sp := fun vs H Q _ => ∃ (o a p : Addr) (n : Nat) (ds : List Int) (x y : Int) (l : List Nat), vs = [.ref o, .ref a, .ref p] ∧ H o = some (.tup (exL x y l)) ∧ Drawn x y l ∧ Tk K a p ds n H H ∧ ∀ (t : Addr) (x' y' : Int) (l' : List Nat) H', Tk K a p ds n H H' → H' t = some (.tup (exL x' y' l')) → Drawn x' y' l' → Q (.ref t) H'
theorem ok_other (F : FnP K "_law_other" s_other f fd) (m_int : mg "int" = none) (m_len : mg "len" = none) (c_take : Cal P w K mg base 1 "_law_take" (spTake K)) (c_exchange : Cal P w K mg base 2 "_law_exchange" (spLex K)) : FnOk P w K mg base CX0 3 f fd P_other (spOther K) := by
  refine F.ok sc_other (fun vs H Q E h => ?_) (fun cdv A outer s H vs Q E hr h => ?_)
  · obtain ⟨o, a, p, n, ds, x, y, l, rfl, _⟩ := h
    rfl
  · obtain ⟨o, a, p, n, ds, x, y, l, rfl, ho, ⟨hx, hy, hf, hl⟩, hT, q⟩ := h
    refine ⟨_, PSs.nox (pss_cons (ps_set (i := 3) sc_other.nd rfl (by first | exact .inl rfl | exact .inr rfl) (pe_op op_mod (pe_callTy call_int1 (by rfl) m_int (by decide +kernel) (pa_cons (pe_cl c_take hr (by decide) (by rfl) (pa_cons (pv 1) (pa_cons (pv 2) pa_nil))) pa_nil)) pe_int))
      (pss_cons (ps_set (i := 4) sc_other.nd rfl (by first | exact .inl rfl | exact .inr rfl) (pe_ix ix_str pe_str (pe_op op_mod (pe_callTy call_int1 (by rfl) m_int (by decide +kernel) (pa_cons (pe_cl c_take hr (by decide) (by rfl) (pa_cons (pv 1) (pa_cons (pv 2) pa_nil))) pa_nil)) pe_int) (fun _ _ => rfl)))
      (pss_cons (ps_set (i := 5) sc_other.nd rfl (by first | exact .inl rfl | exact .inr rfl) (pe_ix ix_tup (pv 0) pe_int (fun _ _ => rfl)))
      (pss_cons (ps_set (i := 6) sc_other.nd rfl (by first | exact .inl rfl | exact .inr rfl) (pe_op op_mod (pe_callTy call_int1 (by rfl) m_int (by decide +kernel) (pa_cons (pe_cl c_take hr (by decide) (by rfl) (pa_cons (pv 1) (pa_cons (pv 2) pa_nil))) pa_nil)) (pe_op op_add (pe_callB call_len_str (by rfl) m_len PySem.boot_len (pa_cons (pv 5) pa_nil)) pe_int)))
      (pss_cons (ps_if (pt_cmpR op_eq (pv 3) pe_int (nomark _)) (pss_one (ps_ret (pv 0))) pss_nil)
      (pss_cons (ps_if (pt_cmpR op_eq (pv 3) pe_int (nomark _)) (pss_one (ps_ret (pe_tup (pa_cons (pe_op op_sub pe_int (pe_ix ix_tup (pv 0) pe_int (fun _ _ => rfl))) (pa_cons (pe_ix ix_tup (pv 0) pe_int (fun _ _ => rfl)) (pa_cons (pv 5) pa_nil)))))) pss_nil)
      (pss_cons (ps_if (pt_cmpR op_eq (pv 3) pe_int (nomark _)) (pss_one (ps_ret (pe_tup (pa_cons (pe_ix ix_tup (pv 0) pe_int (fun _ _ => rfl)) (pa_cons (pe_op op_sub pe_int (pe_ix ix_tup (pv 0) pe_int (fun _ _ => rfl))) (pa_cons (pv 5) pa_nil)))))) pss_nil)
      (pss_cons (ps_if (pt_cmpR op_eq (pv 3) pe_int (nomark _)) (pss_one (ps_ret (pe_tup (pa_cons (pe_ix ix_tup (pv 0) pe_int (fun _ _ => rfl)) (pa_cons (pe_ix ix_tup (pv 0) pe_int (fun _ _ => rfl)) (pa_cons (pe_slice C8.sl_txt (pe_op op_add_str (pe_slice C8.sl_txt (pv 5) po_none (po_some (pv 6))) (pv 4)) po_none (po_some pe_int)) pa_nil)))))) pss_nil)
      (pss_cons (ps_if (pt_cmpR op_lt (pv 3) pe_int (nomark _)) (pss_one (ps_ret (pe_tup (pa_cons (pe_ix ix_tup (pv 0) pe_int (fun _ _ => rfl)) (pa_cons (pe_ix ix_tup (pv 0) pe_int (fun _ _ => rfl)) (pa_cons (pe_slice C8.sl_txt (pe_op op_add_str (pe_op op_add_str (pe_slice C8.sl_txt (pv 5) po_none (po_some (pv 6))) (pv 4)) (pe_slice C8.sl_txt (pv 5) (po_some (pe_op op_add (pv 6) pe_int)) po_none)) po_none (po_some pe_int)) pa_nil)))))) pss_nil)
      (pss_cons (ps_if (PW.pt (pw_and (pt_cmpR op_eq (pv 3) pe_int (nomark _)) (pw_and1 (pt_cmpR op_gt (pe_callB call_len_str (by rfl) m_len PySem.boot_len (pa_cons (pv 5) pa_nil)) pe_int (nomark _))))) (pss_one (ps_ret (pe_tup (pa_cons (pe_ix ix_tup (pv 0) pe_int (fun _ _ => rfl)) (pa_cons (pe_ix ix_tup (pv 0) pe_int (fun _ _ => rfl)) (pa_cons (pe_op op_add_str (pe_slice C8.sl_txt (pv 5) po_none (po_some (pe_un un_neg pe_int))) (pv 4)) pa_nil)))))) pss_nil)
      (pss_one (ps_ret (pe_cl c_exchange hr (by decide) (by rfl) (pa_cons (pv 1) (pa_cons (pv 2) (pa_cons pe_int pa_nil)))))))))))))))), ?_⟩
    have hlen : (S l).length ≤ sizeLine := by rw [S_len]; exact szl (by omega)
    have po : o ≠ p := fun z => by
      obtain ⟨m, em⟩ := hT.pl
      rw [z, em] at ho
      cases ho
    obtain ⟨mm, em⟩ := hT.pl
    walk_at "go"
    refine ⟨a, p, n, mm, ds, rfl, SqL.of hT.hA, hT.hd, em, hT.ne, fun r r0 r1 => ?_⟩
    obtain ⟨hT1, _⟩ := hT.next em
    generalize upd H p (.lst [.int ((mm + 1 : Nat) : Int)]) = H1 at hT1
    obtain ⟨m1, em1⟩ := hT1.pl
    walk_at "go"
    refine ⟨a, p, n, m1, ds, rfl, SqL.of hT1.hA, hT1.hd, em1, hT1.ne, fun r2 r20 r21 => ?_⟩
    obtain ⟨hT2, _⟩ := hT1.next em1
    generalize upd H1 p (.lst [.int ((m1 + 1 : Nat) : Int)]) = H2 at hT2
    walk_at "go"
    obtain ⟨i, ei, hi⟩ : ∃ i : Nat, r2 % 4 = (i : Int) ∧ i < 4 := ⟨(r2 % 4).toNat, by omega, by omega⟩
    obtain ⟨c, ec, hc⟩ := bfsn4_at i hi
    refine ⟨_, r2 % 4, c, rfl, rfl, by decide, by rw [ei]; exact ec, ?_⟩
    have ho2 := hT2.up ho po
    walk_at "go"
    refine ⟨o, _, _, _, rfl, rfl, SqT.of ho2, at_2, ?_⟩
    walk_at "go"
    obtain ⟨m2, em2⟩ := hT2.pl
    refine ⟨a, p, n, m2, ds, rfl, SqL.of hT2.hA, hT2.hd, em2, hT2.ne, fun r3 r30 r31 => ?_⟩
    obtain ⟨hT3, _⟩ := hT2.next em2
    generalize upd H2 p (.lst [.int ((m2 + 1 : Nat) : Int)]) = H3 at hT3
    have ho3 := hT3.up ho po
    walk_at "go"
    rw [S_len]
    dsimp only [List.set]
    walk_at "go"
    obtain ⟨k, ek, hk⟩ : ∃ k : Nat, r3 % ((l.length : Int) + 1) = (k : Int) ∧ k ≤ l.length := by
      have z0 := Int.emod_nonneg r3 (show (l.length : Int) + 1 ≠ 0 by omega)
      have z1 := Int.emod_lt_of_pos r3 (show (0 : Int) < l.length + 1 by omega)
      exact ⟨(r3 % ((l.length : Int) + 1)).toNat, by omega, by omega⟩
    rw [ek]
    refine ite2 (fun e => ?_) (fun e => ?_)
    · walk_at "go"
      exact q o x y l _ hT3 ho3 ⟨hx, hy, hf, hl⟩
    walk_at "go"
    refine ite2 (fun e => ?_) (fun e => ?_)
    · walk_at "go"
      refine ⟨o, _, _, _, rfl, rfl, SqT.of ho3, at_0, ?_⟩
      walk_at "go"
      refine ⟨o, _, _, _, rfl, rfl, SqT.of ho3, at_1, ?_⟩
      walk_at "go"
      intro t nt
      exact q t (1 - x) y l _ (hT3.more (same_new nt)) upd_same ⟨by omega, hy, hf, hl⟩
    walk_at "go"
    refine ite2 (fun e => ?_) (fun e => ?_)
    · walk_at "go"
      refine ⟨o, _, _, _, rfl, rfl, SqT.of ho3, at_0, ?_⟩
      walk_at "go"
      refine ⟨o, _, _, _, rfl, rfl, SqT.of ho3, at_1, ?_⟩
      walk_at "go"
      intro t nt
      exact q t x (1 - y) l _ (hT3.more (same_new nt)) upd_same ⟨hx, by omega, hf, hl⟩
    walk_at "go"
    refine ite2 (fun e => ?_) (fun e => ?_)
    · walk_at "go"
      refine ⟨o, _, _, _, rfl, rfl, SqT.of ho3, at_0, ?_⟩
      walk_at "go"
      refine ⟨o, _, _, _, rfl, rfl, SqT.of ho3, at_1, ?_⟩
      walk_at "go"
      rw [SX.slice_to (by omega), Int.toNat_natCast]
      have l1 : (l.take k).length ≤ 60 := by rw [List.length_take]; omega
      refine ⟨by rw [S_len]; exact szl (show (l.take k).length + 1 ≤ 2000 by omega), ?_⟩
      rw [show (⟨#[c]⟩ : Str) = S [c] from rfl, S_cat]
      have hl2 : (S (l.take k ++ [c])).length ≤ sizeLine := by rw [S_len, List.length_append]; exact szl (show (l.take k).length + 1 ≤ 2000 by omega)
      walk_at "go"
      rw [SX.slice_to (by decide)]
      walk_at "go"
      intro t nt
      exact q t x y _ _ (hT3.more (same_new nt)) upd_same ⟨hx, hy, ((hf.take k).app (.one hc)).take _, by rw [List.length_take]; exact Nat.min_le_left _ _⟩
    have l1 : (l.take k).length ≤ 60 := by rw [List.length_take]; omega
    have l2 : (l.drop (k + 1)).length ≤ 60 := by rw [List.length_drop]; omega
    walk_at "go"
    refine ite2 (fun e => ?_) (fun e => ?_)
    · walk_at "go"
      refine ⟨o, _, _, _, rfl, rfl, SqT.of ho3, at_0, ?_⟩
      walk_at "go"
      refine ⟨o, _, _, _, rfl, rfl, SqT.of ho3, at_1, ?_⟩
      walk_at "go"
      rw [SX.slice_to (by omega), Int.toNat_natCast]
      refine ⟨by rw [S_len]; exact szl (show (l.take k).length + 1 ≤ 2000 by omega), ?_⟩
      rw [show (⟨#[c]⟩ : Str) = S [c] from rfl, S_cat]
      walk_at "go"
      rw [SX.slice_from (by omega), show ((k : Int) + 1).toNat = k + 1 by omega, S_len, S_len]
      refine ⟨szl (show (l.take k ++ [c]).length + (l.drop (k + 1)).length ≤ 2000 by rw [List.length_append]; show (l.take k).length + 1 + _ ≤ _; omega), ?_⟩
      rw [S_cat]
      have hl2 : (S (l.take k ++ [c] ++ l.drop (k + 1))).length ≤ sizeLine := by rw [S_len, List.length_append, List.length_append]; exact szl (show (l.take k).length + 1 + _ ≤ 2000 by omega)
      walk_at "go"
      rw [SX.slice_to (by decide)]
      walk_at "go"
      intro t nt
      exact q t x y _ _ (hT3.more (same_new nt)) upd_same ⟨hx, hy, (((hf.take k).app (.one hc)).app (hf.drop _)).take _, by rw [List.length_take]; exact Nat.min_le_left _ _⟩
    walk_at "go"
    refine ite2 (fun e => ?_) (fun e => ?_)
    · walk_at "go"
      rw [S_len]
      walk_at "go"
      refine ite2 (fun e2 => ?_) (fun e2 => ?_)
      · have e2 : 0 < l.length := by
          have := of_decide_eq_true e2
          omega
        have hne : l ≠ [] := fun z => by rw [z] at e2; exact absurd e2 (by decide)
        walk_at "go"
        refine ⟨o, _, _, _, rfl, rfl, SqT.of ho3, at_0, ?_⟩
        walk_at "go"
        refine ⟨o, _, _, _, rfl, rfl, SqT.of ho3, at_1, ?_⟩
        walk_at "go"
        rw [SX.slice_butlast hne]
        refine ⟨by rw [S_len, List.length_take]; exact szl (show min (l.length - 1) l.length + 1 ≤ 2000 by omega), ?_⟩
        rw [show (⟨#[c]⟩ : Str) = S [c] from rfl, S_cat]
        walk_at "go"
        intro t nt
        exact q t x y _ _ (hT3.more (same_new nt)) upd_same ⟨hx, hy, (hf.take _).app (.one hc), by rw [List.length_append, List.length_take]; show min (l.length - 1) l.length + 1 ≤ 60; omega⟩
      · walk_at "go"
        exact ⟨a, p, n, ds, 60, rfl, hT3.slf, by decide, by decide, fun t x' y' l' H' hT' nt et dr => q t x' y' l' H' (hT3.tr hT') et dr⟩
    · walk_at "go"
      exact ⟨a, p, n, ds, 60, rfl, hT3.slf, by decide, by decide, fun t x' y' l' H' hT' nt et dr => q t x' y' l' H' (hT3.tr hT') et dr⟩
end
end Z
set_option pp.maxSteps 700
set_option Elab.async false
set_option linter.all false
set_option maxRecDepth 100000
set_option maxHeartbeats 4000000
open SX (S S_inj S_len S_cat)
namespace Z
open PySem PySem.Spec PyProof.Rows L2
open C8 (pss_cut tCut)
local macro_rules | `(tactic| walk_at "num") => `(tactic| first | rfl | omega | decide | exact Nat.le_of_lt (small1000 (by simp)) | exact ⟨by omega, by omega⟩ | exact ⟨by omega, by omega, by omega⟩ | exact ⟨by decide, by decide, by decide⟩ | exact Or.inl ⟨by omega, by omega⟩ | exact Or.inr ⟨by omega, by omega⟩)
local macro_rules | `(tactic| walk_at "go") => `(tactic| repeat (first | refine ⟨_, rfl, ?_⟩ | refine ⟨_, _, rfl, rfl, ?_⟩ | refine ⟨_, _, rfl, ?_⟩ | (refine ⟨_, _, rfl, rfl, ?_, ?_⟩; focus walk_at "num") | refine Or.inl ⟨_, rfl, ?_⟩ | refine ⟨_, _, _, _, rfl, rfl, (by assumption), (by rfl), ?_⟩ | refine ⟨_, _, _, _, _, rfl, (by assumption), (by assumption), (by assumption), (by rfl), ?_⟩ | refine ⟨rfl, ?_⟩ | (refine And.intro ?_ ?_; focus walk_at "num")))
abbrev s_wrong_bit : Stmt := topS 21
abbrev N_wrong_bit : List Str := ["_law_draw"]
abbrev P_wrong_bit : List Str := ["_law_draw"]
theorem sc_wrong_bit : FnScope N_wrong_bit P_wrong_bit (defScope s_wrong_bit) := ⟨rfl, rfl, rfl, by decide +kernel, rfl, by decide +kernel, by decide +kernel⟩
abbrev s_spoilt : Stmt := topS 22
abbrev N_spoilt : List Str := ["_law_fates", "_law_draws_here", "_law_place", "_law_menu", "_law_k", "_law_at"]
abbrev P_spoilt : List Str := ["_law_fates", "_law_draws_here", "_law_place"]
theorem sc_spoilt : FnScope N_spoilt P_spoilt (defScope s_spoilt) := ⟨rfl, rfl, rfl, by decide +kernel, rfl, by decide +kernel, by decide +kernel⟩
abbrev s_wrong_end : Stmt := topS 23
abbrev N_wrong_end : List Str := ["_law_draw", "_law_ends", "_law_end", "_law_at", "_law_signs"]
abbrev P_wrong_end : List Str := ["_law_draw"]
theorem sc_wrong_end : FnScope N_wrong_end P_wrong_end (defScope s_wrong_end) := ⟨rfl, rfl, rfl, by decide +kernel, rfl, by decide +kernel, by decide +kernel⟩
def menuS : Str := " !\"#$&'()*+,-./0123456789:;<=>?@ABCDEFGHIJKLMNOPQRSTUVWXYZ[\\]^_`acdeghijklmopqrtuvwxyz{|}~"
def signsS : Str := "ABCDEFGHIJKLMNOPQRSTUVWXYZ0123456789 !&*+-./:;<=>?@^_|~"
theorem txt_at (z : Str) {i : Nat} (h : i < z.cps.toList.length) : ∃ c, atI z.cps.toList (i : Int) = some c ∧ c ∈ z.cps.toList := ⟨_, atI_nat (List.getElem?_eq_getElem h), List.getElem_mem h⟩
theorem menuS_len : menuS.length = 90 ∧ menuS.cps.toList.length = 90 := by decide +kernel
theorem signsS_len : signsS.length = 55 ∧ signsS.cps.toList.length = 55 := by decide +kernel
theorem signsS_no : ∀ c ∈ signsS.cps.toList, ¬ (97 ≤ c ∧ c ≤ 122) := by decide +kernel
def ends14 : List V := [.str "", .str "First", .str "SECOND", .str "third", .str "f", .str "s", .str "b", .str "first ", .str " second", .str "firstsecond", .str "firs", .str "econd", .str "0", .str "both"]
def endsS : List Str := ["", "First", "SECOND", "third", "f", "s", "b", "first ", " second", "firstsecond", "firs", "econd", "0", "both"]
theorem ends14_at : ∀ i, i < 14 → atI ends14 ((i : Nat) : Int) = some (.str (endsS.getD i "")) := by decide +kernel
theorem ends14_no : ∀ i, i < 14 → ¬ (endsS.getD i "" = eS false ∨ endsS.getD i "" = eS true) := by decide +kernel
def eL (e : Bool) : List Nat := if e then [115, 101, 99, 111, 110, 100] else [102, 105, 114, 115, 116]
theorem eS_S : ∀ e, eS e = S (eL e) := by decide +kernel
theorem eL_low : ∀ e, ∀ c ∈ eL e, 97 ≤ c ∧ c ≤ 122 := by decide +kernel
theorem ends2_at : ∀ i, i < 2 → atI [V.str "first", V.str "second"] ((i : Nat) : Int) = some (.str (S (eL (decide (i = 1))))) := by decide +kernel
theorem eL_len (e : Bool) : (eL e).length ≤ 6 := by cases e <;> decide
section
variable {P : Program} {w : World} {K : PySem.W.Frag} {mg : Str → Option Value} {base : Heap} {f : Addr} {fd : FuncData}
def spWB : Sp := fun vs H Q _ => ∃ d : Int, vs = [.int d] ∧ 0 ≤ d ∧ d < 1000000 ∧ ∀ x : Int, isBit x = false → Q (.int x) H
theorem isB_no {x : Int} (h0 : x ≠ 0) (h1 : x ≠ 1) : isBit x = false := decide_eq_false fun z => z.elim h0 h1
theorem ok_wrong_bit (F : FnP K "_law_wrong_bit" s_wrong_bit f fd) (m_int : mg "int" = none) : FnOk P w K mg base CX0 1 f fd P_wrong_bit spWB := by
  refine F.ok sc_wrong_bit (fun vs H Q E h => ?_) (fun cdv A outer s H vs Q E hr h => ?_)
  · obtain ⟨d, rfl, _⟩ := h
    rfl
  · obtain ⟨d, rfl, d0, d1, q⟩ := h
    refine ⟨_, PSs.nox (pss_cons (ps_if (pt_cmpR op_eq (pe_op op_mod (pe_callTy call_int1 (by rfl) m_int (by decide +kernel) (pa_cons (pv 0) pa_nil)) pe_int) pe_int (nomark _)) (pss_one (ps_ret (pe_op op_sub (pe_un un_neg pe_int) (pe_op op_fdiv (pv 0) pe_int)))) pss_nil)
      (pss_cons (ps_if (pt_cmpR op_eq (pe_op op_mod (pe_callTy call_int1 (by rfl) m_int (by decide +kernel) (pa_cons (pv 0) pa_nil)) pe_int) pe_int (nomark _)) (pss_one (ps_ret (pe_op op_add (pe_op op_pow pe_int pe_int) (pv 0)))) pss_nil)
      (pss_cons (ps_if (pt_cmpR op_eq (pe_op op_mod (pe_callTy call_int1 (by rfl) m_int (by decide +kernel) (pa_cons (pv 0) pa_nil)) pe_int) pe_int (nomark _)) (pss_one (ps_ret (pe_op op_add pe_int (pe_op op_pow (pe_op op_fdiv (pv 0) pe_int) pe_int)))) pss_nil)
      (pss_one (ps_ret (pe_op op_add pe_int (pe_op op_mod (pe_callTy call_int1 (by rfl) m_int (by decide +kernel) (pa_cons (pe_op op_fdiv (pv 0) pe_int) pa_nil)) pe_int))))))), ?_⟩
    walk_at "go"
    refine ite2 (fun e => ?_) (fun e => ?_)
    · walk_at "go"
      refine q (-1 - d / 4) (isB_no ?_ ?_) <;> omega
    walk_at "go"
    refine ite2 (fun e => ?_) (fun e => ?_)
    · walk_at "go"
      refine q ((10 : Int) ^ 18 + d) (isB_no ?_ ?_) <;> omega
    walk_at "go"
    refine ite2 (fun e => ?_) (fun e => ?_)
    · walk_at "go"
      have hz : 0 ≤ (d / 4) ^ Int.toNat 3 := by
        show 0 ≤ (d / 4) ^ 3
        have h4 : 0 ≤ d / 4 := by omega
        rw [Int.pow_succ, Int.pow_succ, Int.pow_succ, Int.pow_zero, Int.one_mul]
        exact Int.mul_nonneg (Int.mul_nonneg h4 h4) h4
      generalize (d / 4) ^ Int.toNat 3 = z at hz
      refine q (2 + z) (isB_no ?_ ?_) <;> omega
    walk_at "go"
    refine q (2 + d / 4 % 9) (isB_no ?_ ?_) <;> omega
def spSpoilt (K : PySem.W.Frag) : Sp := fun vs H Q _ => ∃ (a p : Addr) (n : Nat) (ds : List Int) (l : List Nat), vs = [.str (S l), .ref a, .ref p] ∧ Tk K a p ds n H H ∧ l.length ≤ 60 ∧ ∀ (l' : List Nat) H', Tk K a p ds n H H' → l'.length ≤ 60 → Q (.str (S l')) H'
theorem ok_spoilt (F : FnP K "_law_spoilt" s_spoilt f fd) (m_int : mg "int" = none) (m_len : mg "len" = none) (m_range : mg "range" = none) (c_take : Cal P w K mg base 1 "_law_take" (spTake K)) : FnOk P w K mg base CX0 2 f fd P_spoilt (spSpoilt K) := by
  refine F.ok sc_spoilt (fun vs H Q E h => ?_) (fun cdv A outer s H vs Q E hr h => ?_)
  · obtain ⟨a, p, n, ds, l, rfl, _⟩ := h
    rfl
  · obtain ⟨a, p, n, ds, l, rfl, hT, hl, q⟩ := h
    refine ⟨_, PSs.nox (pss_cons (ps_set (i := 3) sc_spoilt.nd rfl (by first | exact .inl rfl | exact .inr rfl) pe_str)
      (pss_cons (ps_for PassesOwn.never rfl (pi_range1 (by rfl) m_range (pa_cons (pe_op op_add pe_int (pe_op op_mod (pe_callTy call_int1 (by rfl) m_int (by decide +kernel) (pa_cons (pe_cl c_take hr (by decide) (by rfl) (pa_cons (pv 1) (pa_cons (pv 2) pa_nil))) pa_nil)) pe_int)) pa_nil)) (pg_name (i := 4) sc_spoilt.nd rfl (by first | exact .inl rfl | exact .inr rfl))
        (pss_cons (ps_set (i := 5) sc_spoilt.nd rfl (by first | exact .inl rfl | exact .inr rfl) (pe_op op_mod (pe_callTy call_int1 (by rfl) m_int (by decide +kernel) (pa_cons (pe_cl c_take hr (by decide) (by rfl) (pa_cons (pv 1) (pa_cons (pv 2) pa_nil))) pa_nil)) (pe_op op_add (pe_callB call_len_str (by rfl) m_len PySem.boot_len (pa_cons (pv 0) pa_nil)) pe_int)))
      (pss_one (ps_set (i := 0) sc_spoilt.nd rfl (by first | exact .inl rfl | exact .inr rfl) (pe_slice C8.sl_txt (pe_op op_add_str (pe_op op_add_str (pe_slice C8.sl_txt (pv 0) po_none (po_some (pv 5))) (pe_ix ix_str (pv 3) (pe_op op_mod (pe_callTy call_int1 (by rfl) m_int (by decide +kernel) (pa_cons (pe_cl c_take hr (by decide) (by rfl) (pa_cons (pv 1) (pa_cons (pv 2) pa_nil))) pa_nil)) (pe_callB call_len_str (by rfl) m_len PySem.boot_len (pa_cons (pv 3) pa_nil))) (fun _ _ => rfl))) (pe_slice C8.sl_txt (pv 0) (po_some (pe_op op_add (pv 5) pe_int)) po_none)) po_none (po_some pe_int))))))
      (pss_one (ps_ret (pv 0))))), ?_⟩
    obtain ⟨mm, em⟩ := hT.pl
    walk_at "go"
    refine ⟨a, p, n, mm, ds, rfl, SqL.of hT.hA, hT.hd, em, hT.ne, fun r r0 r1 => ?_⟩
    obtain ⟨hT1, _⟩ := hT.next em
    generalize upd H p (.lst [.int ((mm + 1 : Nat) : Int)]) = H1 at hT1
    walk_at "go"
    refine for_gen (n := (1 + r % 2).toNat) (fun i σ J => Tk K a p ds n H J ∧ ∃ (l' : List Nat) (v4 v5 : Option V), l'.length ≤ 60 ∧ σ = [some (.str (S l')), some (.ref a), some (.ref p), some (.str menuS), v4, v5]) ⟨hT1, l, _, _, hl, rfl⟩ ?_ ?_ ?_ ?_
    · intro i σ J hi _
      exact hi
    · intro σ J _
      exact Nat.le_refl _
    · rintro i σ J x J' hi ⟨hT2, l', v4, v5, hl', rfl⟩ ⟨rfl, rfl⟩
      obtain ⟨m2, em2⟩ := hT2.pl
      have hlen : (S l').length ≤ sizeLine := by rw [S_len]; exact szl (by omega)
      walk_at "go"
      refine ⟨a, p, n, m2, ds, rfl, SqL.of hT2.hA, hT2.hd, em2, hT2.ne, fun r2 r20 r21 => ?_⟩
      obtain ⟨hT3, _⟩ := hT2.next em2
      generalize upd J' p (.lst [.int ((m2 + 1 : Nat) : Int)]) = J3 at hT3
      obtain ⟨m3, em3⟩ := hT3.pl
      walk_at "go"
      rw [S_len]
      obtain ⟨k, ek, hk⟩ : ∃ k : Nat, r2 % ((l'.length : Int) + 1) = (k : Int) ∧ k ≤ l'.length := by
        have z0 := Int.emod_nonneg r2 (show (l'.length : Int) + 1 ≠ 0 by omega)
        have z1 := Int.emod_lt_of_pos r2 (show (0 : Int) < l'.length + 1 by omega)
        exact ⟨(r2 % ((l'.length : Int) + 1)).toNat, by omega, by omega⟩
      dsimp only [List.set]
      walk_at "go"
      rw [ek]
      walk_at "go"
      rw [SX.slice_to (by omega), Int.toNat_natCast]
      refine ⟨a, p, n, m3, ds, rfl, SqL.of hT3.hA, hT3.hd, em3, hT3.ne, fun r3 r30 r31 => ?_⟩
      obtain ⟨hT4, _⟩ := hT3.next em3
      generalize upd J3 p (.lst [.int ((m3 + 1 : Nat) : Int)]) = J4 at hT4
      have mlen : menuS.length ≤ sizeLine := by rw [menuS_len.1]; exact szl (by decide)
      have l1 : (l'.take k).length ≤ 60 := by rw [List.length_take]; omega
      have l2 : (l'.drop (k + 1)).length ≤ 60 := by rw [List.length_drop]; omega
      walk_at "go"
      rw [menuS_len.1]
      obtain ⟨c, ec, _⟩ := txt_at menuS (i := (r3 % 90).toNat) (by rw [menuS_len.2]; omega)
      refine ⟨by show (0 : Int) < 90; decide, ?_⟩
      refine ⟨menuS, r3 % 90, c, rfl, rfl, mlen, by rw [show r3 % 90 = ((r3 % 90).toNat : Int) by omega]; exact ec, ?_⟩
      walk_at "go"
      refine ⟨by rw [S_len]; exact szl (show (l'.take k).length + 1 ≤ 2000 by omega), ?_⟩
      rw [show (⟨#[c]⟩ : Str) = S [c] from rfl, S_cat]
      walk_at "go"
      rw [SX.slice_from (by omega), show ((k : Int) + 1).toNat = k + 1 by omega, S_len, S_len]
      refine ⟨szl (show (l'.take k ++ [c]).length + (l'.drop (k + 1)).length ≤ 2000 by rw [List.length_append]; show (l'.take k).length + 1 + _ ≤ _; omega), ?_⟩
      rw [S_cat]
      have hl2 : (S (l'.take k ++ [c] ++ l'.drop (k + 1))).length ≤ sizeLine := by rw [S_len, List.length_append, List.length_append]; exact szl (show (l'.take k).length + 1 + _ ≤ 2000 by omega)
      walk_at "go"
      rw [SX.slice_to (by decide)]
      exact ⟨_, _, _, by rw [List.length_take]; exact Nat.min_le_left _ _, rfl⟩
    · rintro σ J ⟨hT2, l', v4, v5, hl', rfl⟩
      walk_at "go"
      exact q l' _ hT2 hl'
def spWE : Sp := fun vs H Q _ => ∃ d : Int, vs = [.int d] ∧ 0 ≤ d ∧ ∀ (z : Str) H', Same H H' → ¬ (z = eS false ∨ z = eS true) → Q (.str z) H'
theorem ok_wrong_end (F : FnP K "_law_wrong_end" s_wrong_end f fd) (m_int : mg "int" = none) (m_len : mg "len" = none) : FnOk P w K mg base CX0 1 f fd P_wrong_end spWE := by
  refine F.ok sc_wrong_end (fun vs H Q E h => ?_) (fun cdv A outer s H vs Q E hr h => ?_)
  · obtain ⟨d, rfl, _⟩ := h
    rfl
  · obtain ⟨d, rfl, d0, q⟩ := h
    refine ⟨_, PSs.nox (pss_cons (ps_set (i := 1) sc_wrong_end.nd rfl (by first | exact .inl rfl | exact .inr rfl) (pe_lst (pa_cons pe_str (pa_cons pe_str (pa_cons pe_str (pa_cons pe_str (pa_cons pe_str (pa_cons pe_str (pa_cons pe_str (pa_cons pe_str (pa_cons pe_str (pa_cons pe_str (pa_cons pe_str (pa_cons pe_str (pa_cons pe_str pa_nil)))))))))))))))
      (pss_cons (ps_expr (pe_bm PySem.F.plainAttrs_list PySem.F.slot_list_append PySem.F.type_list_append mt_append (pv 1) (pa_cons pe_str pa_nil)))
      (pss_cons (ps_if (pt_cmpR op_eq (pe_op op_mod (pe_callTy call_int1 (by rfl) m_int (by decide +kernel) (pa_cons (pe_op op_fdiv (pv 0) pe_int) pa_nil)) pe_int) pe_int (nomark _)) (pss_one (ps_ret (pe_ix ix_list (pv 1) (pe_op op_mod (pe_callTy call_int1 (by rfl) m_int (by decide +kernel) (pa_cons (pv 0) pa_nil)) pe_int) (fun _ _ => rfl)))) pss_nil)
      (pss_cons (ps_set (i := 2) sc_wrong_end.nd rfl (by first | exact .inl rfl | exact .inr rfl) (pe_ix ix_list (pe_lst (pa_cons pe_str (pa_cons pe_str pa_nil))) (pe_op op_mod (pe_callTy call_int1 (by rfl) m_int (by decide +kernel) (pa_cons (pv 0) pa_nil)) pe_int) (fun _ _ => rfl)))
      (pss_cons (ps_set (i := 3) sc_wrong_end.nd rfl (by first | exact .inl rfl | exact .inr rfl) (pe_op op_mod (pe_callTy call_int1 (by rfl) m_int (by decide +kernel) (pa_cons (pe_op op_fdiv (pv 0) pe_int) pa_nil)) (pe_op op_add (pe_callB call_len_str (by rfl) m_len PySem.boot_len (pa_cons (pv 2) pa_nil)) pe_int)))
      (pss_cons (ps_set (i := 4) sc_wrong_end.nd rfl (by first | exact .inl rfl | exact .inr rfl) pe_str)
      (pss_one (ps_ret (pe_op op_add_str (pe_op op_add_str (pe_slice C8.sl_txt (pv 2) po_none (po_some (pv 3))) (pe_ix ix_str (pv 4) (pe_op op_mod (pe_callTy call_int1 (by rfl) m_int (by decide +kernel) (pa_cons (pe_op op_fdiv (pv 0) pe_int) pa_nil)) (pe_callB call_len_str (by rfl) m_len PySem.boot_len (pa_cons (pv 4) pa_nil))) (fun _ _ => rfl))) (pe_slice C8.sl_txt (pv 2) (po_some (pe_op op_add (pv 3) (pe_op op_mod (pe_callTy call_int1 (by rfl) m_int (by decide +kernel) (pa_cons (pe_op op_fdiv (pv 0) pe_int) pa_nil)) pe_int))) po_none)))))))))), ?_⟩
    walk_at "go"
    intro L13 nL13
    generalize eH_ : upd H L13 _ = H1
    have s1 : Same H H1 := by rw [← eH_]; exact same_new nL13
    have eL13 : H1 L13 = some (.lst (ends14.take 13)) := by rw [← eH_]; exact upd_same
    clear eH_
    walk_at "go"
    refine ⟨.inl ⟨rfl, _, SqL.of eL13⟩, ?_⟩
    walk_at "go"
    refine ⟨L13, _, _, rfl, rfl, eL13, by decide, ?_⟩
    have s2 : Same H (upd H1 L13 (.lst ends14)) := Z.Same.mut s1 nL13
    have eE2 : (upd H1 L13 (.lst ends14)) L13 = some (.lst ends14) := upd_same
    show tSeq _ _ _ _ (upd H1 L13 (.lst ends14))
    generalize upd H1 L13 (.lst ends14) = H2 at s2 eE2
    walk_at "go"
    refine ite2 (fun e => ?_) (fun e => ?_)
    · walk_at "go"
      obtain ⟨i, ei, hi⟩ : ∃ i : Nat, d % 14 = (i : Int) ∧ i < 14 := ⟨(d % 14).toNat, by omega, by omega⟩
      refine ⟨L13, ends14, d % 14, _, rfl, rfl, SqL.of eE2, by rw [ei]; exact ends14_at i hi, ?_⟩
      exact q _ _ s2 (ends14_no i hi)
    walk_at "go"
    intro M2 nM2
    generalize eH_ : upd H2 M2 _ = H3
    have s3 : Same H2 H3 := by rw [← eH_]; exact same_new nM2
    have eM2 : H3 M2 = some (.lst [.str "first", .str "second"]) := by rw [← eH_]; exact upd_same
    clear eH_
    walk_at "go"
    obtain ⟨i, ei, hi⟩ : ∃ i : Nat, d % 2 = (i : Int) ∧ i < 2 := ⟨(d % 2).toNat, by omega, by omega⟩
    refine ⟨M2, _, d % 2, _, rfl, rfl, SqL.of eM2, by rw [ei]; exact ends2_at i hi, ?_⟩
    have hl := eL_len (decide (i = 1))
    generalize eL (decide (i = 1)) = l at hl
    have hlen : (S l).length ≤ sizeLine := by rw [S_len]; exact szl (by omega)
    have slen : signsS.length ≤ sizeLine := by rw [signsS_len.1]; exact szl (by decide)
    walk_at "go"
    rw [S_len]
    obtain ⟨k, ek, hk⟩ : ∃ k : Nat, d / 28 % ((l.length : Int) + 1) = (k : Int) ∧ k ≤ l.length := by
      have z0 := Int.emod_nonneg (d / 28) (show (l.length : Int) + 1 ≠ 0 by omega)
      have z1 := Int.emod_lt_of_pos (d / 28) (show (0 : Int) < l.length + 1 by omega)
      exact ⟨(d / 28 % ((l.length : Int) + 1)).toNat, by omega, by omega⟩
    dsimp only [List.set]
    walk_at "go"
    simp only [S_len]
    have sl : (Str.ofString "ABCDEFGHIJKLMNOPQRSTUVWXYZ0123456789 !&*+-./:;<=>?@^_|~").1.toList.length = 55 := signsS_len.2
    rw [ek, SX.slice_to (by omega), Int.toNat_natCast, sl]
    obtain ⟨c, ec, hc⟩ := txt_at signsS (i := (d / 196 % 55).toNat) (by rw [signsS_len.2]; omega)
    have hc := signsS_no c hc
    refine ⟨signsS, d / 196 % 55, c, rfl, rfl, slen, by rw [show d / 196 % 55 = ((d / 196 % 55).toNat : Int) by omega]; exact ec, ?_⟩
    have l1 : (l.take k).length ≤ 6 := by rw [List.length_take]; omega
    walk_at "go"
    refine ⟨by rw [S_len]; exact szl (show (l.take k).length + 1 ≤ 2000 by omega), ?_⟩
    rw [show (⟨#[c]⟩ : Str) = S [c] from rfl, S_cat]
    walk_at "go"
    have l2 : (l.drop ((k : Int) + d / 2 % 2).toNat).length ≤ 6 := by rw [List.length_drop]; omega
    rw [SX.slice_from (by omega), S_len, S_len]
    refine ⟨szl (show (l.take k ++ [c]).length + (l.drop _).length ≤ 2000 by rw [List.length_append]; show (l.take k).length + 1 + _ ≤ _; omega), ?_⟩
    rw [S_cat]
    refine q _ _ (s2.trans s3) fun z => ?_
    have key : ∀ e, S (l.take k ++ [c] ++ l.drop ((k : Int) + d / 2 % 2).toNat) ≠ eS e := fun e z => by
      rw [eS_S] at z
      have z := S_inj z
      refine hc (eL_low e c ?_)
      rw [← z]
      simp
    exact z.elim (key false) (key true)
end
end Z
set_option pp.maxSteps 700
set_option Elab.async false
set_option linter.all false
set_option maxRecDepth 100000
set_option maxHeartbeats 4000000
open SX (S S_inj S_len S_cat)
namespace Z
open PySem PySem.Spec PyProof.Rows L2
open C8 (pss_cut tCut)
local macro_rules | `(tactic| walk_at "num") => `(tactic| first | rfl | omega | decide | exact Nat.le_of_lt (small1000 (by simp)) | exact ⟨by omega, by omega⟩ | exact ⟨by omega, by omega, by omega⟩ | exact ⟨by decide, by decide, by decide⟩ | exact Or.inl ⟨by omega, by omega⟩ | exact Or.inr ⟨by omega, by omega⟩)
local macro_rules | `(tactic| walk_at "go") => `(tactic| repeat (first | refine ⟨_, rfl, ?_⟩ | refine ⟨_, _, rfl, rfl, ?_⟩ | refine ⟨_, _, rfl, ?_⟩ | (refine ⟨_, _, rfl, rfl, ?_, ?_⟩; focus walk_at "num") | refine Or.inl ⟨_, rfl, ?_⟩ | refine ⟨_, _, _, _, rfl, rfl, (by assumption), (by rfl), ?_⟩ | refine ⟨_, _, _, _, _, rfl, (by assumption), (by assumption), (by assumption), (by rfl), ?_⟩ | refine ⟨rfl, ?_⟩ | (refine And.intro ?_ ?_; focus walk_at "num")))
abbrev s_view : Stmt := topS 24
abbrev N_view : List Str := ["_law_exchange_here", "_law_end", "_law_own", "_law_other_here", "_law_heard", "_law_last", "_law_at"]
abbrev P_view : List Str := ["_law_exchange_here", "_law_end"]
theorem sc_view : FnScope N_view P_view (defScope s_view) := ⟨rfl, rfl, rfl, by decide +kernel, rfl, by decide +kernel, by decide +kernel⟩
abbrev s_is_number : Stmt := topS 25
abbrev N_is_number : List Str := ["_law_told", "_law_due"]
abbrev P_is_number : List Str := ["_law_told", "_law_due"]
theorem sc_is_number : FnScope N_is_number P_is_number (defScope s_is_number) := ⟨rfl, rfl, rfl, by decide +kernel, rfl, by decide +kernel, by decide +kernel⟩
abbrev s_is_view : Stmt := topS 26
abbrev N_is_view : List Str := ["_law_told", "_law_due"]
abbrev P_is_view : List Str := ["_law_told", "_law_due"]
theorem sc_is_view : FnScope N_is_view P_is_view (defScope s_is_view) := ⟨rfl, rfl, rfl, by decide +kernel, rfl, by decide +kernel, by decide +kernel⟩
abbrev s_is_exchange : Stmt := topS 27
abbrev N_is_exchange : List Str := ["_law_told", "_law_due"]
abbrev P_is_exchange : List Str := ["_law_told", "_law_due"]
theorem sc_is_exchange : FnScope N_is_exchange P_is_exchange (defScope s_is_exchange) := ⟨rfl, rfl, rfl, by decide +kernel, rfl, by decide +kernel, by decide +kernel⟩
def lI : Option Nat → Int
  | none => -1
  | some j => j
def hL (e : Bool) : List Nat := [98, if e then 115 else 102]
theorem hL_in (e : Bool) (c : Nat) : decide (c ∈ hL e) = hrd e c := by
  unfold hL hrd
  simp only [List.mem_cons, List.not_mem_nil, or_false, Bool.decide_or]
theorem bf_str : Str.ofString "bf" = S (hL false) := by decide +kernel
theorem bs_str : Str.ofString "bs" = S (hL true) := by decide +kernel
section
variable {P : Program} {w : World} {K : PySem.W.Frag} {mg : Str → Option Value} {base : Heap} {f C : Addr} {fd : FuncData}
def spView (K : PySem.W.Frag) : Sp := fun vs H Q _ => ∃ (o : Addr) (e : Bool) (x y : Int) (l : List Nat), vs = [.ref o, .str (eS e)] ∧ H o = some (.tup (exL x y l)) ∧ l.length ≤ 100 ∧ ∀ p H', Same H H' → H p = none → H' p = some (.tup (vwL (vw x y l e))) → Q (.ref p) H'
theorem ok_view (F : FnP K "_law_view" s_view f fd) (m_len : mg "len" = none) (m_range : mg "range" = none) : FnOk P w K mg base CX0 1 f fd P_view (spView K) := by
  refine F.ok sc_view (fun vs H Q E h => ?_) (fun cdv A outer s H vs Q E hr h => ?_)
  · obtain ⟨o, e, x, y, l, rfl, _⟩ := h
    rfl
  · obtain ⟨o, e, x, y, l, rfl, ho, ll, q⟩ := h
    refine ⟨_, PSs.nox (pss_cons (ps_set (i := 2) sc_view.nd rfl (by first | exact .inl rfl | exact .inr rfl) (pe_ix ix_tup (pv 0) pe_int (fun _ _ => rfl)))
      (pss_cons (ps_set (i := 3) sc_view.nd rfl (by first | exact .inl rfl | exact .inr rfl) (pe_ix ix_tup (pv 0) pe_int (fun _ _ => rfl)))
      (pss_cons (ps_set (i := 4) sc_view.nd rfl (by first | exact .inl rfl | exact .inr rfl) pe_str)
      (pss_cut (ps_if (pt_cmpR op_eq (pv 1) pe_str (nomark _)) (pss_cons (ps_set (i := 2) sc_view.nd rfl (by first | exact .inl rfl | exact .inr rfl) (pe_ix ix_tup (pv 0) pe_int (fun _ _ => rfl)))
      (pss_cons (ps_set (i := 3) sc_view.nd rfl (by first | exact .inl rfl | exact .inr rfl) (pe_ix ix_tup (pv 0) pe_int (fun _ _ => rfl)))
      (pss_one (ps_set (i := 4) sc_view.nd rfl (by first | exact .inl rfl | exact .inr rfl) pe_str)))) pss_nil)
      (pss_cons (ps_set (i := 5) sc_view.nd rfl (by first | exact .inl rfl | exact .inr rfl) (pe_un un_neg pe_int))
      (pss_cons (ps_for PassesOwn.never rfl (pi_range1 (by rfl) m_range (pa_cons (pe_callB call_len_str (by rfl) m_len PySem.boot_len (pa_cons (pe_ix ix_tup (pv 0) pe_int (fun _ _ => rfl)) pa_nil)) pa_nil)) (pg_name (i := 6) sc_view.nd rfl (by first | exact .inl rfl | exact .inr rfl))
        (pss_one (ps_if (pt_cmpR op_in_sign (pe_ix ix_str (pe_ix ix_tup (pv 0) pe_int (fun _ _ => rfl)) (pv 6) (fun _ _ => rfl)) (pv 4) (by rfl)) (pss_one (ps_set (i := 5) sc_view.nd rfl (by first | exact .inl rfl | exact .inr rfl) (pv 6))) pss_nil)))
      (pss_cons (ps_if (pt_cmpR op_lt (pv 5) pe_int (nomark _)) (pss_one (ps_ret (pe_tup (pa_cons (pv 2) (pa_cons pe_non (pa_cons pe_str (pa_cons (pe_callB call_len_str (by rfl) m_len PySem.boot_len (pa_cons (pe_ix ix_tup (pv 0) pe_int (fun _ _ => rfl)) pa_nil)) pa_nil))))))) pss_nil)
      (pss_one (ps_ret (pe_tup (pa_cons (pv 2) (pa_cons (pv 3) (pa_cons (pe_slice C8.sl_txt (pe_ix ix_tup (pv 0) pe_int (fun _ _ => rfl)) po_none (po_some (pv 5))) (pa_cons (pe_op op_sub (pe_op op_sub (pe_callB call_len_str (by rfl) m_len PySem.boot_len (pa_cons (pe_ix ix_tup (pv 0) pe_int (fun _ _ => rfl)) pa_nil)) pe_int) (pv 5)) pa_nil)))))))))))))), ?_⟩
    have hlen : (S l).length ≤ sizeLine := by rw [S_len]; exact szl (by omega)
    walk_at "go"
    refine ⟨o, _, _, _, rfl, rfl, SqT.of ho, at_0, ?_⟩
    walk_at "go"
    refine ⟨o, _, _, _, rfl, rfl, SqT.of ho, at_1, ?_⟩
    walk_at "go"
    refine ⟨fun σ J => J = H ∧ ∃ ow ot, (ow = if e then y else x) ∧ (ot = if e then x else y) ∧ σ = [some (.ref o), some (.str (eS e)), some (.int ow), some (.int ot), some (.str (S (hL e))), none, none], ?_, ?_⟩
    · cases e
      · walk_at "go"
        rw [bf_str]
        rfl
      · walk_at "go"
        refine ⟨o, _, _, _, rfl, rfl, SqT.of ho, at_1, ?_⟩
        walk_at "go"
        refine ⟨o, _, _, _, rfl, rfl, SqT.of ho, at_0, ?_⟩
        walk_at "go"
        rw [bs_str]
        rfl
    rintro σ J ⟨rfl, ow, ot, eo, eu, rfl⟩
    walk_at "go"
    refine ⟨o, _, _, _, rfl, rfl, SqT.of ho, at_2, ?_⟩
    walk_at "go"
    rw [S_len]
    walk_at "go"
    refine for_gen (n := l.length) (fun i σ J1 => J1 = J ∧ ∃ v6, σ = [some (.ref o), some (.str (eS e)), some (.int ow), some (.int ot), some (.str (S (hL e))), some (.int (lI (lst (hrd e) l i))), v6]) ⟨rfl, _, rfl⟩ ?_ ?_ ?_ ?_
    · intro i σ J1 hi _
      show i < (l.length : Int).toNat
      omega
    · intro σ J1 _
      show (l.length : Int).toNat ≤ l.length
      omega
    · rintro i σ J1 x' J2 hi ⟨rfl, v6, rfl⟩ ⟨rfl, rfl⟩
      have ec : l.getD i 0 = l[i] := by rw [List.getD_eq_getElem?_getD, List.getElem?_eq_getElem hi]; rfl
      have ea : atI (S l).cps.toList (0 + (i : Int)) = some l[i] := by
        rw [Int.zero_add]
        exact atI_nat (by show l[i]? = _; exact List.getElem?_eq_getElem hi)
      rw [lst_succ, ec]
      generalize l[i] = c at ea
      walk_at "go"
      refine ⟨o, _, _, _, rfl, rfl, SqT.of ho, at_2, ?_⟩
      walk_at "go"
      refine ⟨S l, _, c, rfl, rfl, hlen, ea, ?_⟩
      walk_at "go"
      rw [show (S (hL e)).cps.toList = hL e from rfl, hL_in]
      by_cases hc : hrd e c = true
      · rw [hc, if_pos rfl]
        walk_at "go"
        exact ⟨some (.int (0 + (i : Int))), by rw [show lI (some i) = 0 + (i : Int) from (Int.zero_add _).symm]; rfl⟩
      · rw [Bool.eq_false_iff.mpr hc, if_neg (by decide)]
        exact ⟨rfl, some (.int (0 + (i : Int))), rfl⟩
    rintro σ J1 ⟨rfl, v6, rfl⟩
    cases el : lst (hrd e) l l.length with
    | none =>
      rw [show lI none = -1 from rfl]
      walk_at "go"
      refine ⟨o, _, _, _, rfl, rfl, SqT.of ho, at_2, ?_⟩
      walk_at "go"
      rw [S_len]
      intro p np
      refine q p _ (same_new np) np ?_
      rw [upd_same, vw_none el, eo]
      rfl
    | some i =>
      have il := lst_lt el
      rw [show lI (some i) = (i : Int) from rfl]
      walk_at "go"
      refine ⟨o, _, _, _, rfl, rfl, SqT.of ho, at_2, ?_⟩
      walk_at "go"
      rw [SX.slice_to (by omega), Int.toNat_natCast]
      refine ⟨o, _, _, _, rfl, rfl, SqT.of ho, at_2, ?_⟩
      walk_at "go"
      rw [S_len]
      intro p np
      refine q p _ (same_new np) np ?_
      rw [upd_same, vw_some el, eo, eu]
      rfl
def spNum : Sp := fun vs H Q _ => ∃ x : Int, vs = [.int x, .int x] ∧ Q (.bl true) H
theorem ok_is_number (F : FnP K "_law_is_number" s_is_number f fd) (m_isinstance : mg "isinstance" = none) (m_int : mg "int" = none) (m_bool : mg "bool" = none) : FnOk P w K mg base CX0 1 f fd P_is_number spNum := by
  refine F.ok sc_is_number (fun vs H Q E h => ?_) (fun cdv A outer s H vs Q E hr h => ?_)
  · obtain ⟨x, rfl, _⟩ := h
    rfl
  · obtain ⟨x, rfl, q⟩ := h
    refine ⟨_, PSs.nox (pss_one (ps_ret (pe_and (pe_callB call_isi (by rfl) m_isinstance (by decide +kernel) (pa_cons (pv 0) (pa_cons (pe_bltn (v := .ty "int") (by rfl) m_int (by decide +kernel) rfl) pa_nil))) (pe_and (pe_not (pe_callB call_isi (by rfl) m_isinstance (by decide +kernel) (pa_cons (pv 0) (pa_cons (pe_bltn (v := .ty "bool") (by rfl) m_bool (by decide +kernel) rfl) pa_nil)))) (pe_one (pe_cmpR op_eq (pv 0) (pv 1) (nomark _))))))), ?_⟩
    walk_at "go"
    refine isi (c := "int") (b := true) (.int x) (by decide +kernel) ?_
    walk_at "go"
    refine isi (c := "bool") (b := false) (.int x) (by decide +kernel) ?_
    walk_at "go"
    rw [decide_eq_true rfl]
    exact q
def spIsV : Sp := fun vs H Q _ => ∃ (p q : Addr) (v : Vw), vs = [.ref p, .ref q] ∧ H p = some (.tup (vwL v)) ∧ H q = some (.tup (vwL v)) ∧ Q (.bl true) H
theorem ok_is_view (F : FnP K "_law_is_view" s_is_view f fd) (m_isinstance : mg "isinstance" = none) (m_tuple : mg "tuple" = none) (m_len : mg "len" = none) (m_str : mg "str" = none) (c_is_number : Cal P w K mg base 1 "_law_is_number" spNum) : FnOk P w K mg base CX0 2 f fd P_is_view spIsV := by
  refine F.ok sc_is_view (fun vs H Q E h => ?_) (fun cdv A outer s H vs Q E hr h => ?_)
  · obtain ⟨p, u, v, rfl, _⟩ := h
    rfl
  · obtain ⟨p, u, v, rfl, hp, hu, q⟩ := h
    refine ⟨_, PSs.nox (pss_cons (ps_if (PW.pt (pw_or (pt_not (pt_val (pe_callB call_isi (by rfl) m_isinstance (by decide +kernel) (pa_cons (pv 0) (pa_cons (pe_bltn (v := .ty "tuple") (by rfl) m_tuple (by decide +kernel) rfl) pa_nil))))) (pw_or1 (pt_cmpR op_ne (pe_callB call_len_seq (by rfl) m_len PySem.boot_len (pa_cons (pv 0) pa_nil)) pe_int (nomark _))))) (pss_one (ps_ret pe_bl)) pss_nil)
      (pss_cons (ps_if (PW.pt (pw_and (pt_cmpR op_isN (pe_ix ix_tup (pv 1) pe_int (fun _ _ => rfl)) pe_non (nomark _)) (pw_and1 (pt_cmpR op_notN (pe_ix ix_tup (pv 0) pe_int (fun _ _ => rfl)) pe_non (nomark _))))) (pss_one (ps_ret pe_bl)) pss_nil)
      (pss_cons (ps_if (PW.pt (pw_and (pt_cmpR op_notN (pe_ix ix_tup (pv 1) pe_int (fun _ _ => rfl)) pe_non (nomark _)) (pw_and1 (pt_not (pt_val (pe_cl c_is_number hr (by decide) (by rfl) (pa_cons (pe_ix ix_tup (pv 0) pe_int (fun _ _ => rfl)) (pa_cons (pe_ix ix_tup (pv 1) pe_int (fun _ _ => rfl)) pa_nil)))))))) (pss_one (ps_ret pe_bl)) pss_nil)
      (pss_cons (ps_if (PW.pt (pw_or (pt_not (pt_val (pe_cl c_is_number hr (by decide) (by rfl) (pa_cons (pe_ix ix_tup (pv 0) pe_int (fun _ _ => rfl)) (pa_cons (pe_ix ix_tup (pv 1) pe_int (fun _ _ => rfl)) pa_nil))))) (pw_or1 (pt_not (pt_val (pe_cl c_is_number hr (by decide) (by rfl) (pa_cons (pe_ix ix_tup (pv 0) pe_int (fun _ _ => rfl)) (pa_cons (pe_ix ix_tup (pv 1) pe_int (fun _ _ => rfl)) pa_nil)))))))) (pss_one (ps_ret pe_bl)) pss_nil)
      (pss_one (ps_ret (pe_and (pe_callB call_isi (by rfl) m_isinstance (by decide +kernel) (pa_cons (pe_ix ix_tup (pv 0) pe_int (fun _ _ => rfl)) (pa_cons (pe_bltn (v := .ty "str") (by rfl) m_str (by decide +kernel) rfl) pa_nil))) (pe_one (pe_cmpR op_eq (pe_ix ix_tup (pv 0) pe_int (fun _ _ => rfl)) (pe_ix ix_tup (pv 1) pe_int (fun _ _ => rfl)) (nomark _)))))))))), ?_⟩
    walk_at "go"
    refine isi (c := "tuple") (b := true) (.tup hp) (by decide +kernel) ?_
    walk_at "go"
    refine ⟨p, _, rfl, .inr (SqT.of hp), ?_⟩
    walk_at "go"
    obtain ⟨a, ot, k, si⟩ := v
    cases ot with
    | none =>
      refine ⟨u, _, _, _, rfl, rfl, SqT.of hu, at_1, ?_⟩
      walk_at "go"
      refine ⟨p, _, _, _, rfl, rfl, SqT.of hp, at_1, ?_⟩
      walk_at "go"
      refine ⟨u, _, _, _, rfl, rfl, SqT.of hu, at_1, ?_⟩
      walk_at "go"
      refine ⟨p, _, _, _, rfl, rfl, SqT.of hp, at_0, ?_⟩
      walk_at "go"
      refine ⟨u, _, _, _, rfl, rfl, SqT.of hu, at_0, ?_⟩
      walk_at "go"
      refine ⟨p, _, _, _, rfl, rfl, SqT.of hp, at_3, ?_⟩
      walk_at "go"
      refine ⟨u, _, _, _, rfl, rfl, SqT.of hu, at_3, ?_⟩
      walk_at "go"
      refine ⟨p, _, _, _, rfl, rfl, SqT.of hp, at_2, ?_⟩
      walk_at "go"
      walk_at "go"
      refine isi (c := "str") (b := true) (.str _) (by decide +kernel) ?_
      walk_at "go"
      refine ⟨p, _, _, _, rfl, rfl, SqT.of hp, at_2, ?_⟩
      walk_at "go"
      refine ⟨u, _, _, _, rfl, rfl, SqT.of hu, at_2, ?_⟩
      walk_at "go"
      rw [decide_eq_true rfl]
      exact q
    | some b =>
      refine ⟨u, _, _, _, rfl, rfl, SqT.of hu, at_1, ?_⟩
      walk_at "go"
      refine ⟨u, _, _, _, rfl, rfl, SqT.of hu, at_1, ?_⟩
      walk_at "go"
      refine ⟨p, _, _, _, rfl, rfl, SqT.of hp, at_1, ?_⟩
      walk_at "go"
      refine ⟨u, _, _, _, rfl, rfl, SqT.of hu, at_1, ?_⟩
      walk_at "go"
      refine ⟨p, _, _, _, rfl, rfl, SqT.of hp, at_0, ?_⟩
      walk_at "go"
      refine ⟨u, _, _, _, rfl, rfl, SqT.of hu, at_0, ?_⟩
      walk_at "go"
      refine ⟨p, _, _, _, rfl, rfl, SqT.of hp, at_3, ?_⟩
      walk_at "go"
      refine ⟨u, _, _, _, rfl, rfl, SqT.of hu, at_3, ?_⟩
      walk_at "go"
      refine ⟨p, _, _, _, rfl, rfl, SqT.of hp, at_2, ?_⟩
      walk_at "go"
      walk_at "go"
      refine isi (c := "str") (b := true) (.str _) (by decide +kernel) ?_
      walk_at "go"
      refine ⟨p, _, _, _, rfl, rfl, SqT.of hp, at_2, ?_⟩
      walk_at "go"
      refine ⟨u, _, _, _, rfl, rfl, SqT.of hu, at_2, ?_⟩
      walk_at "go"
      rw [decide_eq_true rfl]
      exact q
def spIsE (C : Addr) : Sp := fun vs H Q _ => ∃ (n p : Addr) (x y : Int) (l : List Nat), vs = [.ref n, .ref p] ∧ ExA C H n x y l ∧ H p = some (.tup (exL x y l)) ∧ l.length ≤ 1000 ∧ Q (.bl true) H
theorem ok_is_exchange (F : FnP K "_law_is_exchange" s_is_exchange f fd) (m_isinstance : mg "isinstance" = none) (m_len : mg "len" = none) (m_str : mg "str" = none) (cls : Cls K C) (n_first_bit : NoAttr K C "first_bit") (n_second_bit : NoAttr K C "second_bit") (n_fates : NoAttr K C "fates") (l_Exchange : LenO P w K mg base 1 C (spLen1 C)) (c_is_number : Cal P w K mg base 1 "_law_is_number" spNum) : FnOk P w K mg base CX0 3 f fd P_is_exchange (spIsE C) := by
  refine F.ok sc_is_exchange (fun vs H Q E h => ?_) (fun cdv A outer s H vs Q E hr h => ?_)
  · obtain ⟨n, p, x, y, l, rfl, _⟩ := h
    rfl
  · obtain ⟨n, p, x, y, l, rfl, ⟨dx, hn⟩, hp, ll, q⟩ := h
    refine ⟨_, PSs.nox (pss_cons (ps_if (PW.pt (pw_or (pt_not (pt_val (pe_cl c_is_number hr (by decide) (by rfl) (pa_cons (pe_fld (pv 0) rfl) (pa_cons (pe_ix ix_tup (pv 1) pe_int (fun _ _ => rfl)) pa_nil))))) (pw_or1 (pt_not (pt_val (pe_cl c_is_number hr (by decide) (by rfl) (pa_cons (pe_fld (pv 0) rfl) (pa_cons (pe_ix ix_tup (pv 1) pe_int (fun _ _ => rfl)) pa_nil)))))))) (pss_one (ps_ret pe_bl)) pss_nil)
      (pss_one (ps_ret (pe_and (pe_callB call_isi (by rfl) m_isinstance (by decide +kernel) (pa_cons (pe_fld (pv 0) rfl) (pa_cons (pe_bltn (v := .ty "str") (by rfl) m_str (by decide +kernel) rfl) pa_nil))) (pe_and (pe_cmpR op_eq (pe_fld (pv 0) rfl) (pe_ix ix_tup (pv 1) pe_int (fun _ _ => rfl)) (nomark _)) (pe_one (pe_cmpR op_eq (pe_callB (call_lenO l_Exchange hr (by decide)) (by rfl) m_len PySem.boot_len (pa_cons (pv 0) pa_nil)) (pe_callB call_len_str (by rfl) m_len PySem.boot_len (pa_cons (pe_ix ix_tup (pv 1) pe_int (fun _ _ => rfl)) pa_nil)) (nomark _)))))))), ?_⟩
    have hlen : (S l).length ≤ sizeLine := by rw [S_len]; exact szl (by omega)
    walk_at "go"
    refine ⟨p, _, _, _, rfl, rfl, SqT.of hp, at_0, ?_⟩
    walk_at "go"
    refine ⟨p, _, _, _, rfl, rfl, SqT.of hp, at_1, ?_⟩
    walk_at "go"
    walk_at "go"
    refine isi (c := "str") (b := true) (.str _) (by decide +kernel) ?_
    walk_at "go"
    refine ⟨p, _, _, _, rfl, rfl, SqT.of hp, at_2, ?_⟩
    walk_at "go"
    rw [decide_eq_true rfl, if_pos rfl]
    walk_at "go"
    refine ⟨n, dx, _, rfl, hn, n, x, y, l, rfl, ⟨dx, hn⟩, ll, l.length, rfl, by omega, by omega, ?_⟩
    walk_at "go"
    refine ⟨p, _, _, _, rfl, rfl, SqT.of hp, at_2, ?_⟩
    walk_at "go"
    rw [S_len, decide_eq_true rfl]
    exact q
end
end Z
set_option pp.maxSteps 700
set_option Elab.async false
set_option linter.all false
set_option maxRecDepth 100000
set_option maxHeartbeats 4000000
open SX (S S_inj S_len S_cat)
namespace Z
open PySem PySem.Spec PyProof.Rows L2
open C8 (pss_cut tCut)
local macro_rules | `(tactic| walk_at "num") => `(tactic| first | rfl | omega | decide | exact Nat.le_of_lt (small1000 (by simp)) | exact ⟨by omega, by omega⟩ | exact ⟨by omega, by omega, by omega⟩ | exact ⟨by decide, by decide, by decide⟩ | exact Or.inl ⟨by omega, by omega⟩ | exact Or.inr ⟨by omega, by omega⟩)
local macro_rules | `(tactic| walk_at "go") => `(tactic| repeat (first | refine ⟨_, rfl, ?_⟩ | refine ⟨_, _, rfl, rfl, ?_⟩ | refine ⟨_, _, rfl, ?_⟩ | (refine ⟨_, _, rfl, rfl, ?_, ?_⟩; focus walk_at "num") | refine Or.inl ⟨_, rfl, ?_⟩ | refine ⟨_, _, _, _, rfl, rfl, (by assumption), (by rfl), ?_⟩ | refine ⟨_, _, _, _, _, rfl, (by assumption), (by assumption), (by assumption), (by rfl), ?_⟩ | refine ⟨rfl, ?_⟩ | (refine And.intro ?_ ?_; focus walk_at "num")))
abbrev s_refusal : Stmt := topS 28
abbrev N_refusal : List Str := ["_law_first_bit", "_law_second_bit", "_law_fates", "e"]
abbrev P_refusal : List Str := ["_law_first_bit", "_law_second_bit", "_law_fates"]
theorem sc_refusal : FnScope N_refusal P_refusal (defScope s_refusal) := ⟨rfl, rfl, rfl, by decide +kernel, rfl, by decide +kernel, by decide +kernel⟩
abbrev s_due_refusal : Stmt := topS 29
abbrev N_due_refusal : List Str := ["_law_first_bit", "_law_second_bit", "_law_fates", "_law_at"]
abbrev P_due_refusal : List Str := ["_law_first_bit", "_law_second_bit", "_law_fates"]
theorem sc_due_refusal : FnScope N_due_refusal P_due_refusal (defScope s_due_refusal) := ⟨rfl, rfl, rfl, by decide +kernel, rfl, by decide +kernel, by decide +kernel⟩
abbrev s_end_refused : Stmt := topS 30
abbrev N_end_refused : List Str := ["_law_one", "_law_other_here", "_law_end", "_law_door", "e"]
abbrev P_end_refused : List Str := ["_law_one", "_law_other_here", "_law_end", "_law_door"]
theorem sc_end_refused : FnScope N_end_refused P_end_refused (defScope s_end_refused) := ⟨rfl, rfl, rfl, by decide +kernel, rfl, by decide +kernel, by decide +kernel⟩
abbrev s_all_seen : Stmt := topS 31
abbrev N_all_seen : List Str := ["_law_one", "_law_other_here", "_law_exchanges", "_law_end", "_law_views", "_law_at", "_law_told"]
abbrev P_all_seen : List Str := ["_law_one", "_law_other_here", "_law_exchanges"]
theorem sc_all_seen : FnScope N_all_seen P_all_seen (defScope s_all_seen) := ⟨rfl, rfl, rfl, by decide +kernel, rfl, by decide +kernel, by decide +kernel⟩
/-- the word and the value of a refusal -/
def rfW : Option Bad → Str
  | none => "none"
  | some (.bit _) => "bit"
  | some (.fate _) => "fate"
def rfI : Option Bad → Int
  | none => 0
  | some (.bit x) => x
  | some (.fate i) => i
section
variable {P : Program} {w : World} {K : PySem.W.Frag} {mg : Str → Option Value} {base : Heap} {f C CB CE CF CH : Addr} {fd : FuncData}
def spRef : Sp := fun vs H Q _ => ∃ (a b : Int) (l : List Nat), vs = [.int a, .int b, .str (S l)] ∧ l.length ≤ 1000 ∧ ∀ p H', Same H H' → H' p = some (.tup [.str (rfW (bad a b l)), .int (rfI (bad a b l)), .bl true]) → Q (.ref p) H'
theorem ok_refusal (F : FnP K "_law_refusal" s_refusal f fd) (m_isinstance : mg "isinstance" = none) (g_BadBit : mg "BadBit" = some (.ref CB)) (g_BadEnd : mg "BadEnd" = some (.ref CE)) (g_BadFate : mg "BadFate" = some (.ref CF)) (g_HouseError : mg "HouseError" = some (.ref CH)) (k_Exchange : MakX P w K mg base 4 "Exchange" C (spEx1 C CB CF)) (xf_BadBit : XfC K CB) (xf_BadFate : XfC K CF) (no_BadBit_bit : PySem.W.findIn K (.ref CB) "bit" = some none) (no_BadFate_at : PySem.W.findIn K (.ref CF) "at" = some none) (ecB : ExcC K CB) (ecF : ExcC K CF) (teBB : PySem.W.exmOne K (.ref CB) (.ref CB) = some true) (teFB : PySem.W.exmOne K (.ref CF) (.ref CB) = some false) (teFF : PySem.W.exmOne K (.ref CF) (.ref CF) = some true) (kBH : PySem.W.kitOne K (.ref CB) (.ref CH) = some true) (kBF : PySem.W.kitOne K (.ref CB) (.ref CF) = some false) (kBE : PySem.W.kitOne K (.ref CB) (.ref CE) = some false) (kFH : PySem.W.kitOne K (.ref CF) (.ref CH) = some true) (kFE : PySem.W.kitOne K (.ref CF) (.ref CE) = some false) : FnOk P w K mg base CX0 6 f fd P_refusal spRef := by
  refine F.ok sc_refusal (fun vs H Q E h => ?_) (fun cdv A outer s H vs Q E hr h => ?_)
  · obtain ⟨a, b, l, rfl, _⟩ := h
    rfl
  · obtain ⟨a, b, l, rfl, ll, q⟩ := h
    refine ⟨_, PSs.nox (pss_cons (L2N.ps_try_manyA rfl rfl sc_refusal.nd takes0N (fun W pn xe tk po => (pss_one (ps_expr (pe_mkE k_Exchange (fun σ => L2N.passAt tk σ) hr (by decide) (by rfl) (pa_cons (pv 0) (pa_cons (pv 1) (pa_cons (pv 2) pa_nil)))))))
      (.cons (i := 3) rfl rfl ⟨rfl, rfl, .inl g_BadBit⟩ (fun ex oe cls d pn hzn hf => (pss_one (ps_ret (pe_tup (pa_cons pe_str (pa_cons (pe_xf xf_BadBit no_BadBit_bit hzn.zc hf (pv 3)) (pa_cons (pe_and (pe_callB (call_isX hzn.zc hf) (by rfl) m_isinstance (by decide +kernel) (pa_cons (pv 3) (pa_cons (pe_glob (by rfl) g_HouseError relv_ref) pa_nil))) (pe_and (pe_not (pe_callB (call_isX hzn.zc hf) (by rfl) m_isinstance (by decide +kernel) (pa_cons (pv 3) (pa_cons (pe_glob (by rfl) g_BadFate relv_ref) pa_nil)))) (pe_one (pe_not (pe_callB (call_isX hzn.zc hf) (by rfl) m_isinstance (by decide +kernel) (pa_cons (pv 3) (pa_cons (pe_glob (by rfl) g_BadEnd relv_ref) pa_nil))))))) pa_nil)))))))
      (.cons (i := 3) rfl rfl ⟨rfl, rfl, .inl g_BadFate⟩ (fun ex oe cls d pn hzn hf => (pss_one (ps_ret (pe_tup (pa_cons pe_str (pa_cons (pe_xf xf_BadFate no_BadFate_at hzn.zc hf (pv 3)) (pa_cons (pe_and (pe_callB (call_isX hzn.zc hf) (by rfl) m_isinstance (by decide +kernel) (pa_cons (pv 3) (pa_cons (pe_glob (by rfl) g_HouseError relv_ref) pa_nil))) (pe_one (pe_not (pe_callB (call_isX hzn.zc hf) (by rfl) m_isinstance (by decide +kernel) (pa_cons (pv 3) (pa_cons (pe_glob (by rfl) g_BadEnd relv_ref) pa_nil)))))) pa_nil)))))))
      .nil)))
      (pss_one (ps_ret (pe_tup (pa_cons pe_str (pa_cons pe_int (pa_cons pe_bl pa_nil))))))), ?_⟩
    walk_at "go"
    intro n dx n1 n2 n3
    have s1 : Same H (upd (upd H dx (.own n)) n (.ins C dx [])) := Z.Same.mut (same_new n2) n1
    refine ⟨n, dx, a, b, l, rfl, upd_same, ll, fun hb H2 sb e2 => ?_, fun r hb => ?_⟩
    · have s2 : Same H H2 := fun c o e => sb c o (fun z => by rw [z, n1] at e; cases e) (s1 c o e)
      walk_at "go"
      intro p np
      refine q p _ (s2.trans (same_new np)) ?_
      rw [upd_same, hb]
      rfl
    · cases r with
      | bit x =>
        intro H2 d s2 nd
        refine ⟨true, teBB, fun _ a' na => ?_, (fun z => by cases z)⟩
        walk_at "go"
        refine ⟨d, _, _, rfl, upd_same, rfl, ?_⟩
        walk_at "go"
        refine ⟨CB, d, _, .ref CH, .ref CH, true, rfl, rfl, ecB, upd_same, rfl, (fun u z => by cases z; rfl), kBH, ?_⟩
        walk_at "go"
        refine ⟨CB, d, _, .ref CF, .ref CF, false, rfl, rfl, ecB, upd_same, rfl, (fun u z => by cases z; rfl), kBF, ?_⟩
        walk_at "go"
        refine ⟨CB, d, _, .ref CE, .ref CE, false, rfl, rfl, ecB, upd_same, rfl, (fun u z => by cases z; rfl), kBE, ?_⟩
        walk_at "go"
        intro p np
        refine q p _ (s1.trans (s2.trans ((same_new nd).trans (same_new np)))) ?_
        rw [upd_same, hb]
        rfl
      | fate i =>
        intro H2 d s2 nd
        refine ⟨false, teFB, (fun z => by cases z), fun _ => ?_⟩
        refine ⟨true, teFF, fun _ a' na => ?_, (fun z => by cases z)⟩
        walk_at "go"
        refine ⟨d, _, _, rfl, upd_same, rfl, ?_⟩
        walk_at "go"
        refine ⟨CF, d, _, .ref CH, .ref CH, true, rfl, rfl, ecF, upd_same, rfl, (fun u z => by cases z; rfl), kFH, ?_⟩
        walk_at "go"
        refine ⟨CF, d, _, .ref CE, .ref CE, false, rfl, rfl, ecF, upd_same, rfl, (fun u z => by cases z; rfl), kFE, ?_⟩
        walk_at "go"
        intro p np
        refine q p _ (s1.trans (s2.trans ((same_new nd).trans (same_new np)))) ?_
        rw [upd_same, hb]
        rfl
def spDue : Sp := fun vs H Q _ => ∃ (a b : Int) (l : List Nat), vs = [.int a, .int b, .str (S l)] ∧ l.length ≤ 1000 ∧ ∀ p H', Same H H' → H' p = some (.tup [.str (rfW (bad a b l)), .int (rfI (bad a b l))]) → Q (.ref p) H'
theorem ok_due_refusal (F : FnP K "_law_due_refusal" s_due_refusal f fd) (m_len : mg "len" = none) (m_range : mg "range" = none) : FnOk P w K mg base CX0 1 f fd P_due_refusal spDue := by
  refine F.ok sc_due_refusal (fun vs H Q E h => ?_) (fun cdv A outer s H vs Q E hr h => ?_)
  · obtain ⟨a, b, l, rfl, _⟩ := h
    rfl
  · obtain ⟨a, b, l, rfl, ll, q⟩ := h
    refine ⟨_, PSs.nox (pss_cut (ps_if (PW.pt (pw_and (pt_cmpR op_ne (pv 0) pe_int (nomark _)) (pw_and1 (pt_cmpR op_ne (pv 0) pe_int (nomark _))))) (pss_one (ps_ret (pe_tup (pa_cons pe_str (pa_cons (pv 0) pa_nil))))) pss_nil)
      (pss_cut (ps_if (PW.pt (pw_and (pt_cmpR op_ne (pv 1) pe_int (nomark _)) (pw_and1 (pt_cmpR op_ne (pv 1) pe_int (nomark _))))) (pss_one (ps_ret (pe_tup (pa_cons pe_str (pa_cons (pv 1) pa_nil))))) pss_nil)
      (pss_cons (ps_for PassesOwn.never rfl (pi_range1 (by rfl) m_range (pa_cons (pe_callB call_len_str (by rfl) m_len PySem.boot_len (pa_cons (pv 2) pa_nil)) pa_nil)) (pg_name (i := 3) sc_due_refusal.nd rfl (by first | exact .inl rfl | exact .inr rfl))
        (pss_one (ps_if (pt_cmpR op_notIn_sign (pe_ix ix_str (pv 2) (pv 3) (fun _ _ => rfl)) pe_str (by rfl)) (pss_one (ps_ret (pe_tup (pa_cons pe_str (pa_cons (pv 3) pa_nil))))) pss_nil)))
      (pss_one (ps_ret (pe_tup (pa_cons pe_str (pa_cons pe_int pa_nil)))))))), ?_⟩
    have hlen : (S l).length ≤ sizeLine := by rw [S_len]; exact szl (by omega)
    walk_at "go"
    refine ⟨fun σ J => J = H ∧ isBit a = true ∧ σ = [some (.int a), some (.int b), some (.str (S l)), none], ?_, ?_⟩
    · by_cases h0 : a = 0
      · subst h0
        walk_at "go"
        rfl
      · by_cases h1 : a = 1
        · subst h1
          walk_at "go"
          rfl
        · walk_at "go"
          rw [show decide (V.int a = V.int 0) = false from decide_eq_false (fun z => h0 (by injection z))]
          walk_at "go"
          rw [show decide (V.int a = V.int 1) = false from decide_eq_false (fun z => h1 (by injection z))]
          walk_at "go"
          intro p np
          refine q p _ (same_new np) ?_
          rw [upd_same]
          unfold bad
          rw [if_neg (by rw [isB_no h0 h1]; decide)]
          rfl
    rintro σ J ⟨rfl, ha, rfl⟩
    walk_at "go"
    refine ⟨fun σ J1 => J1 = J ∧ isBit b = true ∧ σ = [some (.int a), some (.int b), some (.str (S l)), none], ?_, ?_⟩
    · by_cases h0 : b = 0
      · subst h0
        walk_at "go"
        rfl
      · by_cases h1 : b = 1
        · subst h1
          walk_at "go"
          rfl
        · walk_at "go"
          rw [show decide (V.int b = V.int 0) = false from decide_eq_false (fun z => h0 (by injection z))]
          walk_at "go"
          rw [show decide (V.int b = V.int 1) = false from decide_eq_false (fun z => h1 (by injection z))]
          walk_at "go"
          intro p np
          refine q p _ (same_new np) ?_
          rw [upd_same]
          unfold bad
          rw [if_pos ha, if_neg (by rw [isB_no h0 h1]; decide)]
          rfl
    rintro σ J ⟨rfl, hb, rfl⟩
    have eb : bad a b l = (badF l 0).map Bad.fate := by
      unfold bad
      rw [if_pos ha, if_pos hb]
    rw [eb] at q
    walk_at "go"
    rw [S_len]
    walk_at "go"
    refine for_gen (n := l.length) (fun i σ J1 => J1 = J ∧ (∀ j, j < i → ∀ c, l[j]? = some c → isF c = true) ∧ ∃ v3, σ = [some (.int a), some (.int b), some (.str (S l)), v3]) ⟨rfl, fun j h => absurd h (by omega), _, rfl⟩ ?_ ?_ ?_ ?_
    · intro i σ J1 hi _
      show i < (l.length : Int).toNat
      omega
    · intro σ J1 _
      show (l.length : Int).toNat ≤ l.length
      omega
    · rintro i σ J1 x' J2 hi ⟨rfl, up, v3, rfl⟩ ⟨rfl, rfl⟩
      have el : l[i]? = some l[i] := List.getElem?_eq_getElem hi
      have ea : atI (S l).cps.toList (0 + (i : Int)) = some l[i] := by
        rw [Int.zero_add]
        exact atI_nat (by show l[i]? = _; exact el)
      generalize l[i] = c at ea el
      walk_at "go"
      refine ⟨S l, _, c, rfl, rfl, hlen, ea, ?_⟩
      walk_at "go"
      rw [bfsn_in]
      cases hc : isF c
      · walk_at "go"
        intro p np
        refine q p _ (same_new np) ?_
        have z := badF_at (i := 0) up ⟨c, el, hc⟩
        rw [Nat.zero_add] at z
        rw [upd_same, z, Int.zero_add]
        rfl
      · refine ⟨rfl, fun j hj c' ej => ?_, _, rfl⟩
        by_cases c2 : j = i
        · subst c2
          rw [el] at ej
          cases ej
          exact hc
        · exact up j (by omega) c' ej
    rintro σ J1 ⟨rfl, up, v3, rfl⟩
    walk_at "go"
    intro p np
    refine q p _ (same_new np) ?_
    rw [upd_same, badF_up fun k c e => up k (List.getElem?_eq_some_iff.mp e).1 c e]
    rfl
def spEndR (C : Addr) : Sp := fun vs H Q _ => ∃ (n m : Addr) (z : Str) (dr : Int) (a b : Int) (l : List Nat) (a' b' : Int) (l' : List Nat), vs = [.ref n, .ref m, .str z, .int dr] ∧ ExA C H n a b l ∧ ExA C H m a' b' l' ∧ Fts l ∧ Fts l' ∧ l.length ≤ 1000 ∧ l'.length ≤ 1000 ∧ ¬ (z = eS false ∨ z = eS true) ∧ ∀ H', Same H H' → Q (.bl true) H'
theorem ok_end_refused (F : FnP K "_law_end_refused" s_end_refused f fd) (m_isinstance : mg "isinstance" = none) (m_ValueError : mg "ValueError" = none) (m_str : mg "str" = none) (g_BadBit : mg "BadBit" = some (.ref CB)) (g_BadEnd : mg "BadEnd" = some (.ref CE)) (g_HouseError : mg "HouseError" = some (.ref CH)) (me_seen : MetX P w K mg base 4 C "seen" (spSeen C CE)) (c_alike : CalKX P w K mg base 5 "alike" 2 ["to"] (fun vs zs => vs ++ zs) (spAlike C CE)) (xf_BadEnd : XfC K CE) (no_BadEnd_end : PySem.W.findIn K (.ref CE) "end" = some none) (ecE : ExcC K CE) (teEE : PySem.W.exmOne K (.ref CE) (.ref CE) = some true) (kEH : PySem.W.kitOne K (.ref CE) (.ref CH) = some true) (kEV : PySem.W.kitOne K (.ref CE) (.type "ValueError") = some true) (kEB : PySem.W.kitOne K (.ref CE) (.ref CB) = some false) : FnOk P w K mg base CX0 6 f fd P_end_refused (spEndR C) := by
  refine F.ok sc_end_refused (fun vs H Q E h => ?_) (fun cdv A outer s H vs Q E hr h => ?_)
  · obtain ⟨n, m, z, dr, a, b, l, a', b', l', rfl, _⟩ := h
    rfl
  · obtain ⟨n, m, z, dr, a, b, l, a', b', l', rfl, hn, hm, hf, hf', ll, ll', hz, q⟩ := h
    refine ⟨_, PSs.nox (pss_cons (L2N.ps_try_as (i := 4) rfl rfl sc_end_refused.nd rfl rfl ⟨rfl, rfl, .inl g_BadEnd⟩ takes0N (fun W pn xe tk po => (pss_one (ps_if (pt_cmpR op_eq (pv 3) pe_int (nomark _)) (pss_one (ps_expr (pe_meE me_seen (pv 0) (fun σ => L2N.passAt tk σ) hr (by decide) (pa_cons (pv 2) pa_nil)))) (pss_one (ps_expr (pe_clKE c_alike (fun σ => L2N.passAt tk σ) hr (by decide) (by rfl) (pa_cons (pv 0) (pa_cons (pv 1) pa_nil)) (pk_cons (pv 2) pk_nil)))))))
      (fun ex oe cls d pn hzn hf => (pss_cons (ps_if (PW.pt (pw_or (pt_not (pt_val (pe_callB (call_isX hzn.zc hf) (by rfl) m_isinstance (by decide +kernel) (pa_cons (pv 4) (pa_cons (pe_glob (by rfl) g_HouseError relv_ref) pa_nil))))) (pw_or (pt_not (pt_val (pe_callB (call_isX hzn.zc hf) (by rfl) m_isinstance (by decide +kernel) (pa_cons (pv 4) (pa_cons (pe_bltn (v := .ty "ValueError") (by rfl) m_ValueError (by decide +kernel) rfl) pa_nil))))) (pw_or1 (pt_val (pe_callB (call_isX hzn.zc hf) (by rfl) m_isinstance (by decide +kernel) (pa_cons (pv 4) (pa_cons (pe_glob (by rfl) g_BadBit relv_ref) pa_nil)))))))) (pss_one (ps_ret pe_bl)) pss_nil)
      (pss_one (ps_ret (pe_and (pe_callB (call_isi_K (K := K) rfl) (by rfl) m_isinstance (by decide +kernel) (pa_cons (pe_xf xf_BadEnd no_BadEnd_end hzn.zc hf (pv 4)) (pa_cons (pe_bltn (v := .ty "str") (by rfl) m_str (by decide +kernel) rfl) pa_nil))) (pe_one (pe_cmpR op_eq (pe_xf xf_BadEnd no_BadEnd_end hzn.zc hf (pv 4)) (pv 2) (nomark _)))))))))
      (pss_one (ps_ret pe_bl))), ?_⟩
    obtain ⟨dx, hn'⟩ := hn
    obtain ⟨dy, hm'⟩ := hm
    have no : ∀ {R : Prop} e, z = eS e → R := fun e ez => absurd (by rw [ez]; cases e <;> simp) hz
    walk_at "go"
    refine ite2 (fun e => ?_) (fun e => ?_)
    · walk_at "go"
      refine ⟨n, dx, _, rfl, hn', rfl, ?_⟩
      walk_at "go"
      refine ⟨n, z, a, b, l, rfl, ⟨dx, hn'⟩, ll, fun e ez => no e ez, fun _ d nd => ?_⟩
      refine ⟨true, teEE, fun _ a' na => ?_, (fun z => by cases z)⟩
      walk_at "go"
      refine ⟨CE, d, _, .ref CH, .ref CH, true, rfl, rfl, ecE, upd_same, rfl, (fun u z => by cases z; rfl), kEH, ?_⟩
      walk_at "go"
      refine ⟨CE, d, _, .ty "ValueError", .type "ValueError", true, rfl, rfl, ecE, upd_same, rfl, (fun u z => by cases z; rfl), kEV, ?_⟩
      walk_at "go"
      refine ⟨CE, d, _, .ref CB, .ref CB, false, rfl, rfl, ecE, upd_same, rfl, (fun u z => by cases z; rfl), kEB, ?_⟩
      walk_at "go"
      refine ⟨d, _, _, rfl, upd_same, rfl, ?_⟩
      walk_at "go"
      refine isi (c := "str") (b := true) (.str _) (by decide +kernel) ?_
      walk_at "go"
      refine ⟨d, _, _, rfl, upd_same, rfl, ?_⟩
      walk_at "go"
      rw [decide_eq_true rfl]
      exact q _ (same_new nd)
    · walk_at "go"
      refine ⟨n, m, z, a, b, l, a', b', l', rfl, ⟨dx, hn'⟩, ⟨dy, hm'⟩, hf, hf', ll, ll', fun e ez => no e ez, fun _ d nd => ?_⟩
      refine ⟨true, teEE, fun _ a' na => ?_, (fun z => by cases z)⟩
      walk_at "go"
      refine ⟨CE, d, _, .ref CH, .ref CH, true, rfl, rfl, ecE, upd_same, rfl, (fun u z => by cases z; rfl), kEH, ?_⟩
      walk_at "go"
      refine ⟨CE, d, _, .ty "ValueError", .type "ValueError", true, rfl, rfl, ecE, upd_same, rfl, (fun u z => by cases z; rfl), kEV, ?_⟩
      walk_at "go"
      refine ⟨CE, d, _, .ref CB, .ref CB, false, rfl, rfl, ecE, upd_same, rfl, (fun u z => by cases z; rfl), kEB, ?_⟩
      walk_at "go"
      refine ⟨d, _, _, rfl, upd_same, rfl, ?_⟩
      walk_at "go"
      refine isi (c := "str") (b := true) (.str _) (by decide +kernel) ?_
      walk_at "go"
      refine ⟨d, _, _, rfl, upd_same, rfl, ?_⟩
      walk_at "go"
      rw [decide_eq_true rfl]
      exact q _ (same_new nd)
def spAll (C : Addr) : Sp := fun vs H Q _ => ∃ (o o' xs n m : Addr) (a b : Int) (l : List Nat) (a' b' : Int) (l' : List Nat), vs = [.ref o, .ref o', .ref xs] ∧ H o = some (.tup (exL a b l)) ∧ H o' = some (.tup (exL a' b' l')) ∧ H xs = some (.lst [.ref n, .ref m]) ∧ ExA C H n a b l ∧ ExA C H m a' b' l' ∧ Drawn a b l ∧ Drawn a' b' l' ∧ ∀ H', Same H H' → Q (.bl true) H'
theorem ok_all_seen (F : FnP K "_law_all_seen" s_all_seen f fd) (m_range : mg "range" = none) (m_isinstance : mg "isinstance" = none) (m_bool : mg "bool" = none) (c_view : Cal P w K mg base 1 "_law_view" (spView K)) (c_is_view : Cal P w K mg base 2 "_law_is_view" spIsV) (me_seen : MetX P w K mg base 4 C "seen" (spSeen C CE)) (c_alike : CalKX P w K mg base 5 "alike" 2 ["to"] (fun vs zs => vs ++ zs) (spAlike C CE)) (e_Exchange : Eqo P w K mg base 1 C (spEq1 C)) : FnOk P w K mg base CX0 6 f fd P_all_seen (spAll C) := by
  refine F.ok sc_all_seen (fun vs H Q E h => ?_) (fun cdv A outer s H vs Q E hr h => ?_)
  · obtain ⟨o, o', xs, n, m, a, b, l, a', b', l', rfl, _⟩ := h
    rfl
  · obtain ⟨o, o', xs, n, m, a, b, l, a', b', l', rfl, ho, ho', hx, hn, hm, dr, dr', q⟩ := h
    refine ⟨_, PSs.nox (pss_cons (ps_for PassesOwn.never rfl (pi_list (pe_lst (pa_cons pe_str (pa_cons pe_str pa_nil)))) (pg_name (i := 3) sc_all_seen.nd rfl (by first | exact .inl rfl | exact .inr rfl))
        (pss_cons (ps_set (i := 4) sc_all_seen.nd rfl (by first | exact .inl rfl | exact .inr rfl) (pe_lst (pa_cons (pe_cl c_view hr (by decide) (by rfl) (pa_cons (pv 0) (pa_cons (pv 3) pa_nil))) (pa_cons (pe_cl c_view hr (by decide) (by rfl) (pa_cons (pv 1) (pa_cons (pv 3) pa_nil))) pa_nil))))
      (pss_one (ps_for PassesOwn.never rfl (pi_range1 (by rfl) m_range (pa_cons pe_int pa_nil)) (pg_name (i := 5) sc_all_seen.nd rfl (by first | exact .inl rfl | exact .inr rfl))
        (pss_cons (ps_if (pt_not (pt_val (pe_cl c_is_view hr (by decide) (by rfl) (pa_cons (pe_meE me_seen (pe_ix ix_list (pv 2) (pv 5) (fun _ _ => rfl)) (fun _ => passS0) hr (by decide) (pa_cons (pv 3) pa_nil)) (pa_cons (pe_ix ix_list (pv 4) (pv 5) (fun _ _ => rfl)) pa_nil))))) (pss_one (ps_ret pe_bl)) pss_nil)
      (pss_cons (ps_set (i := 6) sc_all_seen.nd rfl (by first | exact .inl rfl | exact .inr rfl) (pe_clKE c_alike (fun _ => passS0) hr (by decide) (by rfl) (pa_cons (pe_ix ix_list (pv 2) (pv 5) (fun _ _ => rfl)) (pa_cons (pe_ix ix_list (pv 2) (pe_op op_sub pe_int (pv 5)) (fun _ _ => rfl)) pa_nil)) (pk_cons (pv 3) pk_nil)))
      (pss_cons (ps_if (PW.pt (pw_or (pt_not (pt_val (pe_callB call_isi (by rfl) m_isinstance (by decide +kernel) (pa_cons (pv 6) (pa_cons (pe_bltn (v := .ty "bool") (by rfl) m_bool (by decide +kernel) rfl) pa_nil))))) (pw_or1 (pt_cmpR op_ne (pv 6) (pe_cmpR (op_eqD hr.units) (pe_ix ix_list (pv 4) pe_int (fun _ _ => rfl)) (pe_ix ix_list (pv 4) pe_int (fun _ _ => rfl)) (nomark _)) (nomark _))))) (pss_one (ps_ret pe_bl)) pss_nil)
      (pss_one (ps_if (PW.pt (pw_or (pt_not (pt_val (pe_clKE c_alike (fun _ => passS0) hr (by decide) (by rfl) (pa_cons (pe_ix ix_list (pv 2) (pv 5) (fun _ _ => rfl)) (pa_cons (pe_ix ix_list (pv 2) (pv 5) (fun _ _ => rfl)) pa_nil)) (pk_cons (pv 3) pk_nil)))) (pw_or1 (pt_not (pt_cmpR (op_own e_Exchange hr (by decide)) (pe_ix ix_list (pv 2) (pv 5) (fun _ _ => rfl)) (pe_ix ix_list (pv 2) (pv 5) (fun _ _ => rfl)) (nomark _)))))) (pss_one (ps_ret pe_bl)) pss_nil)))))))))
      (pss_one (ps_ret pe_bl))), ?_⟩
    walk_at "go"
    intro L nL
    generalize eH_ : upd H L _ = H1
    have s1 : Same H H1 := by rw [← eH_]; exact same_new nL
    have eL : H1 L = some (.lst [.str (eS false), .str (eS true)]) := by rw [← eH_]; exact upd_same
    clear eH_
    walk_at "go"
    refine ⟨⟨_, SqL.of eL⟩, ?_⟩
    refine for_vs (SqL.of eL) (fun k σ J => Same H1 J ∧ ∃ v3 v4 v5 v6, σ = [some (.ref o), some (.ref o'), some (.ref xs), v3, v4, v5, v6]) ⟨Same.refl _, _, _, _, _, rfl⟩ (fun k σ J p => p.1) ?_ ?_
    · rintro k v σ J ek ⟨s2, v3, v4, v5, v6, rfl⟩
      obtain ⟨e, rfl⟩ : ∃ e, v = .str (eS e) := by
        match k, ek with
        | 0, ek =>
          cases ek
          exact ⟨false, rfl⟩
        | 1, ek =>
          cases ek
          exact ⟨true, rfl⟩
      have s02 := s1.trans s2
      walk_at "go"
      refine ⟨o, e, a, b, l, rfl, s02 _ _ ho, by have := dr.2.2.2; omega, fun p1 J1 s3 np1 ep1 => ?_⟩
      walk_at "go"
      refine ⟨o', e, a', b', l', rfl, s3 _ _ (s02 _ _ ho'), by have := dr'.2.2.2; omega, fun p2 J2 s4 np2 ep2 => ?_⟩
      walk_at "go"
      intro W nW
      generalize eH_ : upd J2 W _ = J3
      have s5 : Same J2 J3 := by rw [← eH_]; exact same_new nW
      have eW : J3 W = some (.lst [.ref p1, .ref p2]) := by rw [← eH_]; exact upd_same
      clear eH_
      have ep1 := s5 _ _ (s4 _ _ ep1)
      have ep2 := s5 _ _ ep2
      have s35 := s3.trans (s4.trans s5)
      clear s3 s4 s5
      have s25 := s2.trans s35
      have s05 := s1.trans s25
      walk_at "go"
      refine for_gen (n := 2) (fun i σ J4 => Same J3 J4 ∧ ∃ v5 v6, σ = [some (.ref o), some (.ref o'), some (.ref xs), some (.str (eS e)), some (.ref W), v5, v6]) ⟨Same.refl _, _, _, rfl⟩ ?_ ?_ ?_ ?_
      · intro i σ J4 hi _
        exact hi
      · intro σ J4 _
        exact Nat.le_refl _
      · rintro i σ J4 x' J5 hi ⟨s6, v5, v6, rfl⟩ ⟨rfl, rfl⟩
        obtain ⟨n1, n2, q1, a1, b1, l1, a2, b2, l2, at1, at2, at3, hn1, hn2, dr1, dr2, hq1, hd⟩ : ∃ (n1 n2 q1 : Addr) (a1 b1 : Int) (l1 : List Nat) (a2 b2 : Int) (l2 : List Nat), atI [V.ref n, .ref m] (0 + (i : Int)) = some (.ref n1) ∧ atI [V.ref n, .ref m] (1 - (0 + (i : Int))) = some (.ref n2) ∧ atI [V.ref p1, .ref p2] (0 + (i : Int)) = some (.ref q1) ∧ ExA C H n1 a1 b1 l1 ∧ ExA C H n2 a2 b2 l2 ∧ Drawn a1 b1 l1 ∧ Drawn a2 b2 l2 ∧ J3 q1 = some (.tup (vwL (vw a1 b1 l1 e))) ∧ decide (vw a1 b1 l1 e = vw a2 b2 l2 e) = decide (vw a b l e = vw a' b' l' e) := by
          match i, hi with
          | 0, _ => exact ⟨n, m, p1, a, b, l, a', b', l', at_0, at_1, at_0, hn, hm, dr, dr', ep1, rfl⟩
          | 1, _ => exact ⟨m, n, p2, a', b', l', a, b, l, at_1, at_0, at_1, hm, hn, dr', dr, ep2, decide_eq_decide.mpr eq_comm⟩
        have s06 := s05.trans s6
        have hx6 := s06 _ _ hx
        have eW6 := s6 _ _ eW
        obtain ⟨d1, hn1'⟩ := hn1.mono s06
        have hn2 := hn2.mono s06
        have ll1 : l1.length ≤ 60 := dr1.2.2.2
        have ll2 : l2.length ≤ 60 := dr2.2.2.2
        walk_at "go"
        refine ⟨xs, _, _, _, rfl, rfl, SqL.of hx6, at1, ?_⟩
        walk_at "go"
        refine ⟨n1, d1, _, rfl, hn1', rfl, ?_⟩
        walk_at "go"
        refine ⟨n1, eS e, a1, b1, l1, rfl, ⟨d1, hn1'⟩, by omega, fun e2 ee p3 J6 s7 np3 ep3 => ?_, fun z => absurd (by cases e <;> simp) z⟩
        obtain rfl : e = e2 := by
          revert ee
          cases e <;> cases e2 <;> decide +kernel
        walk_at "go"
        refine ⟨W, _, _, _, rfl, rfl, SqL.of (s7 _ _ eW6), at3, ?_⟩
        walk_at "go"
        refine ⟨p3, q1, vw a1 b1 l1 e, rfl, ep3, s7 _ _ (s6 _ _ hq1), ?_⟩
        have s67 := s6.trans s7
        have s07 := s06.trans s7
        have hx7 := s7 _ _ hx6
        have eW7 := s7 _ _ eW6
        have hn17 := s7 _ _ hn1'
        walk_at "go"
        refine ⟨xs, _, _, _, rfl, rfl, SqL.of hx7, at1, ?_⟩
        walk_at "go"
        refine ⟨xs, _, _, _, rfl, rfl, SqL.of hx7, at2, ?_⟩
        walk_at "go"
        refine ⟨n1, n2, eS e, a1, b1, l1, a2, b2, l2, rfl, ⟨d1, hn17⟩, hn2.mono s7, dr1.2.2.1, dr2.2.2.1, by omega, by omega, fun e2 ee J7 s8 => ?_, fun z => absurd (by cases e <;> simp) z⟩
        obtain rfl : e = e2 := by
          revert ee
          cases e <;> cases e2 <;> decide +kernel
        have hx8 := s8 _ _ hx7
        have eW8 := s8 _ _ eW7
        have hn18 := s8 _ _ hn17
        have s68 := s67.trans s8
        walk_at "go"
        refine isi (c := "bool") (b := true) (.bl _) (by decide +kernel) ?_
        walk_at "go"
        refine ⟨W, _, _, _, rfl, rfl, SqL.of eW8, at_0, ?_⟩
        walk_at "go"
        refine ⟨W, _, _, _, rfl, rfl, SqL.of eW8, at_1, ?_⟩
        walk_at "go"
        refine ⟨_, _, dp_vw (s68 _ _ ep1), dp_vw (s68 _ _ ep2), shaped_vw (vw_ok dr.2.2.1 (by have := dr.2.2.2; omega)), shaped_vw (vw_ok dr'.2.2.1 (by have := dr'.2.2.2; omega)), ?_⟩
        rw [eqv_vw, hd]
        walk_at "go"
        refine ite2 (fun h => absurd h (by simp)) (fun _ => ?_)
        walk_at "go"
        refine ⟨xs, _, _, _, rfl, rfl, SqL.of hx8, at1, ?_⟩
        walk_at "go"
        refine ⟨xs, _, _, _, rfl, rfl, SqL.of hx8, at1, ?_⟩
        walk_at "go"
        refine ⟨n1, n1, eS e, a1, b1, l1, a1, b1, l1, rfl, ⟨d1, hn18⟩, ⟨d1, hn18⟩, dr1.2.2.1, dr1.2.2.1, by omega, by omega, fun e2 ee J8 s9 => ?_, fun z => absurd (by cases e <;> simp) z⟩
        rw [decide_eq_true rfl]
        have hx9 := s9 _ _ hx8
        have hn19 := s9 _ _ hn18
        walk_at "go"
        refine ⟨xs, _, _, _, rfl, rfl, SqL.of hx9, at1, ?_⟩
        walk_at "go"
        refine ⟨xs, _, _, _, rfl, rfl, SqL.of hx9, at1, ?_⟩
        walk_at "go"
        refine ⟨n1, n1, d1, d1, _, _, rfl, rfl, hn19, hn19, n1, n1, a1, b1, l1, a1, b1, l1, rfl, ⟨d1, hn19⟩, ⟨d1, hn19⟩, _, rfl, ?_⟩
        rw [show decide (a1 = a1 ∧ b1 = b1 ∧ l1 = l1) = true by simp]
        walk_at "go"
        exact ⟨s68.trans s9, _, _, rfl⟩
      rintro σ J4 ⟨s6, v5, v6, rfl⟩
      exact ⟨s25.trans s6, _, _, _, _, rfl⟩
    rintro σ J ⟨s2, v3, v4, v5, v6, rfl⟩
    walk_at "go"
    exact q _ (s1.trans s2)
end
end Z
set_option pp.maxSteps 700
set_option Elab.async false
set_option linter.all false
set_option maxRecDepth 100000
set_option maxHeartbeats 4000000
open SX (S S_inj S_len S_cat)
namespace Z
open PySem PySem.Spec PyProof.Rows L2
open C8 (pss_cut tCut)
local macro_rules | `(tactic| walk_at "num") => `(tactic| first | rfl | omega | decide | exact Nat.le_of_lt (small1000 (by simp)) | exact ⟨by omega, by omega⟩ | exact ⟨by omega, by omega, by omega⟩ | exact ⟨by decide, by decide, by decide⟩ | exact Or.inl ⟨by omega, by omega⟩ | exact Or.inr ⟨by omega, by omega⟩)
local macro_rules | `(tactic| walk_at "go") => `(tactic| repeat (first | refine ⟨_, rfl, ?_⟩ | refine ⟨_, _, rfl, rfl, ?_⟩ | refine ⟨_, _, rfl, ?_⟩ | (refine ⟨_, _, rfl, rfl, ?_, ?_⟩; focus walk_at "num") | refine Or.inl ⟨_, rfl, ?_⟩ | refine ⟨_, _, _, _, rfl, rfl, (by assumption), (by rfl), ?_⟩ | refine ⟨_, _, _, _, _, rfl, (by assumption), (by assumption), (by assumption), (by rfl), ?_⟩ | refine ⟨rfl, ?_⟩ | (refine And.intro ?_ ?_; focus walk_at "num")))
abbrev s_law : Stmt := topS 32
abbrev N_law : List Str := ["_law_script", "_law_place", "_law_one", "_law_other_here", "_law_exchanges", "_law_draws_here", "_law_kind", "_law_bits", "_law_fates", "_law_told", "_law_due", "_law_end"]
abbrev P_law : List Str := ["_law_script"]
theorem sc_law : FnScope N_law P_law (defScope s_law) := ⟨rfl, rfl, rfl, by decide +kernel, rfl, by decide +kernel, by decide +kernel⟩
section
variable {P : Program} {w : World} {K : PySem.W.Frag} {mg : Str → Option Value} {base : Heap} {f C CB CE CF CH : Addr} {fd : FuncData}
def spLaw (K : PySem.W.Frag) : Sp := fun vs H Q _ => ∃ (s : Addr) (ns : List Int), vs = [.ref s] ∧ SqL K H s (ns.map V.int) ∧ ns.length ≤ 63 ∧ ∀ H', Q (.bl true) H'
theorem ok_law (F : FnP K "law" s_law f fd) (m_int : mg "int" = none) (c_cell : Cal P w K mg base 1 "_law_cell" (spCell K)) (c_draws : Cal P w K mg base 1 "_law_draws" spDraws) (c_take : Cal P w K mg base 1 "_law_take" (spTake K)) (c_exchange : Cal P w K mg base 2 "_law_exchange" (spLex K)) (c_other : Cal P w K mg base 3 "_law_other" (spOther K)) (c_wrong_bit : Cal P w K mg base 1 "_law_wrong_bit" spWB) (c_spoilt : Cal P w K mg base 2 "_law_spoilt" (spSpoilt K)) (c_wrong_end : Cal P w K mg base 1 "_law_wrong_end" spWE) (c_is_number : Cal P w K mg base 1 "_law_is_number" spNum) (c_is_exchange : Cal P w K mg base 3 "_law_is_exchange" (spIsE C)) (c_refusal : Cal P w K mg base 6 "_law_refusal" spRef) (c_due_refusal : Cal P w K mg base 1 "_law_due_refusal" spDue) (c_end_refused : Cal P w K mg base 6 "_law_end_refused" (spEndR C)) (c_all_seen : Cal P w K mg base 6 "_law_all_seen" (spAll C)) (k_Exchange : MakX P w K mg base 4 "Exchange" C (spEx1 C CB CF)) (e_Exchange : Eqo P w K mg base 1 C (spEq1 C)) : FnOk P w K mg base CX0 7 f fd P_law (spLaw K) := by
  refine F.ok sc_law (fun vs H Q E h => ?_) (fun cdv A outer s H vs Q E hr h => ?_)
  · obtain ⟨s, ns, rfl, _⟩ := h
    rfl
  · obtain ⟨s, ns, rfl, hS, ls, q⟩ := h
    refine ⟨_, PSs.nox (pss_cons (ps_set (i := 1) sc_law.nd rfl (by first | exact .inl rfl | exact .inr rfl) (pe_lst (pa_cons pe_int pa_nil)))
      (pss_cons (ps_set (i := 2) sc_law.nd rfl (by first | exact .inl rfl | exact .inr rfl) (pe_cl c_exchange hr (by decide) (by rfl) (pa_cons (pe_cl c_draws hr (by decide) (by rfl) (pa_cons (pe_cl c_cell hr (by decide) (by rfl) (pa_cons (pv 0) (pa_cons pe_int pa_nil))) (pa_cons pe_int pa_nil))) (pa_cons (pv 1) (pa_cons pe_int pa_nil)))))
      (pss_cons (ps_set (i := 1) sc_law.nd rfl (by first | exact .inl rfl | exact .inr rfl) (pe_lst (pa_cons pe_int pa_nil)))
      (pss_cons (ps_set (i := 3) sc_law.nd rfl (by first | exact .inl rfl | exact .inr rfl) (pe_cl c_other hr (by decide) (by rfl) (pa_cons (pv 2) (pa_cons (pe_cl c_draws hr (by decide) (by rfl) (pa_cons (pe_cl c_cell hr (by decide) (by rfl) (pa_cons (pv 0) (pa_cons pe_int pa_nil))) (pa_cons pe_int pa_nil))) (pa_cons (pv 1) pa_nil)))))
      (pss_cons (ps_set (i := 4) sc_law.nd rfl (by first | exact .inl rfl | exact .inr rfl) (pe_lst (pa_cons (pe_mkE k_Exchange (fun _ => passS0) hr (by decide) (by rfl) (pa_cons (pe_ix ix_tup (pv 2) pe_int (fun _ _ => rfl)) (pa_cons (pe_ix ix_tup (pv 2) pe_int (fun _ _ => rfl)) (pa_cons (pe_ix ix_tup (pv 2) pe_int (fun _ _ => rfl)) pa_nil)))) (pa_cons (pe_mkE k_Exchange (fun _ => passS0) hr (by decide) (by rfl) (pa_cons (pe_ix ix_tup (pv 3) pe_int (fun _ _ => rfl)) (pa_cons (pe_ix ix_tup (pv 3) pe_int (fun _ _ => rfl)) (pa_cons (pe_ix ix_tup (pv 3) pe_int (fun _ _ => rfl)) pa_nil)))) pa_nil))))
      (pss_cons (ps_if (PW.pt (pw_or (pt_not (pt_val (pe_cl c_is_exchange hr (by decide) (by rfl) (pa_cons (pe_ix ix_list (pv 4) pe_int (fun _ _ => rfl)) (pa_cons (pv 2) pa_nil))))) (pw_or1 (pt_not (pt_val (pe_cl c_is_exchange hr (by decide) (by rfl) (pa_cons (pe_ix ix_list (pv 4) pe_int (fun _ _ => rfl)) (pa_cons (pv 3) pa_nil)))))))) (pss_one (ps_ret pe_bl)) pss_nil)
      (pss_cons (ps_if (PW.pt (pw_or (pt_cmpR op_ne (pe_cmpR (op_own e_Exchange hr (by decide)) (pe_ix ix_list (pv 4) pe_int (fun _ _ => rfl)) (pe_ix ix_list (pv 4) pe_int (fun _ _ => rfl)) (nomark _)) (pe_cmpR (op_eqD hr.units) (pv 2) (pv 3) (nomark _)) (nomark _)) (pw_or1 (pt_cmpR op_ne (pe_cmpR (op_own e_Exchange hr (by decide)) (pe_ix ix_list (pv 4) pe_int (fun _ _ => rfl)) (pe_ix ix_list (pv 4) pe_int (fun _ _ => rfl)) (nomark _)) (pe_cmpR (op_eqD hr.units) (pv 2) (pv 3) (nomark _)) (nomark _))))) (pss_one (ps_ret pe_bl)) pss_nil)
      (pss_cons (ps_if (PW.pt (pw_or (pt_not (pt_cmpR (op_own e_Exchange hr (by decide)) (pe_ix ix_list (pv 4) pe_int (fun _ _ => rfl)) (pe_mkE k_Exchange (fun _ => passS0) hr (by decide) (by rfl) (pa_cons (pe_ix ix_tup (pv 2) pe_int (fun _ _ => rfl)) (pa_cons (pe_ix ix_tup (pv 2) pe_int (fun _ _ => rfl)) (pa_cons (pe_ix ix_tup (pv 2) pe_int (fun _ _ => rfl)) pa_nil)))) (nomark _))) (pw_or1 (pt_not (pt_val (pe_cl c_all_seen hr (by decide) (by rfl) (pa_cons (pv 2) (pa_cons (pv 3) (pa_cons (pv 4) pa_nil))))))))) (pss_one (ps_ret pe_bl)) pss_nil)
      (pss_cons (ps_set (i := 5) sc_law.nd rfl (by first | exact .inl rfl | exact .inr rfl) (pe_cl c_draws hr (by decide) (by rfl) (pa_cons (pe_cl c_cell hr (by decide) (by rfl) (pa_cons (pv 0) (pa_cons pe_int pa_nil))) (pa_cons pe_int pa_nil))))
      (pss_cons (ps_set (i := 1) sc_law.nd rfl (by first | exact .inl rfl | exact .inr rfl) (pe_lst (pa_cons pe_int pa_nil)))
      (pss_cons (ps_set (i := 6) sc_law.nd rfl (by first | exact .inl rfl | exact .inr rfl) (pe_cl c_take hr (by decide) (by rfl) (pa_cons (pv 5) (pa_cons (pv 1) pa_nil))))
      (pss_cons (ps_set (i := 7) sc_law.nd rfl (by first | exact .inl rfl | exact .inr rfl) (pe_lst (pa_cons (pe_ix ix_tup (pv 2) pe_int (fun _ _ => rfl)) (pa_cons (pe_ix ix_tup (pv 3) pe_int (fun _ _ => rfl)) pa_nil))))
      (pss_cut (ps_if (PW.pt (pw_or (pt_cmpR op_eq (pe_op op_mod (pe_callTy call_int1 (by rfl) m_int (by decide +kernel) (pa_cons (pv 6) pa_nil)) pe_int) pe_int (nomark _)) (pw_or1 (pt_cmpR op_eq (pe_op op_mod (pe_callTy call_int1 (by rfl) m_int (by decide +kernel) (pa_cons (pv 6) pa_nil)) pe_int) pe_int (nomark _))))) (pss_one (ps_asg (pe_cl c_wrong_bit hr (by decide) (by rfl) (pa_cons (pe_cl c_take hr (by decide) (by rfl) (pa_cons (pv 5) (pa_cons (pv 1) pa_nil))) pa_nil)) (pg_sub (pv 7) pe_int set_list))) pss_nil)
      (pss_cut (ps_if (PW.pt (pw_or (pt_cmpR op_eq (pe_op op_mod (pe_callTy call_int1 (by rfl) m_int (by decide +kernel) (pa_cons (pv 6) pa_nil)) pe_int) pe_int (nomark _)) (pw_or1 (pt_cmpR op_eq (pe_op op_mod (pe_callTy call_int1 (by rfl) m_int (by decide +kernel) (pa_cons (pv 6) pa_nil)) pe_int) pe_int (nomark _))))) (pss_one (ps_asg (pe_cl c_wrong_bit hr (by decide) (by rfl) (pa_cons (pe_cl c_take hr (by decide) (by rfl) (pa_cons (pv 5) (pa_cons (pv 1) pa_nil))) pa_nil)) (pg_sub (pv 7) pe_int set_list))) pss_nil)
      (pss_cons (ps_set (i := 8) sc_law.nd rfl (by first | exact .inl rfl | exact .inr rfl) (pe_ix ix_tup (pv 2) pe_int (fun _ _ => rfl)))
      (pss_cut (ps_if (pt_cmpR op_gt (pe_op op_mod (pe_callTy call_int1 (by rfl) m_int (by decide +kernel) (pa_cons (pe_op op_fdiv (pv 6) pe_int) pa_nil)) pe_int) pe_int (nomark _)) (pss_one (ps_set (i := 8) sc_law.nd rfl (by first | exact .inl rfl | exact .inr rfl) (pe_cl c_spoilt hr (by decide) (by rfl) (pa_cons (pv 8) (pa_cons (pv 5) (pa_cons (pv 1) pa_nil)))))) pss_nil)
      (pss_cons (ps_set (i := 9) sc_law.nd rfl (by first | exact .inl rfl | exact .inr rfl) (pe_cl c_refusal hr (by decide) (by rfl) (pa_cons (pe_ix ix_list (pv 7) pe_int (fun _ _ => rfl)) (pa_cons (pe_ix ix_list (pv 7) pe_int (fun _ _ => rfl)) (pa_cons (pv 8) pa_nil)))))
      (pss_cons (ps_set (i := 10) sc_law.nd rfl (by first | exact .inl rfl | exact .inr rfl) (pe_cl c_due_refusal hr (by decide) (by rfl) (pa_cons (pe_ix ix_list (pv 7) pe_int (fun _ _ => rfl)) (pa_cons (pe_ix ix_list (pv 7) pe_int (fun _ _ => rfl)) (pa_cons (pv 8) pa_nil)))))
      (pss_cons (ps_if (PW.pt (pw_or (pt_cmpR op_ne (pe_ix ix_tup (pv 9) pe_int (fun _ _ => rfl)) (pe_ix ix_tup (pv 10) pe_int (fun _ _ => rfl)) (nomark _)) (pw_or (pt_not (pt_val (pe_cl c_is_number hr (by decide) (by rfl) (pa_cons (pe_ix ix_tup (pv 9) pe_int (fun _ _ => rfl)) (pa_cons (pe_ix ix_tup (pv 10) pe_int (fun _ _ => rfl)) pa_nil))))) (pw_or1 (pt_not (pt_val (pe_ix ix_tup (pv 9) pe_int (fun _ _ => rfl)))))))) (pss_one (ps_ret pe_bl)) pss_nil)
      (pss_cons (ps_set (i := 11) sc_law.nd rfl (by first | exact .inl rfl | exact .inr rfl) (pe_cl c_wrong_end hr (by decide) (by rfl) (pa_cons (pe_cl c_take hr (by decide) (by rfl) (pa_cons (pv 5) (pa_cons (pv 1) pa_nil))) pa_nil)))
      (pss_cons (ps_if (pt_not (pt_val (pe_cl c_end_refused hr (by decide) (by rfl) (pa_cons (pe_ix ix_list (pv 4) pe_int (fun _ _ => rfl)) (pa_cons (pe_ix ix_list (pv 4) pe_int (fun _ _ => rfl)) (pa_cons (pv 11) (pa_cons (pe_op op_mod (pe_callTy call_int1 (by rfl) m_int (by decide +kernel) (pa_cons (pe_cl c_take hr (by decide) (by rfl) (pa_cons (pv 5) (pa_cons (pv 1) pa_nil))) pa_nil)) pe_int) pa_nil))))))) (pss_one (ps_ret pe_bl)) pss_nil)
      (pss_one (ps_ret (pe_and (pe_cl c_is_exchange hr (by decide) (by rfl) (pa_cons (pe_ix ix_list (pv 4) pe_int (fun _ _ => rfl)) (pa_cons (pv 2) pa_nil))) (pe_one (pe_cl c_all_seen hr (by decide) (by rfl) (pa_cons (pv 2) (pa_cons (pv 3) (pa_cons (pv 4) pa_nil))))))))))))))))))))))))))))), ?_⟩
    walk_at "go"
    intro p0 np0
    generalize eH_ : upd H p0 _ = H1
    have s1 : Same H H1 := by rw [← eH_]; exact same_new np0
    have ep0 : H1 p0 = some (.lst [.int 0]) := by rw [← eH_]; exact upd_same
    clear eH_
    walk_at "go"
    refine ⟨s, ns, 0, rfl, s1.seq hS, ?_⟩
    walk_at "go"
    intro d0 ds0 nd0 dr0
    have sd0 := same_new (o := .lst (ds0.map V.int)) nd0
    have ed0 : (upd H1 d0 (.lst (ds0.map V.int))) d0 = some (.lst (ds0.map V.int)) := upd_same
    have pd0 : d0 ≠ p0 := fun z => by rw [z, ep0] at nd0; cases nd0
    have hT0 : Tk K d0 p0 ds0 64 (upd H1 d0 (.lst (ds0.map V.int))) (upd H1 d0 (.lst (ds0.map V.int))) := ⟨ed0, dr0, pd0, Z.Same.sb (Same.refl _), 0, sd0 _ _ ep0⟩
    have np0H := np0
    have nd0H := none_of s1 nd0
    have s02 := s1.trans sd0
    generalize upd H1 d0 (.lst (ds0.map V.int)) = H2 at sd0 ed0 hT0 s02
    walk_at "go"
    refine ⟨d0, p0, 64, ds0, 60, rfl, hT0, by decide, by decide, fun o a b l H3 hT1 no eo dr => ?_⟩
    have s03 : Same H H3 := fun c u e => hT1.sb c u (fun z => by rw [z, np0H] at e; cases e) (s02 c u e)
    clear hT0 hT1 sd0 ed0 s02 s1 ep0
    walk_at "go"
    intro p1 np1
    generalize eH_ : upd H3 p1 _ = H4
    have s4 : Same H3 H4 := by rw [← eH_]; exact same_new np1
    have ep1 : H4 p1 = some (.lst [.int 0]) := by rw [← eH_]; exact upd_same
    clear eH_
    walk_at "go"
    refine ⟨s, ns, 1, rfl, (s03.trans s4).seq hS, ?_⟩
    walk_at "go"
    intro d1 ds1 nd1 dr1
    have sd1 := same_new (o := .lst (ds1.map V.int)) nd1
    have ed1 : (upd H4 d1 (.lst (ds1.map V.int))) d1 = some (.lst (ds1.map V.int)) := upd_same
    have pd1 : d1 ≠ p1 := fun z => by rw [z, ep1] at nd1; cases nd1
    have hT1 : Tk K d1 p1 ds1 68 (upd H4 d1 (.lst (ds1.map V.int))) (upd H4 d1 (.lst (ds1.map V.int))) := ⟨ed1, dr1, pd1, Z.Same.sb (Same.refl _), 0, sd1 _ _ ep1⟩
    have op1 : o ≠ p1 := fun z => by rw [z, np1] at eo; cases eo
    have np1H := none_of s03 np1
    have s35 := s4.trans sd1
    generalize upd H4 d1 (.lst (ds1.map V.int)) = H5 at sd1 ed1 hT1 s35
    have eo5 := s35 _ _ eo
    have s05 := s03.trans s35
    walk_at "go"
    refine ⟨o, d1, p1, 68, ds1, a, b, l, rfl, eo5, dr, hT1, fun o' a' b' l' H6 hT2 eo' dr' => ?_⟩
    have s06 : Same H H6 := fun c u e => hT2.sb c u (fun z => by rw [z, np1H] at e; cases e) (s05 c u e)
    have eo6 := hT2.up eo5 op1
    clear hT1 hT2 sd1 ed1 s4 ep1 s35 s05 s03 eo5 eo
    have ll : l.length ≤ 60 := dr.2.2.2
    have ll' : l'.length ≤ 60 := dr'.2.2.2
    walk_at "go"
    refine ⟨o, _, _, _, rfl, rfl, SqT.of eo6, at_0, ?_⟩
    walk_at "go"
    refine ⟨o, _, _, _, rfl, rfl, SqT.of eo6, at_1, ?_⟩
    walk_at "go"
    refine ⟨o, _, _, _, rfl, rfl, SqT.of eo6, at_2, ?_⟩
    walk_at "go"
    intro n dx n1 n2 n3
    have sa : Same H6 (upd (upd H6 dx (.own n)) n (.ins C dx [])) := Z.Same.mut (same_new n2) n1
    refine ⟨n, dx, a, b, l, rfl, upd_same, by omega, fun _ H7 sb en => ?_, fun r hr => by rw [bad_ok dr.1 dr.2.1 dr.2.2.1] at hr; cases hr⟩
    have s7 : Same H6 H7 := fun c u e => sb c u (fun z => by rw [z, n1] at e; cases e) (sa c u e)
    clear sa sb
    have eo7 := s7 _ _ eo6
    have eo7' := s7 _ _ eo'
    walk_at "go"
    refine ⟨o', _, _, _, rfl, rfl, SqT.of eo7', at_0, ?_⟩
    walk_at "go"
    refine ⟨o', _, _, _, rfl, rfl, SqT.of eo7', at_1, ?_⟩
    walk_at "go"
    refine ⟨o', _, _, _, rfl, rfl, SqT.of eo7', at_2, ?_⟩
    walk_at "go"
    intro m dy n1 n2 n3
    have sa : Same H7 (upd (upd H7 dy (.own m)) m (.ins C dy [])) := Z.Same.mut (same_new n2) n1
    refine ⟨m, dy, a', b', l', rfl, upd_same, by omega, fun _ H8 sb em => ?_, fun r hr => by rw [bad_ok dr'.1 dr'.2.1 dr'.2.2.1] at hr; cases hr⟩
    have s8 : Same H7 H8 := fun c u e => sb c u (fun z => by rw [z, n1] at e; cases e) (sa c u e)
    clear sa sb
    have en8 := s8 _ _ en
    walk_at "go"
    intro xs nxs
    generalize eH_ : upd H8 xs _ = H9
    have s9 : Same H8 H9 := by rw [← eH_]; exact same_new nxs
    have exs : H9 xs = some (.lst [.ref n, .ref m]) := by rw [← eH_]; exact upd_same
    clear eH_
    have s89 := s8.trans s9
    have en9 := s9 _ _ en8
    have em9 := s9 _ _ em
    have eo9 := s89 _ _ eo7
    have eo9' := s89 _ _ eo7'
    have s09 := s06.trans (s7.trans s89)
    clear s06 s7 s8 s9 s89 eo6 eo7 eo7' eo' en en8 em
    dsimp only [List.set]
    walk_at "go"
    refine ⟨xs, _, _, _, rfl, rfl, SqL.of exs, at_0, ?_⟩
    walk_at "go"
    refine ⟨n, o, a, b, l, rfl, ⟨dx, en9⟩, eo9, by omega, ?_⟩
    walk_at "go"
    refine ⟨xs, _, _, _, rfl, rfl, SqL.of exs, at_1, ?_⟩
    walk_at "go"
    refine ⟨m, o', a', b', l', rfl, ⟨dy, em9⟩, eo9', by omega, ?_⟩
    walk_at "go"
    refine ⟨xs, _, _, _, rfl, rfl, SqL.of exs, at_0, ?_⟩
    walk_at "go"
    refine ⟨xs, _, _, _, rfl, rfl, SqL.of exs, at_1, ?_⟩
    walk_at "go"
    refine ⟨n, m, dx, dy, _, _, rfl, rfl, en9, em9, n, m, a, b, l, a', b', l', rfl, ⟨dx, en9⟩, ⟨dy, em9⟩, _, rfl, ?_⟩
    walk_at "go"
    refine ⟨_, _, dp_ex eo9, dp_ex eo9', shaped_ex dr.2.2.1, shaped_ex dr'.2.2.1, ?_⟩
    rw [eqv_ex]
    walk_at "go"
    refine ite2 (fun h => absurd h (by simp)) (fun _ => ?_)
    walk_at "go"
    refine ⟨xs, _, _, _, rfl, rfl, SqL.of exs, at_1, ?_⟩
    walk_at "go"
    refine ⟨xs, _, _, _, rfl, rfl, SqL.of exs, at_0, ?_⟩
    walk_at "go"
    refine ⟨m, n, dy, dx, _, _, rfl, rfl, em9, en9, m, n, a', b', l', a, b, l, rfl, ⟨dy, em9⟩, ⟨dx, en9⟩, _, rfl, ?_⟩
    rw [show decide (a' = a ∧ b' = b ∧ l' = l) = decide (a = a' ∧ b = b' ∧ l = l') from decide_eq_decide.mpr ⟨fun z => ⟨z.1.symm, z.2.1.symm, z.2.2.symm⟩, fun z => ⟨z.1.symm, z.2.1.symm, z.2.2.symm⟩⟩]
    walk_at "go"
    refine ⟨_, _, dp_ex eo9, dp_ex eo9', shaped_ex dr.2.2.1, shaped_ex dr'.2.2.1, ?_⟩
    rw [eqv_ex]
    walk_at "go"
    refine ite2 (fun h => absurd h (by simp)) (fun _ => ?_)
    walk_at "go"
    refine ⟨xs, _, _, _, rfl, rfl, SqL.of exs, at_0, ?_⟩
    walk_at "go"
    refine ⟨o, _, _, _, rfl, rfl, SqT.of eo9, at_0, ?_⟩
    walk_at "go"
    refine ⟨o, _, _, _, rfl, rfl, SqT.of eo9, at_1, ?_⟩
    walk_at "go"
    refine ⟨o, _, _, _, rfl, rfl, SqT.of eo9, at_2, ?_⟩
    walk_at "go"
    intro n3 dx3 k1 k2 k3
    have sa : Same H9 (upd (upd H9 dx3 (.own n3)) n3 (.ins C dx3 [])) := Z.Same.mut (same_new k2) k1
    refine ⟨n3, dx3, a, b, l, rfl, upd_same, by omega, fun _ H10 sb en3 => ?_, fun r hr => by rw [bad_ok dr.1 dr.2.1 dr.2.2.1] at hr; cases hr⟩
    have s10 : Same H9 H10 := fun c u e => sb c u (fun z => by rw [z, k1] at e; cases e) (sa c u e)
    clear sa sb
    have en10 := s10 _ _ en9
    walk_at "go"
    refine ⟨n, n3, dx, dx3, _, _, rfl, rfl, en10, en3, n, n3, a, b, l, a, b, l, rfl, ⟨dx, en10⟩, ⟨dx3, en3⟩, _, rfl, ?_⟩
    rw [show decide (a = a ∧ b = b ∧ l = l) = true by simp]
    walk_at "go"
    refine ⟨o, o', xs, n, m, a, b, l, a', b', l', rfl, s10 _ _ eo9, s10 _ _ eo9', s10 _ _ exs, ⟨dx, en10⟩, ⟨dy, s10 _ _ em9⟩, dr, dr', fun H11 s11 => ?_⟩
    have s911 := s10.trans s11
    have en11 := s911 _ _ en9
    have em11 := s911 _ _ em9
    have eo11 := s911 _ _ eo9
    have eo11' := s911 _ _ eo9'
    have ex11 := s911 _ _ exs
    have s011 := s09.trans s911
    clear s911 s10 s11 en9 em9 eo9 eo9' exs s09 en10 en3
    dsimp only [List.set]
    walk_at "go"
    refine ⟨s, ns, 2, rfl, s011.seq hS, ?_⟩
    walk_at "go"
    intro d2 ds2 nd2 dr2
    have sd2 := same_new (o := .lst (ds2.map V.int)) nd2
    have ed2 : (upd H11 d2 (.lst (ds2.map V.int))) d2 = some (.lst (ds2.map V.int)) := upd_same
    generalize upd H11 d2 (.lst (ds2.map V.int)) = H12 at sd2 ed2
    walk_at "go"
    intro p2 np2
    generalize eH_ : upd H12 p2 _ = H13
    have s13 : Same H12 H13 := by rw [← eH_]; exact same_new np2
    have ep2 : H13 p2 = some (.lst [.int 0]) := by rw [← eH_]; exact upd_same
    clear eH_
    have ed3 := s13 _ _ ed2
    have pd2 : d2 ≠ p2 := ne_of_none ed2 np2
    have np2' := none_of sd2 np2
    have s113 := sd2.trans s13
    walk_at "go"
    refine ⟨d2, p2, 12, 0, ds2, rfl, SqL.of ed3, dr2, ep2, pd2, fun r r0 r1 => ?_⟩
    have ed4 : (upd H13 p2 (.lst [.int ((0 + 1 : Nat) : Int)])) d2 = some (.lst (ds2.map V.int)) := by rw [upd_ne pd2]; exact ed3
    have ep4 : (upd H13 p2 (.lst [.int ((0 + 1 : Nat) : Int)])) p2 = some (.lst [.int ((0 + 1 : Nat) : Int)]) := upd_same
    have s114 : Same H11 (upd H13 p2 (.lst [.int ((0 + 1 : Nat) : Int)])) := Z.Same.mut s113 np2'
    generalize upd H13 p2 (.lst [.int ((0 + 1 : Nat) : Int)]) = H14 at ed4 ep4 s114
    have eo14 := s114 _ _ eo11
    have eo14' := s114 _ _ eo11'
    clear sd2 ed2 s13 ep2 ed3 s113
    dsimp only [List.set]
    walk_at "go"
    refine ⟨o, _, _, _, rfl, rfl, SqT.of eo14, at_0, ?_⟩
    walk_at "go"
    refine ⟨o', _, _, _, rfl, rfl, SqT.of eo14', at_1, ?_⟩
    walk_at "go"
    intro W nW
    generalize eH_ : upd H14 W _ = H15
    have s15 : Same H14 H15 := by rw [← eH_]; exact same_new nW
    have eW : H15 W = some (.lst [.int a, .int b']) := by rw [← eH_]; exact upd_same
    clear eH_
    have nnW := nW
    have nW := none_of s114 nW
    have Wd : W ≠ d2 := fun z => by rw [z] at nnW; rw [nnW] at ed4; cases ed4
    have Wp : W ≠ p2 := fun z => by rw [z] at nnW; rw [nnW] at ep4; cases ep4
    walk_at "go"
    refine ⟨fun σ J => Same H11 J ∧ J d2 = some (.lst (ds2.map V.int)) ∧ (∃ m : Nat, J p2 = some (.lst [.int (m : Int)])) ∧ ∃ x : Int, J W = some (.lst [.int x, .int b']) ∧ σ = [some (.ref s), some (.ref p2), some (.ref o), some (.ref o'), some (.ref xs), some (.ref d2), some (.int r), some (.ref W), none, none, none, none], ?_, ?_⟩
    have s1115 := s114.trans s15
    have d15 := s15 _ _ ed4
    have p15 := s15 _ _ ep4
    · walk_at "go"
      refine ite2 (fun e => ?_) (fun e => ?_)
      · walk_at "go"
        dsimp only [List.set]
        walk_at "go"
        refine ⟨d2, p2, 12, (0 + 1), ds2, rfl, SqL.of d15, dr2, p15, pd2, fun r2 r20 r21 => ?_⟩
        have t1 : Same H11 (upd H15 p2 (.lst [.int (((0 + 1) + 1 : Nat) : Int)])) := Z.Same.mut s1115 np2'
        have t2 : (upd H15 p2 (.lst [.int (((0 + 1) + 1 : Nat) : Int)])) d2 = some (.lst (ds2.map V.int)) := by rw [upd_ne pd2]; exact d15
        have t3 : (upd H15 p2 (.lst [.int (((0 + 1) + 1 : Nat) : Int)])) p2 = some (.lst [.int (((0 + 1) + 1 : Nat) : Int)]) := upd_same
        have t4 := (upd_ne (H := H15) (o := .lst [.int (((0 + 1) + 1 : Nat) : Int)]) Wp).trans eW
        generalize upd H15 p2 (.lst [.int (((0 + 1) + 1 : Nat) : Int)]) = J2 at t1 t2 t3 t4
        walk_at "go"
        intro x2 hx2
        walk_at "go"
        exact ⟨Z.Same.mut t1 nW, by rw [upd_ne Wd.symm]; exact t2, ⟨_, by rw [upd_ne Wp.symm]; exact t3⟩, _, upd_same, rfl⟩
      · walk_at "go"
        refine ite2 (fun e => ?_) (fun e => ?_)
        · walk_at "go"
          dsimp only [List.set]
          walk_at "go"
          refine ⟨d2, p2, 12, (0 + 1), ds2, rfl, SqL.of d15, dr2, p15, pd2, fun r2 r20 r21 => ?_⟩
          have t1 : Same H11 (upd H15 p2 (.lst [.int (((0 + 1) + 1 : Nat) : Int)])) := Z.Same.mut s1115 np2'
          have t2 : (upd H15 p2 (.lst [.int (((0 + 1) + 1 : Nat) : Int)])) d2 = some (.lst (ds2.map V.int)) := by rw [upd_ne pd2]; exact d15
          have t3 : (upd H15 p2 (.lst [.int (((0 + 1) + 1 : Nat) : Int)])) p2 = some (.lst [.int (((0 + 1) + 1 : Nat) : Int)]) := upd_same
          have t4 := (upd_ne (H := H15) (o := .lst [.int (((0 + 1) + 1 : Nat) : Int)]) Wp).trans eW
          generalize upd H15 p2 (.lst [.int (((0 + 1) + 1 : Nat) : Int)]) = J2 at t1 t2 t3 t4
          walk_at "go"
          intro x2 hx2
          walk_at "go"
          exact ⟨Z.Same.mut t1 nW, by rw [upd_ne Wd.symm]; exact t2, ⟨_, by rw [upd_ne Wp.symm]; exact t3⟩, _, upd_same, rfl⟩
        · exact ⟨s1115, d15, ⟨_, p15⟩, _, eW, rfl⟩
    rintro σ J ⟨sJ, dJ, ⟨mJ, pJ⟩, x, wJ, rfl⟩
    clear eW s15 s114 ed4 ep4
    walk_at "go"
    refine ⟨fun σ J1 => Same H11 J1 ∧ J1 d2 = some (.lst (ds2.map V.int)) ∧ (∃ m : Nat, J1 p2 = some (.lst [.int (m : Int)])) ∧ ∃ x y : Int, J1 W = some (.lst [.int x, .int y]) ∧ σ = [some (.ref s), some (.ref p2), some (.ref o), some (.ref o'), some (.ref xs), some (.ref d2), some (.int r), some (.ref W), none, none, none, none], ?_, ?_⟩
    · walk_at "go"
      refine ite2 (fun e => ?_) (fun e => ?_)
      · walk_at "go"
        dsimp only [List.set]
        walk_at "go"
        refine ⟨d2, p2, 12, mJ, ds2, rfl, SqL.of dJ, dr2, pJ, pd2, fun r2 r20 r21 => ?_⟩
        have t1 : Same H11 (upd J p2 (.lst [.int ((mJ + 1 : Nat) : Int)])) := Z.Same.mut sJ np2'
        have t2 : (upd J p2 (.lst [.int ((mJ + 1 : Nat) : Int)])) d2 = some (.lst (ds2.map V.int)) := by rw [upd_ne pd2]; exact dJ
        have t3 : (upd J p2 (.lst [.int ((mJ + 1 : Nat) : Int)])) p2 = some (.lst [.int ((mJ + 1 : Nat) : Int)]) := upd_same
        have t4 := (upd_ne (H := J) (o := .lst [.int ((mJ + 1 : Nat) : Int)]) Wp).trans wJ
        generalize upd J p2 (.lst [.int ((mJ + 1 : Nat) : Int)]) = J2 at t1 t2 t3 t4
        walk_at "go"
        intro x2 hx2
        walk_at "go"
        exact ⟨Z.Same.mut t1 nW, by rw [upd_ne Wd.symm]; exact t2, ⟨_, by rw [upd_ne Wp.symm]; exact t3⟩, _, _, upd_same, rfl⟩
      · walk_at "go"
        refine ite2 (fun e => ?_) (fun e => ?_)
        · walk_at "go"
          dsimp only [List.set]
          walk_at "go"
          refine ⟨d2, p2, 12, mJ, ds2, rfl, SqL.of dJ, dr2, pJ, pd2, fun r2 r20 r21 => ?_⟩
          have t1 : Same H11 (upd J p2 (.lst [.int ((mJ + 1 : Nat) : Int)])) := Z.Same.mut sJ np2'
          have t2 : (upd J p2 (.lst [.int ((mJ + 1 : Nat) : Int)])) d2 = some (.lst (ds2.map V.int)) := by rw [upd_ne pd2]; exact dJ
          have t3 : (upd J p2 (.lst [.int ((mJ + 1 : Nat) : Int)])) p2 = some (.lst [.int ((mJ + 1 : Nat) : Int)]) := upd_same
          have t4 := (upd_ne (H := J) (o := .lst [.int ((mJ + 1 : Nat) : Int)]) Wp).trans wJ
          generalize upd J p2 (.lst [.int ((mJ + 1 : Nat) : Int)]) = J2 at t1 t2 t3 t4
          walk_at "go"
          intro x2 hx2
          walk_at "go"
          exact ⟨Z.Same.mut t1 nW, by rw [upd_ne Wd.symm]; exact t2, ⟨_, by rw [upd_ne Wp.symm]; exact t3⟩, _, _, upd_same, rfl⟩
        · exact ⟨sJ, dJ, ⟨_, pJ⟩, _, _, wJ, rfl⟩
    clear sJ dJ pJ wJ
    rintro σ J ⟨sJ, dJ, ⟨mJ, pJ⟩, x, y, wJ, rfl⟩
    walk_at "go"
    refine ⟨o, _, _, _, rfl, rfl, SqT.of (sJ _ _ eo11), at_2, ?_⟩
    walk_at "go"
    refine ⟨fun σ J1 => Same H11 J1 ∧ J1 d2 = some (.lst (ds2.map V.int)) ∧ (∃ m : Nat, J1 p2 = some (.lst [.int (m : Int)])) ∧ J1 W = some (.lst [.int x, .int y]) ∧ ∃ l2 : List Nat, l2.length ≤ 60 ∧ σ = [some (.ref s), some (.ref p2), some (.ref o), some (.ref o'), some (.ref xs), some (.ref d2), some (.int r), some (.ref W), some (.str (S l2)), none, none, none], ?_, ?_⟩
    · walk_at "go"
      refine ite2 (fun e => ?_) (fun e => ?_)
      · dsimp only [List.set]
        walk_at "go"
        refine ⟨d2, p2, 12, ds2, l, rfl, ⟨dJ, dr2, pd2, Z.Same.sb (Same.refl _), _, pJ⟩, ll, fun l2 J2 hT2 hl2 => ?_⟩
        exact ⟨fun c u e => hT2.sb c u (fun z => by rw [z, np2'] at e; cases e) (sJ c u e), hT2.hA, hT2.pl, hT2.up wJ Wp, l2, hl2, rfl⟩
      · exact ⟨sJ, dJ, ⟨_, pJ⟩, wJ, l, ll, rfl⟩
    clear sJ dJ pJ wJ
    rintro σ J ⟨sJ, dJ, ⟨mJ, pJ⟩, wJ, l2, hl2, rfl⟩
    walk_at "go"
    refine ⟨W, _, _, _, rfl, rfl, SqL.of wJ, at_0, ?_⟩
    walk_at "go"
    refine ⟨W, _, _, _, rfl, rfl, SqL.of wJ, at_1, ?_⟩
    walk_at "go"
    refine ⟨x, y, l2, rfl, by omega, fun t1 J1 sJ1 et1 => ?_⟩
    have wJ1 := sJ1 _ _ wJ
    walk_at "go"
    refine ⟨W, _, _, _, rfl, rfl, SqL.of wJ1, at_0, ?_⟩
    walk_at "go"
    refine ⟨W, _, _, _, rfl, rfl, SqL.of wJ1, at_1, ?_⟩
    walk_at "go"
    refine ⟨x, y, l2, rfl, by omega, fun t2 J2 sJ2 et2 => ?_⟩
    have et1 := sJ2 _ _ et1
    have sJJ := sJ1.trans sJ2
    dsimp only [List.set]
    walk_at "go"
    refine ⟨t1, _, _, _, rfl, rfl, SqT.of et1, at_0, ?_⟩
    walk_at "go"
    refine ⟨t2, _, _, _, rfl, rfl, SqT.of et2, at_0, ?_⟩
    walk_at "go"
    refine ite2 (fun h => absurd h (by simp)) (fun _ => ?_)
    walk_at "go"
    refine ⟨t1, _, _, _, rfl, rfl, SqT.of et1, at_1, ?_⟩
    walk_at "go"
    refine ⟨t2, _, _, _, rfl, rfl, SqT.of et2, at_1, ?_⟩
    walk_at "go"
    refine ⟨t1, _, _, _, rfl, rfl, SqT.of et1, at_2, ?_⟩
    walk_at "go"
    have sA := sJ.trans sJJ
    have dA := sJJ _ _ dJ
    have pA := sJJ _ _ pJ
    clear sJ sJJ dJ pJ wJ wJ1 sJ1 sJ2 et1 et2
    refine ⟨d2, p2, 12, mJ, ds2, rfl, SqL.of dA, dr2, pA, pd2, fun u u0 u1 => ?_⟩
    have sB : Same H11 (upd J2 p2 (.lst [.int ((mJ + 1 : Nat) : Int)])) := Z.Same.mut sA np2'
    have dB : (upd J2 p2 (.lst [.int ((mJ + 1 : Nat) : Int)])) d2 = some (.lst (ds2.map V.int)) := by rw [upd_ne pd2]; exact dA
    have pB : (upd J2 p2 (.lst [.int ((mJ + 1 : Nat) : Int)])) p2 = some (.lst [.int ((mJ + 1 : Nat) : Int)]) := upd_same
    generalize upd J2 p2 (.lst [.int ((mJ + 1 : Nat) : Int)]) = J3 at sB dB pB
    walk_at "go"
    intro z J4 s4 hz
    have sC := sB.trans s4
    have dC := s4 _ _ dB
    have pC := s4 _ _ pB
    have xC := sC _ _ ex11
    walk_at "go"
    refine ⟨xs, _, _, _, rfl, rfl, SqL.of xC, at_0, ?_⟩
    walk_at "go"
    refine ⟨xs, _, _, _, rfl, rfl, SqL.of xC, at_1, ?_⟩
    walk_at "go"
    refine ⟨d2, p2, 12, (mJ + 1), ds2, rfl, SqL.of dC, dr2, pC, pd2, fun u2 u20 u21 => ?_⟩
    have sD : Same H11 (upd J4 p2 (.lst [.int (((mJ + 1) + 1 : Nat) : Int)])) := Z.Same.mut sC np2'
    have dD : (upd J4 p2 (.lst [.int (((mJ + 1) + 1 : Nat) : Int)])) d2 = some (.lst (ds2.map V.int)) := by rw [upd_ne pd2]; exact dC
    have pD : (upd J4 p2 (.lst [.int (((mJ + 1) + 1 : Nat) : Int)])) p2 = some (.lst [.int (((mJ + 1) + 1 : Nat) : Int)]) := upd_same
    generalize upd J4 p2 (.lst [.int (((mJ + 1) + 1 : Nat) : Int)]) = J5 at sD dD pD
    walk_at "go"
    refine ⟨n, m, z, u2 % 2, a, b, l, a', b', l', rfl, ⟨dx, sD _ _ en11⟩, ⟨dy, sD _ _ em11⟩, dr.2.2.1, dr'.2.2.1, by omega, by omega, hz, fun J6 s6 => ?_⟩
    have sE := sD.trans s6
    have xE := sE _ _ ex11
    walk_at "go"
    refine ⟨xs, _, _, _, rfl, rfl, SqL.of xE, at_0, ?_⟩
    walk_at "go"
    refine ⟨n, o, a, b, l, rfl, ⟨dx, sE _ _ en11⟩, sE _ _ eo11, by omega, ?_⟩
    walk_at "go"
    refine ⟨o, o', xs, n, m, a, b, l, a', b', l', rfl, sE _ _ eo11, sE _ _ eo11', xE, ⟨dx, sE _ _ en11⟩, ⟨dy, sE _ _ em11⟩, dr, dr', fun J7 s7 => ?_⟩
    exact q _
end
end Z
set_option pp.maxSteps 700
set_option Elab.async false
set_option linter.all false
set_option maxRecDepth 100000
set_option maxHeartbeats 4000000
set_option maxHeartbeats 0
namespace Z
open PySem PySem.Spec PyProof.Rows L2
/-- the module's tuple ("first", "second") -/
def endsB (K : PySem.W.Frag) (a : Addr) : Bool := match K.lookup a with
  | some ⟨.type t, _, .seq its _, _⟩ => decide (t = "tuple") && (match its.toList with
    | [.str x _, .str y _] => decide (x = "first") && decide (y = "second")
    | _ => false)
  | _ => false
theorem endsB_ok {K : PySem.W.Frag} {a : Addr} (h : endsB K a = true) : EndsA K a := by
  unfold endsB at h
  split at h
  · rename_i t d its n sl e
    obtain ⟨h1, h2⟩ := He.ba h
    have h1 := of_decide_eq_true h1
    split at h2
    · rename_i x tx y ty e2
      obtain ⟨h3, h4⟩ := He.ba h2
      have h3 := of_decide_eq_true h3
      have h4 := of_decide_eq_true h4
      subst h3 h4
      refine .inr ⟨_, its, n, e, by rw [h1], rfl, ?_, by rw [e2]; exact .cons ⟨tx, rfl⟩ (.cons ⟨ty, rfl⟩ .nil)⟩
      have : its.size = 2 := by rw [← Array.length_toList, e2]; rfl
      rw [this]
      decide
    · cases h2
  · cases h
theorem kb_alike {K : PySem.W.Frag} {f : Addr} {fd : FuncData} (F : FnP K "alike" s_alike f fd) : KBn K fd P_alike 2 ["to"] (fun us ws => us ++ ws) (fun vs zs => vs ++ zs) := by
  obtain ⟨oc, od, dV, kV, doc, pm, an, cdv, ct, osl, rfl, lk, hcd, hD, hK⟩ := F.ex
  rcases hD with ⟨_, rfl⟩ | ⟨e, _⟩
  · exact ⟨fun s us ws X l1 l2 => .of_eq (match us, l1, ws, l2 with | [_, _], _, [_], _ => rfl), fun r1 r2 => r1.append r2⟩
  · exact absurd rfl e
def d_check_fates : He.DefD := ⟨("check_fates", none), "check_fates", "check_fates", defArgs s_check_fates, defBody s_check_fates, defScope s_check_fates, [], []⟩
def d_check_end : He.DefD := ⟨("check_end", none), "check_end", "check_end", defArgs s_check_end, defBody s_check_end, defScope s_check_end, [], []⟩
def d_check_bit : He.DefD := ⟨("check_bit", none), "check_bit", "check_bit", defArgs s_check_bit, defBody s_check_bit, defScope s_check_bit, [], []⟩
def d_arrives : He.DefD := ⟨("arrives", none), "arrives", "arrives", defArgs s_arrives, defBody s_arrives, defScope s_arrives, [], []⟩
def d_Exchange___init__ : He.DefD := ⟨("Exchange", some "__init__"), "__init__", "Exchange.__init__", defArgs s_Exchange___init__, defBody s_Exchange___init__, defScope s_Exchange___init__, [], []⟩
def d_Exchange___len__ : He.DefD := ⟨("Exchange", some "__len__"), "__len__", "Exchange.__len__", defArgs s_Exchange___len__, defBody s_Exchange___len__, defScope s_Exchange___len__, [], []⟩
def d_Exchange___eq__ : He.DefD := ⟨("Exchange", some "__eq__"), "__eq__", "Exchange.__eq__", defArgs s_Exchange___eq__, defBody s_Exchange___eq__, defScope s_Exchange___eq__, [], []⟩
def d_Exchange_seen : He.DefD := ⟨("Exchange", some "seen"), "seen", "Exchange.seen", defArgs s_Exchange_seen, defBody s_Exchange_seen, defScope s_Exchange_seen, [], []⟩
def d_alike : He.DefD := ⟨("alike", none), "alike", "alike", defArgs s_alike, defBody s_alike, defScope s_alike, [], []⟩
def d_cell : He.DefD := ⟨("_law_cell", none), "_law_cell", "_law_cell", defArgs s_cell, defBody s_cell, defScope s_cell, [], []⟩
def d_draws : He.DefD := ⟨("_law_draws", none), "_law_draws", "_law_draws", defArgs s_draws, defBody s_draws, defScope s_draws, [], []⟩
def d_take : He.DefD := ⟨("_law_take", none), "_law_take", "_law_take", defArgs s_take, defBody s_take, defScope s_take, [], []⟩
def d_exchange : He.DefD := ⟨("_law_exchange", none), "_law_exchange", "_law_exchange", defArgs s_exchange, defBody s_exchange, defScope s_exchange, [], []⟩
def d_other : He.DefD := ⟨("_law_other", none), "_law_other", "_law_other", defArgs s_other, defBody s_other, defScope s_other, [], []⟩
def d_wrong_bit : He.DefD := ⟨("_law_wrong_bit", none), "_law_wrong_bit", "_law_wrong_bit", defArgs s_wrong_bit, defBody s_wrong_bit, defScope s_wrong_bit, [], []⟩
def d_spoilt : He.DefD := ⟨("_law_spoilt", none), "_law_spoilt", "_law_spoilt", defArgs s_spoilt, defBody s_spoilt, defScope s_spoilt, [], []⟩
def d_wrong_end : He.DefD := ⟨("_law_wrong_end", none), "_law_wrong_end", "_law_wrong_end", defArgs s_wrong_end, defBody s_wrong_end, defScope s_wrong_end, [], []⟩
def d_view : He.DefD := ⟨("_law_view", none), "_law_view", "_law_view", defArgs s_view, defBody s_view, defScope s_view, [], []⟩
def d_is_number : He.DefD := ⟨("_law_is_number", none), "_law_is_number", "_law_is_number", defArgs s_is_number, defBody s_is_number, defScope s_is_number, [], []⟩
def d_is_view : He.DefD := ⟨("_law_is_view", none), "_law_is_view", "_law_is_view", defArgs s_is_view, defBody s_is_view, defScope s_is_view, [], []⟩
def d_is_exchange : He.DefD := ⟨("_law_is_exchange", none), "_law_is_exchange", "_law_is_exchange", defArgs s_is_exchange, defBody s_is_exchange, defScope s_is_exchange, [], []⟩
def d_refusal : He.DefD := ⟨("_law_refusal", none), "_law_refusal", "_law_refusal", defArgs s_refusal, defBody s_refusal, defScope s_refusal, [], []⟩
def d_due_refusal : He.DefD := ⟨("_law_due_refusal", none), "_law_due_refusal", "_law_due_refusal", defArgs s_due_refusal, defBody s_due_refusal, defScope s_due_refusal, [], []⟩
def d_end_refused : He.DefD := ⟨("_law_end_refused", none), "_law_end_refused", "_law_end_refused", defArgs s_end_refused, defBody s_end_refused, defScope s_end_refused, [], []⟩
def d_all_seen : He.DefD := ⟨("_law_all_seen", none), "_law_all_seen", "_law_all_seen", defArgs s_all_seen, defBody s_all_seen, defScope s_all_seen, [], []⟩
def d_law : He.DefD := ⟨("law", none), "law", "law", defArgs s_law, defBody s_law, defScope s_law, [], []⟩
abbrev s_BadBit___init__ : Stmt := inClass (topS 2) 0
theorem xn_BadBit {P : Program} {w : World} {K : PySem.W.Frag} {mg : Str → Option Value} {base : Heap} {fl : Str} (h1 : supObs K "BadBit" = supVal "BadBit.__init__" s_BadBit___init__) (h : ExnF K (He.ga K "BadBit") "BadBit.__init__" "bit" fl) (hfl : ((P.main.file : Str) == fl) = true) (htop : (P.main.scope.names.lookup ("super" : Str)).isSome = false) (g : mg "BadBit" = some (.ref (He.ga K "BadBit"))) (m_super : mg "super" = none) : Exn P w K mg base "BadBit" (He.ga K "BadBit") "bit" := by
  obtain ⟨c, cc, fd, kV, doc, pm, ct, an, hfd, S, hcd⟩ := sup_of h1 h.sup hfl htop
  refine ⟨S.oex, g, He.ma K _ "__init__", fd, ["self", "bit"], h.ini, h.ty, ?_, ?_⟩
  · exact exn_ok (v := "bit") (F := ⟨"__init__", "BadBit.__init__", defArgs s_BadBit___init__, defBody s_BadBit___init__, defScope s_BadBit___init__, [("__class__", cc)], c⟩) hfd S hcd (NdefX.nscope_by (sc := defScope s_BadBit___init__) (by decide +kernel)) rfl rfl rfl (show (defScope s_BadBit___init__).names.lookup ("super" : Str) = some .globalImplicit by decide +kernel) m_super h.no (by decide) (by decide) rfl (fun _ _ _ _ _ => rfl) (fun _ _ _ _ _ => rfl) (fun _ _ _ _ _ => rfl) (fun _ _ _ _ _ => rfl)
  · subst hfd
    exact Binds.all fun us hl => match us, hl with | [_, _], _ => rfl
abbrev s_BadEnd___init__ : Stmt := inClass (topS 3) 0
theorem xn_BadEnd {P : Program} {w : World} {K : PySem.W.Frag} {mg : Str → Option Value} {base : Heap} {fl : Str} (h1 : supObs K "BadEnd" = supVal "BadEnd.__init__" s_BadEnd___init__) (h : ExnF K (He.ga K "BadEnd") "BadEnd.__init__" "end" fl) (hfl : ((P.main.file : Str) == fl) = true) (htop : (P.main.scope.names.lookup ("super" : Str)).isSome = false) (g : mg "BadEnd" = some (.ref (He.ga K "BadEnd"))) (m_super : mg "super" = none) : Exn P w K mg base "BadEnd" (He.ga K "BadEnd") "end" := by
  obtain ⟨c, cc, fd, kV, doc, pm, ct, an, hfd, S, hcd⟩ := sup_of h1 h.sup hfl htop
  refine ⟨S.oex, g, He.ma K _ "__init__", fd, ["self", "end"], h.ini, h.ty, ?_, ?_⟩
  · exact exn_ok (v := "end") (F := ⟨"__init__", "BadEnd.__init__", defArgs s_BadEnd___init__, defBody s_BadEnd___init__, defScope s_BadEnd___init__, [("__class__", cc)], c⟩) hfd S hcd (NdefX.nscope_by (sc := defScope s_BadEnd___init__) (by decide +kernel)) rfl rfl rfl (show (defScope s_BadEnd___init__).names.lookup ("super" : Str) = some .globalImplicit by decide +kernel) m_super h.no (by decide) (by decide) rfl (fun _ _ _ _ _ => rfl) (fun _ _ _ _ _ => rfl) (fun _ _ _ _ _ => rfl) (fun _ _ _ _ _ => rfl)
  · subst hfd
    exact Binds.all fun us hl => match us, hl with | [_, _], _ => rfl
abbrev s_BadFate___init__ : Stmt := inClass (topS 4) 0
theorem xn_BadFate {P : Program} {w : World} {K : PySem.W.Frag} {mg : Str → Option Value} {base : Heap} {fl : Str} (h1 : supObs K "BadFate" = supVal "BadFate.__init__" s_BadFate___init__) (h : ExnF K (He.ga K "BadFate") "BadFate.__init__" "at" fl) (hfl : ((P.main.file : Str) == fl) = true) (htop : (P.main.scope.names.lookup ("super" : Str)).isSome = false) (g : mg "BadFate" = some (.ref (He.ga K "BadFate"))) (m_super : mg "super" = none) : Exn P w K mg base "BadFate" (He.ga K "BadFate") "at" := by
  obtain ⟨c, cc, fd, kV, doc, pm, ct, an, hfd, S, hcd⟩ := sup_of h1 h.sup hfl htop
  refine ⟨S.oex, g, He.ma K _ "__init__", fd, ["self", "at"], h.ini, h.ty, ?_, ?_⟩
  · exact exn_ok (v := "at") (F := ⟨"__init__", "BadFate.__init__", defArgs s_BadFate___init__, defBody s_BadFate___init__, defScope s_BadFate___init__, [("__class__", cc)], c⟩) hfd S hcd (NdefX.nscope_by (sc := defScope s_BadFate___init__) (by decide +kernel)) rfl rfl rfl (show (defScope s_BadFate___init__).names.lookup ("super" : Str) = some .globalImplicit by decide +kernel) m_super h.no (by decide) (by decide) rfl (fun _ _ _ _ _ => rfl) (fun _ _ _ _ _ => rfl) (fun _ _ _ _ _ => rfl) (fun _ _ _ _ _ => rfl)
  · subst hfd
    exact Binds.all fun us hl => match us, hl with | [_, _], _ => rfl
def xns : List (PySem.W.Frag → SupV) := [fun K => supObs K "BadBit", fun K => supObs K "BadEnd", fun K => supObs K "BadFate"]
def exPr (K : PySem.W.Frag) : List Bool := []
def xvs : List SupV := [supVal "BadBit.__init__" s_BadBit___init__, supVal "BadEnd.__init__" s_BadEnd___init__, supVal "BadFate.__init__" s_BadFate___init__]
def exXn (fl : Str) (K : PySem.W.Frag) : List Bool := [exnB fl "BadBit.__init__" "bit" K (He.ga K "BadBit"), exnB fl "BadEnd.__init__" "end" K (He.ga K "BadEnd"), exnB fl "BadFate.__init__" "at" K (He.ga K "BadFate")]
def fn : List He.DefD := [d_check_fates, d_check_end, d_check_bit, d_arrives, d_Exchange___init__, d_Exchange___len__, d_Exchange___eq__, d_Exchange_seen, d_alike, d_cell, d_draws, d_take, d_exchange, d_other, d_wrong_bit, d_spoilt, d_wrong_end, d_view, d_is_number, d_is_view, d_is_exchange, d_refusal, d_due_refusal, d_end_refused, d_all_seen, d_law]
def fa : List He.Fa := [.glo "check_fates", .glo "check_end", .glo "check_bit", .glo "arrives", .glo "alike", .glo "_law_cell", .glo "_law_draws", .glo "_law_take", .glo "_law_exchange", .glo "_law_other", .glo "_law_wrong_bit", .glo "_law_spoilt", .glo "_law_wrong_end", .glo "_law_view", .glo "_law_is_number", .glo "_law_is_view", .glo "_law_is_exchange", .glo "_law_refusal", .glo "_law_due_refusal", .glo "_law_end_refused", .glo "_law_all_seen", .glo "law", .free "ValueError", .free "abs", .free "bool", .free "enumerate", .free "int", .free "isinstance", .free "len", .free "range", .free "str", .free "super", .free "tuple", .glo "Exchange", .cls "Exchange", .mkr "Exchange", .noat "Exchange" "first_bit", .noat "Exchange" "second_bit", .noat "Exchange" "fates", .meth "Exchange" "seen", .str "FATES" "bfsn", .glo "HouseError", .glo "ENDS", .glo "BadBit", .glo "BadEnd", .glo "BadFate"]
def loose : List Str := [("HouseError" : Str), ("BadBit" : Str), ("BadEnd" : Str), ("BadFate" : Str), ("FATES" : Str), ("ENDS" : Str), ("check_fates" : Str), ("check_end" : Str), ("check_bit" : Str), ("arrives" : Str), ("Exchange" : Str), ("alike" : Str), ("_law_cell" : Str), ("_law_draws" : Str), ("_law_take" : Str), ("_law_exchange" : Str), ("_law_other" : Str), ("_law_wrong_bit" : Str), ("_law_spoilt" : Str), ("_law_wrong_end" : Str), ("_law_view" : Str), ("_law_is_number" : Str), ("_law_is_view" : Str), ("_law_is_exchange" : Str), ("_law_refusal" : Str), ("_law_due_refusal" : Str), ("_law_end_refused" : Str), ("_law_all_seen" : Str)]
def fl : Str := PySem.Challenge.pw_signedpacts_k77_views.main.file
def exF0 (K : PySem.W.Frag) (a b : Addr) : Bool := decide (PySem.W.exmOne K (.ref a) (.ref b) = some false)
def exL0 (K : PySem.W.Frag) : List Bool := [isB K (He.ga K "Exchange"), spB K (He.ga K "Exchange") "__eq__", spB K (He.ga K "Exchange") "__len__", endsB K (He.ga K "ENDS"),
  exmB K (He.ga K "BadBit") (He.ga K "BadBit"), exF0 K (He.ga K "BadFate") (He.ga K "BadBit"), exmB K (He.ga K "BadFate") (He.ga K "BadFate"), exmB K (He.ga K "BadEnd") (He.ga K "BadEnd"),
  kitVB K (He.ga K "BadBit") (.ref (He.ga K "HouseError")) true, kitVB K (He.ga K "BadBit") (.ref (He.ga K "BadFate")) false, kitVB K (He.ga K "BadBit") (.ref (He.ga K "BadEnd")) false,
  kitVB K (He.ga K "BadFate") (.ref (He.ga K "HouseError")) true, kitVB K (He.ga K "BadFate") (.ref (He.ga K "BadEnd")) false,
  kitVB K (He.ga K "BadEnd") (.ref (He.ga K "HouseError")) true, kitVB K (He.ga K "BadEnd") (.type "ValueError") true, kitVB K (He.ga K "BadEnd") (.ref (He.ga K "BadBit")) false]
def ex (K : PySem.W.Frag) : Bool := (exL0 K).all id && ((exXn fl K).all id && (exPr K).all id)
abbrev R : PySem.W.OpenRow := PySem.W.OpenLaw.row PySem.Challenge.rw_signedpacts_k77_views
abbrev hk : PySem.W.Hook := hookY 5 fa fn xns xvs ex
def ob (s : PySem.W.SharedT) : He.AlD × (List SupV × Bool) := obY 5 fa fn xns ex (HandSHeadRun.getT s)
theorem ob_eq (s : PySem.W.SharedT) : ob s = hk.obs s.abs := obY_eq (HandSHeadRun.getT_eq s)
theorem run (w : World) : HandSHeadRun.RunEq R (PySem.W.view R.prog [32]) hk ob 8000 loose w := by
  intro os
  kernel_rfl
theorem facts {P : Program} {w : World} {K : PySem.W.Frag} {h : Heap} {mg : Str → Option Value} {f : Addr} (X : K.In h) (G : h.Ns mainGlobals mg) (hfa : mg ("law" : Str) = some (.ref f)) (c : He.SaysD fa fn K) (cs : xns.map (fun f => f K) = xvs) (cx : ex K = true) (hfl : ((P.main.file : Str) == fl) = true) (htop : (P.main.scope.names.lookup ("super" : Str)).isSome = false) :
    ∃ fd : FuncData, (∀ (s : Shared) (v : Value), BindsTo s fd ⟨[v], []⟩ [("_law_script", v)]) ∧ ∀ base : Heap, K.In base → base.Ns mainGlobals mg → FnOk P w K mg base CX0 7 f fd ["_law_script"] (spLaw K) := by
  obtain ⟨cx, cy⟩ := He.ba cx
  obtain ⟨cy, cp⟩ := He.ba cy
  obtain ⟨fd_check_fates, F_check_fates⟩ := c.def_ 0 (d := d_check_fates) rfl
  have F_check_fates : FnP K "check_fates" s_check_fates _ fd_check_fates := F_check_fates
  have g_check_fates := He.glo_ok X G (c.fact 0 (f := .glo "check_fates") rfl)
  have b_check_fates : Binds K fd_check_fates P_check_fates [] := F_check_fates.bindsN fun _ _ _ _ _ _ us hl => match us, hl with | [_], _ => rfl
  obtain ⟨fd_check_end, F_check_end⟩ := c.def_ 1 (d := d_check_end) rfl
  have F_check_end : FnP K "check_end" s_check_end _ fd_check_end := F_check_end
  have g_check_end := He.glo_ok X G (c.fact 1 (f := .glo "check_end") rfl)
  have b_check_end : Binds K fd_check_end P_check_end [] := F_check_end.bindsN fun _ _ _ _ _ _ us hl => match us, hl with | [_], _ => rfl
  obtain ⟨fd_check_bit, F_check_bit⟩ := c.def_ 2 (d := d_check_bit) rfl
  have F_check_bit : FnP K "check_bit" s_check_bit _ fd_check_bit := F_check_bit
  have g_check_bit := He.glo_ok X G (c.fact 2 (f := .glo "check_bit") rfl)
  have b_check_bit : Binds K fd_check_bit P_check_bit [] := F_check_bit.bindsN fun _ _ _ _ _ _ us hl => match us, hl with | [_], _ => rfl
  obtain ⟨fd_arrives, F_arrives⟩ := c.def_ 3 (d := d_arrives) rfl
  have F_arrives : FnP K "arrives" s_arrives _ fd_arrives := F_arrives
  have g_arrives := He.glo_ok X G (c.fact 3 (f := .glo "arrives") rfl)
  have b_arrives : Binds K fd_arrives P_arrives [] := F_arrives.bindsN fun _ _ _ _ _ _ us hl => match us, hl with | [_, _], _ => rfl
  obtain ⟨fd_Exchange___init__, F_Exchange___init__⟩ := c.def_ 4 (d := d_Exchange___init__) rfl
  have F_Exchange___init__ : FnM K "__init__" "Exchange.__init__" s_Exchange___init__ (He.ma K (He.ga K "Exchange") "__init__") fd_Exchange___init__ := F_Exchange___init__
  have b_Exchange___init__ : Binds K fd_Exchange___init__ P_Exchange___init__ [] := F_Exchange___init__.bindsN fun _ _ _ _ _ _ us hl => match us, hl with | [_, _, _, _], _ => rfl
  obtain ⟨fd_Exchange___len__, F_Exchange___len__⟩ := c.def_ 5 (d := d_Exchange___len__) rfl
  have F_Exchange___len__ : FnM K "__len__" "Exchange.__len__" s_Exchange___len__ (He.ma K (He.ga K "Exchange") "__len__") fd_Exchange___len__ := F_Exchange___len__
  have b_Exchange___len__ : Binds K fd_Exchange___len__ P_Exchange___len__ [] := F_Exchange___len__.bindsN fun _ _ _ _ _ _ us hl => match us, hl with | [_], _ => rfl
  obtain ⟨fd_Exchange___eq__, F_Exchange___eq__⟩ := c.def_ 6 (d := d_Exchange___eq__) rfl
  have F_Exchange___eq__ : FnM K "__eq__" "Exchange.__eq__" s_Exchange___eq__ (He.ma K (He.ga K "Exchange") "__eq__") fd_Exchange___eq__ := F_Exchange___eq__
  have b_Exchange___eq__ : Binds K fd_Exchange___eq__ P_Exchange___eq__ [] := F_Exchange___eq__.bindsN fun _ _ _ _ _ _ us hl => match us, hl with | [_, _], _ => rfl
  obtain ⟨fd_Exchange_seen, F_Exchange_seen⟩ := c.def_ 7 (d := d_Exchange_seen) rfl
  have F_Exchange_seen : FnM K "seen" "Exchange.seen" s_Exchange_seen (He.ma K (He.ga K "Exchange") "seen") fd_Exchange_seen := F_Exchange_seen
  have b_Exchange_seen : Binds K fd_Exchange_seen P_Exchange_seen [] := F_Exchange_seen.bindsN fun _ _ _ _ _ _ us hl => match us, hl with | [_, _], _ => rfl
  obtain ⟨fd_alike, F_alike⟩ := c.def_ 8 (d := d_alike) rfl
  have F_alike : FnP K "alike" s_alike _ fd_alike := F_alike
  have g_alike := He.glo_ok X G (c.fact 4 (f := .glo "alike") rfl)
  obtain ⟨fd_cell, F_cell⟩ := c.def_ 9 (d := d_cell) rfl
  have F_cell : FnP K "_law_cell" s_cell _ fd_cell := F_cell
  have g_cell := He.glo_ok X G (c.fact 5 (f := .glo "_law_cell") rfl)
  have b_cell : Binds K fd_cell P_cell [] := F_cell.bindsN fun _ _ _ _ _ _ us hl => match us, hl with | [_, _], _ => rfl
  obtain ⟨fd_draws, F_draws⟩ := c.def_ 10 (d := d_draws) rfl
  have F_draws : FnP K "_law_draws" s_draws _ fd_draws := F_draws
  have g_draws := He.glo_ok X G (c.fact 6 (f := .glo "_law_draws") rfl)
  have b_draws : Binds K fd_draws P_draws [] := F_draws.bindsN fun _ _ _ _ _ _ us hl => match us, hl with | [_, _], _ => rfl
  obtain ⟨fd_take, F_take⟩ := c.def_ 11 (d := d_take) rfl
  have F_take : FnP K "_law_take" s_take _ fd_take := F_take
  have g_take := He.glo_ok X G (c.fact 7 (f := .glo "_law_take") rfl)
  have b_take : Binds K fd_take P_take [] := F_take.bindsN fun _ _ _ _ _ _ us hl => match us, hl with | [_, _], _ => rfl
  obtain ⟨fd_exchange, F_exchange⟩ := c.def_ 12 (d := d_exchange) rfl
  have F_exchange : FnP K "_law_exchange" s_exchange _ fd_exchange := F_exchange
  have g_exchange := He.glo_ok X G (c.fact 8 (f := .glo "_law_exchange") rfl)
  have b_exchange : Binds K fd_exchange P_exchange [] := F_exchange.bindsN fun _ _ _ _ _ _ us hl => match us, hl with | [_, _, _], _ => rfl
  obtain ⟨fd_other, F_other⟩ := c.def_ 13 (d := d_other) rfl
  have F_other : FnP K "_law_other" s_other _ fd_other := F_other
  have g_other := He.glo_ok X G (c.fact 9 (f := .glo "_law_other") rfl)
  have b_other : Binds K fd_other P_other [] := F_other.bindsN fun _ _ _ _ _ _ us hl => match us, hl with | [_, _, _], _ => rfl
  obtain ⟨fd_wrong_bit, F_wrong_bit⟩ := c.def_ 14 (d := d_wrong_bit) rfl
  have F_wrong_bit : FnP K "_law_wrong_bit" s_wrong_bit _ fd_wrong_bit := F_wrong_bit
  have g_wrong_bit := He.glo_ok X G (c.fact 10 (f := .glo "_law_wrong_bit") rfl)
  have b_wrong_bit : Binds K fd_wrong_bit P_wrong_bit [] := F_wrong_bit.bindsN fun _ _ _ _ _ _ us hl => match us, hl with | [_], _ => rfl
  obtain ⟨fd_spoilt, F_spoilt⟩ := c.def_ 15 (d := d_spoilt) rfl
  have F_spoilt : FnP K "_law_spoilt" s_spoilt _ fd_spoilt := F_spoilt
  have g_spoilt := He.glo_ok X G (c.fact 11 (f := .glo "_law_spoilt") rfl)
  have b_spoilt : Binds K fd_spoilt P_spoilt [] := F_spoilt.bindsN fun _ _ _ _ _ _ us hl => match us, hl with | [_, _, _], _ => rfl
  obtain ⟨fd_wrong_end, F_wrong_end⟩ := c.def_ 16 (d := d_wrong_end) rfl
  have F_wrong_end : FnP K "_law_wrong_end" s_wrong_end _ fd_wrong_end := F_wrong_end
  have g_wrong_end := He.glo_ok X G (c.fact 12 (f := .glo "_law_wrong_end") rfl)
  have b_wrong_end : Binds K fd_wrong_end P_wrong_end [] := F_wrong_end.bindsN fun _ _ _ _ _ _ us hl => match us, hl with | [_], _ => rfl
  obtain ⟨fd_view, F_view⟩ := c.def_ 17 (d := d_view) rfl
  have F_view : FnP K "_law_view" s_view _ fd_view := F_view
  have g_view := He.glo_ok X G (c.fact 13 (f := .glo "_law_view") rfl)
  have b_view : Binds K fd_view P_view [] := F_view.bindsN fun _ _ _ _ _ _ us hl => match us, hl with | [_, _], _ => rfl
  obtain ⟨fd_is_number, F_is_number⟩ := c.def_ 18 (d := d_is_number) rfl
  have F_is_number : FnP K "_law_is_number" s_is_number _ fd_is_number := F_is_number
  have g_is_number := He.glo_ok X G (c.fact 14 (f := .glo "_law_is_number") rfl)
  have b_is_number : Binds K fd_is_number P_is_number [] := F_is_number.bindsN fun _ _ _ _ _ _ us hl => match us, hl with | [_, _], _ => rfl
  obtain ⟨fd_is_view, F_is_view⟩ := c.def_ 19 (d := d_is_view) rfl
  have F_is_view : FnP K "_law_is_view" s_is_view _ fd_is_view := F_is_view
  have g_is_view := He.glo_ok X G (c.fact 15 (f := .glo "_law_is_view") rfl)
  have b_is_view : Binds K fd_is_view P_is_view [] := F_is_view.bindsN fun _ _ _ _ _ _ us hl => match us, hl with | [_, _], _ => rfl
  obtain ⟨fd_is_exchange, F_is_exchange⟩ := c.def_ 20 (d := d_is_exchange) rfl
  have F_is_exchange : FnP K "_law_is_exchange" s_is_exchange _ fd_is_exchange := F_is_exchange
  have g_is_exchange := He.glo_ok X G (c.fact 16 (f := .glo "_law_is_exchange") rfl)
  have b_is_exchange : Binds K fd_is_exchange P_is_exchange [] := F_is_exchange.bindsN fun _ _ _ _ _ _ us hl => match us, hl with | [_, _], _ => rfl
  obtain ⟨fd_refusal, F_refusal⟩ := c.def_ 21 (d := d_refusal) rfl
  have F_refusal : FnP K "_law_refusal" s_refusal _ fd_refusal := F_refusal
  have g_refusal := He.glo_ok X G (c.fact 17 (f := .glo "_law_refusal") rfl)
  have b_refusal : Binds K fd_refusal P_refusal [] := F_refusal.bindsN fun _ _ _ _ _ _ us hl => match us, hl with | [_, _, _], _ => rfl
  obtain ⟨fd_due_refusal, F_due_refusal⟩ := c.def_ 22 (d := d_due_refusal) rfl
  have F_due_refusal : FnP K "_law_due_refusal" s_due_refusal _ fd_due_refusal := F_due_refusal
  have g_due_refusal := He.glo_ok X G (c.fact 18 (f := .glo "_law_due_refusal") rfl)
  have b_due_refusal : Binds K fd_due_refusal P_due_refusal [] := F_due_refusal.bindsN fun _ _ _ _ _ _ us hl => match us, hl with | [_, _, _], _ => rfl
  obtain ⟨fd_end_refused, F_end_refused⟩ := c.def_ 23 (d := d_end_refused) rfl
  have F_end_refused : FnP K "_law_end_refused" s_end_refused _ fd_end_refused := F_end_refused
  have g_end_refused := He.glo_ok X G (c.fact 19 (f := .glo "_law_end_refused") rfl)
  have b_end_refused : Binds K fd_end_refused P_end_refused [] := F_end_refused.bindsN fun _ _ _ _ _ _ us hl => match us, hl with | [_, _, _, _], _ => rfl
  obtain ⟨fd_all_seen, F_all_seen⟩ := c.def_ 24 (d := d_all_seen) rfl
  have F_all_seen : FnP K "_law_all_seen" s_all_seen _ fd_all_seen := F_all_seen
  have g_all_seen := He.glo_ok X G (c.fact 20 (f := .glo "_law_all_seen") rfl)
  have b_all_seen : Binds K fd_all_seen P_all_seen [] := F_all_seen.bindsN fun _ _ _ _ _ _ us hl => match us, hl with | [_, _, _], _ => rfl
  obtain ⟨fd_law, F_law⟩ := c.def_ 25 (d := d_law) rfl
  have F_law : FnP K "law" s_law _ fd_law := F_law
  have g_law := He.glo_ok X G (c.fact 21 (f := .glo "law") rfl)
  have m_ValueError := He.free_ok X G (c.fact 22 (f := .free "ValueError") rfl)
  have m_abs := He.free_ok X G (c.fact 23 (f := .free "abs") rfl)
  have m_bool := He.free_ok X G (c.fact 24 (f := .free "bool") rfl)
  have m_enumerate := He.free_ok X G (c.fact 25 (f := .free "enumerate") rfl)
  have m_int := He.free_ok X G (c.fact 26 (f := .free "int") rfl)
  have m_isinstance := He.free_ok X G (c.fact 27 (f := .free "isinstance") rfl)
  have m_len := He.free_ok X G (c.fact 28 (f := .free "len") rfl)
  have m_range := He.free_ok X G (c.fact 29 (f := .free "range") rfl)
  have m_str := He.free_ok X G (c.fact 30 (f := .free "str") rfl)
  have m_super := He.free_ok X G (c.fact 31 (f := .free "super") rfl)
  have m_tuple := He.free_ok X G (c.fact 32 (f := .free "tuple") rfl)
  have g_Exchange := He.glo_ok X G (c.fact 33 (f := .glo "Exchange") rfl)
  have cls_Exchange := He.cls_ok (c.fact 34 (f := .cls "Exchange") rfl)
  have mk_Exchange := He.mkr_ok (c.fact 35 (f := .mkr "Exchange") rfl)
  have n_Exchange_first_bit := He.noat_ok (c.fact 36 (f := .noat "Exchange" "first_bit") rfl)
  have n_Exchange_second_bit := He.noat_ok (c.fact 37 (f := .noat "Exchange" "second_bit") rfl)
  have n_Exchange_fates := He.noat_ok (c.fact 38 (f := .noat "Exchange" "fates") rfl)
  have me_Exchange_seen := He.meth_ok (c.fact 39 (f := .meth "Exchange" "seen") rfl)
  have g0_FATES := He.str_ok X G (c.fact 40 (f := .str "FATES" "bfsn") rfl)
  obtain ⟨tok_FATES, g_FATES⟩ := g0_FATES
  have g_HouseError := He.glo_ok X G (c.fact 41 (f := .glo "HouseError") rfl)
  have g_ENDS := He.glo_ok X G (c.fact 42 (f := .glo "ENDS") rfl)
  have g_BadBit := He.glo_ok X G (c.fact 43 (f := .glo "BadBit") rfl)
  have g_BadEnd := He.glo_ok X G (c.fact 44 (f := .glo "BadEnd") rfl)
  have g_BadFate := He.glo_ok X G (c.fact 45 (f := .glo "BadFate") rfl)
  have f_BadBit := exnB_ok (all_at cy 0)
  have x_BadBit : ∀ base : Heap, Exn P w K mg base "BadBit" (He.ga K "BadBit") "bit" := fun base => xn_BadBit (y_at cs 0) f_BadBit hfl htop g_BadBit m_super
  have f_BadEnd := exnB_ok (all_at cy 1)
  have x_BadEnd : ∀ base : Heap, Exn P w K mg base "BadEnd" (He.ga K "BadEnd") "end" := fun base => xn_BadEnd (y_at cs 1) f_BadEnd hfl htop g_BadEnd m_super
  have f_BadFate := exnB_ok (all_at cy 2)
  have x_BadFate : ∀ base : Heap, Exn P w K mg base "BadFate" (He.ga K "BadFate") "at" := fun base => xn_BadFate (y_at cs 2) f_BadFate hfl htop g_BadFate m_super
  have isC := isB_ok cls_Exchange (all_at cx 0)
  obtain ⟨z1, z2, z3⟩ := spB_ok (all_at cx 1)
  obtain ⟨y1, y2, y3⟩ := spB_ok (all_at cx 2)
  have hE := endsB_ok (all_at cx 3)
  have teBB := of_decide_eq_true (all_at cx 4)
  have teFB := of_decide_eq_true (all_at cx 5)
  have teFF := of_decide_eq_true (all_at cx 6)
  have teEE := of_decide_eq_true (all_at cx 7)
  have kBH := of_decide_eq_true (all_at cx 8)
  have kBF := of_decide_eq_true (all_at cx 9)
  have kBE := of_decide_eq_true (all_at cx 10)
  have kFH := of_decide_eq_true (all_at cx 11)
  have kFE := of_decide_eq_true (all_at cx 12)
  have kEH := of_decide_eq_true (all_at cx 13)
  have kEV := of_decide_eq_true (all_at cx 14)
  have kEB := of_decide_eq_true (all_at cx 15)
  have e := hfa.symm.trans g_law
  cases e
  have b := FunD.bindsA (ps := ["_law_script"]) F_law fun _ _ _ _ _ _ us hl => match us, hl with | [_], _ => rfl
  refine ⟨fd_law, fun s v => b s [v] rfl, fun base _ _ => ?_⟩
  have c_cell : Cal P w K mg base 1 "_law_cell" (spCell K) := cal_of F_cell g_cell b_cell (ok_cell F_cell m_len m_int)
  have c_draws : Cal P w K mg base 1 "_law_draws" spDraws := cal_of F_draws g_draws b_draws (ok_draws F_draws m_int m_abs m_range)
  have c_take : Cal P w K mg base 1 "_law_take" (spTake K) := cal_of F_take g_take b_take (ok_take F_take m_len)
  have c_check_fates : CalX P w K mg base 3 "check_fates" (spCkF (He.ga K "BadFate")) := ⟨_, _, _, ok_check_fates F_check_fates m_enumerate tok_FATES g_FATES (x_BadFate base), g_check_fates, F_check_fates.kp, b_check_fates⟩
  have c_check_end : CalX P w K mg base 3 "check_end" (spCkE (He.ga K "BadEnd")) := ⟨_, _, _, ok_check_end F_check_end g_ENDS hE (x_BadEnd base), g_check_end, F_check_end.kp, b_check_end⟩
  have c_check_bit : CalX P w K mg base 3 "check_bit" (spCkB (He.ga K "BadBit")) := ⟨_, _, _, ok_check_bit F_check_bit (x_BadBit base), g_check_bit, F_check_bit.kp, b_check_bit⟩
  have c_arrives : Cal P w K mg base 1 "arrives" spArr := cal_of F_arrives g_arrives b_arrives (ok_arrives F_arrives)
  have k_Exchange : MakX P w K mg base 4 "Exchange" (He.ga K "Exchange") (spEx1 (He.ga K "Exchange") (He.ga K "BadBit") (He.ga K "BadFate")) := ⟨_, _, _, mk_Exchange, ok_init F_Exchange___init__ cls_Exchange n_Exchange_first_bit n_Exchange_second_bit n_Exchange_fates c_check_bit c_check_fates, g_Exchange, b_Exchange___init__⟩
  have l_Exchange : LenO P w K mg base 1 (He.ga K "Exchange") (spLen1 (He.ga K "Exchange")) := ⟨_, _, _, ok_len F_Exchange___len__ m_len cls_Exchange n_Exchange_fates, y1, y2, b_Exchange___len__⟩
  have e_Exchange : Eqo P w K mg base 1 (He.ga K "Exchange") (spEq1 (He.ga K "Exchange")) := ⟨_, _, _, ok_eq F_Exchange___eq__ isC m_isinstance g_Exchange cls_Exchange n_Exchange_first_bit n_Exchange_second_bit n_Exchange_fates, z1, z2, b_Exchange___eq__⟩
  have me_seen : MetX P w K mg base 4 (He.ga K "Exchange") "seen" (spSeen (He.ga K "Exchange") (He.ga K "BadEnd")) := ⟨_, _, _, cls_Exchange, me_Exchange_seen, ok_seen F_Exchange_seen m_range m_len cls_Exchange n_Exchange_first_bit n_Exchange_second_bit n_Exchange_fates c_check_end c_arrives, b_Exchange_seen⟩
  have c_alike : CalKX P w K mg base 5 "alike" 2 ["to"] (fun vs zs => vs ++ zs) (spAlike (He.ga K "Exchange") (He.ga K "BadEnd")) := ⟨_, _, _, _, ok_alike F_alike me_seen, g_alike, F_alike.kp, kb_alike F_alike⟩
  have c_exchange : Cal P w K mg base 2 "_law_exchange" (spLex K) := cal_of F_exchange g_exchange b_exchange (ok_exchange F_exchange m_int m_len m_range c_take)
  have c_other : Cal P w K mg base 3 "_law_other" (spOther K) := cal_of F_other g_other b_other (ok_other F_other m_int m_len c_take c_exchange)
  have c_wrong_bit : Cal P w K mg base 1 "_law_wrong_bit" spWB := cal_of F_wrong_bit g_wrong_bit b_wrong_bit (ok_wrong_bit F_wrong_bit m_int)
  have c_spoilt : Cal P w K mg base 2 "_law_spoilt" (spSpoilt K) := cal_of F_spoilt g_spoilt b_spoilt (ok_spoilt F_spoilt m_int m_len m_range c_take)
  have c_wrong_end : Cal P w K mg base 1 "_law_wrong_end" spWE := cal_of F_wrong_end g_wrong_end b_wrong_end (ok_wrong_end F_wrong_end m_int m_len)
  have c_view : Cal P w K mg base 1 "_law_view" (spView K) := cal_of F_view g_view b_view (ok_view F_view m_len m_range)
  have c_is_number : Cal P w K mg base 1 "_law_is_number" spNum := cal_of F_is_number g_is_number b_is_number (ok_is_number F_is_number m_isinstance m_int m_bool)
  have c_is_view : Cal P w K mg base 2 "_law_is_view" spIsV := cal_of F_is_view g_is_view b_is_view (ok_is_view F_is_view m_isinstance m_tuple m_len m_str c_is_number)
  have c_is_exchange : Cal P w K mg base 3 "_law_is_exchange" (spIsE (He.ga K "Exchange")) := cal_of F_is_exchange g_is_exchange b_is_exchange (ok_is_exchange F_is_exchange m_isinstance m_len m_str cls_Exchange n_Exchange_first_bit n_Exchange_second_bit n_Exchange_fates l_Exchange c_is_number)
  have c_refusal : Cal P w K mg base 6 "_law_refusal" spRef := cal_of F_refusal g_refusal b_refusal (ok_refusal F_refusal m_isinstance g_BadBit g_BadEnd g_BadFate g_HouseError k_Exchange f_BadBit.xf f_BadFate.xf f_BadBit.no f_BadFate.no f_BadBit.ec f_BadFate.ec teBB teFB teFF kBH kBF kBE kFH kFE)
  have c_due_refusal : Cal P w K mg base 1 "_law_due_refusal" spDue := cal_of F_due_refusal g_due_refusal b_due_refusal (ok_due_refusal F_due_refusal m_len m_range)
  have c_end_refused : Cal P w K mg base 6 "_law_end_refused" (spEndR (He.ga K "Exchange")) := cal_of F_end_refused g_end_refused b_end_refused (ok_end_refused F_end_refused m_isinstance m_ValueError m_str g_BadBit g_BadEnd g_HouseError me_seen c_alike f_BadEnd.xf f_BadEnd.no f_BadEnd.ec teEE kEH kEV kEB)
  have c_all_seen : Cal P w K mg base 6 "_law_all_seen" (spAll (He.ga K "Exchange")) := cal_of F_all_seen g_all_seen b_all_seen (ok_all_seen F_all_seen m_range m_isinstance m_bool c_view c_is_view me_seen c_alike e_Exchange)
  exact ok_law F_law m_int c_cell c_draws c_take c_exchange c_other c_wrong_bit c_spoilt c_wrong_end c_is_number c_is_exchange c_refusal c_due_refusal c_end_refused c_all_seen k_Exchange e_Exchange
end Z
open PySem PySem.W PySem.Calls PyProof.Rows
theorem PySem.Challenge.cw_signedpacts_k77_views_holds : PySem.Challenge.rw_signedpacts_k77_views.Holds := by
  w_on; o_law
  refine HandSHeadRun.head_any (r := OpenLaw.row PySem.Challenge.rw_signedpacts_k77_views) (q := view (OpenLaw.row PySem.Challenge.rw_signedpacts_k77_views).prog [32]) (H := Z.hk) (ob := Z.ob) (M := 8000) (loose := Z.loose) (d := HandSHeadRun.topDef (OpenLaw.row PySem.Challenge.rw_signedpacts_k77_views).prog 32) (kwd := []) Z.ob_eq
    (by kernel_rfl) (fun s => by kernel_rfl) Z.run (by kernel_rfl) (by kernel_rfl) (by kernel_rfl) (by rfl) (by first | assumption | decide +kernel) (by decide +kernel) ⟨rfl, rfl, rfl, rfl, rfl, by decide +kernel⟩ ?hw ?hc
  case hw => w_witness2
  case hc =>
    refine L2.walk_ofE (l := PySem.Challenge.rw_signedpacts_k77_views) (n := 63) (k := 7) (x := "_law_script") (CX := L2.CX0) rfl (by decide) (by kernel_rfl) ⟨rfl, by decide, by decide⟩ ?F (fun _ _ _ _ z => z)
    intro w mg fa h Y G hmg0
    obtain ⟨K, KX, c, cs, cx⟩ := Y
    have hmg : mg ("law" : PySem.Str) = some (.ref fa) := by
      have e : (HandSHeadRun.topDef (OpenLaw.row PySem.Challenge.rw_signedpacts_k77_views).prog 32).name = ("law" : PySem.Str) := by kernel_rfl
      rw [← e]
      exact hmg0
    obtain ⟨fd, hb, hF⟩ := Z.facts (P := (PySem.Challenge.rw_signedpacts_k77_views).prog) (w := w) KX G hmg c cs cx (by kernel_rfl) (by kernel_rfl)
    exact ⟨K, fd, Z.spLaw K, KX, hb, fun H a ns hl _ hS => ⟨a, ns, rfl, hS, hl, fun _ => rfl⟩, hF⟩
