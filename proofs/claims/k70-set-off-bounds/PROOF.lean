import PyProof.Rows.All
import Wide.All
import OpenK.AllK
import Wide.FinOn
import HandS.ForMost
import HandS.Zip
import HandS.TupMul
import HandS.Codes
import KE.GoesMore
import KE.GoesEnum
import HandS.Defaults
import HandS.IsInst
import HandS.Wide
import HandS.WideBits
import HandS.NoneIn
import HandS.OwnEq
import HandS.Star
import HandS.SetTxtIn
import HandS.Dict
import HandS.Iter
import KE.KDictList
import HandS.Sort
import HandS.ListItems
import HandS.DictComp
import HandS.Conv
import HandS.Comp
import KE.DataMinMax
import KE.SortData
import HandS.Head0
import HandS.Head1
import HandS.Head2
import HandS.HeadEnd
import HandS.HeadHook1
import HandS.HeadHook2
import PySem.Challenge.RW_signedpacts_k70_set_off_bounds
set_option Elab.async false
set_option linter.all false
set_option maxRecDepth 100000
set_option maxHeartbeats 4000000
namespace Z
open PySem PySem.Spec PyProof.Rows L2
/-! ### zip over two sequences, each a list (true) or a tuple (false) -/
def SqK (b : Bool) (K : PySem.W.Frag) (H : Hp) (a : Addr) (xs : List V) : Prop := match b with
  | true => SqL K H a xs
  | false => SqT K H a xs
def ItK (b : Bool) (h : Heap) (it l : Addr) (i : Nat) : Prop := match b with
  | true => h.IsListIter it l i
  | false => h.IsTupleIter it l i
def IsK (b : Bool) (h : Heap) (l : Addr) (xs : Array Value) : Prop := match b with
  | true => h.IsList l xs
  | false => h.IsTuple l xs
theorem ItK.at' {b : Bool} {h h' : Heap} {it l : Addr} {i : Nat} (x : ItK b h it l i) (k : ∀ o, h.get? it = some o → h'.get? it = some o) : ItK b h' it l i := by
  cases b
  · exact Heap.IsTupleIter.at x k
  · exact Heap.IsListIter.at x k
theorem ItK.obj {b : Bool} {h : Heap} {it l : Addr} {i : Nat} (x : ItK b h it l i) : ∃ o, h.get? it = some o ∧ ∀ v, o.data ≠ .cell v := by
  cases b
  · obtain ⟨o, e, _, d⟩ := (show h.IsTupleIter it l i from x)
    exact ⟨o, e, fun v q => by rw [d] at q; cases q⟩
  · obtain ⟨o, e, _, d⟩ := (show h.IsListIter it l i from x)
    exact ⟨o, e, fun v q => by rw [d] at q; cases q⟩
theorem sqk_is {X : Cx} {pins : List (Addr × Obj)} {σ : L2.St} {H : Hp} {s : Shared} {b : Bool} {a : Addr} {xs : List V} (I : Inv X pins σ H s) (h : SqK b X.K H a xs) :
    ∃ its : List Value, Vals xs its ∧ IsK b s.heap a its.toArray ∧ a < s.heap.objs.size := by
  cases b
  · obtain ⟨its, r, p, _⟩ := I.tuple h
    obtain ⟨o, ho, _⟩ := id p
    exact ⟨its, r, p, Heap.lt_size ho⟩
  · obtain ⟨its, r, p, _⟩ := I.list h
    exact ⟨its, r, p.isList, p.lt⟩
theorem sqk_inj {X : Cx} {pins : List (Addr × Obj)} {σ : L2.St} {H : Hp} {s : Shared} {b : Bool} {a : Addr} {xs ys : List V} (I : Inv X pins σ H s) (h : SqK b X.K H a xs) (h' : SqK b X.K H a ys) : xs = ys := by
  cases b
  · exact I.tuple_inj h h'
  · exact I.list_inj h h'
theorem drawsK {prog : Program} {w : World} {A : Around} (b : Bool) (hh : A.handled = none) (it l : Addr) (hne : l ≠ it) (items : Array Value) :
    Draws prog w A it [it, l] items.size (fun i v => items[i]? = some v) (fun i h => ItK b h it l i ∧ IsK b h l items) := by
  cases b
  · exact Draws.tuple hh it l hne items
  · exact Draws.list hh it l hne items
def ItzM (p q : Bool) (K : PySem.W.Frag) (a b : Addr) : It :=
  ⟨fun i H => ∃ (xs ys : List V) (x y : V), SqK p K H a xs ∧ SqK q K H b ys ∧ xs[i]? = some x ∧ ys[i]? = some y,
   fun i H v H' => ∃ T x y, v = .ref T ∧ H T = none ∧ H' = upd H T (.tup [x, y]) ∧ (∀ xs, SqK p K H a xs → xs[i]? = some x) ∧ (∀ ys, SqK q K H b ys → ys[i]? = some y),
   fun i H => ∃ xs ys : List V, SqK p K H a xs ∧ SqK q K H b ys ∧ (xs.length ≤ i ∨ ys.length ≤ i) ∧ i ≤ xs.length ∧ i ≤ ys.length⟩
theorem zsep {z TI TO i1 i2 a b : Addr} (D : ZipApart z TI TO i1 i2 a b) : ZipSep2 z TI TO i1 i2 [i1, a] [i2, b] where
  TIz := D.TIz
  TOz := D.TOz
  TITO := D.TITO
  TIi1 := D.TIi1
  mem1 := List.mem_cons_self
  zf1 := fun h => by rcases List.mem_cons.mp h with e | h; exact D.i1z e.symm; exact D.l1z (List.mem_singleton.mp h).symm
  Tf1 := fun h => by rcases List.mem_cons.mp h with e | h; exact D.TOi1 e; exact D.l1TO (List.mem_singleton.mp h).symm
  TIi2 := D.TIi2
  mem2 := List.mem_cons_self
  zf2 := fun h => by rcases List.mem_cons.mp h with e | h; exact D.i2z e.symm; exact D.l2z (List.mem_singleton.mp h).symm
  Tf2 := fun h => by rcases List.mem_cons.mp h with e | h; exact D.TOi2 e; exact D.l2TO (List.mem_singleton.mp h).symm
  sep1_2 := fun h => by rcases List.mem_cons.mp h with e | h; exact D.i12 e; exact D.l2i1 (List.mem_singleton.mp h).symm
  sep2_1 := fun h => by rcases List.mem_cons.mp h with e | h; exact D.i12 e.symm; exact D.l1i2 (List.mem_singleton.mp h).symm
theorem five {c z TI TO i1 i2 : Addr} {Pr : Addr → Prop} (hc : c ∈ [z, TI, TO, i1, i2]) (a : Pr z) (b : Pr TI) (d : Pr TO) (e : Pr i1) (f : Pr i2) : Pr c := by
  have q : c = z ∨ c = TI ∨ c = TO ∨ c = i1 ∨ c = i2 := by simpa using hc
  rcases q with rfl | rfl | rfl | rfl | rfl <;> assumption
theorem turn_zipM {p q : Bool} {P : Program} {w : World} {K : PySem.W.Frag} {elts : List Expr} {kk : Nat} {tpos : Pos} {a b z TI TO i1 i2 : Addr} (D : ZipApart z TI TO i1 i2 a b) :
    Turn P w K (.Tuple elts kk tpos) (ItzM p q K a b) [z, TI, TO, i1, i2] z (fun i h => IsZip h z TI TO .none ∧ IsTupOf2 h TI (.ref i1) (.ref i2) ∧ (∃ x y, IsTupOf2 h TO x y) ∧ ItK p h i1 a i ∧ ItK q h i2 b i) where
  mem := by simp
  obj := fun i h st c hc => by
    obtain ⟨hz, hI, ⟨x, y, hO⟩, h1, h2⟩ := st
    exact five (Pr := fun c => ∃ o, h.get? c = some o ∧ ∀ v, o.data ≠ .cell v) hc ⟨_, hz, fun v q => nomatch q⟩ ⟨_, hI, fun v q => nomatch q⟩ ⟨_, hO, fun v q => nomatch q⟩ h1.obj h2.obj
  keep := fun i h h' st k => by
    obtain ⟨hz, hI, ⟨x, y, hO⟩, h1, h2⟩ := st
    exact ⟨k z (by simp) _ hz, k TI (by simp) _ hI, ⟨x, y, k TO (by simp) _ hO⟩, h1.at' (fun o e => k i1 (by simp) o e), h2.at' (fun o e => k i2 (by simp) o e)⟩
  item := by
    intro X hP hw hK hc i pins s σ H E I hf st hg
    subst hP hw hK
    obtain ⟨hz, hI, ⟨x0, y0, hO⟩, h1, h2⟩ := st
    obtain ⟨xs, ys, x, y, qx, qy, ex, ey⟩ := hg
    obtain ⟨us, rx, kx, _⟩ := sqk_is I qx
    obtain ⟨vs, ry, ky, _⟩ := sqk_is I qy
    obtain ⟨u, eu, ru⟩ := rx.get ex
    obtain ⟨v, ev, rv⟩ := ry.get ey
    have hzl : z < s.heap.objs.size := Heap.lt_size hz
    have lu : i < us.toArray.size := by simpa using (List.getElem?_eq_some_iff.mp eu).1
    have lv : i < vs.toArray.size := by simpa using (List.getElem?_eq_some_iff.mp ev).1
    have hh : X.A.in1.handled = none := I.ok.hd hc
    refine wpAny_pyNext_zipD2_item (zsep D) (drawsK p hh i1 a D.l1i1 us.toArray) (drawsK q hh i2 b D.l2i2 vs.toArray) hz hI hO ⟨h1, kx⟩ ⟨h2, ky⟩ lu lv fun m1 m2 g tk p1 p2 gz gO g1 g2 gT gs gk => ?_
    have e1 : m1 = u := by
      have t1 : us.toArray[i]? = some u := by simpa using eu
      exact Option.some.inj (p1.symm.trans t1)
    have e2 : m2 = v := by
      have t1 : vs.toArray[i]? = some v := by simpa using ev
      exact Option.some.inj (p2.symm.trans t1)
    subst e1 e2
    refine ⟨_, rfl, wpAny_letOwnedTupleGo_zip (s := { s with heap := g, toks := tk }) gz fun g' gz' sb => ?_⟩
    have gT' : g'.get? s.heap.objs.size = some { cls := .type "tuple", data := .seq #[m1, m2] } := (sb.2 _ (Nat.ne_of_gt hzl)).trans gT
    have nw : ObjOk X.prog X.w (upd H s.heap.objs.size (.tup [x, y])) g' s.heap.objs.size (.tup [x, y]) := ⟨by show 2 ≤ sizeLine; decide, [m1, m2], .cons ru (.cons rv .nil), ⟨_, gT', rfl, _, rfl⟩⟩
    have I1 : Inv X pins σ (upd H s.heap.objs.size (.tup [x, y])) { s with heap := g', toks := tk } :=
      I.turnedNew (t' := tk) (ch := [z, TI, TO, i1, i2]) (fun c o nb e => (sb.2 c (fun w => nb (by simp [w]))).trans (gk c o (fun w => nb (by simp [w])) (fun w => nb (by simp [w])) (fun w => nb (by simp [w])) (fun w => nb (by simp [w])) e)) hf (Nat.le_refl _) nw
    refine ⟨.ref s.heap.objs.size, _, I1, rfl, ⟨_, x, y, rfl, I.hok.fresh (Nat.le_refl _), rfl, fun l hl => by rw [sqk_inj I hl qx]; exact ex, fun l hl => by rw [sqk_inj I hl qy]; exact ey⟩, ⟨gz', ?_, ⟨m1, m2, ?_⟩, ?_, ?_⟩, fun c hcm => ?_⟩
    · exact (sb.2 _ D.TIz).trans (gk _ _ D.TIz D.TITO D.TIi1 D.TIi2 hI)
    · exact (sb.2 _ D.TOz).trans gO
    · exact ItK.at' g1.1 (fun o e => (sb.2 _ D.i1z).trans e)
    · exact ItK.at' g2.1 (fun o e => (sb.2 _ D.i2z).trans e)
    · have lt : c < s.heap.objs.size := by
        obtain ⟨o1, q1, _⟩ := h1.obj
        obtain ⟨o2, q2, _⟩ := h2.obj
        exact five (Pr := fun c => c < s.heap.objs.size) hcm hzl (Heap.lt_size hI) (Heap.lt_size hO) (Heap.lt_size q1) (Heap.lt_size q2)
      rw [upd_ne (Nat.ne_of_lt lt)]
      exact (hf c hcm).1
  done := by
    intro X hP hw hK hc i pins s σ H E I hf st hg
    subst hP hw hK
    obtain ⟨hz, hI, ⟨x0, y0, hO⟩, h1, h2⟩ := st
    obtain ⟨xs, ys, qx, qy, hend, le1, le2⟩ := hg
    obtain ⟨us, rx, kx, _⟩ := sqk_is I qx
    obtain ⟨vs, ry, ky, _⟩ := sqk_is I qy
    have l1 := rx.length
    have l2 := ry.length
    have n1 : us.toArray.size = us.length := by simp
    have n2 : vs.toArray.size = vs.length := by simp
    have hh : X.A.in1.handled = none := I.ok.hd hc
    refine wpAny_pyNext_zipD2_end (i := i) (zsep D) (drawsK p hh i1 a D.l1i1 us.toArray) (drawsK q hh i2 b D.l2i2 vs.toArray) hz hI hO ⟨h1, kx⟩ ⟨h2, ky⟩ (by omega) (by omega) (by omega) fun g tk gk => ?_
    exact ⟨rfl, I.turnedL (t' := tk) (ch := [z, TI, TO, i1, i2]) (fun c o nb e => gk c o (fun w => nb (by simp [w])) (fun w => nb (by simp [w])) (fun w => nb (by simp [w])) (fun w => nb (by simp [w])) e) hf⟩
  self := fun A i s Q E st h => wpAny_pyIter_zip st.1 h
def iZipM (K : PySem.W.Frag) (ta : TA) : TI := fun σ H R => ta σ H fun vs H1 => ∃ p q a b xs ys, vs = [.ref a, .ref b] ∧ SqK p K H1 a xs ∧ SqK q K H1 b ys ∧ R (ItzM p q K a b) H1
theorem begK {p : Bool} {h : Heap} {a : Addr} {xs : Array Value} (k : IsK p h a xs) : ∃ o Hp', Begins (.ref a) o Hp' ∧ Hp' h ∧ ∀ h' it, h'.get? it = some o → ItK p h' it a 0 := by
  cases p
  · exact ⟨_, _, begins_tuple a xs, k, fun h' it e => ⟨_, e, rfl, rfl⟩⟩
  · exact ⟨_, _, begins_list a xs, k, fun h' it e => ⟨_, e, rfl, rfl⟩⟩
theorem pi_zipM {X : Cx} {e e2 : Expr} {ta : TA} {p pos tpos : Pos} {elts : List Expr} {kk : Nat} (hg : Gl X "zip") (hm : X.mg "zip" = none) (ha : PA X [e, e2] ta)
    (hs : starEach [e, e2] X.env = (false, eval e X.env) :: starEach [e2] X.env := by rfl) (hpl : (backTo pos (starEach [e2] X.env)).any (·.1) = false := by rfl) :
    PI X (.Tuple elts kk tpos) (.Call (.Name "zip" p) [e, e2] [] pos) (iZipM X.K ta) := by
  constructor
  intro pins s σ H R I h
  refine Call_ (ld_blt I hg hm PyProof.Rows.boot_zip (PyProof.Rows.callWith_type1 (thn (ha.run pos pins s σ H _ I h) fun us s1 ⟨vs, H1, I1, r1, q1⟩ => ?_) hs hpl))
  obtain ⟨k1, k2, a, b, xs, ys, ex, qx, qy, q⟩ := q1
  subst ex
  obtain ⟨u, v, rfl, ru, rv⟩ := Vals.two r1
  cases ru
  cases rv
  obtain ⟨i1, _, p1, lt1⟩ := sqk_is I1 qx
  obtain ⟨i2, _, p2, lt2⟩ := sqk_is I1 qy
  obtain ⟨o1, G1, B1, g1, w1⟩ := begK p1
  obtain ⟨o2, G2, B2, g2, w2⟩ := begK p2
  refine zip_begins2 B1 B2 g1 g2 fun h' hz hI hO e1 e2 hsz hk => wpAny_pyIter_zip hz ?_
  have I2 : Inv X pins σ H1 { s1 with heap := h' } := I1.kept (t' := s1.toks) hk
  refine ⟨s1.heap.objs.size + 4, [s1.heap.objs.size + 4, s1.heap.objs.size + 2, s1.heap.objs.size + 3, s1.heap.objs.size, s1.heap.objs.size + 1], _, _, H1, rfl, I2, turn_zipM (PySem.W.ktu_apart s1.heap.objs.size a b lt1 lt2), ⟨hz, hI, ⟨_, _, hO⟩, w1 _ _ e1, w2 _ _ e2⟩, fun c hcm => ?_, q⟩
  have hle : s1.heap.objs.size ≤ c := five (Pr := fun c => s1.heap.objs.size ≤ c) hcm (Nat.le_add_right _ _) (Nat.le_add_right _ _) (Nat.le_add_right _ _) (Nat.le_refl _) (Nat.le_add_right _ _)
  exact I1.fpOk hle (I1.hok.fresh hle)
end Z
set_option Elab.async false
set_option linter.all false
set_option maxRecDepth 100000
set_option maxHeartbeats 4000000
namespace Z
open PySem PySem.Spec PyProof.Rows L2
/-! ### (v,) * k for 0 ≤ k -/
theorem tmul0 (l : Addr) (v : Value) (n : Nat) (dd : Option Addr) (sl : Array (Option Value)) (u : Tok) :
    Meets (Builtin.«tuple.__mul__» ⟨[.ref l, .int 0 u], []⟩) (fun _ R s => s.heap.get? l = some { cls := .type "tuple", dict := dd, data := .seq #[v] n, slots := sl } ∧
      R (.ok (.ret (Value.ref s.heap.objs.size))) { s with heap := s.heap.push { cls := Value.type "tuple", data := Data.seq #[] }, toks := s.toks }) :=
  .of_wp fun prog w A R s h => by
    obtain ⟨hp, g, d, tk, os⟩ := s
    obtain ⟨hl, h⟩ := h
    have f1 := AutoSeq1.idx_int
    wp_walk using AutoSeq1.wpAny_loadPart' hl
    exact ⟨_, rfl, h⟩
theorem tmul1 (l : Addr) (items : Array Value) (n : Nat) (dd : Option Addr) (sl : Array (Option Value)) (u : Tok) :
    Meets (Builtin.«tuple.__mul__» ⟨[.ref l, .int 1 u], []⟩) (fun _ R s => s.heap.get? l = some { cls := .type "tuple", dict := dd, data := .seq items n, slots := sl } ∧ R (.ok (.ret (Value.ref l))) s) :=
  .of_wp fun prog w A R s h => by
    obtain ⟨hp, g, d, tk, os⟩ := s
    obtain ⟨hl, h⟩ := h
    have f1 := AutoSeq1.idx_int
    wp_walk using AutoSeq1.wpAny_loadPart' hl
    exact ⟨_, rfl, h⟩
theorem same_new {H : Hp} {p : Addr} {o : HO} (h : H p = none) : Same H (upd H p o) := fun b x e => by
  rw [upd_ne (ne_of_none e h)]
  exact e
def rRepU : R2 := fun x y H Q => ∃ l k v, x = .ref l ∧ y = .int k ∧ H l = some (.tup [v]) ∧ 0 ≤ k ∧ k ≤ 1000 ∧ ∀ p H', Same H H' → H' p = some (.tup (List.replicate k.toNat v)) → Q (.ref p) H'
theorem op_repU {X : Cx} : OpR X (binaryOp .Mult) rRepU := by
  intro pins s σ H x y vv uu Q I rx ry h
  obtain ⟨l, k, v, rfl, rfl, hT, h0, h1, q⟩ := id h
  by_cases k2 : 2 ≤ k
  · refine op_repT pins s σ H _ _ vv uu Q I rx ry ⟨l, k, [v], rfl, rfl, .inl (.inl hT), by simp, k2, h1, by simp, fun p np => q p _ (same_new np) ?_⟩
    rw [upd_same]
    congr 2
    generalize k.toNat = m
    induction m with
    | zero => rfl
    | succ m ih => rw [List.replicate_succ, List.flatten_cons, ih, List.replicate_succ]; rfl
  · cases rx
    obtain ⟨t, rfl⟩ := ry
    obtain ⟨its, r, ⟨⟨cls, dd, data, sl⟩, ho, hc, n, hd⟩, hs⟩ := I.tuple (.inl (.inl hT) : SqT X.K H l [v])
    simp only at hc hd
    subst hc hd
    obtain ⟨u, rfl, ru⟩ := Vals.one r
    by_cases k1 : k = 1
    · subst k1
      refine wpAny_binaryOp_repeat_ref (T := "tuple") (U := "int") (by decide) ⟨_, ho, rfl⟩ (fun s' => typeIs_int s' 1 t) noFill_tuple_mul F.fills_int_mul F.slot_int_rmul repeat_tuple F.slot_int_index.lookup
        (call_meets F.slot_int_rmul (typeIs_int s 1 t) F.entry_int_rmul (F.args_int_rmul_2 _ _) (int_rmul_tuple 1 t l [u].toArray n dd sl)
          ⟨ho, rfl, ⟨_, ho, rfl⟩, call_meets F.slot_tuple_mul ⟨_, ho, rfl⟩ F.entry_tuple_mul (F.args_tuple_mul_2 _ _) (tmul1 l [u].toArray n dd sl t) ⟨ho, ?_⟩⟩)
      exact ⟨.ref l, H, I, rfl, q l H (Same.refl H) hT⟩
    · have k0 : k = 0 := by omega
      subst k0
      refine wpAny_binaryOp_repeat_ref (T := "tuple") (U := "int") (by decide) ⟨_, ho, rfl⟩ (fun s' => typeIs_int s' 0 t) noFill_tuple_mul F.fills_int_mul F.slot_int_rmul repeat_tuple F.slot_int_index.lookup
        (call_meets F.slot_int_rmul (typeIs_int s 0 t) F.entry_int_rmul (F.args_int_rmul_2 _ _) (int_rmul_tuple 0 t l [u].toArray n dd sl)
          ⟨ho, rfl, ⟨_, ho, rfl⟩, call_meets F.slot_tuple_mul ⟨_, ho, rfl⟩ F.entry_tuple_mul (F.args_tuple_mul_2 _ _) (tmul0 l u n dd sl t) ⟨ho, ?_⟩⟩)
      refine ⟨.ref s.heap.objs.size, _, I.laid (t' := s.toks) (o := .tup []) (fun b ob z => Heap.get?_push_of_some _ z) (Nat.le_refl _) ?_, rfl, q _ _ (same_new (I.hok.fresh (Nat.le_refl _))) upd_same⟩
      exact ⟨Nat.zero_le _, [], .nil, IsTup.new _ _⟩
/-! ### loops and comprehensions over any iterator -/
def forW (J : It) (g : TG) (tb : TS) (D : Ends) (σ : L2.St) (H : Hp) : Prop := ∃ W : Nat → Nat → L2.St → Hp → Prop, (∃ m, W 0 m σ H) ∧ ∀ i m σ H, W i m σ H →
  (J.stop i H ∧ D.nx σ H) ∨ (J.go i H ∧ ∃ N : L2.St → Hp → Prop, (∀ σ' H', N σ' H' → ∃ m', m' < m ∧ W (i + 1) m' σ' H') ∧ ∀ x H', J.yld i H x H' → g x σ H' fun σ2 H2 => tb { D with nx := N, ct := N, bk := D.nx } σ2 H2)
theorem for_gen {J : It} {n : Nat} {g : TG} {tb : TS} {D : Ends} {σ : L2.St} {H : Hp} (Pv : Nat → L2.St → Hp → Prop) (h0 : Pv 0 σ H) (hgo : ∀ i σ H, i < n → Pv i σ H → J.go i H) (hst : ∀ σ H, Pv n σ H → J.stop n H)
    (hs : ∀ i σ H x H', i < n → Pv i σ H → J.yld i H x H' → g x σ H' fun σ2 H2 => tb { D with nx := Pv (i + 1), ct := Pv (i + 1), bk := D.nx } σ2 H2) (hd : ∀ σ H, Pv n σ H → D.nx σ H) : forW J g tb D σ H := by
  refine ⟨fun i m σ H => m = n - i ∧ i ≤ n ∧ Pv i σ H, ⟨n, by omega, Nat.zero_le _, h0⟩, fun i m σ H w => ?_⟩
  obtain ⟨rfl, hi, p⟩ := w
  by_cases hlt : i < n
  · exact .inr ⟨hgo i σ H hlt p, Pv (i + 1), fun σ' H' z => ⟨n - (i + 1), by omega, rfl, hlt, z⟩, fun x H' y => hs i σ H x H' hlt p y⟩
  · have e : i = n := by omega
    subst e
    exact .inl ⟨hst σ H p, hd σ H p⟩
def lcW (J : It) (g : TG) (tt : TT) (te : TE) (vs : List Nat) (σ : L2.St) (D : Addr) (Qd : Hp → Prop) (H1 : Hp) : Prop := ∃ W : Nat → Nat → Hp → Prop, (∃ m, W 0 m (upd H1 D (.lst []))) ∧ ∀ i m H, W i m H →
  (J.stop i H ∧ Qd H) ∨ (J.go i H ∧ ∃ Nx : Hp → Prop, (∀ H', Nx H' → ∃ m', m' < m ∧ W (i + 1) m' H') ∧ ∀ x H', J.yld i H x H' → g x (wipe σ vs) H' fun σ2 H2 => wipe σ2 vs = wipe σ vs ∧ tt σ2 H2 fun b H3 =>
    if b = true then te σ2 H3 fun y H4 => ∃ acc, H4 D = some (.lst acc) ∧ acc.length < sizeLine ∧ Nx (upd H4 D (.lst (acc ++ [y]))) else Nx H3)
theorem lc_gen {J : It} {n : Nat} {g : TG} {tt : TT} {te : TE} {vs : List Nat} {σ : L2.St} {H1 : Hp} {D : Addr} {Qd : Hp → Prop} (Pv : Nat → Hp → Prop) (h0 : Pv 0 (upd H1 D (.lst []))) (hgo : ∀ i H, i < n → Pv i H → J.go i H) (hst : ∀ H, Pv n H → J.stop n H)
    (hs : ∀ i H x H', i < n → Pv i H → J.yld i H x H' → g x (wipe σ vs) H' fun σ2 H2 => wipe σ2 vs = wipe σ vs ∧ tt σ2 H2 fun b H3 =>
      if b = true then te σ2 H3 fun y H4 => ∃ acc, H4 D = some (.lst acc) ∧ acc.length < sizeLine ∧ Pv (i + 1) (upd H4 D (.lst (acc ++ [y]))) else Pv (i + 1) H3) (hd : ∀ H, Pv n H → Qd H) : lcW J g tt te vs σ D Qd H1 := by
  refine ⟨fun i m H => m = n - i ∧ i ≤ n ∧ Pv i H, ⟨n, by omega, Nat.zero_le _, h0⟩, fun i m H w => ?_⟩
  obtain ⟨rfl, hi, p⟩ := w
  by_cases hlt : i < n
  · exact .inr ⟨hgo i H hlt p, Pv (i + 1), fun H' z => ⟨n - (i + 1), by omega, rfl, hlt, z⟩, fun x H' y => hs i H x H' hlt p y⟩
  · have e : i = n := by omega
    subst e
    exact .inl ⟨hst H p, hd H p⟩
/-! ### a def of the module that may be called by its name -/
structure Cal (P : Program) (w : World) (K : PySem.W.Frag) (mg : Str → Option Value) (base : Heap) (k : Nat) (x : Str) (sp : Sp) : Prop where
  ex : ∃ (f : Addr) (fd : FuncData) (ps : List Str), FnOk P w K mg base CX0 k f fd ps sp ∧ mg x = some (.ref f) ∧ PySem.W.keepIn K (.ref f) = true ∧ Binds K fd ps []
section
variable {X : Cx} {k j : Nat} {x : Str} {sp : Sp} {p pos : Pos} {e : Expr} {es : List Expr} {t : TA}
theorem pe_cl (c : Cal X.prog X.w X.K X.mg X.base k x sp) (hr : Room j X.A) (hk : k ≤ j) (hg : Gl X x) (ha : PA X (e :: es) t)
    (hdb : (x == ("__debug__" : Str)) = false := by decide) (he : starEach (e :: es) X.env = (false, eval e X.env) :: starEach es X.env := by rfl) (hpl : (backTo pos (starEach es X.env)).any (·.1) = false := by rfl) : PE X (.Call (.Name x p) (e :: es) [] pos) (tCall sp [] E0 t) := by
  obtain ⟨f, fd, ps, F, hm, kp, b⟩ := c.ex
  exact pe_call F (hr.mono hk) hg hm kp b .nil pass0 ha hdb he hpl
end
structure CalK (P : Program) (w : World) (K : PySem.W.Frag) (mg : Str → Option Value) (base : Heap) (k : Nat) (x : Str) (n : Nat) (ks : List Str) (gV : List V → List V → List V) (sp : Sp) : Prop where
  ex : ∃ (f : Addr) (fd : FuncData) (ps : List Str) (g : List Value → List Value → List Value), FnOk P w K mg base CX0 k f fd ps sp ∧ mg x = some (.ref f) ∧ PySem.W.keepIn K (.ref f) = true ∧ KBn K fd ps n ks g gV
section
variable {X : Cx} {k j n : Nat} {x : Str} {sp : Sp} {ks : List Str} {gV : List V → List V → List V} {p pos : Pos} {e : Expr} {es : List Expr} {kws : List Keyword} {t tk : TA}
theorem pe_clK (c : CalK X.prog X.w X.K X.mg X.base k x n ks gV sp) (hr : Room j X.A) (hk : k ≤ j) (hg : Gl X x) (ha : PA X (e :: es) t) (hkw : PK X kws tk)
    (hall : (backToKw pos (keywordEach kws X.env)).all (·.1.isSome) = true := by rfl) (hks : (backToKw pos (keywordEach kws X.env)).filterMap (·.1) = ks := by rfl) (hdb : (x == ("__debug__" : Str)) = false := by decide)
    (he : starEach (e :: es) X.env = (false, eval e X.env) :: starEach es X.env := by rfl) (hpl : ((backTo pos (starEach (e :: es) X.env)).any (·.1) || (backToKw pos (keywordEach kws X.env)).any (·.1.isNone)) = false := by rfl) :
    PE X (.Call (.Name x p) (e :: es) kws pos) (tCallN n ks.length sp gV E0 t tk) := by
  obtain ⟨f, fd, ps, g, F, hm, kp, b⟩ := c.ex
  exact pe_callN F (hr.mono hk) hg hm kp b pass0 ha hkw hall hks hdb he hpl
end
/-! ### heaps -/
/-- all but p stands -/
def SB (p : Addr) (H H' : Hp) : Prop := ∀ b o, b ≠ p → H b = some o → H' b = some o
theorem Same.sb {p : Addr} {H H' : Hp} (s : Same H H') : SB p H H' := fun b o _ h => s b o h
theorem SB.trans {p : Addr} {H H1 H2 : Hp} (a : SB p H H1) (b : SB p H1 H2) : SB p H H2 := fun c o n h => b c o n (a c o n h)
theorem SB.upd {p : Addr} {H H' : Hp} {o : HO} (s : SB p H H') : SB p H (upd H' p o) := fun b u n h => by
  rw [upd_ne n]
  exact s b u n h
theorem SB.same {p : Addr} {H H' : Hp} (s : SB p H H') (n : H p = none) : Same H H' := fun b o h => s b o (ne_of_none h n) h
theorem Same.mut {p : Addr} {H H' : Hp} {o : HO} (s : Same H H') (n : H p = none) : Same H (L2.upd H' p o) := fun b u h => by
  rw [upd_ne (ne_of_none h n)]
  exact s b u h
theorem SB.sq {K : PySem.W.Frag} {p a : Addr} {H H' : Hp} {xs : List V} (s : SB p H H') (n : a ≠ p) (h : SqL K H a xs) : SqL K H' a xs := by
  rcases h with (h | ⟨o, h⟩) | h
  · exact .inl (.inl (s _ _ n h))
  · exact .inl (.inr ⟨o, s _ _ n h⟩)
  · exact .inr h
theorem Same.sqT {K : PySem.W.Frag} {a : Addr} {H H' : Hp} {xs : List V} (s : Same H H') (h : SqT K H a xs) : SqT K H' a xs := by
  rcases h with (h | ⟨o, h⟩) | h
  · exact .inl (.inl (s _ _ h))
  · exact .inl (.inr ⟨o, s _ _ h⟩)
  · exact .inr h
theorem Same.sqK {b : Bool} {K : PySem.W.Frag} {a : Addr} {H H' : Hp} {xs : List V} (s : Same H H') (h : SqK b K H a xs) : SqK b K H' a xs := by
  cases b
  · exact Z.Same.sqT s h
  · exact s.seq h
theorem at_map {α : Type} {f : α → V} {xs : List α} {i : Nat} {x : α} (h : xs[i]? = some x) : atI (xs.map f) (i : Int) = some (f x) := atI_nat (by rw [List.getElem?_map, h]; rfl)
theorem of_map {α : Type} {f : α → V} {xs : List α} {i : Nat} {v : V} (h : (xs.map f)[i]? = some v) : ∃ x, xs[i]? = some x ∧ v = f x := by
  rw [List.getElem?_map] at h
  cases e : xs[i]? with
  | none => rw [e] at h; cases h
  | some x => rw [e] at h; exact ⟨x, rfl, (Option.some.inj h).symm⟩
end Z
set_option Elab.async false
set_option linter.all false
set_option maxRecDepth 100000
set_option maxHeartbeats 4000000
namespace Z
open PySem PySem.Spec PyProof.Rows L2
/-! ### data -/
def sqD (b : Bool) (ds : List PyData) : PyData := match b with
  | true => .list ds
  | false => .tuple ds
def intsD (b : Bool) (ns : List Int) : PyData := sqD b (ns.map PyData.int)
def matD (b : Bool) (rs : List (List Int)) : PyData := sqD b (rs.map (intsD b))
theorem dp_sq {b : Bool} {K : PySem.W.Frag} {H : Hp} {a : Addr} {xs : List V} {ds : List PyData} (h : SqK b K H a xs) (d : DpAll K H xs ds) : Dp K H (.ref a) (sqD b ds) := by
  cases b
  · exact .tup h d
  · exact .lst h d
theorem dpa_ints {K : PySem.W.Frag} {H : Hp} : ∀ ns : List Int, DpAll K H (ns.map V.int) (ns.map PyData.int)
  | [] => .nil
  | n :: r => .cons (.int n) (dpa_ints r)
theorem dp_ints {b : Bool} {K : PySem.W.Frag} {H : Hp} {a : Addr} {ns : List Int} (h : SqK b K H a (ns.map V.int)) : Dp K H (.ref a) (intsD b ns) := dp_sq h (dpa_ints ns)
/-- a matrix: a list (or tuple) of lists (or tuples) of ints, at ps -/
def Mat (b : Bool) (K : PySem.W.Frag) (H : Hp) (a : Addr) (ps : List Addr) (rs : List (List Int)) : Prop := SqK b K H a (ps.map V.ref) ∧ ps.length = rs.length ∧ ∀ (i : Nat) (p : Addr) (r : List Int), ps[i]? = some p → rs[i]? = some r → SqK b K H p (r.map V.int)
theorem Mat.mono {b : Bool} {K : PySem.W.Frag} {H H' : Hp} {a : Addr} {ps : List Addr} {rs : List (List Int)} (s : Same H H') (m : Mat b K H a ps rs) : Mat b K H' a ps rs := ⟨Z.Same.sqK s m.1, m.2.1, fun i p r h1 h2 => Z.Same.sqK s (m.2.2 i p r h1 h2)⟩
theorem dpa_mat {b : Bool} {K : PySem.W.Frag} {H : Hp} : ∀ (ps : List Addr) (rs : List (List Int)), ps.length = rs.length → (∀ (i : Nat) (p : Addr) (r : List Int), ps[i]? = some p → rs[i]? = some r → SqK b K H p (r.map V.int)) → DpAll K H (ps.map V.ref) (rs.map (intsD b))
  | [], [], _, _ => .nil
  | p :: ps, r :: rs, hl, h => .cons (dp_ints (h 0 p r rfl rfl)) (dpa_mat ps rs (by simpa using hl) fun i q s h1 h2 => h (i + 1) q s h1 h2)
theorem Mat.dp {b : Bool} {K : PySem.W.Frag} {H : Hp} {a : Addr} {ps : List Addr} {rs : List (List Int)} (m : Mat b K H a ps rs) : Dp K H (.ref a) (matD b rs) := dp_sq m.1 (dpa_mat ps rs m.2.1 m.2.2)
theorem lay_ints : ∀ ns : List Int, PyData.canLayAll0 (ns.map PyData.int) = true
  | [] => rfl
  | n :: r => by
    rw [List.map_cons, PyData.canLayAll0, lay_ints r]
    rfl
theorem dep_ints : ∀ ns : List Int, PyData.depthAll (ns.map PyData.int) = 0
  | [] => rfl
  | n :: r => by
    rw [List.map_cons, PyData.depthAll, dep_ints r]
    rfl
theorem shaped_ints (b : Bool) (ns : List Int) : SeqAt.shaped (intsD b ns) = true := by
  unfold SeqAt.shaped intsD
  cases b
  · show (PyData.canLayAll0 (ns.map PyData.int) && decide (PyData.depthAll (ns.map PyData.int) + 1 ≤ 64)) = true
    rw [lay_ints, dep_ints]
    rfl
  · show (PyData.canLayAll0 (ns.map PyData.int) && decide (PyData.depthAll (ns.map PyData.int) + 1 ≤ 64)) = true
    rw [lay_ints, dep_ints]
    rfl
theorem lay_mat (b : Bool) : ∀ rs : List (List Int), PyData.canLayAll0 (rs.map (intsD b)) = true
  | [] => rfl
  | n :: r => by
    rw [List.map_cons, PyData.canLayAll0, lay_mat b r, SeqAt.canLay_of_shaped (shaped_ints b n)]
    rfl
theorem dep_mat (b : Bool) : ∀ rs : List (List Int), PyData.depthAll (rs.map (intsD b)) ≤ 1
  | [] => Nat.zero_le _
  | n :: r => by
    rw [List.map_cons, PyData.depthAll]
    have h := dep_mat b r
    have h2 : (intsD b n).depth = 1 := by
      cases b
      · show PyData.depthAll (n.map PyData.int) + 1 = 1
        rw [dep_ints]
      · show PyData.depthAll (n.map PyData.int) + 1 = 1
        rw [dep_ints]
    omega
theorem shaped_mat (b : Bool) (rs : List (List Int)) : SeqAt.shaped (matD b rs) = true := by
  have h := dep_mat b rs
  unfold SeqAt.shaped matD
  cases b
  · show (PyData.canLayAll0 (rs.map (intsD false)) && decide (PyData.depthAll (rs.map (intsD false)) + 1 ≤ 64)) = true
    rw [lay_mat, decide_eq_true (by omega)]
    rfl
  · show (PyData.canLayAll0 (rs.map (intsD true)) && decide (PyData.depthAll (rs.map (intsD true)) + 1 ≤ 64)) = true
    rw [lay_mat, decide_eq_true (by omega)]
    rfl
theorem same2 {K : PySem.W.Frag} {H : Hp} {x y : V} {d : PyData} {R : PyData → PyData → Prop} (hx : Dp K H x d) (hy : Dp K H y d) (hs : SeqAt.shaped d = true) (q : R d d) : ∃ d' e', Dp K H x d' ∧ Dp K H y e' ∧ SeqAt.shaped d' = true ∧ SeqAt.shaped e' = true ∧ R d' e' := ⟨d, d, hx, hy, hs, hs, q⟩
theorem eqv_same {d : PyData} (hs : SeqAt.shaped d = true) : PyData.eqv d d = true := SeqAt.eqv_refl d (SeqAt.canLay_of_shaped hs)
/-! ### a target that is one of two kinds -/
def gOr (t u : TG) : TG := fun v σ H Q => t v σ H Q ∨ u v σ H Q
theorem pg_or {X : Cx} {e : Expr} {t u : TG} (h1 : PG X e t) (h2 : PG X e u) : PG X e (gOr t u) := by
  refine ⟨fun pins s σ H v uu Q I r hw => ?_⟩
  rcases hw with h | h
  · exact h1.run pins s σ H v uu Q I r h
  · exact h2.run pins s σ H v uu Q I r h
/-! ### isinstance of built-in kinds -/
theorem isi {K : PySem.W.Frag} {H : Hp} {x : V} {T c : String} {b : Bool} {R : Bool → Prop} (t : TyOf K H x (.type T)) (h : kitB T c = some b) (q : R b) : ∃ (x' c' : V) (t' u' : Value) (b' : Bool), [x, .ty c] = [x', c'] ∧ ClsV c' u' ∧ TyX K H x' t' ∧ PySem.W.kitOne K t' u' = some b' ∧ R b' :=
  ⟨x, .ty c, .type T, .type c, b, rfl, .ty c, .base t, kit_ty h, q⟩
/-! ### rules by the written part itself (within a comprehension's block) -/
section
variable {X : Cx} {K : PySem.W.Frag}
theorem ix_list_K (h : X.K = K) : IxR X (rIxL K) := by subst h; exact ix_list
theorem ix_tup_K (h : X.K = K) : IxR X (rIxT K) := by subst h; exact ix_tup
theorem ix_seq_K (h : X.K = K) : IxR X (rIx K) := by subst h; exact ix_seq
theorem call_len_seq_K (h : X.K = K) : CallR X (.builtin "len") (fun xs H Q => ∃ p ys, xs = [.ref p] ∧ (SqL K H p ys ∨ SqT K H p ys) ∧ Q (.int ys.length) H) := by subst h; exact call_len_seq
theorem call_list_of_K (h : X.K = K) : CallR X (.type "list") (fun xs H Q => ∃ p ys, xs = [.ref p] ∧ (SqL K H p ys ∨ SqT K H p ys) ∧ ∀ l, H l = none → Q (.ref l) (upd H l (.lst ys))) := by subst h; exact call_list_of
theorem call_tuple_of_K (h : X.K = K) : CallR X (.type "tuple") (fun xs H Q => ∃ p ys, xs = [.ref p] ∧ ((SqL K H p ys ∧ ∀ l, H l = none → Q (.ref l) (upd H l (.tup ys))) ∨ (SqT K H p ys ∧ Q (.ref p) H))) := by subst h; exact call_tuple_of
theorem op_in_seq_K (h : X.K = K) : OpR X (compareOp .In) (rIn K false) := by subst h; exact op_in_seq
theorem op_notIn_seq_K (h : X.K = K) : OpR X (compareOp .NotIn) (rIn K true) := by subst h; exact op_notIn_seq
theorem op_eqD_K (h : X.K = K) (hu : X.A.units + 64 < cLine) : OpR X (compareOp .Eq) (rEqD K) := by subst h; exact op_eqD hu
theorem op_neD_K (h : X.K = K) (hu : X.A.units + 64 < cLine) : OpR X (compareOp .NotEq) (rNeD K) := by subst h; exact op_neD hu
theorem call_isi_K (h : X.K = K) : CallR X (.builtin "isinstance") (rIsi K) := by subst h; exact call_isi
end
/-! ### great products -/
theorem big_mul {i j : Int} (hi : i.natAbs < 2 ^ 4000) (hj : j.natAbs < 2 ^ 4000) : CMulX i j := mulx_ok hi hj (by decide)
/-! ### sums of multiples of rows -/
def combN (rs : List (List Int)) (fs : List Int) (w : Nat) : Nat → List Int
  | 0 => List.replicate w 0
  | n + 1 => List.zipWith (fun a b => a + fs.getD n 0 * b) (combN rs fs w n) (rs.getD n [])
theorem combN_len {rs : List (List Int)} {fs : List Int} {w : Nat} (h : ∀ r ∈ rs, r.length = w) : ∀ n, n ≤ rs.length → (combN rs fs w n).length = w
  | 0, _ => List.length_replicate
  | n + 1, hn => by
    rw [combN, List.length_zipWith, combN_len h n (by omega), List.getD_eq_getElem?_getD, List.getElem?_eq_getElem (by omega), Option.getD_some, h _ (List.getElem_mem _)]
    omega
theorem combN_at {rs : List (List Int)} {fs : List Int} {w i c : Nat} (hi : i < rs.length) (hf : i < fs.length) (c1 : c < (combN rs fs w i).length) (c2 : c < rs[i].length) : (combN rs fs w (i + 1))[c]? = some ((combN rs fs w i)[c] + fs[i] * rs[i][c]) := by
  have g1 : fs.getD i 0 = fs[i] := by rw [List.getD_eq_getElem?_getD, List.getElem?_eq_getElem hf]; rfl
  have g2 : rs.getD i [] = rs[i] := by rw [List.getD_eq_getElem?_getD, List.getElem?_eq_getElem hi]; rfl
  rw [combN, List.getElem?_zipWith, g1, g2, List.getElem?_eq_getElem c1, List.getElem?_eq_getElem c2]
end Z
set_option Elab.async false
set_option linter.all false
set_option maxRecDepth 100000
set_option maxHeartbeats 4000000
namespace Z
open PySem PySem.Spec PyProof.Rows L2
open C8 (pss_cut tCut)
local macro_rules | `(tactic| walk_at "num") => `(tactic| first | omega | decide | exact ⟨by omega, by omega⟩ | exact ⟨by omega, by omega, by omega⟩ | exact ⟨by decide, by decide, by decide⟩ | exact Or.inl ⟨by omega, by omega⟩ | exact Or.inr ⟨by omega, by omega⟩)
local macro_rules | `(tactic| walk_at "go") => `(tactic| repeat (first | refine ⟨_, rfl, ?_⟩ | refine ⟨_, _, rfl, rfl, ?_⟩ | refine ⟨_, _, rfl, rfl, (by walk_at "num"), ?_⟩ | refine Or.inl ⟨_, rfl, ?_⟩ | refine ⟨rfl, ?_⟩ | refine And.intro (by walk_at "num") ?_))
def topS (i : Nat) : Stmt := PySem.Challenge.pw_signedpacts_k70_set_off_bounds.main.body.getD i (.Pass ⟨0, 0, 0, 0⟩)
abbrev s_cell : Stmt := topS 23
abbrev N_cell : List Str := ["_law_script", "_law_k"]
abbrev P_cell : List Str := ["_law_script", "_law_k"]
theorem sc_cell : FnScope N_cell P_cell (defScope s_cell) := ⟨rfl, rfl, rfl, by decide +kernel, rfl, by decide +kernel, by decide +kernel⟩
abbrev s_draws : Stmt := topS 24
abbrev N_draws : List Str := ["_law_cell_here", "_law_many", "_law_rest", "_law_large", "_law_seed", "_law_found", "_law_k"]
abbrev P_draws : List Str := ["_law_cell_here", "_law_many"]
theorem sc_draws : FnScope N_draws P_draws (defScope s_draws) := ⟨rfl, rfl, rfl, by decide +kernel, rfl, by decide +kernel, by decide +kernel⟩
abbrev s_take : Stmt := topS 25
abbrev N_take : List Str := ["_law_draws_here", "_law_place"]
abbrev P_take : List Str := ["_law_draws_here", "_law_place"]
theorem sc_take : FnScope N_take P_take (defScope s_take) := ⟨rfl, rfl, rfl, by decide +kernel, rfl, by decide +kernel, by decide +kernel⟩
abbrev FnP (K : PySem.W.Frag) (x : Str) (st : Stmt) (f : Addr) (fd : FuncData) : Prop := FunD K x x (defArgs st) (defBody st) (defScope st) [] [] f fd
section
variable {P : Program} {w : World} {K : PySem.W.Frag} {mg : Str → Option Value} {base : Heap} {f : Addr} {fd : FuncData}
theorem cal_of {k : Nat} {x : Str} {st : Stmt} {ps : List Str} {sp : Sp} (F : FnP K x st f fd) (g : mg x = some (.ref f)) (b : Binds K fd ps []) (h : FnOk P w K mg base CX0 k f fd ps sp) : Cal P w K mg base k x sp := ⟨f, fd, ps, h, g, F.kp, b⟩
/-! ### _law_cell -/
def spCell (K : PySem.W.Frag) : Sp := fun vs H Q _ => ∃ (a : Addr) (ns : List Int) (k : Nat), vs = [.ref a, .int (k : Int)] ∧ SqL K H a (ns.map V.int) ∧ Q (.int (ns.getD k 0)) H
theorem ok_cell (F : FnP K "_law_cell" s_cell f fd) (m_len : mg "len" = none) (m_int : mg "int" = none) : FnOk P w K mg base CX0 1 f fd P_cell (spCell K) := by
  refine F.ok sc_cell (fun vs H Q E h => ?_) (fun cdv A outer s H vs Q E hr h => ?_)
  · obtain ⟨a, ns, k, rfl, _⟩ := h
    rfl
  · obtain ⟨a, ns, k, rfl, hS, q⟩ := h
    refine ⟨_, PSs.nox (pss_cons (ps_if (pt_cmpR op_lt (pv 1) (pe_callB call_len_seq (by rfl) m_len PySem.boot_len (pa_cons (pv 0) pa_nil)) (nomark _)) (pss_one (ps_ret (pe_callTy call_int1 (by rfl) m_int (by decide +kernel) (pa_cons (pe_ix ix_list (pv 0) (pv 1) (fun _ _ => rfl)) pa_nil)))) pss_nil)
      (pss_one (ps_ret pe_int))), ?_⟩
    walk_at "go"
    refine ⟨a, _, rfl, .inl hS, ?_⟩
    walk_at "go"
    rw [List.length_map]
    refine ite2 (fun e => ?_) (fun e => ?_)
    · have hk : k < ns.length := by have := of_decide_eq_true e; omega
      walk_at "go"
      refine ⟨a, _, _, _, rfl, rfl, hS, at_map (List.getElem?_eq_getElem hk), ?_⟩
      walk_at "go"
      rw [List.getD_eq_getElem?_getD, List.getElem?_eq_getElem hk] at q
      exact q
    · have hk : ¬ k < ns.length := fun z => e (decide_eq_true (by omega))
      rw [List.getD_eq_getElem?_getD, List.getElem?_eq_none (by omega)] at q
      exact q
/-! ### _law_draws -/
def Dr (n : Nat) (ds : List Int) : Prop := ds.length = n ∧ ∀ d ∈ ds, 0 ≤ d ∧ d < 1000000
def spDraws : Sp := fun vs H Q _ => ∃ (c : Int) (n : Nat), vs = [.int c, .int (n : Int)] ∧ n ≤ 100000 ∧ ∀ p ds, H p = none → Dr n ds → Q (.ref p) (upd H p (.lst (ds.map V.int)))
theorem ok_draws (F : FnP K "_law_draws" s_draws f fd) (m_int : mg "int" = none) (m_abs : mg "abs" = none) (m_range : mg "range" = none) : FnOk P w K mg base CX0 1 f fd P_draws spDraws := by
  refine F.ok sc_draws (fun vs H Q E h => ?_) (fun cdv A outer s H vs Q E hr h => ?_)
  · obtain ⟨c, n, rfl, _⟩ := h
    rfl
  · obtain ⟨c, n, rfl, hn, q⟩ := h
    refine ⟨_, PSs.nox (pss_cons (ps_set (i := 2) sc_draws.nd rfl (by first | exact .inl rfl | exact .inr rfl) (pe_callB call_abs (by rfl) m_abs (by decide +kernel) (pa_cons (pe_callTy call_int1 (by rfl) m_int (by decide +kernel) (pa_cons (pv 0) pa_nil)) pa_nil)))
      (pss_cons (ps_set (i := 3) sc_draws.nd rfl (by first | exact .inl rfl | exact .inr rfl) (pe_cmpR op_ge (pv 2) (pe_op op_pow pe_int pe_int) (nomark _)))
      (pss_cons (ps_set (i := 4) sc_draws.nd rfl (by first | exact .inl rfl | exact .inr rfl) (pe_op op_mod (pe_callTy call_int1 (by rfl) m_int (by decide +kernel) (pa_cons (pv 2) pa_nil)) pe_int))
      (pss_cons (ps_set (i := 5) sc_draws.nd rfl (by first | exact .inl rfl | exact .inr rfl) (pe_lst pa_nil))
      (pss_cons (ps_for PassesOwn.never rfl (pi_range1 (by rfl) m_range (pa_cons (pv 1) pa_nil)) (pg_name (i := 6) sc_draws.nd rfl (by first | exact .inl rfl | exact .inr rfl))
        (pss_cons (ps_set (i := 4) sc_draws.nd rfl (by first | exact .inl rfl | exact .inr rfl) (pe_op op_mod (pe_callTy call_int1 (by rfl) m_int (by decide +kernel) (pa_cons (pe_op op_add (pe_op op_add (pe_op op_mul (pv 4) pe_int) (pe_op op_mul pe_int (pv 6))) pe_int) pa_nil)) pe_int))
      (pss_one (ps_if (PW.pt (pw_and (pt_val (pv 3)) (pw_and1 (pt_cmpR op_gt (pv 2) pe_int (nomark _))))) (pss_cons (ps_expr (pe_bm PySem.F.plainAttrs_list PySem.F.slot_list_append PySem.F.type_list_append mt_append (pv 5) (pa_cons (pe_op op_mod (pe_callTy call_int1 (by rfl) m_int (by decide +kernel) (pa_cons (pv 2) pa_nil)) pe_int) pa_nil)))
      (pss_one (ps_set (i := 2) sc_draws.nd rfl (by first | exact .inl rfl | exact .inr rfl) (pe_op op_fdiv (pv 2) pe_int)))) (pss_one (ps_expr (pe_bm PySem.F.plainAttrs_list PySem.F.slot_list_append PySem.F.type_list_append mt_append (pv 5) (pa_cons (pe_op op_mod (pe_callTy call_int1 (by rfl) m_int (by decide +kernel) (pa_cons (pe_op op_fdiv (pe_op op_mod (pe_callTy call_int1 (by rfl) m_int (by decide +kernel) (pa_cons (pe_op op_add (pe_op op_mul (pv 4) pe_int) (pe_op op_mul pe_int (pv 6))) pa_nil)) pe_int) pe_int) pa_nil)) pe_int) pa_nil))))))))
      (pss_one (ps_ret (pv 5)))))))), ?_⟩
    walk_at "go"
    intro p np
    walk_at "go"
    refine for_gen (n := n) (fun i σ H1 => ∃ (r : Int) (z : Int) (ds : List Int) (v : Option V), 0 ≤ r ∧ 0 ≤ z ∧ z < 2147483647 ∧ Dr i ds ∧ H1 = upd H p (.lst (ds.map V.int)) ∧
      σ = [some (.int c), some (.int (n : Int)), some (.int r), some (.bl (decide ((10 : Int) ^ 18 ≤ (if c < 0 then -c else c)))), some (.int z), some (.ref p), v]) ?_ ?_ ?_ ?_ ?_
    · refine ⟨_, _, [], none, ?_, ?_, ?_, ⟨rfl, fun d hd => nomatch hd⟩, rfl, rfl⟩
      · split <;> omega
      · omega
      · omega
    · intro i σ H1 hi _
      show i < (n : Int).toNat
      omega
    · intro σ H1 _
      show (n : Int).toNat ≤ n
      omega
    · rintro i σ H1 x H' hi ⟨r, z, ds, v, hr0, hz0, hz1, hd, rfl, rfl⟩ ⟨rfl, rfl⟩
      have hlen : (ds.map V.int).length < sizeLine := by
        rw [List.length_map, hd.1]
        exact Nat.lt_of_lt_of_le hi (Nat.le_trans hn (by decide))
      have fin : ∀ (r' z' d : Int) (u : Option V), 0 ≤ r' → 0 ≤ z' → z' < 2147483647 → 0 ≤ d → d < 1000000 → ∃ (r : Int) (z : Int) (es : List Int) (v : Option V), 0 ≤ r ∧ 0 ≤ z ∧ z < 2147483647 ∧ Dr (i + 1) es ∧ upd (upd H p (.lst (ds.map V.int))) p (.lst (ds.map V.int ++ [.int d])) = upd H p (.lst (es.map V.int)) ∧
          [some (.int c), some (.int (n : Int)), some (.int r'), some (.bl (decide ((10 : Int) ^ 18 ≤ (if c < 0 then -c else c)))), some (.int z'), some (.ref p), u] = [some (.int c), some (.int (n : Int)), some (.int r), some (.bl (decide ((10 : Int) ^ 18 ≤ (if c < 0 then -c else c)))), some (.int z), some (.ref p), v] := by
        intro r' z' d u a1 a2 a3 a4 a5
        refine ⟨r', z', ds ++ [d], u, a1, a2, a3, ⟨by rw [List.length_append, hd.1]; rfl, fun x hx => ?_⟩, ?_, rfl⟩
        · rcases List.mem_append.mp hx with h | h
          · exact hd.2 x h
          · rw [List.mem_singleton.mp h]
            exact ⟨a4, a5⟩
        · rw [upd_upd, List.map_append]
          rfl
      walk_at "go"
      refine ite2 (fun e => ?_) (fun e => ?_)
      · walk_at "go"
        refine ite2 (fun e2 => ?_) (fun e2 => ?_)
        · walk_at "go"
          refine ⟨.inl ⟨rfl, _, .inl (.inl upd_same)⟩, ?_⟩
          walk_at "go"
          refine ⟨_, _, _, rfl, rfl, upd_same, hlen, ?_⟩
          walk_at "go"
          exact fin _ _ _ _ (by omega) (by omega) (by omega) (by omega) (by omega)
        · walk_at "go"
          refine ⟨.inl ⟨rfl, _, .inl (.inl upd_same)⟩, ?_⟩
          walk_at "go"
          refine ⟨_, _, _, rfl, rfl, upd_same, hlen, ?_⟩
          walk_at "go"
          exact fin _ _ _ _ (by omega) (by omega) (by omega) (by omega) (by omega)
      · walk_at "go"
        refine ⟨.inl ⟨rfl, _, .inl (.inl upd_same)⟩, ?_⟩
        walk_at "go"
        refine ⟨_, _, _, rfl, rfl, upd_same, hlen, ?_⟩
        walk_at "go"
        exact fin _ _ _ _ (by omega) (by omega) (by omega) (by omega) (by omega)
    · rintro σ H1 ⟨r, z, ds, v, hr0, hz0, hz1, hd, rfl, rfl⟩
      walk_at "go"
      exact q p ds np hd
/-! ### _law_take -/
def spTake (K : PySem.W.Frag) : Sp := fun vs H Q _ => ∃ (a p : Addr) (n m : Nat) (ds : List Int), vs = [.ref a, .ref p] ∧ SqL K H a (ds.map V.int) ∧ Dr n ds ∧ H p = some (.lst [.int (m : Int)]) ∧ a ≠ p ∧ ∀ r : Int, 0 ≤ r → r < 1000000 → Q (.int r) (upd H p (.lst [.int ((m + 1 : Nat) : Int)]))
theorem ok_take (F : FnP K "_law_take" s_take f fd) (m_len : mg "len" = none) : FnOk P w K mg base CX0 1 f fd P_take (spTake K) := by
  refine F.ok sc_take (fun vs H Q E h => ?_) (fun cdv A outer s H vs Q E hr h => ?_)
  · obtain ⟨a, p, n, m, ds, rfl, _⟩ := h
    rfl
  · obtain ⟨a, p, n, m, ds, rfl, hS, hd, hp, ne, q⟩ := h
    refine ⟨_, PSs.nox (pss_cons (ps_asg (pe_op op_add (pe_ix ix_list (pv 1) pe_int (fun _ _ => rfl)) pe_int) (pg_sub (pv 1) pe_int set_list))
      (pss_cons (ps_if (pt_cmpR op_gt (pe_ix ix_list (pv 1) pe_int (fun _ _ => rfl)) (pe_callB call_len_seq (by rfl) m_len PySem.boot_len (pa_cons (pv 0) pa_nil)) (nomark _)) (pss_one (ps_ret pe_int)) pss_nil)
      (pss_one (ps_ret (pe_ix ix_list (pv 0) (pe_op op_sub (pe_ix ix_list (pv 1) pe_int (fun _ _ => rfl)) pe_int) (fun _ _ => rfl)))))), ?_⟩
    have sb : SB p H (upd H p (.lst [.int ((m + 1 : Nat) : Int)])) := SB.upd (Z.Same.sb (Same.refl H))
    have hS' := sb.sq ne hS
    walk_at "go"
    refine ⟨p, _, 0, _, rfl, rfl, SqL.of hp, rfl, ?_⟩
    walk_at "go"
    refine ⟨p, _, 0, 0, rfl, rfl, hp, rfl, ?_⟩
    show tSeq _ _ _ _ (upd H p (.lst [.int ((m : Int) + 1)]))
    rw [show ((m : Int) + 1) = ((m + 1 : Nat) : Int) by omega]
    walk_at "go"
    refine ⟨p, _, 0, _, rfl, rfl, SqL.of upd_same, rfl, ?_⟩
    walk_at "go"
    refine ⟨a, _, rfl, .inl hS', ?_⟩
    walk_at "go"
    rw [List.length_map]
    refine ite2 (fun e => ?_) (fun e => ?_)
    · exact q 0 (by omega) (by omega)
    · have hk : m < ds.length := by
        apply Decidable.byContradiction
        intro z
        exact e (decide_eq_true (by omega))
      walk_at "go"
      refine ⟨p, _, 0, _, rfl, rfl, SqL.of upd_same, rfl, ?_⟩
      walk_at "go"
      refine ⟨a, _, _, _, rfl, rfl, hS', at_of (by omega) (show (ds.map V.int)[m]? = some (.int ds[m]) by rw [List.getElem?_map, List.getElem?_eq_getElem hk]; rfl), ?_⟩
      have h1 := hd.2 ds[m] (List.getElem_mem hk)
      exact q _ h1.1 h1.2
end
end Z
set_option Elab.async false
set_option linter.all false
set_option maxRecDepth 100000
set_option maxHeartbeats 4000000
namespace Z
open PySem PySem.Spec PyProof.Rows L2
/-! ### own classes: making, methods, calls of instances, == -/
structure Mak (P : Program) (w : World) (K : PySem.W.Frag) (mg : Str → Option Value) (base : Heap) (k : Nat) (x : Str) (sp : Sp) : Prop where
  ex : ∃ (C f : Addr) (fd : FuncData) (ps : List Str) (si : Sp), Mk K C f ∧ FnOk P w K mg base CX0 k f fd ps si ∧ mg x = some (.ref C) ∧ Binds K fd ps [] ∧
    ∀ vs H Q E, sp vs H Q E → ∀ n dx, H n = none → H dx = none → dx ≠ n → si (.ref n :: vs) (upd (upd H dx (.own n)) n (.ins C dx [])) (fun v H2 => v = .non ∧ Q (.ref n) H2) E
structure Met (P : Program) (w : World) (K : PySem.W.Frag) (mg : Str → Option Value) (base : Heap) (k : Nat) (C : Addr) (m : Str) (sp : Sp) : Prop where
  ex : ∃ (f : Addr) (fd : FuncData) (ps : List Str), Cls K C ∧ Meth K C m f ∧ FnOk P w K mg base CX0 k f fd ps sp ∧ Binds K fd ps []
section
variable {X : Cx} {k j : Nat} {x m : Str} {sp : Sp} {C : Addr} {p pos apos : Pos} {e o : Expr} {es : List Expr} {t : TA} {ta : TE}
theorem pe_mk (c : Mak X.prog X.w X.K X.mg X.base k x sp) (hr : Room j X.A) (hk : k + 1 ≤ j) (hg : Gl X x) (ha : PA X (e :: es) t)
    (hdb : (x == ("__debug__" : Str)) = false := by decide) (he : starEach (e :: es) X.env = (false, eval e X.env) :: starEach es X.env := by rfl) (hpl : (backTo pos (starEach es X.env)).any (·.1) = false := by rfl) : PE X (.Call (.Name x p) (e :: es) [] pos) (tCall sp [] E0 t) := by
  obtain ⟨C, f, fd, ps, si, M, F, hm, b, imp⟩ := c.ex
  constructor
  intro pins s σ H Q I h
  refine wpAny_Call_Name_kw (ld_glob I hg hm ?_ hdb)
  refine PySem.W.callWith_K (h₀ := X.base) I.ok.mod.kin M.kp (thn (ha.run pos pins s σ H _ I h) fun us s1 ⟨vs, H1, I1, r, q⟩ => ⟨I1.kIn, ?_⟩) he hpl
  have q2 : sp vs H1 Q E0 := by
    have z : sp (vs ++ []) H1 Q E0 := q
    rw [List.append_nil] at z
    exact z
  refine run_make (dvs := []) M F (hr.mono hk) b .nil pass0 I1 r (fun n dx n1 n2 n3 => ?_)
  rw [List.append_nil]
  exact imp _ _ _ _ q2 n dx n1 n2 n3
theorem pe_me {pl : Sem Bool} (c : Met X.prog X.w X.K X.mg X.base k C m sp) (he : PE X o ta) (hr : Room j X.A) (hk : k ≤ j) (ha : PA X (e :: es) t)
    (hst : starEach (e :: es) X.env = (false, eval e X.env) :: starEach es X.env := by rfl) (hpl : (backTo pos (starEach es X.env)).any (·.1) = false := by rfl)
    (ht : eval (.Call (.Attribute o m apos) (e :: es) [] pos) X.env = (do
      let ov ← eval o X.env
      standAt apos.atName
      let (f, first) ← holding [ov] (getMethod ov m pl)
      callWith pos f first (backTo pos (starEach (e :: es) X.env)) (backToKw pos (keywordEach [] X.env))) := by rfl) : PE X (.Call (.Attribute o m apos) (e :: es) [] pos) (tMeth C m sp [] E0 ta t) := by
  obtain ⟨f, fd, ps, cl, me, F, b⟩ := c.ex
  exact pe_meth he cl me F (hr.mono hk) b .nil pass0 ha hst hpl ht
theorem pe_me0 {pl : Sem Bool} (c : Met X.prog X.w X.K X.mg X.base k C m sp) (he : PE X o ta) (hr : Room j X.A) (hk : k ≤ j)
    (ht : eval (.Call (.Attribute o m apos) [] [] pos) X.env = (do
      let ov ← eval o X.env
      standAt apos.atName
      let (f, first) ← holding [ov] (getMethod ov m pl)
      callWith pos f first (backTo pos (starEach [] X.env)) (backToKw pos (keywordEach [] X.env))) := by rfl) : PE X (.Call (.Attribute o m apos) [] [] pos) (tMeth C m sp [] E0 ta tNil) := by
  obtain ⟨f, fd, ps, cl, me, F, b⟩ := c.ex
  exact pe_meth0 he cl me F (hr.mono hk) b .nil pass0 ht
end
/-! ### f(e, ..), f an instance of C -/
structure Cob (P : Program) (w : World) (K : PySem.W.Frag) (mg : Str → Option Value) (base : Heap) (k : Nat) (C : Addr) (sp : Sp) : Prop where
  ex : ∃ g : Addr, StX.CallO K C g ∧ FnR P w K mg base CX0 k g sp
def tCo (C : Addr) (sp : Sp) (tf : TE) (t : TA) : TE := fun σ H Q => tf σ H fun y H1 => ∃ a, y = V.ref a ∧ t σ H1 fun vs H2 => (∃ dx fs, H2 a = some (.ins C dx fs)) ∧ sp (V.ref a :: vs) H2 Q E0
section
variable {X : Cx} {k j : Nat} {sp : Sp} {C : Addr} {pos : Pos} {e fe : Expr} {es : List Expr} {t : TA} {tf : TE}
theorem pe_co (c : Cob X.prog X.w X.K X.mg X.base k C sp) (hf : PE X fe tf) (hr : Room j X.A) (hk : k ≤ j) (ha : PA X (e :: es) t)
    (ht : eval (.Call fe (e :: es) [] pos) X.env = (do callWith pos (← eval fe X.env) [] (backTo pos (starEach (e :: es) X.env)) (backToKw pos (keywordEach [] X.env))) := by rfl)
    (he : starEach (e :: es) X.env = (false, eval e X.env) :: starEach es X.env := by rfl) (hpl : (backTo pos (starEach es X.env)).any (·.1) = false := by rfl) : PE X (.Call fe (e :: es) [] pos) (tCo C sp tf t) := by
  obtain ⟨g, co, F⟩ := c.ex
  constructor
  intro pins s σ H Q I h
  refine Call_ (thn (hf.run pins s σ H _ I h) fun u s1 ⟨y, H1, I1, ry, a, ey, q⟩ => ?_) ht
  subst ey
  obtain rfl : u = Value.ref a := ry
  refine StX.callO_with (thn (ha.run pos pins s1 σ H1 _ I1 q) fun us s2 ⟨vs, H2, I2, r, hi, q2⟩ => ?_) he hpl
  have hi2 : StX.InsC X H2 a C := .inr hi
  obtain ⟨ox, od, J, hd⟩ := StX.insC_at I2 hi2
  exact ⟨⟨C, ox, od, J, hd⟩, StX.run_callO co F (hr.mono hk) pass0 I2 hi2 r q2⟩
end
/-! ### a == b by the class's own __eq__ -/
structure Eqo (P : Program) (w : World) (K : PySem.W.Frag) (mg : Str → Option Value) (base : Heap) (k : Nat) (C : Addr) (sp : Sp) : Prop where
  ex : ∃ (f : Addr) (fd : FuncData) (ps : List Str), FnOk P w K mg base CX0 k f fd ps sp ∧ PySem.W.findIn K (.ref C) "__eq__" = some (some (.ref f)) ∧ PySem.W.isFn K (.ref f) = true ∧ Binds K fd ps []
def rOwn (C : Addr) (sp : Sp) : R2 := fun x y H Q => ∃ a b dx dy fs gs, x = .ref a ∧ y = .ref b ∧ H a = some (.ins C dx fs) ∧ H b = some (.ins C dy gs) ∧ sp [.ref a, .ref b] H (fun v H' => ∃ r, v = .bl r ∧ Q v H') E0
theorem op_own {X : Cx} {k j : Nat} {C : Addr} {sp : Sp} (c : Eqo X.prog X.w X.K X.mg X.base k C sp) (hr : Room j X.A) (hk : k ≤ j) : OpR X (compareOp .Eq) (rOwn C sp) := by
  intro pins s σ H x y v u Q I rx ry hq
  obtain ⟨f, fd, ps, F, hs, hf, hb⟩ := c.ex
  obtain ⟨a, b, dx, dy, fs, gs, rfl, rfl, ha, hb', q⟩ := hq
  cases rx
  cases ry
  obtain ⟨mA, J, _⟩ := ins_get I.hok ha
  obtain ⟨mB, J', _⟩ := ins_get I.hok hb'
  obtain ⟨od, J, _⟩ := J.look
  obtain ⟨od', J', _⟩ := J'.look
  obtain ⟨m, hF⟩ := I.fr
  show wpAny (model X.prog X.w) X.A (richCompare .Eq (Value.ref a) (Value.ref b)) (EP X pins σ Q) X.xe s
  refine PySem.W.cmp_K (op := .Eq) (tb := .ref C) (hr.mono hk).units0 hF I.ok.mod.kin J J'.type (by simp [PySem.W.notFirst]) hs hf ?_
  have r2 : Vals [V.ref a, V.ref b] [Value.ref a, Value.ref b] := .cons rfl (.cons rfl .nil)
  refine thn (run_fn (dvs := []) F (hr.mono hk) hb .nil pass0 I r2 q) fun r s' z => ?_
  obtain ⟨v, H', I', rv, b', rfl, q'⟩ := z
  cases rv
  exact ⟨.bl b', H', I', rfl, q'⟩
end Z
set_option Elab.async false
set_option linter.all false
set_option maxRecDepth 100000
set_option maxHeartbeats 4000000
namespace Z
open PySem PySem.Spec PyProof.Rows L2
/-! ### comprehensions that give ints, over a list of ints and over a range -/
theorem lc_ofs {K : PySem.W.Frag} {J : It} {D : Addr} {n : Nat} {H0 : Hp} {i : Nat} {te : TE} {vs : List Nat} {σ : L2.St} {Qd : Hp → Prop} (g : Nat → Int) (xv : Nat → V) (hn : n ≤ 1000000) (nD : H0 D = none)
    (hgo : ∀ k H1, k < n → Same H0 H1 → J.go k H1) (hst : ∀ H1, Same H0 H1 → J.stop n H1) (hy : ∀ k H1 x H2, k < n → Same H0 H1 → J.yld k H1 x H2 → H2 = H1 ∧ x = xv k)
    (hw : ∀ k, wipe ((wipe σ vs).set i (some (xv k))) vs = wipe σ vs)
    (ht : ∀ k H1 (Q : VK), k < n → Same H0 H1 → (∀ H2, Same H1 H2 → Q (.int (g k)) H2) → te ((wipe σ vs).set i (some (xv k))) H1 Q)
    (hd : ∀ H1, Same H0 H1 → H1 D = some (.lst (((List.range n).map g).map V.int)) → Qd H1) : lcW J (gName i) tYes te vs σ D Qd H0 := by
  refine lc_gen (n := n) (fun k H1 => Same H0 H1 ∧ H1 D = some (.lst (((List.range k).map g).map V.int))) ⟨same_new nD, upd_same⟩ (fun k H1 hk p => hgo k H1 hk p.1) (fun H1 p => hst H1 p.1) ?_ (fun H1 p => hd H1 p.1 p.2)
  rintro k H1 x H2 hk ⟨s, e⟩ y
  obtain ⟨rfl, rfl⟩ := hy k H1 x H2 hk s y
  refine ⟨hw k, ?_⟩
  refine ht k _ _ hk s (fun H3 s3 => ⟨_, s3 _ _ e, ?_, Z.Same.mut (s.trans s3) nD, ?_⟩)
  · rw [List.length_map, List.length_map, List.length_range]
    exact Nat.lt_of_lt_of_le hk (Nat.le_trans hn (by decide))
  · rw [upd_same, List.range_succ, List.map_append, List.map_append]
    rfl
theorem lc_rng {K : PySem.W.Frag} {lo : Int} {D : Addr} {n : Nat} {H0 : Hp} {i : Nat} {te : TE} {vs : List Nat} {σ : L2.St} {Qd : Hp → Prop} (g : Nat → Int) (hn : n ≤ 1000000) (nD : H0 D = none) (hw : ∀ k : Nat, wipe ((wipe σ vs).set i (some (.int (lo + k)))) vs = wipe σ vs)
    (ht : ∀ (k : Nat) H1 (Q : VK), k < n → Same H0 H1 → (∀ H2, Same H1 H2 → Q (.int (g k)) H2) → te ((wipe σ vs).set i (some (.int (lo + k)))) H1 Q)
    (hd : ∀ H1, Same H0 H1 → H1 D = some (.lst (((List.range n).map g).map V.int)) → Qd H1) : lcW (Itr lo n) (gName i) tYes te vs σ D Qd H0 :=
  lc_ofs (K := K) g (fun k => .int (lo + k)) hn nD (fun k H1 hk _ => hk) (fun H1 _ => Nat.le_refl _) (fun k H1 x H2 _ _ y => y) hw ht hd
theorem lc_lst {K : PySem.W.Frag} {a D : Addr} {xs : List Int} {H0 : Hp} {i : Nat} {te : TE} {vs : List Nat} {σ : L2.St} {Qd : Hp → Prop} (hS : SqL K H0 a (xs.map V.int)) (g : Int → Int) (hn : xs.length ≤ 1000000) (nD : H0 D = none) (hw : ∀ x : Int, wipe ((wipe σ vs).set i (some (.int x))) vs = wipe σ vs)
    (ht : ∀ x H1 (Q : VK), x ∈ xs → Same H0 H1 → (∀ H2, Same H1 H2 → Q (.int (g x)) H2) → te ((wipe σ vs).set i (some (.int x))) H1 Q)
    (hd : ∀ H1, Same H0 H1 → H1 D = some (.lst ((xs.map g).map V.int)) → Qd H1) : lcW (Itl K a) (gName i) tYes te vs σ D Qd H0 := by
  have ex : ∀ k, k < xs.length → (xs.map V.int)[k]? = some (.int (xs.getD k 0)) := fun k hk => by
    rw [List.getElem?_map, List.getD_eq_getElem?_getD, List.getElem?_eq_getElem hk]
    rfl
  refine lc_ofs (K := K) (n := xs.length) (fun k => g (xs.getD k 0)) (fun k => .int (xs.getD k 0)) hn nD (fun k H1 hk s => ⟨_, _, s.seq hS, ex k hk⟩) (fun H1 s => ⟨_, s.seq hS, by rw [List.length_map]; exact Nat.le_refl _⟩) (fun k H1 x H2 hk s y => ⟨y.1, Option.some.inj ((y.2 _ (s.seq hS)).symm.trans (ex k hk))⟩) (fun k => hw _) (fun k H1 Q hk s q => ht _ H1 Q ?_ s q) (fun H1 s e => hd H1 s ?_)
  · rw [List.getD_eq_getElem?_getD, List.getElem?_eq_getElem hk]
    exact List.getElem_mem hk
  · rw [e]
    congr 2
    congr 1
    apply List.ext_getElem
    · rw [List.length_map, List.length_map, List.length_range]
    · intro k h1 h2
      rw [List.length_map] at h2
      rw [List.getElem_map, List.getElem_map, List.getElem_range, List.getD_eq_getElem?_getD, List.getElem?_eq_getElem h2]
      rfl
/-- for x in xs, ints -/
theorem for_lst {K : PySem.W.Frag} {a : Addr} {xs : List Int} {H0 H : Hp} {i : Nat} {tb : TS} {D : Ends} {σ : L2.St} (hS : SqL K H0 a (xs.map V.int)) (Pv : Nat → L2.St → Hp → Prop) (h0 : Pv 0 σ H) (hq : ∀ k σ H1, Pv k σ H1 → Same H0 H1)
    (hs : ∀ (k : Nat) (x : Int) (σ : L2.St) (H1 : Hp), xs[k]? = some x → Pv k σ H1 → tb { D with nx := Pv (k + 1), ct := Pv (k + 1), bk := D.nx } (σ.set i (some (.int x))) H1)
    (hd : ∀ σ H1, Pv xs.length σ H1 → D.nx σ H1) : forW (Itl K a) (gName i) tb D σ H := by
  have ex : ∀ k, k < xs.length → (xs.map V.int)[k]? = some (.int (xs.getD k 0)) := fun k hk => by
    rw [List.getElem?_map, List.getD_eq_getElem?_getD, List.getElem?_eq_getElem hk]
    rfl
  refine for_gen (n := xs.length) Pv h0 (fun k σ H1 hk p => ⟨_, _, (hq k σ H1 p).seq hS, ex k hk⟩) (fun σ H1 p => ⟨_, (hq _ σ H1 p).seq hS, by rw [List.length_map]; exact Nat.le_refl _⟩) ?_ hd
  intro k σ H1 x H2 hk p y
  obtain ⟨rfl, e⟩ := y
  have e2 := Option.some.inj ((e _ ((hq k σ _ p).seq hS)).symm.trans (ex k hk))
  subst e2
  refine hs k _ σ _ ?_ p
  rw [List.getD_eq_getElem?_getD, List.getElem?_eq_getElem hk]
  rfl
/-- for x in xs, any values -/
theorem for_vs {K : PySem.W.Frag} {a : Addr} {xs : List V} {H0 H : Hp} {i : Nat} {tb : TS} {D : Ends} {σ : L2.St} (hS : SqL K H0 a xs) (Pv : Nat → L2.St → Hp → Prop) (h0 : Pv 0 σ H) (hq : ∀ k σ H1, Pv k σ H1 → Same H0 H1)
    (hs : ∀ (k : Nat) (x : V) (σ : L2.St) (H1 : Hp), xs[k]? = some x → Pv k σ H1 → tb { D with nx := Pv (k + 1), ct := Pv (k + 1), bk := D.nx } (σ.set i (some x)) H1)
    (hd : ∀ σ H1, Pv xs.length σ H1 → D.nx σ H1) : forW (Itl K a) (gName i) tb D σ H := by
  refine for_gen (n := xs.length) Pv h0 (fun k σ H1 hk p => ⟨_, _, (hq k σ H1 p).seq hS, List.getElem?_eq_getElem hk⟩) (fun σ H1 p => ⟨_, (hq _ σ H1 p).seq hS, Nat.le_refl _⟩) ?_ hd
  intro k σ H1 x H2 hk p y
  obtain ⟨rfl, e⟩ := y
  exact hs k x σ _ (e _ ((hq k σ _ p).seq hS)) p
theorem pe_fld_K {X : Cx} {K : PySem.W.Frag} {e : Expr} {f : Str} {pos : Pos} {ta : TE} (h : X.K = K) (he : PE X e ta) (hb : attributeBase e f X.env (eval e X.env) = eval e X.env) : PE X (.Attribute e f pos) (tFld K ta f) := by
  subst h
  exact pe_fld he hb
/-! ### reads -/
theorem at_nat {xs : List Int} {i : Int} (h0 : 0 ≤ i) (h1 : i < xs.length) : atI (xs.map V.int) i = some (.int (xs.getD i.toNat 0)) := by
  have hk : i.toNat < xs.length := by omega
  rw [show i = ((i.toNat : Nat) : Int) by omega, List.getD_eq_getElem?_getD, Int.toNat_natCast, List.getElem?_eq_getElem hk]
  exact at_map (List.getElem?_eq_getElem hk)
theorem rd_at {K : PySem.W.Frag} {H : Hp} {a : Addr} {xs : List Int} {i : Int} {R : V → Prop} (h : SqL K H a (xs.map V.int)) (h0 : 0 ≤ i) (h1 : i < xs.length) (q : R (.int (xs.getD i.toNat 0))) : ∃ a' ys j v, V.ref a = .ref a' ∧ V.int i = .int j ∧ SqL K H a' ys ∧ atI ys j = some v ∧ R v := ⟨a, _, i, _, rfl, rfl, h, at_nat h0 h1, q⟩
theorem rd_atT {K : PySem.W.Frag} {H : Hp} {a : Addr} {xs : List Int} {i : Int} {R : V → Prop} (h : SqT K H a (xs.map V.int)) (h0 : 0 ≤ i) (h1 : i < xs.length) (q : R (.int (xs.getD i.toNat 0))) : ∃ a' ys j v, V.ref a = .ref a' ∧ V.int i = .int j ∧ SqT K H a' ys ∧ atI ys j = some v ∧ R v := ⟨a, _, i, _, rfl, rfl, h, at_nat h0 h1, q⟩
end Z
set_option Elab.async false
set_option linter.all false
set_option maxRecDepth 100000
set_option maxHeartbeats 4000000
namespace Z
open PySem PySem.Spec PyProof.Rows L2
/-! ### enumerate(x) of one argument: x a list, a tuple or a text -/
theorem enum_new1 {v : Value} {o : Obj} {G : Heap → Prop} (B : Begins v o G) :
    Meets (Builtin.«enumerate.__new__» ⟨[.type "enumerate", v], []⟩) (fun _ R s => G s.heap ∧
      R (.ok (.ret (.ref (s.heap.push o).objs.size))) { s with heap := (s.heap.push o).push { cls := .type "enumerate", data := .fields #[.none, .bool false, .ref s.heap.objs.size, rawInt 0, .none, .none] } }) :=
  .of_wp fun prog w A R s h => by
    obtain ⟨hp, gl, dd, tok, oo⟩ := s
    obtain ⟨g1, h⟩ := h
    have hsub := sub_enumerate
    have step : ∀ {A' : Around} {E : Value → Shared → Prop} {Q : Value → Shared → Prop}, Q (.ref hp.objs.size) ⟨hp.push o, gl, dd, tok, oo⟩ → wpAny (model prog w) A' (pyIter v) Q E ⟨hp, gl, dd, tok, oo⟩ := fun z => B.iter prog w _ _ ⟨hp, gl, dd, tok, oo⟩ _ g1 z
    wp_walk using step
    refine wpAny_stack_any fun _ => wpAny_pure ?_
    split
    · rename_i cc _ _ _ _ _
      cases (cc == Value.type "enumerate") <;>
        (wp_walk using step
         exact ⟨_, rfl, h⟩)
    · wp_walk using step
      exact ⟨_, rfl, h⟩
section
variable {prog : Program} {w : World} {A : Around} {E : Value → Shared → Prop} {s : Shared}
theorem enum_begins1 {v : Value} {o : Obj} {G : Heap → Prop} {Q : Value → Shared → Prop} (B : Begins v o G) (g : G s.heap)
    (h : ∀ h', IsEnum h' (s.heap.objs.size + 1) s.heap.objs.size 0 .none → h'.get? s.heap.objs.size = some o → (∀ b ob, s.heap.get? b = some ob → h'.get? b = some ob) → Q (.ref (s.heap.objs.size + 1)) { s with heap := h' }) :
    wpAny (model prog w) A (call (.type "enumerate") [v]) Q E s := by
  refine callType_new F.called_enumerate (by decide) (F.typeCall_enumerate_1 v) (F.newCall_enumerate_1 v) (fun ob => F.args_object_init_2 ob _) F.entry_enumerate_new (enum_new1 B) ⟨g, ?_⟩
  have sz : (s.heap.push o).objs.size = s.heap.objs.size + 1 := Heap.size_push ..
  show _ ∧ _
  rw [sz]
  have ie : IsEnum ((s.heap.push o).push { cls := .type "enumerate", data := .fields #[.none, .bool false, .ref s.heap.objs.size, rawInt 0, .none, .none] }) (s.heap.objs.size + 1) s.heap.objs.size 0 .none := by
    have z := Heap.get?_push_size (s.heap.push o) (o := { cls := .type "enumerate", data := .fields #[.none, .bool false, .ref s.heap.objs.size, rawInt 0, .none, .none] }) rfl
    rw [sz] at z
    exact z
  exact ⟨⟨_, ie, rfl⟩, h _ ie (Heap.get?_push_of_some _ (Heap.get?_push_size _ B.free)) fun b ob z => Heap.get?_push_of_some _ (Heap.get?_push_of_some _ z)⟩
end
/-- pairs of a turn's number and its item -/
def ItEM (p : Bool) (K : PySem.W.Frag) (a : Addr) : It :=
  ⟨fun i H => ∃ (xs : List V) (x : V), SqK p K H a xs ∧ xs[i]? = some x,
   fun i H v H' => ∃ T x, v = .ref T ∧ H T = none ∧ H' = upd H T (.tup [.int (i : Nat), x]) ∧ (∀ xs, SqK p K H a xs → xs[i]? = some x),
   fun i H => ∃ xs : List V, SqK p K H a xs ∧ xs.length = i⟩
def ItES (z : Str) : It :=
  ⟨fun i _ => i < z.cps.size,
   fun i H v H' => ∃ T c, v = .ref T ∧ H T = none ∧ H' = upd H T (.tup [.int (i : Nat), .str ⟨#[c]⟩]) ∧ z.cps[i]? = some c,
   fun i _ => z.cps.size = i⟩
theorem enum_item {X : Cx} {pins : List (Addr × Obj)} {σ : L2.St} {H : Hp} {s : Shared} {e it : Addr} {fp : List Addr} {n i : Nat} {Pi : Nat → Value → Prop} {Si : Nat → Heap → Prop} {old : Value} {elts : List Expr} {kk : Nat} {tpos : Pos} {E : Value → Shared → Prop}
    (I : Inv X pins σ H s) (hf : ∀ b ∈ [e, it], FpOk X pins H b) (D : Draws X.prog X.w X.A.in1 it fp n Pi Si) (he : IsEnum s.heap e it ((i : Nat) : Int) old) (st : Si i s.heap) (lt : i < n) (ne : e ≠ it) (ef : e ∉ fp)
    (x : V) (ru : ∀ v, Pi i v → L2.RelV x v) :
    wpAny (model X.prog X.w) X.A (pyNext (.ref e)) (fun r s1 => ∃ u, r = some u ∧ wpAny (model X.prog X.w) X.A (letOwnedTupleGo (.Tuple elts kk tpos) (.ref e) u) (fun _ s2 => ∃ T, u = .ref T ∧ H T = none ∧ Inv X pins σ (upd H T (.tup [.int (i : Nat), x])) s2 ∧ (∃ o, IsEnum s2.heap e it ((i + 1 : Nat) : Int) o) ∧ Si (i + 1) s2.heap ∧ ∀ b ∈ [e, it], upd H T (.tup [.int (i : Nat), x]) b = none) E s1) E s := by
  have el : e < s.heap.objs.size := Heap.lt_size he
  have il : it < s.heap.objs.size := by
    obtain ⟨_, z⟩ := D.live _ _ st
    exact Heap.lt_size z
  refine wpAny_pyNext_enum_itemC D he st lt ne ef fun v g tk pv go st' gT gs gk => ?_
  refine ⟨_, rfl, wpAny_letOwnedTupleGo_enum (s := { s with heap := g, toks := tk + 1 }) go fun g2 ge sb => ?_⟩
  have gT2 : g2.get? s.heap.objs.size = some { cls := .type "tuple", data := .seq #[.int i tk, v] } := (sb.2 _ (Nat.ne_of_gt el)).trans gT
  have nw : ObjOk X.prog X.w (upd H s.heap.objs.size (.tup [.int (i : Nat), x])) g2 s.heap.objs.size (.tup [.int (i : Nat), x]) := ⟨by show 2 ≤ sizeLine; decide, [.int i tk, v], .cons ⟨tk, rfl⟩ (.cons (ru v pv) .nil), ⟨_, gT2, rfl, _, rfl⟩⟩
  have I1 : Inv X pins σ (upd H s.heap.objs.size (.tup [.int (i : Nat), x])) { s with heap := g2, toks := tk + 1 } :=
    I.turnedNew (t' := tk + 1) (ch := [e, it]) (fun b ob nb z => (sb.2 b (fun w => nb (by simp [w]))).trans (gk b ob (fun w => nb (by simp [w])) (fun w => nb (by simp [w])) z)) hf (Nat.le_refl _) nw
  refine ⟨_, rfl, I.hok.fresh (Nat.le_refl _), I1, ⟨v, ?_⟩, D.frame _ _ _ st' fun b hb o z => (sb.2 b fun w => ef (w ▸ hb)).trans z, fun b hb => ?_⟩
  · rw [show ((i + 1 : Nat) : Int) = (i : Int) + 1 by omega]
    exact ge
  · have lb : b < s.heap.objs.size := by
      rcases (show b = e ∨ b = it by simpa using hb) with z | z
      · rw [z]
        exact el
      · rw [z]
        exact il
    rw [upd_ne (Nat.ne_of_lt lb)]
    exact (hf b hb).1
theorem enum_done {X : Cx} {pins : List (Addr × Obj)} {σ : L2.St} {H : Hp} {s : Shared} {e it : Addr} {fp : List Addr} {n : Nat} {Pi : Nat → Value → Prop} {Si : Nat → Heap → Prop} {old : Value} {c : Int} {E : Value → Shared → Prop}
    (I : Inv X pins σ H s) (hf : ∀ b ∈ [e, it], FpOk X pins H b) (D : Draws X.prog X.w X.A.in1 it fp n Pi Si) (he : IsEnum s.heap e it c old) (st : Si n s.heap) :
    wpAny (model X.prog X.w) X.A (pyNext (.ref e)) (fun r s1 => r = none ∧ Inv X pins σ H s1) E s := by
  obtain ⟨f0, f1, f2, f3, f4, f5⟩ := hf it (by simp)
  exact wpAny_pyNext_enum_endD D he st fun g gk => ⟨rfl, I.turned (t' := s.toks) (fun b o hb z => gk b o hb z) f0 f1 f3 f4 f5⟩
theorem turn_enumM {p : Bool} {P : Program} {w : World} {K : PySem.W.Frag} {elts : List Expr} {kk : Nat} {tpos : Pos} (a e it : Addr) (ea : e ≠ a) (ia : a ≠ it) :
    Turn P w K (.Tuple elts kk tpos) (ItEM p K a) [e, it] e (fun i h => (∃ old, IsEnum h e it ((i : Nat) : Int) old) ∧ ItK p h it a i ∧ e ≠ it) where
  mem := by simp
  obj := fun i h st b hb => by
    obtain ⟨⟨old, he⟩, hi, _⟩ := st
    rcases (show b = e ∨ b = it by simpa using hb) with z | z
    · rw [z]
      exact ⟨_, he, fun v q => nomatch q⟩
    · rw [z]
      exact hi.obj
  keep := fun i h h' st k => by
    obtain ⟨⟨old, he⟩, hi, ne⟩ := st
    exact ⟨⟨old, k e (by simp) _ he⟩, hi.at' (fun o z => k it (by simp) o z), ne⟩
  item := by
    intro X hP hw hK hc i pins s σ H E I hf st hg
    subst hP hw hK
    obtain ⟨⟨old, he⟩, hi, ne⟩ := st
    obtain ⟨xs, x, qx, ex⟩ := hg
    obtain ⟨us, rx, kx, _⟩ := sqk_is I qx
    obtain ⟨u, eu, ru⟩ := rx.get ex
    have lu : i < us.toArray.size := by simpa using (List.getElem?_eq_some_iff.mp eu).1
    have hh : X.A.in1.handled = none := I.ok.hd hc
    have key : ∀ v, us.toArray[i]? = some v → L2.RelV x v := fun v pv => by
      have t1 : us.toArray[i]? = some u := by simpa using eu
      have t2 : u = v := Option.some.inj (t1.symm.trans pv)
      exact t2 ▸ ru
    refine thn (enum_item (elts := elts) (kk := kk) (tpos := tpos) (E := E) I hf (drawsK p hh it a ia us.toArray) he ⟨hi, kx⟩ lu ne (by simp [ne, ea]) x key) fun r s1 hr => ?_
    obtain ⟨v, er, hv⟩ := hr
    refine ⟨v, er, thn hv fun _ s2 z => ?_⟩
    obtain ⟨T, eT, nT, I2, ie, si, fr⟩ := z
    subst eT
    exact ⟨.ref T, _, I2, rfl, ⟨T, x, rfl, nT, rfl, fun l hl => by rw [sqk_inj I hl qx]; exact ex⟩, ⟨ie, si.1, ne⟩, fr⟩
  done := by
    intro X hP hw hK hc i pins s σ H E I hf st hg
    subst hP hw hK
    obtain ⟨⟨old, he⟩, hi, ne⟩ := st
    obtain ⟨xs, qx, el⟩ := hg
    obtain ⟨us, rx, kx, _⟩ := sqk_is I qx
    have lx := rx.length
    have hh : X.A.in1.handled = none := I.ok.hd hc
    have hn : us.toArray.size = i := by
      rw [List.size_toArray]
      omega
    exact enum_done I hf (drawsK p hh it a ia us.toArray) he (by rw [hn]; exact ⟨hi, kx⟩)
  self := fun A i s Q E st h => by
    obtain ⟨⟨_, he⟩, _⟩ := st
    exact wpAny_pyIter_enum he h
def iEnumM (K : PySem.W.Frag) (ta : TA) : TI := fun σ H R => ta σ H fun vs H1 => ∃ p a xs, vs = [.ref a] ∧ SqK p K H1 a xs ∧ R (ItEM p K a) H1
theorem pi_enumM {X : Cx} {e : Expr} {ta : TA} {p pos tpos : Pos} {elts : List Expr} {kk : Nat} (hg : Gl X "enumerate") (hm : X.mg "enumerate" = none) (ha : PA X [e] ta) (hs : starEach [e] X.env = [(false, eval e X.env)] := by rfl) :
    PI X (.Tuple elts kk tpos) (.Call (.Name "enumerate" p) [e] [] pos) (iEnumM X.K ta) := by
  constructor
  intro pins s σ H R I h
  refine Call_ (ld_blt I hg hm PyProof.Rows.boot_enumerate (PyProof.Rows.callWith_type1 (thn (ha.run pos pins s σ H _ I h) fun us s1 ⟨vs, H1, I1, r1, q1⟩ => ?_) hs rfl))
  obtain ⟨k1, a, xs, ex, qx, q⟩ := q1
  subst ex
  cases r1 with
  | cons r rr =>
    cases rr
    cases r
    obtain ⟨i1, _, p1, lt1⟩ := sqk_is I1 qx
    obtain ⟨o1, G1, B1, g1, w1⟩ := begK p1
    refine enum_begins1 B1 g1 fun h' he e1 hk => wpAny_pyIter_enum he ?_
    have I2 : Inv X pins σ H1 { s1 with heap := h' } := I1.kept (t' := s1.toks) hk
    refine ⟨s1.heap.objs.size + 1, [s1.heap.objs.size + 1, s1.heap.objs.size], _, _, H1, rfl, I2, turn_enumM a (s1.heap.objs.size + 1) s1.heap.objs.size (Nat.ne_of_gt (Nat.lt_succ_of_lt lt1)) (Nat.ne_of_lt lt1), ⟨⟨.none, he⟩, w1 _ _ e1, Nat.succ_ne_self _⟩, fun b hb => ?_, q⟩
    have lb : s1.heap.objs.size ≤ b := by
      rcases (show b = s1.heap.objs.size + 1 ∨ b = s1.heap.objs.size by simpa using hb) with z | z
      · rw [z]
        exact Nat.le_add_right _ _
      · rw [z]
        exact Nat.le_refl _
    exact I1.fpOk lb (I1.hok.fresh lb)
/-! over a text -/
theorem drawsS {prog : Program} {w : World} {A : Around} (hh : A.handled = none) (it : Addr) (z : Str) (t : Tok) :
    Draws prog w A it [it] z.cps.size (fun i v => ∃ c u, z.cps[i]? = some c ∧ v = .str ⟨#[c]⟩ u) (fun i h => h.IsStrIter it (strIterType z) z t i) := by
  unfold strIterType
  cases z.cps.all (· < 128)
  · exact Draws.strWide hh it z t
  · exact Draws.strAscii hh it z t
theorem turn_enumS {P : Program} {w : World} {K : PySem.W.Frag} {elts : List Expr} {kk : Nat} {tpos : Pos} (z : Str) (t : Tok) (e it : Addr) :
    Turn P w K (.Tuple elts kk tpos) (ItES z) [e, it] e (fun i h => (∃ old, IsEnum h e it ((i : Nat) : Int) old) ∧ h.IsStrIter it (strIterType z) z t i ∧ e ≠ it) where
  mem := by simp
  obj := fun i h st b hb => by
    obtain ⟨⟨old, he⟩, ⟨o, eo, _, d⟩, _⟩ := st
    rcases (show b = e ∨ b = it by simpa using hb) with y | y
    · rw [y]
      exact ⟨_, he, fun v q => nomatch q⟩
    · rw [y]
      exact ⟨o, eo, fun v q => by rw [d] at q; cases q⟩
  keep := fun i h h' st k => by
    obtain ⟨⟨old, he⟩, ⟨o, eo, r⟩, ne⟩ := st
    exact ⟨⟨old, k e (by simp) _ he⟩, ⟨o, k it (by simp) o eo, r⟩, ne⟩
  item := by
    intro X hP hw hK hc i pins s σ H E I hf st hg
    subst hP hw hK
    obtain ⟨⟨old, he⟩, hi, ne⟩ := st
    have lt : i < z.cps.size := hg
    have hh : X.A.in1.handled = none := I.ok.hd hc
    have ec : z.cps[i]? = some z.cps[i] := Array.getElem?_eq_getElem lt
    refine thn (enum_item (elts := elts) (kk := kk) (tpos := tpos) (E := E) I hf (drawsS hh it z t) he hi lt ne (by simp [ne]) (.str ⟨#[z.cps[i]]⟩) (fun v pv => ?_)) fun r s1 hr => ?_
    · obtain ⟨c, u, e1, e2⟩ := pv
      rw [ec] at e1
      cases e1
      subst e2
      exact ⟨u, rfl⟩
    obtain ⟨v, er, hv⟩ := hr
    refine ⟨v, er, thn hv fun _ s2 y => ?_⟩
    obtain ⟨T, eT, nT, I2, ie, si, fr⟩ := y
    subst eT
    exact ⟨.ref T, _, I2, rfl, ⟨T, _, rfl, nT, rfl, ec⟩, ⟨ie, si, ne⟩, fr⟩
  done := by
    intro X hP hw hK hc i pins s σ H E I hf st hg
    subst hP hw hK
    obtain ⟨⟨old, he⟩, hi, ne⟩ := st
    have el : z.cps.size = i := hg
    have hh : X.A.in1.handled = none := I.ok.hd hc
    exact enum_done I hf (drawsS hh it z t) he (by rw [el]; exact hi)
  self := fun A i s Q E st h => by
    obtain ⟨⟨_, he⟩, _⟩ := st
    exact wpAny_pyIter_enum he h
def iEnumS (ta : TA) : TI := fun σ H R => ta σ H fun vs H1 => ∃ z, vs = [.str z] ∧ R (ItES z) H1
theorem pi_enumS {X : Cx} {e : Expr} {ta : TA} {p pos tpos : Pos} {elts : List Expr} {kk : Nat} (hg : Gl X "enumerate") (hm : X.mg "enumerate" = none) (ha : PA X [e] ta) (hs : starEach [e] X.env = [(false, eval e X.env)] := by rfl) :
    PI X (.Tuple elts kk tpos) (.Call (.Name "enumerate" p) [e] [] pos) (iEnumS ta) := by
  constructor
  intro pins s σ H R I h
  refine Call_ (ld_blt I hg hm PyProof.Rows.boot_enumerate (PyProof.Rows.callWith_type1 (thn (ha.run pos pins s σ H _ I h) fun us s1 ⟨vs, H1, I1, r1, q1⟩ => ?_) hs rfl))
  obtain ⟨z, ex, q⟩ := q1
  subst ex
  cases r1 with
  | cons r rr =>
    cases rr
    obtain ⟨t, rfl⟩ := r
    refine enum_begins1 (begins_text z t) trivial fun h' he e1 hk => wpAny_pyIter_enum he ?_
    have I2 : Inv X pins σ H1 { s1 with heap := h' } := I1.kept (t' := s1.toks) hk
    refine ⟨s1.heap.objs.size + 1, [s1.heap.objs.size + 1, s1.heap.objs.size], _, _, H1, rfl, I2, turn_enumS z t (s1.heap.objs.size + 1) s1.heap.objs.size, ⟨⟨.none, he⟩, ⟨_, e1, rfl, rfl⟩, Nat.succ_ne_self _⟩, fun b hb => ?_, q⟩
    have lb : s1.heap.objs.size ≤ b := by
      rcases (show b = s1.heap.objs.size + 1 ∨ b = s1.heap.objs.size by simpa using hb) with y | y
      · rw [y]
        exact Nat.le_add_right _ _
      · rw [y]
        exact Nat.le_refl _
    exact I1.fpOk lb (I1.hok.fresh lb)
end Z
set_option Elab.async false
set_option linter.all false
set_option maxRecDepth 100000
set_option maxHeartbeats 4000000
namespace Z
open PySem PySem.Spec PyProof.Rows L2
/-! ### walks over a list (true) or a tuple (false) -/
inductive SeqOr (A B : Prop) : Prop
  | l : A → SeqOr A B
  | r : B → SeqOr A B
def iSeq (K : PySem.W.Frag) (tl : TE) : TI := fun σ H R => SeqOr (iList K tl σ H R) (iTup K tl σ H R)
theorem pi_sq {X : Cx} {tg l : Expr} {tl : TE} (he : PE X l tl) : PI X tg l (iSeq X.K tl) := by
  constructor
  intro pins s σ H R I h
  rcases h with h | h
  · exact (pi_list he).run pins s σ H R I h
  · exact (pi_tup he).run pins s σ H R I h
theorem pi_sq_K {X : Cx} {K : PySem.W.Frag} {tg l : Expr} {tl : TE} (h : X.K = K) (he : PE X l tl) : PI X tg l (iSeq K tl) := by
  subst h
  exact pi_sq he
theorem pi_list_K {X : Cx} {K : PySem.W.Frag} {tg l : Expr} {tl : TE} (h : X.K = K) (he : PE X l tl) : PI X tg l (iList K tl) := by
  subst h
  exact pi_list he
theorem pi_tup_K {X : Cx} {K : PySem.W.Frag} {tg l : Expr} {tl : TE} (h : X.K = K) (he : PE X l tl) : PI X tg l (iTup K tl) := by
  subst h
  exact pi_tup he
def ItQ (b : Bool) (K : PySem.W.Frag) (a : Addr) : It := match b with
  | true => Itl K a
  | false => Itt K a
theorem itq_go {b : Bool} {K : PySem.W.Frag} {H : Hp} {a : Addr} {xs : List V} {i : Nat} {x : V} (h : SqK b K H a xs) (e : xs[i]? = some x) : (ItQ b K a).go i H := by
  cases b <;> exact ⟨_, _, h, e⟩
theorem itq_stop {b : Bool} {K : PySem.W.Frag} {H : Hp} {a : Addr} {xs : List V} {i : Nat} (h : SqK b K H a xs) (e : xs.length ≤ i) : (ItQ b K a).stop i H := by
  cases b <;> exact ⟨_, h, e⟩
theorem itq_yld {b : Bool} {K : PySem.W.Frag} {H H' : Hp} {a : Addr} {xs : List V} {i : Nat} {x : V} (h : SqK b K H a xs) (y : (ItQ b K a).yld i H x H') : H' = H ∧ xs[i]? = some x := by
  cases b <;> exact ⟨y.1, y.2 _ h⟩
theorem rd_sq {b : Bool} {K : PySem.W.Frag} {σ : L2.St} {H : Hp} {i : Nat} {a : Addr} {xs : List V} {R : It → Hp → Prop} (e : σ[i]? = some (some (.ref a))) (h : SqK b K H a xs) (r : R (ItQ b K a) H) : iSeq K (tVar i) σ H R := by
  cases b
  · exact .r ⟨_, e, a, rfl, ⟨xs, h⟩, r⟩
  · exact .l ⟨_, e, a, rfl, ⟨xs, h⟩, r⟩
theorem lc_sq {b : Bool} {K : PySem.W.Frag} {a D : Addr} {xs : List Int} {H0 : Hp} {i : Nat} {te : TE} {vs : List Nat} {σ : L2.St} {Qd : Hp → Prop} (hS : SqK b K H0 a (xs.map V.int)) (g : Int → Int) (hn : xs.length ≤ 1000000) (nD : H0 D = none) (hw : ∀ x : Int, wipe ((wipe σ vs).set i (some (.int x))) vs = wipe σ vs)
    (ht : ∀ x H1 (Q : VK), x ∈ xs → Same H0 H1 → (∀ H2, Same H1 H2 → Q (.int (g x)) H2) → te ((wipe σ vs).set i (some (.int x))) H1 Q)
    (hd : ∀ H1, Same H0 H1 → H1 D = some (.lst ((xs.map g).map V.int)) → Qd H1) : lcW (ItQ b K a) (gName i) tYes te vs σ D Qd H0 := by
  have ex : ∀ k, k < xs.length → (xs.map V.int)[k]? = some (.int (xs.getD k 0)) := fun k hk => by
    rw [List.getElem?_map, List.getD_eq_getElem?_getD, List.getElem?_eq_getElem hk]
    rfl
  refine lc_ofs (K := K) (n := xs.length) (fun k => g (xs.getD k 0)) (fun k => .int (xs.getD k 0)) hn nD (fun k H1 hk s => itq_go (Z.Same.sqK s hS) (ex k hk)) (fun H1 s => itq_stop (Z.Same.sqK s hS) (by rw [List.length_map]; exact Nat.le_refl _)) (fun k H1 x H2 hk s y => ?_) (fun k => hw _) (fun k H1 Q hk s q => ht _ H1 Q ?_ s q) (fun H1 s e => hd H1 s ?_)
  · obtain ⟨e1, e2⟩ := itq_yld (Z.Same.sqK s hS) y
    exact ⟨e1, Option.some.inj (e2.symm.trans (ex k hk))⟩
  · rw [List.getD_eq_getElem?_getD, List.getElem?_eq_getElem hk]
    exact List.getElem_mem hk
  · rw [e]
    congr 2
    congr 1
    apply List.ext_getElem
    · rw [List.length_map, List.length_map, List.length_range]
    · intro k h1 h2
      rw [List.length_map] at h2
      rw [List.getElem_map, List.getElem_map, List.getElem_range, List.getD_eq_getElem?_getD, List.getElem?_eq_getElem h2]
      rfl
/-- for x in xs, any values -/
theorem for_sq {b : Bool} {K : PySem.W.Frag} {a : Addr} {xs : List V} {H0 H : Hp} {i : Nat} {tb : TS} {D : Ends} {σ : L2.St} (hS : SqK b K H0 a xs) (Pv : Nat → L2.St → Hp → Prop) (h0 : Pv 0 σ H) (hq : ∀ k σ H1, Pv k σ H1 → Same H0 H1)
    (hs : ∀ (k : Nat) (x : V) (σ : L2.St) (H1 : Hp), xs[k]? = some x → Pv k σ H1 → tb { D with nx := Pv (k + 1), ct := Pv (k + 1), bk := D.nx } (σ.set i (some x)) H1)
    (hd : ∀ σ H1, Pv xs.length σ H1 → D.nx σ H1) : forW (ItQ b K a) (gName i) tb D σ H := by
  refine for_gen (n := xs.length) Pv h0 (fun k σ H1 hk p => itq_go (Z.Same.sqK (hq k σ H1 p) hS) (List.getElem?_eq_getElem hk)) (fun σ H1 p => itq_stop (Z.Same.sqK (hq _ σ H1 p) hS) (Nat.le_refl _)) ?_ hd
  intro k σ H1 x H2 hk p y
  obtain ⟨rfl, e⟩ := itq_yld (Z.Same.sqK (hq k σ H1 p) hS) y
  exact hs k x σ _ e p
/-- for i, x in enumerate(xs) -/
theorem for_enum {b : Bool} {K : PySem.W.Frag} {a : Addr} {xs : List V} {H0 H : Hp} {i j : Nat} {tb : TS} {D : Ends} {σ : L2.St} (hS : SqK b K H0 a xs) (Pv : Nat → L2.St → Hp → Prop) (h0 : Pv 0 σ H) (hq : ∀ k σ H1, Pv k σ H1 → Same H0 H1)
    (hs : ∀ (k : Nat) (x : V) (σ : L2.St) (H1 H2 : Hp), xs[k]? = some x → Pv k σ H1 → Same H1 H2 → tb { D with nx := Pv (k + 1), ct := Pv (k + 1), bk := D.nx } ((σ.set i (some (.int (k : Nat)))).set j (some x)) H2)
    (hd : ∀ σ H1, Pv xs.length σ H1 → D.nx σ H1) : forW (ItEM b K a) (gTup K 2 (gCons (gName i) (gCons (gName j) gNil))) tb D σ H := by
  refine for_gen (n := xs.length) Pv h0 (fun k σ H1 hk p => ⟨xs, _, Z.Same.sqK (hq k σ H1 p) hS, List.getElem?_eq_getElem hk⟩) (fun σ H1 p => ⟨xs, Z.Same.sqK (hq _ σ H1 p) hS, rfl⟩) ?_ hd
  intro k σ H1 x H2 hk p y
  obtain ⟨T, z, rfl, nT, rfl, e⟩ := y
  exact ⟨T, _, rfl, SqT.of upd_same, rfl, _, _, rfl, _, _, rfl, rfl, hs k z σ H1 _ (e _ (Z.Same.sqK (hq k σ H1 p) hS)) p (same_new nT)⟩
/-- for i, c in enumerate(text) -/
theorem for_enumS {K : PySem.W.Frag} {z : Str} {H : Hp} {i j : Nat} {tb : TS} {D : Ends} {σ : L2.St} (Pv : Nat → L2.St → Hp → Prop) (h0 : Pv 0 σ H)
    (hs : ∀ (k : Nat) (c : Nat) (σ : L2.St) (H1 H2 : Hp), z.cps[k]? = some c → Pv k σ H1 → Same H1 H2 → tb { D with nx := Pv (k + 1), ct := Pv (k + 1), bk := D.nx } ((σ.set i (some (.int (k : Nat)))).set j (some (.str ⟨#[c]⟩))) H2)
    (hd : ∀ σ H1, Pv z.cps.size σ H1 → D.nx σ H1) : forW (ItES z) (gTup K 2 (gCons (gName i) (gCons (gName j) gNil))) tb D σ H := by
  refine for_gen (n := z.cps.size) Pv h0 (fun k σ H1 hk p => hk) (fun σ H1 p => rfl) ?_ hd
  intro k σ H1 x H2 hk p y
  obtain ⟨T, c, rfl, nT, rfl, e⟩ := y
  exact ⟨T, _, rfl, SqT.of upd_same, rfl, _, _, rfl, _, _, rfl, rfl, hs k c σ H1 _ e p (same_new nT)⟩
/-! ### built-ins within a comprehension's block -/
theorem cr_min_K {X : Cx} {K : PySem.W.Frag} (h : X.K = K) (hc : X.calm = true) : CallR X (.builtin "min") (rMin K) := by
  subst h
  exact cr_min hc
theorem cr_max_K {X : Cx} {K : PySem.W.Frag} (h : X.K = K) (hc : X.calm = true) : CallR X (.builtin "max") (rMax K) := by
  subst h
  exact cr_max hc
theorem cr_sum_K {X : Cx} {K : PySem.W.Frag} (h : X.K = K) (hc : X.calm = true) : CallR X (.builtin "sum") (rSum K) := by
  subst h
  exact cr_sum hc
theorem cr_all_K {X : Cx} {K : PySem.W.Frag} (h : X.K = K) (hc : X.calm = true) : CallR X (.builtin "all") (rAll K) := by
  subst h
  exact cr_all hc
theorem cr_any_K {X : Cx} {K : PySem.W.Frag} (h : X.K = K) (hc : X.calm = true) : CallR X (.builtin "any") (rAny K) := by
  subst h
  exact cr_any hc
/-! ### comprehensions with a test, any values -/
def fltL (kb : Nat → Bool) (g : Nat → V) (n : Nat) : List V := ((List.range n).filter kb).map g
theorem flt_succ (kb : Nat → Bool) (g : Nat → V) (n : Nat) : fltL kb g (n + 1) = fltL kb g n ++ (if kb n then [g n] else []) := by
  unfold fltL
  rw [List.range_succ, List.filter_append, List.map_append]
  cases e : kb n <;> simp [e]
theorem flt_len (kb : Nat → Bool) (g : Nat → V) (n : Nat) : (fltL kb g n).length ≤ n := by
  unfold fltL
  rw [List.length_map]
  exact Nat.le_trans (List.length_filter_le ..) (by rw [List.length_range]; exact Nat.le_refl _)
theorem lc_flt {J : It} {D : Addr} {n : Nat} {H0 : Hp} {i : Nat} {tt : TT} {te : TE} {vs : List Nat} {σ : L2.St} {Qd : Hp → Prop} (xv : Nat → V) (kb : Nat → Bool) (g : Nat → V) (hn : n ≤ 1000000) (nD : H0 D = none)
    (hgo : ∀ k H1, k < n → Same H0 H1 → J.go k H1) (hst : ∀ H1, Same H0 H1 → J.stop n H1) (hy : ∀ k H1 x H2, k < n → Same H0 H1 → J.yld k H1 x H2 → Same H1 H2 ∧ x = xv k)
    (hw : ∀ k, wipe ((wipe σ vs).set i (some (xv k))) vs = wipe σ vs)
    (hb : ∀ k H1 (Q : Bool → Hp → Prop), k < n → Same H0 H1 → (∀ H2, Same H1 H2 → Q (kb k) H2) → tt ((wipe σ vs).set i (some (xv k))) H1 Q)
    (ht : ∀ k H1 (Q : VK), k < n → kb k = true → Same H0 H1 → (∀ H2, Same H1 H2 → Q (g k) H2) → te ((wipe σ vs).set i (some (xv k))) H1 Q)
    (hd : ∀ H1, Same H0 H1 → H1 D = some (.lst (fltL kb g n)) → Qd H1) : lcW J (gName i) tt te vs σ D Qd H0 := by
  refine lc_gen (n := n) (fun k H1 => Same H0 H1 ∧ H1 D = some (.lst (fltL kb g k))) ⟨same_new nD, upd_same⟩ (fun k H1 hk p => hgo k H1 hk p.1) (fun H1 p => hst H1 p.1) ?_ (fun H1 p => hd H1 p.1 p.2)
  rintro k H1 x H2 hk ⟨s, e⟩ y
  obtain ⟨s2, rfl⟩ := hy k H1 x H2 hk s y
  refine ⟨hw k, ?_⟩
  refine hb k _ _ hk (s.trans s2) (fun H3 s3 => ?_)
  cases eb : kb k
  · rw [if_neg (by decide)]
    refine ⟨s.trans (s2.trans s3), ?_⟩
    rw [flt_succ, eb]
    simpa using s3 _ _ (s2 _ _ e)
  · rw [if_pos rfl]
    refine ht k _ _ hk eb (s.trans (s2.trans s3)) (fun H4 s4 => ⟨_, s4 _ _ (s3 _ _ (s2 _ _ e)), ?_, Z.Same.mut (s.trans (s2.trans (s3.trans s4))) nD, ?_⟩)
    · exact Nat.lt_of_le_of_lt (flt_len kb g k) (Nat.lt_of_lt_of_le hk (Nat.le_trans hn (by decide)))
    · rw [upd_same, flt_succ, eb]
      rfl
end Z
set_option Elab.async false
set_option linter.all false
set_option maxRecDepth 100000
set_option maxHeartbeats 4000000
namespace Z
open PySem PySem.Spec PyProof.Rows L2
open SX (S S_inj S_len S_cat)
theorem none_of {H J : Hp} {p : Addr} (s : Same H J) (n : J p = none) : H p = none := by
  cases e : H p with
  | none => rfl
  | some o =>
    have := s p o e
    rw [n] at this
    cases this
/-! ### pairs of parties as texts, k = 6 * debtor + creditor -/
def kyL (k : Nat) : List Nat := [97 + k / 6, 97 + k % 6]
def ky (k : Nat) : Str := S (kyL k)
def lt1 (i : Nat) : Str := S [97 + i]
theorem ky_inj {j k : Nat} (h : ky j = ky k) : j = k := by
  have e := S_inj h
  unfold kyL at e
  injection e with e1 e2
  injection e2 with e2 _
  omega
theorem lt1_inj {j k : Nat} (h : lt1 j = lt1 k) : j = k := by
  have e := S_inj h
  injection e with e1 _
  omega
def tab (key : Nat → Str) (ks : List Nat) (g : Nat → Int) : List (Key × V) := ks.map fun k => (Sum.inr (key k), V.int (g k))
theorem tab_len (key : Nat → Str) (ks : List Nat) (g : Nat → Int) : (tab key ks g).length = ks.length := List.length_map ..
theorem tab_at {key : Nat → Str} {ks : List Nat} {g : Nat → Int} {i : Nat} (h : i < ks.length) : (tab key ks g)[i]? = some (Sum.inr (key ks[i]), V.int (g ks[i])) := by
  unfold tab
  rw [List.getElem?_map, List.getElem?_eq_getElem h]
  rfl
theorem tab_val {key : Nat → Str} (inj : ∀ a b, key a = key b → a = b) (g : Nat → Int) (k : Nat) : ∀ ks : List Nat, valV (tab key ks g) (Sum.inr (key k)) = if k ∈ ks then some (.int (g k)) else none := by
  intro ks
  induction ks with
  | nil => rfl
  | cons j r ih =>
    by_cases e : j = k
    · subst e
      rw [if_pos List.mem_cons_self]
      exact valV_pos rfl
    · have ne : ¬ (Sum.inr (key j) : Key) = Sum.inr (key k) := fun z => e (inj _ _ (Sum.inr.inj z))
      show valV ((Sum.inr (key j), V.int (g j)) :: tab key r g) _ = _
      rw [valV_neg ne, ih]
      by_cases m : k ∈ r
      · rw [if_pos m, if_pos (List.mem_cons_of_mem _ m)]
      · rw [if_neg m, if_neg (fun z => (List.mem_cons.mp z).elim (fun z => e z.symm) m)]
theorem tab_congr {key : Nat → Str} {ks : List Nat} {g h : Nat → Int} (e : ∀ k ∈ ks, g k = h k) : tab key ks g = tab key ks h :=
  List.map_congr_left fun k hk => by rw [e k hk]
theorem tab_put {key : Nat → Str} (inj : ∀ a b, key a = key b → a = b) (ks : List Nat) (g : Nat → Int) (k : Nat) (v : Int) : putK (tab key ks g) (Sum.inr (key k)) (.int v) = tab key (if k ∈ ks then ks else ks ++ [k]) (fun j => if j = k then v else g j) := by
  unfold putK
  rw [valV_any, tab_val inj]
  by_cases m : k ∈ ks
  · rw [if_pos m, if_pos m]
    rw [if_pos (by rfl)]
    unfold tab
    rw [List.map_map]
    refine List.map_congr_left fun j hj => ?_
    show (if (Sum.inr (key j) : Key) = Sum.inr (key k) then ((Sum.inr (key j) : Key), V.int v) else (Sum.inr (key j), V.int (g j))) = _
    by_cases e : j = k
    · subst e
      rw [if_pos rfl]
      dsimp only
      rw [if_pos rfl]
    · rw [if_neg (fun z => e (inj _ _ (Sum.inr.inj z)))]
      dsimp only
      rw [if_neg e]
  · rw [if_neg m, if_neg m]
    rw [if_neg (by simp)]
    show tab key ks g ++ [(Sum.inr (key k), V.int v)] = _
    rw [tab_congr (h := fun j => if j = k then v else g j) (fun j hj => by rw [if_neg (fun z : j = k => m (z ▸ hj))])]
    unfold tab
    rw [List.map_append, List.map_singleton]
    dsimp only
    rw [if_pos rfl]
theorem tab_filter {key : Nat → Str} (ks : List Nat) (g : Nat → Int) : (tab key ks g).map (fun kv => kV kv.1) = ks.map fun k => V.str (key k) := by
  unfold tab
  rw [List.map_map]
  rfl
/-! ### the order of the texts is the order of the numbers -/
theorem lt_ky {j k : Nat} : ltCps (ky j).cps.toList (ky k).cps.toList = decide (j < k) := by
  show ltCps [97 + j / 6, 97 + j % 6] [97 + k / 6, 97 + k % 6] = _
  unfold ltCps ltCps ltCps
  rw [Bool.eq_iff_iff]
  simp
  omega
theorem rising_ky : ∀ (ks : List Nat) (j : Nat), risingS (ky j) (ks.map ky) = true → (j :: ks).Pairwise (· ≤ ·)
  | [], j, _ => List.pairwise_singleton ..
  | k :: r, j, h => by
    have h' : (!ltCps (ky k).cps.toList (ky j).cps.toList && risingS (ky k) (r.map ky)) = true := h
    rw [lt_ky, Bool.and_eq_true] at h'
    have a : j ≤ k := by
      have := h'.1
      simp at this
      exact this
    have z := rising_ky r k h'.2
    refine List.pairwise_cons.mpr ⟨fun x hx => ?_, z⟩
    rcases List.mem_cons.mp hx with rfl | hx
    · exact a
    · exact Nat.le_trans a ((List.pairwise_cons.mp z).1 x hx)
theorem sorted_ky {ks : List Nat} (h : sortedS (ks.map ky) = true) : ks.Pairwise (· ≤ ·) := by
  cases ks with
  | nil => exact .nil
  | cons k r => exact rising_ky r k h
theorem asc_of_nodup {ks : List Nat} (h : ks.Pairwise (· ≤ ·)) (nd : ks.Nodup) : ks.Pairwise (· < ·) :=
  (h.and nd).imp fun {a b} z => Nat.lt_of_le_of_ne z.1 z.2
theorem asc_extN : ∀ {l m : List Nat}, l.Pairwise (· < ·) → m.Pairwise (· < ·) → (∀ x, x ∈ l ↔ x ∈ m) → l = m
  | [], [], _, _, _ => rfl
  | [], y :: m, _, _, h => absurd ((h y).mpr List.mem_cons_self) (by simp)
  | x :: l, [], _, _, h => absurd ((h x).mp List.mem_cons_self) (by simp)
  | x :: l, y :: m, p, q, h => by
    have p2 := List.pairwise_cons.mp p
    have q2 := List.pairwise_cons.mp q
    have e : x = y := by
      rcases List.mem_cons.mp ((h x).mp List.mem_cons_self) with a | a
      · exact a
      · rcases List.mem_cons.mp ((h y).mpr List.mem_cons_self) with b | b
        · exact b.symm
        · have := q2.1 x a
          have := p2.1 y b
          omega
    subst e
    refine congrArg _ (asc_extN p2.2 q2.2 fun z => ⟨fun hz => ?_, fun hz => ?_⟩)
    · rcases List.mem_cons.mp ((h z).mp (List.mem_cons_of_mem _ hz)) with a | a
      · have := p2.1 z hz
        omega
      · exact a
    · rcases List.mem_cons.mp ((h z).mpr (List.mem_cons_of_mem _ hz)) with a | a
      · have := q2.1 z hz
        omega
      · exact a
theorem perm_ky {ys : List Str} {ks : List Nat} (h : ys.Perm (ks.map ky)) : ∃ js : List Nat, ys = js.map ky ∧ js.Perm ks := by
  obtain ⟨js, p, e⟩ : ∃ js : List Nat, js.Perm ks ∧ ys = js.map ky := by
    generalize e : ks.map ky = zs at h
    induction h generalizing ks with
    | nil =>
      have : ks = [] := by simpa using e
      exact ⟨[], this ▸ .nil, rfl⟩
    | cons x p ih =>
      cases ks with
      | nil => cases e
      | cons k r =>
        injection e with e1 e2
        obtain ⟨js, p', e'⟩ := ih e2
        exact ⟨k :: js, .cons k p', by rw [e', ← e1]; rfl⟩
    | swap x y l =>
      match ks, e with
      | a :: b :: r, e =>
        injection e with e1 e2
        injection e2 with e2 e3
        exact ⟨b :: a :: r, .swap .., by rw [← e1, ← e2, ← e3]; rfl⟩
    | trans p1 p2 ih1 ih2 =>
      obtain ⟨js, q, e'⟩ := ih2 e
      obtain ⟨is, q', e2⟩ := ih1 e'.symm
      exact ⟨is, q'.trans q, e2⟩
  exact ⟨js, e, p⟩
/-! ### sums over rows: a row is a pair (or none) and coins -/
abbrev Rows : Type := List (Option Nat × Int)
def tot (P : Nat → Bool) : Rows → Int
  | [] => 0
  | r :: t => (match r.1 with
    | some k => if P k then r.2 else 0
    | none => 0) + tot P t
def sm (rs : Rows) (k : Nat) : Int := tot (fun j => decide (j = k)) rs
def rcv (rs : Rows) (p : Nat) : Int := tot (fun j => decide (j % 6 = p)) rs
def gvn (rs : Rows) (p : Nat) : Int := tot (fun j => decide (j / 6 = p)) rs
def nt (rs : Rows) (p : Nat) : Int := rcv rs p - gvn rs p
def fP (P : Nat → Bool) (r : Option Nat × Int) : Bool := match r.1 with
  | some k => P k
  | none => false
theorem tot_filter (P : Nat → Bool) : ∀ rs : Rows, ((rs.filter (fP P)).map (·.2)).sum = tot P rs
  | [] => rfl
  | r :: t => by
    have ih := tot_filter P t
    obtain ⟨k, c⟩ := r
    cases k with
    | none =>
      show (((t.filter (fP P)).map (·.2)).sum) = 0 + tot P t
      rw [ih, Int.zero_add]
    | some k =>
      show _ = (if P k then c else 0) + tot P t
      cases e : P k
      · rw [List.filter_cons_of_neg (by show ¬ P k = true; rw [e]; decide), ih, if_neg (by decide), Int.zero_add]
      · rw [List.filter_cons_of_pos (by show P k = true; exact e), if_pos rfl, List.map_cons, List.sum_cons, ih]
theorem tot_append (P : Nat → Bool) : ∀ a b : Rows, tot P (a ++ b) = tot P a + tot P b
  | [], b => by rw [List.nil_append]; show _ = 0 + _; rw [Int.zero_add]
  | r :: t, b => by
    show _ + tot P (t ++ b) = _ + tot P t + tot P b
    rw [tot_append P t b, Int.add_assoc]
theorem tot_nonneg {P : Nat → Bool} : ∀ {rs : Rows}, (∀ r ∈ rs, 0 ≤ r.2) → 0 ≤ tot P rs
  | [], _ => Int.le_refl _
  | r :: t, h => by
    have ih := tot_nonneg (P := P) (rs := t) fun x hx => h x (List.mem_cons_of_mem _ hx)
    have h0 := h r List.mem_cons_self
    obtain ⟨k, c⟩ := r
    cases k with
    | none => show 0 ≤ 0 + tot P t; omega
    | some k =>
      show 0 ≤ (if P k then c else 0) + tot P t
      dsimp only at h0
      split <;> omega
theorem tot_le {P : Nat → Bool} {B : Int} (b0 : 0 ≤ B) : ∀ {rs : Rows}, (∀ r ∈ rs, 0 ≤ r.2 ∧ r.2 ≤ B) → tot P rs ≤ rs.length * B
  | [], _ => by show (0 : Int) ≤ ((0 : Nat) : Int) * B; simp
  | r :: t, h => by
    have ih := tot_le (P := P) b0 (rs := t) fun x hx => h x (List.mem_cons_of_mem _ hx)
    have h0 := h r List.mem_cons_self
    have e : (((r :: t).length : Nat) : Int) * B = (t.length : Int) * B + B := by
      rw [List.length_cons]
      have : ((t.length + 1 : Nat) : Int) = (t.length : Int) + 1 := by omega
      rw [this, Int.add_mul, Int.one_mul]
    rw [e]
    obtain ⟨k, c⟩ := r
    cases k with
    | none => show 0 + tot P t ≤ _; omega
    | some k =>
      show (if P k then c else 0) + tot P t ≤ _
      dsimp only at h0
      split <;> omega
def ent (ks : List Nat) (g : Nat → Int) : Rows := ks.map fun k => (some k, g k)
theorem tot_ent_add (P : Nat → Bool) (g h : Nat → Int) : ∀ ks : List Nat, tot P (ent ks fun k => g k + h k) = tot P (ent ks g) + tot P (ent ks h)
  | [] => rfl
  | k :: r => by
    have ih := tot_ent_add P g h r
    show (if P k then g k + h k else 0) + tot P (ent r fun k => g k + h k) = ((if P k then g k else 0) + tot P (ent r g)) + ((if P k then h k else 0) + tot P (ent r h))
    rw [ih]
    split <;> omega
theorem tot_ent_one (P : Nat → Bool) (j : Nat) (c : Int) : ∀ ks : List Nat, ks.Nodup → tot P (ent ks fun k => if j = k then c else 0) = if j ∈ ks then (if P j then c else 0) else 0
  | [], _ => rfl
  | k :: r, nd => by
    have nd2 := List.nodup_cons.mp nd
    have ih := tot_ent_one P j c r nd2.2
    show (if P k then (if j = k then c else 0) else 0) + tot P (ent r fun k => if j = k then c else 0) = _
    rw [ih]
    by_cases e : j = k
    · subst e
      rw [if_neg nd2.1, if_pos List.mem_cons_self, if_pos rfl, Int.add_zero]
    · rw [if_neg e]
      have z : (if P k = true then (0 : Int) else 0) = 0 := by split <;> rfl
      rw [z, Int.zero_add]
      by_cases m : j ∈ r
      · rw [if_pos m, if_pos (List.mem_cons_of_mem _ m)]
      · rw [if_neg m, if_neg fun z => (List.mem_cons.mp z).elim e m]
theorem tot_ent_zero (P : Nat → Bool) : ∀ ks : List Nat, tot P (ent ks fun _ => 0) = 0
  | [] => rfl
  | k :: r => by
    show (if P k then (0 : Int) else 0) + tot P (ent r fun _ => 0) = 0
    rw [tot_ent_zero P r]
    split <;> rfl
/-- rows summed by pair have the totals of the rows -/
theorem tot_ent (P : Nat → Bool) {ks : List Nat} (nd : ks.Nodup) : ∀ {rs : Rows}, (∀ r ∈ rs, ∀ k, r.1 = some k → k ∈ ks ∨ r.2 = 0) → tot P (ent ks (sm rs)) = tot P rs
  | [], _ => tot_ent_zero P ks
  | r :: t, h => by
    have ih := tot_ent P nd (rs := t) fun x hx => h x (List.mem_cons_of_mem _ hx)
    have h0 := h r List.mem_cons_self
    obtain ⟨k, c⟩ := r
    cases k with
    | none =>
      have e : sm ((none, c) :: t) = sm t := funext fun k => by
        show 0 + tot _ t = tot _ t
        rw [Int.zero_add]
      rw [e, ih]
      show _ = 0 + tot P t
      rw [Int.zero_add]
    | some j =>
      have e : sm ((some j, c) :: t) = fun k => (if j = k then c else 0) + sm t k := funext fun k => by
        show (if decide (j = k) = true then c else 0) + tot _ t = _
        by_cases z : j = k
        · rw [if_pos (decide_eq_true z), if_pos z]
          rfl
        · rw [if_neg (by simpa using z), if_neg z]
          rfl
      rw [e, tot_ent_add, ih, tot_ent_one P j c ks nd]
      show _ = (if P j then c else 0) + tot P t
      rcases h0 j rfl with m | z
      · rw [if_pos m]
      · have z : c = 0 := z
        subst z
        have q : (if P j = true then (0 : Int) else 0) = 0 := by split <;> rfl
        rw [q]
        split <;> rfl
theorem tot_congr (P : Nat → Bool) {g h : Nat → Int} : ∀ {ks : List Nat}, (∀ k ∈ ks, g k = h k) → tot P (ent ks g) = tot P (ent ks h)
  | [], _ => rfl
  | k :: r, e => by
    show (if P k then g k else 0) + tot P (ent r g) = (if P k then h k else 0) + tot P (ent r h)
    rw [e k List.mem_cons_self, tot_congr P fun x hx => e x (List.mem_cons_of_mem _ hx)]
end Z
set_option Elab.async false
set_option linter.all false
set_option maxRecDepth 100000
set_option maxHeartbeats 4000000
namespace Z
open PySem PySem.Spec PyProof.Rows L2
theorem relv_str {x : Str} {t : Tok} : L2.RelV (.str x) (.str x t) := ⟨t, rfl⟩
theorem szl {n : Nat} (h : n ≤ 2000) : n ≤ sizeLine := Nat.le_trans h (by decide)
theorem szlt {n : Nat} (h : n ≤ 2000) : n < sizeLine := Nat.lt_of_le_of_lt h (by decide)
/-! ### list(d.values()) -/
def tListVals (te : TE) : TE := fun σ H Q => te σ H fun x H1 => ∃ (d : Addr) (kvs : List (Key × V)), x = .ref d ∧ H1 d = some (.dK kvs) ∧ ∀ p, H1 p = none → Q (.ref p) (upd H1 p (.lst (kvs.map (·.2))))
theorem kv_vals {κ : Type} : ∀ {kvs : List (κ × V)} {vs : List (κ × Value)} {acc : List Value}, KV kvs vs → acc.length = vs.length → (∀ (j : Nat) v, acc[j]? = some v → ∃ k, vs[j]? = some (k, v)) → Vals (kvs.map (·.2)) acc := by
  intro kvs vs acc h
  unfold KV at h
  induction h generalizing acc with
  | nil =>
    intro hl _
    cases acc with
    | nil => exact .nil
    | cons _ _ => cases hl
  | cons r t ih =>
    intro hl hx
    cases acc with
    | nil => cases hl
    | cons a acc =>
      obtain ⟨k, e⟩ := hx 0 a rfl
      have e := Option.some.inj e
      refine .cons ?_ (ih (by simpa using hl) fun j v e => by simpa using hx (j + 1) v (by simpa using e))
      have r2 := r.2
      rw [e] at r2
      exact r2
section
variable {X : Cx} {e : Expr} {te : TE} {p apos cpos pos : Pos}
theorem pe_listVals (hc : X.calm = true) (he : PE X e te) (hg : Gl X "list") (hm : X.mg "list" = none) (hv : bootBuiltins "list" = some (.type "list")) (hbase : attributeBase e "values" X.env (eval e X.env) = eval e X.env := by rfl) (hline : (apos.endLine == cpos.line) = true := by rfl)
    (hs : starEach [.Call (.Attribute e "values" apos) [] [] cpos] X.env = (false, eval (.Call (.Attribute e "values" apos) [] [] cpos) X.env) :: starEach [] X.env := by rfl) :
    PE X (.Call (.Name "list" p) [.Call (.Attribute e "values" apos) [] [] cpos] [] pos) (tListVals te) := by
  refine ⟨fun pins s σ H Q I hq => ?_⟩
  refine wpAny_Call_Name_kw (ld_blt I hg hm hv ?_)
  refine PyProof.Rows.callWith_type1 ?_ hs rfl
  rw [hs]
  show wpAny _ _ (spliced ((false, eval (.Call (.Attribute e "values" apos) [] [] cpos) X.env) :: backTo pos (starEach [] X.env))) _ _ s
  refine Calls.spliced_cons ?_
  refine wpAny_Call_method (T := "dict") (id := "dict.values") hbase rfl hline F.plainAttrs_dict F.slot_dict_values F.type_dict_values (thn (he.run pins s σ H _ I hq) fun u s1 ⟨x, H1, I1, rx, d, kvs, ex, hd, q⟩ => ?_)
  subst ex
  obtain rfl : u = Value.ref d := rx
  obtain ⟨hz, hs0, vs, kv, hdo⟩ := I1.hok d _ hd
  obtain ⟨ep, hat⟩ := hdo.dictAt
  have lk : kvs.length = vs.length := Paired.length kv
  have I2 : Inv X pins σ H1 { s1 with heap := s1.heap.push { cls := .type "dict_values", data := .fields #[.ref d] } } := I1.kept (t' := s1.toks) fun b ob q => Heap.get?_push_of_some _ q
  refine ⟨hdo.typeIs, hdo.mapOf.noDict, ?_⟩
  show wpAny _ _ (callWith cpos (.builtin "dict.values") [.ref d] [] []) _ X.xe s1
  refine method_meetsIn F.slot_dict_values F.entry_dict_values rfl (PySem.evalArgs_none ⟨rfl, hdo.typeIs, F.args_dict_values_1 _, _, meets_dict_values (mixKind X.prog X.w) d hs0, ⟨vs, hdo⟩, ?_⟩)
  refine Calls.spliced_nil ?_
  refine PySem.W.kdl_call (PySem.W.kdl_values (knd := mixKind X.prog X.w) (kvs := vs) (ep := ep)) (I1.ok.hd hc) ⟨⟨_, Heap.get?_push_size _ rfl, rfl, rfl⟩, hat.push _⟩ (by omega) fun h' tk acc c hk hS hacc => ?_
  have hl : (kvs.map (·.2)).length ≤ sizeLine := by rw [List.length_map]; exact hz
  refine ⟨.ref _, upd H1 _ (.lst (kvs.map (·.2))), I2.laid (t' := tk) hk (Nat.le_refl _) ⟨hl, acc.toList, c, kv_vals kv (by rw [Array.length_toList]; exact hacc.1) (fun j v e => hacc.2 j v (by rw [← Array.getElem?_toList]; exact e)), ?_⟩, rfl, q _ (I2.hok.fresh (Nat.le_refl _))⟩
  rw [Array.toArray_toList]
  exact hS
end
end Z
set_option pp.maxSteps 700
set_option Elab.async false
set_option linter.all false
set_option maxRecDepth 100000
set_option maxHeartbeats 4000000
open SX (S S_inj S_len S_cat)
namespace Z
open PySem PySem.Spec PyProof.Rows L2
open C8 (pss_cut tCut)
local macro_rules | `(tactic| walk_at "num") => `(tactic| first | rfl | omega | decide | exact Nat.le_of_lt (small1000 (by simp)) | exact ⟨by omega, by omega⟩ | exact ⟨by omega, by omega, by omega⟩ | exact ⟨by decide, by decide, by decide⟩ | exact Or.inl ⟨by omega, by omega⟩ | exact Or.inr ⟨by omega, by omega⟩)
local macro_rules | `(tactic| walk_at "go") => `(tactic| repeat (first | refine ⟨_, rfl, ?_⟩ | refine ⟨_, _, rfl, rfl, ?_⟩ | refine ⟨_, _, rfl, ?_⟩ | (refine ⟨_, _, rfl, rfl, ?_, ?_⟩; focus walk_at "num") | refine Or.inl ⟨_, rfl, ?_⟩ | refine ⟨_, _, _, _, rfl, rfl, (by assumption), (by rfl), ?_⟩ | refine ⟨_, _, _, _, _, rfl, (by assumption), (by assumption), (by assumption), (by rfl), ?_⟩ | refine ⟨rfl, ?_⟩ | (refine And.intro ?_ ?_; focus walk_at "num")))
abbrev s_is_party : Stmt := topS 6
abbrev N_is_party : List Str := ["text"]
abbrev P_is_party : List Str := ["text"]
theorem sc_is_party : FnScope N_is_party P_is_party (defScope s_is_party) := ⟨rfl, rfl, rfl, by decide +kernel, rfl, by decide +kernel, by decide +kernel⟩
abbrev s_is_pair : Stmt := topS 7
abbrev N_is_pair : List Str := ["text"]
abbrev P_is_pair : List Str := ["text"]
theorem sc_is_pair : FnScope N_is_pair P_is_pair (defScope s_is_pair) := ⟨rfl, rfl, rfl, by decide +kernel, rfl, by decide +kernel, by decide +kernel⟩
theorem in_abc {i : Nat} (h : i < 6) : decide (97 + i ∈ (Str.ofString "abcdef").cps.toList) = true := (by decide +kernel : ∀ i, i < 6 → decide (97 + i ∈ (Str.ofString "abcdef").cps.toList) = true) i h
section
variable {P : Program} {w : World} {K : PySem.W.Frag} {mg : Str → Option Value} {base : Heap} {f : Addr} {fd : FuncData}
def spParty : Sp := fun vs H Q _ => ∃ i : Nat, vs = [.str (lt1 i)] ∧ i < 6 ∧ Q (.bl true) H
theorem ok_is_party (F : FnP K "is_party" s_is_party f fd) (m_len : mg "len" = none) (tok_PARTIES : Tok) (g_PARTIES : mg "PARTIES" = some (.str "abcdef" tok_PARTIES)) : FnOk P w K mg base CX0 1 f fd P_is_party spParty := by
  refine F.ok sc_is_party (fun vs H Q E h => ?_) (fun cdv A outer s H vs Q E hr h => ?_)
  · obtain ⟨i, rfl, _⟩ := h
    rfl
  · obtain ⟨i, rfl, li, q⟩ := h
    refine ⟨_, PSs.nox (pss_one (ps_ret (pe_and (pe_cmpR op_eq (pe_callB call_len_str (by rfl) m_len PySem.boot_len (pa_cons (pv 0) pa_nil)) pe_int (nomark _)) (pe_one (pe_cmpR op_in_sign (pv 0) (pe_glob (by rfl) g_PARTIES (relv_str (x := "abcdef"))) (by rfl)))))), ?_⟩
    walk_at "go"
    have e1 : (lt1 i).length = 1 := by unfold lt1; rw [S_len]; rfl
    rw [e1]
    refine ⟨szl (by decide), ?_⟩
    walk_at "go"
    rw [in_abc li]
    exact q
def spPair : Sp := fun vs H Q _ => ∃ k : Nat, vs = [.str (ky k)] ∧ k < 36 ∧ k / 6 ≠ k % 6 ∧ Q (.bl true) H
theorem ok_is_pair (F : FnP K "is_pair" s_is_pair f fd) (m_len : mg "len" = none) (c_is_party : Cal P w K mg base 1 "is_party" spParty) : FnOk P w K mg base CX0 2 f fd P_is_pair spPair := by
  refine F.ok sc_is_pair (fun vs H Q E h => ?_) (fun cdv A outer s H vs Q E hr h => ?_)
  · obtain ⟨k, rfl, _⟩ := h
    rfl
  · obtain ⟨k, rfl, lk, nk, q⟩ := h
    refine ⟨_, PSs.nox (pss_one (ps_ret (pe_and (pe_cmpR op_eq (pe_callB call_len_str (by rfl) m_len PySem.boot_len (pa_cons (pv 0) pa_nil)) pe_int (nomark _)) (pe_and (pe_cl c_is_party hr (by decide) (by rfl) (pa_cons (pe_ix ix_str (pv 0) pe_int (fun _ _ => rfl)) pa_nil)) (pe_and (pe_cl c_is_party hr (by decide) (by rfl) (pa_cons (pe_ix ix_str (pv 0) pe_int (fun _ _ => rfl)) pa_nil)) (pe_one (pe_cmpR op_ne (pe_ix ix_str (pv 0) pe_int (fun _ _ => rfl)) (pe_ix ix_str (pv 0) pe_int (fun _ _ => rfl)) (nomark _)))))))), ?_⟩
    walk_at "go"
    have e1 : (ky k).length = 2 := by unfold ky; rw [S_len]; rfl
    rw [e1]
    refine ⟨szl (by decide), ?_⟩
    walk_at "go"
    refine ⟨ky k, _, 97 + k / 6, rfl, rfl, by rw [e1]; exact szl (by decide), rfl, ?_⟩
    walk_at "go"
    refine ⟨ky k, _, 97 + k % 6, rfl, rfl, by rw [e1]; exact szl (by decide), rfl, ?_⟩
    walk_at "go"
    refine ⟨ky k, _, 97 + k / 6, rfl, rfl, by rw [e1]; exact szl (by decide), rfl, ?_⟩
    walk_at "go"
    refine ⟨ky k, _, 97 + k % 6, rfl, rfl, by rw [e1]; exact szl (by decide), rfl, ?_⟩
    walk_at "go"
    have e2 : (V.str (lt1 (k / 6)) = V.str (lt1 (k % 6))) ↔ False := ⟨fun z => nk (lt1_inj (V.str.inj z)), False.elim⟩
    show Q (V.bl (!decide (V.str (lt1 (k / 6)) = V.str (lt1 (k % 6))))) H
    rw [decide_eq_false (fun z => e2.mp z)]
    exact q
end
end Z
set_option pp.maxSteps 700
set_option Elab.async false
set_option linter.all false
set_option maxRecDepth 100000
set_option maxHeartbeats 4000000
open SX (S S_inj S_len S_cat)
namespace Z
open PySem PySem.Spec PyProof.Rows L2
open C8 (pss_cut tCut)
local macro_rules | `(tactic| walk_at "num") => `(tactic| first | rfl | omega | decide | exact Nat.le_of_lt (small1000 (by simp)) | exact ⟨by omega, by omega⟩ | exact ⟨by omega, by omega, by omega⟩ | exact ⟨by decide, by decide, by decide⟩ | exact Or.inl ⟨by omega, by omega⟩ | exact Or.inr ⟨by omega, by omega⟩)
local macro_rules | `(tactic| walk_at "go") => `(tactic| repeat (first | refine ⟨_, rfl, ?_⟩ | refine ⟨_, _, rfl, rfl, ?_⟩ | refine ⟨_, _, rfl, ?_⟩ | (refine ⟨_, _, rfl, rfl, ?_, ?_⟩; focus walk_at "num") | refine Or.inl ⟨_, rfl, ?_⟩ | refine ⟨_, _, _, _, rfl, rfl, (by assumption), (by rfl), ?_⟩ | refine ⟨_, _, _, _, _, rfl, (by assumption), (by assumption), (by assumption), (by rfl), ?_⟩ | refine ⟨rfl, ?_⟩ | (refine And.intro ?_ ?_; focus walk_at "num")))
abbrev s_check_debts : Stmt := topS 9
abbrev N_check_debts : List Str := ["debts", "pair", "coins"]
abbrev P_check_debts : List Str := ["debts"]
theorem sc_check_debts : FnScope N_check_debts P_check_debts (defScope s_check_debts) := ⟨rfl, rfl, rfl, by decide +kernel, rfl, by decide +kernel, by decide +kernel⟩
abbrev s_tidy : Stmt := topS 10
abbrev N_tidy : List Str := ["debts", "pair"]
abbrev P_tidy : List Str := ["debts"]
theorem sc_tidy : FnScope N_tidy P_tidy (defScope s_tidy) := ⟨rfl, rfl, rfl, by decide +kernel, rfl, by decide +kernel, by decide +kernel⟩
section
variable {P : Program} {w : World} {K : PySem.W.Frag} {mg : Str → Option Value} {base : Heap} {f : Addr} {fd : FuncData}
theorem dc_gen {J : It} {n : Nat} {g : TG} {tt : TT} {tk tv : TE} {vs : List Nat} {σ : L2.St} {H1 : Hp} {D : Addr} {Qd : Hp → Prop} (Pv : Nat → Hp → Prop) (h0 : Pv 0 (upd H1 D (.dK []))) (hgo : ∀ i H, i < n → Pv i H → J.go i H) (hst : ∀ H, Pv n H → J.stop n H)
    (hs : ∀ i H x H', i < n → Pv i H → J.yld i H x H' → g x (wipe σ vs) H' fun σ2 H2 => wipe σ2 vs = wipe σ vs ∧ tt σ2 H2 fun b H3 =>
      if b = true then tk σ2 H3 fun y H4 => tv σ2 H4 fun z H5 => ∃ kvs k, y = kV k ∧ H5 D = some (.dK kvs) ∧ kvs.length < sizeLine ∧ Pv (i + 1) (upd H5 D (.dK (putK kvs k z))) else Pv (i + 1) H3) (hd : ∀ H, Pv n H → Qd H) :
    ∃ W : Nat → Nat → Hp → Prop, (∃ m, W 0 m (upd H1 D (.dK []))) ∧ ∀ i m H, W i m H →
      (J.stop i H ∧ Qd H) ∨ (J.go i H ∧ ∃ Nx : Hp → Prop, (∀ H', Nx H' → ∃ m', m' < m ∧ W (i + 1) m' H') ∧ ∀ x H', J.yld i H x H' → g x (wipe σ vs) H' fun σ2 H2 => wipe σ2 vs = wipe σ vs ∧ tt σ2 H2 fun b H3 =>
        if b = true then tk σ2 H3 fun y H4 => tv σ2 H4 fun z H5 => ∃ kvs k, y = kV k ∧ H5 D = some (.dK kvs) ∧ kvs.length < sizeLine ∧ Nx (upd H5 D (.dK (putK kvs k z))) else Nx H3) := by
  refine ⟨fun i m H => m = n - i ∧ i ≤ n ∧ Pv i H, ⟨n, by omega, Nat.zero_le _, h0⟩, fun i m H w => ?_⟩
  obtain ⟨rfl, hi, p⟩ := w
  by_cases hlt : i < n
  · exact .inr ⟨hgo i H hlt p, Pv (i + 1), fun H' z => ⟨n - (i + 1), by omega, rfl, hlt, z⟩, fun x H' y => hs i H x H' hlt p y⟩
  · have e : i = n := by omega
    subst e
    exact .inl ⟨hst H p, hd H p⟩
/-- a key: two different parties -/
def KOk (k : Nat) : Prop := k < 36 ∧ k / 6 ≠ k % 6
def spCheck : Sp := fun vs H Q _ => ∃ (d : Addr) (ks : List Nat) (g : Nat → Int), vs = [.ref d] ∧ H d = some (.dK (tab ky ks g)) ∧ (∀ k ∈ ks, KOk k ∧ 0 ≤ g k) ∧ ks.length ≤ 1000 ∧ ∀ H', Same H H' → Q .non H'
theorem ok_check_debts (F : FnP K "check_debts" s_check_debts f fd) (m_list : mg "list" = none) (c_is_pair : Cal P w K mg base 2 "is_pair" spPair) : FnOk P w K mg base CX0 3 f fd P_check_debts spCheck := by
  refine F.ok sc_check_debts (fun vs H Q E h => ?_) (fun cdv A outer s H vs Q E hr h => ?_)
  · obtain ⟨d, ks, g, rfl, _⟩ := h
    rfl
  · obtain ⟨d, ks, g, rfl, hd, hk, lk, q⟩ := h
    refine ⟨_, PSs.nox (pss_cons (ps_lock (ps_for PassesOwn.never rfl (pi_keys (pv 0)) (pg_name (i := 1) sc_check_debts.nd rfl (by first | exact .inl rfl | exact .inr rfl))
        (pss_one (ps_if (pt_not (pt_val (pe_cl c_is_pair hr (by decide) (by rfl) (pa_cons (pv 1) pa_nil)))) (pss_one ps_never) pss_nil))))
      (pss_one (ps_for PassesOwn.never rfl (pi_list (pe_listVals rfl (pv 0) (by rfl) m_list (by decide +kernel))) (pg_name (i := 2) sc_check_debts.nd rfl (by first | exact .inl rfl | exact .inr rfl))
        (pss_one (ps_if (pt_cmpR op_lt (pv 2) pe_int (nomark _)) (pss_one ps_never) pss_nil))))), ?_⟩
    walk_at "go"
    refine ⟨d, _, hd, trivial, fun od => ?_⟩
    have fz : (upd H d (.frz od (.dK (tab ky ks g)))) d = some (.frz od (.dK (tab ky ks g))) := upd_same
    have sb : SB d H (upd H d (.frz od (.dK (tab ky ks g)))) := fun b o n e => by rw [upd_ne n]; exact e
    generalize upd H d (.frz od (.dK (tab ky ks g))) = J at fz sb
    walk_at "go"
    refine ⟨d, od, rfl, .inl ⟨_, fz, ?_⟩⟩
    refine for_gen (n := ks.length) (fun i σ J1 => J1 = J ∧ ∃ v1 v2, σ = [some (.ref d), v1, v2]) ⟨rfl, _, _, rfl⟩ ?_ ?_ ?_ ?_
    · rintro i σ J1 hi ⟨rfl, _⟩
      exact ⟨fz, by rw [tab_len]; exact hi⟩
    · rintro σ J1 ⟨rfl, _⟩
      exact ⟨fz, by rw [tab_len]; exact Nat.le_refl _⟩
    · rintro i σ J1 x J2 hi ⟨rfl, v1, v2, rfl⟩ ⟨rfl, k, v, e, rfl⟩
      rw [tab_at hi] at e
      cases e
      have hk1 := hk _ (List.getElem_mem hi)
      generalize ks[i] = k at hk1
      walk_at "go"
      refine ⟨hk1.1.1, hk1.1.2, ?_⟩
      walk_at "go"
      exact ⟨_, _, rfl⟩
    rintro σ J1 ⟨rfl, v1, v2, rfl⟩
    walk_at "go"
    have s1 : Same H (upd J1 d (.dK (tab ky ks g))) := fun a o e => by
      by_cases c : a = d
      · subst c
        rw [upd_same, ← hd, e]
      · rw [upd_ne c]
        exact sb a o c e
    have hd1 : (upd J1 d (.dK (tab ky ks g))) d = some (.dK (tab ky ks g)) := upd_same
    generalize upd J1 d (.dK (tab ky ks g)) = J3 at s1 hd1
    walk_at "go"
    refine ⟨d, _, rfl, hd1, fun l nl => ?_⟩
    have s2 := s1.trans (same_new (o := .lst ((tab ky ks g).map (·.2))) nl)
    have el : (upd J3 l (.lst ((tab ky ks g).map (·.2)))) l = some (.lst (ks.map fun k => V.int (g k))) := by
      rw [upd_same]
      unfold tab
      rw [List.map_map]
      rfl
    generalize upd J3 l (.lst ((tab ky ks g).map (·.2))) = J4 at s2 el
    walk_at "go"
    refine ⟨⟨_, SqL.of el⟩, ?_⟩
    refine for_gen (n := ks.length) (fun i σ J1 => J1 = J4 ∧ ∃ v1 v2, σ = [some (.ref d), v1, v2]) ⟨rfl, _, _, rfl⟩ ?_ ?_ ?_ ?_
    · rintro i σ J1 hi ⟨rfl, _⟩
      exact ⟨_, .int (g ks[i]), SqL.of el, by rw [List.getElem?_map, List.getElem?_eq_getElem hi]; rfl⟩
    · rintro σ J1 ⟨rfl, _⟩
      exact ⟨_, SqL.of el, by rw [List.length_map]; exact Nat.le_refl _⟩
    · rintro i σ J1 x J2 hi ⟨rfl, v1, v2, rfl⟩ ⟨rfl, hx⟩
      have hx := hx _ (SqL.of el)
      rw [List.getElem?_map, List.getElem?_eq_getElem hi] at hx
      cases hx
      have g0 := (hk _ (List.getElem_mem hi)).2
      walk_at "go"
      refine ite2 (fun e => ?_) (fun e => ?_)
      · have e : g ks[i] < 0 := of_decide_eq_true e
        exact absurd e (by omega)
      · walk_at "go"
        exact ⟨_, _, rfl⟩
    · rintro σ J1 ⟨rfl, v1, v2, rfl⟩
      exact q _ s2
def spTidy : Sp := fun vs H Q _ => ∃ (d : Addr) (ks : List Nat) (g : Nat → Int), vs = [.ref d] ∧ H d = some (.dK (tab ky ks g)) ∧ ks.Nodup ∧ ks.length < 64 ∧ ∀ (p : Addr) (js : List Nat) H', Same H H' → js.Pairwise (· < ·) → (∀ k, k ∈ js ↔ k ∈ ks ∧ 0 < g k) → H p = none → H' p = some (.dK (tab ky js g)) → Q (.ref p) H'
theorem ok_tidy (F : FnP K "tidy" s_tidy f fd) (m_list : mg "list" = none) (m_sorted : mg "sorted" = none) : FnOk P w K mg base CX0 1 f fd P_tidy spTidy := by
  refine F.ok sc_tidy (fun vs H Q E h => ?_) (fun cdv A outer s H vs Q E hr h => ?_)
  · obtain ⟨d, ks, g, rfl, _⟩ := h
    rfl
  · obtain ⟨d, ks, g, rfl, hd, nd, lk, q⟩ := h
    refine ⟨_, PSs.nox (pss_one (ps_ret (pe_dc (own := [("pair", 1)]) (g := (gName 1)) (by rfl) sc_tidy.nd (pi_list (pe_callB cr_sortedS (by rfl) m_sorted (by decide +kernel) (pa_cons (pe_callTy (call_list_dK rfl) (by rfl) m_list (by decide +kernel) (pa_cons (pv 0) pa_nil)) pa_nil))) (blkOk_by (own := [("pair", 1)]) (N := N_tidy) (sc := defScope s_tidy) (by decide +kernel)) (fun _ _ _ _ _ => (pg_name (i := 1) sc_tidy.nd rfl (by first | exact .inl rfl | exact .inr rfl))) (fun _ _ _ _ _ => (pts_one (pt_cmpR op_gt (pe_dget (hu_of hr) (pv 0) (pv 1) (fun _ _ => rfl)) pe_int (nomark _)))) (fun _ _ _ _ _ => (pv 1)) (fun _ _ _ _ _ => (pe_dget (hu_of hr) (pv 0) (pv 1) (fun _ _ => rfl)))))), ?_⟩
    walk_at "go"
    refine ⟨d, _, rfl, hd, fun q1 nq1 => ?_⟩
    rw [tab_filter]
    have s1 := same_new (o := .lst (ks.map fun k => V.str (ky k))) nq1
    have e1 : (upd H q1 (.lst (ks.map fun k => V.str (ky k)))) q1 = some (.lst ((ks.map ky).map V.str)) := by
      rw [upd_same, List.map_map]
      rfl
    generalize upd H q1 (.lst (ks.map fun k => V.str (ky k))) = H1 at s1 e1
    walk_at "go"
    refine ⟨q1, ks.map ky, rfl, SqL.of e1, by rw [List.length_map]; exact lk, fun ys p pm srt np => ?_⟩
    obtain ⟨js, rfl, pj⟩ := perm_ky pm
    have ndj : js.Nodup := pj.nodup_iff.mpr nd
    have asc := asc_of_nodup (sorted_ky srt) ndj
    have s2 := s1.trans (same_new (o := .lst ((js.map ky).map V.str)) np)
    have e2 : (upd H1 p (.lst ((js.map ky).map V.str))) p = some (.lst ((js.map ky).map V.str)) := upd_same
    generalize upd H1 p (.lst ((js.map ky).map V.str)) = H2 at s2 e2
    have lj : js.length < 64 := by rw [pj.length_eq]; exact lk
    walk_at "go"
    refine ⟨⟨_, SqL.of e2⟩, fun D nD => ?_⟩
    have nDH : H D = none := none_of s2 nD
    refine dc_gen (n := js.length) (fun i J => Same H2 J ∧ J D = some (.dK (tab ky ((js.take i).filter fun k => decide (0 < g k)) g))) ⟨same_new nD, upd_same⟩ ?_ ?_ ?_ ?_
    · rintro i J hi ⟨s3, _⟩
      exact ⟨_, .str (ky js[i]), s3.seq (SqL.of e2), by rw [List.getElem?_map, List.getElem?_map, List.getElem?_eq_getElem hi]; rfl⟩
    · rintro J ⟨s3, _⟩
      exact ⟨_, s3.seq (SqL.of e2), by rw [List.length_map, List.length_map]; exact Nat.le_refl _⟩
    · rintro i J x J' hi ⟨s3, eD⟩ ⟨rfl, hx⟩
      have hx := hx _ (s3.seq (SqL.of e2))
      rw [List.getElem?_map, List.getElem?_map, List.getElem?_eq_getElem hi] at hx
      cases hx
      have km : js[i] ∈ ks := pj.mem_iff.mp (List.getElem_mem hi)
      have tk : (js.take (i + 1)).filter (fun k => decide (0 < g k)) = (js.take i).filter (fun k => decide (0 < g k)) ++ (if 0 < g js[i] then [js[i]] else []) := by
        rw [List.take_succ, List.getElem?_eq_getElem hi, List.filter_append]
        congr 1
        by_cases c : 0 < g js[i]
        · rw [if_pos c]
          simp [c]
        · rw [if_neg c]
          simp [c]
      have nin : js[i] ∉ (js.take i).filter (fun k => decide (0 < g k)) := fun z => by
        have z := (List.mem_filter.mp z).1
        obtain ⟨j, hj, ej⟩ := List.getElem_of_mem z
        rw [List.length_take] at hj
        rw [List.getElem_take] at ej
        have := (List.getElem_inj ndj).mp ej
        omega
      generalize js[i] = k at km tk nin
      have hd3 := s3 _ _ (s2 _ _ hd)
      have dg : DGet J' d (.str (ky k)) (some (.int (g k))) := by
        have z := DGet.k (k := Sum.inr (ky k)) hd3
        rw [tab_val (fun _ _ => ky_inj), if_pos km] at z
        exact z
      refine ⟨rfl, ?_⟩
      walk_at "go"
      refine ⟨d, _, rfl, dg, ?_⟩
      walk_at "go"
      refine ite2 (fun e => ?_) (fun e => ?_)
      · have e : 0 < g k := of_decide_eq_true e
        rw [if_pos e] at tk
        walk_at "go"
        refine ⟨d, _, rfl, dg, ?_⟩
        refine ⟨_, Sum.inr (ky k), rfl, eD, by rw [tab_len]; exact szlt (Nat.le_trans (List.length_filter_le ..) (by rw [List.length_take]; omega)), Z.Same.mut s3 nD, ?_⟩
        rw [upd_same, tab_put (fun _ _ => ky_inj), if_neg nin, tk]
        refine congrArg _ (congrArg _ (tab_congr fun j hj => ?_))
        by_cases c : j = k
        · rw [if_pos c, c]
        · rw [if_neg c]
      · have e : ¬ 0 < g k := fun z => e (decide_eq_true z)
        rw [if_neg e, List.append_nil] at tk
        exact ⟨s3, by rw [tk]; exact eD⟩
    · rintro J ⟨s3, eD⟩
      rw [List.take_length] at eD
      refine q D _ J (s2.trans s3) (asc.filter _) (fun k => ?_) nDH eD
      rw [List.mem_filter, pj.mem_iff, decide_eq_true_iff]
end
end Z
set_option pp.maxSteps 700
set_option Elab.async false
set_option linter.all false
set_option maxRecDepth 100000
set_option maxHeartbeats 4000000
open SX (S S_inj S_len S_cat)
namespace Z
open PySem PySem.Spec PyProof.Rows L2
open C8 (pss_cut tCut)
local macro_rules | `(tactic| walk_at "num") => `(tactic| first | rfl | omega | decide | exact Nat.le_of_lt (small1000 (by simp)) | exact ⟨by omega, by omega⟩ | exact ⟨by omega, by omega, by omega⟩ | exact ⟨by decide, by decide, by decide⟩ | exact Or.inl ⟨by omega, by omega⟩ | exact Or.inr ⟨by omega, by omega⟩)
local macro_rules | `(tactic| walk_at "go") => `(tactic| repeat (first | refine ⟨_, rfl, ?_⟩ | refine ⟨_, _, rfl, rfl, ?_⟩ | refine ⟨_, _, rfl, ?_⟩ | (refine ⟨_, _, rfl, rfl, ?_, ?_⟩; focus walk_at "num") | refine Or.inl ⟨_, rfl, ?_⟩ | refine ⟨_, _, _, _, rfl, rfl, (by assumption), (by rfl), ?_⟩ | refine ⟨_, _, _, _, _, rfl, (by assumption), (by assumption), (by assumption), (by rfl), ?_⟩ | refine ⟨rfl, ?_⟩ | (refine And.intro ?_ ?_; focus walk_at "num")))
abbrev s_net : Stmt := topS 11
abbrev N_net : List Str := ["debts", "party", "found", "pair", "coins"]
abbrev P_net : List Str := ["debts"]
theorem sc_net : FnScope N_net P_net (defScope s_net) := ⟨rfl, rfl, rfl, by decide +kernel, rfl, by decide +kernel, by decide +kernel⟩
theorem nodup_lenN : ∀ {n : Nat} {l : List Nat}, l.Nodup → (∀ x ∈ l, x < n) → l.length ≤ n := by
  intro n
  induction n with
  | zero =>
    intro l _ h
    cases l with
    | nil => exact Nat.le_refl _
    | cons x r => exact absurd (h x List.mem_cons_self) (by omega)
  | succ n ih =>
    intro l nd h
    have z := ih (l := l.erase n) (nd.erase _) (fun x hx => by
      have h1 := h x (List.mem_of_mem_erase hx)
      have h2 : x ≠ n := fun e => nd.not_mem_erase (e ▸ hx)
      omega)
    by_cases c : n ∈ l
    · rw [List.length_erase_of_mem c] at z
      omega
    · rw [List.erase_of_not_mem c] at z
      omega
theorem sm_snoc_some (rs : Rows) (k : Nat) (c : Int) (j : Nat) : sm (rs ++ [(some k, c)]) j = sm rs j + (if j = k then c else 0) := by
  unfold sm
  rw [tot_append]
  show _ + ((if decide (k = j) = true then c else 0) + 0) = _
  by_cases e : j = k
  · subst e
    rw [if_pos (decide_eq_true rfl), if_pos rfl, Int.add_zero]
  · rw [if_neg (by simpa using fun z : k = j => e z.symm), if_neg e, Int.add_zero]
theorem sm_snoc_none (rs : Rows) (c : Int) : sm (rs ++ [(none, c)]) = sm rs := funext fun j => by
  unfold sm
  rw [tot_append]
  show _ + (0 + 0) = _
  omega
/-- a row of the law: pair and coins, and the text -/
def RowT (w : (Option Nat × Int) × List Nat) : Prop := (w.1.1 = none ∧ w.1.2 = 0 ∧ ∃ z, z < 128 ∧ w.2 = [z]) ∨ ∃ k, w.1.1 = some k ∧ KOk k ∧ 0 ≤ w.1.2 ∧ w.1.2 < 10 ^ 62 ∧ w.2 = kyL k ++ TL.numL w.1.2.toNat
section
variable {P : Program} {w : World} {K : PySem.W.Frag} {mg : Str → Option Value} {base : Heap} {f : Addr} {fd : FuncData}
def spNet : Sp := fun vs H Q _ => ∃ (d : Addr) (ks : List Nat) (g : Nat → Int), vs = [.ref d] ∧ H d = some (.dK (tab ky ks g)) ∧ (∀ k ∈ ks, KOk k ∧ 0 ≤ g k) ∧ ks.length ≤ 1000 ∧ ∀ (t : Addr) H', Same H H' → H' t = some (.tup ((List.range 6).map fun p => V.int (nt (ent ks g) p))) → Q (.ref t) H'
theorem ok_net (F : FnP K "net" s_net f fd) (m_tuple : mg "tuple" = none) (tok_PARTIES : Tok) (g_PARTIES : mg "PARTIES" = some (.str "abcdef" tok_PARTIES)) (c_check_debts : Cal P w K mg base 3 "check_debts" spCheck) : FnOk P w K mg base CX0 4 f fd P_net spNet := by
  refine F.ok sc_net (fun vs H Q E h => ?_) (fun cdv A outer s H vs Q E hr h => ?_)
  · obtain ⟨d, ks, g, rfl, _⟩ := h
    rfl
  · obtain ⟨d, ks, g, rfl, hd, hk, lk, q⟩ := h
    refine ⟨_, PSs.nox (pss_cons (ps_expr (pe_cl c_check_debts hr (by decide) (by rfl) (pa_cons (pv 0) pa_nil)))
      (pss_cons (ps_set (i := 2) sc_net.nd rfl (by first | exact .inl rfl | exact .inr rfl) (pe_dc (own := [("party", 1)]) (g := (gName 1)) (tt := tYes) (by rfl) sc_net.nd (pi_str (pe_glob (by rfl) g_PARTIES (relv_str (x := "abcdef")))) (blkOk_by (own := [("party", 1)]) (N := N_net) (sc := defScope s_net) (by decide +kernel)) (fun _ _ _ _ _ => (pg_name (i := 1) sc_net.nd rfl (by first | exact .inl rfl | exact .inr rfl))) (fun _ _ _ _ _ => pts_nil) (fun _ _ _ _ _ => (pv 1)) (fun _ _ _ _ _ => pe_int)))
      (pss_cons (ps_lock (ps_for PassesOwn.never rfl (pi_items (pv 0)) (pg_tup rfl (pgs_cons (pg_name (i := 3) sc_net.nd rfl (by first | exact .inl rfl | exact .inr rfl)) (pgs_cons (pg_name (i := 4) sc_net.nd rfl (by first | exact .inl rfl | exact .inr rfl)) pgs_nil)))
        (pss_cons (ps_dput (hu_of hr) (pv 2) (pe_ix ix_str (pv 3) pe_int (fun _ _ => rfl)) (pe_op op_sub (pe_dget (hu_of hr) (pv 2) (pe_ix ix_str (pv 3) pe_int (fun _ _ => rfl)) (fun _ _ => rfl)) (pv 4)) rfl)
      (pss_one (ps_dput (hu_of hr) (pv 2) (pe_ix ix_str (pv 3) pe_int (fun _ _ => rfl)) (pe_op op_add (pe_dget (hu_of hr) (pv 2) (pe_ix ix_str (pv 3) pe_int (fun _ _ => rfl)) (fun _ _ => rfl)) (pv 4)) rfl)))))
      (pss_one (ps_ret (pe_callTy call_tuple_of (by rfl) m_tuple (by decide +kernel) (pa_cons (pe_lc (own := [("party", 1)]) (g := (gName 1)) (tt := tYes) (by rfl) sc_net.nd (pi_str (pe_glob (by rfl) g_PARTIES (relv_str (x := "abcdef")))) (blkOk_by (own := [("party", 1)]) (N := N_net) (sc := defScope s_net) (by decide +kernel)) (fun _ _ _ _ _ => (pg_name (i := 1) sc_net.nd rfl (by first | exact .inl rfl | exact .inr rfl))) (fun _ _ _ _ _ => pts_nil) (fun _ _ _ _ _ => (pe_dget (hu_of hr) (pv 2) (pv 1) (fun _ _ => rfl)))) pa_nil))))))), ?_⟩
    walk_at "go"
    refine ⟨d, ks, g, rfl, hd, hk, lk, fun H1 s1 => ?_⟩
    have hd1 := s1 _ _ hd
    walk_at "go"
    intro D nD
    have dD : D ≠ d := fun e => by rw [e, hd1] at nD; cases nD
    have abc : ∀ i, i < 6 → (Str.ofString "abcdef").cps[i]? = some (97 + i) := by decide +kernel
    have sz : (Str.ofString "abcdef").cps.size = 6 := by decide +kernel
    refine dc_gen (n := 6) (fun i J => Same H1 J ∧ J D = some (.dK (tab lt1 (List.range i) fun _ => 0))) ⟨same_new nD, upd_same⟩ ?_ ?_ ?_ ?_
    · rintro i J hi _
      show i < (Str.ofString "abcdef").cps.size
      omega
    · rintro J _
      show (Str.ofString "abcdef").cps.size ≤ 6
      omega
    · rintro i J x J' hi ⟨s2, eD⟩ ⟨rfl, c, ec, rfl⟩
      rw [abc i hi] at ec
      cases ec
      walk_at "go"
      refine ⟨_, Sum.inr (lt1 i), rfl, eD, by rw [tab_len, List.length_range]; exact szlt (by omega), Z.Same.mut s2 nD, ?_⟩
      rw [upd_same, tab_put (fun _ _ => lt1_inj), if_neg (by simp), List.range_succ]
      refine congrArg _ (congrArg _ (tab_congr fun j _ => ?_))
      split <;> rfl
    rintro J ⟨s2, eD⟩
    have hd2 := s2 _ _ hd1
    have s02 := s1.trans s2
    have nDH := none_of s1 nD
    walk_at "go"
    refine ⟨d, _, hd2, trivial, fun od => ?_⟩
    have fz : (upd J d (.frz od (.dK (tab ky ks g)))) d = some (.frz od (.dK (tab ky ks g))) := upd_same
    have sb : SB d H (upd J d (.frz od (.dK (tab ky ks g)))) := fun b o n e => by rw [upd_ne n]; exact s02 b o e
    have eD2 : (upd J d (.frz od (.dK (tab ky ks g)))) D = some (.dK (tab lt1 (List.range 6) fun _ => 0)) := by rw [upd_ne dD]; exact eD
    generalize upd J d (.frz od (.dK (tab ky ks g))) = J1 at fz sb eD2
    walk_at "go"
    refine ⟨d, od, _, rfl, fz, ?_⟩
    refine for_gen (n := ks.length) (fun i σ J2 => J2 d = some (.frz od (.dK (tab ky ks g))) ∧ SB d H J2 ∧ J2 D = some (.dK (tab lt1 (List.range 6) (nt (ent (ks.take i) g)))) ∧ ∃ v1 v3 v4, σ = [some (.ref d), v1, some (.ref D), v3, v4]) ⟨fz, sb, eD2, _, _, _, rfl⟩ ?_ ?_ ?_ ?_
    · rintro i σ J2 hi ⟨f1, _⟩
      exact ⟨f1, by rw [tab_len]; exact hi⟩
    · rintro σ J2 ⟨f1, _⟩
      exact ⟨f1, by rw [tab_len]; exact Nat.le_refl _⟩
    · rintro i σ J2 x J3 hi ⟨f1, sb1, eD3, v1, v3, v4, rfl⟩ ⟨T, kk, v, e, rfl, nT, rfl⟩
      rw [tab_at hi] at e
      cases e
      have hk1 := (hk _ (List.getElem_mem hi)).1
      have tk : ks.take (i + 1) = ks.take i ++ [ks[i]] := by
        rw [List.take_succ, List.getElem?_eq_getElem hi]
        rfl
      generalize ks[i] = k at hk1 tk
      have eT : (upd J2 T (.tup [kV (Sum.inr (ky k)), V.int (g k)])) T = some (.tup [.str (ky k), .int (g k)]) := upd_same
      have dT : d ≠ T := fun e => by rw [← e, f1] at nT; cases nT
      have DT : D ≠ T := fun e => by rw [← e, eD3] at nT; cases nT
      have nTH : ∀ o, H T ≠ some o := fun o e => by
        have := sb1 T o dT.symm e
        rw [nT] at this
        cases this
      have f2 : (upd J2 T (.tup [kV (Sum.inr (ky k)), V.int (g k)])) d = some (.frz od (.dK (tab ky ks g))) := by rw [upd_ne dT]; exact f1
      have sb2 : SB d H (upd J2 T (.tup [kV (Sum.inr (ky k)), V.int (g k)])) := fun b o n e => by
        have bT : b ≠ T := fun z => nTH o (by rw [← z]; exact e)
        rw [upd_ne bT]
        exact sb1 b o n e
      have eD4 : (upd J2 T (.tup [kV (Sum.inr (ky k)), V.int (g k)])) D = some (.dK (tab lt1 (List.range 6) (nt (ent (ks.take i) g)))) := by rw [upd_ne DT]; exact eD3
      generalize upd J2 T (.tup [kV (Sum.inr (ky k)), V.int (g k)]) = J4 at eT f2 sb2 eD4
      have hn : ∀ j, nt (ent (ks.take (i + 1)) g) j = nt (ent (ks.take i) g) j + (if k % 6 = j then g k else 0) - (if k / 6 = j then g k else 0) := fun j => by
        rw [tk]
        unfold nt rcv gvn ent
        rw [List.map_append, tot_append, tot_append]
        show (tot _ _ + ((if decide (k % 6 = j) = true then g k else 0) + 0)) - (tot _ _ + ((if decide (k / 6 = j) = true then g k else 0) + 0)) = _
        simp only [decide_eq_true_eq]
        omega
      generalize nt (ent (ks.take (i + 1)) g) = h2 at hn
      generalize nt (ent (ks.take i) g) = h at eD4 hn
      have e1 : (ky k).length = 2 := by unfold ky; rw [S_len]; rfl
      refine ⟨T, _, rfl, SqT.of eT, rfl, _, _, rfl, ?_⟩
      walk_at "go"
      have m1 : k / 6 ∈ List.range 6 := List.mem_range.mpr (by have := hk1.1; omega)
      have m2 : k % 6 ∈ List.range 6 := List.mem_range.mpr (by omega)
      have gt : ∀ (J : Hp) (h : Nat → Int) (i : Nat), J D = some (.dK (tab lt1 (List.range 6) h)) → i ∈ List.range 6 → DGet J D (.str ⟨#[97 + i]⟩) (some (.int (h i))) := fun J h i e m => by
        have z := DGet.k (k := Sum.inr (lt1 i)) e
        rw [tab_val (fun _ _ => lt1_inj), if_pos m] at z
        exact z
      have pt : ∀ (J : Hp) (h : Nat → Int) (i : Nat) (v : Int), J D = some (.dK (tab lt1 (List.range 6) h)) → i ∈ List.range 6 → DPut J D (.str ⟨#[97 + i]⟩) (.int v) (upd J D (.dK (tab lt1 (List.range 6) fun j => if j = i then v else h j))) := fun J h i v e m => by
        have z := DPut.k (k := Sum.inr (lt1 i)) (v := .int v) e (by rw [tab_len, List.length_range]; exact szlt (by omega))
        rw [tab_put (fun _ _ => lt1_inj), if_pos m] at z
        exact z
      refine ⟨ky k, _, 97 + k / 6, rfl, rfl, by rw [e1]; exact szl (by decide), rfl, ?_⟩
      refine ⟨D, _, rfl, gt _ _ _ eD4 m1, ?_⟩
      walk_at "go"
      refine ⟨ky k, _, 97 + k / 6, rfl, rfl, by rw [e1]; exact szl (by decide), rfl, ?_⟩
      refine ⟨D, _, rfl, pt _ _ _ _ eD4 m1, ?_⟩
      have eD5 : (upd J4 D (.dK (tab lt1 (List.range 6) fun j => if j = k / 6 then h (k / 6) - g k else h j))) D = some (.dK (tab lt1 (List.range 6) fun j => if j = k / 6 then h (k / 6) - g k else h j)) := upd_same
      have f5 : (upd J4 D (.dK (tab lt1 (List.range 6) fun j => if j = k / 6 then h (k / 6) - g k else h j))) d = some (.frz od (.dK (tab ky ks g))) := by rw [upd_ne dD.symm]; exact f2
      have sb5 : SB d H (upd J4 D (.dK (tab lt1 (List.range 6) fun j => if j = k / 6 then h (k / 6) - g k else h j))) := fun b o n e => by
        have bD : b ≠ D := fun z => by rw [z, nDH] at e; cases e
        rw [upd_ne bD]
        exact sb2 b o n e
      generalize upd J4 D (.dK (tab lt1 (List.range 6) fun j => if j = k / 6 then h (k / 6) - g k else h j)) = J5 at eD5 f5 sb5
      generalize eh1 : (fun j => if j = k / 6 then h (k / 6) - g k else h j) = h1 at eD5
      walk_at "go"
      refine ⟨ky k, _, 97 + k % 6, rfl, rfl, by rw [e1]; exact szl (by decide), rfl, ?_⟩
      refine ⟨D, _, rfl, gt _ _ _ eD5 m2, ?_⟩
      walk_at "go"
      refine ⟨ky k, _, 97 + k % 6, rfl, rfl, by rw [e1]; exact szl (by decide), rfl, ?_⟩
      refine ⟨D, _, rfl, pt _ _ _ _ eD5 m2, by rw [upd_ne dD.symm]; exact f5, fun b o n e => ?_, ?_, _, _, _, rfl⟩
      · have bD : b ≠ D := fun z => by rw [z, nDH] at e; cases e
        rw [upd_ne bD]
        exact sb5 b o n e
      · rw [upd_same]
        refine congrArg _ (congrArg _ (tab_congr fun j _ => ?_))
        rw [hn j, ← eh1]
        dsimp only
        by_cases c1 : k % 6 = j
        · rw [if_pos c1, if_pos c1.symm]
          by_cases c2 : k / 6 = j
          · rw [if_pos c2, c1, if_pos c2.symm, c2]
            omega
          · rw [if_neg c2, c1, if_neg (fun z => c2 z.symm)]
            omega
        · rw [if_neg c1, if_neg (fun z => c1 z.symm)]
          by_cases c2 : k / 6 = j
          · rw [if_pos c2, if_pos c2.symm, c2]
            omega
          · rw [if_neg c2, if_neg (fun z => c2 z.symm)]
            omega
    · rintro σ J2 ⟨f1, sb1, eD3, v1, v3, v4, rfl⟩
      rw [List.take_length] at eD3
      refine ⟨f1, ?_⟩
      have s3 : Same H (upd J2 d (.dK (tab ky ks g))) := fun a o e => by
        by_cases c : a = d
        · subst c
          rw [upd_same, ← hd, e]
        · rw [upd_ne c]
          exact sb1 a o c e
      have eD4 : (upd J2 d (.dK (tab ky ks g))) D = some (.dK (tab lt1 (List.range 6) (nt (ent ks g)))) := by rw [upd_ne dD]; exact eD3
      generalize upd J2 d (.dK (tab ky ks g)) = J4 at s3 eD4
      walk_at "go"
      intro D1 nD1
      refine lc_gen (n := 6) (fun i J => Same J4 J ∧ J D1 = some (.lst ((List.range i).map fun p => V.int (nt (ent ks g) p)))) ⟨same_new nD1, upd_same⟩ ?_ ?_ ?_ ?_
      · rintro i J hi _
        show i < (Str.ofString "abcdef").cps.size
        omega
      · rintro J _
        show (Str.ofString "abcdef").cps.size ≤ 6
        omega
      · rintro i J x J' hi ⟨s4, eL⟩ ⟨rfl, c, ec, rfl⟩
        rw [abc i hi] at ec
        cases ec
        have z := DGet.k (k := Sum.inr (lt1 i)) (s4 _ _ eD4)
        rw [tab_val (fun _ _ => lt1_inj), if_pos (List.mem_range.mpr hi)] at z
        walk_at "go"
        refine ⟨D, _, rfl, z, ?_⟩
        refine ⟨_, eL, by rw [List.length_map, List.length_range]; exact szlt (by omega), Z.Same.mut s4 nD1, ?_⟩
        rw [upd_same, List.range_succ, List.map_append]
        rfl
      rintro J ⟨s4, eL⟩
      walk_at "go"
      refine ⟨D1, _, rfl, .inl ⟨SqL.of eL, fun t nt' => ?_⟩⟩
      exact q t _ (s3.trans (s4.trans (same_new nt'))) upd_same
end
end Z
set_option pp.maxSteps 700
set_option Elab.async false
set_option linter.all false
set_option maxRecDepth 100000
set_option maxHeartbeats 4000000
open SX (S S_inj S_len S_cat)
namespace Z
open PySem PySem.Spec PyProof.Rows L2
open C8 (pss_cut tCut)
local macro_rules | `(tactic| walk_at "num") => `(tactic| first | rfl | omega | decide | exact Nat.le_of_lt (small1000 (by simp)) | exact ⟨by omega, by omega⟩ | exact ⟨by omega, by omega, by omega⟩ | exact ⟨by decide, by decide, by decide⟩ | exact Or.inl ⟨by omega, by omega⟩ | exact Or.inr ⟨by omega, by omega⟩)
local macro_rules | `(tactic| walk_at "go") => `(tactic| repeat (first | refine ⟨_, rfl, ?_⟩ | refine ⟨_, _, rfl, rfl, ?_⟩ | refine ⟨_, _, rfl, ?_⟩ | (refine ⟨_, _, rfl, rfl, ?_, ?_⟩; focus walk_at "num") | refine Or.inl ⟨_, rfl, ?_⟩ | refine ⟨_, _, _, _, rfl, rfl, (by assumption), (by rfl), ?_⟩ | refine ⟨_, _, _, _, _, rfl, (by assumption), (by assumption), (by assumption), (by rfl), ?_⟩ | refine ⟨rfl, ?_⟩ | (refine And.intro ?_ ?_; focus walk_at "num")))
abbrev s_wide : Stmt := topS 26
abbrev N_wide : List Str := ["_law_draws_here", "_law_place", "_law_value", "_law_k"]
abbrev P_wide : List Str := ["_law_draws_here", "_law_place"]
theorem sc_wide : FnScope N_wide P_wide (defScope s_wide) := ⟨rfl, rfl, rfl, by decide +kernel, rfl, by decide +kernel, by decide +kernel⟩
abbrev s_coins : Stmt := topS 27
abbrev N_coins : List Str := ["_law_draws_here", "_law_place", "_law_scale", "_law_base_here", "_law_draw"]
abbrev P_coins : List Str := ["_law_draws_here", "_law_place", "_law_scale", "_law_base_here"]
theorem sc_coins : FnScope N_coins P_coins (defScope s_coins) := ⟨rfl, rfl, rfl, by decide +kernel, rfl, by decide +kernel, by decide +kernel⟩
abbrev s_parties : Stmt := topS 29
abbrev N_parties : List Str := ["_law_draws_here", "_law_place", "_law_left", "_law_found", "_law_k", "_law_at"]
abbrev P_parties : List Str := ["_law_draws_here", "_law_place"]
theorem sc_parties : FnScope N_parties P_parties (defScope s_parties) := ⟨rfl, rfl, rfl, by decide +kernel, rfl, by decide +kernel, by decide +kernel⟩
structure Tk (K : PySem.W.Frag) (a p : Addr) (ds : List Int) (n : Nat) (H0 H1 : Hp) : Prop where
  hA : H1 a = some (.lst (ds.map V.int))
  hd : Dr n ds
  ne : a ≠ p
  sb : SB p H0 H1
  pl : ∃ m : Nat, H1 p = some (.lst [.int (m : Int)])
theorem Tk.more {K : PySem.W.Frag} {a p : Addr} {ds : List Int} {n : Nat} {H0 H1 H2 : Hp} (t : Tk K a p ds n H0 H1) (s : Same H1 H2) : Tk K a p ds n H0 H2 := by
  obtain ⟨m, e⟩ := t.pl
  exact ⟨s _ _ t.hA, t.hd, t.ne, t.sb.trans (Z.Same.sb s), m, s _ _ e⟩
theorem Tk.mut {K : PySem.W.Frag} {a p q : Addr} {ds : List Int} {n : Nat} {H0 H1 : Hp} {o : HO} (t : Tk K a p ds n H0 H1) (h : H0 q = none) (h2 : SB q H1 (upd H1 q o)) (nq : q ≠ p) (na : upd H1 q o a = some (.lst (ds.map V.int))) : Tk K a p ds n H0 (upd H1 q o) := by
  obtain ⟨m, e⟩ := t.pl
  refine ⟨na, t.hd, t.ne, fun b u n1 n2 => ?_, m, h2 _ _ nq.symm e⟩
  exact h2 _ _ (ne_of_none n2 h) (t.sb b u n1 n2)
theorem Tk.next {K : PySem.W.Frag} {a p : Addr} {ds : List Int} {n m : Nat} {H0 H1 : Hp} (t : Tk K a p ds n H0 H1) (e : H1 p = some (.lst [.int (m : Int)])) : Tk K a p ds n H0 (upd H1 p (.lst [.int ((m + 1 : Nat) : Int)])) ∧ SB p H1 (upd H1 p (.lst [.int ((m + 1 : Nat) : Int)])) := by
  have sb : SB p H1 (upd H1 p (.lst [.int ((m + 1 : Nat) : Int)])) := SB.upd (Z.Same.sb (Same.refl H1))
  exact ⟨⟨sb _ _ t.ne t.hA, t.hd, t.ne, t.sb.trans sb, m + 1, upd_same⟩, sb⟩

theorem Tk.slf {K : PySem.W.Frag} {a p : Addr} {ds : List Int} {n : Nat} {H0 H1 : Hp} (t : Tk K a p ds n H0 H1) : Tk K a p ds n H1 H1 := ⟨t.hA, t.hd, t.ne, Z.Same.sb (Same.refl _), t.pl⟩
theorem Tk.tr {K : PySem.W.Frag} {a p : Addr} {ds : List Int} {n : Nat} {H0 H1 H2 : Hp} (t : Tk K a p ds n H0 H1) (u : Tk K a p ds n H1 H2) : Tk K a p ds n H0 H2 := ⟨u.hA, u.hd, u.ne, t.sb.trans u.sb, u.pl⟩
/-- texts of parties -/
def pT (ps : List Nat) : List Nat := ps.map (97 + ·)
section
variable {P : Program} {w : World} {K : PySem.W.Frag} {mg : Str → Option Value} {base : Heap} {f : Addr} {fd : FuncData}
def spWide (K : PySem.W.Frag) : Sp := fun vs H Q _ => ∃ (a p : Addr) (n : Nat) (ds : List Int), vs = [.ref a, .ref p] ∧ Tk K a p ds n H H ∧ ∀ (c : Int) H', Tk K a p ds n H H' → 0 ≤ c → c < (1000000 : Int) ^ 10 → Q (.int c) H'
theorem ok_wide (F : FnP K "_law_wide" s_wide f fd) (m_range : mg "range" = none) (c_take : Cal P w K mg base 1 "_law_take" (spTake K)) : FnOk P w K mg base CX0 2 f fd P_wide (spWide K) := by
  refine F.ok sc_wide (fun vs H Q E h => ?_) (fun cdv A outer s H vs Q E hr h => ?_)
  · obtain ⟨a, p, n, ds, rfl, _⟩ := h
    rfl
  · obtain ⟨a, p, n, ds, rfl, hT, q⟩ := h
    refine ⟨_, PSs.nox (pss_cons (ps_set (i := 2) sc_wide.nd rfl (by first | exact .inl rfl | exact .inr rfl) pe_int)
      (pss_cons (ps_for PassesOwn.never rfl (pi_range1 (by rfl) m_range (pa_cons pe_int pa_nil)) (pg_name (i := 3) sc_wide.nd rfl (by first | exact .inl rfl | exact .inr rfl))
        (pss_one (ps_set (i := 2) sc_wide.nd rfl (by first | exact .inl rfl | exact .inr rfl) (pe_op op_add (pe_op op_mul (pv 2) pe_int) (pe_cl c_take hr (by decide) (by rfl) (pa_cons (pv 0) (pa_cons (pv 1) pa_nil)))))))
      (pss_one (ps_ret (pv 2))))), ?_⟩
    walk_at "go"
    refine for_gen (n := 10) (fun i σ J => Tk K a p ds n H J ∧ ∃ (v : Int) (v3 : Option V), 0 ≤ v ∧ v < (1000000 : Int) ^ i ∧ σ = [some (.ref a), some (.ref p), some (.int v), v3]) ⟨hT, 0, none, by decide, by decide, rfl⟩ ?_ ?_ ?_ ?_
    · intro i σ J hi _
      exact hi
    · intro σ J _
      exact Nat.le_refl _
    · rintro i σ J x J' hi ⟨hT1, v, v3, v0, v1, rfl⟩ ⟨rfl, rfl⟩
      obtain ⟨mm, em⟩ := hT1.pl
      walk_at "go"
      refine ⟨a, p, n, mm, ds, rfl, SqL.of hT1.hA, hT1.hd, em, hT1.ne, fun r r0 r1 => ?_⟩
      obtain ⟨hT2, _⟩ := hT1.next em
      walk_at "go"
      refine ⟨_, _, ?_, ?_, rfl⟩
      · show 0 ≤ v * 1000000 + r
        omega
      · show v * 1000000 + r < (1000000 : Int) ^ (i + 1)
        rw [Int.pow_succ]
        omega
    · rintro σ J ⟨hT1, v, v3, v0, v1, rfl⟩
      walk_at "go"
      exact q v J hT1 v0 v1
def spCoins (K : PySem.W.Frag) : Sp := fun vs H Q _ => ∃ (a p : Addr) (n : Nat) (ds : List Int) (sc ba : Int), vs = [.ref a, .ref p, .int sc, .int ba] ∧ Tk K a p ds n H H ∧ 0 ≤ ba ∧ ba ≤ 10 ^ 60 - 3 ∧ ∀ (c : Int) H', Tk K a p ds n H H' → 0 ≤ c → c ≤ 10 ^ 60 → Q (.int c) H'
theorem ok_coins (F : FnP K "_law_coins" s_coins f fd) (m_int : mg "int" = none) (c_take : Cal P w K mg base 1 "_law_take" (spTake K)) (c_wide : Cal P w K mg base 2 "_law_wide" (spWide K)) : FnOk P w K mg base CX0 3 f fd P_coins (spCoins K) := by
  refine F.ok sc_coins (fun vs H Q E h => ?_) (fun cdv A outer s H vs Q E hr h => ?_)
  · obtain ⟨a, p, n, ds, sc, ba, rfl, _⟩ := h
    rfl
  · obtain ⟨a, p, n, ds, sc, ba, rfl, hT, b0, b1, q⟩ := h
    refine ⟨_, PSs.nox (pss_cons (ps_set (i := 4) sc_coins.nd rfl (by first | exact .inl rfl | exact .inr rfl) (pe_cl c_take hr (by decide) (by rfl) (pa_cons (pv 0) (pa_cons (pv 1) pa_nil))))
      (pss_cons (ps_if (pt_cmpR op_eq (pv 2) pe_int (nomark _)) (pss_one (ps_ret (pe_op op_mod (pe_callTy call_int1 (by rfl) m_int (by decide +kernel) (pa_cons (pv 4) pa_nil)) pe_int))) pss_nil)
      (pss_cons (ps_if (pt_cmpR op_eq (pv 2) pe_int (nomark _)) (pss_one (ps_ret (pe_op op_add (pv 3) (pe_op op_mod (pe_callTy call_int1 (by rfl) m_int (by decide +kernel) (pa_cons (pv 4) pa_nil)) pe_int)))) pss_nil)
      (pss_cons (ps_if (PW.pt (pw_or (pt_cmpR op_eq (pv 2) pe_int (nomark _)) (pw_or1 (PW.pt (pw_and (pt_cmpR op_eq (pv 2) pe_int (nomark _)) (pw_and1 (pt_cmpR op_eq (pe_op op_mod (pe_callTy call_int1 (by rfl) m_int (by decide +kernel) (pa_cons (pv 4) pa_nil)) pe_int) pe_int (nomark _)))))))) (pss_one (ps_ret (pe_cl c_wide hr (by decide) (by rfl) (pa_cons (pv 0) (pa_cons (pv 1) pa_nil))))) pss_nil)
      (pss_one (ps_ret (pe_op op_mod (pe_callTy call_int1 (by rfl) m_int (by decide +kernel) (pa_cons (pe_op op_fdiv (pv 4) pe_int) pa_nil)) pe_int))))))), ?_⟩
    obtain ⟨mm, em⟩ := hT.pl
    walk_at "go"
    refine ⟨a, p, n, mm, ds, rfl, SqL.of hT.hA, hT.hd, em, hT.ne, fun r r0 r1 => ?_⟩
    obtain ⟨hT2, _⟩ := hT.next em
    generalize upd H p (.lst [.int ((mm + 1 : Nat) : Int)]) = H1 at hT2
    walk_at "go"
    refine ite2 (fun e => ?_) (fun e => ?_)
    · walk_at "go"
      show Q (V.int (r % 1000)) H1
      exact q _ _ hT2 (by omega) (by omega)
    walk_at "go"
    refine ite2 (fun e => ?_) (fun e => ?_)
    · walk_at "go"
      show Q (V.int (ba + r % 4)) H1
      exact q _ _ hT2 (by omega) (by omega)
    have wide : ∀ (Q' : VK), (∀ c H', Tk K a p ds n H H' → 0 ≤ c → c ≤ 10 ^ 60 → Q' (.int c) H') → spWide K [.ref a, .ref p] H1 Q' E0 := fun Q' q' => ⟨a, p, n, ds, rfl, hT2.slf, fun c H2 hT3 w0 w1 => q' c H2 (hT2.tr hT3) w0 (by omega)⟩
    walk_at "go"
    refine ite2 (fun e => ?_) (fun e => ?_)
    · walk_at "go"
      exact wide _ q
    walk_at "go"
    refine ite2 (fun e => ?_) (fun e => ?_)
    · walk_at "go"
      refine ite2 (fun e => ?_) (fun e => ?_)
      · walk_at "go"
        exact wide _ q
      walk_at "go"
      show Q (V.int (r / 2 % 6)) H1
      exact q _ _ hT2 (by omega) (by omega)
    walk_at "go"
    show Q (V.int (r / 2 % 6)) H1
    exact q _ _ hT2 (by omega) (by omega)
def spParties (K : PySem.W.Frag) : Sp := fun vs H Q _ => ∃ (a p : Addr) (n : Nat) (ds : List Int), vs = [.ref a, .ref p] ∧ Tk K a p ds n H H ∧ ∀ (ps : List Nat) H', Tk K a p ds n H H' → ps.Nodup → (∀ x ∈ ps, x < 6) → 2 ≤ ps.length → ps.length ≤ 6 → Q (.str (S (pT ps))) H'
theorem ok_parties (F : FnP K "_law_parties" s_parties f fd) (m_int : mg "int" = none) (m_len : mg "len" = none) (m_range : mg "range" = none) (c_take : Cal P w K mg base 1 "_law_take" (spTake K)) : FnOk P w K mg base CX0 2 f fd P_parties (spParties K) := by
  refine F.ok sc_parties (fun vs H Q E h => ?_) (fun cdv A outer s H vs Q E hr h => ?_)
  · obtain ⟨a, p, n, ds, rfl, _⟩ := h
    rfl
  · obtain ⟨a, p, n, ds, rfl, hT, q⟩ := h
    refine ⟨_, PSs.nox (pss_cons (ps_set (i := 2) sc_parties.nd rfl (by first | exact .inl rfl | exact .inr rfl) pe_str)
      (pss_cons (ps_set (i := 3) sc_parties.nd rfl (by first | exact .inl rfl | exact .inr rfl) pe_str)
      (pss_cons (ps_for PassesOwn.never rfl (pi_range1 (by rfl) m_range (pa_cons (pe_op op_add pe_int (pe_op op_mod (pe_callTy call_int1 (by rfl) m_int (by decide +kernel) (pa_cons (pe_cl c_take hr (by decide) (by rfl) (pa_cons (pv 0) (pa_cons (pv 1) pa_nil))) pa_nil)) pe_int)) pa_nil)) (pg_name (i := 4) sc_parties.nd rfl (by first | exact .inl rfl | exact .inr rfl))
        (pss_cons (ps_set (i := 5) sc_parties.nd rfl (by first | exact .inl rfl | exact .inr rfl) (pe_op op_mod (pe_callTy call_int1 (by rfl) m_int (by decide +kernel) (pa_cons (pe_cl c_take hr (by decide) (by rfl) (pa_cons (pv 0) (pa_cons (pv 1) pa_nil))) pa_nil)) (pe_callB call_len_str (by rfl) m_len PySem.boot_len (pa_cons (pv 2) pa_nil))))
      (pss_cons (ps_set (i := 3) sc_parties.nd rfl (by first | exact .inl rfl | exact .inr rfl) (pe_op op_add_str (pv 3) (pe_ix ix_str (pv 2) (pv 5) (fun _ _ => rfl))))
      (pss_one (ps_set (i := 2) sc_parties.nd rfl (by first | exact .inl rfl | exact .inr rfl) (pe_op op_add_str (pe_slice C8.sl_txt (pv 2) po_none (po_some (pv 5))) (pe_slice C8.sl_txt (pv 2) (po_some (pe_op op_add (pv 5) pe_int)) po_none)))))))
      (pss_one (ps_ret (pv 3)))))), ?_⟩
    obtain ⟨mm, em⟩ := hT.pl
    walk_at "go"
    refine ⟨a, p, n, mm, ds, rfl, SqL.of hT.hA, hT.hd, em, hT.ne, fun r r0 r1 => ?_⟩
    obtain ⟨hT2, _⟩ := hT.next em
    generalize upd H p (.lst [.int ((mm + 1 : Nat) : Int)]) = H1 at hT2
    have c0 := Int.emod_nonneg r (show (5 : Int) ≠ 0 by decide)
    have c1 := Int.emod_lt_of_pos r (show (0 : Int) < 5 by decide)
    walk_at "go"
    have pl : ∀ l : List Nat, (pT l).length = l.length := fun l => List.length_map ..
    refine for_gen (n := (2 + r % 5).toNat) (fun i σ J => Tk K a p ds n H J ∧ ∃ (ls fs : List Nat) (v4 v5 : Option V), (fs ++ ls).Nodup ∧ (∀ x ∈ fs ++ ls, x < 6) ∧ fs.length = i ∧ i + ls.length = 6 ∧ σ = [some (.ref a), some (.ref p), some (.str (S (pT ls))), some (.str (S (pT fs))), v4, v5]) ⟨hT2, [0, 1, 2, 3, 4, 5], [], none, none, by decide, by decide, rfl, rfl, rfl⟩ ?_ ?_ ?_ ?_
    · intro i σ J hi _
      exact hi
    · intro σ J _
      exact Nat.le_refl _
    · rintro i σ J x J' hi ⟨hT3, ls, fs, v4, v5, nd, x6, lf, ll, rfl⟩ ⟨rfl, rfl⟩
      obtain ⟨m2, em2⟩ := hT3.pl
      have l0 : 0 < ls.length := by omega
      walk_at "go"
      refine ⟨a, p, n, m2, ds, rfl, SqL.of hT3.hA, hT3.hd, em2, hT3.ne, fun r2 r0' r1' => ?_⟩
      obtain ⟨hT4, _⟩ := hT3.next em2
      generalize upd J' p (.lst [.int ((m2 + 1 : Nat) : Int)]) = H3 at hT4
      have hlen : (S (pT ls)).length ≤ sizeLine := by rw [S_len, pl]; exact szl (by omega)
      walk_at "go"
      have e1 : (S (pT ls)).length = ls.length := by rw [S_len, pl]
      rw [e1]
      refine ⟨by show (0 : Int) < (ls.length : Int); omega, ?_⟩
      have m0 := Int.emod_nonneg r2 (show (ls.length : Int) ≠ 0 by omega)
      have m1 := Int.emod_lt_of_pos r2 (show 0 < (ls.length : Int) by omega)
      obtain ⟨j, ej, hj⟩ : ∃ j : Nat, r2 % (ls.length : Int) = (j : Int) ∧ j < ls.length := ⟨(r2 % (ls.length : Int)).toNat, by omega, by omega⟩
      have ea : atI (S (pT ls)).cps.toList (j : Int) = some (97 + ls[j]) := atI_nat (by show (pT ls)[j]? = _; unfold pT; rw [List.getElem?_map, List.getElem?_eq_getElem hj]; rfl)
      dsimp only [List.set]
      rw [ej]
      walk_at "go"
      refine ⟨S (pT ls), _, 97 + ls[j], rfl, rfl, hlen, ea, ?_⟩
      refine ⟨_, _, rfl, rfl, by rw [S_len, pl]; show fs.length + 1 ≤ sizeLine; exact szl (by omega), ?_⟩
      have ef : S (pT fs) ++ (⟨#[97 + ls[j]]⟩ : Str) = S (pT (fs ++ [ls[j]])) := by
        rw [show (⟨#[97 + ls[j]]⟩ : Str) = S [97 + ls[j]] from rfl, S_cat]
        unfold pT
        rw [List.map_append]
        rfl
      rw [ef]
      walk_at "go"
      have f1 : Txt.slice (S (pT ls)) none (some (j : Int)) = S (pT (ls.take j)) := by
        rw [SX.slice_to (by omega)]
        unfold pT
        rw [← List.map_take]
        rfl
      have f2 : Txt.slice (S (pT ls)) (some ((j : Int) + 1)) none = S (pT (ls.drop (j + 1))) := by
        rw [SX.slice_from (by omega)]
        unfold pT
        rw [← List.map_drop]
        rfl
      rw [f1, f2]
      have lt : (ls.take j).length + (ls.drop (j + 1)).length + 1 = ls.length := by rw [List.length_take, List.length_drop]; omega
      refine ⟨by rw [S_len, S_len, pl, pl]; exact szl (by omega), ?_⟩
      have eg : S (pT (ls.take j)) ++ S (pT (ls.drop (j + 1))) = S (pT (ls.take j ++ ls.drop (j + 1))) := by
        rw [S_cat]
        unfold pT
        rw [List.map_append]
      rw [eg]
      have els : ls = ls.take j ++ ls[j] :: ls.drop (j + 1) := by
        rw [← List.drop_eq_getElem_cons hj, List.take_append_drop]
      have pm : ((fs ++ [ls[j]]) ++ (ls.take j ++ ls.drop (j + 1))).Perm (fs ++ ls) := by
        conv => rhs; rw [els]
        rw [List.append_assoc]
        refine List.Perm.append_left fs ?_
        show (ls[j] :: (ls.take j ++ ls.drop (j + 1))).Perm _
        exact List.perm_middle.symm
      walk_at "go"
      exact ⟨ls.take j ++ ls.drop (j + 1), fs ++ [ls[j]], _, _, pm.nodup_iff.mpr nd, fun x hx => x6 x (pm.mem_iff.mp hx), by rw [List.length_append, lf]; rfl, by rw [List.length_append]; omega, rfl⟩
    · rintro σ J ⟨hT3, ls, fs, v4, v5, nd, x6, lf, ll, rfl⟩
      walk_at "go"
      exact q fs J hT3 (List.nodup_append.mp nd).1 (fun x hx => x6 x (List.mem_append_left _ hx)) (by omega) (by omega)
end
end Z
set_option linter.all false
namespace SO
/-! ### relaxing: no program -/
abbrev Cs := Nat → Option Int
abbrev Stp := Nat × Bool
def su (e : Stp) : Nat := if e.2 then e.1 / 6 else e.1 % 6
def sv (e : Stp) : Nat := if e.2 then e.1 % 6 else e.1 / 6
def better (h : Cs) (v : Nat) (x : Int) : Bool := match h v with
  | none => true
  | some b => decide (x < b)
def rx (c : Stp → Int) (h : Cs) (e : Stp) : Cs := match h (su e) with
  | none => h
  | some a => if better h (sv e) (a + c e) then fun x => if x = sv e then some (a + c e) else h x else h
def lap (c : Stp → Int) (E : List Stp) (h : Cs) : Cs := E.foldl (rx c) h
def Imp (h h' : Cs) : Prop := ∀ v b, h v = some b → ∃ b', h' v = some b' ∧ b' ≤ b
theorem Imp.refl (h : Cs) : Imp h h := fun v b e => ⟨b, e, Int.le_refl _⟩
theorem Imp.trans {a b c : Cs} (h : Imp a b) (k : Imp b c) : Imp a c := fun v x e => by
  obtain ⟨y, e1, l1⟩ := h v x e
  obtain ⟨z, e2, l2⟩ := k v y e1
  exact ⟨z, e2, Int.le_trans l2 l1⟩
theorem rx_imp (c : Stp → Int) (h : Cs) (e : Stp) : Imp h (rx c h e) := by
  intro v b hv
  unfold rx
  cases hu : h (su e) with
  | none => exact ⟨b, hv, Int.le_refl _⟩
  | some a =>
    dsimp only
    by_cases k : better h (sv e) (a + c e) = true
    · rw [if_pos k]
      by_cases q : v = sv e
      · refine ⟨a + c e, by rw [if_pos q], ?_⟩
        unfold better at k
        rw [← q, hv] at k
        have := of_decide_eq_true k
        omega
      · exact ⟨b, by rw [if_neg q]; exact hv, Int.le_refl _⟩
    · rw [if_neg k]
      exact ⟨b, hv, Int.le_refl _⟩
theorem rx_sat (c : Stp → Int) (h : Cs) (e : Stp) {a : Int} (hu : h (su e) = some a) : ∃ b, rx c h e (sv e) = some b ∧ b ≤ a + c e := by
  unfold rx
  rw [hu]
  dsimp only
  by_cases k : better h (sv e) (a + c e) = true
  · rw [if_pos k]
    exact ⟨a + c e, if_pos rfl, Int.le_refl _⟩
  · rw [if_neg k]
    unfold better at k
    cases hv : h (sv e) with
    | none => rw [hv] at k; exact absurd rfl k
    | some b =>
      rw [hv] at k
      refine ⟨b, rfl, ?_⟩
      have : ¬ a + c e < b := fun z => k (decide_eq_true z)
      omega
theorem lap_imp (c : Stp → Int) : ∀ (E : List Stp) (h : Cs), Imp h (lap c E h)
  | [], h => Imp.refl h
  | e :: E, h => (rx_imp c h e).trans (lap_imp c E (rx c h e))
theorem lap_sat (c : Stp → Int) : ∀ (E : List Stp) (h : Cs) (e : Stp), e ∈ E → ∀ a, h (su e) = some a → ∃ b, lap c E h (sv e) = some b ∧ b ≤ a + c e
  | [], _, _, m, _, _ => absurd m (by simp)
  | f :: E, h, e, m, a, ha => by
    rcases List.mem_cons.mp m with rfl | m
    · obtain ⟨b, h1, h2⟩ := rx_sat c h e ha
      obtain ⟨b', h3, h4⟩ := lap_imp c E (rx c h e) _ _ h1
      exact ⟨b', h3, Int.le_trans h4 h2⟩
    · obtain ⟨a', h1, h2⟩ := rx_imp c h f _ _ ha
      obtain ⟨b, h3, h4⟩ := lap_sat c E (rx c h f) e m a' h1
      exact ⟨b, h3, by omega⟩
def Closed (c : Stp → Int) (E : List Stp) (D : Cs) : Prop := ∀ e ∈ E, ∀ a, D (su e) = some a → ∃ b, D (sv e) = some b ∧ b ≤ a + c e
def LB (D h : Cs) : Prop := ∀ v b, h v = some b → ∃ d, D v = some d ∧ d ≤ b
theorem rx_lb {c : Stp → Int} {E : List Stp} {D h : Cs} {e : Stp} (cl : Closed c E D) (m : e ∈ E) (l : LB D h) : LB D (rx c h e) := by
  intro v b hv
  unfold rx at hv
  cases hu : h (su e) with
  | none => rw [hu] at hv; exact l v b hv
  | some a =>
    rw [hu] at hv
    dsimp only at hv
    by_cases k : better h (sv e) (a + c e) = true
    · rw [if_pos k] at hv
      by_cases q : v = sv e
      · rw [if_pos q] at hv
        cases hv
        obtain ⟨d, h1, h2⟩ := l _ _ hu
        obtain ⟨d', h3, h4⟩ := cl e m d h1
        exact ⟨d', by rw [q]; exact h3, by omega⟩
      · rw [if_neg q] at hv
        exact l v b hv
    · rw [if_neg k] at hv
      exact l v b hv
theorem lap_lb {c : Stp → Int} {E : List Stp} {D : Cs} (cl : Closed c E D) : ∀ (F : List Stp) (h : Cs), (∀ e ∈ F, e ∈ E) → LB D h → LB D (lap c F h)
  | [], _, _, l => l
  | e :: F, h, m, l => lap_lb cl F (rx c h e) (fun x hx => m x (List.mem_cons_of_mem _ hx)) (rx_lb cl (m e List.mem_cons_self) l)
def it (c : Stp → Int) (E : List Stp) (h : Cs) : Nat → Cs
  | 0 => h
  | k + 1 => lap c E (it c E h k)
theorem it_imp (c : Stp → Int) (E : List Stp) (h : Cs) (k : Nat) : ∀ d, Imp (it c E h k) (it c E h (k + d))
  | 0 => Imp.refl _
  | d + 1 => (it_imp c E h k d).trans (lap_imp c E _)
theorem it_lb {c : Stp → Int} {E : List Stp} {D h : Cs} (cl : Closed c E D) {k : Nat} (l : LB D (it c E h k)) : ∀ d, LB D (it c E h (k + d))
  | 0 => l
  | d + 1 => lap_lb cl E _ (fun _ h => h) (it_lb cl l d)
theorem down_const {m : Int} : ∀ (n : Nat) (f : Nat → Int), (f 0 - m).toNat ≤ n → (∀ j, f (j + 1) ≤ f j) → (∀ j, m ≤ f j) → ∃ N, ∀ j, f (N + j) = f N := by
  intro n
  induction n with
  | zero =>
    intro f h d b
    have mono : ∀ j, f j ≤ f 0 := fun j => by
      induction j with
      | zero => exact Int.le_refl _
      | succ j ih => exact Int.le_trans (d j) ih
    refine ⟨0, fun j => ?_⟩
    have := mono (0 + j)
    have := b (0 + j)
    have := b 0
    omega
  | succ n ih =>
    intro f h d b
    have mono : ∀ j, f j ≤ f 0 := fun j => by
      induction j with
      | zero => exact Int.le_refl _
      | succ j ih => exact Int.le_trans (d j) ih
    by_cases c : ∀ j, f j = f 0
    · exact ⟨0, fun j => by rw [c (0 + j)]⟩
    · obtain ⟨j, hj⟩ := Classical.not_forall.mp c
      have lt : f j < f 0 := by
        have := mono j
        omega
      obtain ⟨N, hN⟩ := ih (fun i => f (j + i)) (by
        have := b j
        show (f (j + 0) - m).toNat ≤ n
        rw [Nat.add_zero]
        omega) (fun i => d (j + i)) (fun i => b _)
      exact ⟨j + N, fun i => by have := hN i; rw [← Nat.add_assoc] at this; exact this⟩
/-- the value that stays -/
theorem stay {c : Stp → Int} {E : List Stp} {h : Cs} {π : Nat → Int} (cl : Closed c E fun x => some (π x)) (l : LB (fun x => some (π x)) h) (v : Nat) : ∃ (d : Option Int) (N : Nat), ∀ j, it c E h (N + j) v = d := by
  by_cases hn : ∀ j, it c E h j v = none
  · exact ⟨none, 0, fun j => hn _⟩
  · obtain ⟨j0, hj⟩ := Classical.not_forall.mp hn
    have ex : ∀ i, ∃ b, it c E h (j0 + i) v = some b := fun i => by
      cases e : it c E h j0 v with
      | none => exact absurd e hj
      | some b =>
        obtain ⟨b', h1, _⟩ := it_imp c E h j0 i v b e
        exact ⟨b', h1⟩
    obtain ⟨N, hN⟩ := down_const (m := π v) _ (fun i => (it c E h (j0 + i) v).getD 0) (Nat.le_refl _) (fun i => by
      obtain ⟨b, e⟩ := ex i
      obtain ⟨b', e', lb⟩ := it_imp c E h (j0 + i) 1 v b e
      show (it c E h (j0 + i + 1) v).getD 0 ≤ (it c E h (j0 + i) v).getD 0
      rw [e, e']
      exact lb) (fun i => by
      obtain ⟨b, e⟩ := ex i
      have l0 : LB (fun x => some (π x)) (it c E h 0) := l
      have := it_lb cl l0 (j0 + i)
      rw [Nat.zero_add] at this
      obtain ⟨d, h1, h2⟩ := this v b e
      cases h1
      show π v ≤ (it c E h (j0 + i) v).getD 0
      rw [e]
      exact h2)
    obtain ⟨b, e⟩ := ex N
    refine ⟨some b, j0 + N, fun j => ?_⟩
    obtain ⟨b', e'⟩ := ex (N + j)
    have := hN j
    rw [← Nat.add_assoc] at e'
    rw [← Nat.add_assoc, e', e] at this
    rw [e']
    exact congrArg some this
def cnt (n : Nat) (S : Nat → Bool) : Nat := ((List.range n).filter S).length
theorem cnt_succ (n : Nat) (S : Nat → Bool) : cnt (n + 1) S = cnt n S + (if S n then 1 else 0) := by
  unfold cnt
  rw [List.range_succ, List.filter_append, List.length_append]
  cases e : S n <;> simp [e]
theorem cnt_le {S T : Nat → Bool} (h : ∀ v, S v = true → T v = true) : ∀ n, cnt n S ≤ cnt n T
  | 0 => Nat.le_refl _
  | n + 1 => by
    rw [cnt_succ, cnt_succ]
    have := cnt_le h n
    cases e : S n
    · rw [if_neg (by decide)]
      omega
    · rw [if_pos rfl, if_pos (h n e)]
      omega
theorem cnt_lt {S T : Nat → Bool} (h : ∀ v, S v = true → T v = true) {v : Nat} (h1 : S v = false) (h2 : T v = true) : ∀ n, v < n → cnt n S < cnt n T
  | 0, hv => absurd hv (Nat.not_lt_zero _)
  | n + 1, hv => by
    rw [cnt_succ, cnt_succ]
    by_cases c : v = n
    · subst c
      rw [h1, h2, if_neg (by decide), if_pos rfl]
      have := cnt_le h v
      omega
    · have := cnt_lt h h1 h2 n (by omega)
      cases e : S n
      · rw [if_neg (by decide)]
        omega
      · rw [if_pos rfl, if_pos (h n e)]
        omega
theorem cnt_top {S : Nat → Bool} : ∀ n, n ≤ cnt n S → ∀ v, v < n → S v = true
  | 0, _, v, hv => absurd hv (Nat.not_lt_zero _)
  | n + 1, h, v, hv => by
    rw [cnt_succ] at h
    have l : cnt n S ≤ n := by
      have : cnt n S ≤ (List.range n).length := List.length_filter_le ..
      rwa [List.length_range] at this
    have e : S n = true := by
      cases e : S n with
      | true => rfl
      | false => rw [e, if_neg (by decide)] at h; omega
    by_cases c : v = n
    · rw [c]; exact e
    · rw [e, if_pos rfl] at h
      exact cnt_top n (by omega) v (by omega)
/-- after n laps nothing changes -/
theorem relax_done {c : Stp → Int} {E : List Stp} {h : Cs} {π : Nat → Int} {n : Nat} (cl : Closed c E fun x => some (π x)) (l : LB (fun x => some (π x)) h) (hE : ∀ e ∈ E, su e < n ∧ sv e < n) (hn : ∀ v, n ≤ v → h v = none) : Closed c E (it c E h n) := by
  obtain ⟨D, hD⟩ : ∃ D : Cs, ∀ v, ∃ N, ∀ j, it c E h (N + j) v = D v := Classical.skolem.mp (stay cl l)
  have lbD : ∀ k, LB D (it c E h k) := fun k v b e => by
    obtain ⟨N, hN⟩ := hD v
    obtain ⟨b', e', l'⟩ := it_imp c E h k N v b e
    rw [Nat.add_comm, hN] at e'
    exact ⟨b', e', l'⟩
  have clD : Closed c E D := fun e m a ha => by
    obtain ⟨N1, h1⟩ := hD (su e)
    obtain ⟨N2, h2⟩ := hD (sv e)
    obtain ⟨b, hb, lb⟩ := lap_sat c E (it c E h (N1 + N2)) e m a (by rw [h1]; exact ha)
    refine ⟨b, ?_, lb⟩
    rw [← h2 (N1 + 1), ← hb]
    show _ = it c E h (N1 + N2 + 1) (sv e)
    congr 1
    omega
  have keep : ∀ k v, it c E h k v = D v → it c E h (k + 1) v = D v := fun k v e => by
    cases e1 : it c E h (k + 1) v with
    | none =>
      cases e2 : D v with
      | none => rfl
      | some d =>
        rw [e2] at e
        obtain ⟨b, e3, _⟩ := it_imp c E h k 1 v d e
        rw [e1] at e3
        cases e3
    | some b =>
      obtain ⟨d, e2, l2⟩ := lbD (k + 1) v b e1
      rw [e2] at e
      obtain ⟨b', e3, l3⟩ := it_imp c E h k 1 v d e
      rw [e1] at e3
      cases e3
      rw [e2]
      congr 1
      omega
  have grow : ∀ k, (∃ v, v < n ∧ it c E h k v ≠ D v) → ∃ v, v < n ∧ it c E h k v ≠ D v ∧ it c E h (k + 1) v = D v := by
    intro k ⟨v0, hv0, ne0⟩
    apply Classical.byContradiction
    intro z
    have z : ∀ v, v < n → it c E h k v ≠ D v → it c E h (k + 1) v ≠ D v := fun v hv h1 h2 => z ⟨v, hv, h1, h2⟩
    have lb2 : ∃ D' : Cs, (∀ v, it c E h k v = D v → D' v = D v) ∧ (∀ v d, it c E h k v ≠ D v → D v = some d → D' v = some (d + 1)) := by
      refine ⟨fun v => if it c E h k v = D v then D v else (D v).map (· + 1), fun v e => by dsimp only; rw [if_pos e], fun v d ne e => by dsimp only; rw [if_neg ne, e]; rfl⟩
    obtain ⟨D', d1, d2⟩ := lb2
    have L : LB D' (it c E h k) := fun v b e => by
      obtain ⟨d, h1, h2⟩ := lbD k v b e
      by_cases q : it c E h k v = D v
      · exact ⟨d, by rw [d1 v q]; exact h1, h2⟩
      · refine ⟨d + 1, d2 v d q h1, ?_⟩
        have : d ≠ b := fun y => q (by rw [e, h1, y])
        omega
    have C : Closed c E D' := fun e m a ha => by
      by_cases qu : it c E h k (su e) = D (su e)
      · rw [d1 _ qu] at ha
        obtain ⟨b, hb, lb⟩ := clD e m a ha
        by_cases qv : it c E h k (sv e) = D (sv e)
        · exact ⟨b, by rw [d1 _ qv]; exact hb, lb⟩
        · refine ⟨b + 1, d2 _ b qv hb, ?_⟩
          obtain ⟨b2, e2, l2⟩ := lap_sat c E (it c E h k) e m a (by rw [qu]; exact ha)
          have ne : b ≠ a + c e := fun y => by
            have e3 : it c E h (k + 1) (sv e) = some b2 := e2
            obtain ⟨d, h1, h2⟩ := lbD (k + 1) _ b2 e3
            rw [hb] at h1
            cases h1
            have : b2 = b := by omega
            exact z _ (hE e m).2 qv (by rw [e3, hb, this])
          omega
      · cases eD : D (su e) with
        | none =>
          have : it c E h k (su e) = none := by
            cases e1 : it c E h k (su e) with
            | none => rfl
            | some b =>
              obtain ⟨d, h1, _⟩ := lbD k _ b e1
              rw [eD] at h1
              cases h1
          exact absurd (by rw [this, eD]) qu
        | some a0 =>
          rw [d2 _ a0 qu eD] at ha
          cases ha
          obtain ⟨b, hb, lb⟩ := clD e m a0 eD
          by_cases qv : it c E h k (sv e) = D (sv e)
          · exact ⟨b, by rw [d1 _ qv]; exact hb, by omega⟩
          · exact ⟨b + 1, d2 _ b qv hb, by omega⟩
    obtain ⟨N, hN⟩ := hD v0
    cases eD : D v0 with
    | none =>
      have : it c E h k v0 = none := by
        cases e1 : it c E h k v0 with
        | none => rfl
        | some b =>
          obtain ⟨d, h1, _⟩ := lbD k _ b e1
          rw [eD] at h1
          cases h1
      exact ne0 (by rw [this, eD])
    | some d =>
      have e1 := hN k
      rw [Nat.add_comm, eD] at e1
      obtain ⟨d', h1, h2⟩ := it_lb C L N v0 d e1
      rw [d2 v0 d ne0 eD] at h1
      cases h1
      omega
  have key : ∀ k, k ≤ n → (∀ v, v < n → it c E h k v = D v) ∨ k ≤ cnt n fun v => decide (it c E h k v = D v) := by
    intro k
    induction k with
    | zero => exact fun _ => .inr (Nat.zero_le _)
    | succ k ih =>
      intro hk
      rcases ih (by omega) with a | a
      · exact .inl fun v hv => keep k v (a v hv)
      · by_cases q : ∃ v, v < n ∧ it c E h k v ≠ D v
        · obtain ⟨v, hv, h1, h2⟩ := grow k q
          refine .inr ?_
          have := cnt_lt (S := fun v => decide (it c E h k v = D v)) (T := fun v => decide (it c E h (k + 1) v = D v)) (fun v e => decide_eq_true (keep k v (of_decide_eq_true e))) (decide_eq_false h1) (decide_eq_true h2) n hv
          omega
        · exact .inl fun v hv => keep k v (Classical.byContradiction fun y => q ⟨v, hv, y⟩)
  have all : ∀ v, v < n → it c E h n v = D v := by
    rcases key n (Nat.le_refl _) with a | a
    · exact a
    · exact fun v hv => of_decide_eq_true (cnt_top n a v hv)
  intro e m a ha
  rw [all _ (hE e m).1] at ha
  obtain ⟨b, hb, lb⟩ := clD e m a ha
  exact ⟨b, by rw [all _ (hE e m).2]; exact hb, lb⟩
end SO
set_option linter.all false
namespace SO
/-! ### last steps and ways -/
abbrev Ls := Nat → Option Stp
def rl (c : Stp → Int) (h : Cs) (l : Ls) (e : Stp) : Ls := match h (su e) with
  | none => l
  | some a => if better h (sv e) (a + c e) then fun x => if x = sv e then some e else l x else l
structure LI (c : Stp → Int) (E : List Stp) (G : Nat → Prop) (h : Cs) (l : Ls) : Prop where
  e : ∀ v e, l v = some e → e ∈ E ∧ sv e = v ∧ ∃ a b, h (su e) = some a ∧ h v = some b ∧ a + c e ≤ b
  r : ∀ v b, h v = some b → l v = none → G v ∧ b = 0
theorem rl_li {c : Stp → Int} {E : List Stp} {G : Nat → Prop} {h : Cs} {l : Ls} {e : Stp} (m : e ∈ E) (ne : su e ≠ sv e) (i : LI c E G h l) : LI c E G (rx c h e) (rl c h l e) := by
  unfold rx rl
  cases hu : h (su e) with
  | none => exact i
  | some a =>
    dsimp only
    by_cases k : better h (sv e) (a + c e) = true
    · rw [if_pos k, if_pos k]
      refine ⟨fun v f hf => ?_, fun v b hv hl => ?_⟩
      · by_cases q : v = sv e
        · rw [if_pos q] at hf
          cases hf
          exact ⟨m, q.symm, a, a + c e, by rw [if_neg ne]; exact hu, by rw [if_pos q], Int.le_refl _⟩
        · rw [if_neg q] at hf
          obtain ⟨m1, s1, a1, b1, h1, h2, h3⟩ := i.e v f hf
          by_cases q2 : su f = sv e
          · refine ⟨m1, s1, a + c e, b1, by rw [if_pos q2], by rw [if_neg q]; exact h2, ?_⟩
            unfold better at k
            rw [← q2, h1] at k
            have := of_decide_eq_true k
            omega
          · exact ⟨m1, s1, a1, b1, by rw [if_neg q2]; exact h1, by rw [if_neg q]; exact h2, h3⟩
      · by_cases q : v = sv e
        · rw [if_pos q] at hl
          cases hl
        · rw [if_neg q] at hv hl
          exact i.r v b hv hl
    · rw [if_neg k, if_neg k]
      exact i
inductive Pre (l : Ls) : Nat → List Stp → Nat → Prop
  | nil (v : Nat) : Pre l v [] v
  | cons {v : Nat} {e : Stp} {w : List Stp} {x : Nat} : l v = some e → Pre l (su e) w x → Pre l v (e :: w) x
/-- the final state: each last step is tight, the roots cost 0 -/
structure Tight (c : Stp → Int) (E : List Stp) (G : Nat → Prop) (h : Cs) (l : Ls) : Prop where
  e : ∀ v e, l v = some e → e ∈ E ∧ sv e = v ∧ ∃ a, h (su e) = some a ∧ h v = some (a + c e)
  r : ∀ v b, h v = some b → l v = none → G v ∧ b = 0
theorem tight_of {c : Stp → Int} {E : List Stp} {G : Nat → Prop} {h : Cs} {l : Ls} (cl : Closed c E h) (i : LI c E G h l) : Tight c E G h l := by
  refine ⟨fun v e he => ?_, i.r⟩
  obtain ⟨m, s, a, b, h1, h2, h3⟩ := i.e v e he
  obtain ⟨b', h4, h5⟩ := cl e m a h1
  rw [s, h2] at h4
  cases h4
  exact ⟨m, s, a, h1, by rw [h2]; congr 1; omega⟩
section
variable {c : Stp → Int} {E : List Stp} {G : Nat → Prop} {h : Cs} {l : Ls}
theorem pre_val (t : Tight c E G h l) (c1 : ∀ e, c e % 100 = 1) : ∀ {w : List Stp} {v x : Nat} {b : Int}, Pre l v w x → h v = some b → ∃ a, h x = some a ∧ (b - a) % 100 = (w.length : Int) % 100 := by
  intro w
  induction w with
  | nil =>
    intro v x b p hv
    cases p
    exact ⟨b, hv, by simp⟩
  | cons e w ih =>
    intro v x b p hv
    cases p with
    | cons h1 h2 =>
      obtain ⟨_, _, a, ha, hb⟩ := t.e v e h1
      rw [hv] at hb
      cases hb
      obtain ⟨a', h3, h4⟩ := ih h2 ha
      refine ⟨a', h3, ?_⟩
      have := c1 e
      rw [List.length_cons]
      omega
theorem pre_split {l : Ls} : ∀ {w : List Stp} {v x : Nat}, Pre l v w x → ∀ y ∈ w.map su, ∃ w1 w2, w = w1 ++ w2 ∧ 0 < w1.length ∧ Pre l v w1 y ∧ Pre l y w2 x := by
  intro w
  induction w with
  | nil => exact fun _ y hy => absurd hy (by simp)
  | cons e w ih =>
    intro v x p y hy
    cases p with
    | cons h1 h2 =>
      rw [List.map_cons] at hy
      rcases List.mem_cons.mp hy with rfl | hy
      · exact ⟨[e], w, rfl, by simp, .cons h1 (.nil _), h2⟩
      · obtain ⟨w1, w2, e1, _, p1, p2⟩ := ih h2 y hy
        exact ⟨e :: w1, w2, by rw [e1]; rfl, by simp, .cons h1 p1, p2⟩
theorem pre_nodup (t : Tight c E G h l) (c1 : ∀ e, c e % 100 = 1) : ∀ {w : List Stp} {v x : Nat} {b : Int}, Pre l v w x → h v = some b → w.length ≤ 99 → (v :: w.map su).Nodup := by
  intro w
  induction w with
  | nil => exact fun _ _ _ => by simp
  | cons e w ih =>
    intro v x b p hv lw
    have p0 := p
    cases p with
    | cons h1 h2 =>
      obtain ⟨_, _, a, ha, hb⟩ := t.e v e h1
      refine List.nodup_cons.mpr ⟨fun z => ?_, ih h2 ha (by rw [List.length_cons] at lw; omega)⟩
      obtain ⟨w1, w2, e1, l1, q1, _⟩ := pre_split p0 v z
      obtain ⟨a', h3, h4⟩ := pre_val t c1 q1 hv
      rw [hv] at h3
      cases h3
      have : (e :: w).length = w1.length + w2.length := by rw [e1, List.length_append]
      omega
theorem nodup_len6 : ∀ {n : Nat} {l : List Nat}, l.Nodup → (∀ x ∈ l, x < n) → l.length ≤ n := by
  intro n
  induction n with
  | zero =>
    intro l _ h
    cases l with
    | nil => exact Nat.le_refl _
    | cons x r => exact absurd (h x List.mem_cons_self) (Nat.not_lt_zero _)
  | succ n ih =>
    intro l nd h
    have z := ih (l := l.erase n) (nd.erase _) (fun x hx => by
      have h1 := h x (List.mem_of_mem_erase hx)
      have h2 : x ≠ n := fun e => nd.not_mem_erase (e ▸ hx)
      omega)
    by_cases c : n ∈ l
    · rw [List.length_erase_of_mem c] at z
      omega
    · rw [List.erase_of_not_mem c] at z
      omega
theorem pre_ex (t : Tight c E G h l) : ∀ (m : Nat) (v : Nat) (b : Int), h v = some b → (∃ w x, Pre l v w x ∧ l x = none ∧ w.length ≤ m) ∨ ∃ w x, Pre l v w x ∧ w.length = m + 1 := by
  intro m
  induction m with
  | zero =>
    intro v b hv
    cases e : l v with
    | none => exact .inl ⟨[], v, .nil v, e, Nat.le_refl _⟩
    | some f => exact .inr ⟨[f], su f, .cons e (.nil _), rfl⟩
  | succ m ih =>
    intro v b hv
    cases e : l v with
    | none => exact .inl ⟨[], v, .nil v, e, Nat.zero_le _⟩
    | some f =>
      obtain ⟨_, _, a, ha, _⟩ := t.e v f e
      rcases ih (su f) a ha with ⟨w, x, p, q, lw⟩ | ⟨w, x, p, lw⟩
      · exact .inl ⟨f :: w, x, .cons e p, q, by rw [List.length_cons]; omega⟩
      · exact .inr ⟨f :: w, x, .cons e p, by rw [List.length_cons, lw]⟩
/-- each party that is reached has a way from a root, with at most five steps -/
theorem way_ex (t : Tight c E G h l) (c1 : ∀ e, c e % 100 = 1) (hn : ∀ v b, h v = some b → v < 6) {v : Nat} {b : Int} (hv : h v = some b) : ∃ w x, Pre l v w x ∧ l x = none ∧ w.length ≤ 5 ∧ (v :: w.map su).Nodup ∧ G x ∧ b % 100 = w.length := by
  have nodes : ∀ {w : List Stp} {v x : Nat} {b : Int}, Pre l v w x → h v = some b → ∀ y ∈ v :: w.map su, y < 6 := fun {w v x b} p hv y hy => by
    rcases List.mem_cons.mp hy with rfl | hy
    · exact hn _ _ hv
    · obtain ⟨w1, w2, _, _, q1, _⟩ := pre_split p y hy
      obtain ⟨a, ha, _⟩ := pre_val t c1 q1 hv
      exact hn _ _ ha
  rcases pre_ex t 5 v b hv with ⟨w, x, p, q, lw⟩ | ⟨w, x, p, lw⟩
  · obtain ⟨a, ha, hb⟩ := pre_val t c1 p hv
    obtain ⟨g, rfl⟩ := t.r x a ha q
    refine ⟨w, x, p, q, lw, pre_nodup t c1 p hv (by omega), g, ?_⟩
    omega
  · have nd := pre_nodup t c1 p hv (by omega)
    have := nodup_len6 nd (nodes p hv)
    rw [List.length_cons, List.length_map, lw] at this
    omega
end
/-! ### debts d, a rest r: what is possible -/
def cA (e : Stp) : Int := if e.2 then 101 else -99
def c1 (e : Stp) : Int := if e.2 then 1 else -1
theorem cA_1 (e : Stp) : cA e % 100 = 1 := by
  unfold cA
  cases e.2 <;> decide
def ste (d r : Nat → Int) (k : Nat) : List Stp := (if r k < d k then [(k, true)] else []) ++ if 0 < r k then [(k, false)] else []
def steps (d r : Nat → Int) (ks : List Nat) : List Stp := ks.flatMap (ste d r)
theorem mem_steps {d r : Nat → Int} {ks : List Nat} {e : Stp} : e ∈ steps d r ks ↔ e.1 ∈ ks ∧ (e.2 = true ∧ r e.1 < d e.1 ∨ e.2 = false ∧ 0 < r e.1) := by
  unfold steps
  rw [List.mem_flatMap]
  constructor
  · rintro ⟨k, hk, he⟩
    unfold ste at he
    rcases List.mem_append.mp he with h | h
    · split at h
      · rename_i z
        rw [List.mem_singleton.mp h]
        exact ⟨hk, .inl ⟨rfl, z⟩⟩
      · exact absurd h (by simp)
    · split at h
      · rename_i z
        rw [List.mem_singleton.mp h]
        exact ⟨hk, .inr ⟨rfl, z⟩⟩
      · exact absurd h (by simp)
  · rintro ⟨hk, h⟩
    obtain ⟨k, b⟩ := e
    refine ⟨k, hk, ?_⟩
    unfold ste
    rcases h with ⟨rfl, z⟩ | ⟨rfl, z⟩
    · dsimp only at z
      rw [if_pos z]
      simp
    · dsimp only at z
      rw [if_pos z]
      simp
def Pot (d r : Nat → Int) (ks : List Nat) (π : Nat → Int) : Prop := (∀ k ∈ ks, r k < d k → π (k % 6) ≤ π (k / 6) + 101) ∧ (∀ k ∈ ks, 0 < r k → π (k / 6) ≤ π (k % 6) - 99) ∧ ∀ x, x < 6 → π x % 100 ≤ 5
theorem pot_closed {d r : Nat → Int} {ks : List Nat} {π : Nat → Int} (h : Pot d r ks π) : Closed cA (steps d r ks) fun x => some (π x) := by
  intro e m a ha
  obtain ⟨hk, z⟩ := mem_steps.mp m
  obtain ⟨k, b⟩ := e
  refine ⟨π (sv (k, b)), rfl, ?_⟩
  cases ha
  rcases z with ⟨rfl, z⟩ | ⟨rfl, z⟩
  · have := h.1 k hk z
    exact this
  · have := h.2.1 k hk z
    show π (k / 6) ≤ π (k % 6) + -99
    omega
/-- the rest behind a way -/
def aug (n : Int) : List Stp → (Nat → Int) → Nat → Int
  | [], r => r
  | e :: w, r => aug n w fun k => if k = e.1 then r k + (if e.2 then n else 0 - n) else r k
theorem aug_not {n : Int} : ∀ {w : List Stp} {r : Nat → Int} {k : Nat}, (∀ e ∈ w, e.1 ≠ k) → aug n w r k = r k
  | [], _, _, _ => rfl
  | e :: w, r, k, h => by
    rw [aug, aug_not fun f hf => h f (List.mem_cons_of_mem _ hf), if_neg fun z => h e List.mem_cons_self z.symm]
/-- the keys on a way are different: each step ends where the one before begins -/
theorem way_keys {l : Ls} (hs : ∀ v e, l v = some e → sv e = v) : ∀ {w : List Stp} {v x : Nat}, Pre l v w x → (v :: w.map su).Nodup → ∀ e f w1 w2, w = w1 ++ e :: w2 → f ∈ w2 → f.1 ≠ e.1 := by
  intro w v x p nd e f w1 w2 ew hf he
  have key : ∀ {w : List Stp} {v x : Nat}, Pre l v w x → ∀ w1 e w2, w = w1 ++ e :: w2 → (∀ g ∈ w2, sv g ∈ su e :: w2.map su) := by
    intro w
    induction w with
    | nil => exact fun _ w1 e w2 h => by simp at h
    | cons g w ih =>
      intro v x p w1 e w2 h f hf
      cases p with
      | cons h1 h2 =>
        cases w1 with
        | nil =>
          rw [List.nil_append] at h
          obtain ⟨rfl, rfl⟩ := List.cons.inj h
          have : ∀ {w : List Stp} {v x : Nat}, Pre l v w x → ∀ f ∈ w, sv f ∈ v :: w.map su := by
            intro w
            induction w with
            | nil => exact fun _ f hf => absurd hf (by simp)
            | cons g w ih =>
              intro v x p f hf
              cases p with
              | cons h1 h2 =>
                rcases List.mem_cons.mp hf with rfl | hf
                · rw [hs _ _ h1]
                  exact List.mem_cons_self
                · exact List.mem_cons_of_mem _ (ih h2 f hf)
          exact this h2 f hf
        | cons g' w1 =>
          rw [List.cons_append] at h
          obtain ⟨_, h⟩ := List.cons.inj h
          exact ih h2 w1 e w2 h f hf
  have h1 := key p w1 e w2 ew f hf
  -- the ends of e and f
  have h2 : sv e ∈ v :: w1.map su := by
    have : ∀ {w : List Stp} {v x : Nat}, Pre l v w x → ∀ w1 e w2, w = w1 ++ e :: w2 → sv e ∈ v :: w1.map su := by
      intro w
      induction w with
      | nil => exact fun _ w1 e w2 h => by simp at h
      | cons g w ih =>
        intro v x p w1 e w2 h
        cases p with
        | cons h1 h2 =>
          cases w1 with
          | nil =>
            rw [List.nil_append] at h
            obtain ⟨rfl, rfl⟩ := List.cons.inj h
            rw [hs _ _ h1]
            exact List.mem_cons_self
          | cons g' w1 =>
            rw [List.cons_append] at h
            obtain ⟨e1, h3⟩ := List.cons.inj h
            rw [← e1]
            exact List.mem_cons_of_mem _ (ih h2 w1 e w2 h3)
    exact this p w1 e w2 ew
  have em : v :: w.map su = (v :: w1.map su) ++ (su e :: w2.map su) := by rw [ew, List.map_append, List.map_cons]; rfl
  rw [em] at nd
  obtain ⟨n1, n2, n3⟩ := List.nodup_append.mp nd
  -- sv f is behind, sv e before: so they differ; the same key: then su f = sv e or sv f = sv e
  obtain ⟨k, b⟩ := e
  obtain ⟨k', b'⟩ := f
  dsimp only at he
  subst he
  have sf : su (k', b') ∈ su (k', b) :: w2.map su := List.mem_cons_of_mem _ (List.mem_map.mpr ⟨_, hf, rfl⟩)
  by_cases q : b = b'
  · subst q
    exact n3 _ h2 _ h1 rfl
  · have : su (k', b') = sv (k', b) := by
      cases b <;> cases b' <;> first | rfl | exact absurd rfl q
    rw [this] at sf
    exact n3 _ h2 _ sf rfl
theorem aug_on {n : Int} : ∀ {w : List Stp} {r : Nat → Int} {e : Stp}, e ∈ w → (∀ a f w1 w2, w = w1 ++ a :: w2 → f ∈ w2 → f.1 ≠ a.1) → aug n w r e.1 = r e.1 + (if e.2 then n else 0 - n)
  | [], _, _, m, _ => absurd m (by simp)
  | f :: w, r, e, m, h => by
    rw [aug]
    rcases List.mem_cons.mp m with rfl | m
    · rw [aug_not fun g hg => h e g [] w rfl hg, if_pos rfl]
    · have ne : e.1 ≠ f.1 := h f e [] w rfl m
      rw [aug_on m fun a g w1 w2 ew hg => h a g (f :: w1) w2 (by rw [ew]; rfl) hg, if_neg ne]
theorem big (h : Cs) (π : Nat → Int) : ∃ M : Int, 0 ≤ M ∧ ∀ x, x < 6 → ∀ y, y < 6 → ∀ b, h x = some b → b ≤ π y + 100 * M - 101 := by
  have one : ∀ n, ∃ B : Int, 0 ≤ B ∧ ∀ x, x < n → ∀ b, h x = some b → b ≤ B := by
    intro n
    induction n with
    | zero => exact ⟨0, Int.le_refl _, fun x hx => absurd hx (Nat.not_lt_zero _)⟩
    | succ n ih =>
      obtain ⟨B, b0, hB⟩ := ih
      cases e : h n with
      | none =>
        refine ⟨B, b0, fun x hx b hb => ?_⟩
        by_cases c : x = n
        · rw [c, e] at hb
          cases hb
        · exact hB x (by omega) b hb
      | some y =>
        refine ⟨B + (y.natAbs : Int), by omega, fun x hx b hb => ?_⟩
        by_cases c : x = n
        · rw [c, e] at hb
          cases hb
          omega
        · have := hB x (by omega) b hb
          omega
  have two : ∀ n, ∃ B : Int, 0 ≤ B ∧ ∀ y, y < n → -B ≤ π y := by
    intro n
    induction n with
    | zero => exact ⟨0, Int.le_refl _, fun x hx => absurd hx (Nat.not_lt_zero _)⟩
    | succ n ih =>
      obtain ⟨B, b0, hB⟩ := ih
      refine ⟨B + ((π n).natAbs : Int), by omega, fun y hy => ?_⟩
      by_cases c : y = n
      · rw [c]
        omega
      · have := hB y (by omega)
        omega
  obtain ⟨B1, p1, h1⟩ := one 6
  obtain ⟨B2, p2, h2⟩ := two 6
  refine ⟨B1 + B2 + 2, by omega, fun x hx y hy b hb => ?_⟩
  have := h1 x hx b hb
  have := h2 y hy
  omega
/-- potentials behind a way -/
theorem pot_next {d r : Nat → Int} {ks : List Nat} {π : Nat → Int} {G : Nat → Prop} {h : Cs} {l : Ls} {w : List Stp} {n : Int} (hp : Pot d r ks π) (hk : ∀ k ∈ ks, k < 36) (hd : ∀ k ∈ ks, 0 ≤ r k ∧ r k ≤ d k) (cl : Closed cA (steps d r ks) h) (t : Tight cA (steps d r ks) G h l) (hn : ∀ v b, h v = some b → v < 6) (hw : ∀ e ∈ w, l (sv e) = some e) : ∃ π', ∀ r', (∀ k ∈ ks, (∀ e ∈ w, e.1 ≠ k) → r' k = r k) → Pot d r' ks π' := by
  obtain ⟨M, m0, hM⟩ := big h π
  refine ⟨fun x => match h x with | some b => b | none => π x + 100 * M, fun r' hr => ⟨fun k hk1 hlt => ?_, fun k hk1 hgt => ?_, fun x hx => ?_⟩⟩
  · have ka : k / 6 < 6 := by have := hk k hk1; omega
    have kb : k % 6 < 6 := Nat.mod_lt _ (by decide)
    by_cases on : (k, false) ∈ w
    · obtain ⟨_, _, a, h1, h2⟩ := t.e _ _ (hw _ on)
      have h1 : h (k % 6) = some a := h1
      have h2 : h (k / 6) = some (a + -99) := h2
      dsimp only
      rw [h1, h2]
      dsimp only
      omega
    · by_cases on2 : (k, true) ∈ w
      · obtain ⟨_, _, a, h1, h2⟩ := t.e _ _ (hw _ on2)
        have h1 : h (k / 6) = some a := h1
        have h2 : h (k % 6) = some (a + 101) := h2
        dsimp only
        rw [h1, h2]
        exact Int.le_refl _
      · have e : r' k = r k := hr k hk1 fun e he z => by
          obtain ⟨k', b⟩ := e
          dsimp only at z
          subst z
          cases b
          · exact on he
          · exact on2 he
        rw [e] at hlt
        have m : (k, true) ∈ steps d r ks := mem_steps.mpr ⟨hk1, .inl ⟨rfl, hlt⟩⟩
        have c := cl _ m
        have p := hp.1 k hk1 hlt
        dsimp only
        cases h1 : h (k / 6) with
        | some a =>
          obtain ⟨b, h2, h3⟩ := c a h1
          have h2 : h (k % 6) = some b := h2
          have h3 : b ≤ a + 101 := h3
          rw [h2]
          exact h3
        | none =>
          cases h2 : h (k % 6) with
          | none =>
            dsimp only
            omega
          | some b =>
            dsimp only
            have := hM _ kb _ ka b h2
            omega
  · have ka : k / 6 < 6 := by have := hk k hk1; omega
    have kb : k % 6 < 6 := Nat.mod_lt _ (by decide)
    by_cases on : (k, true) ∈ w
    · obtain ⟨_, _, a, h1, h2⟩ := t.e _ _ (hw _ on)
      have h1 : h (k / 6) = some a := h1
      have h2 : h (k % 6) = some (a + 101) := h2
      dsimp only
      rw [h1, h2]
      dsimp only
      omega
    · by_cases on2 : (k, false) ∈ w
      · obtain ⟨_, _, a, h1, h2⟩ := t.e _ _ (hw _ on2)
        have h1 : h (k % 6) = some a := h1
        have h2 : h (k / 6) = some (a + -99) := h2
        dsimp only
        rw [h1, h2]
        dsimp only
        omega
      · have e : r' k = r k := hr k hk1 fun e he z => by
          obtain ⟨k', b⟩ := e
          dsimp only at z
          subst z
          cases b
          · exact on2 he
          · exact on he
        rw [e] at hgt
        have m : (k, false) ∈ steps d r ks := mem_steps.mpr ⟨hk1, .inr ⟨rfl, hgt⟩⟩
        have c := cl _ m
        have p := hp.2.1 k hk1 hgt
        dsimp only
        cases h1 : h (k % 6) with
        | some a =>
          obtain ⟨b, h2, h3⟩ := c a h1
          have h2 : h (k / 6) = some b := h2
          have h3 : b ≤ a + -99 := h3
          rw [h2]
          dsimp only
          omega
        | none =>
          cases h2 : h (k / 6) with
          | none =>
            dsimp only
            omega
          | some b =>
            dsimp only
            have := hM _ ka _ kb b h2
            omega
  · dsimp only
    cases hx2 : h x with
    | none =>
      have := hp.2.2 x hx
      dsimp only
      omega
    | some b =>
      obtain ⟨w', x', _, _, lw, _, _, hb⟩ := way_ex t cA_1 hn hx2
      dsimp only
      omega
/-- heights out of potentials -/
theorem heights_ex {d r : Nat → Int} {ks : List Nat} {π : Nat → Int} (hp : Pot d r ks π) (hk : ∀ k ∈ ks, k < 36) : ∃ H : Nat → Int, (∀ x, x < 6 → H x ≤ 0) ∧ Closed c1 (steps d r ks) fun x => some (H x) := by
  obtain ⟨B, hB⟩ : ∃ B : Int, ∀ x, x < 6 → π x / 100 ≤ B := by
    have : ∀ n, ∃ B : Int, ∀ x, x < n → π x / 100 ≤ B := by
      intro n
      induction n with
      | zero => exact ⟨0, fun x hx => absurd hx (Nat.not_lt_zero _)⟩
      | succ n ih =>
        obtain ⟨B, hB⟩ := ih
        refine ⟨max B (π n / 100), fun x hx => ?_⟩
        by_cases c : x = n
        · rw [c]
          exact Int.le_max_right _ _
        · exact Int.le_trans (hB x (by omega)) (Int.le_max_left _ _)
    exact this 6
  refine ⟨fun x => π x / 100 - B, fun x hx => by have := hB x hx; show π x / 100 - B ≤ 0; omega, fun e m a ha => ?_⟩
  obtain ⟨hk1, z⟩ := mem_steps.mp m
  obtain ⟨k, b⟩ := e
  have ka : k / 6 < 6 := by have := hk k hk1; omega
  have kb : k % 6 < 6 := Nat.mod_lt _ (by decide)
  have f1 := hp.2.2 _ ka
  have f2 := hp.2.2 _ kb
  refine ⟨_, rfl, ?_⟩
  cases ha
  rcases z with ⟨rfl, z⟩ | ⟨rfl, z⟩
  · have := hp.1 k hk1 z
    show π (k % 6) / 100 - B ≤ π (k / 6) / 100 - B + 1
    omega
  · have := hp.2.1 k hk1 z
    show π (k / 6) / 100 - B ≤ π (k % 6) / 100 - B + -1
    omega
end SO
set_option Elab.async false
set_option linter.all false
set_option maxRecDepth 100000
set_option maxHeartbeats 4000000
namespace Z
open SO
/-! ### flows: no program -/
def S6 (F : Nat → Int) : Int := F 0 + F 1 + F 2 + F 3 + F 4 + F 5
def sumK (ks : List Nat) (F : Nat → Int) : Int := (ks.map F).sum
theorem sumK_cons (k : Nat) (ks : List Nat) (F : Nat → Int) : sumK (k :: ks) F = F k + sumK ks F := rfl
theorem sumK_le {F G : Nat → Int} : ∀ {ks : List Nat}, (∀ k ∈ ks, F k ≤ G k) → sumK ks F ≤ sumK ks G
  | [], _ => Int.le_refl _
  | k :: r, h => by
    rw [sumK_cons, sumK_cons]
    have := h k List.mem_cons_self
    have := sumK_le fun x hx => h x (List.mem_cons_of_mem k hx)
    omega
theorem sumK_congr {F G : Nat → Int} {ks : List Nat} (h : ∀ k ∈ ks, F k = G k) : sumK ks F = sumK ks G := by
  unfold sumK
  rw [List.map_congr_left h]
theorem sumK_zero : ∀ ks : List Nat, sumK ks (fun _ => 0) = 0
  | [] => rfl
  | k :: r => by rw [sumK_cons, sumK_zero r]; rfl
theorem sumK_sub (F G : Nat → Int) : ∀ ks : List Nat, sumK ks (fun k => F k - G k) = sumK ks F - sumK ks G
  | [] => rfl
  | k :: r => by rw [sumK_cons, sumK_cons, sumK_cons, sumK_sub F G r]; omega
theorem nt_cons (k : Nat) (ks : List Nat) (f : Nat → Int) (p : Nat) : nt (ent (k :: ks) f) p = (if k % 6 = p then f k else 0) - (if k / 6 = p then f k else 0) + nt (ent ks f) p := by
  show ((if decide (k % 6 = p) = true then f k else 0) + rcv (ent ks f) p) - ((if decide (k / 6 = p) = true then f k else 0) + gvn (ent ks f) p) = _
  unfold nt
  simp only [decide_eq_true_eq]
  omega
theorem s6_one {H : Nat → Int} {j : Nat} {c : Int} (hj : j < 6) : S6 (fun p => H p * (if j = p then c else 0)) = H j * c := by
  unfold S6
  have : j = 0 ∨ j = 1 ∨ j = 2 ∨ j = 3 ∨ j = 4 ∨ j = 5 := by omega
  rcases this with rfl | rfl | rfl | rfl | rfl | rfl <;> simp
theorem s6_add (F G : Nat → Int) : S6 (fun p => F p + G p) = S6 F + S6 G := by
  unfold S6
  dsimp only
  omega
theorem s6_sub (F G : Nat → Int) : S6 (fun p => F p - G p) = S6 F - S6 G := by
  unfold S6
  dsimp only
  omega
theorem flowH (H f : Nat → Int) : ∀ {ks : List Nat}, (∀ k ∈ ks, k < 36) → S6 (fun p => H p * nt (ent ks f) p) = sumK ks fun k => f k * (H (k % 6) - H (k / 6))
  | [], _ => by
    show S6 (fun p => H p * (0 - 0)) = 0
    unfold S6
    simp
  | k :: r, h => by
    have h36 := h k List.mem_cons_self
    rw [sumK_cons, ← flowH H f fun x hx => h x (List.mem_cons_of_mem k hx)]
    have e : (fun p => H p * nt (ent (k :: r) f) p) = fun p => (H p * (if k % 6 = p then f k else 0) - H p * (if k / 6 = p then f k else 0)) + H p * nt (ent r f) p := by
      funext p
      rw [nt_cons, Int.mul_add, Int.mul_sub]
    rw [e, s6_add, s6_sub, s6_one (Nat.mod_lt _ (by decide)), s6_one (show k / 6 < 6 by omega), Int.mul_sub, Int.mul_comm (H (k % 6)), Int.mul_comm (H (k / 6))]
theorem nt_sub (f g : Nat → Int) (p : Nat) : ∀ ks : List Nat, nt (ent ks fun k => f k - g k) p = nt (ent ks f) p - nt (ent ks g) p
  | [] => rfl
  | k :: r => by
    rw [nt_cons, nt_cons, nt_cons, nt_sub f g p r]
    split <;> split <;> omega
/-- the state of the carrying: the rest r of the debts d, the wanted coins W -/
structure Car (ks : List Nat) (d r W : Nat → Int) : Prop where
  b : ∀ k ∈ ks, 0 ≤ r k ∧ r k ≤ d k
  n : ∀ p, p < 6 → nt (ent ks r) p + W p = nt (ent ks d) p
theorem Car.w {ks : List Nat} {d r W : Nat → Int} (h : Car ks d r W) {p : Nat} (hp : p < 6) : nt (ent ks fun k => d k - r k) p = W p := by
  rw [nt_sub]
  have := h.n p hp
  omega
theorem s6_congr {F G : Nat → Int} (h : ∀ p, p < 6 → F p = G p) : S6 F = S6 G := by
  unfold S6
  rw [h 0 (by decide), h 1 (by decide), h 2 (by decide), h 3 (by decide), h 4 (by decide), h 5 (by decide)]
theorem s6_pos {F : Nat → Int} {t : Nat} (ht : t < 6) (h : ∀ p, p < 6 → 0 ≤ F p) (h2 : 0 < F t) : 0 < S6 F := by
  have a0 := h 0 (by decide)
  have a1 := h 1 (by decide)
  have a2 := h 2 (by decide)
  have a3 := h 3 (by decide)
  have a4 := h 4 (by decide)
  have a5 := h 5 (by decide)
  unfold S6
  have : t = 0 ∨ t = 1 ∨ t = 2 ∨ t = 3 ∨ t = 4 ∨ t = 5 := by omega
  rcases this with rfl | rfl | rfl | rfl | rfl | rfl <;> omega
/-- while coins are wanted, one who wants some can be reached -/
theorem car_taker {ks : List Nat} {d r W : Nat → Int} {h : Cs} (hk : ∀ k ∈ ks, k < 36) (c : Car ks d r W) (cl : Closed cA (steps d r ks) h) (g : ∀ p, p < 6 → W p < 0 → h p ≠ none) {t : Nat} (ht : t < 6) (wt : 0 < W t) : ∃ p, p < 6 ∧ 0 < W p ∧ h p ≠ none := by
  apply Classical.byContradiction
  intro z
  have z : ∀ p, p < 6 → 0 < W p → h p = none := fun p hp wp => Classical.byContradiction fun y => z ⟨p, hp, wp, y⟩
  obtain ⟨Q, q0, q1⟩ : ∃ Q : Nat → Int, (∀ p, h p ≠ none → Q p = 0) ∧ ∀ p, h p = none → Q p = 1 := ⟨fun p => if h p = none then 1 else 0, fun p e => if_neg e, fun p e => if_pos e⟩
  have e := flowH Q (fun k => d k - r k) hk
  rw [s6_congr (G := fun p => Q p * W p) fun p hp => by rw [c.w hp]] at e
  have pos : 0 < S6 fun p => Q p * W p := by
    refine s6_pos ht (fun p hp => ?_) ?_
    · by_cases y : h p = none
      · rw [q1 p y, Int.one_mul]
        exact Int.not_lt.mp fun w => g p hp w y
      · rw [q0 p y, Int.zero_mul]
        exact Int.le_refl _
    · rw [q1 t (z t ht wt), Int.one_mul]
      exact wt
  have neg : (sumK ks fun k => (d k - r k) * (Q (k % 6) - Q (k / 6))) ≤ sumK ks fun _ => 0 := by
    refine sumK_le fun k m => ?_
    obtain ⟨b0, b1⟩ := c.b k m
    by_cases y1 : h (k / 6) = none
    · rw [q1 _ y1]
      by_cases y2 : h (k % 6) = none
      · rw [q1 _ y2]
        simp
      · rw [q0 _ y2]
        omega
    · rw [q0 _ y1]
      by_cases y2 : h (k % 6) = none
      · rw [q1 _ y2]
        have : ¬ r k < d k := fun lt => by
          cases e1 : h (k / 6) with
          | none => exact y1 e1
          | some a =>
            obtain ⟨b, e2, _⟩ := cl (k, true) (mem_steps.mpr ⟨m, .inl ⟨rfl, lt⟩⟩) a e1
            have e2 : h (k % 6) = some b := e2
            rw [y2] at e2
            cases e2
        omega
      · rw [q0 _ y2]
        simp
  rw [sumK_zero] at neg
  omega
theorem car_sum {ks : List Nat} {d r W : Nat → Int} (hk : ∀ k ∈ ks, k < 36) (c : Car ks d r W) : S6 W = 0 := by
  have e := flowH (fun _ => 1) (fun k => d k - r k) hk
  rw [s6_congr (G := W) fun p hp => by rw [c.w hp, Int.one_mul]] at e
  rw [e]
  rw [sumK_congr (G := fun _ => 0) fun k _ => by omega]
  exact sumK_zero ks
/-- nothing is wanted: the nets are the same -/
theorem car_end {ks : List Nat} {d r W : Nat → Int} (hk : ∀ k ∈ ks, k < 36) (c : Car ks d r W) (h : ∀ p, p < 6 → W p ≤ 0) : ∀ p, p < 6 → nt (ent ks r) p = nt (ent ks d) p := by
  intro p hp
  have s := car_sum hk c
  have w0 : W p = 0 := by
    apply Classical.byContradiction
    intro y
    have l := h p hp
    have : 0 < S6 fun p => 0 - W p := s6_pos hp (fun q hq => by have := h q hq; omega) (by omega)
    rw [s6_sub] at this
    have z : S6 (fun _ => (0 : Int)) = 0 := rfl
    omega
  have := c.n p hp
  omega
theorem nt_one {ks : List Nat} (nd : ks.Nodup) (f : Nat → Int) {k : Nat} (hk : k ∈ ks) (n : Int) (p : Nat) : nt (ent ks fun j => if j = k then f j + n else f j) p = nt (ent ks f) p + (if k % 6 = p then n else 0) - (if k / 6 = p then n else 0) := by
  have e : (fun j => if j = k then f j + n else f j) = fun j => f j + (if k = j then n else 0) := by
    funext j
    by_cases c : j = k
    · rw [if_pos c, if_pos c.symm]
    · rw [if_neg c, if_neg fun z => c z.symm, Int.add_zero]
  rw [e]
  unfold nt rcv gvn
  rw [tot_ent_add, tot_ent_add, tot_ent_one _ _ _ _ nd, tot_ent_one _ _ _ _ nd, if_pos hk, if_pos hk]
  simp only [decide_eq_true_eq]
  omega
theorem aug_nt {ks : List Nat} (nd : ks.Nodup) {l : Ls} (hs : ∀ v e, l v = some e → sv e = v) (n : Int) (p : Nat) : ∀ {w : List Stp} {v x : Nat} {r : Nat → Int}, Pre l v w x → (∀ e ∈ w, e.1 ∈ ks) → nt (ent ks (aug n w r)) p = nt (ent ks r) p + (if v = p then n else 0) - (if x = p then n else 0) := by
  intro w
  induction w with
  | nil =>
    intro v x r q _
    cases q
    rw [aug]
    omega
  | cons e w ih =>
    intro v x r q m
    cases q with
    | cons h1 h2 =>
      rw [aug, ih h2 fun f hf => m f (List.mem_cons_of_mem _ hf), nt_one nd r (m e List.mem_cons_self)]
      have := hs v e h1
      obtain ⟨k, b⟩ := e
      cases b
      · have s1 : su (k, false) = k % 6 := rfl
        have s2 : k / 6 = v := this
        rw [s1, s2]
        dsimp only
        rw [if_neg (show ¬ (false = true) by decide)]
        split <;> split <;> split <;> omega
      · have s1 : su (k, true) = k / 6 := rfl
        have s2 : k % 6 = v := this
        rw [s1, s2]
        dsimp only
        rw [if_pos rfl]
        split <;> split <;> split <;> omega
def room (d r : Nat → Int) (e : Stp) : Int := if e.2 then d e.1 - r e.1 else r e.1
/-- carrying coins along a way -/
theorem car_next {ks : List Nat} {d r W : Nat → Int} {h : Cs} {l : Ls} {G : Nat → Prop} {w : List Stp} {t x : Nat} {n : Int} (nd : ks.Nodup) (c : Car ks d r W) (ti : Tight cA (steps d r ks) G h l) (pr : Pre l t w x) (ndw : (t :: w.map su).Nodup) (hn : 0 ≤ n) (hr : ∀ e ∈ w, n ≤ room d r e) : Car ks d (aug n w r) (fun p => (W p + (if x = p then n else 0)) - (if t = p then n else 0)) := by
  have hs : ∀ v e, l v = some e → sv e = v := fun v e q => (ti.e v e q).2.1
  have mem : ∀ {w : List Stp} {v x : Nat}, Pre l v w x → ∀ e ∈ w, e ∈ steps d r ks := by
    intro w
    induction w with
    | nil => exact fun _ e he => absurd he (by simp)
    | cons f w ih =>
      intro v x q e he
      cases q with
      | cons h1 h2 =>
        rcases List.mem_cons.mp he with rfl | he
        · exact (ti.e _ _ h1).1
        · exact ih h2 e he
  refine ⟨fun k hk => ?_, fun p hp => ?_⟩
  · obtain ⟨b0, b1⟩ := c.b k hk
    by_cases on : ∃ e ∈ w, e.1 = k
    · obtain ⟨e, he, rfl⟩ := on
      rw [aug_on he (fun a f w1 w2 ew hf => way_keys hs pr ndw a f w1 w2 ew hf)]
      have q := hr e he
      unfold room at q
      by_cases b : e.2 = true
      · rw [if_pos b] at q ⊢
        omega
      · rw [if_neg b] at q ⊢
        omega
    · rw [aug_not fun e he z => on ⟨e, he, z⟩]
      exact ⟨b0, b1⟩
  · rw [aug_nt nd hs n p pr fun e he => (mem_steps.mp (mem pr e he)).1]
    have := c.n p hp
    omega
theorem pre_mem {l : Ls} : ∀ {w : List Stp} {v x : Nat}, Pre l v w x → ∀ e ∈ w, ∃ v, l v = some e := by
  intro w
  induction w with
  | nil => exact fun _ e he => absurd he (by simp)
  | cons f w ih =>
    intro v x q e he
    cases q with
    | cons h1 h2 =>
      rcases List.mem_cons.mp he with rfl | he
      · exact ⟨_, h1⟩
      · exact ih h2 e he
/-- no other rest has a smaller sum -/
theorem least {ks : List Nat} {d r x H : Nat → Int} (hk : ∀ k ∈ ks, k < 36) (hr : ∀ k ∈ ks, 0 ≤ r k ∧ r k ≤ d k) (hx : ∀ k ∈ ks, 0 ≤ x k ∧ x k ≤ d k) (hn : ∀ p, p < 6 → nt (ent ks r) p = nt (ent ks x) p) (h1 : ∀ k ∈ ks, 0 < r k → H (k % 6) + 1 ≤ H (k / 6)) (h2 : ∀ k ∈ ks, r k < d k → H (k / 6) - 1 ≤ H (k % 6)) : sumK ks r ≤ sumK ks x := by
  have e1 := flowH H r hk
  have e2 := flowH H x hk
  rw [s6_congr (G := fun p => H p * nt (ent ks x) p) fun p hp => by rw [hn p hp]] at e1
  have le : (sumK ks fun k => r k + r k * (H (k % 6) - H (k / 6))) ≤ sumK ks fun k => x k + x k * (H (k % 6) - H (k / 6)) := by
    refine sumK_le fun k m => ?_
    obtain ⟨r0, r1⟩ := hr k m
    obtain ⟨x0, x1⟩ := hx k m
    generalize eq : H (k % 6) - H (k / 6) = δ
    have f : ∀ z : Int, z + z * δ = z * (1 + δ) := fun z => by rw [Int.mul_add, Int.mul_one]
    rw [f, f]
    by_cases c0 : 0 < r k
    · have q1 := h1 k m c0
      by_cases c1 : r k < d k
      · have q2 := h2 k m c1
        have : 1 + δ = 0 := by omega
        rw [this, Int.mul_zero, Int.mul_zero]
        exact Int.le_refl _
      · have : r k = d k := by omega
        exact Int.mul_le_mul_of_nonpos_right (by omega) (by omega)
    · have z : r k = 0 := by omega
      rw [z, Int.zero_mul]
      by_cases c1 : r k < d k
      · have q2 := h2 k m c1
        exact Int.mul_nonneg x0 (by omega)
      · have : x k = 0 := by omega
        rw [this, Int.zero_mul]
        exact Int.le_refl _
  have s1 : (sumK ks fun k => r k + r k * (H (k % 6) - H (k / 6))) = sumK ks r + sumK ks fun k => r k * (H (k % 6) - H (k / 6)) := by
    have := sumK_sub (fun k => r k + r k * (H (k % 6) - H (k / 6))) (fun k => r k * (H (k % 6) - H (k / 6))) ks
    rw [sumK_congr (G := r) fun k _ => by omega] at this
    omega
  have s2 : (sumK ks fun k => x k + x k * (H (k % 6) - H (k / 6))) = sumK ks x + sumK ks fun k => x k * (H (k % 6) - H (k / 6)) := by
    have := sumK_sub (fun k => x k + x k * (H (k % 6) - H (k / 6))) (fun k => x k * (H (k % 6) - H (k / 6))) ks
    rw [sumK_congr (G := x) fun k _ => by omega] at this
    omega
  omega
end Z
set_option Elab.async false
set_option linter.all false
set_option maxRecDepth 100000
set_option maxHeartbeats 4000000
namespace SO
theorem steps_len (g r : Nat → Int) : ∀ l : List Nat, (steps g r l).length ≤ 2 * l.length
  | [] => Nat.le_refl _
  | y :: l => by
    have ih := steps_len g r l
    show (ste g r y ++ steps g r l).length ≤ _
    rw [List.length_append, List.length_cons]
    have : (ste g r y).length ≤ 2 := by
      unfold ste
      split <;> split <;> simp
    omega
theorem pot_closed0 {d r : Nat → Int} {ks : List Nat} {π : Nat → Int} (h : Pot d r ks π) (hk : ∀ k ∈ ks, k < 36) : ∃ π0 : Nat → Int, Closed cA (steps d r ks) (fun x => some (π0 x)) ∧ ∀ x, x < 6 → π0 x ≤ 0 := by
  obtain ⟨B, hB⟩ : ∃ B : Int, ∀ x, x < 6 → π x ≤ B := by
    have : ∀ n, ∃ B : Int, ∀ x, x < n → π x ≤ B := by
      intro n
      induction n with
      | zero => exact ⟨0, fun x hx => absurd hx (Nat.not_lt_zero _)⟩
      | succ n ih =>
        obtain ⟨B, hB⟩ := ih
        refine ⟨max B (π n), fun x hx => ?_⟩
        by_cases c : x = n
        · rw [c]
          exact Int.le_max_right _ _
        · exact Int.le_trans (hB x (by omega)) (Int.le_max_left _ _)
    exact this 6
  refine ⟨fun x => π x - B, fun e m a ha => ?_, fun x hx => by have := hB x hx; show π x - B ≤ 0; omega⟩
  obtain ⟨b, hb, lb⟩ := pot_closed h e m (π (su e)) rfl
  cases hb
  cases ha
  exact ⟨_, rfl, by show π (sv e) - B ≤ π (su e) - B + cA e; omega⟩
theorem aug_snoc {n : Int} {e : Stp} : ∀ {w : List Stp} {r : Nat → Int}, aug n (w ++ [e]) r = fun k => if k = e.1 then aug n w r k + (if e.2 then n else 0 - n) else aug n w r k
  | [], _ => rfl
  | f :: w, r => by
    show aug n (w ++ [e]) _ = _
    rw [aug_snoc]
    rfl
theorem pre_last {l : Ls} : ∀ {w : List Stp} {v x : Nat}, Pre l v w x → w ≠ [] → ∃ (w' : List Stp) (e : Stp), w = w' ++ [e] ∧ su e = x := by
  intro w
  induction w with
  | nil => exact fun _ h => absurd rfl h
  | cons f w ih =>
    intro v x p _
    cases p with
    | cons h1 h2 =>
      cases w with
      | nil =>
        cases h2
        exact ⟨[], f, rfl, rfl⟩
      | cons g w =>
        obtain ⟨w', e, ew, es⟩ := ih h2 (by simp)
        exact ⟨f :: w', e, by rw [ew]; rfl, es⟩
end SO
namespace Z
open SO
/-- how many coins are wanted -/
def wnt (W : Nat → Int) : Nat := (W 0).toNat + (W 1).toNat + (W 2).toNat + (W 3).toNat + (W 4).toNat + (W 5).toNat
theorem wnt_lt {W W' : Nat → Int} (h : ∀ q, q < 6 → (W' q).toNat ≤ (W q).toNat) {p : Nat} (hp : p < 6) (lt : (W' p).toNat < (W p).toNat) : wnt W' < wnt W := by
  have a0 := h 0 (by decide)
  have a1 := h 1 (by decide)
  have a2 := h 2 (by decide)
  have a3 := h 3 (by decide)
  have a4 := h 4 (by decide)
  have a5 := h 5 (by decide)
  unfold wnt
  have : p = 0 ∨ p = 1 ∨ p = 2 ∨ p = 3 ∨ p = 4 ∨ p = 5 := by omega
  rcases this with rfl | rfl | rfl | rfl | rfl | rfl <;> omega
theorem nt_zero (ks : List Nat) (p : Nat) : nt (ent ks fun _ => 0) p = 0 := by
  unfold nt rcv gvn
  rw [tot_ent_zero, tot_ent_zero]
  rfl
end Z
set_option Elab.async false
set_option linter.all false
set_option maxRecDepth 100000
set_option maxHeartbeats 4000000
namespace SO
def ste2 (d r : Nat → Int) (k : Nat) : List Stp := (if 0 < r k then [(k, false)] else []) ++ if r k < d k then [(k, true)] else []
def steps2 (d r : Nat → Int) (ks : List Nat) : List Stp := ks.flatMap (ste2 d r)
theorem mem_steps2 {d r : Nat → Int} {ks : List Nat} {e : Stp} : e ∈ steps2 d r ks ↔ e ∈ steps d r ks := by
  have one : ∀ k, e ∈ ste2 d r k ↔ e ∈ ste d r k := fun k => by
    unfold ste2 ste
    rw [List.mem_append, List.mem_append]
    exact Or.comm
  unfold steps2 steps
  rw [List.mem_flatMap, List.mem_flatMap]
  exact ⟨fun ⟨k, h1, h2⟩ => ⟨k, h1, (one k).mp h2⟩, fun ⟨k, h1, h2⟩ => ⟨k, h1, (one k).mpr h2⟩⟩
/-- heights as costs -/
def csOf (h : Nat → Int) : Cs := fun x => if x < 6 then some (0 - h x) else none
def hup (h : Nat → Int) (e : Stp) : Nat → Int := fun x => if x = sv e then (if h (su e) - c1 e > h (sv e) then h (su e) - c1 e else h (sv e)) else h x
theorem rx_cs {h : Nat → Int} {e : Stp} (h1 : su e < 6) (h2 : sv e < 6) : rx c1 (csOf h) e = csOf (hup h e) := by
  unfold rx
  have e1 : csOf h (su e) = some (0 - h (su e)) := if_pos h1
  have e2 : csOf h (sv e) = some (0 - h (sv e)) := if_pos h2
  rw [e1]
  dsimp only
  funext x
  unfold better
  rw [e2]
  dsimp only
  by_cases q : 0 - h (su e) + c1 e < 0 - h (sv e)
  · rw [if_pos (decide_eq_true q)]
    unfold csOf hup
    by_cases y : x = sv e
    · rw [if_pos y, y, if_pos h2, if_pos rfl, if_pos (by omega)]
      congr 1
      omega
    · rw [if_neg y, if_neg y]
  · rw [if_neg (fun z => q (of_decide_eq_true z))]
    unfold csOf hup
    by_cases y : x = sv e
    · rw [if_pos y, if_neg (by omega : ¬ h (su e) - c1 e > h (sv e)), y]
    · rw [if_neg y]
theorem heights_done {d r : Nat → Int} {ks : List Nat} {π : Nat → Int} {h : Nat → Int} (hp : Pot d r ks π) (hk : ∀ k ∈ ks, k < 36) (e : it c1 (steps2 d r ks) (csOf fun _ => 0) 6 = csOf h) : (∀ k ∈ ks, 0 < r k → h (k % 6) + 1 ≤ h (k / 6)) ∧ ∀ k ∈ ks, r k < d k → h (k / 6) - 1 ≤ h (k % 6) := by
  obtain ⟨H, h0, cl⟩ := heights_ex hp hk
  have cl2 : Closed c1 (steps2 d r ks) fun x => some (H x) := fun e m => cl e (mem_steps2.mp m)
  have lb : LB (fun x => some (H x)) (csOf fun _ => 0) := fun v b e => by
    unfold csOf at e
    by_cases q : v < 6
    · rw [if_pos q] at e
      cases e
      exact ⟨_, rfl, h0 v q⟩
    · rw [if_neg q] at e
      cases e
  have rE : ∀ e ∈ steps2 d r ks, su e < 6 ∧ sv e < 6 := fun e m => by
    have := hk _ (mem_steps.mp (mem_steps2.mp m)).1
    obtain ⟨k, b⟩ := e
    dsimp only at this
    cases b
    · exact ⟨show k % 6 < 6 by omega, show k / 6 < 6 by omega⟩
    · exact ⟨show k / 6 < 6 by omega, show k % 6 < 6 by omega⟩
  have cd := relax_done (n := 6) cl2 lb rE (fun v hv => if_neg (by omega))
  rw [e] at cd
  have val : ∀ x, x < 6 → csOf h x = some (0 - h x) := fun x hx => if_pos hx
  refine ⟨fun k m q => ?_, fun k m q => ?_⟩
  · have k36 := hk k m
    obtain ⟨b, e1, e2⟩ := cd (k, false) (mem_steps2.mpr (mem_steps.mpr ⟨m, .inr ⟨rfl, q⟩⟩)) (0 - h (k % 6)) (val _ (by show k % 6 < 6; omega))
    have e1 : csOf h (k / 6) = some b := e1
    rw [val _ (show k / 6 < 6 by omega)] at e1
    cases e1
    have e2 : 0 - h (k / 6) ≤ 0 - h (k % 6) + -1 := e2
    omega
  · have k36 := hk k m
    obtain ⟨b, e1, e2⟩ := cd (k, true) (mem_steps2.mpr (mem_steps.mpr ⟨m, .inl ⟨rfl, q⟩⟩)) (0 - h (k / 6)) (val _ (show k / 6 < 6 by omega))
    have e1 : csOf h (k % 6) = some b := e1
    rw [val _ (show k % 6 < 6 by omega)] at e1
    cases e1
    have e2 : 0 - h (k % 6) ≤ 0 - h (k / 6) + 1 := e2
    omega
end SO
namespace Z
open SO
theorem sm_ent {f : Nat → Int} (k : Nat) : ∀ {bs : List Nat}, bs.Nodup → sm (ent bs f) k = if k ∈ bs then f k else 0
  | [], _ => rfl
  | b :: bs, nd => by
    have n2 := List.nodup_cons.mp nd
    have ih := sm_ent (f := f) k n2.2
    show (if decide (b = k) = true then f b else 0) + sm (ent bs f) k = _
    rw [ih]
    by_cases e : b = k
    · subst e
      rw [if_pos (decide_eq_true rfl), if_neg n2.1, if_pos List.mem_cons_self, Int.add_zero]
    · rw [if_neg (fun z => e (of_decide_eq_true z)), Int.zero_add]
      by_cases m : k ∈ bs
      · rw [if_pos m, if_pos (List.mem_cons_of_mem _ m)]
      · rw [if_neg m, if_neg fun z => (List.mem_cons.mp z).elim (fun z => e z.symm) m]
theorem nt_sub_keys {f : Nat → Int} {ks bs : List Nat} (nk : ks.Nodup) (nb : bs.Nodup) (sub : ∀ k ∈ bs, k ∈ ks) (z : ∀ k ∈ ks, k ∉ bs → f k = 0) (p : Nat) : nt (ent ks f) p = nt (ent bs f) p := by
  have key : ∀ P : Nat → Bool, tot P (ent ks f) = tot P (ent bs f) := fun P => by
    rw [← tot_ent P nk (rs := ent bs f) (fun r hr k e => by
      unfold ent at hr
      obtain ⟨b, hb, rfl⟩ := List.mem_map.mp hr
      cases e
      exact .inl (sub _ hb))]
    refine tot_congr P fun k hk => ?_
    rw [sm_ent k nb]
    by_cases m : k ∈ bs
    · rw [if_pos m]
    · rw [if_neg m]
      exact z k hk m
  unfold nt rcv gvn
  rw [key, key]
theorem nt_congr {f g : Nat → Int} {ks : List Nat} (h : ∀ k ∈ ks, f k = g k) (p : Nat) : nt (ent ks f) p = nt (ent ks g) p := by
  unfold nt rcv gvn
  rw [tot_congr _ h, tot_congr _ h]
end Z
set_option Elab.async false
set_option linter.all false
set_option maxRecDepth 100000
set_option maxHeartbeats 4000000
namespace L2
open PySem PySem.Spec PyProof.Rows
section
variable {X : Cx}
/-- name = {..} on one line, the name a local -/
theorem ps_setDc {i : Nat} {y : Str} {py : Pos} {kx vx tg iter : Expr} {ifs : List Expr} {scope : Scope} {own : List (Str × Nat)} {pos spos : Pos} {wi : TI} {g : TG} {tt : TT} {tk tv : TE} (hc : X.calm = true) (hN : X.N.Nodup) (hy : X.N[i]? = some y) (hyl : X.env.scope.names.lookup y = some .local)
    (hsw : swapsWith (.DictComp kx vx [⟨tg, iter, ifs, 0⟩] scope pos) (some (.Name y py)) spos.line X.env = pure true) (hi : PI X tg iter wi) (ok : BlkOk X.N X.env.scope scope own)
    (hg : ∀ (s : Shared) (H : Hp) (C : Addr) (cl : List (Str × Addr)) (fp : List Addr), PG (X.blk s H scope (compEnvC scope cl C X.env) fp) tg g) (ht : ∀ (s : Shared) (H : Hp) (C : Addr) (cl : List (Str × Addr)) (fp : List Addr), PTs (X.blk s H scope (compEnvC scope cl C X.env) fp) ifs tt)
    (hk : ∀ (s : Shared) (H : Hp) (C : Addr) (cl : List (Str × Addr)) (fp : List Addr), PE (X.blk s H scope (compEnvC scope cl C X.env) fp) kx tk)
    (he : ∀ (s : Shared) (H : Hp) (C : Addr) (cl : List (Str × Addr)) (fp : List Addr), PE (X.blk s H scope (compEnvC scope cl C X.env) fp) vx tv) (hs : ∀ x, foldedSetIterable iter X.env x = pure x := by intro _; rfl) :
    PS X (.Assign [.Name y py] (.DictComp kx vx [⟨tg, iter, ifs, 0⟩] scope pos) spos) (tAsg (tDc wi g tt tk tv (own.map (·.2))) (gName i)) := by
  refine ⟨fun pins s σ H D I h => ?_⟩
  rw [exec_Assign_Name_used _ _ _ _ hsw]
  refine wpAny_bind (wpAny_standAt (wpAny_bind ?_))
  show wpAny _ X.A (do let _ ← comprehension (.DictComp kx vx [⟨tg, iter, ifs, 0⟩] scope pos) scope X.env (firstIterPos [⟨tg, iter, ifs, 0⟩] pos) newDict false (eval iter X.env) (some (assign (.Name y py) X.env))) _ _ s
  have h : tDc wi g tt tk tv (own.map (·.2)) σ H (fun x H1 => gName i x σ H1 D.nx) := h
  refine wpAny_bind (thn (dc_core (Qf := fun _ s' => SP X pins D .next s') hc hN I hi ok hg ht hk he hs h fun L C s' m H' I' q hn f => ?_) fun _ s' hq => wpAny_pure (wpAny_pure hq))
  show wpAny _ _ (assign (.Name y py) X.env (.ref L)) _ _ _
  refine wpAny_assign_Name (store_ok2 (v := V.ref L) I' hN hy (.inl hyl) rfl (fun s2 I2 ⟨a, sb, ha⟩ => ?_) (.inr hyl))
  obtain ⟨f0, f1, f2, f3, f4, f5⟩ := f
  have haC : C ≠ a := by
    rcases ha with z | z
    · rw [z]; exact f1
    · exact fun e => f4 y a z e.symm
  refine ⟨m, hn.sameBut sb haC, fun h3 sb3 => ?_⟩
  exact ⟨_, H', I2.turned (t' := s2.toks) (fun b o hb e => (sb3.2 b hb).trans e) f0 f1 f3 f4 f5, q⟩
theorem sw_trueD {kx vx : Expr} {gs : List Comprehension} {scope : Scope} {pos py : Pos} {y : Str} {l : Nat} {env : Env} (hk : env.scope.kind = .function) (hy : env.scope.names.lookup y = some .local) (hl : (py.line == pos.line) = true)
    (ha : (scope.names.any fun (n, k) => n == y && (k == .local || k == .cell)) = false) : swapsWith (.DictComp kx vx gs scope pos) (some (.Name y py)) l env = pure true := by
  have ky : env.kindOf y = some .local := hy
  have hb : env.blockKind = .function := by unfold Env.blockKind; rw [hk]; rfl
  unfold swapsWith
  simp only [hb, ky, ha, Expr.pos, hl]
  rfl
end
end L2
set_option Elab.async false
set_option linter.all false
set_option maxRecDepth 100000
set_option maxHeartbeats 4000000
namespace Z
open PySem PySem.Spec PyProof.Rows L2
/-! ### zip of a text and a sequence -/
def ItzS (z : Str) (q : Bool) (K : PySem.W.Frag) (b : Addr) : It :=
  ⟨fun i H => ∃ (ys : List V) (c : Nat) (y : V), SqK q K H b ys ∧ z.cps[i]? = some c ∧ ys[i]? = some y,
   fun i H v H' => ∃ T c y, v = .ref T ∧ H T = none ∧ H' = upd H T (.tup [.str ⟨#[c]⟩, y]) ∧ z.cps[i]? = some c ∧ (∀ ys, SqK q K H b ys → ys[i]? = some y),
   fun i H => ∃ ys : List V, SqK q K H b ys ∧ (z.cps.size ≤ i ∨ ys.length ≤ i) ∧ i ≤ z.cps.size ∧ i ≤ ys.length⟩
theorem zsepS {z TI TO i1 i2 a b : Addr} (D : ZipApart z TI TO i1 i2 a b) : ZipSep2 z TI TO i1 i2 [i1] [i2, b] where
  TIz := D.TIz
  TOz := D.TOz
  TITO := D.TITO
  TIi1 := D.TIi1
  mem1 := List.mem_cons_self
  zf1 := fun h => D.i1z (List.mem_singleton.mp h).symm
  Tf1 := fun h => D.TOi1 (List.mem_singleton.mp h)
  TIi2 := D.TIi2
  mem2 := List.mem_cons_self
  zf2 := fun h => by rcases List.mem_cons.mp h with e | h; exact D.i2z e.symm; exact D.l2z (List.mem_singleton.mp h).symm
  Tf2 := fun h => by rcases List.mem_cons.mp h with e | h; exact D.TOi2 e; exact D.l2TO (List.mem_singleton.mp h).symm
  sep1_2 := fun h => by rcases List.mem_cons.mp h with e | h; exact D.i12 e; exact D.l2i1 (List.mem_singleton.mp h).symm
  sep2_1 := fun h => D.i12 (List.mem_singleton.mp h).symm
theorem turn_zipS {q : Bool} {P : Program} {w : World} {K : PySem.W.Frag} {elts : List Expr} {kk : Nat} {tpos : Pos} {w0 : Str} {t0 : Tok} {a b z TI TO i1 i2 : Addr} (D : ZipApart z TI TO i1 i2 a b) :
    Turn P w K (.Tuple elts kk tpos) (ItzS w0 q K b) [z, TI, TO, i1, i2] z (fun i h => IsZip h z TI TO .none ∧ IsTupOf2 h TI (.ref i1) (.ref i2) ∧ (∃ x y, IsTupOf2 h TO x y) ∧ h.IsStrIter i1 (strIterType w0) w0 t0 i ∧ ItK q h i2 b i) where
  mem := by simp
  obj := fun i h st c hc => by
    obtain ⟨hz, hI, ⟨x, y, hO⟩, h1, h2⟩ := st
    obtain ⟨o1, eo1, _, d1⟩ := h1
    exact five (Pr := fun c => ∃ o, h.get? c = some o ∧ ∀ v, o.data ≠ .cell v) hc ⟨_, hz, fun v q => nomatch q⟩ ⟨_, hI, fun v q => nomatch q⟩ ⟨_, hO, fun v q => nomatch q⟩ ⟨o1, eo1, fun v q => by rw [d1] at q; cases q⟩ h2.obj
  keep := fun i h h' st k => by
    obtain ⟨hz, hI, ⟨x, y, hO⟩, ⟨o1, eo1, r1⟩, h2⟩ := st
    exact ⟨k z (by simp) _ hz, k TI (by simp) _ hI, ⟨x, y, k TO (by simp) _ hO⟩, ⟨o1, k i1 (by simp) o1 eo1, r1⟩, h2.at' (fun o e => k i2 (by simp) o e)⟩
  item := by
    intro X hP hw hK hc i pins s σ H E I hf st hg
    subst hP hw hK
    obtain ⟨hz, hI, ⟨x0, y0, hO⟩, h1, h2⟩ := st
    obtain ⟨ys, c, y, qy, ex, ey⟩ := hg
    obtain ⟨vs, ry, ky, _⟩ := sqk_is I qy
    obtain ⟨v, ev, rv⟩ := ry.get ey
    have hzl : z < s.heap.objs.size := Heap.lt_size hz
    have lu : i < w0.cps.size := (Array.getElem?_eq_some_iff.mp ex).1
    have lv : i < vs.toArray.size := by simpa using (List.getElem?_eq_some_iff.mp ev).1
    have hh : X.A.in1.handled = none := I.ok.hd hc
    refine wpAny_pyNext_zipD2_item (zsepS D) (drawsS hh i1 w0 t0) (drawsK q hh i2 b D.l2i2 vs.toArray) hz hI hO h1 ⟨h2, ky⟩ lu lv fun m1 m2 g tk p1 p2 gz gO g1 g2 gT gs gk => ?_
    obtain ⟨c', u', e1, rfl⟩ := p1
    rw [ex] at e1
    cases e1
    have e2 : m2 = v := by
      have t1 : vs.toArray[i]? = some v := by simpa using ev
      exact Option.some.inj (p2.symm.trans t1)
    subst e2
    refine ⟨_, rfl, wpAny_letOwnedTupleGo_zip (s := { s with heap := g, toks := tk }) gz fun g' gz' sb => ?_⟩
    have gT' : g'.get? s.heap.objs.size = some { cls := .type "tuple", data := .seq #[.str ⟨#[c]⟩ u', m2] } := (sb.2 _ (Nat.ne_of_gt hzl)).trans gT
    have nw : ObjOk X.prog X.w (upd H s.heap.objs.size (.tup [.str ⟨#[c]⟩, y])) g' s.heap.objs.size (.tup [.str ⟨#[c]⟩, y]) := ⟨by show 2 ≤ sizeLine; decide, [.str ⟨#[c]⟩ u', m2], .cons ⟨u', rfl⟩ (.cons rv .nil), ⟨_, gT', rfl, _, rfl⟩⟩
    have I1 : Inv X pins σ (upd H s.heap.objs.size (.tup [.str ⟨#[c]⟩, y])) { s with heap := g', toks := tk } :=
      I.turnedNew (t' := tk) (ch := [z, TI, TO, i1, i2]) (fun c o nb e => (sb.2 c (fun w => nb (by simp [w]))).trans (gk c o (fun w => nb (by simp [w])) (fun w => nb (by simp [w])) (fun w => nb (by simp [w])) (fun w => nb (by simp [w])) e)) hf (Nat.le_refl _) nw
    refine ⟨.ref s.heap.objs.size, _, I1, rfl, ⟨_, c, y, rfl, I.hok.fresh (Nat.le_refl _), rfl, ex, fun l hl => by rw [sqk_inj I hl qy]; exact ey⟩, ⟨gz', ?_, ⟨.str ⟨#[c]⟩ u', m2, ?_⟩, ?_, ?_⟩, fun d hcm => ?_⟩
    · exact (sb.2 _ D.TIz).trans (gk _ _ D.TIz D.TITO D.TIi1 D.TIi2 hI)
    · exact (sb.2 _ D.TOz).trans gO
    · obtain ⟨o1, eo1, r1⟩ := g1
      exact ⟨o1, (sb.2 _ D.i1z).trans eo1, r1⟩
    · exact ItK.at' g2.1 (fun o e => (sb.2 _ D.i2z).trans e)
    · have lt : d < s.heap.objs.size := by
        obtain ⟨o1, q1, _⟩ := h1
        obtain ⟨o2, q2, _⟩ := h2.obj
        exact five (Pr := fun c => c < s.heap.objs.size) hcm hzl (Heap.lt_size hI) (Heap.lt_size hO) (Heap.lt_size q1) (Heap.lt_size q2)
      rw [upd_ne (Nat.ne_of_lt lt)]
      exact (hf d hcm).1
  done := by
    intro X hP hw hK hc i pins s σ H E I hf st hg
    subst hP hw hK
    obtain ⟨hz, hI, ⟨x0, y0, hO⟩, h1, h2⟩ := st
    obtain ⟨ys, qy, hend, le1, le2⟩ := hg
    obtain ⟨vs, ry, ky, _⟩ := sqk_is I qy
    have l2 := ry.length
    have n2 : vs.toArray.size = vs.length := by simp
    have hh : X.A.in1.handled = none := I.ok.hd hc
    refine wpAny_pyNext_zipD2_end (i := i) (zsepS D) (drawsS hh i1 w0 t0) (drawsK q hh i2 b D.l2i2 vs.toArray) hz hI hO h1 ⟨h2, ky⟩ (by omega) (by omega) (by omega) fun g tk gk => ?_
    exact ⟨rfl, I.turnedL (t' := tk) (ch := [z, TI, TO, i1, i2]) (fun c o nb e => gk c o (fun w => nb (by simp [w])) (fun w => nb (by simp [w])) (fun w => nb (by simp [w])) (fun w => nb (by simp [w])) e) hf⟩
  self := fun A i s Q E st h => wpAny_pyIter_zip st.1 h
def iZipS (K : PySem.W.Frag) (ta : TA) : TI := fun σ H R => ta σ H fun vs H1 => ∃ z q b ys, vs = [.str z, .ref b] ∧ SqK q K H1 b ys ∧ R (ItzS z q K b) H1
theorem pi_zipS {X : Cx} {e e2 : Expr} {ta : TA} {p pos tpos : Pos} {elts : List Expr} {kk : Nat} (hg : Gl X "zip") (hm : X.mg "zip" = none) (ha : PA X [e, e2] ta)
    (hs : starEach [e, e2] X.env = (false, eval e X.env) :: starEach [e2] X.env := by rfl) (hpl : (backTo pos (starEach [e2] X.env)).any (·.1) = false := by rfl) :
    PI X (.Tuple elts kk tpos) (.Call (.Name "zip" p) [e, e2] [] pos) (iZipS X.K ta) := by
  constructor
  intro pins s σ H R I h
  refine Call_ (ld_blt I hg hm PyProof.Rows.boot_zip (PyProof.Rows.callWith_type1 (thn (ha.run pos pins s σ H _ I h) fun us s1 ⟨vs, H1, I1, r1, q1⟩ => ?_) hs hpl))
  obtain ⟨z, k2, b, ys, ex, qy, q⟩ := q1
  subst ex
  obtain ⟨u, v, rfl, ru, rv⟩ := Vals.two r1
  obtain ⟨t, rfl⟩ := ru
  cases rv
  obtain ⟨i2, _, p2, lt2⟩ := sqk_is I1 qy
  obtain ⟨o2, G2, B2, g2, w2⟩ := begK p2
  refine zip_begins2 (begins_text z t) B2 trivial g2 fun h' hz hI hO e1 e2 hsz hk => wpAny_pyIter_zip hz ?_
  have I2 : Inv X pins σ H1 { s1 with heap := h' } := I1.kept (t' := s1.toks) hk
  refine ⟨s1.heap.objs.size + 4, [s1.heap.objs.size + 4, s1.heap.objs.size + 2, s1.heap.objs.size + 3, s1.heap.objs.size, s1.heap.objs.size + 1], _, _, H1, rfl, I2, turn_zipS (w0 := z) (t0 := t) (PySem.W.ktu_apart s1.heap.objs.size b b lt2 lt2), ⟨hz, hI, ⟨_, _, hO⟩, ⟨_, e1, rfl, rfl⟩, w2 _ _ e2⟩, fun c hcm => ?_, q⟩
  have hle : s1.heap.objs.size ≤ c := five (Pr := fun c => s1.heap.objs.size ≤ c) hcm (Nat.le_add_right _ _) (Nat.le_add_right _ _) (Nat.le_add_right _ _) (Nat.le_refl _) (Nat.le_add_right _ _)
  exact I1.fpOk hle (I1.hok.fresh hle)
end Z
set_option Elab.async false
set_option linter.all false
set_option maxRecDepth 100000
set_option maxHeartbeats 4000000
namespace Z
open PySem PySem.Spec PyProof.Rows L2
open PySem.W (minD dataLt dataLt_ii AlikeAll min_list_data alike alikeAll)
/-! ### min of a list of pairs (int, text): one of them -/
def tDS (z : Int × Str) : PyData := .tuple [.int z.1, .str z.2]
/-- the least datum of a list -/
def minL : List PyData → PyData
  | [] => .none
  | x :: xs => minD x xs
def rMinS : List V → Hp → VK → Prop := fun vs H Q => ∃ (a : Addr) (zs : List (Addr × Int × Str)), vs = [.ref a] ∧ H a = some (.lst (zs.map fun z => V.ref z.1)) ∧ (∀ z ∈ zs, H z.1 = some (.tup [.int z.2.1, .str z.2.2]) ∧ PyData.strOk z.2.2 = true) ∧ 0 < zs.length ∧ ∀ z ∈ zs, tDS z.2 = minL (zs.map fun z => tDS z.2) → Q (.ref z.1) H
theorem dpa_pairS {K : PySem.W.Frag} {H : Hp} : ∀ {zs : List (Addr × Int × Str)}, (∀ z ∈ zs, H z.1 = some (.tup [.int z.2.1, .str z.2.2])) → DpAll K H (zs.map fun z => V.ref z.1) (zs.map fun z => tDS z.2)
  | [], _ => .nil
  | z :: r, h => .cons (.tup (SqT.of (h z List.mem_cons_self)) (.cons (.int _) (.cons (.str _) .nil))) (dpa_pairS fun x hx => h x (List.mem_cons_of_mem _ hx))
theorem dep_pairS : ∀ ps : List (Int × Str), PyData.depthAll (ps.map tDS) ≤ 1
  | [] => Nat.zero_le _
  | p :: r => by
    have := dep_pairS r
    rw [List.map_cons, PyData.depthAll]
    have e : (tDS p).depth = 1 := by simp [tDS, PyData.depth, PyData.depthAll]
    omega
theorem cr_minS {X : Cx} (hc : X.calm = true) (hu : X.A.units + 64 < cLine) : CallR X (.builtin "min") rMinS := by
  intro pins s σ H vs us Q I r h
  obtain ⟨a, zs, rfl, ha, hz, hne, q⟩ := h
  obtain ⟨u, rfl, ru⟩ := vals1 r
  obtain rfl : u = Value.ref a := ru
  obtain ⟨its, rv, hl, _⟩ := I.list (SqL.of ha)
  obtain ⟨as, ra⟩ := Dp.readsAll I _ _ _ (dpa_pairS fun z m => (hz z m).1) rv
  obtain ⟨z0, zr, ez⟩ : ∃ z0 zr, zs = z0 :: zr := by
    cases zs with
    | nil => exact absurd hne (by decide)
    | cons z r => exact ⟨z, r, rfl⟩
  have em : (zs.map fun z => tDS z.2) = tDS z0.2 :: (zr.map (·.2)).map tDS := by rw [ez, List.map_cons, List.map_map]; rfl
  have al : AlikeAll (tDS z0.2 :: (zr.map (·.2)).map tDS) := by
    have mem : ∀ x ∈ tDS z0.2 :: (zr.map (·.2)).map tDS, ∃ p, x = tDS p := fun x hx => by
      rcases List.mem_cons.mp hx with h | h
      · exact ⟨_, h⟩
      · obtain ⟨p, _, e⟩ := List.mem_map.mp h
        exact ⟨p, e.symm⟩
    refine ⟨fun x hx y hy => ?_, fun x hx => ?_⟩
    · obtain ⟨p, rfl⟩ := mem x hx
      obtain ⟨p', rfl⟩ := mem y hy
      simp [tDS, alike, alikeAll]
    · obtain ⟨p, rfl⟩ := mem x hx
      exact nofun
  have dep : PyData.depthAll (tDS z0.2 :: (zr.map (·.2)).map tDS) ≤ 1 := by
    show PyData.depthAll ((z0.2 :: zr.map (fun z => z.2)).map tDS) ≤ 1
    exact dep_pairS _
  refine min_list_data (I.ok.hd hc) hl.isList (by rw [← em]; simpa using ra) al (by omega) fun i v h' tk bs hi rd hk => ?_
  have hi : its[i]? = some v := by simpa using hi
  have hlen := rv.length
  rw [List.length_map] at hlen
  have hi2 : i < zs.length := by
    have := (List.getElem?_eq_some_iff.mp hi).1
    omega
  have ezi : (zs.map fun z => V.ref z.1)[i]? = some (.ref zs[i].1) := by rw [List.getElem?_map, List.getElem?_eq_getElem hi2]; rfl
  obtain ⟨v2, hv2, rv2⟩ := rv.get ezi
  rw [hi] at hv2
  cases hv2
  have hzi := hz _ (List.getElem_mem hi2)
  obtain ⟨cs, rd2⟩ := Dp.reads I (tDS zs[i].2) _ _ (.tup (SqT.of hzi.1) (.cons (.int _) (.cons (.str _) .nil))) rv2
  have lay : (tDS zs[i].2).canLay0 = true := by
    have := hzi.2
    simp [tDS, PyData.canLay0, PyData.canLayAll0, this]
  have un := PySem.SeqAt.Reads.unique _ _ _ _ _ lay (PySem.W.reads_keeps hk rd2) rd
  exact ⟨.ref zs[i].1, H, I.kept hk, rv2, q _ (List.getElem_mem hi2) (by rw [em]; exact un)⟩
end Z
set_option Elab.async false
set_option linter.all false
set_option maxRecDepth 100000
set_option maxHeartbeats 4000000
namespace Z
open PySem PySem.Spec PyProof.Rows L2
/-! ### for k in e, where e makes a dict that nobody changes: it stays locked -/
def iKeysL (td : TE) : TI := fun σ H R => td σ H fun x H1 => ∃ (d : Addr) (kvs : List (Key × V)), x = .ref d ∧ H1 d = some (.dK kvs) ∧ ∀ od, R (Itk d od kvs) (upd H1 d (.frz od (.dK kvs)))
theorem pi_keysL {X : Cx} {tg e : Expr} {td : TE} (he : PE X e td) : PI X tg e (iKeysL td) := by
  refine ⟨fun pins s σ H R I h => ?_⟩
  refine thn (he.run pins s σ H _ I h) fun u s1 ⟨x, H1, I1, rx, d, kvs, ex, hd, q⟩ => ?_
  subst ex
  obtain rfl : u = Value.ref d := rx
  obtain ⟨od, I2⟩ := I1.lock hd trivial
  have e : (upd H1 d (.frz od (.dK kvs))) d = some (.frz od (.dK kvs)) := upd_same
  obtain ⟨hs, hgd, hx, es, ep, vs, hdt, hsz, kv, hm⟩ := I2.frzK e
  refine iter_keys hs hgd hx hdt (pi_one (tk := s1.toks) I2 _ (turn_keys _ hdt) ⟨_, Heap.get?_push_size _ rfl, rfl, ?_⟩ (q od))
  rw [hsz] <;> rfl
end Z
set_option pp.maxSteps 700
set_option Elab.async false
set_option linter.all false
set_option maxRecDepth 100000
set_option maxHeartbeats 4000000
open SX (S S_inj S_len S_cat)
namespace Z
open SO
open PySem PySem.Spec PyProof.Rows L2
open C8 (pss_cut tCut)
local macro_rules | `(tactic| walk_at "num") => `(tactic| first | rfl | omega | decide | exact Nat.le_of_lt (small1000 (by simp)) | exact ⟨by omega, by omega⟩ | exact ⟨by omega, by omega, by omega⟩ | exact ⟨by decide, by decide, by decide⟩ | exact Or.inl ⟨by omega, by omega⟩ | exact Or.inr ⟨by omega, by omega⟩)
local macro_rules | `(tactic| walk_at "go") => `(tactic| repeat (first | refine ⟨_, rfl, ?_⟩ | refine ⟨_, _, rfl, rfl, ?_⟩ | refine ⟨_, _, rfl, ?_⟩ | (refine ⟨_, _, rfl, rfl, ?_, ?_⟩; focus walk_at "num") | refine Or.inl ⟨_, rfl, ?_⟩ | refine ⟨_, _, _, _, rfl, rfl, (by assumption), (by rfl), ?_⟩ | refine ⟨_, _, _, _, _, rfl, (by assumption), (by assumption), (by assumption), (by rfl), ?_⟩ | refine ⟨rfl, ?_⟩ | (refine And.intro ?_ ?_; focus walk_at "num")))
abbrev s_steps_left : Stmt := topS 15
abbrev N_steps_left : List Str := ["debts", "rest", "found", "pair", "coins"]
abbrev P_steps_left : List Str := ["debts", "rest"]
theorem sc_steps_left : FnScope N_steps_left P_steps_left (defScope s_steps_left) := ⟨rfl, rfl, rfl, by decide +kernel, rfl, by decide +kernel, by decide +kernel⟩
/-- a step as a tuple -/
def stV (e : Stp) : List V := [.str (lt1 (su e)), .str (lt1 (sv e)), .int (cA e), .str (ky e.1)]
structure StZ (H : Hp) (a : Addr) (zs : List (Addr × Stp)) : Prop where
  sq : H a = some (.lst (zs.map fun z => V.ref z.1))
  at_ : ∀ z ∈ zs, H z.1 = some (.tup (stV z.2))
theorem StZ.mono {H H' : Hp} {a : Addr} {zs : List (Addr × Stp)} (s : Same H H') (m : StZ H a zs) : StZ H' a zs := ⟨s _ _ m.sq, fun z hz => s _ _ (m.at_ z hz)⟩
theorem StZ.app {J : Hp} {L t : Addr} {zs : List (Addr × Stp)} {e : Stp} (m : StZ J L zs) (nt : J t = none) : StZ (upd (upd J t (.tup (stV e))) L (.lst (zs.map (fun z => V.ref z.1) ++ [.ref t]))) L (zs ++ [(t, e)]) := by
  refine ⟨by rw [upd_same, List.map_append]; rfl, fun z hz => ?_⟩
  have h : (upd J t (.tup (stV e))) z.1 = some (.tup (stV z.2)) := by
    rcases List.mem_append.mp hz with h | h
    · exact (same_new nt) _ _ (m.at_ z h)
    · rw [List.mem_singleton.mp h]
      exact upd_same
  rw [upd_ne (fun q => by rw [q, (same_new nt) _ _ m.sq] at h; cases h)]
  exact h
theorem stV_t (k : Nat) : stV (k, true) = [.str ⟨#[97 + k / 6]⟩, .str ⟨#[97 + k % 6]⟩, .int 101, .str (ky k)] := rfl
theorem stV_f (k : Nat) : stV (k, false) = [.str ⟨#[97 + k % 6]⟩, .str ⟨#[97 + k / 6]⟩, .int (-99), .str (ky k)] := rfl
theorem tab_get {H : Hp} {D : Addr} {key : Nat → Str} (inj : ∀ a b, key a = key b → a = b) {ks : List Nat} {g : Nat → Int} {k : Nat} (e : H D = some (.dK (tab key ks g))) (m : k ∈ ks) : DGet H D (.str (key k)) (some (.int (g k))) := by
  have z := DGet.k (k := Sum.inr (key k)) e
  rw [tab_val inj, if_pos m] at z
  exact z
section
variable {P : Program} {w : World} {K : PySem.W.Frag} {mg : Str → Option Value} {base : Heap} {f : Addr} {fd : FuncData}
def spSteps : Sp := fun vs H Q _ => ∃ (d R : Addr) (ks : List Nat) (g r : Nat → Int), vs = [.ref d, .ref R] ∧ H d = some (.dK (tab ky ks g)) ∧ H R = some (.dK (tab ky ks r)) ∧ d ≠ R ∧ (∀ k ∈ ks, KOk k) ∧ ks.length ≤ 36 ∧ ∀ L zs H', Same H H' → StZ H' L zs → zs.map Prod.snd = steps g r ks → Q (.ref L) H'
theorem ok_steps_left (F : FnP K "steps_left" s_steps_left f fd) (tok_ALONG tok_BACK : Tok) (g_ALONG : mg "ALONG" = some (.int 101 tok_ALONG)) (g_BACK : mg "BACK" = some (.int (-99) tok_BACK)) : FnOk P w K mg base CX0 1 f fd P_steps_left spSteps := by
  refine F.ok sc_steps_left (fun vs H Q E h => ?_) (fun cdv A outer s H vs Q E hr h => ?_)
  · obtain ⟨d, R, ks, g, r, rfl, _⟩ := h
    rfl
  · obtain ⟨d, R, ks, g, r, rfl, hd, hR, dR, hk, lk, q⟩ := h
    refine ⟨_, PSs.nox (pss_cons (ps_set (i := 2) sc_steps_left.nd rfl (by first | exact .inl rfl | exact .inr rfl) (pe_lst pa_nil))
      (pss_cons (ps_lock (ps_for PassesOwn.never rfl (pi_items (pv 0)) (pg_tup rfl (pgs_cons (pg_name (i := 3) sc_steps_left.nd rfl (by first | exact .inl rfl | exact .inr rfl)) (pgs_cons (pg_name (i := 4) sc_steps_left.nd rfl (by first | exact .inl rfl | exact .inr rfl)) pgs_nil)))
        (pss_cut (ps_if (pt_cmpR op_lt (pe_dget (hu_of hr) (pv 1) (pv 3) (fun _ _ => rfl)) (pv 4) (nomark _)) (pss_one (ps_expr (pe_bm PySem.F.plainAttrs_list PySem.F.slot_list_append PySem.F.type_list_append mt_append (pv 2) (pa_cons (pe_tup (pa_cons (pe_ix ix_str (pv 3) pe_int (fun _ _ => rfl)) (pa_cons (pe_ix ix_str (pv 3) pe_int (fun _ _ => rfl)) (pa_cons (pe_glob (v := .int 101) (by rfl) g_ALONG ⟨_, rfl⟩) (pa_cons (pv 3) pa_nil))))) pa_nil)))) pss_nil)
      (pss_one (ps_if (pt_cmpR op_gt (pe_dget (hu_of hr) (pv 1) (pv 3) (fun _ _ => rfl)) pe_int (nomark _)) (pss_one (ps_expr (pe_bm PySem.F.plainAttrs_list PySem.F.slot_list_append PySem.F.type_list_append mt_append (pv 2) (pa_cons (pe_tup (pa_cons (pe_ix ix_str (pv 3) pe_int (fun _ _ => rfl)) (pa_cons (pe_ix ix_str (pv 3) pe_int (fun _ _ => rfl)) (pa_cons (pe_glob (v := .int (-99)) (by rfl) g_BACK ⟨_, rfl⟩) (pa_cons (pv 3) pa_nil))))) pa_nil)))) pss_nil)))))
      (pss_one (ps_ret (pv 2))))), ?_⟩
    walk_at "go"
    intro L nL
    have dL : d ≠ L := fun e => by rw [← e, hd] at nL; cases nL
    have RL : R ≠ L := fun e => by rw [← e, hR] at nL; cases nL
    have s1 := same_new (o := .lst []) nL
    have eL : (upd H L (.lst [])) L = some (.lst []) := upd_same
    have hd1 := s1 _ _ hd
    have hR1 := s1 _ _ hR
    generalize upd H L (.lst []) = H1 at s1 eL hd1 hR1
    walk_at "go"
    refine ⟨d, _, hd1, trivial, fun od => ?_⟩
    have fz : (upd H1 d (.frz od (.dK (tab ky ks g)))) d = some (.frz od (.dK (tab ky ks g))) := upd_same
    have sb : SB d H (upd H1 d (.frz od (.dK (tab ky ks g)))) := fun b o n e => by rw [upd_ne n]; exact s1 b o e
    have hR2 : (upd H1 d (.frz od (.dK (tab ky ks g)))) R = some (.dK (tab ky ks r)) := by rw [upd_ne dR.symm]; exact hR1
    have eL2 : (upd H1 d (.frz od (.dK (tab ky ks g)))) L = some (.lst []) := by rw [upd_ne dL.symm]; exact eL
    generalize upd H1 d (.frz od (.dK (tab ky ks g))) = J0 at fz sb hR2 eL2
    walk_at "go"
    refine ⟨d, od, _, rfl, fz, ?_⟩
    refine for_gen (n := ks.length) (fun i σ J => J d = some (.frz od (.dK (tab ky ks g))) ∧ SB d H J ∧ (∃ zs, StZ J L zs ∧ zs.map Prod.snd = steps g r (ks.take i)) ∧ ∃ v3 v4, σ = [some (.ref d), some (.ref R), some (.ref L), v3, v4]) ⟨fz, sb, ⟨[], ⟨eL2, fun z h => absurd h (by simp)⟩, rfl⟩, _, _, rfl⟩ ?_ ?_ ?_ ?_
    · rintro i σ J hi ⟨f1, _⟩
      exact ⟨f1, by rw [tab_len]; exact hi⟩
    · rintro σ J ⟨f1, _⟩
      exact ⟨f1, by rw [tab_len]; exact Nat.le_refl _⟩
    · rintro i σ J x J3 hi ⟨f1, sb1, ⟨zs, hz, ez⟩, v3, v4, rfl⟩ ⟨T, kk, v, e, rfl, nT, rfl⟩
      rw [tab_at hi] at e
      cases e
      have hk1 := hk _ (List.getElem_mem hi)
      have km := List.getElem_mem hi
      have tk : ks.take (i + 1) = ks.take i ++ [ks[i]] := by
        rw [List.take_succ, List.getElem?_eq_getElem hi]
        rfl
      generalize ks[i] = k at hk1 tk km
      have lz : zs.length ≤ 2 * i := by
        have e1 : zs.length = (steps g r (ks.take i)).length := by rw [← ez, List.length_map]
        have : ∀ l : List Nat, (steps g r l).length ≤ 2 * l.length := by
          intro l
          induction l with
          | nil => exact Nat.le_refl _
          | cons y l ih =>
            show (ste g r y ++ steps g r l).length ≤ _
            rw [List.length_append, List.length_cons]
            have : (ste g r y).length ≤ 2 := by
              unfold ste
              split <;> split <;> simp
            omega
        have := this (ks.take i)
        rw [List.length_take] at this
        omega
      have ez1 : steps g r (ks.take (i + 1)) = zs.map Prod.snd ++ ste g r k := by
        rw [tk, ez]
        unfold steps
        rw [List.flatMap_append]
        simp
      have eT : (upd J T (.tup [kV (Sum.inr (ky k)), V.int (g k)])) T = some (.tup [.str (ky k), .int (g k)]) := upd_same
      have dT : d ≠ T := fun e => by rw [← e, f1] at nT; cases nT
      have sT := same_new (o := .tup [kV (Sum.inr (ky k)), V.int (g k)]) nT
      have nTH : ∀ o, H T ≠ some o := fun o e => by
        have := sb1 T o dT.symm e
        rw [nT] at this
        cases this
      have f2 := sT _ _ f1
      have sb2 : SB d H (upd J T (.tup [kV (Sum.inr (ky k)), V.int (g k)])) := fun b o n e => sT _ _ (sb1 b o n e)
      have hz2 := hz.mono sT
      generalize upd J T (.tup [kV (Sum.inr (ky k)), V.int (g k)]) = J4 at eT f2 sb2 hz2
      have e1 : (ky k).length = 2 := by unfold ky; rw [S_len]; rfl
      refine ⟨T, _, rfl, SqT.of eT, rfl, _, _, rfl, ?_⟩
      walk_at "go"
      have hR4 := sb2 R _ dR.symm hR
      have LH : L ≠ d := dL.symm
      have nLH : H L = none := nL
      refine ⟨fun σ J5 => J5 d = some (.frz od (.dK (tab ky ks g))) ∧ SB d H J5 ∧ (∃ zs', StZ J5 L zs' ∧ zs'.map Prod.snd = zs.map Prod.snd ++ (if r k < g k then [(k, true)] else []) ∧ zs'.length ≤ zs.length + 1) ∧ σ = [some (.ref d), some (.ref R), some (.ref L), some (.str (ky k)), some (.int (g k))], ?_, ?_⟩
      · walk_at "go"
        refine ⟨R, _, rfl, tab_get (fun _ _ => ky_inj) hR4 km, ?_⟩
        walk_at "go"
        have ste1 : zs.length ≤ 2 * i := lz
        refine ite2 (fun e => ?_) (fun e => ?_)
        · have e : r k < g k := of_decide_eq_true e
          walk_at "go"
          refine ⟨.inl ⟨rfl, _, SqL.of hz2.sq⟩, ?_⟩
          walk_at "go"
          refine ⟨ky k, _, 97 + k / 6, rfl, rfl, by rw [e1]; exact szl (by decide), rfl, ?_⟩
          walk_at "go"
          refine ⟨ky k, _, 97 + k % 6, rfl, rfl, by rw [e1]; exact szl (by decide), rfl, ?_⟩
          walk_at "go"
          intro t nt
          have dt : d ≠ t := fun e => by rw [← e, f2] at nt; cases nt
          have tH : ∀ o, H t ≠ some o := fun o e => by
            have := sb2 t o dt.symm e
            rw [nt] at this
            cases this
          walk_at "go"
          refine ⟨_, _, _, rfl, rfl, (same_new nt) _ _ hz2.sq, by rw [List.length_map]; exact szlt (by omega), ?_⟩
          have ap := hz2.app (e := (k, true)) nt
          rw [stV_t] at ap
          refine ⟨by rw [upd_ne dL, upd_ne dt]; exact f2, fun b o n e => ?_, ⟨_, ap, by rw [List.map_append, if_pos e]; rfl, by rw [List.length_append]; exact Nat.le_refl _⟩, rfl⟩
          have bL : b ≠ L := fun z => by rw [z, nLH] at e; cases e
          have bt : b ≠ t := fun z => tH o (by rw [← z]; exact e)
          rw [upd_ne bL, upd_ne bt]
          exact sb2 b o n e
        · have e : ¬ r k < g k := fun h => e (decide_eq_true h)
          exact ⟨f2, sb2, ⟨zs, hz2, by rw [if_neg e, List.append_nil], Nat.le_succ _⟩, rfl⟩
      rintro σ J5 ⟨f3, sb3, ⟨ys, hy, ey, ly⟩, rfl⟩
      have hR5 := sb3 R _ dR.symm hR
      walk_at "go"
      refine ⟨R, _, rfl, tab_get (fun _ _ => ky_inj) hR5 km, ?_⟩
      walk_at "go"
      refine ite2 (fun e => ?_) (fun e => ?_)
      · have e : 0 < r k := of_decide_eq_true e
        walk_at "go"
        refine ⟨.inl ⟨rfl, _, SqL.of hy.sq⟩, ?_⟩
        walk_at "go"
        refine ⟨ky k, _, 97 + k % 6, rfl, rfl, by rw [e1]; exact szl (by decide), rfl, ?_⟩
        walk_at "go"
        refine ⟨ky k, _, 97 + k / 6, rfl, rfl, by rw [e1]; exact szl (by decide), rfl, ?_⟩
        walk_at "go"
        intro t nt
        have dt : d ≠ t := fun e => by rw [← e, f3] at nt; cases nt
        have tH : ∀ o, H t ≠ some o := fun o e => by
          have := sb3 t o dt.symm e
          rw [nt] at this
          cases this
        walk_at "go"
        refine ⟨_, _, _, rfl, rfl, (same_new nt) _ _ hy.sq, by rw [List.length_map]; exact szlt (by omega), ?_⟩
        have ap := hy.app (e := (k, false)) nt
        rw [stV_f] at ap
        refine ⟨by rw [upd_ne dL, upd_ne dt]; exact f3, fun b o n e => ?_, ⟨_, ap, ?_⟩, _, _, rfl⟩
        · have bL : b ≠ L := fun z => by rw [z, nLH] at e; cases e
          have bt : b ≠ t := fun z => tH o (by rw [← z]; exact e)
          rw [upd_ne bL, upd_ne bt]
          exact sb3 b o n e
        · rw [List.map_append, ey, ez1]
          unfold ste
          rw [if_pos e, List.append_assoc]
          rfl
      · have e : ¬ 0 < r k := fun h => e (decide_eq_true h)
        refine ⟨f3, sb3, ⟨ys, hy, ?_⟩, _, _, rfl⟩
        rw [ey, ez1]
        unfold ste
        rw [if_neg e, List.append_nil]
    · rintro σ J ⟨f1, sb1, ⟨zs, hz, ez⟩, v3, v4, rfl⟩
      rw [List.take_length] at ez
      refine ⟨f1, ?_⟩
      have s9 : Same H (upd J d (.dK (tab ky ks g))) := fun a o e => by
        by_cases c : a = d
        · subst c
          rw [upd_same, ← hd, e]
        · rw [upd_ne c]
          exact sb1 a o c e
      have hz9 : StZ (upd J d (.dK (tab ky ks g))) L zs := ⟨by rw [upd_ne dL.symm]; exact hz.sq, fun z h => by
        rw [upd_ne (fun c => by have := hz.at_ z h; rw [c, f1] at this; cases this)]
        exact hz.at_ z h⟩
      walk_at "go"
      exact q L zs _ s9 hz9 ez
end
end Z
set_option pp.maxSteps 700
set_option Elab.async false
set_option linter.all false
set_option maxRecDepth 100000
set_option maxHeartbeats 4000000
open SX (S S_inj S_len S_cat)
namespace Z
open SO
open PySem PySem.Spec PyProof.Rows L2
open C8 (pss_cut tCut)
local macro_rules | `(tactic| walk_at "num") => `(tactic| first | rfl | omega | decide | exact Nat.le_of_lt (small1000 (by simp)) | exact ⟨by omega, by omega⟩ | exact ⟨by omega, by omega, by omega⟩ | exact ⟨by decide, by decide, by decide⟩ | exact Or.inl ⟨by omega, by omega⟩ | exact Or.inr ⟨by omega, by omega⟩)
local macro_rules | `(tactic| walk_at "go") => `(tactic| repeat (first | refine ⟨_, rfl, ?_⟩ | refine ⟨_, _, rfl, rfl, ?_⟩ | refine ⟨_, _, rfl, ?_⟩ | (refine ⟨_, _, rfl, rfl, ?_, ?_⟩; focus walk_at "num") | refine Or.inl ⟨_, rfl, ?_⟩ | refine ⟨_, _, _, _, rfl, rfl, (by assumption), (by rfl), ?_⟩ | refine ⟨_, _, _, _, _, rfl, (by assumption), (by assumption), (by assumption), (by rfl), ?_⟩ | refine ⟨rfl, ?_⟩ | (refine And.intro ?_ ?_; focus walk_at "num")))
abbrev s_cheapest_ways : Stmt := topS 16
abbrev N_cheapest_ways : List Str := ["steps", "givers", "party", "costs", "last", "lap", "step", "giver", "taker", "cost"]
abbrev P_cheapest_ways : List Str := ["steps", "givers"]
theorem sc_cheapest_ways : FnScope N_cheapest_ways P_cheapest_ways (defScope s_cheapest_ways) := ⟨rfl, rfl, rfl, by decide +kernel, rfl, by decide +kernel, by decide +kernel⟩
/-! ### a dict with any values -/
def tabV (key : Nat → Str) (ks : List Nat) (g : Nat → V) : List (Key × V) := ks.map fun k => (Sum.inr (key k), g k)
theorem tabV_len (key : Nat → Str) (ks : List Nat) (g : Nat → V) : (tabV key ks g).length = ks.length := List.length_map ..
theorem tabV_at {key : Nat → Str} {ks : List Nat} {g : Nat → V} {i : Nat} (h : i < ks.length) : (tabV key ks g)[i]? = some (Sum.inr (key ks[i]), g ks[i]) := by
  unfold tabV
  rw [List.getElem?_map, List.getElem?_eq_getElem h]
  rfl
theorem tabV_val {key : Nat → Str} (inj : ∀ a b, key a = key b → a = b) (g : Nat → V) (k : Nat) : ∀ ks : List Nat, valV (tabV key ks g) (Sum.inr (key k)) = if k ∈ ks then some (g k) else none := by
  intro ks
  induction ks with
  | nil => rfl
  | cons j r ih =>
    by_cases e : j = k
    · subst e
      rw [if_pos List.mem_cons_self]
      exact valV_pos rfl
    · have ne : ¬ (Sum.inr (key j) : Key) = Sum.inr (key k) := fun z => e (inj _ _ (Sum.inr.inj z))
      show valV ((Sum.inr (key j), g j) :: tabV key r g) _ = _
      rw [valV_neg ne, ih]
      by_cases m : k ∈ r
      · rw [if_pos m, if_pos (List.mem_cons_of_mem _ m)]
      · rw [if_neg m, if_neg (fun z => (List.mem_cons.mp z).elim (fun z => e z.symm) m)]
theorem tabV_congr {key : Nat → Str} {ks : List Nat} {g h : Nat → V} (e : ∀ k ∈ ks, g k = h k) : tabV key ks g = tabV key ks h :=
  List.map_congr_left fun k hk => by rw [e k hk]
theorem tabV_put {key : Nat → Str} (inj : ∀ a b, key a = key b → a = b) (ks : List Nat) (g : Nat → V) (k : Nat) (v : V) : putK (tabV key ks g) (Sum.inr (key k)) v = tabV key (if k ∈ ks then ks else ks ++ [k]) (fun j => if j = k then v else g j) := by
  unfold putK
  rw [valV_any, tabV_val inj]
  by_cases m : k ∈ ks
  · rw [if_pos m, if_pos m]
    rw [if_pos (by rfl)]
    unfold tabV
    rw [List.map_map]
    refine List.map_congr_left fun j hj => ?_
    show (if (Sum.inr (key j) : Key) = Sum.inr (key k) then ((Sum.inr (key j) : Key), v) else (Sum.inr (key j), g j)) = _
    by_cases e : j = k
    · subst e
      rw [if_pos rfl]
      dsimp only
      rw [if_pos rfl]
    · rw [if_neg (fun z => e (inj _ _ (Sum.inr.inj z)))]
      dsimp only
      rw [if_neg e]
  · rw [if_neg m, if_neg m]
    rw [if_neg (by simp)]
    show tabV key ks g ++ [(Sum.inr (key k), v)] = _
    rw [tabV_congr (h := fun j => if j = k then v else g j) (fun j hj => by rw [if_neg (fun z : j = k => m (z ▸ hj))])]
    unfold tabV
    rw [List.map_append, List.map_singleton]
    dsimp only
    rw [if_pos rfl]

theorem tab_ref (key : Nat → Str) (ks : List Nat) (g : Nat → Int) : tab key ks g = tabV key ks fun k => .int (g k) := rfl
/-- costs -/
def CostD (H : Hp) (C : Addr) (cks : List Nat) (h : Cs) : Prop := H C = some (.dK (tab lt1 cks fun v => (h v).getD 0)) ∧ (∀ v, v ∈ cks ↔ h v ≠ none) ∧ cks.length ≤ 6
def LastD (H : Hp) (D : Addr) (lks : List Nat) (l : Ls) (la : Nat → Addr) : Prop := H D = some (.dK (tabV lt1 lks fun v => .ref (la v))) ∧ (∀ v, v ∈ lks ↔ l v ≠ none) ∧ lks.length ≤ 6
/-- the last steps stand among the steps -/
def LaOk (zs : List (Addr × Stp)) (l : Ls) (la : Nat → Addr) : Prop := ∀ v e, l v = some e → (la v, e) ∈ zs
theorem CostD.get {H : Hp} {C : Addr} {cks : List Nat} {h : Cs} (c : CostD H C cks h) (v : Nat) : DGet H C (.str (lt1 v)) ((h v).map V.int) := by
  have z := DGet.k (k := Sum.inr (lt1 v)) c.1
  rw [tab_val (fun _ _ => lt1_inj)] at z
  cases e : h v with
  | none =>
    rw [if_neg fun m => (c.2.1 v).mp m e] at z
    exact z
  | some b =>
    rw [if_pos ((c.2.1 v).mpr (by rw [e]; exact nofun)), e] at z
    exact z
theorem CostD.val {H : Hp} {C : Addr} {cks : List Nat} {h : Cs} (c : CostD H C cks h) {v : Nat} {b : Int} (e : h v = some b) : DGet H C (.str (lt1 v)) (some (.int b)) := by
  have z := c.get v
  rw [e] at z
  exact z
theorem LastD.get {H : Hp} {D : Addr} {lks : List Nat} {l : Ls} {la : Nat → Addr} (c : LastD H D lks l la) (v : Nat) : DGet H D (.str (lt1 v)) ((l v).map fun _ => V.ref (la v)) := by
  have z := DGet.k (k := Sum.inr (lt1 v)) c.1
  rw [tabV_val (fun _ _ => lt1_inj)] at z
  cases e : l v with
  | none =>
    rw [if_neg fun m => (c.2.1 v).mp m e] at z
    exact z
  | some b =>
    rw [if_pos ((c.2.1 v).mpr (by rw [e]; exact nofun))] at z
    exact z
theorem nodup_keys {ks : List Nat} {v : Nat} (nd : ks.Nodup) (h : ∀ x ∈ ks, x < 6) (hv : v < 6) : (if v ∈ ks then ks else ks ++ [v]).Nodup ∧ ∀ x ∈ (if v ∈ ks then ks else ks ++ [v]), x < 6 := by
  by_cases m : v ∈ ks
  · rw [if_pos m]
    exact ⟨nd, h⟩
  · rw [if_neg m]
    refine ⟨List.nodup_append.mpr ⟨nd, by simp, fun a ha b hb e => m (by rw [List.mem_singleton.mp hb] at e; exact e ▸ ha)⟩, fun x hx => ?_⟩
    rcases List.mem_append.mp hx with h1 | h1
    · exact h x h1
    · rw [List.mem_singleton.mp h1]
      exact hv
theorem mem_keys {ks : List Nat} {v x : Nat} : x ∈ (if v ∈ ks then ks else ks ++ [v]) ↔ x ∈ ks ∨ x = v := by
  by_cases m : v ∈ ks
  · rw [if_pos m]
    exact ⟨.inl, fun z => z.elim id fun e => e ▸ m⟩
  · rw [if_neg m]
    simp
theorem CostD.put {H : Hp} {C : Addr} {cks : List Nat} {h : Cs} (c : CostD H C cks h) (nd : cks.Nodup) (lt : ∀ x ∈ cks, x < 6) {v : Nat} (hv : v < 6) (b : Int) : ∃ H', DPut H C (.str (lt1 v)) (.int b) H' ∧ H' = upd H C (.dK (tab lt1 (if v ∈ cks then cks else cks ++ [v]) fun x => ((fun x => if x = v then some b else h x) x).getD 0)) ∧ CostD H' C (if v ∈ cks then cks else cks ++ [v]) (fun x => if x = v then some b else h x) := by
  have z := DPut.k (k := Sum.inr (lt1 v)) (v := .int b) c.1 (by rw [tab_len]; exact szlt (by have := c.2.2; omega))
  rw [tab_put (fun _ _ => lt1_inj)] at z
  have e : (tab lt1 (if v ∈ cks then cks else cks ++ [v]) fun j => if j = v then b else (h j).getD 0) = tab lt1 (if v ∈ cks then cks else cks ++ [v]) fun x => ((fun x => if x = v then some b else h x) x).getD 0 := tab_congr fun x _ => by
    dsimp only
    by_cases q : x = v
    · rw [if_pos q, if_pos q]
      rfl
    · rw [if_neg q, if_neg q]
  rw [e] at z
  refine ⟨_, z, rfl, upd_same, fun x => ?_, nodup_len6 (nodup_keys nd lt hv).1 (nodup_keys nd lt hv).2⟩
  rw [mem_keys, c.2.1 x]
  dsimp only
  by_cases q : x = v
  · rw [if_pos q]
    exact ⟨fun _ => nofun, fun _ => .inr q⟩
  · rw [if_neg q]
    exact ⟨fun y => y.elim id fun y => absurd y q, .inl⟩
theorem LastD.put {H : Hp} {D : Addr} {lks : List Nat} {l : Ls} {la : Nat → Addr} (c : LastD H D lks l la) (nd : lks.Nodup) (lt : ∀ x ∈ lks, x < 6) {v : Nat} (hv : v < 6) (p : Addr) (e : Stp) : ∃ H', DPut H D (.str (lt1 v)) (.ref p) H' ∧ H' = upd H D (.dK (tabV lt1 (if v ∈ lks then lks else lks ++ [v]) fun x => .ref (if x = v then p else la x))) ∧ LastD H' D (if v ∈ lks then lks else lks ++ [v]) (fun x => if x = v then some e else l x) (fun x => if x = v then p else la x) := by
  have z := DPut.k (k := Sum.inr (lt1 v)) (v := .ref p) c.1 (by rw [tabV_len]; exact szlt (by have := c.2.2; omega))
  rw [tabV_put (fun _ _ => lt1_inj)] at z
  have e : (tabV lt1 (if v ∈ lks then lks else lks ++ [v]) fun j => if j = v then V.ref p else V.ref (la j)) = tabV lt1 (if v ∈ lks then lks else lks ++ [v]) fun x => .ref (if x = v then p else la x) := tabV_congr fun x _ => by
    by_cases q : x = v
    · rw [if_pos q, if_pos q]
    · rw [if_neg q, if_neg q]
  rw [e] at z
  refine ⟨_, z, rfl, upd_same, fun x => ?_, nodup_len6 (nodup_keys nd lt hv).1 (nodup_keys nd lt hv).2⟩
  rw [mem_keys, c.2.1 x]
  dsimp only
  by_cases q : x = v
  · rw [if_pos q]
    exact ⟨fun _ => nofun, fun _ => .inr q⟩
  · rw [if_neg q]
    exact ⟨fun y => y.elim id fun y => absurd y q, .inl⟩
/-- the state of the laps: costs, last steps, all in range -/
def fld2 (c : Stp → Int) (t : List Stp) (hl : Cs × Ls) : Cs × Ls := t.foldl (fun hl e => (rx c hl.1 e, rl c hl.1 hl.2 e)) hl
theorem fld2_1 (c : Stp → Int) : ∀ (t : List Stp) (hl : Cs × Ls), (fld2 c t hl).1 = lap c t hl.1
  | [], _ => rfl
  | e :: t, hl => fld2_1 c t (rx c hl.1 e, rl c hl.1 hl.2 e)
def itl (c : Stp → Int) (E : List Stp) (hl : Cs × Ls) : Nat → Cs × Ls
  | 0 => hl
  | k + 1 => fld2 c E (itl c E hl k)
theorem itl_1 (c : Stp → Int) (E : List Stp) (hl : Cs × Ls) : ∀ k, (itl c E hl k).1 = it c E hl.1 k
  | 0 => rfl
  | k + 1 => by
    show (fld2 c E (itl c E hl k)).1 = lap c E (it c E hl.1 k)
    rw [fld2_1, itl_1 c E hl k]
def l00 (gs : List Nat) : Cs × Ls := (fun v => if v ∈ gs then some 0 else none, fun _ => none)
structure CL (H J : Hp) (C D : Addr) (zs : List (Addr × Stp)) (gs : List Nat) (h : Cs) (lt : Ls) : Prop where
  s : Same H J
  x : ∃ cks lks l la, CostD J C cks h ∧ cks.Nodup ∧ (∀ v ∈ cks, v < 6) ∧ LastD J D lks l la ∧ lks.Nodup ∧ (∀ v ∈ lks, v < 6) ∧ LaOk zs l la ∧ LI cA (zs.map Prod.snd) (fun v => v ∈ gs) h l ∧ l = lt
def h0 (gs : List Nat) : Cs := fun v => if v ∈ gs then some 0 else none
section
variable {P : Program} {w : World} {K : PySem.W.Frag} {mg : Str → Option Value} {base : Heap} {f : Addr} {fd : FuncData}
def spCheap : Sp := fun vs H Q _ => ∃ (S G : Addr) (zs : List (Addr × Stp)) (gs : List Nat), vs = [.ref S, .ref G] ∧ StZ H S zs ∧ H G = some (.lst (gs.map fun v => V.str (lt1 v))) ∧ gs.Nodup ∧ (∀ v ∈ gs, v < 6) ∧ (∀ z ∈ zs, su z.2 < 6 ∧ sv z.2 < 6 ∧ su z.2 ≠ sv z.2) ∧ zs.length ≤ 100 ∧
  ∀ t C D H', H' t = some (.tup [.ref C, .ref D]) → CL H H' C D zs gs (it cA (zs.map Prod.snd) (h0 gs) 6) (itl cA (zs.map Prod.snd) (l00 gs) 6).2 → Q (.ref t) H'
theorem ok_cheapest_ways (F : FnP K "cheapest_ways" s_cheapest_ways f fd) (tok_PARTIES : Tok) (g_PARTIES : mg "PARTIES" = some (.str "abcdef" tok_PARTIES)) : FnOk P w K mg base CX0 1 f fd P_cheapest_ways spCheap := by
  refine F.ok sc_cheapest_ways (fun vs H Q E h => ?_) (fun cdv A outer s H vs Q E hr h => ?_)
  · obtain ⟨S, G, zs, gs, rfl, _⟩ := h
    rfl
  · obtain ⟨S, G, zs, gs, rfl, hz, hG, ndg, lg, rz, lz, q⟩ := h
    refine ⟨_, PSs.nox (pss_cons (ps_setDc (i := 3) (own := [("party", 2)]) (g := (gName 2)) (tt := tYes) (by rfl) sc_cheapest_ways.nd rfl rfl (sw_trueD rfl rfl rfl (by decide +kernel)) (pi_list (pv 1)) (blkOk_by (own := [("party", 2)]) (N := N_cheapest_ways) (sc := defScope s_cheapest_ways) (by decide +kernel)) (fun _ _ _ _ _ => (pg_name (i := 2) sc_cheapest_ways.nd rfl (by first | exact .inl rfl | exact .inr rfl))) (fun _ _ _ _ _ => pts_nil) (fun _ _ _ _ _ => (pv 2)) (fun _ _ _ _ _ => pe_int))
      (pss_cons (ps_set (i := 4) sc_cheapest_ways.nd rfl (by first | exact .inl rfl | exact .inr rfl) pe_dnewK)
      (pss_cons (ps_for PassesOwn.never rfl (pi_str (pe_glob (by rfl) g_PARTIES (relv_str (x := "abcdef")))) (pg_name (i := 5) sc_cheapest_ways.nd rfl (by first | exact .inl rfl | exact .inr rfl))
        (pss_one (ps_for PassesOwn.never rfl (pi_list (pv 0)) (pg_name (i := 6) sc_cheapest_ways.nd rfl (by first | exact .inl rfl | exact .inr rfl))
        (pss_cons (ps_asg (pe_slice sl_tup (pv 6) po_none (po_some pe_int)) (pg_tup rfl (pgs_cons (pg_name (i := 7) sc_cheapest_ways.nd rfl (by first | exact .inl rfl | exact .inr rfl)) (pgs_cons (pg_name (i := 8) sc_cheapest_ways.nd rfl (by first | exact .inl rfl | exact .inr rfl)) (pgs_cons (pg_name (i := 9) sc_cheapest_ways.nd rfl (by first | exact .inl rfl | exact .inr rfl)) pgs_nil)))))
      (pss_one (ps_if (PW.pt (pw_and (pt_cmp (pc_din (hu_of hr) (pv 7) (pv 3)) (by rfl)) (pw_and1 (PW.pt (pw_or (pt_cmp (pc_dnotin (hu_of hr) (pv 8) (pv 3)) (by rfl)) (pw_or1 (pt_cmpR op_lt (pe_op op_add (pe_dget (hu_of hr) (pv 3) (pv 7) (fun _ _ => rfl)) (pv 9)) (pe_dget (hu_of hr) (pv 3) (pv 8) (fun _ _ => rfl)) (nomark _)))))))) (pss_cons (ps_dput (hu_of hr) (pv 3) (pv 8) (pe_op op_add (pe_dget (hu_of hr) (pv 3) (pv 7) (fun _ _ => rfl)) (pv 9)) rfl)
      (pss_one (ps_dput (hu_of hr) (pv 4) (pv 8) (pv 6) rfl))) pss_nil))))))
      (pss_one (ps_ret (pe_tup (pa_cons (pv 3) (pa_cons (pv 4) pa_nil)))))))), ?_⟩
    have abc : ∀ i, i < 6 → (Str.ofString "abcdef").cps[i]? = some (97 + i) := by decide +kernel
    have sz : (Str.ofString "abcdef").cps.size = 6 := by decide +kernel
    have lgs := nodup_len6 ndg lg
    walk_at "go"
    refine ⟨⟨_, SqL.of hG⟩, fun C nC => ?_⟩
    refine dc_gen (n := gs.length) (fun i J => Same H J ∧ J C = some (.dK (tab lt1 (gs.take i) fun _ => 0))) ⟨same_new nC, upd_same⟩ ?_ ?_ ?_ ?_
    · rintro i J hi ⟨s1, _⟩
      exact ⟨_, .str (lt1 gs[i]), s1.seq (SqL.of hG), by rw [List.getElem?_map, List.getElem?_eq_getElem hi]; rfl⟩
    · rintro J ⟨s1, _⟩
      exact ⟨_, s1.seq (SqL.of hG), by rw [List.length_map]; exact Nat.le_refl _⟩
    · rintro i J x J' hi ⟨s1, eC⟩ ⟨rfl, hx⟩
      have hx := hx _ (s1.seq (SqL.of hG))
      rw [List.getElem?_map, List.getElem?_eq_getElem hi] at hx
      cases hx
      have tk : gs.take (i + 1) = gs.take i ++ [gs[i]] := by
        rw [List.take_succ, List.getElem?_eq_getElem hi]
        rfl
      have nin : gs[i] ∉ gs.take i := fun z => by
        obtain ⟨j, hj, ej⟩ := List.getElem_of_mem z
        rw [List.length_take] at hj
        rw [List.getElem_take] at ej
        have := (List.getElem_inj ndg).mp ej
        omega
      generalize gs[i] = v at tk nin
      walk_at "go"
      refine ⟨_, Sum.inr (lt1 v), rfl, eC, by rw [tab_len, List.length_take]; exact szlt (by omega), Z.Same.mut s1 nC, ?_⟩
      rw [upd_same, tab_put (fun _ _ => lt1_inj), if_neg nin, tk]
      refine congrArg _ (congrArg _ (tab_congr fun j _ => ?_))
      split <;> rfl
    rintro J ⟨s1, eC⟩
    rw [List.take_length] at eC
    walk_at "go"
    intro D nD
    have CD : C ≠ D := fun e => by rw [← e, eC] at nD; cases nD
    have nDH := none_of s1 nD
    have nCH : H C = none := nC
    have cl0 : CL H (upd J D (.dK [])) C D zs gs (h0 gs) (fun _ => none) := by
      refine ⟨Z.Same.mut s1 nDH, gs, [], fun _ => none, fun _ => C, ⟨?_, fun v => ?_, lgs⟩, ndg, lg, ⟨upd_same, fun v => ⟨fun h => absurd h (by simp), fun h => absurd rfl h⟩, Nat.zero_le _⟩, List.nodup_nil, fun v h => absurd h (by simp), fun v e h => (by cases h), ⟨fun v e h => (by cases h), fun v b h _ => ?_⟩, rfl⟩
      · rw [upd_ne CD, eC]
        refine congrArg _ (congrArg _ (tab_congr fun v hv => ?_))
        unfold h0
        rw [if_pos hv]
        rfl
      · unfold h0
        by_cases m : v ∈ gs
        · rw [if_pos m]
          exact ⟨fun _ => nofun, fun _ => m⟩
        · rw [if_neg m]
          exact ⟨fun h => absurd h m, fun h => absurd rfl h⟩
      · unfold h0 at h
        by_cases m : v ∈ gs
        · rw [if_pos m] at h
          cases h
          exact ⟨m, rfl⟩
        · rw [if_neg m] at h
          cases h
    generalize upd J D (.dK []) = J0 at cl0
    dsimp only [List.set]
    walk_at "go"
    refine for_gen (n := 6) (fun i σ J => CL H J C D zs gs (it cA (zs.map Prod.snd) (h0 gs) i) (itl cA (zs.map Prod.snd) (l00 gs) i).2 ∧ ∃ v2 v5 v6 v7 v8 v9, σ = [some (.ref S), some (.ref G), v2, some (.ref C), some (.ref D), v5, v6, v7, v8, v9]) ⟨cl0, _, _, _, _, _, _, rfl⟩ ?_ ?_ ?_ ?_
    · rintro i σ J hi _
      show i < (Str.ofString "abcdef").cps.size
      omega
    · rintro σ J _
      show (Str.ofString "abcdef").cps.size ≤ 6
      omega
    rotate_left
    · rintro σ J ⟨cl, v2, v5, v6, v7, v8, v9, rfl⟩
      walk_at "go"
      intro t nt
      have st := same_new (o := .tup [.ref C, .ref D]) nt
      refine q t C D _ upd_same ⟨cl.s.trans st, ?_⟩
      obtain ⟨cks, lks, l, la, c1, c2, c3, c4, c5, c6, c7, c8, c9⟩ := cl.x
      exact ⟨cks, lks, l, la, ⟨st _ _ c1.1, c1.2⟩, c2, c3, ⟨st _ _ c4.1, c4.2⟩, c5, c6, c7, c8, c9⟩
    rintro i σ J x J' hi ⟨cl, v2, v5, v6, v7, v8, v9, rfl⟩ ⟨rfl, c, ec, rfl⟩
    walk_at "go"
    refine ⟨⟨_, SqL.of (cl.s _ _ hz.sq)⟩, ?_⟩
    refine for_gen (n := zs.length) (fun j σ J => CL H J C D zs gs (lap cA ((zs.map Prod.snd).take j) (it cA (zs.map Prod.snd) (h0 gs) i)) (fld2 cA ((zs.map Prod.snd).take j) (itl cA (zs.map Prod.snd) (l00 gs) i)).2 ∧ ∃ v2 v5 v6 v7 v8 v9, σ = [some (.ref S), some (.ref G), v2, some (.ref C), some (.ref D), v5, v6, v7, v8, v9]) ⟨cl, _, _, _, _, _, _, rfl⟩ ?_ ?_ ?_ ?_
    · rintro j σ J1 hj ⟨cl, _⟩
      exact ⟨_, .ref zs[j].1, SqL.of (cl.s _ _ hz.sq), by rw [List.getElem?_map, List.getElem?_eq_getElem hj]; rfl⟩
    · rintro σ J1 ⟨cl, _⟩
      exact ⟨_, SqL.of (cl.s _ _ hz.sq), by rw [List.length_map]; exact Nat.le_refl _⟩
    rotate_left
    · rintro σ J1 ⟨cl, v2, v5, v6, v7, v8, v9, rfl⟩
      rw [List.take_of_length_le (by rw [List.length_map]; exact Nat.le_refl _)] at cl
      exact ⟨cl, _, _, _, _, _, _, rfl⟩
    rintro j σ J1 x J2 hj ⟨cl, v2, v5, v6, v7, v8, v9, rfl⟩ ⟨rfl, hx⟩
    have hx := hx _ (SqL.of (cl.s _ _ hz.sq))
    rw [List.getElem?_map, List.getElem?_eq_getElem hj] at hx
    cases hx
    have zm := List.getElem_mem hj
    have tk : lap cA ((zs.map Prod.snd).take (j + 1)) (it cA (zs.map Prod.snd) (h0 gs) i) = rx cA (lap cA ((zs.map Prod.snd).take j) (it cA (zs.map Prod.snd) (h0 gs) i)) zs[j].2 := by
      rw [List.take_succ, List.getElem?_map, List.getElem?_eq_getElem hj]
      unfold lap
      rw [List.foldl_append]
      rfl
    have tk2 : (fld2 cA ((zs.map Prod.snd).take (j + 1)) (itl cA (zs.map Prod.snd) (l00 gs) i)).2 = rl cA (lap cA ((zs.map Prod.snd).take j) (it cA (zs.map Prod.snd) (h0 gs) i)) (fld2 cA ((zs.map Prod.snd).take j) (itl cA (zs.map Prod.snd) (l00 gs) i)).2 zs[j].2 := by
      have e1 : (fld2 cA ((zs.map Prod.snd).take j) (itl cA (zs.map Prod.snd) (l00 gs) i)).1 = lap cA ((zs.map Prod.snd).take j) (it cA (zs.map Prod.snd) (h0 gs) i) := by
        rw [fld2_1, itl_1]
        rfl
      rw [← e1, List.take_succ, List.getElem?_map, List.getElem?_eq_getElem hj]
      unfold fld2
      rw [List.foldl_append]
      rfl
    rw [tk, tk2]
    generalize lap cA ((zs.map Prod.snd).take j) (it cA (zs.map Prod.snd) (h0 gs) i) = h at cl
    generalize (fld2 cA ((zs.map Prod.snd).take j) (itl cA (zs.map Prod.snd) (l00 gs) i)).2 = lt at cl
    obtain ⟨r1, r2, r3⟩ := rz _ zm
    have eT := cl.s _ _ (hz.at_ _ zm)
    have me : zs[j].2 ∈ zs.map Prod.snd := List.mem_map.mpr ⟨_, zm, rfl⟩
    generalize zs[j] = z at zm r1 r2 r3 eT me
    obtain ⟨p, e⟩ := z
    dsimp only at r1 r2 r3 eT me
    walk_at "go"
    refine ⟨p, _, rfl, SqT.of eT, fun y => absurd (show (4 - 1 : Nat) = 4 from y.2) (by decide), fun T nT => ?_⟩
    have ec : cutV (stV e) none (some 3) = [.str (lt1 (su e)), .str (lt1 (sv e)), .int (cA e)] := rfl
    rw [ec]
    have sT := same_new (o := .tup [.str (lt1 (su e)), .str (lt1 (sv e)), .int (cA e)]) nT
    have eT2 : (upd J2 T (.tup [.str (lt1 (su e)), .str (lt1 (sv e)), .int (cA e)])) T = some (.tup [.str (lt1 (su e)), .str (lt1 (sv e)), .int (cA e)]) := upd_same
    have s3 := cl.s.trans sT
    obtain ⟨cks, lks, l, la, k1, k2, k3, k4, k5, k6, k7, k8, k9⟩ := cl.x
    subst k9
    have k1' : CostD (upd J2 T (.tup [.str (lt1 (su e)), .str (lt1 (sv e)), .int (cA e)])) C cks h := ⟨sT _ _ k1.1, k1.2⟩
    have k4' : LastD (upd J2 T (.tup [.str (lt1 (su e)), .str (lt1 (sv e)), .int (cA e)])) D lks l la := ⟨sT _ _ k4.1, k4.2⟩
    clear cl k1 k4
    generalize upd J2 T (.tup [.str (lt1 (su e)), .str (lt1 (sv e)), .int (cA e)]) = J3 at s3 eT2 k1' k4'
    refine ⟨T, _, rfl, SqT.of eT2, rfl, _, _, rfl, _, _, rfl, _, _, rfl, rfl, ?_⟩
    walk_at "go"
    have li := rl_li me r3 k8
    have gu := k1'.get (su e)
    refine ⟨C, _, rfl, gu, ?_⟩
    cases hu : h (su e) with
    | none =>
      rw [show rx cA h e = h by unfold rx; rw [hu], show rl cA h l e = l by unfold rl; rw [hu]]
      walk_at "go"
      exact ⟨⟨s3, cks, lks, l, la, k1', k2, k3, k4', k5, k6, k7, k8, rfl⟩, _, _, _, _, _, _, rfl⟩
    | some a =>
      walk_at "go"
      refine ⟨C, _, rfl, k1'.get (sv e), ?_⟩
      cases hv : h (sv e) with
      | none =>
        have bt : better h (sv e) (a + cA e) = true := by unfold better; rw [hv]
        walk_at "go"
        refine ⟨C, _, rfl, k1'.val hu, ?_⟩
        walk_at "go"
        obtain ⟨H4, dp, eH4, k1''⟩ := k1'.put k2 k3 r2 (a + cA e)
        refine ⟨C, H4, rfl, dp, ?_⟩
        have k4'' : LastD H4 D lks l la := ⟨by rw [eH4, upd_ne CD.symm]; exact k4'.1, k4'.2⟩
        walk_at "go"
        obtain ⟨H5, dp2, eH5, k5''⟩ := k4''.put k5 k6 r2 p e
        refine ⟨D, H5, rfl, dp2, ?_⟩
        have s5 : Same H H5 := by
          rw [eH5, eH4]
          exact Z.Same.mut (Z.Same.mut s3 nCH) nDH
        have er : rx cA h e = fun x => if x = sv e then some (a + cA e) else h x := by unfold rx; rw [hu]; dsimp only; rw [if_pos bt]
        have el : rl cA h l e = fun x => if x = sv e then some e else l x := by unfold rl; rw [hu]; dsimp only; rw [if_pos bt]
        rw [er, el] at li
        refine ⟨⟨s5, _, _, _, _, ?_, (nodup_keys k2 k3 r2).1, (nodup_keys k2 k3 r2).2, k5'', (nodup_keys k5 k6 r2).1, (nodup_keys k5 k6 r2).2, fun v f hf => ?_, ?_, ?_⟩, _, _, _, _, _, _, rfl⟩
        · show CostD H5 C _ (rx cA h e)
          rw [er]
          exact ⟨by rw [eH5, upd_ne CD]; exact k1''.1, k1''.2⟩
        · dsimp only at hf ⊢
          by_cases q : v = sv e
          · rw [if_pos q] at hf
            cases hf
            rw [if_pos q]
            exact zm
          · rw [if_neg q] at hf ⊢
            exact k7 v f hf
        · show LI cA _ _ (rx cA h e) _
          rw [er]
          exact li
        · exact el.symm
      | some b =>
        walk_at "go"
        refine ⟨C, _, rfl, k1'.val hu, ?_⟩
        walk_at "go"
        refine ⟨C, _, rfl, k1'.val hv, ?_⟩
        walk_at "go"
        refine ite2 (fun lt => ?_) (fun lt => ?_)
        · have bt : better h (sv e) (a + cA e) = true := by unfold better; rw [hv]; exact lt
          walk_at "go"
          refine ⟨C, _, rfl, k1'.val hu, ?_⟩
          walk_at "go"
          obtain ⟨H4, dp, eH4, k1''⟩ := k1'.put k2 k3 r2 (a + cA e)
          refine ⟨C, H4, rfl, dp, ?_⟩
          have k4'' : LastD H4 D lks l la := ⟨by rw [eH4, upd_ne CD.symm]; exact k4'.1, k4'.2⟩
          walk_at "go"
          obtain ⟨H5, dp2, eH5, k5''⟩ := k4''.put k5 k6 r2 p e
          refine ⟨D, H5, rfl, dp2, ?_⟩
          have s5 : Same H H5 := by
            rw [eH5, eH4]
            exact Z.Same.mut (Z.Same.mut s3 nCH) nDH
          have er : rx cA h e = fun x => if x = sv e then some (a + cA e) else h x := by unfold rx; rw [hu]; dsimp only; rw [if_pos bt]
          have el : rl cA h l e = fun x => if x = sv e then some e else l x := by unfold rl; rw [hu]; dsimp only; rw [if_pos bt]
          rw [er, el] at li
          refine ⟨⟨s5, _, _, _, _, ?_, (nodup_keys k2 k3 r2).1, (nodup_keys k2 k3 r2).2, k5'', (nodup_keys k5 k6 r2).1, (nodup_keys k5 k6 r2).2, fun v f hf => ?_, ?_, ?_⟩, _, _, _, _, _, _, rfl⟩
          · show CostD H5 C _ (rx cA h e)
            rw [er]
            exact ⟨by rw [eH5, upd_ne CD]; exact k1''.1, k1''.2⟩
          · dsimp only at hf ⊢
            by_cases q : v = sv e
            · rw [if_pos q] at hf
              cases hf
              rw [if_pos q]
              exact zm
            · rw [if_neg q] at hf ⊢
              exact k7 v f hf
          · show LI cA _ _ (rx cA h e) _
            rw [er]
            exact li
          · exact el.symm
        · have er : rx cA h e = h := by
            unfold rx
            rw [hu]
            dsimp only
            rw [if_neg (by unfold better; rw [hv]; exact lt)]
          have el : rl cA h l e = l := by
            unfold rl
            rw [hu]
            dsimp only
            rw [if_neg (by unfold better; rw [hv]; exact lt)]
          rw [show rx cA h (p, e).2 = h from er, show rl cA h l (p, e).2 = l from el]
          exact ⟨⟨s3, cks, lks, l, la, k1', k2, k3, k4', k5, k6, k7, k8, rfl⟩, _, _, _, _, _, _, rfl⟩
end
end Z
set_option pp.maxSteps 700
set_option Elab.async false
set_option linter.all false
set_option maxRecDepth 100000
set_option maxHeartbeats 4000000
open SX (S S_inj S_len S_cat)
namespace Z
open SO
open PySem PySem.Spec PyProof.Rows L2
open C8 (pss_cut tCut)
local macro_rules | `(tactic| walk_at "num") => `(tactic| first | rfl | omega | decide | exact Nat.le_of_lt (small1000 (by simp)) | exact ⟨by omega, by omega⟩ | exact ⟨by omega, by omega, by omega⟩ | exact ⟨by decide, by decide, by decide⟩ | exact Or.inl ⟨by omega, by omega⟩ | exact Or.inr ⟨by omega, by omega⟩)
local macro_rules | `(tactic| walk_at "go") => `(tactic| repeat (first | refine ⟨_, rfl, ?_⟩ | refine ⟨_, _, rfl, rfl, ?_⟩ | refine ⟨_, _, rfl, ?_⟩ | (refine ⟨_, _, rfl, rfl, ?_, ?_⟩; focus walk_at "num") | refine Or.inl ⟨_, rfl, ?_⟩ | refine ⟨_, _, _, _, rfl, rfl, (by assumption), (by rfl), ?_⟩ | refine ⟨_, _, _, _, _, rfl, (by assumption), (by assumption), (by assumption), (by rfl), ?_⟩ | refine ⟨rfl, ?_⟩ | (refine And.intro ?_ ?_; focus walk_at "num")))
abbrev s_way_to : Stmt := topS 17
abbrev N_way_to : List Str := ["last", "party", "way"]
abbrev P_way_to : List Str := ["last", "party"]
theorem sc_way_to : FnScope N_way_to P_way_to (defScope s_way_to) := ⟨rfl, rfl, rfl, by decide +kernel, rfl, by decide +kernel, by decide +kernel⟩
abbrev s_room_for : Stmt := topS 18
abbrev N_room_for : List Str := ["debts", "rest", "step", "pair"]
abbrev P_room_for : List Str := ["debts", "rest", "step"]
theorem sc_room_for : FnScope N_room_for P_room_for (defScope s_room_for) := ⟨rfl, rfl, rfl, by decide +kernel, rfl, by decide +kernel, by decide +kernel⟩
section
variable {P : Program} {w : World} {K : PySem.W.Frag} {mg : Str → Option Value} {base : Heap} {f : Addr} {fd : FuncData}
def spWay : Sp := fun vs H Q _ => ∃ (D : Addr) (v x : Nat) (wy : List Stp) (lks : List Nat) (l : Ls) (la : Nat → Addr) (zs : List (Addr × Stp)), vs = [.ref D, .str (lt1 v)] ∧ LastD H D lks l la ∧ LaOk zs l la ∧ (∀ z ∈ zs, H z.1 = some (.tup (stV z.2))) ∧ Pre l v wy x ∧ l x = none ∧ wy.length ≤ 100 ∧ ∀ L ws H', Same H H' → StZ H' L ws → ws.map Prod.snd = wy → Q (.ref L) H'
theorem ok_way_to (F : FnP K "way_to" s_way_to f fd) : FnOk P w K mg base CX0 1 f fd P_way_to spWay := by
  refine F.ok sc_way_to (fun vs H Q E h => ?_) (fun cdv A outer s H vs Q E hr h => ?_)
  · obtain ⟨D, v, x, wy, lks, l, la, zs, rfl, _⟩ := h
    rfl
  · obtain ⟨D, v, x, wy, lks, l, la, zs, rfl, hD, hla, hz, pr, lx, lw, q⟩ := h
    refine ⟨_, PSs.nox (pss_cons (ps_set (i := 2) sc_way_to.nd rfl (by first | exact .inl rfl | exact .inr rfl) (pe_lst pa_nil))
      (pss_cons (ps_while PassesOwn.never (pt_cmp (pc_din (hu_of hr) (pv 1) (pv 0)) (by rfl))
        (pss_cons (ps_expr (pe_bm PySem.F.plainAttrs_list PySem.F.slot_list_append PySem.F.type_list_append mt_append (pv 2) (pa_cons (pe_dget (hu_of hr) (pv 0) (pv 1) (fun _ _ => rfl)) pa_nil)))
      (pss_one (ps_set (i := 1) sc_way_to.nd rfl (by first | exact .inl rfl | exact .inr rfl) (pe_ix ix_tup (pe_dget (hu_of hr) (pv 0) (pv 1) (fun _ _ => rfl)) pe_int (fun _ _ => rfl))))))
      (pss_one (ps_ret (pv 2))))), ?_⟩
    walk_at "go"
    intro L nL
    have s1 := same_new (o := .lst []) nL
    have eL : (upd H L (.lst [])) L = some (.lst []) := upd_same
    generalize upd H L (.lst []) = H1 at s1 eL
    walk_at "go"
    refine ⟨fun m σ J => ∃ (v : Nat) (ws : List (Addr × Stp)) (wr : List Stp), Same H J ∧ StZ J L ws ∧ ws.map Prod.snd ++ wr = wy ∧ Pre l v wr x ∧ m = wr.length ∧ σ = [some (.ref D), some (.str (lt1 v)), some (.ref L)], ?_, ?_⟩
    · exact ⟨_, v, [], wy, s1, ⟨eL, fun z h => absurd h (by simp)⟩, rfl, pr, rfl, rfl⟩
    · rintro m σ J ⟨v, ws, wr, s2, hw, ew, p, rfl, rfl⟩
      have hD2 : LastD J D lks l la := ⟨s2 _ _ hD.1, hD.2⟩
      walk_at "go"
      refine ⟨D, _, rfl, hD2.get v, ?_⟩
      cases p with
      | nil =>
        rw [lx]
        walk_at "go"
        rw [List.append_nil] at ew
        exact q L ws J s2 hw ew
      | cons h1 h2 =>
        rename_i e wr
        have gv := hD2.get v
        rw [h1] at gv ⊢
        have lws : ws.length ≤ 100 := by
          have := congrArg List.length ew
          rw [List.length_append, List.length_map] at this
          omega
        walk_at "go"
        have eq1 := hz _ (hla v e h1)
        refine ⟨fun σ J' => ∃ (v : Nat) (ws' : List (Addr × Stp)), Same H J' ∧ StZ J' L ws' ∧ ws'.map Prod.snd ++ wr = wy ∧ Pre l v wr x ∧ σ = [some (.ref D), some (.str (lt1 v)), some (.ref L)], ?_, ?_⟩
        · rintro σ' J' ⟨v', ws', a1, a2, a3, a4, rfl⟩
          exact ⟨wr.length, by simp, v', ws', wr, a1, a2, a3, a4, rfl, rfl⟩
        walk_at "go"
        refine ⟨.inl ⟨rfl, _, SqL.of hw.sq⟩, ?_⟩
        walk_at "go"
        refine ⟨D, _, rfl, gv, ?_⟩
        walk_at "go"
        refine ⟨_, _, _, rfl, rfl, hw.sq, by rw [List.length_map]; exact szlt (by omega), ?_⟩
        have nLH : H L = none := nL
        have s3 : Same H (upd J L (.lst (ws.map (fun z => V.ref z.1) ++ [.ref (la v)]))) := Z.Same.mut s2 nLH
        have hw3 : StZ (upd J L (.lst (ws.map (fun z => V.ref z.1) ++ [.ref (la v)]))) L (ws ++ [(la v, e)]) := by
          refine ⟨by rw [upd_same, List.map_append]; rfl, fun z hz' => ?_⟩
          have h : J z.1 = some (.tup (stV z.2)) := by
            rcases List.mem_append.mp hz' with h | h
            · exact hw.at_ z h
            · rw [List.mem_singleton.mp h]
              exact s2 _ _ eq1
          rw [upd_ne (fun q => by rw [q, hw.sq] at h; cases h)]
          exact h
        generalize upd J L (.lst (ws.map (fun z => V.ref z.1) ++ [.ref (la v)])) = J3 at s3 hw3
        have hD3 : LastD J3 D lks l la := ⟨s3 _ _ hD.1, hD.2⟩
        have gv3 := hD3.get v
        rw [h1] at gv3
        walk_at "go"
        refine ⟨D, _, rfl, gv3, ?_⟩
        walk_at "go"
        refine ⟨la v, _, _, _, rfl, rfl, SqT.of (s3 _ _ eq1), atI_nat (j := 0) rfl, ?_⟩
        exact ⟨su e, _, s3, hw3, by rw [List.map_append, List.append_assoc]; exact ew, h2, rfl⟩
def spRoom : Sp := fun vs H Q _ => ∃ (d R t : Addr) (ks : List Nat) (g r : Nat → Int) (e : Stp), vs = [.ref d, .ref R, .ref t] ∧ H d = some (.dK (tab ky ks g)) ∧ H R = some (.dK (tab ky ks r)) ∧ H t = some (.tup (stV e)) ∧ e.1 ∈ ks ∧ Q (.int (room g r e)) H
theorem ok_room_for (F : FnP K "room_for" s_room_for f fd) (tok_ALONG : Tok) (g_ALONG : mg "ALONG" = some (.int 101 tok_ALONG)) : FnOk P w K mg base CX0 1 f fd P_room_for spRoom := by
  refine F.ok sc_room_for (fun vs H Q E h => ?_) (fun cdv A outer s H vs Q E hr h => ?_)
  · obtain ⟨d, R, t, ks, g, r, e, rfl, _⟩ := h
    rfl
  · obtain ⟨d, R, t, ks, g, r, e, rfl, hd, hR, ht, hm, q⟩ := h
    refine ⟨_, PSs.nox (pss_cons (ps_set (i := 3) sc_room_for.nd rfl (by first | exact .inl rfl | exact .inr rfl) (pe_ix ix_tup (pv 2) pe_int (fun _ _ => rfl)))
      (pss_one (ps_ret (pe_ifExp (pt_cmpR op_eq (pe_ix ix_tup (pv 2) pe_int (fun _ _ => rfl)) (pe_glob (v := .int 101) (by rfl) g_ALONG ⟨_, rfl⟩) (nomark _)) (pe_op op_sub (pe_dget (hu_of hr) (pv 0) (pv 3) (fun _ _ => rfl)) (pe_dget (hu_of hr) (pv 1) (pv 3) (fun _ _ => rfl))) (pe_dget (hu_of hr) (pv 1) (pv 3) (fun _ _ => rfl)))))), ?_⟩
    walk_at "go"
    refine ⟨t, _, _, _, rfl, rfl, SqT.of ht, (atI_nat (j := 3) rfl : atI (stV e) 3 = _), ?_⟩
    walk_at "go"
    refine ⟨t, _, _, _, rfl, rfl, SqT.of ht, (atI_nat (j := 2) rfl : atI (stV e) 2 = _), ?_⟩
    walk_at "go"
    obtain ⟨k, b⟩ := e
    cases b
    · rw [show decide (V.int (cA (k, false)) = V.int 101) = false from rfl]
      walk_at "go"
      refine ⟨R, _, rfl, tab_get (fun _ _ => ky_inj) hR hm, ?_⟩
      exact q
    · rw [show decide (V.int (cA (k, true)) = V.int 101) = true from rfl]
      walk_at "go"
      refine ⟨d, _, rfl, tab_get (fun _ _ => ky_inj) hd hm, ?_⟩
      walk_at "go"
      refine ⟨R, _, rfl, tab_get (fun _ _ => ky_inj) hR hm, ?_⟩
      walk_at "go"
      exact q
end
end Z
set_option Elab.async false
set_option linter.all false
set_option maxRecDepth 100000
set_option maxHeartbeats 4000000
namespace Z
open PySem PySem.Spec PyProof.Rows L2 SO
/-! ### the way of least_rest is determined -/
def gsOf (W : Nat → Int) : List Nat := (List.range 6).filter fun k => decide (W k < 0)
def hOf (ks : List Nat) (g r W : Nat → Int) : Cs := it cA (steps g r ks) (h0 (gsOf W)) 6
def lOf (ks : List Nat) (g r W : Nat → Int) : Ls := (itl cA (steps g r ks) (l00 (gsOf W)) 6).2
def cand (W : Nat → Int) (h : Cs) : Nat → List (Int × Str)
  | 0 => []
  | k + 1 => cand W h k ++ (if 0 < W k then (match h k with | some b => [(b, lt1 k)] | none => []) else [])
theorem cand_some {W : Nat → Int} {h : Cs} {k : Nat} {b : Int} (e : h k = some b) (w : 0 < W k) : cand W h (k + 1) = cand W h k ++ [(b, lt1 k)] := by
  show cand W h k ++ (if 0 < W k then (match h k with | some b => [(b, lt1 k)] | none => []) else []) = _
  rw [if_pos w, e]
theorem cand_none {W : Nat → Int} {h : Cs} {k : Nat} (e : h k = none) : cand W h (k + 1) = cand W h k := by
  show cand W h k ++ (if 0 < W k then (match h k with | some b => [(b, lt1 k)] | none => []) else []) = _
  rw [e]
  split <;> exact List.append_nil _
theorem cand_neg {W : Nat → Int} {h : Cs} {k : Nat} (w : ¬ 0 < W k) : cand W h (k + 1) = cand W h k := by
  show cand W h k ++ (if 0 < W k then (match h k with | some b => [(b, lt1 k)] | none => []) else []) = _
  rw [if_neg w]
  exact List.append_nil _
def One (ks : List Nat) (g r W r1 W1 : Nat → Int) : Prop := (∃ p, p < 6 ∧ 0 < W p) ∧ ∃ p b x w n, tDS (b, lt1 p) = minL ((cand W (hOf ks g r W) 6).map tDS) ∧ Pre (lOf ks g r W) p w x ∧ lOf ks g r W x = none ∧ (n ∈ [0 - W x, W p] ++ w.map (room g r) ∧ ∀ y ∈ [0 - W x, W p] ++ w.map (room g r), n ≤ y) ∧ r1 = aug n w r ∧ W1 = fun q => (W q + if x = q then n else 0) - if p = q then n else 0
theorem pre_unique {l : Ls} : ∀ {w w' : List Stp} {v x x' : Nat}, Pre l v w x → l x = none → Pre l v w' x' → l x' = none → w = w' ∧ x = x' := by
  intro w
  induction w with
  | nil =>
    intro w' v x x' a e b e'
    cases a
    cases b with
    | nil => exact ⟨rfl, rfl⟩
    | cons h _ => rw [e] at h; cases h
  | cons s w ih =>
    intro w' v x x' a e b e'
    cases a with
    | cons h a =>
      cases b with
      | nil => rw [e'] at h; cases h
      | cons h' b =>
        rw [h] at h'
        cases h'
        obtain ⟨rfl, rfl⟩ := ih a e b e'
        exact ⟨rfl, rfl⟩
theorem tDS_inj {a b : Int × Str} (h : tDS a = tDS b) : a = b := by
  unfold tDS at h
  injection h with h
  injection h with e1 e2
  injection e2 with e2 _
  injection e1 with e1
  injection e2 with e2
  exact Prod.ext e1 e2
theorem one_det {ks : List Nat} {g r W r1 W1 r2 W2 : Nat → Int} (a : One ks g r W r1 W1) (b : One ks g r W r2 W2) : r1 = r2 ∧ W1 = W2 := by
  obtain ⟨_, p, c, x, w, n, h1, h2, h3, ⟨h4, h5⟩, rfl, rfl⟩ := a
  obtain ⟨_, p', c', x', w', n', k1, k2, k3, ⟨k4, k5⟩, rfl, rfl⟩ := b
  have e := tDS_inj (h1.trans k1.symm)
  have ep : p = p' := lt1_inj (congrArg Prod.snd e)
  subst ep
  obtain ⟨rfl, rfl⟩ := pre_unique h2 h3 k2 k3
  have en : n = n' := Int.le_antisymm (h5 _ k4) (k5 _ h4)
  subst en
  exact ⟨rfl, rfl⟩
inductive Run (ks : List Nat) (g : Nat → Int) : (Nat → Int) → (Nat → Int) → (Nat → Int) → Prop
  | done {r W : Nat → Int} (h : ∀ p, p < 6 → W p ≤ 0) : Run ks g r W r
  | step {r W r1 W1 r2 : Nat → Int} : One ks g r W r1 W1 → Run ks g r1 W1 r2 → Run ks g r W r2
theorem run_det {ks : List Nat} {g r W a b : Nat → Int} (x : Run ks g r W a) (y : Run ks g r W b) : a = b := by
  induction x with
  | done h =>
    cases y with
    | done _ => rfl
    | step o _ =>
      obtain ⟨p, hp, w⟩ := o.1
      have := h p hp
      omega
  | step o _ ih =>
    cases y with
    | done h =>
      obtain ⟨p, hp, w⟩ := o.1
      have := h p hp
      omega
    | step o' y' =>
      obtain ⟨rfl, rfl⟩ := one_det o o'
      exact ih y'
end Z
set_option pp.maxSteps 700
set_option Elab.async false
set_option linter.all false
set_option maxRecDepth 100000
set_option maxHeartbeats 4000000
open SX (S S_inj S_len S_cat)
namespace Z
open SO
open PySem PySem.Spec PyProof.Rows L2
open C8 (pss_cut tCut)
local macro_rules | `(tactic| walk_at "num") => `(tactic| first | rfl | omega | decide | exact Nat.le_of_lt (small1000 (by simp)) | exact ⟨by omega, by omega⟩ | exact ⟨by omega, by omega, by omega⟩ | exact ⟨by decide, by decide, by decide⟩ | exact Or.inl ⟨by omega, by omega⟩ | exact Or.inr ⟨by omega, by omega⟩)
local macro_rules | `(tactic| walk_at "go") => `(tactic| repeat (first | refine ⟨_, rfl, ?_⟩ | refine ⟨_, _, rfl, rfl, ?_⟩ | refine ⟨_, _, rfl, ?_⟩ | (refine ⟨_, _, rfl, rfl, ?_, ?_⟩; focus walk_at "num") | refine Or.inl ⟨_, rfl, ?_⟩ | refine ⟨_, _, _, _, rfl, rfl, (by assumption), (by rfl), ?_⟩ | refine ⟨_, _, _, _, _, rfl, (by assumption), (by assumption), (by assumption), (by rfl), ?_⟩ | refine ⟨rfl, ?_⟩ | (refine And.intro ?_ ?_; focus walk_at "num")))
abbrev s_least_rest : Stmt := topS 19
abbrev N_least_rest : List Str := ["debts", "pair", "rest", "party", "coins", "wanted", "givers", "costs", "last", "taker", "way", "giver", "step"]
abbrev P_least_rest : List Str := ["debts"]
theorem sc_least_rest : FnScope N_least_rest P_least_rest (defScope s_least_rest) := ⟨rfl, rfl, rfl, by decide +kernel, rfl, by decide +kernel, by decide +kernel⟩
theorem at_last (xs : List V) (v : V) : atI (xs ++ [v]) (-1) = some v := by
  have e : ixN (xs ++ [v]).length (-1) = some xs.length := by
    unfold ixN
    rw [if_neg (by decide), List.length_append, List.length_singleton]
    first
      | (rw [if_pos (by omega)]; congr 1; omega)
      | simp
  unfold atI
  rw [e]
  show (xs ++ [v])[xs.length]? = some v
  rw [List.getElem?_append_right (Nat.le_refl _), Nat.sub_self]
  rfl
/-- a comprehension over the parties -/
theorem lc_abc {D : Addr} {H0 : Hp} {i : Nat} {tt : TT} {te : TE} {vs : List Nat} {σ : L2.St} {Qd : Hp → Prop} (kb : Nat → Bool) (g : Nat → V) (nD : H0 D = none)
    (hw : ∀ k, wipe ((wipe σ vs).set i (some (.str (lt1 k)))) vs = wipe σ vs)
    (hb : ∀ k H1 (Q : Bool → Hp → Prop), k < 6 → Same H0 H1 → Q (kb k) H1 → tt ((wipe σ vs).set i (some (.str (lt1 k)))) H1 Q)
    (ht : ∀ k H1 (Q : VK), k < 6 → kb k = true → Same H0 H1 → Q (g k) H1 → te ((wipe σ vs).set i (some (.str (lt1 k)))) H1 Q)
    (hd : ∀ H1, Same H0 H1 → H1 D = some (.lst (((List.range 6).filter kb).map g)) → Qd H1) : lcW (Its (Str.ofString "abcdef")) (gName i) tt te vs σ D Qd H0 := by
  have abc : ∀ i, i < 6 → (Str.ofString "abcdef").cps[i]? = some (97 + i) := by decide +kernel
  have sz : (Str.ofString "abcdef").cps.size = 6 := by decide +kernel
  refine lc_flt (n := 6) (fun k => .str (lt1 k)) kb g (by decide) nD (fun k H1 hk _ => by show k < (Str.ofString "abcdef").cps.size; omega) (fun H1 _ => by show (Str.ofString "abcdef").cps.size ≤ 6; omega) (fun k H1 x H2 hk _ y => ?_) (fun k => hw k) (fun k H1 Q hk s q => hb k H1 Q hk s (q _ (Same.refl _))) (fun k H1 Q hk e s q => ht k H1 Q hk e s (q _ (Same.refl _))) (fun H1 s e => hd H1 s e)
  obtain ⟨e1, c, ec, rfl⟩ := y
  rw [abc k hk] at ec
  cases ec
  exact ⟨by rw [e1]; exact Same.refl _, rfl⟩
section
variable {P : Program} {w : World} {K : PySem.W.Frag} {mg : Str → Option Value} {base : Heap} {f : Addr} {fd : FuncData}
def spLeast : Sp := fun vs H Q _ => ∃ (d : Addr) (ks : List Nat) (g : Nat → Int), vs = [.ref d] ∧ H d = some (.dK (tab ky ks g)) ∧ ks.Nodup ∧ (∀ k ∈ ks, KOk k ∧ 0 ≤ g k) ∧ ks.length ≤ 36 ∧ ∀ R r π H', Same H H' → H R = none → H' R = some (.dK (tab ky ks r)) → (∀ k ∈ ks, 0 ≤ r k ∧ r k ≤ g k) → (∀ p, p < 6 → nt (ent ks r) p = nt (ent ks g) p) → Pot g r ks π → Run ks g (fun _ => 0) (nt (ent ks g)) r → Q (.ref R) H'
theorem ok_least_rest (F : FnP K "least_rest" s_least_rest f fd) (m_zip : mg "zip" = none) (m_any : mg "any" = none) (m_min : mg "min" = none) (tok_PARTIES tok_ALONG : Tok) (g_PARTIES : mg "PARTIES" = some (.str "abcdef" tok_PARTIES)) (g_ALONG : mg "ALONG" = some (.int 101 tok_ALONG)) (c_net : Cal P w K mg base 4 "net" spNet) (c_steps_left : Cal P w K mg base 1 "steps_left" spSteps) (c_cheapest_ways : Cal P w K mg base 1 "cheapest_ways" spCheap) (c_way_to : Cal P w K mg base 1 "way_to" spWay) (c_room_for : Cal P w K mg base 1 "room_for" spRoom) : FnOk P w K mg base CX0 5 f fd P_least_rest spLeast := by
  refine F.ok sc_least_rest (fun vs H Q E h => ?_) (fun cdv A outer s H vs Q E hr h => ?_)
  · obtain ⟨d, ks, g, rfl, _⟩ := h
    rfl
  · obtain ⟨d, ks, g, rfl, hd, nd, hk, lk, q⟩ := h
    refine ⟨_, PSs.nox (pss_cons (ps_lock (ps_set (i := 2) sc_least_rest.nd rfl (by first | exact .inl rfl | exact .inr rfl) (pe_dc (own := [("pair", 1)]) (g := (gName 1)) (tt := tYes) (by rfl) sc_least_rest.nd (pi_keys (pv 0)) (blkOk_by (own := [("pair", 1)]) (N := N_least_rest) (sc := defScope s_least_rest) (by decide +kernel)) (fun _ _ _ _ _ => (pg_name (i := 1) sc_least_rest.nd rfl (by first | exact .inl rfl | exact .inr rfl))) (fun _ _ _ _ _ => pts_nil) (fun _ _ _ _ _ => (pv 1)) (fun _ _ _ _ _ => pe_int))))
      (pss_cons (ps_set (i := 5) sc_least_rest.nd rfl (by first | exact .inl rfl | exact .inr rfl) (pe_dc (own := [("party", 3), ("coins", 4)]) (g := (gTup K 2 (gCons (gName 3) (gCons (gName 4) gNil)))) (tt := tYes) (by rfl) sc_least_rest.nd (pi_zipS (by rfl) m_zip (pa_cons (pe_glob (by rfl) g_PARTIES (relv_str (x := "abcdef"))) (pa_cons (pe_cl c_net hr (by decide) (by rfl) (pa_cons (pv 0) pa_nil)) pa_nil))) (blkOk_by (own := [("party", 3), ("coins", 4)]) (N := N_least_rest) (sc := defScope s_least_rest) (by decide +kernel)) (fun _ _ _ _ _ => (pg_tup rfl (pgs_cons (pg_name (i := 3) sc_least_rest.nd rfl (by first | exact .inl rfl | exact .inr rfl)) (pgs_cons (pg_name (i := 4) sc_least_rest.nd rfl (by first | exact .inl rfl | exact .inr rfl)) pgs_nil)))) (fun _ _ _ _ _ => pts_nil) (fun _ _ _ _ _ => (pv 3)) (fun _ _ _ _ _ => (pv 4))))
      (pss_cons (ps_while PassesOwn.never (pt_val (pe_callB (cr_any rfl) (by rfl) m_any (by decide +kernel) (pa_cons (pe_lc (own := [("party", 3)]) (g := (gName 3)) (tt := tYes) (by rfl) sc_least_rest.nd (pi_str (pe_glob (by rfl) g_PARTIES (relv_str (x := "abcdef")))) (blkOk_by (own := [("party", 3)]) (N := N_least_rest) (sc := defScope s_least_rest) (by decide +kernel)) (fun _ _ _ _ _ => (pg_name (i := 3) sc_least_rest.nd rfl (by first | exact .inl rfl | exact .inr rfl))) (fun _ _ _ _ _ => pts_nil) (fun _ _ _ _ _ => (pe_cmpR op_gt (pe_dget (hu_of hr) (pv 5) (pv 3) (fun _ _ => rfl)) pe_int (nomark _)))) pa_nil)))
        (pss_cons (ps_setLc (i := 6) (own := [("party", 3)]) (g := (gName 3)) (by rfl) sc_least_rest.nd rfl rfl (sw_true rfl rfl rfl (by decide +kernel)) (pi_str (pe_glob (by rfl) g_PARTIES (relv_str (x := "abcdef")))) (blkOk_by (own := [("party", 3)]) (N := N_least_rest) (sc := defScope s_least_rest) (by decide +kernel)) (fun _ _ _ _ _ => (pg_name (i := 3) sc_least_rest.nd rfl (by first | exact .inl rfl | exact .inr rfl))) (fun _ _ _ _ _ => (pts_one (pt_cmpR op_lt (pe_dget (hu_of hr) (pv 5) (pv 3) (fun _ _ => rfl)) pe_int (nomark _)))) (fun _ _ _ _ _ => (pv 3)))
      (pss_cons (ps_asg (pe_cl c_cheapest_ways hr (by decide) (by rfl) (pa_cons (pe_cl c_steps_left hr (by decide) (by rfl) (pa_cons (pv 0) (pa_cons (pv 2) pa_nil))) (pa_cons (pv 6) pa_nil))) (pg_tup rfl (pgs_cons (pg_name (i := 7) sc_least_rest.nd rfl (by first | exact .inl rfl | exact .inr rfl)) (pgs_cons (pg_name (i := 8) sc_least_rest.nd rfl (by first | exact .inl rfl | exact .inr rfl)) pgs_nil))))
      (pss_cons (ps_set (i := 9) sc_least_rest.nd rfl (by first | exact .inl rfl | exact .inr rfl) (pe_ix ix_tup (pe_callB (cr_minS rfl hr.units) (by rfl) m_min (by decide +kernel) (pa_cons (pe_lc (own := [("party", 3)]) (g := (gName 3)) (by rfl) sc_least_rest.nd (pi_str (pe_glob (by rfl) g_PARTIES (relv_str (x := "abcdef")))) (blkOk_by (own := [("party", 3)]) (N := N_least_rest) (sc := defScope s_least_rest) (by decide +kernel)) (fun _ _ _ _ _ => (pg_name (i := 3) sc_least_rest.nd rfl (by first | exact .inl rfl | exact .inr rfl))) (fun _ _ _ _ _ => (pts_one (PW.pt (pw_and (pt_cmpR op_gt (pe_dget (hu_of hr) (pv 5) (pv 3) (fun _ _ => rfl)) pe_int (nomark _)) (pw_and1 (pt_cmp (pc_din (hu_of hr) (pv 3) (pv 7)) (by rfl))))))) (fun _ _ _ _ _ => (pe_tup (pa_cons (pe_dget (hu_of hr) (pv 7) (pv 3) (fun _ _ => rfl)) (pa_cons (pv 3) pa_nil))))) pa_nil)) pe_int (fun _ _ => rfl)))
      (pss_cons (ps_set (i := 10) sc_least_rest.nd rfl (by first | exact .inl rfl | exact .inr rfl) (pe_cl c_way_to hr (by decide) (by rfl) (pa_cons (pv 8) (pa_cons (pv 9) pa_nil))))
      (pss_cons (ps_set (i := 11) sc_least_rest.nd rfl (by first | exact .inl rfl | exact .inr rfl) (pe_ix ix_tup (pe_ix ix_list (pv 10) (pe_un un_neg pe_int) (fun _ _ => rfl)) pe_int (fun _ _ => rfl)))
      (pss_cons (ps_set (i := 4) sc_least_rest.nd rfl (by first | exact .inl rfl | exact .inr rfl) (pe_callB (cr_min rfl) (by rfl) m_min (by decide +kernel) (pa_cons (pe_op op_cat (pe_lst (pa_cons (pe_op op_sub pe_int (pe_dget (hu_of hr) (pv 5) (pv 11) (fun _ _ => rfl))) (pa_cons (pe_dget (hu_of hr) (pv 5) (pv 9) (fun _ _ => rfl)) pa_nil))) (pe_lc (own := [("step", 12)]) (g := (gName 12)) (tt := tYes) (by rfl) sc_least_rest.nd (pi_list (pv 10)) (blkOk_by (own := [("step", 12)]) (N := N_least_rest) (sc := defScope s_least_rest) (by decide +kernel)) (fun _ _ _ _ _ => (pg_name (i := 12) sc_least_rest.nd rfl (by first | exact .inl rfl | exact .inr rfl))) (fun _ _ _ _ _ => pts_nil) (fun _ _ _ _ _ => (pe_cl c_room_for hr (by decide) (by rfl) (pa_cons (pv 0) (pa_cons (pv 2) (pa_cons (pv 12) pa_nil))))))) pa_nil)))
      (pss_cons (ps_for PassesOwn.never rfl (pi_list (pv 10)) (pg_name (i := 12) sc_least_rest.nd rfl (by first | exact .inl rfl | exact .inr rfl))
        (pss_one (ps_dput (hu_of hr) (pv 2) (pe_ix ix_tup (pv 12) pe_int (fun _ _ => rfl)) (pe_op op_add (pe_dget (hu_of hr) (pv 2) (pe_ix ix_tup (pv 12) pe_int (fun _ _ => rfl)) (fun _ _ => rfl)) (pe_ifExp (pt_cmpR op_eq (pe_ix ix_tup (pv 12) pe_int (fun _ _ => rfl)) (pe_glob (v := .int 101) (by rfl) g_ALONG ⟨_, rfl⟩) (nomark _)) (pv 4) (pe_op op_sub pe_int (pv 4)))) rfl)))
      (pss_cons (ps_dput (hu_of hr) (pv 5) (pv 11) (pe_op op_add (pe_dget (hu_of hr) (pv 5) (pv 11) (fun _ _ => rfl)) (pv 4)) rfl)
      (pss_one (ps_dput (hu_of hr) (pv 5) (pv 9) (pe_op op_sub (pe_dget (hu_of hr) (pv 5) (pv 9) (fun _ _ => rfl)) (pv 4)) rfl)))))))))))
      (pss_one (ps_ret (pv 2)))))), ?_⟩
    have abc : ∀ i, i < 6 → (Str.ofString "abcdef").cps[i]? = some (97 + i) := by decide +kernel
    have sz : (Str.ofString "abcdef").cps.size = 6 := by decide +kernel
    have k36 : ∀ k ∈ ks, k < 36 := fun k m => (hk k m).1.1
    walk_at "go"
    refine ⟨d, _, hd, trivial, fun od => ?_⟩
    have fz : (upd H d (.frz od (.dK (tab ky ks g)))) d = some (.frz od (.dK (tab ky ks g))) := upd_same
    have sb : SB d H (upd H d (.frz od (.dK (tab ky ks g)))) := fun b o n e => by rw [upd_ne n]; exact e
    generalize upd H d (.frz od (.dK (tab ky ks g))) = J0 at fz sb
    walk_at "go"
    refine ⟨d, od, rfl, .inl ⟨_, fz, ?_⟩⟩
    intro R nR0
    have dR : d ≠ R := fun e => by rw [← e, fz] at nR0; cases nR0
    have nR : H R = none := by
      cases e : H R with
      | none => rfl
      | some o =>
        have := sb R o dR.symm e
        rw [nR0] at this
        cases this
    refine dc_gen (n := ks.length) (fun i J => J d = some (.frz od (.dK (tab ky ks g))) ∧ SB d H J ∧ J R = some (.dK (tab ky (ks.take i) fun _ => 0))) ⟨by rw [upd_ne dR]; exact fz, fun b o n e => by rw [upd_ne (fun z => by rw [z, nR] at e; cases e)]; exact sb b o n e, upd_same⟩ ?_ ?_ ?_ ?_
    · rintro i J1 hi ⟨f1, _⟩
      exact ⟨f1, by rw [tab_len]; exact hi⟩
    · rintro J1 ⟨f1, _⟩
      exact ⟨f1, by rw [tab_len]; exact Nat.le_refl _⟩
    · rintro i J1 x J2 hi ⟨f1, sb1, eR⟩ ⟨rfl, k, v, e, rfl⟩
      rw [tab_at hi] at e
      cases e
      have tk : ks.take (i + 1) = ks.take i ++ [ks[i]] := by
        rw [List.take_succ, List.getElem?_eq_getElem hi]
        rfl
      have nin : ks[i] ∉ ks.take i := fun z => by
        obtain ⟨j, hj, ej⟩ := List.getElem_of_mem z
        rw [List.length_take] at hj
        rw [List.getElem_take] at ej
        have := (List.getElem_inj nd).mp ej
        omega
      generalize ks[i] = k at tk nin
      walk_at "go"
      refine ⟨_, Sum.inr (ky k), rfl, eR, by rw [tab_len, List.length_take]; exact szlt (by omega), by rw [upd_ne dR]; exact f1, fun b o n e => by rw [upd_ne (fun z => by rw [z, nR] at e; cases e)]; exact sb1 b o n e, ?_⟩
      rw [upd_same, tab_put (fun _ _ => ky_inj), if_neg nin, tk]
      refine congrArg _ (congrArg _ (tab_congr fun j _ => ?_))
      split <;> rfl
    rintro J1 ⟨f1, sb1, eR⟩
    rw [List.take_length] at eR
    walk_at "go"
    have s1 : Same H (upd J1 d (.dK (tab ky ks g))) := fun a o e => by
      by_cases c : a = d
      · subst c
        rw [upd_same, ← hd, e]
      · rw [upd_ne c]
        exact sb1 a o c e
    have eR1 : (upd J1 d (.dK (tab ky ks g))) R = some (.dK (tab ky ks fun _ => 0)) := by rw [upd_ne dR.symm]; exact eR
    generalize upd J1 d (.dK (tab ky ks g)) = J2 at s1 eR1
    clear fz sb f1 sb1 eR nR0
    dsimp only [List.set]
    walk_at "go"
    refine ⟨d, ks, g, rfl, s1 _ _ hd, hk, by omega, fun t J3 s2 et => ?_⟩
    have s3 := s1.trans s2
    have eR3 := s2 _ _ eR1
    refine ⟨_, false, t, _, rfl, SqT.of et, ?_⟩
    intro Wd nWd
    have RW : R ≠ Wd := ne_of_none eR3 nWd
    have nWH := none_of s3 nWd
    refine dc_gen (n := 6) (fun i J => Same J3 J ∧ J Wd = some (.dK (tab lt1 (List.range i) (nt (ent ks g))))) ⟨same_new nWd, upd_same⟩ ?_ ?_ ?_ ?_
    · rintro i J hi ⟨s4, _⟩
      exact ⟨_, 97 + i, .int (nt (ent ks g) i), SqT.of (s4 _ _ et), abc i hi, by rw [List.getElem?_map, List.getElem?_range hi]; rfl⟩
    · rintro J ⟨s4, _⟩
      refine ⟨_, SqT.of (s4 _ _ et), .inl ?_, ?_, ?_⟩
      · rw [sz]
        exact Nat.le_refl _
      · rw [sz]
        exact Nat.le_refl _
      · rw [List.length_map, List.length_range]
        exact Nat.le_refl _
    · rintro i J x J' hi ⟨s4, eW⟩ ⟨T, c, y, rfl, nT, rfl, ec, hy⟩
      rw [abc i hi] at ec
      cases ec
      have hy := hy _ (SqT.of (s4 _ _ et))
      rw [List.getElem?_map, List.getElem?_range hi] at hy
      cases hy
      have sT := same_new (o := .tup [.str ⟨#[97 + i]⟩, .int (nt (ent ks g) i)]) nT
      have eT : (upd J T (.tup [.str ⟨#[97 + i]⟩, .int (nt (ent ks g) i)])) T = some (.tup [.str ⟨#[97 + i]⟩, .int (nt (ent ks g) i)]) := upd_same
      have eW2 := sT _ _ eW
      generalize upd J T (.tup [.str ⟨#[97 + i]⟩, .int (nt (ent ks g) i)]) = J' at sT eT eW2
      refine ⟨T, _, rfl, SqT.of eT, rfl, _, _, rfl, ?_⟩
      walk_at "go"
      refine ⟨_, Sum.inr (lt1 i), rfl, eW2, by rw [tab_len, List.length_range]; exact szlt (by omega), Z.Same.mut (s4.trans sT) nWd, ?_⟩
      rw [upd_same, tab_put (fun _ _ => lt1_inj), if_neg (by simp), List.range_succ]
      refine congrArg _ (congrArg _ (tab_congr fun j _ => ?_))
      split
      · rename_i z
        rw [z]
      · rfl
    rintro J ⟨s4, eW⟩
    have s5 := s3.trans s4
    have eR5 := s4 _ _ eR3
    clear s1 s2 s3 s4 eR1 eR3 et nWd
    have gW : ∀ {J : Hp} {W : Nat → Int} {k : Nat}, J Wd = some (.dK (tab lt1 (List.range 6) W)) → k < 6 → DGet J Wd (.str (lt1 k)) (some (.int (W k))) := fun e hk => tab_get (fun _ _ => lt1_inj) e (List.mem_range.mpr hk)
    have dR0 : d ≠ R := dR
    have dWd : d ≠ Wd := fun e => by rw [← e, hd] at nWH; cases nWH
    walk_at "go"
    refine ⟨fun m σ J => ∃ (r W π : Nat → Int) (v1 v3 v4 v6 v7 v8 v9 v10 v11 v12 : Option V), Same H J ∧ J R = some (.dK (tab ky ks r)) ∧ J Wd = some (.dK (tab lt1 (List.range 6) W)) ∧ Car ks g r W ∧ Pot g r ks π ∧ m = wnt W ∧ (∀ r', Run ks g r W r' → Run ks g (fun _ => 0) (nt (ent ks g)) r') ∧ σ = [some (.ref d), v1, some (.ref R), v3, v4, some (.ref Wd), v6, v7, v8, v9, v10, v11, v12], ?_, ?_⟩
    · refine ⟨_, fun _ => 0, nt (ent ks g), fun _ => 0, _, _, _, _, _, _, _, _, _, _, s5, eR5, eW, ⟨fun k m => ⟨Int.le_refl _, (hk k m).2⟩, fun p _ => by rw [nt_zero]; omega⟩, ⟨fun k _ _ => (by decide : (0 : Int) ≤ 0 + 101), fun k _ h => absurd (show (0 : Int) < 0 from h) (by decide), fun x _ => (by decide : (0 : Int) % 100 ≤ 5)⟩, rfl, fun _ h => h, rfl⟩
    rintro m σ J1 ⟨r, W, π, v1, v3, v4, v6, v7, v8, v9, v10, v11, v12, sm, eRm, eWm, car, pot, rfl, run, rfl⟩
    walk_at "go"
    intro B nB
    refine lc_abc (fun _ => true) (fun k => .bl (decide (0 < W k))) nB (fun _ => rfl) (fun k H1 Q _ _ q => q) (fun k H1 Q hk6 _ s q => ?_) (fun H1 sB eB => ?_)
    · walk_at "go"
      refine ⟨Wd, _, rfl, gW (s _ _ eWm) hk6, ?_⟩
      walk_at "go"
      exact q
    rw [List.filter_eq_self.mpr (fun _ _ => rfl)] at eB
    rw [show (List.range 6).map (fun k => V.bl (decide (0 < W k))) = ((List.range 6).map fun k => decide (0 < W k)).map V.bl by rw [List.map_map]; rfl] at eB
    have sm1 := sm.trans sB
    have eR1 := sB _ _ eRm
    have eW1 := sB _ _ eWm
    clear sm eRm eWm nB
    walk_at "go"
    refine ⟨B, _, rfl, SqL.of eB, _, rfl, ?_⟩
    have anyW : (((List.range 6).map fun k => decide (0 < W k)).any id) = true ↔ ∃ p, p < 6 ∧ 0 < W p := by
      rw [List.any_map, List.any_eq_true]
      exact ⟨fun ⟨p, hp, h⟩ => ⟨p, List.mem_range.mp hp, of_decide_eq_true h⟩, fun ⟨p, hp, h⟩ => ⟨p, List.mem_range.mpr hp, decide_eq_true h⟩⟩
    cases ea : (((List.range 6).map fun k => decide (0 < W k)).any id)
    · refine ite2 (fun e => absurd e (by simp)) (fun _ => ?_)
      have none_ : ∀ p, p < 6 → W p ≤ 0 := fun p hp => Int.not_lt.mp fun w => by
        rw [anyW.mpr ⟨p, hp, w⟩] at ea
        cases ea
      walk_at "go"
      exact q R r π H1 sm1 nR eR1 car.b (car_end k36 car none_) pot (run _ (.done none_))
    obtain ⟨t0, ht0, wt0⟩ := anyW.mp ea
    clear ea anyW eB sB
    refine ite2 (fun _ => ?_) (fun e => absurd rfl e)
    refine ⟨fun σ J => ∃ (r' W' π' : Nat → Int) (v1 v3 v4 v6 v7 v8 v9 v10 v11 v12 : Option V), Same H J ∧ J R = some (.dK (tab ky ks r')) ∧ J Wd = some (.dK (tab lt1 (List.range 6) W')) ∧ Car ks g r' W' ∧ Pot g r' ks π' ∧ wnt W' < wnt W ∧ One ks g r W r' W' ∧ σ = [some (.ref d), v1, some (.ref R), v3, v4, some (.ref Wd), v6, v7, v8, v9, v10, v11, v12], ?_, ?_⟩
    · rintro σ' J' ⟨r', W', π', a1, a3, a4, a6, a7, a8, a9, a10, a11, a12, b1, b2, b3, b4, b5, b6, b7, rfl⟩
      exact ⟨wnt W', b6, r', W', π', a1, a3, a4, a6, a7, a8, a9, a10, a11, a12, b1, b2, b3, b4, b5, rfl, fun _ z => run _ (.step b7 z), rfl⟩
    walk_at "go"
    intro Gv nGv
    refine lc_abc (fun k => decide (W k < 0)) (fun k => .str (lt1 k)) nGv (fun _ => rfl) (fun k H2 Q hk6 s q => ?_) (fun k H2 Q hk6 _ s q => ⟨_, rfl, q⟩) (fun H2 sG eG => ?_)
    · walk_at "go"
      refine ⟨Wd, _, rfl, gW (s _ _ eW1) hk6, ?_⟩
      walk_at "go"
      exact q
    obtain ⟨gs, egs⟩ : ∃ gs, gs = (List.range 6).filter fun k => decide (W k < 0) := ⟨_, rfl⟩
    have gsm : ∀ v, v ∈ gs ↔ v < 6 ∧ W v < 0 := fun v => by rw [egs, List.mem_filter, List.mem_range, decide_eq_true_iff]
    have gsn : gs.Nodup := by rw [egs]; exact List.nodup_range.filter _
    rw [← egs] at eG
    have egs0 : gs = gsOf W := egs
    have sm2 := sm1.trans sG
    have eR2 := sG _ _ eR1
    have eW2 := sG _ _ eW1
    clear egs sG sm1 eR1 eW1
    dsimp only [List.set]
    walk_at "go"
    refine ⟨d, R, ks, g, r, rfl, sm2 _ _ hd, eR2, dR0, fun k m => (hk k m).1, lk, fun L zs H3 s3 hz ez => ?_⟩
    have sm3 := sm2.trans s3
    have eR3 := s3 _ _ eR2
    have eW3 := s3 _ _ eW2
    have eG3 := s3 _ _ eG
    clear sm2 eR2 eW2 eG
    have lz : zs.length ≤ 100 := by
      have e1 : zs.length = (steps g r ks).length := by rw [← ez, List.length_map]
      have := steps_len g r ks
      omega
    have rE : ∀ e ∈ steps g r ks, su e < 6 ∧ sv e < 6 ∧ su e ≠ sv e := fun e he => by
      obtain ⟨h1, h2⟩ := mem_steps.mp he
      have := hk _ h1
      obtain ⟨⟨k1, k2⟩, _⟩ := this
      obtain ⟨k, b⟩ := e
      dsimp only at k1 k2
      cases b
      · exact ⟨show k % 6 < 6 by omega, show k / 6 < 6 by omega, show k % 6 ≠ k / 6 from k2.symm⟩
      · exact ⟨show k / 6 < 6 by omega, show k % 6 < 6 by omega, show k / 6 ≠ k % 6 from k2⟩
    walk_at "go"
    refine ⟨L, Gv, zs, gs, rfl, hz, eG3, gsn, fun v m => ((gsm v).mp m).1, fun z m => rE _ (by rw [← ez]; exact List.mem_map.mpr ⟨z, m, rfl⟩), lz, fun t C D H4 et cl => ?_⟩
    rw [ez] at cl
    obtain ⟨π0, cl0, p0⟩ := pot_closed0 pot k36
    have h0n : ∀ v, 6 ≤ v → h0 gs v = none := fun v hv => by
      unfold h0
      exact if_neg fun m => by have := ((gsm v).mp m).1; omega
    have lb0 : LB (fun x => some (π0 x)) (h0 gs) := fun v b e => by
      unfold h0 at e
      by_cases m : v ∈ gs
      · rw [if_pos m] at e
        cases e
        exact ⟨_, rfl, p0 v ((gsm v).mp m).1⟩
      · rw [if_neg m] at e
        cases e
    have cld := relax_done (n := 6) cl0 lb0 (fun e m => ⟨(rE e m).1, (rE e m).2.1⟩) h0n
    have gin : ∀ p, p < 6 → W p < 0 → it cA (steps g r ks) (h0 gs) 6 p ≠ none := fun p hp w z => by
      have e0 : it cA (steps g r ks) (h0 gs) 0 p = some 0 := if_pos ((gsm p).mpr ⟨hp, w⟩)
      obtain ⟨b, e1, _⟩ := it_imp cA (steps g r ks) (h0 gs) 0 6 p 0 e0
      rw [z] at e1
      cases e1
    generalize eh : it cA (steps g r ks) (h0 gs) 6 = h at cl cld gin
    generalize elt : (itl cA (steps g r ks) (l00 gs) 6).2 = lt at cl
    rw [egs0] at eh elt
    have eh : hOf ks g r W = h := eh
    have elt : lOf ks g r W = lt := elt
    obtain ⟨s4, cks, lks, l, la, c1', c2', c3', c4', c5', c6', c7', c8', c9'⟩ := cl
    subst c9'
    rw [ez] at c8'
    have ti := tight_of cld c8'
    have hn6 : ∀ v b, h v = some b → v < 6 := fun v b e => c3' v ((c1'.2.1 v).mpr (by rw [e]; exact nofun))
    obtain ⟨p1, hp1, wp1, hp1n⟩ := car_taker k36 car cld gin ht0 wt0
    have sm4 := sm3.trans s4
    have eR4 := s4 _ _ eR3
    have eW4 := s4 _ _ eW3
    have hz4 := hz.mono s4
    refine ⟨t, _, rfl, SqT.of et, rfl, _, _, rfl, ?_⟩
    walk_at "go"
    intro D2 nD2
    refine lc_gen (n := 6) (fun k J => Same H4 J ∧ ∃ ys : List (Addr × Int × Str), J D2 = some (.lst (ys.map fun y => V.ref y.1)) ∧ ys.length ≤ k ∧ (∀ y ∈ ys, J y.1 = some (.tup [.int y.2.1, .str y.2.2]) ∧ ∃ p, p < 6 ∧ y.2.2 = lt1 p ∧ 0 < W p ∧ h p = some y.2.1) ∧ (∀ p, p < k → 0 < W p → h p ≠ none → 0 < ys.length) ∧ ys.map (fun y => y.2) = cand W h k) ⟨same_new nD2, [], upd_same, Nat.le_refl _, fun y m => absurd m (by simp), fun p l => absurd l (Nat.not_lt_zero _), rfl⟩ ?_ ?_ ?_ ?_
    · rintro k J hk6 _
      show k < (Str.ofString "abcdef").cps.size
      omega
    · rintro J _
      show (Str.ofString "abcdef").cps.size ≤ 6
      omega
    · rintro k J x J' hk6 ⟨s5, ys, eY, ly, hy, ney, ecd⟩ ⟨rfl, c, ec, rfl⟩
      rw [abc k hk6] at ec
      cases ec
      have kin : k ∈ List.range 6 := List.mem_range.mpr hk6
      walk_at "go"
      refine ⟨Wd, _, rfl, gW (s5 _ _ eW4) hk6, ?_⟩
      walk_at "go"
      have c5 : CostD J' C cks h := ⟨s5 _ _ c1'.1, c1'.2⟩
      by_cases w0 : 0 < W k
      · rw [decide_eq_true w0]
        walk_at "go"
        refine ⟨C, _, rfl, c5.get k, ?_⟩
        cases hk1 : h k with
        | none =>
          walk_at "go"
          refine ⟨ys, eY, by omega, hy, fun p hp a b => ?_, by rw [ecd, cand_none hk1]⟩
          by_cases e : p = k
          · rw [e] at b
            exact absurd hk1 b
          · exact ney p (by omega) a b
        | some b =>
          walk_at "go"
          refine ⟨C, _, rfl, c5.val hk1, ?_⟩
          walk_at "go"
          intro u nu
          have su_ := same_new (o := .tup [.int b, .str (lt1 k)]) nu
          refine ⟨_, su_ _ _ eY, by rw [List.length_map]; exact szlt (by omega), Z.Same.mut (s5.trans su_) nD2, ys ++ [(u, b, lt1 k)], by rw [upd_same, List.map_append]; rfl, by rw [List.length_append]; exact Nat.add_le_add_right ly 1, fun y m => ?_, fun p _ _ _ => by rw [List.length_append]; exact Nat.succ_pos _, by rw [List.map_append, ecd, cand_some hk1 w0]; rfl⟩
          have hyu : (upd J' u (.tup [.int b, .str (lt1 k)])) y.1 = some (.tup [.int y.2.1, .str y.2.2]) ∧ ∃ p, p < 6 ∧ y.2.2 = lt1 p ∧ 0 < W p ∧ h p = some y.2.1 := by
            rcases List.mem_append.mp m with m | m
            · exact ⟨su_ _ _ (hy y m).1, (hy y m).2⟩
            · rw [List.mem_singleton.mp m]
              exact ⟨upd_same, k, hk6, rfl, w0, hk1⟩
          refine ⟨?_, hyu.2⟩
          rw [upd_ne (fun q => by have z := hyu.1; rw [q, su_ _ _ eY] at z; cases z)]
          exact hyu.1
      · rw [decide_eq_false w0]
        walk_at "go"
        refine ⟨ys, eY, by omega, hy, fun p hp a b => ?_, by rw [ecd, cand_neg w0]⟩
        by_cases e : p = k
        · rw [e] at a
          exact absurd a w0
        · exact ney p (by omega) a b
    rintro J5 ⟨s5, ys, eY, ly, hy, ney, ecd⟩
    have lty : ∀ p, p < 6 → PyData.strOk (lt1 p) = true := by decide +kernel
    walk_at "go"
    refine ⟨D2, ys, rfl, eY, fun y m => ⟨(hy y m).1, ?_⟩, ney p1 hp1 wp1 hp1n, fun y m emin => ?_⟩
    · obtain ⟨p, hp, e, _⟩ := (hy y m).2
      rw [e]
      exact lty p hp
    obtain ⟨eYu, p, hp, ep, wp, hpv⟩ := hy y m
    obtain ⟨ya, yb, yc⟩ := y
    dsimp only at eYu ep hpv
    subst ep
    have emin : tDS (yb, lt1 p) = minL ((cand W h 6).map tDS) := by
      rw [← ecd, List.map_map]
      exact emin
    clear ecd
    walk_at "go"
    refine ⟨ya, _, _, _, rfl, rfl, SqT.of eYu, (atI_nat (j := 1) rfl : atI [V.int yb, V.str (lt1 p)] 1 = _), ?_⟩
    have sm5 := sm4.trans s5
    have eR5' := s5 _ _ eR4
    have eW5 := s5 _ _ eW4
    have hz5 := hz4.mono s5
    have c4 : LastD J5 D lks l la := ⟨s5 _ _ c4'.1, c4'.2⟩
    obtain ⟨w, x, pre, lx, lw, ndw, gx, _⟩ := way_ex ti cA_1 hn6 hpv
    have wx := ((gsm x).mp gx).2
    have hx6 := ((gsm x).mp gx).1
    have wne : w ≠ [] := fun e => by
      rw [e] at pre
      cases pre
      omega
    clear eY ly hy ney eYu m s5 nD2 eR4 eW4 sm4 c1' c4' hz4 et
    dsimp only [List.set]
    walk_at "go"
    refine ⟨D, p, x, w, lks, l, la, zs, rfl, c4, c7', hz5.at_, pre, lx, by omega, fun Lw ws J6 s6 hws ews => ?_⟩
    have sm6 := sm5.trans s6
    have eR6 := s6 _ _ eR5'
    have eW6 := s6 _ _ eW5
    clear sm5 eR5' eW5
    obtain ⟨w', e, ew, es⟩ := pre_last pre wne
    obtain ⟨ws', z, ewz⟩ : ∃ ws' z, ws = ws' ++ [z] := by
      rcases List.eq_nil_or_concat ws with e0 | ⟨a, b, e0⟩
      · rw [e0] at ews
        exact absurd ews.symm wne
      · exact ⟨a, b, by rw [e0, List.concat_eq_append]⟩
    have ez2 : z.2 = e := by
      have := ews
      rw [ewz, ew, List.map_append] at this
      have := (List.append_inj' this rfl).2
      simpa using this
    have zm : z ∈ ws := by rw [ewz]; simp
    have lws : ws.length = w.length := by rw [← ews, List.length_map]
    walk_at "go"
    refine ⟨Lw, _, _, _, rfl, rfl, SqL.of hws.sq, by rw [ewz, List.map_append]; exact at_last _ _, ?_⟩
    walk_at "go"
    refine ⟨z.1, _, _, _, rfl, rfl, SqT.of (hws.at_ z zm), (atI_nat (j := 0) rfl : atI (stV z.2) 0 = _), ?_⟩
    rw [ez2, es]
    dsimp only [List.set]
    walk_at "go"
    refine ⟨Wd, _, rfl, gW eW6 hx6, ?_⟩
    walk_at "go"
    refine ⟨Wd, _, rfl, gW eW6 hp, ?_⟩
    walk_at "go"
    intro l1 nl1
    have s7 := same_new (o := .lst [.int (0 - W x), .int (W p)]) nl1
    have el1 : (upd J6 l1 (.lst [.int (0 - W x), .int (W p)])) l1 = some (.lst ([0 - W x, W p].map V.int)) := upd_same
    have sm7 := sm6.trans s7
    have eR7 := s7 _ _ eR6
    have eW7 := s7 _ _ eW6
    have hws7 := hws.mono s7
    generalize upd J6 l1 (.lst [.int (0 - W x), .int (W p)]) = J7 at s7 el1 sm7 eR7 eW7 hws7
    clear sm6 eR6 eW6 s7 hws hz5
    walk_at "go"
    refine ⟨⟨_, SqL.of hws7.sq⟩, fun D3 nD3 => ?_⟩
    have wget : ∀ k, k < ws.length → ws.getD k (Lw, (0, true)) ∈ ws ∧ (ws.map fun z => V.ref z.1)[k]? = some (.ref (ws.getD k (Lw, (0, true))).1) := fun k hk => by
      rw [List.getD_eq_getElem?_getD, List.getElem?_eq_getElem hk]
      exact ⟨List.getElem_mem hk, by rw [List.getElem?_map, List.getElem?_eq_getElem hk]; rfl⟩
    have wks : ∀ z ∈ ws, z.2 ∈ steps g r ks := fun z m => by
      obtain ⟨v, hv⟩ := pre_mem pre z.2 (by rw [← ews]; exact List.mem_map.mpr ⟨z, m, rfl⟩)
      exact (ti.e v _ hv).1
    refine lc_flt (n := ws.length) (fun k => .ref (ws.getD k (Lw, (0, true))).1) (fun _ => true) (fun k => .int (room g r (ws.getD k (Lw, (0, true))).2)) (by omega) nD3 (fun k H2 hk s => ⟨_, _, s.seq (SqL.of hws7.sq), (wget k hk).2⟩) (fun H2 s => ⟨_, s.seq (SqL.of hws7.sq), by rw [List.length_map]; exact Nat.le_refl _⟩) (fun k H2 y H3 hk s yy => ⟨by rw [yy.1]; exact Same.refl _, Option.some.inj ((yy.2 _ (s.seq (SqL.of hws7.sq))).symm.trans (wget k hk).2)⟩) (fun k => rfl) (fun k H2 Q _ _ q => q _ (Same.refl _)) (fun k H2 Q hk _ s q => ?_) (fun J8 s8 e8 => ?_)
    · walk_at "go"
      refine ⟨d, R, _, ks, g, r, _, rfl, s _ _ (sm7 _ _ hd), s _ _ eR7, s _ _ (hws7.at_ _ (wget k hk).1), (mem_steps.mp (wks _ (wget k hk).1)).1, ?_⟩
      exact q _ (Same.refl _)
    have er8 : fltL (fun _ => true) (fun k => V.int (room g r (ws.getD k (Lw, (0, true))).2)) ws.length = (w.map (room g r)).map V.int := by
      unfold fltL
      rw [List.filter_eq_self.mpr (fun _ _ => rfl), ← ews, List.map_map, List.map_map]
      refine List.ext_getElem (by rw [List.length_map, List.length_map, List.length_range]) fun k h1 h2 => ?_
      rw [List.length_map] at h2
      rw [List.getElem_map, List.getElem_map, List.getElem_range, List.getD_eq_getElem?_getD, List.getElem?_eq_getElem h2]
      rfl
    rw [er8] at e8
    have sm8 := sm7.trans s8
    have eR8 := s8 _ _ eR7
    have eW8 := s8 _ _ eW7
    have hws8 := hws7.mono s8
    have el18 := s8 _ _ el1
    clear sm7 eR7 eW7 hws7 s8 nD3 wget er8 el1
    walk_at "go"
    refine ⟨l1, D3, _, _, rfl, rfl, el18, e8, by rw [List.length_map, List.length_map, List.length_map]; exact szl (by show 2 + w.length ≤ 2000; omega), fun l3 nl3 => ?_⟩
    rw [← List.map_append]
    have s9 := same_new (o := .lst (([0 - W x, W p] ++ w.map (room g r)).map V.int)) nl3
    have el3 : (upd J8 l3 (.lst (([0 - W x, W p] ++ w.map (room g r)).map V.int))) l3 = some (.lst (([0 - W x, W p] ++ w.map (room g r)).map V.int)) := upd_same
    have sm9 := sm8.trans s9
    have eR9 := s9 _ _ eR8
    have eW9 := s9 _ _ eW8
    have hws9 := hws8.mono s9
    generalize upd J8 l3 (.lst (([0 - W x, W p] ++ w.map (room g r)).map V.int)) = J9 at s9 el3 sm9 eR9 eW9 hws9
    clear sm8 eR8 eW8 hws8 s9 e8 el18
    walk_at "go"
    refine ⟨l3, _, rfl, SqL.of el3, by simp, fun n hn hmin => ?_⟩
    have hx0 := hmin (0 - W x) (by simp)
    have hp0 := hmin (W p) (by simp)
    have hro : ∀ e ∈ w, n ≤ room g r e := fun e m => hmin _ (List.mem_append_right _ (List.mem_map.mpr ⟨e, m, rfl⟩))
    have n0 : 0 < n := by
      rcases List.mem_append.mp hn with m | m
      · rcases List.mem_cons.mp m with rfl | m
        · omega
        · rw [List.mem_singleton.mp m]
          exact wp
      · obtain ⟨e, m', rfl⟩ := List.mem_map.mp m
        have : e ∈ steps g r ks := by
          obtain ⟨v, hv⟩ := pre_mem pre e m'
          exact (ti.e v _ hv).1
        obtain ⟨_, h2⟩ := mem_steps.mp this
        unfold room
        rcases h2 with ⟨b, l⟩ | ⟨b, l⟩
        · rw [if_pos b]
          omega
        · rw [if_neg (by rw [b]; decide)]
          exact l
    clear el3
    have carN := car_next nd car ti pre ndw (Int.le_of_lt n0) hro
    obtain ⟨π', hpot⟩ := pot_next (w := w) (n := n) pot k36 car.b cld ti hn6 (fun e m => by
      obtain ⟨v, hv⟩ := pre_mem pre e m
      rw [(ti.e v _ hv).2.1]
      exact hv)
    have potN := hpot (aug n w r) fun k _ hne => aug_not hne
    dsimp only [List.set]
    walk_at "go"
    refine ⟨⟨_, SqL.of hws9.sq⟩, ?_⟩
    refine for_gen (n := ws.length) (fun k σ J => Same H J ∧ J R = some (.dK (tab ky ks (aug n (w.take k) r))) ∧ J Wd = some (.dK (tab lt1 (List.range 6) W)) ∧ StZ J Lw ws ∧ ∃ v12, σ = [some (.ref d), v1, some (.ref R), v3, some (.int n), some (.ref Wd), some (.ref Gv), some (.ref C), some (.ref D), some (.str (lt1 p)), some (.ref Lw), some (.str (lt1 x)), v12]) ⟨sm9, eR9, eW9, hws9, _, rfl⟩ ?_ ?_ ?_ ?_
    · rintro k σ J hk ⟨_, _, _, hw9, _⟩
      exact ⟨_, .ref ws[k].1, SqL.of hw9.sq, by rw [List.getElem?_map, List.getElem?_eq_getElem hk]; rfl⟩
    · rintro σ J ⟨_, _, _, hw9, _⟩
      exact ⟨_, SqL.of hw9.sq, by rw [List.length_map]; exact Nat.le_refl _⟩
    · rintro k σ J y J' hk ⟨smA, eRA, eWA, hwA, v12, rfl⟩ ⟨rfl, hy⟩
      have hy := hy _ (SqL.of hwA.sq)
      rw [List.getElem?_map, List.getElem?_eq_getElem hk] at hy
      cases hy
      have tk : w.take (k + 1) = w.take k ++ [ws[k].2] := by
        rw [← ews, List.take_succ, List.getElem?_map, List.getElem?_eq_getElem hk]
        rfl
      have ewk := hwA.at_ _ (List.getElem_mem hk)
      have wk := (mem_steps.mp (wks _ (List.getElem_mem hk))).1
      rw [tk]
      generalize ws[k] = z at ewk wk
      obtain ⟨za, zk, zb⟩ := z
      dsimp only at ewk wk
      have i3 : atI (stV (zk, zb)) 3 = some (.str (ky zk)) := atI_nat (j := 3) rfl
      have i2 : atI (stV (zk, zb)) 2 = some (.int (cA (zk, zb))) := atI_nat (j := 2) rfl
      generalize eA : aug n (w.take k) r = ra at eRA
      have rd := tab_get (fun _ _ => ky_inj) eRA wk
      have fin : ∀ v : Int, v = ra zk + (if zb then n else 0 - n) → ∃ H', DPut J' R (.str (ky zk)) (.int v) H' ∧ Same H H' ∧ H' R = some (.dK (tab ky ks (aug n (w.take k ++ [(zk, zb)]) r))) ∧ H' Wd = some (.dK (tab lt1 (List.range 6) W)) ∧ StZ H' Lw ws := fun v ev => by
        have dp := DPut.k (k := Sum.inr (ky zk)) (v := .int v) eRA (by rw [tab_len]; exact szlt (by omega))
        rw [tab_put (fun _ _ => ky_inj), if_pos wk] at dp
        refine ⟨_, dp, Z.Same.mut smA nR, ?_, by rw [upd_ne RW.symm]; exact eWA, ⟨by rw [upd_ne (fun q => by have := hwA.sq; rw [q, eRA] at this; cases this)]; exact hwA.sq, fun z m => by rw [upd_ne (fun q => by have := hwA.at_ z m; rw [q, eRA] at this; cases this)]; exact hwA.at_ z m⟩⟩
        rw [upd_same, aug_snoc, eA]
        refine congrArg _ (congrArg _ (tab_congr fun j _ => ?_))
        dsimp only
        by_cases q : j = zk
        · rw [if_pos q, if_pos q, ev, q]
        · rw [if_neg q, if_neg q]
      walk_at "go"
      refine ⟨za, _, _, _, rfl, rfl, SqT.of ewk, i3, ?_⟩
      refine ⟨R, _, rfl, rd, ?_⟩
      walk_at "go"
      refine ⟨za, _, _, _, rfl, rfl, SqT.of ewk, i2, ?_⟩
      walk_at "go"
      cases zb
      · rw [show decide (V.int (cA (zk, false)) = V.int 101) = false from rfl]
        walk_at "go"
        refine ⟨za, _, _, _, rfl, rfl, SqT.of ewk, i3, ?_⟩
        obtain ⟨H', d1, d2, d3, d4, d5⟩ := fin (ra zk + (0 - n)) rfl
        exact ⟨R, H', rfl, d1, d2, d3, d4, d5, _, rfl⟩
      · rw [show decide (V.int (cA (zk, true)) = V.int 101) = true from rfl]
        walk_at "go"
        refine ⟨za, _, _, _, rfl, rfl, SqT.of ewk, i3, ?_⟩
        obtain ⟨H', d1, d2, d3, d4, d5⟩ := fin (ra zk + n) rfl
        exact ⟨R, H', rfl, d1, d2, d3, d4, d5, _, rfl⟩
    rintro σ J ⟨smA, eRA, eWA, hwA, v12, rfl⟩
    rw [lws, List.take_length] at eRA
    have pW : ∀ {J : Hp} {W : Nat → Int} {k : Nat} (v : Int), J Wd = some (.dK (tab lt1 (List.range 6) W)) → k < 6 → DPut J Wd (.str (lt1 k)) (.int v) (upd J Wd (.dK (tab lt1 (List.range 6) fun j => if j = k then v else W j))) := fun {J W k} v e hk => by
      have z := DPut.k (k := Sum.inr (lt1 k)) (v := .int v) e (by rw [tab_len, List.length_range]; exact szlt (by omega))
      rw [tab_put (fun _ _ => lt1_inj), if_pos (List.mem_range.mpr hk)] at z
      exact z
    walk_at "go"
    refine ⟨Wd, _, rfl, gW eWA hx6, ?_⟩
    walk_at "go"
    refine ⟨Wd, _, rfl, pW (W x + n) eWA hx6, ?_⟩
    have eWB : (upd J Wd (.dK (tab lt1 (List.range 6) fun j => if j = x then W x + n else W j))) Wd = some (.dK (tab lt1 (List.range 6) fun j => if j = x then W x + n else W j)) := upd_same
    have smB : Same H (upd J Wd (.dK (tab lt1 (List.range 6) fun j => if j = x then W x + n else W j))) := Z.Same.mut smA nWH
    have eRB : (upd J Wd (.dK (tab lt1 (List.range 6) fun j => if j = x then W x + n else W j))) R = some (.dK (tab ky ks (aug n w r))) := by rw [upd_ne RW]; exact eRA
    generalize upd J Wd (.dK (tab lt1 (List.range 6) fun j => if j = x then W x + n else W j)) = JB at eWB smB eRB
    walk_at "go"
    refine ⟨Wd, _, rfl, gW eWB hp, ?_⟩
    walk_at "go"
    refine ⟨Wd, _, rfl, pW _ eWB hp, ?_⟩
    have npx : p ≠ x := fun e => by rw [e] at wp; omega
    refine ⟨aug n w r, _, π', _, _, _, _, _, _, _, _, _, _, Z.Same.mut smB nWH, by rw [upd_ne RW]; exact eRB, ?_, carN, potN, ?_, ⟨⟨p, hp, wp⟩, p, yb, x, w, n, by rw [eh]; exact emin, by rw [elt]; exact pre, by rw [elt]; exact lx, ⟨hn, hmin⟩, rfl, rfl⟩, rfl⟩
    · rw [upd_same]
      refine congrArg _ (congrArg _ (tab_congr fun j _ => ?_))
      rw [if_neg npx]
      by_cases q1 : j = p
      · rw [if_pos q1, if_pos q1.symm, q1, if_neg npx.symm]
        omega
      · rw [if_neg q1, if_neg (fun z : p = j => q1 z.symm)]
        by_cases q2 : j = x
        · rw [if_pos q2, if_pos q2.symm, q2]
          omega
        · rw [if_neg q2, if_neg (fun z : x = j => q2 z.symm)]
          omega
    · refine wnt_lt (fun q _ => ?_) hp ?_
      · by_cases q1 : p = q
        · rw [if_pos q1, if_neg (fun z : x = q => npx (q1.trans z.symm))]
          omega
        · rw [if_neg q1]
          by_cases q2 : x = q
          · rw [if_pos q2, ← q2]
            omega
          · rw [if_neg q2]
            omega
      · rw [if_pos rfl, if_neg npx.symm]
        omega
end
end Z
set_option pp.maxSteps 700
set_option Elab.async false
set_option linter.all false
set_option maxRecDepth 100000
set_option maxHeartbeats 4000000
open SX (S S_inj S_len S_cat)
namespace Z
open SO
open PySem PySem.Spec PyProof.Rows L2
open C8 (pss_cut tCut)
local macro_rules | `(tactic| walk_at "num") => `(tactic| first | rfl | omega | decide | exact Nat.le_of_lt (small1000 (by simp)) | exact ⟨by omega, by omega⟩ | exact ⟨by omega, by omega, by omega⟩ | exact ⟨by decide, by decide, by decide⟩ | exact Or.inl ⟨by omega, by omega⟩ | exact Or.inr ⟨by omega, by omega⟩)
local macro_rules | `(tactic| walk_at "go") => `(tactic| repeat (first | refine ⟨_, rfl, ?_⟩ | refine ⟨_, _, rfl, rfl, ?_⟩ | refine ⟨_, _, rfl, ?_⟩ | (refine ⟨_, _, rfl, rfl, ?_, ?_⟩; focus walk_at "num") | refine Or.inl ⟨_, rfl, ?_⟩ | refine ⟨_, _, _, _, rfl, rfl, (by assumption), (by rfl), ?_⟩ | refine ⟨_, _, _, _, _, rfl, (by assumption), (by assumption), (by assumption), (by rfl), ?_⟩ | refine ⟨rfl, ?_⟩ | (refine And.intro ?_ ?_; focus walk_at "num")))
abbrev s_heights_of : Stmt := topS 20
abbrev N_heights_of : List Str := ["debts", "rest", "party", "heights", "lap", "pair", "coins", "debtor", "creditor"]
abbrev P_heights_of : List Str := ["debts", "rest"]
theorem sc_heights_of : FnScope N_heights_of P_heights_of (defScope s_heights_of) := ⟨rfl, rfl, rfl, by decide +kernel, rfl, by decide +kernel, by decide +kernel⟩
abbrev s_set_off : Stmt := topS 21
abbrev N_set_off : List Str := ["debts", "before", "rest"]
abbrev P_set_off : List Str := ["debts"]
theorem sc_set_off : FnScope N_set_off P_set_off (defScope s_set_off) := ⟨rfl, rfl, rfl, by decide +kernel, rfl, by decide +kernel, by decide +kernel⟩
section
variable {P : Program} {w : World} {K : PySem.W.Frag} {mg : Str → Option Value} {base : Heap} {f : Addr} {fd : FuncData}
def hV (h : Nat → Int) : List V := (List.range 6).map fun p => V.int (h p)
def spHeights : Sp := fun vs H Q _ => ∃ (d R : Addr) (ks : List Nat) (g r π : Nat → Int), vs = [.ref d, .ref R] ∧ H d = some (.dK (tab ky ks g)) ∧ H R = some (.dK (tab ky ks r)) ∧ d ≠ R ∧ (∀ k ∈ ks, KOk k) ∧ ks.length ≤ 36 ∧ Pot g r ks π ∧
  ∀ T h H', Same H H' → H' T = some (.tup (hV h)) → (∀ k ∈ ks, 0 < r k → h (k % 6) + 1 ≤ h (k / 6)) → (∀ k ∈ ks, r k < g k → h (k / 6) - 1 ≤ h (k % 6)) → it c1 (steps2 g r ks) (csOf fun _ => 0) 6 = csOf h → Q (.ref T) H'
theorem ok_heights_of (F : FnP K "heights_of" s_heights_of f fd) (m_max : mg "max" = none) (m_tuple : mg "tuple" = none) (tok_PARTIES : Tok) (g_PARTIES : mg "PARTIES" = some (.str "abcdef" tok_PARTIES)) : FnOk P w K mg base CX0 1 f fd P_heights_of spHeights := by
  refine F.ok sc_heights_of (fun vs H Q E h => ?_) (fun cdv A outer s H vs Q E hr h => ?_)
  · obtain ⟨d, R, ks, g, r, π, rfl, _⟩ := h
    rfl
  · obtain ⟨d, R, ks, g, r, π, rfl, hd, hR, dR, hk, lk, pot, q⟩ := h
    refine ⟨_, PSs.nox (pss_cons (ps_set (i := 3) sc_heights_of.nd rfl (by first | exact .inl rfl | exact .inr rfl) (pe_dc (own := [("party", 2)]) (g := (gName 2)) (tt := tYes) (by rfl) sc_heights_of.nd (pi_str (pe_glob (by rfl) g_PARTIES (relv_str (x := "abcdef")))) (blkOk_by (own := [("party", 2)]) (N := N_heights_of) (sc := defScope s_heights_of) (by decide +kernel)) (fun _ _ _ _ _ => (pg_name (i := 2) sc_heights_of.nd rfl (by first | exact .inl rfl | exact .inr rfl))) (fun _ _ _ _ _ => pts_nil) (fun _ _ _ _ _ => (pv 2)) (fun _ _ _ _ _ => pe_int)))
      (pss_cons (ps_for PassesOwn.never rfl (pi_str (pe_glob (by rfl) g_PARTIES (relv_str (x := "abcdef")))) (pg_name (i := 4) sc_heights_of.nd rfl (by first | exact .inl rfl | exact .inr rfl))
        (pss_one (ps_lock (ps_for PassesOwn.never rfl (pi_items (pv 0)) (pg_tup rfl (pgs_cons (pg_name (i := 5) sc_heights_of.nd rfl (by first | exact .inl rfl | exact .inr rfl)) (pgs_cons (pg_name (i := 6) sc_heights_of.nd rfl (by first | exact .inl rfl | exact .inr rfl)) pgs_nil)))
        (pss_cons (ps_par (i := 7) (j := 8) (by rfl) sc_heights_of.nd rfl rfl (by decide) rfl rfl (pa_cons (pe_ix ix_str (pv 5) pe_int (fun _ _ => rfl)) (pa_cons (pe_ix ix_str (pv 5) pe_int (fun _ _ => rfl)) pa_nil)) (by rfl))
      (pss_cut (ps_if (pt_cmpR op_gt (pe_dget (hu_of hr) (pv 1) (pv 5) (fun _ _ => rfl)) pe_int (nomark _)) (pss_one (ps_dput (hu_of hr) (pv 3) (pv 7) (pe_callB (call_max2 rfl) (by rfl) m_max (by decide +kernel) (pa_cons (pe_dget (hu_of hr) (pv 3) (pv 7) (fun _ _ => rfl)) (pa_cons (pe_op op_add (pe_dget (hu_of hr) (pv 3) (pv 8) (fun _ _ => rfl)) pe_int) pa_nil))) rfl)) pss_nil)
      (pss_one (ps_if (pt_cmpR op_lt (pe_dget (hu_of hr) (pv 1) (pv 5) (fun _ _ => rfl)) (pv 6) (nomark _)) (pss_one (ps_dput (hu_of hr) (pv 3) (pv 8) (pe_callB (call_max2 rfl) (by rfl) m_max (by decide +kernel) (pa_cons (pe_dget (hu_of hr) (pv 3) (pv 8) (fun _ _ => rfl)) (pa_cons (pe_op op_sub (pe_dget (hu_of hr) (pv 3) (pv 7) (fun _ _ => rfl)) pe_int) pa_nil))) rfl)) pss_nil))))))))
      (pss_one (ps_ret (pe_callTy call_tuple_of (by rfl) m_tuple (by decide +kernel) (pa_cons (pe_lc (own := [("party", 2)]) (g := (gName 2)) (tt := tYes) (by rfl) sc_heights_of.nd (pi_str (pe_glob (by rfl) g_PARTIES (relv_str (x := "abcdef")))) (blkOk_by (own := [("party", 2)]) (N := N_heights_of) (sc := defScope s_heights_of) (by decide +kernel)) (fun _ _ _ _ _ => (pg_name (i := 2) sc_heights_of.nd rfl (by first | exact .inl rfl | exact .inr rfl))) (fun _ _ _ _ _ => pts_nil) (fun _ _ _ _ _ => (pe_dget (hu_of hr) (pv 3) (pv 2) (fun _ _ => rfl)))) pa_nil)))))), ?_⟩
    have abc : ∀ i, i < 6 → (Str.ofString "abcdef").cps[i]? = some (97 + i) := by decide +kernel
    have sz : (Str.ofString "abcdef").cps.size = 6 := by decide +kernel
    walk_at "go"
    intro D nD
    have dD : d ≠ D := fun e => by rw [← e, hd] at nD; cases nD
    have RD : R ≠ D := fun e => by rw [← e, hR] at nD; cases nD
    refine dc_gen (n := 6) (fun i J => Same H J ∧ J D = some (.dK (tab lt1 (List.range i) fun _ => 0))) ⟨same_new nD, upd_same⟩ ?_ ?_ ?_ ?_
    · rintro i J hi _
      show i < (Str.ofString "abcdef").cps.size
      omega
    · rintro J _
      show (Str.ofString "abcdef").cps.size ≤ 6
      omega
    · rintro i J x J' hi ⟨s2, eD⟩ ⟨rfl, c, ec, rfl⟩
      rw [abc i hi] at ec
      cases ec
      walk_at "go"
      refine ⟨_, Sum.inr (lt1 i), rfl, eD, by rw [tab_len, List.length_range]; exact szlt (by omega), Z.Same.mut s2 nD, ?_⟩
      rw [upd_same, tab_put (fun _ _ => lt1_inj), if_neg (by simp), List.range_succ]
      refine congrArg _ (congrArg _ (tab_congr fun j _ => ?_))
      split <;> rfl
    rintro J ⟨s1, eD⟩
    have nDH : H D = none := nD
    walk_at "go"
    have gD : ∀ {J : Hp} {W : Nat → Int} {k : Nat}, J D = some (.dK (tab lt1 (List.range 6) W)) → k < 6 → DGet J D (.str ⟨#[97 + k]⟩) (some (.int (W k))) := fun e hk => tab_get (fun _ _ => lt1_inj) e (List.mem_range.mpr hk)
    have pD : ∀ {J : Hp} {W : Nat → Int} {k : Nat} (v : Int), J D = some (.dK (tab lt1 (List.range 6) W)) → k < 6 → DPut J D (.str ⟨#[97 + k]⟩) (.int v) (upd J D (.dK (tab lt1 (List.range 6) fun j => if j = k then v else W j))) := fun {J W k} v e hk => by
      have z := DPut.k (k := Sum.inr (lt1 k)) (v := .int v) e (by rw [tab_len, List.length_range]; exact szlt (by omega))
      rw [tab_put (fun _ _ => lt1_inj), if_pos (List.mem_range.mpr hk)] at z
      exact z
    refine for_gen (n := 6) (fun i σ J => Same H J ∧ (∃ h, J D = some (.dK (tab lt1 (List.range 6) h)) ∧ it c1 (steps2 g r ks) (csOf fun _ => 0) i = csOf h) ∧ ∃ v2 v4 v5 v6 v7 v8, σ = [some (.ref d), some (.ref R), v2, some (.ref D), v4, v5, v6, v7, v8]) ⟨s1, ⟨_, eD, rfl⟩, _, _, _, _, _, _, rfl⟩ ?_ ?_ ?_ ?_
    · rintro i σ J hi _
      show i < (Str.ofString "abcdef").cps.size
      omega
    · rintro σ J _
      show (Str.ofString "abcdef").cps.size ≤ 6
      omega
    · rintro i σ J x J' hi ⟨s2, ⟨h, eH, eh⟩, v2, v4, v5, v6, v7, v8, rfl⟩ ⟨rfl, c, ec, rfl⟩
      walk_at "go"
      have hd2 := s2 _ _ hd
      refine ⟨d, _, hd2, trivial, fun od => ?_⟩
      have fz : (upd J' d (.frz od (.dK (tab ky ks g)))) d = some (.frz od (.dK (tab ky ks g))) := upd_same
      have sb : SB d H (upd J' d (.frz od (.dK (tab ky ks g)))) := fun b o n e => by rw [upd_ne n]; exact s2 b o e
      have eH2 : (upd J' d (.frz od (.dK (tab ky ks g)))) D = some (.dK (tab lt1 (List.range 6) h)) := by rw [upd_ne dD.symm]; exact eH
      generalize upd J' d (.frz od (.dK (tab ky ks g))) = J0 at fz sb eH2
      walk_at "go"
      refine ⟨d, od, _, rfl, fz, ?_⟩
      refine for_gen (n := ks.length) (fun j σ J => J d = some (.frz od (.dK (tab ky ks g))) ∧ SB d H J ∧ (∃ h', J D = some (.dK (tab lt1 (List.range 6) h')) ∧ lap c1 (steps2 g r (ks.take j)) (csOf h) = csOf h') ∧ ∃ v4 v5 v6 v7 v8, σ = [some (.ref d), some (.ref R), v2, some (.ref D), v4, v5, v6, v7, v8]) ⟨fz, sb, ⟨h, eH2, rfl⟩, _, _, _, _, _, rfl⟩ ?_ ?_ ?_ ?_
      · rintro j σ J hj ⟨f1, _⟩
        exact ⟨f1, by rw [tab_len]; exact hj⟩
      · rintro σ J ⟨f1, _⟩
        exact ⟨f1, by rw [tab_len]; exact Nat.le_refl _⟩
      · rintro j σ J x J3 hj ⟨f1, sb1, ⟨h', eD3, el⟩, v4, v5, v6, v7, v8, rfl⟩ ⟨T, kk, v, e, rfl, nT, rfl⟩
        rw [tab_at hj] at e
        cases e
        have km := List.getElem_mem hj
        have hk1 := hk _ km
        have tk : steps2 g r (ks.take (j + 1)) = steps2 g r (ks.take j) ++ ste2 g r ks[j] := by
          rw [List.take_succ, List.getElem?_eq_getElem hj]
          unfold steps2
          rw [List.flatMap_append]
          simp
        generalize ks[j] = k at km hk1 tk
        have ka : k / 6 < 6 := by have := hk1.1; omega
        have kb : k % 6 < 6 := Nat.mod_lt _ (by decide)
        have eT : (upd J T (.tup [kV (Sum.inr (ky k)), V.int (g k)])) T = some (.tup [.str (ky k), .int (g k)]) := upd_same
        have dT : d ≠ T := fun e => by rw [← e, f1] at nT; cases nT
        have sT := same_new (o := .tup [kV (Sum.inr (ky k)), V.int (g k)]) nT
        have f2 := sT _ _ f1
        have sb2 : SB d H (upd J T (.tup [kV (Sum.inr (ky k)), V.int (g k)])) := fun b o n e => sT _ _ (sb1 b o n e)
        have eD4 := sT _ _ eD3
        generalize upd J T (.tup [kV (Sum.inr (ky k)), V.int (g k)]) = J4 at eT f2 sb2 eD4
        have e1 : (ky k).length = 2 := by unfold ky; rw [S_len]; rfl
        have hf : hup h' (k, false) = fun j => if j = k / 6 then (if h' (k % 6) + 1 > h' (k / 6) then h' (k % 6) + 1 else h' (k / 6)) else h' j := by
          funext j
          have : h' (su (k, false)) - c1 (k, false) = h' (k % 6) + 1 := by show h' (k % 6) - -1 = _; omega
          unfold hup
          rw [this]
          rfl
        have ht : ∀ h1 : Nat → Int, hup h1 (k, true) = fun j => if j = k % 6 then (if h1 (k / 6) - 1 > h1 (k % 6) then h1 (k / 6) - 1 else h1 (k % 6)) else h1 j := fun h1 => by
          funext j
          unfold hup
          rfl
        refine ⟨T, _, rfl, SqT.of eT, rfl, _, _, rfl, ?_⟩
        walk_at "go"
        refine ⟨ky k, _, 97 + k / 6, rfl, rfl, by rw [e1]; exact szl (by decide), rfl, ?_⟩
        walk_at "go"
        refine ⟨ky k, _, 97 + k % 6, rfl, rfl, by rw [e1]; exact szl (by decide), rfl, ?_⟩
        walk_at "go"
        have hR4 := sb2 R _ dR.symm hR
        have put : ∀ {J5 : Hp} {o : HO}, J5 d = some (.frz od (.dK (tab ky ks g))) → SB d H J5 → (upd J5 D o) d = some (.frz od (.dK (tab ky ks g))) ∧ SB d H (upd J5 D o) := fun a b => ⟨by rw [upd_ne dD]; exact a, fun c o n e => by rw [upd_ne (fun z => by rw [z, nDH] at e; cases e)]; exact b c o n e⟩
        refine ⟨fun σ J5 => J5 d = some (.frz od (.dK (tab ky ks g))) ∧ SB d H J5 ∧ J5 D = some (.dK (tab lt1 (List.range 6) (if 0 < r k then hup h' (k, false) else h'))) ∧ σ = [some (.ref d), some (.ref R), v2, some (.ref D), v4, some (.str (ky k)), some (.int (g k)), some (.str ⟨#[97 + k / 6]⟩), some (.str ⟨#[97 + k % 6]⟩)], ?_, ?_⟩
        · walk_at "go"
          refine ⟨R, _, rfl, tab_get (fun _ _ => ky_inj) hR4 km, ?_⟩
          walk_at "go"
          refine ite2 (fun e => ?_) (fun e => ?_)
          · have e : 0 < r k := of_decide_eq_true e
            walk_at "go"
            refine ⟨D, _, rfl, gD eD4 ka, ?_⟩
            walk_at "go"
            refine ⟨D, _, rfl, gD eD4 kb, ?_⟩
            walk_at "go"
            refine ⟨D, _, rfl, pD _ eD4 ka, ?_⟩
            obtain ⟨a, b⟩ := put (o := .dK (tab lt1 (List.range 6) fun j => if j = k / 6 then (if h' (k % 6) + 1 > h' (k / 6) then h' (k % 6) + 1 else h' (k / 6)) else h' j)) f2 sb2
            exact ⟨a, b, by rw [upd_same, if_pos e, hf], rfl⟩
          · have e : ¬ 0 < r k := fun z => e (decide_eq_true z)
            exact ⟨f2, sb2, by rw [if_neg e]; exact eD4, rfl⟩
        rintro σ J5 ⟨f3, sb3, eD5, rfl⟩
        have hR5 := sb3 R _ dR.symm hR
        have lapk : lap c1 (steps2 g r (ks.take (j + 1))) (csOf h) = csOf (if r k < g k then hup (if 0 < r k then hup h' (k, false) else h') (k, true) else (if 0 < r k then hup h' (k, false) else h')) := by
          rw [tk]
          unfold lap at el ⊢
          rw [List.foldl_append, el]
          unfold ste2
          by_cases c0 : 0 < r k
          · rw [if_pos c0, if_pos c0]
            by_cases c1' : r k < g k
            · rw [if_pos c1', if_pos c1']
              show rx c1 (rx c1 (csOf h') (k, false)) (k, true) = _
              rw [rx_cs (e := (k, false)) kb ka, rx_cs (e := (k, true)) ka kb]
            · rw [if_neg c1', if_neg c1']
              show rx c1 (csOf h') (k, false) = _
              rw [rx_cs (e := (k, false)) kb ka]
          · rw [if_neg c0, if_neg c0]
            by_cases c1' : r k < g k
            · rw [if_pos c1', if_pos c1']
              show rx c1 (csOf h') (k, true) = _
              rw [rx_cs (e := (k, true)) ka kb]
            · rw [if_neg c1', if_neg c1']
              rfl
        generalize (if 0 < r k then hup h' (k, false) else h') = h1 at eD5 lapk
        walk_at "go"
        refine ⟨R, _, rfl, tab_get (fun _ _ => ky_inj) hR5 km, ?_⟩
        walk_at "go"
        refine ite2 (fun e => ?_) (fun e => ?_)
        · have e : r k < g k := of_decide_eq_true e
          rw [if_pos e, ht] at lapk
          walk_at "go"
          refine ⟨D, _, rfl, gD eD5 kb, ?_⟩
          walk_at "go"
          refine ⟨D, _, rfl, gD eD5 ka, ?_⟩
          walk_at "go"
          refine ⟨D, _, rfl, pD _ eD5 kb, ?_⟩
          obtain ⟨a, b⟩ := put (o := .dK (tab lt1 (List.range 6) fun j => if j = k % 6 then (if h1 (k / 6) - 1 > h1 (k % 6) then h1 (k / 6) - 1 else h1 (k % 6)) else h1 j)) f3 sb3
          exact ⟨a, b, ⟨_, upd_same, lapk⟩, _, _, _, _, _, rfl⟩
        · have e : ¬ r k < g k := fun z => e (decide_eq_true z)
          rw [if_neg e] at lapk
          exact ⟨f3, sb3, ⟨_, eD5, lapk⟩, _, _, _, _, _, rfl⟩
      · rintro σ J ⟨f1, sb1, ⟨h', eD3, el⟩, v4, v5, v6, v7, v8, rfl⟩
        rw [List.take_length] at el
        refine ⟨f1, ?_⟩
        have s9 : Same H (upd J d (.dK (tab ky ks g))) := fun a o e => by
          by_cases c : a = d
          · subst c
            rw [upd_same, ← hd, e]
          · rw [upd_ne c]
            exact sb1 a o c e
        exact ⟨s9, ⟨h', by rw [upd_ne dD.symm]; exact eD3, by show lap c1 _ (it c1 _ _ i) = _; rw [eh]; exact el⟩, _, _, _, _, _, _, rfl⟩
    rintro σ J ⟨s2, ⟨h, eH, eh⟩, v2, v4, v5, v6, v7, v8, rfl⟩
    obtain ⟨z1, z2⟩ := heights_done pot (fun k m => (hk k m).1) eh
    walk_at "go"
    intro D1 nD1
    refine lc_abc (fun _ => true) (fun k => .int (h k)) nD1 (fun _ => rfl) (fun k H1 Q _ _ q => q) (fun k H1 Q hk6 _ s q => ?_) (fun H1 sB eB => ?_)
    · walk_at "go"
      exact ⟨D, _, rfl, gD (s _ _ eH) hk6, q⟩
    rw [List.filter_eq_self.mpr (fun _ _ => rfl)] at eB
    walk_at "go"
    refine ⟨D1, _, rfl, .inl ⟨SqL.of eB, fun T nT => ?_⟩⟩
    exact q T h _ (s2.trans (sB.trans (same_new nT))) upd_same z1 z2 eh
def spSetOff : Sp := fun vs H Q _ => ∃ (d : Addr) (ks : List Nat) (g : Nat → Int), vs = [.ref d] ∧ H d = some (.dK (tab ky ks g)) ∧ ks.Nodup ∧ (∀ k ∈ ks, KOk k ∧ 0 ≤ g k) ∧ ks.length ≤ 36 ∧
  ∀ t R T js (r h : Nat → Int) H', Same H H' → H R = none → H' t = some (.tup [.ref R, .ref T]) → H' R = some (.dK (tab ky js r)) → js.Pairwise (· < ·) → (∀ k, k ∈ js ↔ k ∈ ks ∧ 0 < r k) → (∀ k ∈ ks, 0 ≤ r k ∧ r k ≤ g k) → (∀ p, p < 6 → nt (ent ks r) p = nt (ent ks g) p) → H' T = some (.tup (hV h)) → (∀ k ∈ ks, 0 < r k → h (k % 6) + 1 ≤ h (k / 6)) → (∀ k ∈ ks, r k < g k → h (k / 6) - 1 ≤ h (k % 6)) → (∃ (bs : List Nat) (r0 : Nat → Int), bs.Pairwise (· < ·) ∧ (∀ k, k ∈ bs ↔ k ∈ ks ∧ 0 < g k) ∧ Run bs g (fun _ => 0) (nt (ent bs g)) r0 ∧ (∀ k ∈ bs, r k = r0 k) ∧ (∀ k, k ∉ bs → r k = 0) ∧ it c1 (steps2 g r0 bs) (csOf fun _ => 0) 6 = csOf h) → Q (.ref t) H'
theorem ok_set_off (F : FnP K "set_off" s_set_off f fd) (c_check_debts : Cal P w K mg base 3 "check_debts" spCheck) (c_tidy : Cal P w K mg base 1 "tidy" spTidy) (c_least_rest : Cal P w K mg base 5 "least_rest" spLeast) (c_heights_of : Cal P w K mg base 1 "heights_of" spHeights) : FnOk P w K mg base CX0 6 f fd P_set_off spSetOff := by
  refine F.ok sc_set_off (fun vs H Q E h => ?_) (fun cdv A outer s H vs Q E hr h => ?_)
  · obtain ⟨d, ks, g, rfl, _⟩ := h
    rfl
  · obtain ⟨d, ks, g, rfl, hd, nd, hk, lk, q⟩ := h
    refine ⟨_, PSs.nox (pss_cons (ps_expr (pe_cl c_check_debts hr (by decide) (by rfl) (pa_cons (pv 0) pa_nil)))
      (pss_cons (ps_set (i := 1) sc_set_off.nd rfl (by first | exact .inl rfl | exact .inr rfl) (pe_cl c_tidy hr (by decide) (by rfl) (pa_cons (pv 0) pa_nil)))
      (pss_cons (ps_set (i := 2) sc_set_off.nd rfl (by first | exact .inl rfl | exact .inr rfl) (pe_cl c_least_rest hr (by decide) (by rfl) (pa_cons (pv 1) pa_nil)))
      (pss_one (ps_ret (pe_tup (pa_cons (pe_cl c_tidy hr (by decide) (by rfl) (pa_cons (pv 2) pa_nil)) (pa_cons (pe_cl c_heights_of hr (by decide) (by rfl) (pa_cons (pv 1) (pa_cons (pv 2) pa_nil))) pa_nil)))))))), ?_⟩
    walk_at "go"
    refine ⟨d, ks, g, rfl, hd, hk, by omega, fun H1 s1 => ?_⟩
    walk_at "go"
    refine ⟨d, ks, g, rfl, s1 _ _ hd, nd, by omega, fun b bs H2 s2 asc mem nb eb => ?_⟩
    have bsub : ∀ k ∈ bs, k ∈ ks := fun k m => ((mem k).mp m).1
    have bnd : bs.Nodup := asc.imp fun h => Nat.ne_of_lt h
    have bk : ∀ k ∈ bs, KOk k ∧ 0 ≤ g k := fun k m => hk k (bsub k m)
    have bl : bs.length ≤ 36 := nodup_len6 bnd fun k m => (bk k m).1.1
    walk_at "go"
    refine ⟨b, bs, g, rfl, eb, bnd, bk, bl, fun R r π H3 s3 nR eR hr hn pot run => ?_⟩
    have bR : b ≠ R := fun e => by rw [← e, eb] at nR; cases nR
    walk_at "go"
    refine ⟨R, bs, r, rfl, eR, bnd, by omega, fun R2 js H4 s4 asc2 mem2 nR2 eR2 => ?_⟩
    walk_at "go"
    have s123 := s1.trans (s2.trans s3)
    refine ⟨b, R, bs, g, r, π, rfl, s4 _ _ (s3 _ _ eb), s4 _ _ eR, bR, fun k m => (bk k m).1, bl, pot, fun T h H5 s5 eT z1 z2 hit => ?_⟩
    walk_at "go"
    intro t nt'
    have s6 := same_new (o := .tup [.ref R2, .ref T]) nt'
    obtain ⟨r', e1, e2⟩ : ∃ r' : Nat → Int, (∀ k ∈ bs, r' k = r k) ∧ ∀ k, k ∉ bs → r' k = 0 := ⟨fun k => if k ∈ bs then r k else 0, fun k m => if_pos m, fun k m => if_neg m⟩
    have g0 : ∀ k ∈ ks, k ∉ bs → g k = 0 := fun k m z => by
      have := (hk k m).2
      have : ¬ 0 < g k := fun y => z ((mem k).mpr ⟨m, y⟩)
      omega
    have pos : ∀ k, 0 < r' k → k ∈ bs := fun k y => Classical.byContradiction fun z => by rw [e2 k z] at y; omega
    refine q t R2 T js r' h _ (s123.trans (s4.trans (s5.trans s6))) (none_of s123 nR2) upd_same ?_ asc2 (fun k => ?_) (fun k m => ?_) (fun p hp => ?_) (s6 _ _ eT) (fun k m y => ?_) (fun k m y => ?_) ⟨bs, r, asc, mem, run, e1, e2, hit⟩
    · rw [s6 _ _ (s5 _ _ eR2)]
      exact congrArg _ (congrArg _ (tab_congr fun k m => (e1 k ((mem2 k).mp m).1).symm))
    · rw [mem2 k]
      constructor
      · rintro ⟨m, y⟩
        exact ⟨bsub k m, by rw [e1 k m]; exact y⟩
      · rintro ⟨_, y⟩
        have m := pos k y
        exact ⟨m, by rw [← e1 k m]; exact y⟩
    · by_cases z : k ∈ bs
      · rw [e1 k z]
        exact hr k z
      · rw [e2 k z]
        exact ⟨Int.le_refl _, (hk k m).2⟩
    · rw [nt_sub_keys nd bnd bsub (fun k _ z => e2 k z), nt_sub_keys nd bnd bsub g0, nt_congr e1, hn p hp]
    · have z := pos k y
      rw [e1 k z] at y
      exact z1 k z y
    · by_cases z : k ∈ bs
      · rw [e1 k z] at y
        exact z2 k z y
      · rw [e2 k z, g0 k m z] at y
        omega
end
end Z
set_option Elab.async false
set_option linter.all false
set_option maxRecDepth 100000
set_option maxHeartbeats 4000000
namespace Z
open PySem PySem.Spec PyProof.Rows L2 SO
open SX (S S_inj S_len S_cat)
/-! ### one list of keys for all debts -/
def U : List Nat := List.range 36
theorem U_nd : U.Nodup := List.nodup_range
theorem U_lt {k : Nat} (h : k ∈ U) : k < 36 := List.mem_range.mp h
/-- debts: the dict has the keys ks and the amounts g; g is 0 elsewhere -/
structure Db (H : Hp) (D : Addr) (ks : List Nat) (g : Nat → Int) : Prop where
  e : H D = some (.dK (tab ky ks g))
  nd : ks.Nodup
  ok : ∀ k ∈ ks, KOk k ∧ 0 ≤ g k
  z : ∀ k, k ∉ ks → g k = 0
theorem Db.len {H : Hp} {D : Addr} {ks : List Nat} {g : Nat → Int} (d : Db H D ks g) : ks.length ≤ 36 := nodup_len6 d.nd fun k m => (d.ok k m).1.1
theorem Db.nn {H : Hp} {D : Addr} {ks : List Nat} {g : Nat → Int} (d : Db H D ks g) (k : Nat) : 0 ≤ g k := by
  by_cases m : k ∈ ks
  · exact (d.ok k m).2
  · rw [d.z k m]
    exact Int.le_refl _
theorem Db.sub {H : Hp} {D : Addr} {ks : List Nat} {g : Nat → Int} (d : Db H D ks g) : ∀ k ∈ ks, k ∈ U := fun k m => List.mem_range.mpr (d.ok k m).1.1
theorem Db.mono {H H' : Hp} {D : Addr} {ks : List Nat} {g : Nat → Int} (d : Db H D ks g) (s : Same H H') : Db H' D ks g := ⟨s _ _ d.e, d.nd, d.ok, d.z⟩
theorem Db.nt {H : Hp} {D : Addr} {ks : List Nat} {g : Nat → Int} (d : Db H D ks g) (p : Nat) : Z.nt (ent U g) p = Z.nt (ent ks g) p := nt_sub_keys U_nd d.nd d.sub (fun k _ z => d.z k z) p
theorem tot_sub {f : Nat → Int} {ks bs : List Nat} (nk : ks.Nodup) (nb : bs.Nodup) (sub : ∀ k ∈ bs, k ∈ ks) (z : ∀ k ∈ ks, k ∉ bs → f k = 0) (P : Nat → Bool) : tot P (ent ks f) = tot P (ent bs f) := by
  rw [← tot_ent P nk (rs := ent bs f) (fun r hr k e => by
    unfold ent at hr
    obtain ⟨j, hj, rfl⟩ := List.mem_map.mp hr
    cases e
    exact .inl (sub _ hj))]
  refine tot_congr _ fun k m => ?_
  rw [sm_ent k nb]
  by_cases c : k ∈ bs
  · rw [if_pos c]
  · rw [if_neg c, z k m c]
theorem tot_all (f : Nat → Int) : ∀ ks : List Nat, tot (fun _ => true) (ent ks f) = sumK ks f
  | [] => rfl
  | k :: r => by
    have ih := tot_all f r
    show (if true = true then f k else 0) + tot _ (ent r f) = f k + sumK r f
    rw [if_pos rfl, ih]
theorem Db.sum {H : Hp} {D : Addr} {ks : List Nat} {g : Nat → Int} (d : Db H D ks g) : sumK ks g = sumK U g := by
  rw [← tot_all, ← tot_all, tot_sub U_nd d.nd d.sub (fun k _ z => d.z k z)]
/-- what set_off gives: r is a rest of g with the heights h -/
structure Res (g r h : Nat → Int) : Prop where
  b : ∀ k, 0 ≤ r k ∧ r k ≤ g k
  n : ∀ p, p < 6 → Z.nt (ent U r) p = Z.nt (ent U g) p
  up : ∀ k, k < 36 → 0 < r k → h (k % 6) + 1 ≤ h (k / 6)
  dn : ∀ k, k < 36 → r k < g k → h (k / 6) - 1 ≤ h (k % 6)
/-- x is one of the rests of g -/
def Fe (g x : Nat → Int) : Prop := (∀ k, 0 ≤ x k ∧ x k ≤ g k) ∧ ∀ p, p < 6 → Z.nt (ent U x) p = Z.nt (ent U g) p
theorem Res.fe {g r h : Nat → Int} (w : Res g r h) : Fe g r := ⟨w.b, w.n⟩
theorem Fe.trans {g x y : Nat → Int} (a : Fe g x) (b : Fe x y) : Fe g y := ⟨fun k => by have := a.1 k; have := b.1 k; omega, fun p hp => (b.2 p hp).trans (a.2 p hp)⟩
theorem Res.le_of {g r h x : Nat → Int} (w : Res g r h) (f : Fe g x) : sumK U r ≤ sumK U x :=
  least (H := h) (d := g) (fun k m => U_lt m) (fun k _ => w.b k) (fun k _ => f.1 k) (fun p hp => (w.n p hp).trans (f.2 p hp).symm) (fun k m => w.up k (U_lt m)) (fun k m => w.dn k (U_lt m))
/-! ### adding -/
def addd (g : Nat → Int) (k : Nat) (c : Int) : Nat → Int := fun j => if j = k then g j + c else g j
theorem nt_add {g : Nat → Int} {k : Nat} (hk : k < 36) (c : Int) (p : Nat) : Z.nt (ent U (addd g k c)) p = Z.nt (ent U g) p + (if k % 6 = p then c else 0) - (if k / 6 = p then c else 0) := nt_one U_nd g (List.mem_range.mpr hk) c p
theorem Fe.add {g x : Nat → Int} (f : Fe g x) {k : Nat} (hk : k < 36) {c : Int} (c0 : 0 ≤ c) : Fe (addd g k c) (addd x k c) := by
  refine ⟨fun j => ?_, fun p hp => by rw [nt_add hk, nt_add hk, f.2 p hp]⟩
  have := f.1 j
  unfold addd
  split <;> omega
/-! ### rings -/
def cdA (w : List Nat) (i : Nat) : Nat := 6 * w.getD i 0 + w.getD (i + 1) 0
def rcs (w : List Nat) (n : Nat) : List Nat := (List.range n).map (cdA w)
def subP (x : Nat → Int) (m : Int) (P : List Nat) : Nat → Int := fun j => if j ∈ P then x j - m else x j
theorem rcs_succ (w : List Nat) (n : Nat) : rcs w (n + 1) = rcs w n ++ [cdA w n] := by
  unfold rcs
  rw [List.range_succ, List.map_append]
  rfl
theorem subP_succ {w : List Nat} {n : Nat} (x : Nat → Int) (m : Int) (h : cdA w n ∉ rcs w n) : subP x m (rcs w (n + 1)) = fun j => if j = cdA w n then subP x m (rcs w n) j + (0 - m) else subP x m (rcs w n) j := by
  funext j
  unfold subP
  rw [rcs_succ]
  by_cases e : j = cdA w n
  · subst e
    rw [if_pos (by simp), if_pos rfl, if_neg h]
    omega
  · rw [if_neg e]
    have : (j ∈ rcs w n ++ [cdA w n]) ↔ j ∈ rcs w n := by simp [e]
    by_cases c : j ∈ rcs w n
    · rw [if_pos c, if_pos (this.mpr c)]
    · rw [if_neg c, if_neg (fun z => c (this.mp z))]
/-- the n first marks of w are different parties -/
def Dif (w : List Nat) (n : Nat) : Prop := ∀ i j, i < j → j < n → w.getD i 0 ≠ w.getD j 0
theorem cdA_div {w : List Nat} (h : ∀ i, w.getD i 0 < 6) (i : Nat) : cdA w i / 6 = w.getD i 0 := by
  have := h (i + 1)
  unfold cdA
  omega
theorem cdA_mod {w : List Nat} (h : ∀ i, w.getD i 0 < 6) (i : Nat) : cdA w i % 6 = w.getD (i + 1) 0 := by
  have := h (i + 1)
  unfold cdA
  omega
theorem rcs_new {w : List Nat} {n m : Nat} (h : ∀ i, w.getD i 0 < 6) (d : Dif w m) (hn : n < m) : cdA w n ∉ rcs w n := fun z => by
  unfold rcs at z
  obtain ⟨i, hi, e⟩ := List.mem_map.mp z
  have hi := List.mem_range.mp hi
  refine d i n hi hn ?_
  rw [← cdA_div h, ← cdA_div h, e]
theorem ring_nt {ks : List Nat} (nd : ks.Nodup) {w : List Nat} {m : Nat} (h : ∀ i, w.getD i 0 < 6) (d : Dif w m) (x : Nat → Int) (c : Int) (p : Nat) : ∀ n, n ≤ m → (∀ i, i < n → cdA w i ∈ ks) → nt (ent ks (subP x c (rcs w n))) p = nt (ent ks x) p + (if w.getD 0 0 = p then c else 0) - (if w.getD n 0 = p then c else 0)
  | 0, _, _ => by
    have : subP x c (rcs w 0) = x := by
      funext j
      exact if_neg (by unfold rcs; simp)
    rw [this]
    omega
  | n + 1, hn, hk => by
    have ih := ring_nt nd h d x c p n (by omega) fun i hi => hk i (by omega)
    rw [subP_succ x c (rcs_new h d (by omega)), nt_one nd _ (hk n (by omega)), ih, cdA_div h, cdA_mod h]
    split <;> split <;> split <;> omega
theorem ring_same {ks : List Nat} (nd : ks.Nodup) {w : List Nat} {m : Nat} (h : ∀ i, w.getD i 0 < 6) (d : Dif w m) (x : Nat → Int) (c : Int) (p : Nat) (hk : ∀ i, i < m → cdA w i ∈ ks) (cl : w.getD m 0 = w.getD 0 0) : nt (ent ks (subP x c (rcs w m))) p = nt (ent ks x) p := by
  rw [ring_nt nd h d x c p m (Nat.le_refl _) hk, cl]
  omega
end Z
set_option Elab.async false
set_option linter.all false
set_option maxRecDepth 100000
set_option maxHeartbeats 4000000
namespace Z
open PySem PySem.Spec PyProof.Rows L2 SO
open SX (S S_inj S_len S_cat)
/-! ### determined rests -/
def posK (g : Nat → Int) : List Nat := (List.range 36).filter fun k => decide (0 < g k)
theorem mem_posK {g : Nat → Int} {k : Nat} : k ∈ posK g ↔ k < 36 ∧ 0 < g k := by
  unfold posK
  rw [List.mem_filter, List.mem_range, decide_eq_true_iff]
theorem posK_asc (g : Nat → Int) : (posK g).Pairwise (· < ·) := List.pairwise_lt_range.filter _
theorem posK_of {g : Nat → Int} {bs : List Nat} (a : bs.Pairwise (· < ·)) (m : ∀ k, k ∈ bs ↔ k < 36 ∧ 0 < g k) : bs = posK g := asc_extN a (posK_asc g) fun k => by rw [m, mem_posK]
def Fin (g r h : Nat → Int) : Prop := ∃ r0 : Nat → Int, Run (posK g) g (fun _ => 0) (nt (ent (posK g) g)) r0 ∧ (∀ k ∈ posK g, r k = r0 k) ∧ (∀ k, k ∉ posK g → r k = 0) ∧ it c1 (steps2 g r0 (posK g)) (csOf fun _ => 0) 6 = csOf h
theorem Fin.det {g r h r' h' : Nat → Int} (a : Fin g r h) (b : Fin g r' h') : r = r' ∧ ∀ p, p < 6 → h p = h' p := by
  obtain ⟨x, a1, a2, a3, a4⟩ := a
  obtain ⟨y, b1, b2, b3, b4⟩ := b
  have e := run_det a1 b1
  subst e
  refine ⟨funext fun k => ?_, fun p hp => ?_⟩
  · by_cases m : k ∈ posK g
    · rw [a2 k m, b2 k m]
    · rw [a3 k m, b3 k m]
  · have e := congrFun (a4.symm.trans b4) p
    unfold csOf at e
    rw [if_pos hp, if_pos hp] at e
    have e := Option.some.inj e
    omega
theorem hV_congr {h h' : Nat → Int} (e : ∀ p, p < 6 → h p = h' p) : hV h = hV h' := List.map_congr_left fun p m => by rw [e p (List.mem_range.mp m)]
theorem sumK_all0 {F : Nat → Int} : ∀ {ks : List Nat}, (∀ k ∈ ks, 0 ≤ F k) → sumK ks F = 0 → ∀ k ∈ ks, F k = 0
  | [], _, _, k, m => absurd m (by simp)
  | j :: r, h, e, k, m => by
    have h0 := h j List.mem_cons_self
    have hr : 0 ≤ sumK r F := by
      have := sumK_le (F := fun _ => 0) (G := F) (ks := r) fun x mx => h x (List.mem_cons_of_mem _ mx)
      rw [sumK_zero] at this
      exact this
    rw [sumK_cons] at e
    rcases List.mem_cons.mp m with rfl | m
    · omega
    · exact sumK_all0 (fun x mx => h x (List.mem_cons_of_mem _ mx)) (by omega) k m
/-- the same nets weigh the same -/
theorem flow_same {f g : Nat → Int} (H : Nat → Int) (n : ∀ p, p < 6 → nt (ent U f) p = nt (ent U g) p) : sumK U (fun k => (g k - f k) * (H (k % 6) - H (k / 6))) = 0 := by
  have a := flowH H f (ks := U) fun k m => U_lt m
  have b := flowH H g (ks := U) fun k m => U_lt m
  have c : S6 (fun p => H p * nt (ent U f) p) = S6 (fun p => H p * nt (ent U g) p) := s6_congr fun p hp => by rw [n p hp]
  have d : sumK U (fun k => (g k - f k) * (H (k % 6) - H (k / 6))) = sumK U (fun k => g k * (H (k % 6) - H (k / 6)) - f k * (H (k % 6) - H (k / 6))) := sumK_congr fun k _ => by rw [Int.sub_mul]
  rw [d, sumK_sub]
  omega
theorem mul_nn {a b : Int} (h : 0 ≤ a) (k : 0 ≤ b) : 0 ≤ a * b := Int.mul_nonneg h k
/-- the rest of a rest is the rest -/
theorem Res.again {g r h r2 h2 : Nat → Int} (w : Res g r h) (v : Res r r2 h2) (z : ∀ k, 36 ≤ k → r k = 0) : r2 = r := by
  have e := flow_same h v.n
  have e2 : sumK U (fun k => (r k - r2 k) * (h (k / 6) - h (k % 6))) = 0 := by
    have : sumK U (fun k => (r k - r2 k) * (h (k / 6) - h (k % 6))) = sumK U (fun k => 0 - (r k - r2 k) * (h (k % 6) - h (k / 6))) := sumK_congr fun k _ => by
      rw [← Int.neg_sub (h (k % 6)), Int.mul_neg]
      omega
    rw [this, sumK_sub (fun _ => 0) (fun k => (r k - r2 k) * (h (k % 6) - h (k / 6))), sumK_zero, e]
    rfl
  funext k
  by_cases hk : k < 36
  · have h0 := sumK_all0 (fun j m => ?_) e2 k (List.mem_range.mpr hk)
    · have b := v.b k
      by_cases c : r2 k = r k
      · exact c
      · have up := w.up k hk (by omega)
        have h1 : 0 < r k - r2 k := by omega
        have h2 : 0 < h (k / 6) - h (k % 6) := by omega
        have := Int.mul_pos h1 h2
        omega
    · have b := v.b j
      by_cases c : 0 < r j
      · have up := w.up j (U_lt m) c
        exact mul_nn (by omega) (by omega)
      · have e0 : r j - r2 j = 0 := by omega
        show 0 ≤ (r j - r2 j) * _
        rw [e0, Int.zero_mul]
        exact Int.le_refl _
  · have e0 := z k (by omega)
    have b := v.b k
    omega
/-- a debt into a closed set stays -/
theorem Res.stays {g r h : Nat → Int} (w : Res g r h) (T : Nat → Bool) (cl : ∀ k, k < 36 → 0 < g k → T (k / 6) = true → T (k % 6) = true) {k : Nat} (hk : k < 36) (a : T (k / 6) = false) (b : T (k % 6) = true) : r k = g k := by
  have e := flow_same (fun p => if T p = true then 1 else 0) w.n
  have h0 := sumK_all0 (fun j m => ?_) e k (List.mem_range.mpr hk)
  · rw [a, b, if_pos rfl, if_neg (by decide)] at h0
    omega
  · have bb := w.b j
    show 0 ≤ (g j - r j) * ((if T (j % 6) = true then (1 : Int) else 0) - if T (j / 6) = true then 1 else 0)
    by_cases c : 0 < g j
    · refine mul_nn (by omega) ?_
      have := cl j (U_lt m) c
      by_cases d : T (j / 6) = true
      · rw [if_pos d, if_pos (this d)]
        decide
      · rw [if_neg d]
        split <;> decide
    · have e0 : g j - r j = 0 := by omega
      rw [e0, Int.zero_mul]
      exact Int.le_refl _
/-! ### single rings -/
theorem tot_congrP (P : Nat → Bool) {g h : Nat → Int} : ∀ {ks : List Nat}, (∀ k ∈ ks, P k = true → g k = h k) → tot P (ent ks g) = tot P (ent ks h)
  | [], _ => rfl
  | k :: r, e => by
    show (if P k then g k else 0) + tot P (ent r g) = (if P k then h k else 0) + tot P (ent r h)
    rw [tot_congrP P fun x hx => e x (List.mem_cons_of_mem _ hx)]
    by_cases c : P k = true
    · rw [if_pos c, if_pos c, e k List.mem_cons_self c]
    · rw [if_neg c, if_neg c]
theorem nt_congrP {g h : Nat → Int} {ks : List Nat} {p : Nat} (e : ∀ k ∈ ks, k / 6 = p ∨ k % 6 = p → g k = h k) : nt (ent ks g) p = nt (ent ks h) p := by
  unfold nt rcv gvn
  rw [tot_congrP (fun j => decide (j % 6 = p)) (h := h) fun k m z => e k m (.inr (of_decide_eq_true z)), tot_congrP (fun j => decide (j / 6 = p)) (h := h) fun k m z => e k m (.inl (of_decide_eq_true z))]
def rc (ps : List Nat) (i : Nat) : Nat := 6 * ps.getD i 0 + ps.getD ((i + 1) % ps.length) 0
structure RK (ps ks : List Nat) : Prop where
  nd : ps.Nodup
  lt : ∀ x ∈ ps, x < 6
  l2 : 2 ≤ ps.length
  ring : ∀ i, i < ps.length → rc ps i ∈ ks
  oth : ∀ k ∈ ks, (∃ i, i < ps.length ∧ k = rc ps i) ∨ ∃ q, q ∉ ps ∧ ((k / 6 = q ∧ k % 6 ∈ ps) ∨ (k % 6 = q ∧ k / 6 ∈ ps)) ∧ ∀ j ∈ ks, j / 6 = q ∨ j % 6 = q → j = k
theorem nt_single {k : Nat} (hk : k < 36) (n : Int) (p : Nat) : nt (ent U fun j => if j = k then n else 0) p = (if k % 6 = p then n else 0) - (if k / 6 = p then n else 0) := by
  have z := nt_one U_nd (fun _ => 0) (List.mem_range.mpr hk) n p
  have e : (fun j : Nat => if j = k then (0 : Int) + n else 0) = fun j => if j = k then n else 0 := funext fun j => by rw [Int.zero_add]
  rw [e] at z
  rw [z, nt_zero]
  omega
theorem RK.get {ps ks : List Nat} (R : RK ps ks) (i : Nat) : ps.getD i 0 < 6 := by
  rw [List.getD_eq_getElem?_getD]
  cases e : ps[i]? with
  | none => decide
  | some x => exact R.lt x (List.mem_of_getElem? e)
theorem RK.div {ps ks : List Nat} (R : RK ps ks) (i : Nat) : rc ps i / 6 = ps.getD i 0 := by
  have := R.get ((i + 1) % ps.length)
  unfold rc
  omega
theorem RK.mod {ps ks : List Nat} (R : RK ps ks) (i : Nat) : rc ps i % 6 = ps.getD ((i + 1) % ps.length) 0 := by
  have := R.get ((i + 1) % ps.length)
  unfold rc
  omega
theorem RK.inj {ps ks : List Nat} (R : RK ps ks) {i j : Nat} (hi : i < ps.length) (hj : j < ps.length) (e : ps.getD i 0 = ps.getD j 0) : i = j := by
  rw [List.getD_eq_getElem?_getD, List.getD_eq_getElem?_getD, List.getElem?_eq_getElem hi, List.getElem?_eq_getElem hj] at e
  exact (List.getElem_inj R.nd).mp e
theorem succ_inj {m i j : Nat} (hi : i < m) (hj : j < m) (e : (i + 1) % m = (j + 1) % m) : i = j := by
  by_cases a : i + 1 < m
  · rw [Nat.mod_eq_of_lt a] at e
    by_cases b : j + 1 < m
    · rw [Nat.mod_eq_of_lt b] at e
      omega
    · rw [show j + 1 = m by omega, Nat.mod_self] at e
      omega
  · rw [show i + 1 = m by omega, Nat.mod_self] at e
    by_cases b : j + 1 < m
    · rw [Nat.mod_eq_of_lt b] at e
      omega
    · omega
theorem succ_ne {m i : Nat} (h : 2 ≤ m) (hi : i < m) : (i + 1) % m ≠ i := by
  by_cases a : i + 1 < m
  · rw [Nat.mod_eq_of_lt a]
    omega
  · rw [show i + 1 = m by omega, Nat.mod_self]
    omega
theorem nt_addf (f g : Nat → Int) (p : Nat) (ks : List Nat) : nt (ent ks fun k => f k + g k) p = nt (ent ks f) p + nt (ent ks g) p := by
  unfold nt rcv gvn
  rw [tot_ent_add, tot_ent_add]
  omega
def ringL (ps : List Nat) : List Nat := (List.range ps.length).map (rc ps)
theorem mem_ringL {ps : List Nat} {k : Nat} : k ∈ ringL ps ↔ ∃ i, i < ps.length ∧ k = rc ps i := by
  unfold ringL
  rw [List.mem_map]
  exact ⟨fun ⟨i, h, e⟩ => ⟨i, List.mem_range.mp h, e.symm⟩, fun ⟨i, h, e⟩ => ⟨i, List.mem_range.mpr h, e.symm⟩⟩
theorem ring_rest {ps ks : List Nat} {g r h : Nat → Int} (R : RK ps ks) (w : Res g r h) (z : ∀ k, k ∉ ks → g k = 0) (hk : ∀ k ∈ ks, k < 36 ∧ k / 6 ≠ k % 6) {m : Int} (mm : ∃ i, i < ps.length ∧ m = g (rc ps i)) (ml : ∀ i, i < ps.length → m ≤ g (rc ps i)) (k : Nat) : r k = if k ∈ ringL ps then g k - m else g k := by
  have n0 : ∀ p, p < 6 → nt (ent U fun k => g k - r k) p = 0 := fun p hp => by
    rw [nt_sub, w.n p hp]
    omega
  have out0 : ∀ k, k ∉ ks → g k - r k = 0 := fun k m => by
    have := w.b k
    have := z k m
    omega
  have oth0 : ∀ k, k ∉ ringL ps → g k - r k = 0 := fun k nr => by
    by_cases m : k ∈ ks
    · rcases R.oth k m with h | ⟨q, qn, hq, un⟩
      · exact absurd (mem_ringL.mpr h) nr
      · obtain ⟨k36, kne⟩ := hk k m
        have q6 : q < 6 := by omega
        have e : nt (ent U fun k => g k - r k) q = nt (ent U fun j => if j = k then g k - r k else 0) q := nt_congrP fun j mj inv => by
          by_cases c : j ∈ ks
          · rw [un j c inv, if_pos rfl]
          · rw [if_neg (fun e : j = k => c (e ▸ m))]
            exact out0 j c
        rw [n0 q q6, nt_single k36] at e
        rcases hq with ⟨h1, _⟩ | ⟨h1, _⟩
        · rw [if_pos h1, if_neg (by omega)] at e
          omega
        · rw [if_pos h1, if_neg (by omega)] at e
          omega
    · exact out0 k m
  have same : ∀ i, i < ps.length → g (rc ps i) - r (rc ps i) = g (rc ps ((i + 1) % ps.length)) - r (rc ps ((i + 1) % ps.length)) := fun i hi => by
    have hj : (i + 1) % ps.length < ps.length := Nat.mod_lt _ (by omega)
    have ji := succ_ne R.l2 hi
    have jj := succ_ne R.l2 hj
    obtain ⟨i36, ine⟩ := hk _ (R.ring i hi)
    obtain ⟨j36, jne⟩ := hk _ (R.ring _ hj)
    have di := R.div i
    have mi := R.mod i
    have dj := R.div ((i + 1) % ps.length)
    have mj := R.mod ((i + 1) % ps.length)
    have rij : rc ps i ≠ rc ps ((i + 1) % ps.length) := fun e => ji (R.inj hi hj (by rw [← di, ← dj, e])).symm
    have e : nt (ent U fun k => g k - r k) (ps.getD ((i + 1) % ps.length) 0) = nt (ent U fun k => (if k = rc ps i then g (rc ps i) - r (rc ps i) else 0) + (if k = rc ps ((i + 1) % ps.length) then g (rc ps ((i + 1) % ps.length)) - r (rc ps ((i + 1) % ps.length)) else 0)) (ps.getD ((i + 1) % ps.length) 0) := nt_congrP fun k mk inv => by
      by_cases c : k ∈ ringL ps
      · obtain ⟨a, ha, rfl⟩ := mem_ringL.mp c
        rcases inv with h1 | h1
        · rw [R.div] at h1
          have ea := R.inj ha hj h1
          rw [← ea]
          rw [if_neg (fun e => ji (R.inj hi hj (by rw [← di, ← e, R.div, ea])).symm), if_pos rfl]
          omega
        · rw [R.mod] at h1
          have ea := succ_inj ha hi (R.inj (Nat.mod_lt _ (by omega)) hj h1)
          rw [ea, if_pos rfl, if_neg rij]
          omega
      · rw [oth0 k c, if_neg (fun e => c (mem_ringL.mpr ⟨_, hi, e⟩)), if_neg (fun e => c (mem_ringL.mpr ⟨_, hj, e⟩))]
        rfl
    rw [n0 _ (R.get _), nt_addf, nt_single i36, nt_single j36, di, mi, dj, mj] at e
    rw [if_pos rfl, if_pos rfl, if_neg (fun e => ji (R.inj hi hj e).symm), if_neg (fun e => jj (R.inj (Nat.mod_lt _ (by omega)) hj e))] at e
    omega
  have all : ∀ i, i < ps.length → g (rc ps i) - r (rc ps i) = g (rc ps 0) - r (rc ps 0) := by
    intro i
    induction i with
    | zero => exact fun _ => rfl
    | succ i ih =>
      intro hi
      have := same i (by omega)
      rw [Nat.mod_eq_of_lt hi] at this
      rw [← this]
      exact ih (by omega)
  have zero : ∃ i, i < ps.length ∧ r (rc ps i) = 0 := Classical.byContradiction fun no => by
    have pos : ∀ i, i < ps.length → h (ps.getD ((i + 1) % ps.length) 0) + 1 ≤ h (ps.getD i 0) := fun i hi => by
      have b := (w.b (rc ps i)).1
      have c : r (rc ps i) ≠ 0 := fun e => no ⟨i, hi, e⟩
      have := w.up _ (hk _ (R.ring i hi)).1 (by omega)
      rw [R.div, R.mod] at this
      exact this
    have down : ∀ i, i < ps.length → h (ps.getD i 0) + i ≤ h (ps.getD 0 0) := by
      intro i
      induction i with
      | zero => exact fun _ => by omega
      | succ i ih =>
        intro hi
        have a := pos i (by omega)
        rw [Nat.mod_eq_of_lt hi] at a
        have b := ih (by omega)
        omega
    have l2 := R.l2
    have a := pos (ps.length - 1) (by omega)
    rw [show ps.length - 1 + 1 = ps.length by omega, Nat.mod_self] at a
    have b := down (ps.length - 1) (by omega)
    omega
  have dm : g (rc ps 0) - r (rc ps 0) = m := by
    obtain ⟨i, hi, ri⟩ := zero
    obtain ⟨j, hj, em⟩ := mm
    have a := all i hi
    have b := all j hj
    have c := ml i hi
    have d := (w.b (rc ps j)).1
    omega
  by_cases c : k ∈ ringL ps
  · rw [if_pos c]
    obtain ⟨i, hi, rfl⟩ := mem_ringL.mp c
    have := all i hi
    omega
  · rw [if_neg c]
    have := oth0 k c
    omega
end Z
set_option Elab.async false
set_option linter.all false
set_option maxRecDepth 100000
set_option maxHeartbeats 4000000
namespace Z
open PySem PySem.Spec PyProof.Rows L2
open SX (S S_inj S_len S_cat)
theorem fltL_opt {α : Type} (P : α → Bool) (G : α → V) (zs : List α) : fltL (fun k => (zs[k]?.map P).getD false) (fun k => (zs[k]?.map G).getD .non) zs.length = (zs.filter P).map G := by
  have e1 : (List.range zs.length).map (fun k => zs[k]?) = zs.map some := by
    refine List.ext_getElem (by rw [List.length_map, List.length_map, List.length_range]) fun i h1 h2 => ?_
    rw [List.length_map] at h2
    rw [List.getElem_map, List.getElem_map, List.getElem_range, List.getElem?_eq_getElem h2]
  have e2 : fltL (fun k => (zs[k]?.map P).getD false) (fun k => (zs[k]?.map G).getD .non) zs.length = (((List.range zs.length).map (fun k => zs[k]?)).filter (fun o => (o.map P).getD false)).map (fun o => (o.map G).getD .non) := by
    rw [List.filter_map, List.map_map]
    rfl
  rw [e2, e1, List.filter_map, List.map_map]
  rfl
theorem lc_opt {α : Type} {J : It} {D : Addr} {H0 : Hp} {i : Nat} {tt : TT} {te : TE} {vs : List Nat} {σ : L2.St} {Qd : Hp → Prop} (zs : List α) (v : α → V) (p : α → Bool) (g : α → V) (hn : zs.length ≤ 1000000) (nD : H0 D = none)
    (hgo : ∀ k H1, k < zs.length → Same H0 H1 → J.go k H1) (hst : ∀ H1, Same H0 H1 → J.stop zs.length H1) (hy : ∀ k (hk : k < zs.length) H1 x H2, Same H0 H1 → J.yld k H1 x H2 → H2 = H1 ∧ x = v zs[k])
    (hw : ∀ x : V, wipe ((wipe σ vs).set i (some x)) vs = wipe σ vs)
    (hb : ∀ z H1 (Q : Bool → Hp → Prop), z ∈ zs → Same H0 H1 → Q (p z) H1 → tt ((wipe σ vs).set i (some (v z))) H1 Q)
    (ht : ∀ z H1 (Q : VK), z ∈ zs → p z = true → Same H0 H1 → Q (g z) H1 → te ((wipe σ vs).set i (some (v z))) H1 Q)
    (hd : ∀ H1, Same H0 H1 → H1 D = some (.lst ((zs.filter p).map g)) → Qd H1) : lcW J (gName i) tt te vs σ D Qd H0 := by
  have at_ : ∀ {β : Type} (f : α → β) (d : β) k (hk : k < zs.length), (zs[k]?.map f).getD d = f zs[k] := fun f d k hk => by
    rw [List.getElem?_eq_getElem hk]
    rfl
  refine lc_flt (n := zs.length) (fun k => (zs[k]?.map v).getD .non) (fun k => (zs[k]?.map p).getD false) (fun k => (zs[k]?.map g).getD .non) hn nD hgo hst
    (fun k H1 x H2 hk s y => by obtain ⟨e1, e2⟩ := hy k hk H1 x H2 s y; exact ⟨by rw [e1]; exact Same.refl _, by rw [at_ _ _ k hk]; exact e2⟩) (fun k => hw _)
    (fun k H1 Q hk s q => by rw [at_ _ _ k hk]; exact hb _ _ _ (List.getElem_mem hk) s (by rw [at_ _ _ k hk] at q; exact q _ (Same.refl _)))
    (fun k H1 Q hk e s q => by rw [at_ _ _ k hk] at e ⊢; exact ht _ _ _ (List.getElem_mem hk) e s (by rw [at_ _ _ k hk] at q; exact q _ (Same.refl _))) (fun H1 s e => hd H1 s ?_)
  rw [e, fltL_opt]
/-- a comprehension over the keys of a locked dict -/
theorem lc_keys {d D : Addr} {od : Obj} {ks : List Nat} {g0 : Nat → Int} {H0 : Hp} {i : Nat} {tt : TT} {te : TE} {vs : List Nat} {σ : L2.St} {Qd : Hp → Prop} (p : Nat → Bool) (g : Nat → V) (fz : H0 d = some (.frz od (.dK (tab ky ks g0)))) (hn : ks.length ≤ 1000000) (nD : H0 D = none)
    (hw : ∀ x : V, wipe ((wipe σ vs).set i (some x)) vs = wipe σ vs)
    (hb : ∀ k H1 (Q : Bool → Hp → Prop), k ∈ ks → Same H0 H1 → Q (p k) H1 → tt ((wipe σ vs).set i (some (.str (ky k)))) H1 Q)
    (ht : ∀ k H1 (Q : VK), k ∈ ks → p k = true → Same H0 H1 → Q (g k) H1 → te ((wipe σ vs).set i (some (.str (ky k)))) H1 Q)
    (hd : ∀ H1, Same H0 H1 → H1 D = some (.lst ((ks.filter p).map g)) → Qd H1) : lcW (Itk d od (tab ky ks g0)) (gName i) tt te vs σ D Qd H0 :=
  lc_opt ks (fun k => .str (ky k)) p g hn nD (fun k H1 hk s => ⟨s _ _ fz, by rw [tab_len]; exact hk⟩) (fun H1 s => ⟨s _ _ fz, by rw [tab_len]; exact Nat.le_refl _⟩) (fun k hk H1 x H2 s y => by
    obtain ⟨e1, kk, v, e, rfl⟩ := y
    rw [tab_at hk] at e
    cases e
    exact ⟨e1, rfl⟩) hw hb ht hd
/-- a comprehension over a list -/
theorem lc_lv {α : Type} {K : PySem.W.Frag} {a D : Addr} {H0 : Hp} {i : Nat} {tt : TT} {te : TE} {vs : List Nat} {σ : L2.St} {Qd : Hp → Prop} (zs : List α) (v : α → V) (p : α → Bool) (g : α → V) (hS : SqL K H0 a (zs.map v)) (hn : zs.length ≤ 1000000) (nD : H0 D = none)
    (hw : ∀ x : V, wipe ((wipe σ vs).set i (some x)) vs = wipe σ vs)
    (hb : ∀ z H1 (Q : Bool → Hp → Prop), z ∈ zs → Same H0 H1 → Q (p z) H1 → tt ((wipe σ vs).set i (some (v z))) H1 Q)
    (ht : ∀ z H1 (Q : VK), z ∈ zs → p z = true → Same H0 H1 → Q (g z) H1 → te ((wipe σ vs).set i (some (v z))) H1 Q)
    (hd : ∀ H1, Same H0 H1 → H1 D = some (.lst ((zs.filter p).map g)) → Qd H1) : lcW (Itl K a) (gName i) tt te vs σ D Qd H0 :=
  have ex : ∀ k (hk : k < zs.length), (zs.map v)[k]? = some (v zs[k]) := fun k hk => by
    rw [List.getElem?_map, List.getElem?_eq_getElem hk]
    rfl
  lc_opt zs v p g hn nD (fun k H1 hk s => ⟨_, _, s.seq hS, ex k hk⟩) (fun H1 s => ⟨_, s.seq hS, by rw [List.length_map]; exact Nat.le_refl _⟩) (fun k hk H1 x H2 s y => ⟨y.1, Option.some.inj ((y.2 _ (s.seq hS)).symm.trans (ex k hk))⟩) hw hb ht hd
theorem frz_back {H J : Hp} {D : Addr} {od : Obj} {kv : List (Key × V)} (e : H D = some (.dK kv)) (s : Same (upd H D (.frz od (.dK kv))) J) : Same H (upd J D (.dK kv)) := fun b o eb => by
  by_cases c : b = D
  · subst c
    rw [upd_same, ← e, eb]
  · rw [upd_ne c]
    exact s b o (by rw [upd_ne c]; exact eb)
theorem frz_new {H : Hp} {D p : Addr} {o : HO} (n : (upd H D o) p = none) : H p = none ∧ p ≠ D := by
  by_cases c : p = D
  · subst c
    rw [upd_same] at n
    cases n
  · rw [upd_ne c] at n
    exact ⟨n, c⟩
theorem dget_fz {J : Hp} {D : Addr} {od : Obj} {ks : List Nat} {g : Nat → Int} {k : Nat} (f : J D = some (.frz od (.dK (tab ky ks g)))) (m : k ∈ ks) : DGet J D (.str (ky k)) (some (.int (g k))) := .inl ⟨tab ky ks g, Sum.inr (ky k), .inr ⟨od, f⟩, rfl, by rw [tab_val (fun _ _ => ky_inj), if_pos m]⟩
/-! ### find -/
theorem find_at {l : List Nat} {c i : Nat} (h : l[i]? = some c) (n : ∀ j, j < i → l[j]? ≠ some c) : Txt.find (S l) ⟨#[c]⟩ = (i : Int) := by
  have at_ : ∀ j, PySem.StrLaws.At (S l) ⟨#[c]⟩ (S l).length j ↔ l[j]? = some c := fun j => PySem.StrLaws.subAt_one (S l) c j
  unfold Txt.find
  rcases PySem.StrLaws.occ_head (S l) ⟨#[c]⟩ 1 (Nat.le_refl _) with ⟨_, z⟩ | ⟨k, r, e, a, z⟩
  · exact absurd ((at_ i).mpr h) (z i)
  · rw [e]
    dsimp only
    have : k = i := by
      have ak := (at_ k).mp a
      have h1 : ¬ i < k := fun q => z i q ((at_ i).mpr h)
      have h2 : ¬ k < i := fun q => n k q ak
      omega
    rw [this]
theorem find_abc : ∀ p, p < 6 → Txt.find (Str.ofString "abcdef") ⟨#[97 + p]⟩ = (p : Int) := by
  intro p hp
  rw [show Str.ofString "abcdef" = S [97, 98, 99, 100, 101, 102] by decide +kernel]
  refine find_at ?_ ?_
  · revert p hp
    decide
  · revert p hp
    decide
end Z
set_option Elab.async false
set_option linter.all false
set_option maxRecDepth 100000
set_option maxHeartbeats 4000000
namespace Z
open PySem PySem.Spec PyProof.Rows L2 SO
open SX (S S_inj S_len S_cat)
/-! ### lists of the pairs of a dict -/
def enD (ks : List Nat) (g : Nat → Int) : List PyData := ks.map fun k => .tuple [.str (ky k), .int (g k)]
theorem dpa_en {K : PySem.W.Frag} {H : Hp} {g : Nat → Int} : ∀ {ts : List Addr} {ks : List Nat}, Paired (fun (t : Addr) (q : Key × V) => H t = some (.tup [kV q.1, q.2])) ts (tab ky ks g) → DpAll K H (ts.map V.ref) (enD ks g)
  | [], [], _ => .nil
  | [], _ :: _, h => by cases h
  | _ :: _, [], h => by cases h
  | t :: ts, k :: ks, h => by
    cases h with
    | cons e r => exact .cons (.tup (SqT.of e) (.cons (.str _) (.cons (.int _) .nil))) (dpa_en r)
theorem ky_ok : ∀ k, k < 36 → PyData.strOk (ky k) = true := by decide +kernel
theorem en_flat {g : Nat → Int} : ∀ {ks : List Nat}, (∀ k ∈ ks, k < 36) → PyData.canLayAll0 (enD ks g) = true ∧ PyData.depthAll (enD ks g) ≤ 1
  | [], _ => ⟨rfl, Nat.zero_le _⟩
  | k :: r, h => by
    have z := en_flat (g := g) (ks := r) fun x hx => h x (List.mem_cons_of_mem _ hx)
    have y := ky_ok k (h k List.mem_cons_self)
    have e1 : enD (k :: r) g = .tuple [.str (ky k), .int (g k)] :: enD r g := rfl
    rw [e1]
    constructor
    · rw [PyData.canLayAll0, z.1]
      simp [PyData.canLayAll0, PyData.canLay0, y]
    · rw [PyData.depthAll]
      have : (PyData.tuple [.str (ky k), .int (g k)]).depth = 1 := by
        simp [PyData.depth, PyData.depthAll]
      omega
theorem shaped_en {ks : List Nat} {g : Nat → Int} (h : ∀ k ∈ ks, k < 36) : SeqAt.shaped (.list (enD ks g)) = true := by
  have z := en_flat (g := g) h
  unfold SeqAt.shaped
  show (PyData.canLayAll0 (enD ks g) && decide (PyData.depthAll (enD ks g) + 1 ≤ 64)) = true
  rw [z.1, decide_eq_true (by omega)]
  rfl
theorem paired_imp {α β : Type} {F G : α → β → Prop} (h : ∀ x y, F x y → G x y) : ∀ {xs : List α} {ys : List β}, Paired F xs ys → Paired G xs ys
  | _, _, .nil => .nil
  | _, _, .cons r t => .cons (h _ _ r) (paired_imp h t)

/-- a list of the pairs -/
def ItL (H : Hp) (a : Addr) (ks : List Nat) (g : Nat → Int) : Prop := ∃ ts : List Addr, H a = some (.lst (ts.map V.ref)) ∧ Paired (fun (t : Addr) (q : Key × V) => H t = some (.tup [kV q.1, q.2])) ts (tab ky ks g)
theorem ItL.mono {H H' : Hp} {a : Addr} {ks : List Nat} {g : Nat → Int} (s : Same H H') (h : ItL H a ks g) : ItL H' a ks g := by
  obtain ⟨ts, e, p⟩ := h
  exact ⟨ts, s _ _ e, paired_imp (fun t q e => s _ _ e) p⟩
theorem ItL.dp {K : PySem.W.Frag} {H : Hp} {a : Addr} {ks : List Nat} {g : Nat → Int} (h : ItL H a ks g) : Dp K H (.ref a) (.list (enD ks g)) := by
  obtain ⟨ts, e, p⟩ := h
  exact .lst (SqL.of e) (dpa_en p)
/-! ### what can be reached along debts -/
structure Rch (ks : List Nat) (g : Nat → Int) (p : Nat) (fs : List Nat) : Prop where
  nd : fs.Nodup
  lt : ∀ q ∈ fs, q < 6
  at_ : p ∈ fs
  so : ∀ T : Nat → Prop, T p → (∀ k ∈ ks, 0 < g k → T (k / 6) → T (k % 6)) → ∀ q ∈ fs, T q
def Clo (ks : List Nat) (g : Nat → Int) (fs : List Nat) : Prop := ∀ k ∈ ks, 0 < g k → k / 6 ∈ fs → k % 6 ∈ fs
theorem Rch.one {ks : List Nat} {g : Nat → Int} {p : Nat} (h : p < 6) : Rch ks g p [p] := ⟨by simp, fun q m => by rw [List.mem_singleton.mp m]; exact h, List.mem_singleton.mpr rfl, fun T t _ q m => by rw [List.mem_singleton.mp m]; exact t⟩
theorem Rch.len {ks : List Nat} {g : Nat → Int} {p : Nat} {fs : List Nat} (r : Rch ks g p fs) : fs.length ≤ 6 := nodup_len6 r.nd r.lt
theorem Rch.more {ks : List Nat} {g : Nat → Int} {p : Nat} {fs : List Nat} (r : Rch ks g p fs) {k : Nat} (m : k ∈ ks) (gp : 0 < g k) (a : k / 6 ∈ fs) (b : k % 6 ∉ fs) : Rch ks g p (fs ++ [k % 6]) := by
  refine ⟨List.nodup_append.mpr ⟨r.nd, by simp, fun x hx y hy e => b (by rw [List.mem_singleton.mp hy] at e; exact e ▸ hx)⟩, fun q mq => ?_, List.mem_append_left _ r.at_, fun T t c q mq => ?_⟩
  · rcases List.mem_append.mp mq with h | h
    · exact r.lt q h
    · rw [List.mem_singleton.mp h]
      exact Nat.mod_lt _ (by decide)
  · rcases List.mem_append.mp mq with h | h
    · exact r.so T t c q h
    · rw [List.mem_singleton.mp h]
      exact c k m gp (r.so T t c _ a)
/-- within a lap over the debts, f0 at its start -/
def Lap (ks : List Nat) (g : Nat → Int) (f0 fs : List Nat) (j : Nat) : Prop := (fs = f0 ∧ ∀ (m : Nat) (h : m < ks.length), m < j → 0 < g ks[m] → ks[m] / 6 ∈ f0 → ks[m] % 6 ∈ f0) ∨ (f0.length < fs.length ∧ ¬ Clo ks g f0)
theorem lap_end {ks : List Nat} {g : Nat → Int} {f0 fs : List Nat} (l : Lap ks g f0 fs ks.length) {i : Nat} (h : Clo ks g f0 ∨ i + 1 ≤ f0.length) : Clo ks g fs ∨ i + 1 + 1 ≤ fs.length := by
  rcases l with ⟨rfl, c⟩ | ⟨a, b⟩
  · left
    intro k m gp x
    obtain ⟨n, hn, rfl⟩ := List.getElem_of_mem m
    exact c n hn hn gp x
  · rcases h with h | h
    · exact absurd h b
    · right
      omega
theorem lap_stay {ks : List Nat} {g : Nat → Int} {f0 fs : List Nat} {j : Nat} (l : Lap ks g f0 fs j) (hj : j < ks.length) (no : ¬ (0 < g ks[j] ∧ ks[j] / 6 ∈ fs ∧ ks[j] % 6 ∉ fs)) : Lap ks g f0 fs (j + 1) := by
  rcases l with ⟨rfl, c⟩ | ⟨a, b⟩
  · refine .inl ⟨rfl, fun m h mj gp x => ?_⟩
    by_cases e : m = j
    · subst e
      exact Classical.byContradiction fun y => no ⟨gp, x, y⟩
    · exact c m h (by omega) gp x
  · exact .inr ⟨a, b⟩
theorem lap_go {ks : List Nat} {g : Nat → Int} {f0 fs : List Nat} {j : Nat} (l : Lap ks g f0 fs j) (hj : j < ks.length) (gp : 0 < g ks[j]) (a : ks[j] / 6 ∈ fs) (b : ks[j] % 6 ∉ fs) (y : Nat) : Lap ks g f0 (fs ++ [y]) (j + 1) := by
  rcases l with ⟨rfl, c⟩ | ⟨h, nc⟩
  · refine .inr ⟨by rw [List.length_append, List.length_singleton]; omega, fun cl => b (cl _ (List.getElem_mem hj) gp a)⟩
  · exact .inr ⟨by rw [List.length_append]; omega, nc⟩
end Z
set_option pp.maxSteps 700
set_option Elab.async false
set_option linter.all false
set_option maxRecDepth 100000
set_option maxHeartbeats 4000000
open SX (S S_inj S_len S_cat)
namespace Z
open SO
open PySem PySem.Spec PyProof.Rows L2
open C8 (pss_cut tCut)
local macro_rules | `(tactic| walk_at "num") => `(tactic| first | rfl | omega | decide | exact Nat.le_of_lt (small1000 (by simp)) | exact ⟨by omega, by omega⟩ | exact ⟨by omega, by omega, by omega⟩ | exact ⟨by decide, by decide, by decide⟩ | exact Or.inl ⟨by omega, by omega⟩ | exact Or.inr ⟨by omega, by omega⟩)
local macro_rules | `(tactic| walk_at "go") => `(tactic| repeat (first | refine ⟨_, rfl, ?_⟩ | refine ⟨_, _, rfl, rfl, ?_⟩ | refine ⟨_, _, rfl, ?_⟩ | (refine ⟨_, _, rfl, rfl, ?_, ?_⟩; focus walk_at "num") | refine Or.inl ⟨_, rfl, ?_⟩ | refine ⟨_, _, _, _, rfl, rfl, (by assumption), (by rfl), ?_⟩ | refine ⟨_, _, _, _, _, rfl, (by assumption), (by assumption), (by assumption), (by rfl), ?_⟩ | refine ⟨rfl, ?_⟩ | (refine And.intro ?_ ?_; focus walk_at "num")))
abbrev s_base : Stmt := topS 28
abbrev N_base : List Str := ["_law_draws_here", "_law_place"]
abbrev P_base : List Str := ["_law_draws_here", "_law_place"]
theorem sc_base : FnScope N_base P_base (defScope s_base) := ⟨rfl, rfl, rfl, by decide +kernel, rfl, by decide +kernel, by decide +kernel⟩
abbrev s_debts : Stmt := topS 30
abbrev N_debts : List Str := ["_law_draws_here", "_law_place", "_law_parties_here", "_law_scale", "_law_base_here", "_law_many", "_law_debts_here", "_law_size", "_law_at", "_law_k", "_law_draw", "_law_to", "_law_coins_here"]
abbrev P_debts : List Str := ["_law_draws_here", "_law_place", "_law_parties_here", "_law_scale", "_law_base_here"]
theorem sc_debts : FnScope N_debts P_debts (defScope s_debts) := ⟨rfl, rfl, rfl, by decide +kernel, rfl, by decide +kernel, by decide +kernel⟩
theorem to_ne {m a e : Nat} (ha : a < m) (he : e < m - 1) : (a + 1 + e) % m < m ∧ (a + 1 + e) % m ≠ a := by
  refine ⟨Nat.mod_lt _ (by omega), ?_⟩
  by_cases c : a + 1 + e < m
  · rw [Nat.mod_eq_of_lt c]; omega
  · rw [Nat.mod_eq_sub_mod (by omega), Nat.mod_eq_of_lt (by omega)]; omega
theorem to_int {m a : Nat} (x : Int) (h2 : 2 ≤ m) (ha : a < m) : ∃ t : Nat, ((a : Int) + 1 + x % ((m : Int) - 1)) % (m : Int) = (t : Int) ∧ t < m ∧ t ≠ a := by
  have e0 := Int.emod_nonneg x (show ((m : Int) - 1) ≠ 0 by omega)
  have e1 := Int.emod_lt_of_pos x (show 0 < (m : Int) - 1 by omega)
  obtain ⟨e, ee⟩ : ∃ e : Nat, x % ((m : Int) - 1) = (e : Int) := ⟨_, (Int.toNat_of_nonneg e0).symm⟩
  rw [ee] at e0 e1 ⊢
  refine ⟨(a + 1 + e) % m, ?_, to_ne ha (by omega)⟩
  rw [show (a : Int) + 1 + (e : Int) = ((a + 1 + e : Nat) : Int) by omega]
  rfl
theorem ky_cat {a b : Nat} (hb : b < 6) : (⟨#[97 + a]⟩ : Str) ++ (⟨#[97 + b]⟩ : Str) = ky (6 * a + b) := by
  rw [show (⟨#[97 + a]⟩ : Str) = S [97 + a] from rfl, show (⟨#[97 + b]⟩ : Str) = S [97 + b] from rfl, S_cat]
  unfold ky kyL
  rw [show (6 * a + b) / 6 = a by omega, show (6 * a + b) % 6 = b by omega]
  rfl
theorem ky_len (k : Nat) : (ky k).length = 2 := by unfold ky; rw [S_len]; rfl
theorem ps_at {ps : List Nat} {i : Nat} (h : i < ps.length) : atI (S (pT ps)).cps.toList (i : Int) = some (97 + ps[i]) := atI_nat (by show (pT ps)[i]? = _; unfold pT; rw [List.getElem?_map, List.getElem?_eq_getElem h]; rfl)
theorem kok_of {ps : List Nat} (nd : ps.Nodup) (p6 : ∀ x ∈ ps, x < 6) {i j : Nat} (hi : i < ps.length) (hj : j < ps.length) (ne : j ≠ i) : KOk (6 * ps[i] + ps[j]) := by
  have h1 := p6 _ (List.getElem_mem hi)
  have h2 := p6 _ (List.getElem_mem hj)
  have h3 : ps[i] ≠ ps[j] := fun e => ne ((List.getElem_inj nd).mp e).symm
  unfold KOk
  omega
/-- one more or another amount -/
theorem Db.put {H J : Hp} {D : Addr} {ks : List Nat} {g : Nat → Int} (d : Db H D ks g) {k : Nat} (hk : KOk k) {c : Int} (c0 : 0 ≤ c) : Db (upd J D (.dK (putK (tab ky ks g) (Sum.inr (ky k)) (.int c)))) D (if k ∈ ks then ks else ks ++ [k]) (fun j => if j = k then c else g j) := by
  refine ⟨by rw [upd_same, tab_put (fun _ _ => ky_inj)], ?_, fun j m => ?_, fun j m => ?_⟩
  · by_cases m : k ∈ ks
    · rw [if_pos m]
      exact d.nd
    · rw [if_neg m]
      exact List.nodup_append.mpr ⟨d.nd, by simp, fun x hx y hy e => m (by rw [List.mem_singleton.mp hy] at e; exact e ▸ hx)⟩
  · by_cases e : j = k
    · rw [e]
      exact ⟨hk, by rw [if_pos rfl]; exact c0⟩
    · rw [if_neg e]
      refine d.ok j ?_
      by_cases z : k ∈ ks
      · rwa [if_pos z] at m
      · rw [if_neg z] at m
        rcases List.mem_append.mp m with m | m
        · exact m
        · exact absurd (List.mem_singleton.mp m) e
  · by_cases z : k ∈ ks
    · rw [if_pos z] at m
      have e : j ≠ k := fun e => m (e ▸ z)
      rw [if_neg e]
      exact d.z j m
    · rw [if_neg z] at m
      have e : j ≠ k := fun e => m (List.mem_append_right _ (List.mem_singleton.mpr e))
      rw [if_neg e]
      exact d.z j fun y => m (List.mem_append_left _ y)
theorem Db.get {H : Hp} {D : Addr} {ks : List Nat} {g : Nat → Int} (d : Db H D ks g) {k : Nat} (m : k ∈ ks) : DGet H D (.str (ky k)) (some (.int (g k))) := tab_get (fun _ _ => ky_inj) d.e m
theorem Db.get0 {H : Hp} {D : Addr} {ks : List Nat} {g : Nat → Int} (d : Db H D ks g) {k : Nat} (m : k ∉ ks) : DGet H D (.str (ky k)) none := by
  have z := DGet.k (k := Sum.inr (ky k)) d.e
  rw [tab_val (fun _ _ => ky_inj), if_neg m] at z
  exact z
theorem Db.dput {H : Hp} {D : Addr} {ks : List Nat} {g : Nat → Int} (d : Db H D ks g) (k : Nat) (v : V) : DPut H D (.str (ky k)) v (upd H D (.dK (putK (tab ky ks g) (Sum.inr (ky k)) v))) := DPut.k (k := Sum.inr (ky k)) d.e (by rw [tab_len]; have := d.len; exact szlt (by omega))
section
variable {P : Program} {w : World} {K : PySem.W.Frag} {mg : Str → Option Value} {base : Heap} {f : Addr} {fd : FuncData}
def spBase (K : PySem.W.Frag) : Sp := fun vs H Q _ => ∃ (a p : Addr) (n : Nat) (ds : List Int), vs = [.ref a, .ref p] ∧ Tk K a p ds n H H ∧ ∀ (c : Int) H', Tk K a p ds n H H' → 0 ≤ c → c ≤ 10 ^ 60 - 3 → Q (.int c) H'
theorem ok_base (F : FnP K "_law_base" s_base f fd) (m_int : mg "int" = none) (c_take : Cal P w K mg base 1 "_law_take" (spTake K)) (c_wide : Cal P w K mg base 2 "_law_wide" (spWide K)) : FnOk P w K mg base CX0 3 f fd P_base (spBase K) := by
  refine F.ok sc_base (fun vs H Q E h => ?_) (fun cdv A outer s H vs Q E hr h => ?_)
  · obtain ⟨a, p, n, ds, rfl, _⟩ := h
    rfl
  · obtain ⟨a, p, n, ds, rfl, hT, q⟩ := h
    refine ⟨_, PSs.nox (pss_cons (ps_if (pt_cmpR op_eq (pe_op op_mod (pe_callTy call_int1 (by rfl) m_int (by decide +kernel) (pa_cons (pe_cl c_take hr (by decide) (by rfl) (pa_cons (pv 0) (pa_cons (pv 1) pa_nil))) pa_nil)) pe_int) pe_int (nomark _)) (pss_one (ps_ret (pe_op op_sub (pe_op op_pow pe_int pe_int) pe_int))) pss_nil)
      (pss_one (ps_ret (pe_op op_mod (pe_callTy call_int1 (by rfl) m_int (by decide +kernel) (pa_cons (pe_cl c_wide hr (by decide) (by rfl) (pa_cons (pv 0) (pa_cons (pv 1) pa_nil))) pa_nil)) (pe_op op_sub (pe_op op_pow pe_int pe_int) pe_int))))), ?_⟩
    obtain ⟨mm, em⟩ := hT.pl
    walk_at "go"
    refine ⟨a, p, n, mm, ds, rfl, SqL.of hT.hA, hT.hd, em, hT.ne, fun r r0 r1 => ?_⟩
    obtain ⟨hT2, _⟩ := hT.next em
    generalize upd H p (.lst [.int ((mm + 1 : Nat) : Int)]) = H1 at hT2
    walk_at "go"
    refine ite2 (fun e => ?_) (fun e => ?_)
    · walk_at "go"
      exact q _ _ hT2 (by decide +kernel) (by decide +kernel)
    walk_at "go"
    refine ⟨a, p, n, ds, rfl, hT2.slf, fun c H2 hT3 w0 w1 => ?_⟩
    walk_at "go"
    have c0 : (0 : Int) < 10 ^ 60 - 2 := by decide +kernel
    have c1 := Int.emod_nonneg c (Int.ne_of_gt c0)
    have c2 := Int.emod_lt_of_pos c c0
    have q1 := q (c % (10 ^ 60 - 2)) _ (hT2.tr hT3) c1 (by omega)
    exact ⟨c0, q1⟩
def spDebts (K : PySem.W.Frag) : Sp := fun vs H Q _ => ∃ (a p : Addr) (n : Nat) (ds : List Int) (ps : List Nat) (sc ba : Int), vs = [.ref a, .ref p, .str (S (pT ps)), .int sc, .int ba] ∧ Tk K a p ds n H H ∧ ps.Nodup ∧ (∀ x ∈ ps, x < 6) ∧ 2 ≤ ps.length ∧ ps.length ≤ 6 ∧ 0 ≤ ba ∧ ba ≤ 10 ^ 60 - 3 ∧
  ∀ D ks (g : Nat → Int) H', Tk K a p ds n H H' → H D = none → Db H' D ks g → (∀ k, g k ≤ 10 ^ 60) → Q (.ref D) H'
theorem ok_debts (F : FnP K "_law_debts" s_debts f fd) (m_int : mg "int" = none) (m_len : mg "len" = none) (m_range : mg "range" = none) (c_take : Cal P w K mg base 1 "_law_take" (spTake K)) (c_coins : Cal P w K mg base 3 "_law_coins" (spCoins K)) : FnOk P w K mg base CX0 4 f fd P_debts (spDebts K) := by
  refine F.ok sc_debts (fun vs H Q E h => ?_) (fun cdv A outer s H vs Q E hr h => ?_)
  · obtain ⟨a, p, n, ds, ps, sc, ba, rfl, _⟩ := h
    rfl
  · obtain ⟨a, p, n, ds, ps, sc, ba, rfl, hT, nd, p6, l2, l6, b0, b1, q⟩ := h
    refine ⟨_, PSs.nox (pss_cons (ps_set (i := 5) sc_debts.nd rfl (by first | exact .inl rfl | exact .inr rfl) (pe_callB call_len_str (by rfl) m_len PySem.boot_len (pa_cons (pv 2) pa_nil)))
      (pss_cons (ps_set (i := 6) sc_debts.nd rfl (by first | exact .inl rfl | exact .inr rfl) pe_dnewK)
      (pss_cons (ps_set (i := 7) sc_debts.nd rfl (by first | exact .inl rfl | exact .inr rfl) (pe_op op_mod (pe_callTy call_int1 (by rfl) m_int (by decide +kernel) (pa_cons (pe_cl c_take hr (by decide) (by rfl) (pa_cons (pv 0) (pa_cons (pv 1) pa_nil))) pa_nil)) pe_int))
      (pss_cut (ps_if (pt_cmpR op_eq (pe_op op_mod (pe_callTy call_int1 (by rfl) m_int (by decide +kernel) (pa_cons (pe_cl c_take hr (by decide) (by rfl) (pa_cons (pv 0) (pa_cons (pv 1) pa_nil))) pa_nil)) pe_int) pe_int (nomark _)) (pss_one (ps_set (i := 7) sc_debts.nd rfl (by first | exact .inl rfl | exact .inr rfl) (pe_op op_add (pv 7) pe_int))) pss_nil)
      (pss_cons (ps_set (i := 8) sc_debts.nd rfl (by first | exact .inl rfl | exact .inr rfl) pe_int)
      (pss_cons (ps_for PassesOwn.never rfl (pi_range1 (by rfl) m_range (pa_cons (pv 7) pa_nil)) (pg_name (i := 9) sc_debts.nd rfl (by first | exact .inl rfl | exact .inr rfl))
        (pss_cons (ps_set (i := 10) sc_debts.nd rfl (by first | exact .inl rfl | exact .inr rfl) (pe_cl c_take hr (by decide) (by rfl) (pa_cons (pv 0) (pa_cons (pv 1) pa_nil))))
      (pss_cut (ps_if (pt_cmpR op_eq (pe_op op_mod (pe_callTy call_int1 (by rfl) m_int (by decide +kernel) (pa_cons (pv 10) pa_nil)) pe_int) pe_int (nomark _)) (pss_one (ps_set (i := 8) sc_debts.nd rfl (by first | exact .inl rfl | exact .inr rfl) (pe_op op_mod (pe_callTy call_int1 (by rfl) m_int (by decide +kernel) (pa_cons (pe_op op_fdiv (pv 10) pe_int) pa_nil)) (pv 5)))) pss_nil)
      (pss_cons (ps_set (i := 11) sc_debts.nd rfl (by first | exact .inl rfl | exact .inr rfl) (pe_op op_mod (pe_callTy call_int1 (by rfl) m_int (by decide +kernel) (pa_cons (pe_op op_add (pe_op op_add (pv 8) pe_int) (pe_op op_mod (pe_callTy call_int1 (by rfl) m_int (by decide +kernel) (pa_cons (pe_op op_fdiv (pv 10) pe_int) pa_nil)) (pe_op op_sub (pv 5) pe_int))) pa_nil)) (pv 5)))
      (pss_cons (ps_set (i := 12) sc_debts.nd rfl (by first | exact .inl rfl | exact .inr rfl) (pe_cl c_coins hr (by decide) (by rfl) (pa_cons (pv 0) (pa_cons (pv 1) (pa_cons (pv 3) (pa_cons (pv 4) pa_nil))))))
      (pss_cut (ps_if (pt_cmp (pc_dnotin (hu_of hr) (pe_op op_add_str (pe_ix ix_str (pv 2) (pv 8) (fun _ _ => rfl)) (pe_ix ix_str (pv 2) (pv 11) (fun _ _ => rfl))) (pv 6)) (by rfl)) (pss_one (ps_dput (hu_of hr) (pv 6) (pe_op op_add_str (pe_ix ix_str (pv 2) (pv 8) (fun _ _ => rfl)) (pe_ix ix_str (pv 2) (pv 11) (fun _ _ => rfl))) (pv 12) rfl)) pss_nil)
      (pss_one (ps_set (i := 8) sc_debts.nd rfl (by first | exact .inl rfl | exact .inr rfl) (pv 11)))))))))
      (pss_one (ps_ret (pv 6))))))))), ?_⟩
    have pl : (S (pT ps)).length = ps.length := by rw [S_len]; exact List.length_map ..
    have hlen : (S (pT ps)).length ≤ sizeLine := by rw [pl]; exact szl (by omega)
    walk_at "go"
    rw [pl]
    walk_at "go"
    intro D nD
    have aD : a ≠ D := fun e => by rw [← e, hT.hA] at nD; cases nD
    have pD : p ≠ D := fun e => by obtain ⟨m, em⟩ := hT.pl; rw [← e, em] at nD; cases nD
    have sD := same_new (o := .dK []) nD
    have hT1 := hT.more sD
    have d0 : Db (upd H D (.dK [])) D [] (fun _ => 0) := ⟨upd_same, List.nodup_nil, fun k m => absurd m (by simp), fun k _ => rfl⟩
    generalize upd H D (.dK []) = H1 at hT1 d0
    obtain ⟨m1, em1⟩ := hT1.pl
    dsimp only [List.set]
    walk_at "go"
    refine ⟨a, p, n, m1, ds, rfl, SqL.of hT1.hA, hT1.hd, em1, hT1.ne, fun r r0 r1 => ?_⟩
    obtain ⟨hT2, sb2⟩ := hT1.next em1
    have d2 : Db (upd H1 p (.lst [.int ((m1 + 1 : Nat) : Int)])) D [] (fun _ => 0) := ⟨sb2 _ _ pD.symm d0.e, d0.nd, d0.ok, d0.z⟩
    generalize upd H1 p (.lst [.int ((m1 + 1 : Nat) : Int)]) = H2 at hT2 d2
    have c0 := Int.emod_nonneg r (show (13 : Int) ≠ 0 by decide)
    have c1 := Int.emod_lt_of_pos r (show (0 : Int) < 13 by decide)
    walk_at "go"
    refine ⟨fun σ J => ∃ z : Int, 0 ≤ z ∧ z ≤ 30 ∧ Tk K a p ds n H J ∧ Db J D [] (fun _ => 0) ∧ σ = [some (.ref a), some (.ref p), some (.str (S (pT ps))), some (.int sc), some (.int ba), some (.int (ps.length : Int)), some (.ref D), some (.int z), none, none, none, none, none], ?_, ?_⟩
    · obtain ⟨m2, em2⟩ := hT2.pl
      walk_at "go"
      refine ⟨a, p, n, m2, ds, rfl, SqL.of hT2.hA, hT2.hd, em2, hT2.ne, fun r2 r20 r21 => ?_⟩
      obtain ⟨hT3, sb3⟩ := hT2.next em2
      have d3 : Db (upd H2 p (.lst [.int ((m2 + 1 : Nat) : Int)])) D [] (fun _ => 0) := ⟨sb3 _ _ pD.symm d2.e, d2.nd, d2.ok, d2.z⟩
      generalize upd H2 p (.lst [.int ((m2 + 1 : Nat) : Int)]) = H3 at hT3 d3
      walk_at "go"
      refine ite2 (fun e => ?_) (fun e => ?_)
      · walk_at "go"
        exact ⟨_, by omega, by omega, hT3, d3, rfl⟩
      · exact ⟨_, by omega, by omega, hT3, d3, rfl⟩
    rintro σ J ⟨z, z0, z1, hT3, d3, rfl⟩
    walk_at "go"
    refine for_gen (n := z.toNat) (fun i σ J => Tk K a p ds n H J ∧ (∃ ks g, Db J D ks g ∧ ∀ k, g k ≤ 10 ^ 60) ∧ ∃ (t : Nat) (v9 v10 v11 v12 : Option V), t < ps.length ∧ σ = [some (.ref a), some (.ref p), some (.str (S (pT ps))), some (.int sc), some (.int ba), some (.int (ps.length : Int)), some (.ref D), some (.int z), some (.int (t : Int)), v9, v10, v11, v12]) ⟨hT3, ⟨_, _, d3, fun _ => by decide +kernel⟩, 0, _, _, _, _, by omega, rfl⟩ ?_ ?_ ?_ ?_
    · intro i σ J hi _
      exact hi
    · intro σ J _
      exact Nat.le_refl _
    · rintro i σ J x J' hi ⟨hT4, ⟨ks, g, d4, gb⟩, t, v9, v10, v11, v12, ht, rfl⟩ ⟨rfl, rfl⟩
      obtain ⟨m4, em4⟩ := hT4.pl
      walk_at "go"
      refine ⟨a, p, n, m4, ds, rfl, SqL.of hT4.hA, hT4.hd, em4, hT4.ne, fun r4 r40 r41 => ?_⟩
      obtain ⟨hT5, sb5⟩ := hT4.next em4
      have d5 : Db (upd J' p (.lst [.int ((m4 + 1 : Nat) : Int)])) D ks g := ⟨sb5 _ _ pD.symm d4.e, d4.nd, d4.ok, d4.z⟩
      generalize upd J' p (.lst [.int ((m4 + 1 : Nat) : Int)]) = J5 at hT5 d5
      dsimp only [List.set]
      walk_at "go"
      refine ⟨fun σ J => ∃ t : Nat, t < ps.length ∧ Tk K a p ds n H J ∧ Db J D ks g ∧ σ = [some (.ref a), some (.ref p), some (.str (S (pT ps))), some (.int sc), some (.int ba), some (.int (ps.length : Int)), some (.ref D), some (.int z), some (.int (t : Int)), some (.int (0 + (i : Int))), some (.int r4), v11, v12], ?_, ?_⟩
      · walk_at "go"
        refine ite2 (fun e => ?_) (fun e => ?_)
        · walk_at "go"
          have m0 := Int.emod_nonneg (r4 / 3) (show (ps.length : Int) ≠ 0 by omega)
          have m1 := Int.emod_lt_of_pos (r4 / 3) (show 0 < (ps.length : Int) by omega)
          refine ⟨(r4 / 3 % (ps.length : Int)).toNat, by omega, hT5, d5, ?_⟩
          rw [Int.toNat_of_nonneg m0]
          rfl
        · exact ⟨t, ht, hT5, d5, rfl⟩
      rintro σ J6 ⟨t1, ht1, hT6, d6, rfl⟩
      obtain ⟨t2, et2, ht2, nt2⟩ := to_int (r4 / 18) l2 ht1
      have m0 := Int.emod_nonneg (r4 / 18) (show (ps.length : Int) - 1 ≠ 0 by omega)
      walk_at "go"
      dsimp only [List.set]
      rw [et2]
      walk_at "go"
      refine ⟨a, p, n, ds, sc, ba, rfl, hT6.slf, b0, b1, fun c J7 hT7 c0 c1 => ?_⟩
      have d7 : Db J7 D ks g := ⟨hT7.sb _ _ pD.symm d6.e, d6.nd, d6.ok, d6.z⟩
      have hT8 := hT6.tr hT7
      have kk := kok_of nd p6 ht1 ht2 nt2
      have p1 := ps_at ht1
      have p2 := ps_at ht2
      have x2 := p6 _ (List.getElem_mem ht2)
      have cat : (⟨#[97 + ps[t1]]⟩ : Str) ++ (⟨#[97 + ps[t2]]⟩ : Str) = ky (6 * ps[t1] + ps[t2]) := ky_cat x2
      generalize 6 * ps[t1] + ps[t2] = k at kk cat
      generalize ps[t1] = u1 at p1 cat
      generalize ps[t2] = u2 at p2 cat
      clear x2
      walk_at "go"
      refine ⟨fun σ J => Tk K a p ds n H J ∧ (∃ ks g, Db J D ks g ∧ ∀ k, g k ≤ 10 ^ 60) ∧ σ = [some (.ref a), some (.ref p), some (.str (S (pT ps))), some (.int sc), some (.int ba), some (.int (ps.length : Int)), some (.ref D), some (.int z), some (.int (t1 : Int)), some (.int (0 + (i : Int))), some (.int r4), some (.int (t2 : Int)), some (.int c)], ?_, ?_⟩
      · walk_at "go"
        refine ⟨S (pT ps), _, 97 + u1, rfl, rfl, hlen, p1, ?_⟩
        walk_at "go"
        refine ⟨S (pT ps), _, 97 + u2, rfl, rfl, hlen, p2, ?_⟩
        walk_at "go"
        refine ⟨szl (show 1 + 1 ≤ 2000 by decide), ?_⟩
        rw [cat]
        walk_at "go"
        by_cases m : k ∈ ks
        · refine ⟨D, _, rfl, d7.get m, ?_⟩
          walk_at "go"
          exact ⟨⟨ks, g, d7, gb⟩, rfl⟩
        · refine ⟨D, _, rfl, d7.get0 m, ?_⟩
          walk_at "go"
          refine ⟨S (pT ps), _, 97 + u1, rfl, rfl, hlen, p1, ?_⟩
          walk_at "go"
          refine ⟨S (pT ps), _, 97 + u2, rfl, rfl, hlen, p2, ?_⟩
          walk_at "go"
          refine ⟨szl (show 1 + 1 ≤ 2000 by decide), ?_⟩
          rw [cat]
          walk_at "go"
          refine ⟨D, _, rfl, d7.dput k _, ?_⟩
          have sbD : SB D J7 (upd J7 D (.dK (putK (tab ky ks g) (Sum.inr (ky k)) (.int c)))) := SB.upd (Z.Same.sb (Same.refl J7))
          have na := sbD _ _ aD hT8.hA
          refine ⟨hT8.mut nD sbD pD.symm na, ⟨_, _, d7.put kk c0, fun j => ?_⟩, rfl⟩
          split
          · exact c1
          · exact gb j
      rintro σ J8 ⟨hT9, d9, rfl⟩
      walk_at "go"
      exact ⟨t2, _, _, _, _, ht2, rfl⟩
    · rintro σ J ⟨hT4, ⟨ks, g, d4, gb⟩, t, v9, v10, v11, v12, ht, rfl⟩
      walk_at "go"
      exact q D ks g J hT4 nD d4 gb
end
end Z
set_option pp.maxSteps 700
set_option Elab.async false
set_option linter.all false
set_option maxRecDepth 100000
set_option maxHeartbeats 4000000
open SX (S S_inj S_len S_cat)
namespace Z
open SO
open PySem PySem.Spec PyProof.Rows L2
open C8 (pss_cut tCut)
local macro_rules | `(tactic| walk_at "num") => `(tactic| first | rfl | omega | decide | exact Nat.le_of_lt (small1000 (by simp)) | exact ⟨by omega, by omega⟩ | exact ⟨by omega, by omega, by omega⟩ | exact ⟨by decide, by decide, by decide⟩ | exact Or.inl ⟨by omega, by omega⟩ | exact Or.inr ⟨by omega, by omega⟩)
local macro_rules | `(tactic| walk_at "go") => `(tactic| repeat (first | refine ⟨_, rfl, ?_⟩ | refine ⟨_, _, rfl, rfl, ?_⟩ | refine ⟨_, _, rfl, ?_⟩ | (refine ⟨_, _, rfl, rfl, ?_, ?_⟩; focus walk_at "num") | refine Or.inl ⟨_, rfl, ?_⟩ | refine ⟨_, _, _, _, rfl, rfl, (by assumption), (by rfl), ?_⟩ | refine ⟨_, _, _, _, _, rfl, (by assumption), (by assumption), (by assumption), (by rfl), ?_⟩ | refine ⟨rfl, ?_⟩ | (refine And.intro ?_ ?_; focus walk_at "num")))
abbrev s_law_net : Stmt := topS 34
abbrev N_law_net : List Str := ["_law_debts_here", "_law_found", "_law_party", "_law_pair", "_law_received", "_law_given"]
abbrev P_law_net : List Str := ["_law_debts_here"]
theorem sc_law_net : FnScope N_law_net P_law_net (defScope s_law_net) := ⟨rfl, rfl, rfl, by decide +kernel, rfl, by decide +kernel, by decide +kernel⟩
abbrev s_is_integer : Stmt := topS 36
abbrev N_is_integer : List Str := ["_law_value"]
abbrev P_is_integer : List Str := ["_law_value"]
theorem sc_is_integer : FnScope N_is_integer P_is_integer (defScope s_is_integer) := ⟨rfl, rfl, rfl, by decide +kernel, rfl, by decide +kernel, by decide +kernel⟩
theorem tot_fil (P : Nat → Bool) (g : Nat → Int) : ∀ ks : List Nat, ((ks.filter P).map g).sum = tot P (ent ks g)
  | [] => rfl
  | k :: r => by
    have ih := tot_fil P g r
    show _ = (if P k then g k else 0) + tot P (ent r g)
    cases e : P k
    · rw [List.filter_cons_of_neg (by rw [e]; decide), ih, if_neg (by decide), Int.zero_add]
    · rw [List.filter_cons_of_pos e, if_pos rfl, List.map_cons, List.sum_cons, ih]
theorem dec_lt1 (a b : Nat) : decide (V.str ⟨#[97 + a]⟩ = V.str (lt1 b)) = decide (a = b) := by
  by_cases e : a = b
  · rw [e]
    rw [decide_eq_true rfl]
    exact decide_eq_true rfl
  · rw [decide_eq_false e]
    refine decide_eq_false fun z => e ?_
    exact lt1_inj (V.str.inj z)
section
variable {P : Program} {w : World} {K : PySem.W.Frag} {mg : Str → Option Value} {base : Heap} {f : Addr} {fd : FuncData}
theorem abc_at : ∀ i, i < 6 → (Str.ofString "abcdef").cps[i]? = some (97 + i) := by decide +kernel
theorem abc_sz : (Str.ofString "abcdef").cps.size = 6 := by decide +kernel
def spLNet : Sp := fun vs H Q _ => ∃ (D : Addr) (ks : List Nat) (g : Nat → Int), vs = [.ref D] ∧ Db H D ks g ∧ ∀ (L : Addr) H', Same H H' → H' L = some (.lst ((List.range 6).map fun p => V.int (nt (ent U g) p))) → Q (.ref L) H'
theorem ok_law_net (F : FnP K "_law_net" s_law_net f fd) (m_sum : mg "sum" = none) : FnOk P w K mg base CX0 1 f fd P_law_net spLNet := by
  refine F.ok sc_law_net (fun vs H Q E h => ?_) (fun cdv A outer s H vs Q E hr h => ?_)
  · obtain ⟨D, ks, g, rfl, _⟩ := h
    rfl
  · obtain ⟨D, ks, g, rfl, hD, q⟩ := h
    refine ⟨_, PSs.nox (pss_cons (ps_set (i := 1) sc_law_net.nd rfl (by first | exact .inl rfl | exact .inr rfl) (pe_lst pa_nil))
      (pss_cons (ps_for PassesOwn.never rfl (pi_str pe_str) (pg_name (i := 2) sc_law_net.nd rfl (by first | exact .inl rfl | exact .inr rfl))
        (pss_cons (ps_set (i := 4) sc_law_net.nd rfl (by first | exact .inl rfl | exact .inr rfl) (pe_callB (cr_sum rfl) (by rfl) m_sum (by decide +kernel) (pa_cons (pe_lock (pe_lc (own := [("_law_pair", 3)]) (g := (gName 3)) (by rfl) sc_law_net.nd (pi_keys (pv 0)) (blkOk_by (own := [("_law_pair", 3)]) (N := N_law_net) (sc := defScope s_law_net) (by decide +kernel)) (fun _ _ _ _ _ => (pg_name (i := 3) sc_law_net.nd rfl (by first | exact .inl rfl | exact .inr rfl))) (fun _ _ _ _ _ => (pts_one (pt_cmpR op_eq (pe_ix ix_str (pv 3) pe_int (fun _ _ => rfl)) (pv 2) (nomark _)))) (fun _ _ _ _ _ => (pe_dget (hu_of hr) (pv 0) (pv 3) (fun _ _ => rfl))))) pa_nil)))
      (pss_cons (ps_set (i := 5) sc_law_net.nd rfl (by first | exact .inl rfl | exact .inr rfl) (pe_callB (cr_sum rfl) (by rfl) m_sum (by decide +kernel) (pa_cons (pe_lock (pe_lc (own := [("_law_pair", 3)]) (g := (gName 3)) (by rfl) sc_law_net.nd (pi_keys (pv 0)) (blkOk_by (own := [("_law_pair", 3)]) (N := N_law_net) (sc := defScope s_law_net) (by decide +kernel)) (fun _ _ _ _ _ => (pg_name (i := 3) sc_law_net.nd rfl (by first | exact .inl rfl | exact .inr rfl))) (fun _ _ _ _ _ => (pts_one (pt_cmpR op_eq (pe_ix ix_str (pv 3) pe_int (fun _ _ => rfl)) (pv 2) (nomark _)))) (fun _ _ _ _ _ => (pe_dget (hu_of hr) (pv 0) (pv 3) (fun _ _ => rfl))))) pa_nil)))
      (pss_one (ps_expr (pe_bm PySem.F.plainAttrs_list PySem.F.slot_list_append PySem.F.type_list_append mt_append (pv 1) (pa_cons (pe_op op_sub (pv 4) (pv 5)) pa_nil)))))))
      (pss_one (ps_ret (pv 1))))), ?_⟩
    have lk := hD.len
    walk_at "go"
    intro L nL
    have sL := same_new (o := .lst []) nL
    have eL : (upd H L (.lst [])) L = some (.lst []) := upd_same
    generalize upd H L (.lst []) = H1 at sL eL
    walk_at "go"
    refine for_gen (n := 6) (fun i σ J => Same H J ∧ J L = some (.lst ((List.range i).map fun p => V.int (nt (ent U g) p))) ∧ ∃ v2 v3 v4 v5, σ = [some (.ref D), some (.ref L), v2, v3, v4, v5]) ⟨sL, eL, _, _, _, _, rfl⟩ ?_ ?_ ?_ ?_
    · rintro i σ J hi _
      show i < (Str.ofString "abcdef").cps.size
      rw [abc_sz]
      exact hi
    · rintro σ J _
      show (Str.ofString "abcdef").cps.size ≤ 6
      rw [abc_sz]
      exact Nat.le_refl _
    · rintro i σ J x J' hi ⟨s1, eL1, v2, v3, v4, v5, rfl⟩ ⟨rfl, c, ec, rfl⟩
      rw [abc_at i hi] at ec
      cases ec
      have hD1 := hD.mono s1
      walk_at "go"
      refine ⟨D, _, hD1.e, trivial, fun od => ?_⟩
      have fz : (upd J' D (.frz od (.dK (tab ky ks g)))) D = some (.frz od (.dK (tab ky ks g))) := upd_same
      walk_at "go"
      refine ⟨D, od, rfl, .inl ⟨_, fz, fun C nC => ?_⟩⟩
      refine lc_keys (fun k => decide (k % 6 = i)) (fun k => .int (g k)) fz (by omega) nC (fun _ => rfl) ?_ ?_ ?_
      · intro k H2 Q1 hm s2 q1
        walk_at "go"
        refine ⟨ky k, _, 97 + k % 6, rfl, rfl, by rw [ky_len]; exact szl (by decide), rfl, ?_⟩
        walk_at "go"
        rw [show decide (V.str ⟨#[97 + k % 6]⟩ = V.str ⟨#[97 + i]⟩) = decide (k % 6 = i) from dec_lt1 _ _]
        exact q1
      · intro k H2 Q1 hm _ s2 q1
        walk_at "go"
        exact ⟨D, _, rfl, dget_fz (s2 _ _ fz) hm, q1⟩
      intro J2 s2 eC
      refine ⟨s2 _ _ fz, ?_⟩
      have s3 := frz_back hD1.e s2
      have CD := (frz_new nC).2
      have eC3 : (upd J2 D (.dK (tab ky ks g))) C = some (.lst (((ks.filter fun k => decide (k % 6 = i)).map g).map V.int)) := by
        rw [upd_ne CD, eC, List.map_map]
        rfl
      generalize upd J2 D (.dK (tab ky ks g)) = J3 at s3 eC3
      walk_at "go"
      refine ⟨C, _, rfl, SqL.of eC3, ?_⟩
      rw [tot_fil]
      clear fz s2 eC nC CD eC3
      have hD3 := hD1.mono s3
      have s13 := s1.trans s3
      have eL3 := s3 _ _ eL1
      clear s1 s3 eL1 hD1
      walk_at "go"
      refine ⟨D, _, hD3.e, trivial, fun od => ?_⟩
      have fz : (upd J3 D (.frz od (.dK (tab ky ks g)))) D = some (.frz od (.dK (tab ky ks g))) := upd_same
      walk_at "go"
      refine ⟨D, od, rfl, .inl ⟨_, fz, fun C nC => ?_⟩⟩
      refine lc_keys (fun k => decide (k / 6 = i)) (fun k => .int (g k)) fz (by omega) nC (fun _ => rfl) ?_ ?_ ?_
      · intro k H2 Q1 hm s2 q1
        walk_at "go"
        refine ⟨ky k, _, 97 + k / 6, rfl, rfl, by rw [ky_len]; exact szl (by decide), rfl, ?_⟩
        walk_at "go"
        rw [show decide (V.str ⟨#[97 + k / 6]⟩ = V.str ⟨#[97 + i]⟩) = decide (k / 6 = i) from dec_lt1 _ _]
        exact q1
      · intro k H2 Q1 hm _ s2 q1
        walk_at "go"
        exact ⟨D, _, rfl, dget_fz (s2 _ _ fz) hm, q1⟩
      intro J4 s4 eC
      refine ⟨s4 _ _ fz, ?_⟩
      have s5 := frz_back hD3.e s4
      have CD := (frz_new nC).2
      have eC5 : (upd J4 D (.dK (tab ky ks g))) C = some (.lst (((ks.filter fun k => decide (k / 6 = i)).map g).map V.int)) := by
        rw [upd_ne CD, eC, List.map_map]
        rfl
      generalize upd J4 D (.dK (tab ky ks g)) = J5 at s5 eC5
      walk_at "go"
      refine ⟨C, _, rfl, SqL.of eC5, ?_⟩
      rw [tot_fil]
      have eL5 := s5 _ _ eL3
      have s15 := s13.trans s5
      walk_at "go"
      refine ⟨.inl ⟨rfl, _, SqL.of eL5⟩, ?_⟩
      walk_at "go"
      refine ⟨_, _, _, rfl, rfl, eL5, by rw [List.length_map, List.length_range]; exact szlt (by omega), ?_⟩
      refine ⟨Z.Same.mut s15 nL, ?_, _, _, _, _, rfl⟩
      rw [upd_same, List.range_succ, List.map_append]
      refine congrArg _ (congrArg _ (congrArg _ ?_))
      show [V.int (rcv (ent ks g) i - gvn (ent ks g) i)] = [V.int (nt (ent U g) i)]
      rw [hD.nt]
      rfl
    · rintro σ J ⟨s1, eL1, v2, v3, v4, v5, rfl⟩
      walk_at "go"
      exact q L J s1 eL1
def spInt : Sp := fun vs H Q _ => ∃ x : Int, vs = [.int x] ∧ Q (.bl true) H
theorem ok_is_integer (F : FnP K "_law_is_integer" s_is_integer f fd) (m_isinstance : mg "isinstance" = none) (m_int : mg "int" = none) (m_bool : mg "bool" = none) : FnOk P w K mg base CX0 1 f fd P_is_integer spInt := by
  refine F.ok sc_is_integer (fun vs H Q E h => ?_) (fun cdv A outer s H vs Q E hr h => ?_)
  · obtain ⟨x, rfl, _⟩ := h
    rfl
  · obtain ⟨x, rfl, q⟩ := h
    refine ⟨_, PSs.nox (pss_one (ps_ret (pe_and (pe_callB call_isi (by rfl) m_isinstance (by decide +kernel) (pa_cons (pv 0) (pa_cons (pe_bltn (v := .ty "int") (by rfl) m_int (by decide +kernel) rfl) pa_nil))) (pe_one (pe_not (pe_callB call_isi (by rfl) m_isinstance (by decide +kernel) (pa_cons (pv 0) (pa_cons (pe_bltn (v := .ty "bool") (by rfl) m_bool (by decide +kernel) rfl) pa_nil)))))))), ?_⟩
    walk_at "go"
    refine isi (c := "int") (b := true) (.int x) (by decide +kernel) ?_
    walk_at "go"
    refine isi (c := "bool") (b := false) (.int x) (by decide +kernel) ?_
    walk_at "go"
    exact q
end
end Z
set_option pp.maxSteps 700
set_option Elab.async false
set_option linter.all false
set_option maxRecDepth 100000
set_option maxHeartbeats 4000000
open SX (S S_inj S_len S_cat)
namespace Z
open SO
open PySem PySem.Spec PyProof.Rows L2
open C8 (pss_cut tCut)
local macro_rules | `(tactic| walk_at "num") => `(tactic| first | rfl | omega | decide | exact Nat.le_of_lt (small1000 (by simp)) | exact ⟨by omega, by omega⟩ | exact ⟨by omega, by omega, by omega⟩ | exact ⟨by decide, by decide, by decide⟩ | exact Or.inl ⟨by omega, by omega⟩ | exact Or.inr ⟨by omega, by omega⟩)
local macro_rules | `(tactic| walk_at "go") => `(tactic| repeat (first | refine ⟨_, rfl, ?_⟩ | refine ⟨_, _, rfl, rfl, ?_⟩ | refine ⟨_, _, rfl, ?_⟩ | (refine ⟨_, _, rfl, rfl, ?_, ?_⟩; focus walk_at "num") | refine Or.inl ⟨_, rfl, ?_⟩ | refine ⟨_, _, _, _, rfl, rfl, (by assumption), (by rfl), ?_⟩ | refine ⟨_, _, _, _, _, rfl, (by assumption), (by assumption), (by assumption), (by rfl), ?_⟩ | refine ⟨rfl, ?_⟩ | (refine And.intro ?_ ?_; focus walk_at "num")))
abbrev s_reach : Stmt := topS 35
abbrev N_reach : List Str := ["_law_debts_here", "_law_start", "_law_found", "_law_k", "_law_pair"]
abbrev P_reach : List Str := ["_law_debts_here", "_law_start"]
theorem sc_reach : FnScope N_reach P_reach (defScope s_reach) := ⟨rfl, rfl, rfl, by decide +kernel, rfl, by decide +kernel, by decide +kernel⟩
abbrev s_turned : Stmt := topS 32
abbrev N_turned : List Str := ["_law_debts_here", "_law_found", "_law_pair"]
abbrev P_turned : List Str := ["_law_debts_here"]
theorem sc_turned : FnScope N_turned P_turned (defScope s_turned) := ⟨rfl, rfl, rfl, by decide +kernel, rfl, by decide +kernel, by decide +kernel⟩
def zx (ks : List Nat) (g : Nat → Int) : Nat → Int := fun k => if k ∈ ks then g k else 0
def addK (ks : List Nat) (k : Nat) : List Nat := if k ∈ ks then ks else ks ++ [k]
theorem mem_addK {ks : List Nat} {k x : Nat} : x ∈ addK ks k ↔ x ∈ ks ∨ x = k := mem_keys
theorem zx_put (ks : List Nat) (g : Nat → Int) (k : Nat) : (fun j => if j = k then g k else zx ks g j) = zx (addK ks k) g := by
  funext j
  unfold zx
  by_cases e : j = k
  · rw [if_pos e, if_pos (mem_addK.mpr (.inr e)), e]
  · rw [if_neg e]
    by_cases m : j ∈ ks
    · rw [if_pos m, if_pos (mem_addK.mpr (.inl m))]
    · rw [if_neg m, if_neg (fun z => (mem_addK.mp z).elim m e)]
theorem Db.putZ {H J : Hp} {D : Addr} {ks : List Nat} {g : Nat → Int} (d : Db H D ks (zx ks g)) {k : Nat} (hk : KOk k) (c0 : 0 ≤ g k) : Db (upd J D (.dK (putK (tab ky ks (zx ks g)) (Sum.inr (ky k)) (.int (g k))))) D (addK ks k) (zx (addK ks k) g) := by
  have z := d.put (J := J) hk c0
  rw [zx_put] at z
  exact z
theorem zx_nil (g : Nat → Int) : zx [] g = fun _ => 0 := funext fun k => if_neg (by simp)
theorem zx_full {H : Hp} {D : Addr} {ks ks' : List Nat} {g : Nat → Int} (d : Db H D ks g) (h : ∀ k, k ∈ ks' ↔ k ∈ ks) : zx ks' g = g := funext fun k => by
  unfold zx
  by_cases m : k ∈ ks'
  · rw [if_pos m]
  · rw [if_neg m, d.z k (fun z => m ((h k).mpr z))]
theorem pT_len (w : List Nat) : (S (pT w)).length = w.length := by rw [S_len]; exact List.length_map ..
theorem pT_mem {w : List Nat} {y : Nat} : 97 + y ∈ (S (pT w)).cps.toList ↔ y ∈ w := by
  show 97 + y ∈ pT w ↔ _
  unfold pT
  rw [List.mem_map]
  exact ⟨fun ⟨z, h, e⟩ => by have : z = y := by omega
                             exact this ▸ h, fun h => ⟨y, h, rfl⟩⟩
theorem pT_snoc (w : List Nat) (y : Nat) : S (pT w) ++ (⟨#[97 + y]⟩ : Str) = S (pT (w ++ [y])) := by
  rw [show (⟨#[97 + y]⟩ : Str) = S [97 + y] from rfl, S_cat]
  unfold pT
  rw [List.map_append]
  rfl
theorem frz_back2 {H J : Hp} {D : Addr} {o : HO} (e : H D = some o) (s : SB D H J) : Same H (upd J D o) := fun b u eb => by
  by_cases c : b = D
  · subst c
    rw [upd_same, ← e, eb]
  · rw [upd_ne c]
    exact s b u c eb
section
variable {P : Program} {w : World} {K : PySem.W.Frag} {mg : Str → Option Value} {base : Heap} {f : Addr} {fd : FuncData}
def spReach : Sp := fun vs H Q _ => ∃ (D : Addr) (ks : List Nat) (g : Nat → Int) (p : Nat), vs = [.ref D, .str (lt1 p)] ∧ Db H D ks g ∧ p < 6 ∧ ∀ fs H', Same H H' → Rch ks g p fs → Clo ks g fs → Q (.str (S (pT fs))) H'
theorem ok_reach (F : FnP K "_law_reach" s_reach f fd) (m_range : mg "range" = none) : FnOk P w K mg base CX0 1 f fd P_reach spReach := by
  refine F.ok sc_reach (fun vs H Q E h => ?_) (fun cdv A outer s H vs Q E hr h => ?_)
  · obtain ⟨D, ks, g, p, rfl, _⟩ := h
    rfl
  · obtain ⟨D, ks, g, p, rfl, hD, hp, q⟩ := h
    refine ⟨_, PSs.nox (pss_cons (ps_set (i := 2) sc_reach.nd rfl (by first | exact .inl rfl | exact .inr rfl) (pv 1))
      (pss_cons (ps_for PassesOwn.never rfl (pi_range1 (by rfl) m_range (pa_cons pe_int pa_nil)) (pg_name (i := 3) sc_reach.nd rfl (by first | exact .inl rfl | exact .inr rfl))
        (pss_one (ps_lock (ps_for PassesOwn.never rfl (pi_keys (pv 0)) (pg_name (i := 4) sc_reach.nd rfl (by first | exact .inl rfl | exact .inr rfl))
        (pss_one (ps_if (PW.pt (pw_and (pt_cmpR op_gt (pe_dget (hu_of hr) (pv 0) (pv 4) (fun _ _ => rfl)) pe_int (nomark _)) (pw_and (pt_cmpR op_in_sign (pe_ix ix_str (pv 4) pe_int (fun _ _ => rfl)) (pv 2) (by rfl)) (pw_and1 (pt_cmpR op_notIn_sign (pe_ix ix_str (pv 4) pe_int (fun _ _ => rfl)) (pv 2) (by rfl)))))) (pss_one (ps_set (i := 2) sc_reach.nd rfl (by first | exact .inl rfl | exact .inr rfl) (pe_op op_add_str (pv 2) (pe_ix ix_str (pv 4) pe_int (fun _ _ => rfl))))) pss_nil))))))
      (pss_one (ps_ret (pv 2))))), ?_⟩
    have lk := hD.len
    walk_at "go"
    refine for_gen (n := 6) (fun i σ J => Same H J ∧ ∃ fs v3 v4, Rch ks g p fs ∧ (Clo ks g fs ∨ i + 1 ≤ fs.length) ∧ σ = [some (.ref D), some (.str (lt1 p)), some (.str (S (pT fs))), v3, v4]) ⟨Same.refl _, [p], _, _, Rch.one hp, .inr (Nat.le_refl _), rfl⟩ ?_ ?_ ?_ ?_
    · intro i σ J hi _
      exact hi
    · intro σ J _
      exact Nat.le_refl _
    · rintro i σ J x J' hi ⟨s1, f0, v3, v4, r0, c0, rfl⟩ ⟨rfl, rfl⟩
      have hD1 := hD.mono s1
      walk_at "go"
      refine ⟨D, _, hD1.e, trivial, fun od => ?_⟩
      have fz : (upd J' D (.frz od (.dK (tab ky ks g)))) D = some (.frz od (.dK (tab ky ks g))) := upd_same
      have sb : SB D J' (upd J' D (.frz od (.dK (tab ky ks g)))) := fun b o n e => by rw [upd_ne n]; exact e
      walk_at "go"
      refine ⟨D, od, rfl, .inl ⟨_, fz, ?_⟩⟩
      generalize upd J' D (.frz od (.dK (tab ky ks g))) = J1 at fz sb
      refine for_gen (n := ks.length) (fun j σ J2 => J2 = J1 ∧ ∃ fs v4, Rch ks g p fs ∧ Lap ks g f0 fs j ∧ σ = [some (.ref D), some (.str (lt1 p)), some (.str (S (pT fs))), some (.int (0 + (i : Int))), v4]) ⟨rfl, f0, _, r0, .inl ⟨rfl, fun m _ h => absurd h (Nat.not_lt_zero _)⟩, rfl⟩ ?_ ?_ ?_ ?_
      · rintro j σ J2 hj ⟨rfl, _⟩
        exact ⟨fz, by rw [tab_len]; exact hj⟩
      · rintro σ J2 ⟨rfl, _⟩
        exact ⟨fz, by rw [tab_len]; exact Nat.le_refl _⟩
      · rintro j σ J2 x J3 hj ⟨rfl, fs, v4, r1, l1, rfl⟩ ⟨rfl, k, v, e, rfl⟩
        rw [tab_at hj] at e
        cases e
        have km := List.getElem_mem hj
        have go := lap_go l1 hj
        have stay := lap_stay l1 hj
        have lf := r1.len
        generalize ks[j] = k at km go stay
        walk_at "go"
        refine ⟨D, _, rfl, dget_fz fz km, ?_⟩
        walk_at "go"
        refine ite2 (fun e1 => ?_) (fun e1 => ?_)
        · walk_at "go"
          refine ⟨ky k, _, 97 + k / 6, rfl, rfl, by rw [ky_len]; exact szl (by decide), rfl, ?_⟩
          walk_at "go"
          refine ite2 (fun e2 => ?_) (fun e2 => ?_)
          · walk_at "go"
            refine ⟨ky k, _, 97 + k % 6, rfl, rfl, by rw [ky_len]; exact szl (by decide), rfl, ?_⟩
            walk_at "go"
            refine ite2 (fun e3 => ?_) (fun e3 => ?_)
            · have a1 : 0 < g k := of_decide_eq_true e1
              have a2 := pT_mem.mp (of_decide_eq_true e2)
              have a3 : k % 6 ∉ fs := fun z => by
                rw [decide_eq_true (pT_mem.mpr z)] at e3
                cases e3
              walk_at "go"
              refine ⟨ky k, _, 97 + k % 6, rfl, rfl, by rw [ky_len]; exact szl (by decide), rfl, ?_⟩
              walk_at "go"
              refine ⟨by rw [pT_len]; exact szl (show _ + 1 ≤ 2000 by omega), ?_⟩
              rw [pT_snoc]
              walk_at "go"
              exact ⟨fs ++ [k % 6], _, r1.more km a1 a2 a3, go a1 a2 a3 _, rfl⟩
            · walk_at "go"
              refine ⟨fs, _, r1, stay fun z => e3 ?_, rfl⟩
              rw [decide_eq_false (fun y => z.2.2 (pT_mem.mp y))]
              rfl
          · walk_at "go"
            exact ⟨fs, _, r1, stay fun z => e2 (decide_eq_true (pT_mem.mpr z.2.1)), rfl⟩
        · walk_at "go"
          exact ⟨fs, _, r1, stay fun z => e1 (decide_eq_true z.1), rfl⟩
      · rintro σ J2 ⟨rfl, fs, v4, r1, l1, rfl⟩
        refine ⟨fz, frz_back2 hD1.e sb |> s1.trans, fs, _, _, r1, lap_end l1 c0, rfl⟩
    · rintro σ J ⟨s1, fs, v3, v4, r1, c1, rfl⟩
      walk_at "go"
      refine q fs J s1 r1 (c1.resolve_right fun z => ?_)
      have := r1.len
      omega
def spTurned : Sp := fun vs H Q _ => ∃ (D : Addr) (ks : List Nat) (g : Nat → Int), vs = [.ref D] ∧ Db H D ks g ∧ ∀ F ks' H', Same H H' → H F = none → Db H' F ks' g → (∀ k, k ∈ ks' ↔ k ∈ ks) → Q (.ref F) H'
theorem ok_turned (F : FnP K "_law_turned" s_turned f fd) (m_list : mg "list" = none) (m_reversed : mg "reversed" = none) : FnOk P w K mg base CX0 1 f fd P_turned spTurned := by
  refine F.ok sc_turned (fun vs H Q E h => ?_) (fun cdv A outer s H vs Q E hr h => ?_)
  · obtain ⟨D, ks, g, rfl, _⟩ := h
    rfl
  · obtain ⟨D, ks, g, rfl, hD, q⟩ := h
    refine ⟨_, PSs.nox (pss_cons (ps_set (i := 1) sc_turned.nd rfl (by first | exact .inl rfl | exact .inr rfl) pe_dnewK)
      (pss_cons (ps_for PassesOwn.never rfl (pi_reversed (by rfl) m_reversed (pa_cons (pe_callTy (call_list_dK rfl) (by rfl) m_list (by decide +kernel) (pa_cons (pv 0) pa_nil)) pa_nil)) (pg_name (i := 2) sc_turned.nd rfl (by first | exact .inl rfl | exact .inr rfl))
        (pss_one (ps_dput (hu_of hr) (pv 1) (pv 2) (pe_dget (hu_of hr) (pv 0) (pv 2) (fun _ _ => rfl)) rfl)))
      (pss_one (ps_ret (pv 1))))), ?_⟩
    have lk := hD.len
    walk_at "go"
    intro L nL
    have sL := same_new (o := .dK []) nL
    have d0 : Db (upd H L (.dK [])) L [] (zx [] g) := by
      rw [zx_nil]
      exact ⟨upd_same, List.nodup_nil, fun k m => absurd m (by simp), fun k _ => rfl⟩
    have DL : D ≠ L := fun e => by rw [← e, hD.e] at nL; cases nL
    generalize upd H L (.dK []) = H1 at sL d0
    have hD1 := hD.mono sL
    walk_at "go"
    refine ⟨D, _, rfl, hD1.e, fun C nC => ?_⟩
    rw [tab_filter]
    have sC := same_new (o := .lst (ks.map fun k => V.str (ky k))) nC
    have eC : (upd H1 C (.lst (ks.map fun k => V.str (ky k)))) C = some (.lst (ks.map fun k => V.str (ky k))) := upd_same
    have d1 := d0.mono sC
    have s1 := sL.trans sC
    have CL : C ≠ L := fun e => by rw [e, d0.e] at nC; cases nC
    generalize upd H1 C (.lst (ks.map fun k => V.str (ky k))) = H2 at s1 eC d1
    clear sC d0 sL hD1
    walk_at "go"
    refine ⟨C, _, rfl, SqL.of eC, ?_⟩
    rw [List.length_map]
    refine for_gen (n := ks.length) (fun i σ J => Same H J ∧ J C = some (.lst (ks.map fun k => V.str (ky k))) ∧ (∃ ks', Db J L ks' (zx ks' g) ∧ (∀ k ∈ ks', k ∈ ks) ∧ ∀ m (h : m < ks.length), ks.length - i ≤ m → ks[m] ∈ ks') ∧ ∃ v2, σ = [some (.ref D), some (.ref L), v2]) ⟨s1, eC, ⟨[], d1, fun k m => absurd m (by simp), fun m h z => absurd h (by omega)⟩, _, rfl⟩ ?_ ?_ ?_ ?_
    · rintro i σ J hi ⟨_, eC1, _⟩
      exact ⟨hi, _, .str (ky (ks[ks.length - 1 - i])), SqL.of eC1, by rw [List.getElem?_map, List.getElem?_eq_getElem (by omega)]; rfl⟩
    · rintro σ J _
      exact Nat.le_refl _
    · rintro i σ J x J' hi ⟨s2, eC1, ⟨ks', d2, sub, cov⟩, v2, rfl⟩ ⟨rfl, hx⟩
      have hx := hx _ (SqL.of eC1)
      have hi' : ks.length - 1 - i < ks.length := by omega
      rw [List.getElem?_map, List.getElem?_eq_getElem hi'] at hx
      cases hx
      have km := List.getElem_mem hi'
      have cov2 : ∀ m (h : m < ks.length), ks.length - (i + 1) ≤ m → ks[m] ∈ addK ks' ks[ks.length - 1 - i] := fun m h z => by
        by_cases e : m = ks.length - 1 - i
        · subst e
          exact mem_addK.mpr (.inr rfl)
        · exact mem_addK.mpr (.inl (cov m h (by omega)))
      generalize ks[ks.length - 1 - i] = k at km cov2
      walk_at "go"
      refine ⟨D, _, rfl, (hD.mono s2).get km, ?_⟩
      walk_at "go"
      refine ⟨L, _, rfl, d2.dput k _, ?_⟩
      refine ⟨Z.Same.mut s2 nL, by rw [upd_ne CL]; exact eC1, ⟨_, d2.putZ (hD.ok k km).1 (hD.nn k), fun j m => ?_, cov2⟩, _, rfl⟩
      rcases mem_addK.mp m with h | h
      · exact sub j h
      · rw [h]
        exact km
    · rintro σ J ⟨s2, eC1, ⟨ks', d2, sub, cov⟩, v2, rfl⟩
      have eq : ∀ k, k ∈ ks' ↔ k ∈ ks := fun k => ⟨sub k, fun m => by
        obtain ⟨i, hi, rfl⟩ := List.getElem_of_mem m
        exact cov i hi (by omega)⟩
      rw [zx_full hD eq] at d2
      walk_at "go"
      exact q L ks' J s2 nL d2 eq
end
end Z
set_option pp.maxSteps 700
set_option Elab.async false
set_option linter.all false
set_option maxRecDepth 100000
set_option maxHeartbeats 4000000
open SX (S S_inj S_len S_cat)
namespace Z
open SO
open PySem PySem.Spec PyProof.Rows L2
open C8 (pss_cut tCut)
local macro_rules | `(tactic| walk_at "num") => `(tactic| first | rfl | omega | decide | exact Nat.le_of_lt (small1000 (by simp)) | exact ⟨by omega, by omega⟩ | exact ⟨by omega, by omega, by omega⟩ | exact ⟨by decide, by decide, by decide⟩ | exact Or.inl ⟨by omega, by omega⟩ | exact Or.inr ⟨by omega, by omega⟩)
local macro_rules | `(tactic| walk_at "go") => `(tactic| repeat (first | refine ⟨_, rfl, ?_⟩ | refine ⟨_, _, rfl, rfl, ?_⟩ | refine ⟨_, _, rfl, ?_⟩ | (refine ⟨_, _, rfl, rfl, ?_, ?_⟩; focus walk_at "num") | refine Or.inl ⟨_, rfl, ?_⟩ | refine ⟨_, _, _, _, rfl, rfl, (by assumption), (by rfl), ?_⟩ | refine ⟨_, _, _, _, _, rfl, (by assumption), (by assumption), (by assumption), (by rfl), ?_⟩ | refine ⟨rfl, ?_⟩ | (refine And.intro ?_ ?_; focus walk_at "num")))
abbrev s_fits : Stmt := topS 37
abbrev N_fits : List Str := ["_law_debts_here", "_law_answer", "_law_rest", "_law_pairs", "_law_k", "_law_party", "_law_before", "_law_after", "_law_pair"]
abbrev P_fits : List Str := ["_law_debts_here", "_law_answer"]
theorem sc_fits : FnScope N_fits P_fits (defScope s_fits) := ⟨rfl, rfl, rfl, by decide +kernel, rfl, by decide +kernel, by decide +kernel⟩
theorem at_0 {α : Type} {x : α} {xs : List α} : atI (x :: xs) 0 = some x := show atI _ ((0 : Nat) : Int) = _ from atI_nat rfl
theorem at_1 {α : Type} {x y : α} {xs : List α} : atI (x :: y :: xs) 1 = some y := show atI _ ((1 : Nat) : Int) = _ from atI_nat rfl
theorem nt6_eq {f g : Nat → Int} (h : ∀ p, p < 6 → nt (ent U f) p = nt (ent U g) p) : (List.range 6).map (fun p => V.int (nt (ent U f) p)) = ((List.range 6).map (nt (ent U g))).map V.int := by
  rw [List.map_map]
  exact List.map_congr_left fun p m => congrArg V.int (h p (List.mem_range.mp m))
theorem ky_lt {a b : Nat} (h : a < b) : (ky a).cps.toList < (ky b).cps.toList := by
  show [97 + a / 6, 97 + a % 6] < [97 + b / 6, 97 + b % 6]
  rw [List.cons_lt_cons_iff]
  by_cases c : a / 6 < b / 6
  · left
    omega
  · right
    refine ⟨by omega, ?_⟩
    rw [List.cons_lt_cons_iff]
    left
    omega
structure Ans (H : Hp) (t R T : Addr) (g r h : Nat → Int) : Prop where
  t : H t = some (.tup [.ref R, .ref T])
  R : Db H R (posK r) r
  T : H T = some (.tup (hV h))
  res : Res g r h
  fin : Fin g r h
theorem Ans.mono {H H' : Hp} {t R T : Addr} {g r h : Nat → Int} (a : Ans H t R T g r h) (s : Same H H') : Ans H' t R T g r h := ⟨s _ _ a.t, a.R.mono s, s _ _ a.T, a.res, a.fin⟩
section
variable {P : Program} {w : World} {K : PySem.W.Frag} {mg : Str → Option Value} {base : Heap} {f : Addr} {fd : FuncData}
def spFits : Sp := fun vs H Q _ => ∃ (D t R T : Addr) (ks : List Nat) (g r h : Nat → Int), vs = [.ref D, .ref t] ∧ Db H D ks g ∧ Ans H t R T g r h ∧ D ≠ R ∧ ∀ H', Same H H' → Q (.bl true) H'
theorem ok_fits (F : FnP K "_law_fits" s_fits f fd) (m_isinstance : mg "isinstance" = none) (m_tuple : mg "tuple" = none) (m_dict : mg "dict" = none) (m_str : mg "str" = none) (m_list : mg "list" = none) (m_len : mg "len" = none) (m_range : mg "range" = none) (c_is_integer : Cal P w K mg base 1 "_law_is_integer" spInt) (c_law_net : Cal P w K mg base 1 "_law_net" spLNet) (c_reach : Cal P w K mg base 1 "_law_reach" spReach) : FnOk P w K mg base CX0 2 f fd P_fits spFits := by
  refine F.ok sc_fits (fun vs H Q E h => ?_) (fun cdv A outer s H vs Q E hr h => ?_)
  · obtain ⟨D, t, R, T, ks, g, r, h, rfl, _⟩ := h
    rfl
  · obtain ⟨D, t, R, T, ks, g, r, h, rfl, hD, an, DR, q⟩ := h
    refine ⟨_, PSs.nox (pss_cons (ps_if (PW.pt (pw_or (pt_not (pt_val (pe_callB call_isi (by rfl) m_isinstance (by decide +kernel) (pa_cons (pv 1) (pa_cons (pe_bltn (v := .ty "tuple") (by rfl) m_tuple (by decide +kernel) rfl) pa_nil))))) (pw_or (pt_cmpR op_ne (pe_callB call_len_seq (by rfl) m_len PySem.boot_len (pa_cons (pv 1) pa_nil)) pe_int (nomark _)) (pw_or1 (pt_not (pt_val (pe_callB call_isi (by rfl) m_isinstance (by decide +kernel) (pa_cons (pe_ix ix_tup (pv 1) pe_int (fun _ _ => rfl)) (pa_cons (pe_bltn (v := .ty "dict") (by rfl) m_dict (by decide +kernel) rfl) pa_nil))))))))) (pss_one (ps_ret pe_bl)) pss_nil)
      (pss_cons (ps_set (i := 2) sc_fits.nd rfl (by first | exact .inl rfl | exact .inr rfl) (pe_ix ix_tup (pv 1) pe_int (fun _ _ => rfl)))
      (pss_cons (ps_set (i := 3) sc_fits.nd rfl (by first | exact .inl rfl | exact .inr rfl) (pe_callTy (call_list_dK rfl) (by rfl) m_list (by decide +kernel) (pa_cons (pv 2) pa_nil)))
      (pss_cons (ps_for PassesOwn.never rfl (pi_range1 (by rfl) m_range (pa_cons (pe_callB call_len_seq (by rfl) m_len PySem.boot_len (pa_cons (pv 3) pa_nil)) pa_nil)) (pg_name (i := 4) sc_fits.nd rfl (by first | exact .inl rfl | exact .inr rfl))
        (pss_cons (ps_if (PW.pt (pw_or (pt_not (pt_val (pe_callB call_isi (by rfl) m_isinstance (by decide +kernel) (pa_cons (pe_ix ix_list (pv 3) (pv 4) (fun _ _ => rfl)) (pa_cons (pe_bltn (v := .ty "str") (by rfl) m_str (by decide +kernel) rfl) pa_nil))))) (pw_or (pt_cmp (pc_dnotin (hu_of hr) (pe_ix ix_list (pv 3) (pv 4) (fun _ _ => rfl)) (pv 0)) (by rfl)) (pw_or1 (pt_not (pt_val (pe_cl c_is_integer hr (by decide) (by rfl) (pa_cons (pe_dget (hu_of hr) (pv 2) (pe_ix ix_list (pv 3) (pv 4) (fun _ _ => rfl)) (fun _ _ => rfl)) pa_nil)))))))) (pss_one (ps_ret pe_bl)) pss_nil)
      (pss_cons (ps_if (PW.pt (pw_or (pt_cmpR op_lt (pe_dget (hu_of hr) (pv 2) (pe_ix ix_list (pv 3) (pv 4) (fun _ _ => rfl)) (fun _ _ => rfl)) pe_int (nomark _)) (pw_or1 (pt_cmpR op_gt (pe_dget (hu_of hr) (pv 2) (pe_ix ix_list (pv 3) (pv 4) (fun _ _ => rfl)) (fun _ _ => rfl)) (pe_dget (hu_of hr) (pv 0) (pe_ix ix_list (pv 3) (pv 4) (fun _ _ => rfl)) (fun _ _ => rfl)) (nomark _))))) (pss_one (ps_ret pe_bl)) pss_nil)
      (pss_one (ps_if (PW.pt (pw_and (pt_cmpR op_gt (pv 4) pe_int (nomark _)) (pw_and1 (pt_cmpR op_ge_str (pe_ix ix_list (pv 3) (pe_op op_sub (pv 4) pe_int) (fun _ _ => rfl)) (pe_ix ix_list (pv 3) (pv 4) (fun _ _ => rfl)) (nomark _))))) (pss_one (ps_ret pe_bl)) pss_nil)))))
      (pss_cons (ps_if (pt_cmpR (op_neD hr.units) (pe_cl c_law_net hr (by decide) (by rfl) (pa_cons (pv 2) pa_nil)) (pe_cl c_law_net hr (by decide) (by rfl) (pa_cons (pv 0) pa_nil)) (nomark _)) (pss_one (ps_ret pe_bl)) pss_nil)
      (pss_cons (ps_for PassesOwn.never rfl (pi_str pe_str) (pg_name (i := 5) sc_fits.nd rfl (by first | exact .inl rfl | exact .inr rfl))
        (pss_cons (ps_set (i := 6) sc_fits.nd rfl (by first | exact .inl rfl | exact .inr rfl) (pe_cl c_reach hr (by decide) (by rfl) (pa_cons (pv 0) (pa_cons (pv 5) pa_nil))))
      (pss_cons (ps_set (i := 7) sc_fits.nd rfl (by first | exact .inl rfl | exact .inr rfl) (pe_cl c_reach hr (by decide) (by rfl) (pa_cons (pv 2) (pa_cons (pv 5) pa_nil))))
      (pss_one (ps_lock (ps_for PassesOwn.never rfl (pi_keys (pv 0)) (pg_name (i := 8) sc_fits.nd rfl (by first | exact .inl rfl | exact .inr rfl))
        (pss_one (ps_if (pt_cmpR op_eq (pe_ix ix_str (pv 8) pe_int (fun _ _ => rfl)) (pv 5) (nomark _)) (pss_cons (ps_if (PW.pt (pw_and (pt_cmp (pc_din (hu_of hr) (pv 8) (pv 2)) (by rfl)) (pw_and1 (pt_cmpR op_in_sign (pe_ix ix_str (pv 8) pe_int (fun _ _ => rfl)) (pv 7) (by rfl))))) (pss_one (ps_ret pe_bl)) pss_nil)
      (pss_one (ps_if (PW.pt (pw_and (pt_cmpR op_notIn_sign (pe_ix ix_str (pv 8) pe_int (fun _ _ => rfl)) (pv 6) (by rfl)) (pw_and (pt_cmpR op_gt (pe_dget (hu_of hr) (pv 0) (pv 8) (fun _ _ => rfl)) pe_int (nomark _)) (pw_and1 (PW.pt (pw_or (pt_cmp (pc_dnotin (hu_of hr) (pv 8) (pv 2)) (by rfl)) (pw_or1 (pt_cmpR op_ne (pe_dget (hu_of hr) (pv 2) (pv 8) (fun _ _ => rfl)) (pe_dget (hu_of hr) (pv 0) (pv 8) (fun _ _ => rfl)) (nomark _))))))))) (pss_one (ps_ret pe_bl)) pss_nil))) pss_nil))))))))
      (pss_one (ps_ret pe_bl)))))))), ?_⟩
    have res := an.res
    have hR := an.R
    have lk := hD.len
    have lj := hR.len
    have r0 : ∀ k ∈ posK r, k ∈ ks := fun k m => Classical.byContradiction fun z => by
      have h1 := (mem_posK.mp m).2
      have h2 := (res.b k).2
      rw [hD.z k z] at h2
      omega
    walk_at "go"
    refine isi (c := "tuple") (b := true) (.tup an.t) (by decide +kernel) ?_
    walk_at "go"
    refine ⟨t, _, rfl, .inr (SqT.of an.t), ?_⟩
    walk_at "go"
    refine ⟨t, _, _, _, rfl, rfl, SqT.of an.t, at_0, ?_⟩
    walk_at "go"
    refine isi (c := "dict") (b := true) (.dK hR.e) (by decide +kernel) ?_
    walk_at "go"
    refine ⟨t, _, _, _, rfl, rfl, SqT.of an.t, at_0, ?_⟩
    walk_at "go"
    refine ⟨R, _, rfl, hR.e, fun C nC => ?_⟩
    rw [tab_filter]
    obtain ⟨js, ejs⟩ : ∃ js, js = posK r := ⟨_, rfl⟩
    rw [← ejs] at hR r0 lj ⊢
    have sC := same_new (o := .lst (js.map fun k => V.str (ky k))) nC
    have eC : (upd H C (.lst (js.map fun k => V.str (ky k)))) C = some (.lst (js.map fun k => V.str (ky k))) := upd_same
    generalize upd H C (.lst (js.map fun k => V.str (ky k))) = H1 at sC eC
    have hD1 := hD.mono sC
    have hR1 := hR.mono sC
    walk_at "go"
    refine ⟨C, _, rfl, .inl (SqL.of eC), ?_⟩
    rw [List.length_map]
    walk_at "go"
    refine for_gen (n := js.length) (fun i σ J => J = H1 ∧ ∃ v4, σ = [some (.ref D), some (.ref t), some (.ref R), some (.ref C), v4, none, none, none, none]) ⟨rfl, _, rfl⟩ ?_ ?_ ?_ ?_
    · intro i σ J hi _
      show i < ((js.length : Int)).toNat
      omega
    · intro σ J _
      show ((js.length : Int)).toNat ≤ js.length
      omega
    · rintro i σ J x J' hi ⟨rfl, v4, rfl⟩ ⟨rfl, rfl⟩
      have ea : ∀ (j : Nat) (hj : j < js.length) (z : Int), z = (j : Int) → atI (js.map fun k => V.str (ky k)) z = some (.str (ky js[j])) := fun j hj z e => at_of (j := j) e (by rw [List.getElem?_map, List.getElem?_eq_getElem hj]; rfl)
      have e1 := ea i hi (0 + (i : Int)) (by omega)
      have km := List.getElem_mem hi
      have lt1' : ∀ j (hj : j < i), js[j] < js[i] := fun j hj => by
        have a := posK_asc r
        rw [← ejs] at a
        exact List.pairwise_iff_getElem.mp a j i (by omega) hi hj
      generalize js[i] = k at e1 km lt1'
      have kd := r0 k km
      have p0 := (mem_posK.mp (by rw [← ejs]; exact km) : k < 36 ∧ 0 < r k).2
      have p1 := (res.b k).2
      walk_at "go"
      refine ⟨C, _, _, _, rfl, rfl, SqL.of eC, e1, ?_⟩
      walk_at "go"
      refine isi (c := "str") (b := true) (.str _) (by decide +kernel) ?_
      walk_at "go"
      refine ⟨C, _, _, _, rfl, rfl, SqL.of eC, e1, ?_⟩
      walk_at "go"
      refine ⟨D, _, rfl, hD1.get kd, ?_⟩
      walk_at "go"
      refine ⟨C, _, _, _, rfl, rfl, SqL.of eC, e1, ?_⟩
      walk_at "go"
      refine ⟨R, _, rfl, hR1.get km, ?_⟩
      walk_at "go"
      refine ⟨C, _, _, _, rfl, rfl, SqL.of eC, e1, ?_⟩
      walk_at "go"
      refine ⟨R, _, rfl, hR1.get km, ?_⟩
      walk_at "go"
      refine ite2 (fun e => absurd (of_decide_eq_true e) (by omega)) (fun _ => ?_)
      walk_at "go"
      refine ⟨C, _, _, _, rfl, rfl, SqL.of eC, e1, ?_⟩
      walk_at "go"
      refine ⟨R, _, rfl, hR1.get km, ?_⟩
      walk_at "go"
      refine ⟨C, _, _, _, rfl, rfl, SqL.of eC, e1, ?_⟩
      walk_at "go"
      refine ⟨D, _, rfl, hD1.get kd, ?_⟩
      walk_at "go"
      refine ite2 (fun e => absurd (of_decide_eq_true e) (by omega)) (fun _ => ?_)
      walk_at "go"
      refine ite2 (fun e => ?_) (fun e => ?_)
      · have e : 0 < (0 : Int) + (i : Int) := of_decide_eq_true e
        have e2 := ea (i - 1) (by omega) (0 + (i : Int) - 1) (by omega)
        have lt2 := ky_lt (lt1' (i - 1) (by omega))
        generalize js[i - 1] = k' at e2 lt2
        walk_at "go"
        refine ⟨C, _, _, _, rfl, rfl, SqL.of eC, e2, ?_⟩
        walk_at "go"
        refine ⟨C, _, _, _, rfl, rfl, SqL.of eC, e1, ?_⟩
        walk_at "go"
        rw [decide_eq_true lt2]
        walk_at "go"
        exact ⟨_, rfl⟩
      · walk_at "go"
        exact ⟨_, rfl⟩
    rintro σ J ⟨rfl, v4, rfl⟩
    walk_at "go"
    refine ⟨R, js, r, rfl, hR1, fun L1 J4 s2 e1 => ?_⟩
    walk_at "go"
    refine ⟨D, ks, g, rfl, hD1.mono s2, fun L2 J5 s3 e2 => ?_⟩
    have s4 := sC.trans (s2.trans s3)
    have e1 := s3 _ _ e1
    have hD5 := hD.mono s4
    have hR5 := hR.mono s4
    rw [nt6_eq (g := g) res.n] at e1
    rw [nt6_eq (g := g) (fun _ _ => rfl)] at e2
    walk_at "go"
    refine ⟨_, _, dp_ints (b := true) (SqL.of e1), dp_ints (b := true) (SqL.of e2), shaped_ints true _, shaped_ints true _, ?_⟩
    rw [eqv_same (shaped_ints true _)]
    clear e1 e2 s2 sC hD1 hR1 eC
    walk_at "go"
    refine for_gen (n := 6) (fun i σ J => Same J5 J ∧ ∃ v5 v6 v7 v8, σ = [some (.ref D), some (.ref t), some (.ref R), some (.ref C), v4, v5, v6, v7, v8]) ⟨Same.refl _, _, _, _, _, rfl⟩ ?_ ?_ ?_ ?_
    · rintro i σ J hi _
      show i < (Str.ofString "abcdef").cps.size
      rw [abc_sz]
      exact hi
    · rintro σ J _
      show (Str.ofString "abcdef").cps.size ≤ 6
      rw [abc_sz]
      exact Nat.le_refl _
    · rintro i σ J x J' hi ⟨s1, v5, v6, v7, v8, rfl⟩ ⟨rfl, c, ec, rfl⟩
      rw [abc_at i hi] at ec
      cases ec
      walk_at "go"
      refine ⟨D, ks, g, i, rfl, hD5.mono s1, hi, fun fs J6 s6 rf cf => ?_⟩
      walk_at "go"
      refine ⟨R, js, r, i, rfl, hR5.mono (s1.trans s6), hi, fun fr J7 s7 rr cr => ?_⟩
      have s17 := s1.trans (s6.trans s7)
      have hD7 := hD5.mono s17
      have hR7 := hR5.mono s17
      clear s6 s7 s1 cr
      dsimp only [List.set]
      walk_at "go"
      refine ⟨D, _, hD7.e, trivial, fun od => ?_⟩
      have fz : (upd J7 D (.frz od (.dK (tab ky ks g)))) D = some (.frz od (.dK (tab ky ks g))) := upd_same
      have sb : SB D J7 (upd J7 D (.frz od (.dK (tab ky ks g)))) := fun b o n e => by rw [upd_ne n]; exact e
      walk_at "go"
      refine ⟨D, od, rfl, .inl ⟨_, fz, ?_⟩⟩
      generalize upd J7 D (.frz od (.dK (tab ky ks g))) = J8 at fz sb
      have hR8 := sb _ _ DR.symm hR7.e
      refine for_gen (n := ks.length) (fun j σ J2 => J2 = J8 ∧ ∃ v8, σ = [some (.ref D), some (.ref t), some (.ref R), some (.ref C), v4, some (.str ⟨#[97 + i]⟩), some (.str (S (pT fs))), some (.str (S (pT fr))), v8]) ⟨rfl, _, rfl⟩ ?_ ?_ ?_ ?_
      · rintro j σ J2 hj ⟨rfl, _⟩
        exact ⟨fz, by rw [tab_len]; exact hj⟩
      · rintro σ J2 ⟨rfl, _⟩
        exact ⟨fz, by rw [tab_len]; exact Nat.le_refl _⟩
      · rintro j σ J2 x J9 hj ⟨rfl, v8, rfl⟩ ⟨rfl, k, v, e, rfl⟩
        rw [tab_at hj] at e
        cases e
        have km := List.getElem_mem hj
        generalize ks[j] = k at km
        have k36 := (hD.ok k km).1.1
        walk_at "go"
        refine ⟨ky k, _, 97 + k % 6, rfl, rfl, by rw [ky_len]; exact szl (by decide), rfl, ?_⟩
        walk_at "go"
        rw [show decide (V.str ⟨#[97 + k % 6]⟩ = V.str ⟨#[97 + i]⟩) = decide (k % 6 = i) from dec_lt1 _ _]
        refine ite2 (fun e => ?_) (fun e => ?_)
        · have ki : k % 6 = i := of_decide_eq_true e
          have inj : 0 < r k → k ∈ js := fun z => by rw [ejs]; exact mem_posK.mpr ⟨k36, z⟩
          have stay : k / 6 ∉ fs → r k = g k := fun nin => res.stays (fun q => decide (q ∈ fs)) (fun k' _ gp a => decide_eq_true (cf k' (Classical.byContradiction fun z => by rw [hD.z k' z] at gp; exact absurd gp (by decide)) gp (of_decide_eq_true a))) k36 (decide_eq_false nin) (decide_eq_true (by rw [ki]; exact rf.at_))
          walk_at "go"
          by_cases mj : k ∈ js
          · have up := res.up k k36 (by have := mj; rw [ejs] at this; exact (mem_posK.mp this).2)
            have nfr : k / 6 ∉ fr := fun z => by
              have := rr.so (fun q => h q ≤ h i) (Int.le_refl _) (fun k' m' gp a => by
                have := res.up k' (hR.ok k' m').1.1 gp
                omega) _ z
              rw [ki] at up
              omega
            refine ⟨R, _, rfl, tab_get (fun _ _ => ky_inj) hR8 mj, ?_⟩
            walk_at "go"
            refine ⟨ky k, _, 97 + k / 6, rfl, rfl, by rw [ky_len]; exact szl (by decide), rfl, ?_⟩
            walk_at "go"
            refine ite2 (fun e => absurd (pT_mem.mp (of_decide_eq_true e)) nfr) (fun _ => ?_)
            walk_at "go"
            refine ⟨ky k, _, 97 + k / 6, rfl, rfl, by rw [ky_len]; exact szl (by decide), rfl, ?_⟩
            walk_at "go"
            refine ite2 (fun e1 => ?_) (fun e1 => ?_)
            · have nin : k / 6 ∉ fs := fun z => by
                rw [decide_eq_true (pT_mem.mpr z)] at e1
                cases e1
              walk_at "go"
              refine ⟨D, _, rfl, dget_fz fz km, ?_⟩
              walk_at "go"
              refine ite2 (fun e2 => ?_) (fun e2 => ?_)
              · have gp : 0 < g k := of_decide_eq_true e2
                have rg := stay nin
                have mj := inj (by omega)
                walk_at "go"
                refine ⟨R, _, rfl, tab_get (fun _ _ => ky_inj) hR8 mj, ?_⟩
                walk_at "go"
                refine ⟨R, _, rfl, tab_get (fun _ _ => ky_inj) hR8 mj, ?_⟩
                walk_at "go"
                refine ⟨D, _, rfl, dget_fz fz km, ?_⟩
                rw [rg]
                walk_at "go"
                refine ite2 (fun e => absurd e (by simp)) (fun _ => ?_)
                walk_at "go"
                exact ⟨_, rfl⟩
              · walk_at "go"
                exact ⟨_, rfl⟩
            · walk_at "go"
              exact ⟨_, rfl⟩
          · have e0 : DGet J9 R (.str (ky k)) none := by
              have z := DGet.k (k := Sum.inr (ky k)) hR8
              rw [tab_val (fun _ _ => ky_inj), if_neg mj] at z
              exact z
            refine ⟨R, none, rfl, e0, ?_⟩
            walk_at "go"
            refine ⟨ky k, _, 97 + k / 6, rfl, rfl, by rw [ky_len]; exact szl (by decide), rfl, ?_⟩
            walk_at "go"
            refine ite2 (fun e1 => ?_) (fun e1 => ?_)
            · have nin : k / 6 ∉ fs := fun z => by
                rw [decide_eq_true (pT_mem.mpr z)] at e1
                cases e1
              walk_at "go"
              refine ⟨D, _, rfl, dget_fz fz km, ?_⟩
              walk_at "go"
              refine ite2 (fun e2 => ?_) (fun e2 => ?_)
              · have gp : 0 < g k := of_decide_eq_true e2
                have rg := stay nin
                have mj := inj (by omega)
                walk_at "go"
                refine ⟨R, _, rfl, tab_get (fun _ _ => ky_inj) hR8 mj, ?_⟩
                walk_at "go"
                refine ⟨R, _, rfl, tab_get (fun _ _ => ky_inj) hR8 mj, ?_⟩
                walk_at "go"
                refine ⟨D, _, rfl, dget_fz fz km, ?_⟩
                rw [rg]
                walk_at "go"
                refine ite2 (fun e => absurd e (by simp)) (fun _ => ?_)
                walk_at "go"
                exact ⟨_, rfl⟩
              · walk_at "go"
                exact ⟨_, rfl⟩
            · walk_at "go"
              exact ⟨_, rfl⟩
        · walk_at "go"
          exact ⟨_, rfl⟩
      · rintro σ J2 ⟨rfl, v8, rfl⟩
        exact ⟨fz, s17.trans (frz_back2 hD7.e sb), _, _, _, _, rfl⟩
    · rintro σ J ⟨s1, v5, v6, v7, v8, rfl⟩
      walk_at "go"
      exact q _ (s4.trans s1)
end
end Z
set_option pp.maxSteps 700
set_option Elab.async false
set_option linter.all false
set_option maxRecDepth 100000
set_option maxHeartbeats 4000000
open SX (S S_inj S_len S_cat)
namespace Z
open SO
open PySem PySem.Spec PyProof.Rows L2
open C8 (pss_cut tCut)
local macro_rules | `(tactic| walk_at "num") => `(tactic| first | rfl | omega | decide | exact Nat.le_of_lt (small1000 (by simp)) | exact ⟨by omega, by omega⟩ | exact ⟨by omega, by omega, by omega⟩ | exact ⟨by decide, by decide, by decide⟩ | exact Or.inl ⟨by omega, by omega⟩ | exact Or.inr ⟨by omega, by omega⟩)
local macro_rules | `(tactic| walk_at "go") => `(tactic| repeat (first | refine ⟨_, rfl, ?_⟩ | refine ⟨_, _, rfl, rfl, ?_⟩ | refine ⟨_, _, rfl, ?_⟩ | (refine ⟨_, _, rfl, rfl, ?_, ?_⟩; focus walk_at "num") | refine Or.inl ⟨_, rfl, ?_⟩ | refine ⟨_, _, _, _, rfl, rfl, (by assumption), (by rfl), ?_⟩ | refine ⟨_, _, _, _, _, rfl, (by assumption), (by assumption), (by assumption), (by rfl), ?_⟩ | refine ⟨rfl, ?_⟩ | (refine And.intro ?_ ?_; focus walk_at "num")))
abbrev s_ring : Stmt := topS 31
abbrev N_ring : List Str := ["_law_draws_here", "_law_place", "_law_parties_here", "_law_scale", "_law_base_here", "_law_debts_here", "_law_k", "_law_party", "_law_draw", "_law_member", "_law_coins_here"]
abbrev P_ring : List Str := ["_law_draws_here", "_law_place", "_law_parties_here", "_law_scale", "_law_base_here"]
theorem sc_ring : FnScope N_ring P_ring (defScope s_ring) := ⟨rfl, rfl, rfl, by decide +kernel, rfl, by decide +kernel, by decide +kernel⟩
theorem getD_get {w : List Nat} {i : Nat} (h : i < w.length) : w.getD i 0 = w[i] := by
  rw [List.getD_eq_getElem?_getD, List.getElem?_eq_getElem h]
  rfl
theorem pT_at {w : List Nat} {i : Nat} (h : i < w.length) : atI (S (pT w)).cps.toList (i : Int) = some (97 + w.getD i 0) := by
  rw [ps_at h, getD_get h]
def Oth (ps ks : List Nat) (i : Nat) : Prop := ∀ k ∈ ks, (∃ j, j < ps.length ∧ k = rc ps j) ∨ ∃ q, q ∉ ps ∧ q < i ∧ ((k / 6 = q ∧ k % 6 ∈ ps) ∨ (k % 6 = q ∧ k / 6 ∈ ps)) ∧ ∀ j ∈ ks, j / 6 = q ∨ j % 6 = q → j = k
theorem getD_mem {ps : List Nat} {i : Nat} (h : i < ps.length) : ps.getD i 0 ∈ ps := by
  rw [getD_get h]
  exact List.getElem_mem h
theorem rc_in {ps : List Nat} (lt : ∀ x ∈ ps, x < 6) {j : Nat} (hj : j < ps.length) : rc ps j / 6 ∈ ps ∧ rc ps j % 6 ∈ ps := by
  have h2 : (j + 1) % ps.length < ps.length := Nat.mod_lt _ (by omega)
  have a := getD_mem hj
  have b := getD_mem h2
  have c := lt _ b
  constructor
  · rw [show rc ps j / 6 = ps.getD j 0 by unfold rc; omega]
    exact a
  · rw [show rc ps j % 6 = ps.getD ((j + 1) % ps.length) 0 by unfold rc; omega]
    exact b
theorem Oth.next {ps ks : List Nat} {i : Nat} (o : Oth ps ks i) : Oth ps ks (i + 1) := fun k m => (o k m).elim .inl fun ⟨q, a, b, c, d⟩ => .inr ⟨q, a, by omega, c, d⟩
theorem Oth.add {ps ks : List Nat} {i k' : Nat} (lt : ∀ x ∈ ps, x < 6) (o : Oth ps ks i) (ni : i ∉ ps) (h : (k' / 6 = i ∧ k' % 6 ∈ ps) ∨ (k' % 6 = i ∧ k' / 6 ∈ ps)) : Oth ps (addK ks k') (i + 1) := by
  have old : ∀ j ∈ ks, ¬ (j / 6 = i ∨ j % 6 = i) := fun j m inv => by
    rcases o j m with ⟨a, ha, rfl⟩ | ⟨q, qn, qi, hq, _⟩
    · have := rc_in lt ha
      rcases inv with e | e
      · exact ni (e ▸ this.1)
      · exact ni (e ▸ this.2)
    · rcases hq with ⟨h1, h2⟩ | ⟨h1, h2⟩
      · rcases inv with e | e
        · omega
        · exact ni (e ▸ h2)
      · rcases inv with e | e
        · exact ni (e ▸ h2)
        · omega
  intro k m
  rcases mem_addK.mp m with m | rfl
  · rcases o k m with h1 | ⟨q, qn, qi, hq, un⟩
    · exact .inl h1
    · refine .inr ⟨q, qn, by omega, hq, fun j mj inv => ?_⟩
      rcases mem_addK.mp mj with mj | rfl
      · exact un j mj inv
      · exfalso
        rcases h with ⟨h1, h2⟩ | ⟨h1, h2⟩
        · rcases inv with e | e
          · omega
          · exact qn (e ▸ h2)
        · rcases inv with e | e
          · exact qn (e ▸ h2)
          · omega
  · refine .inr ⟨i, ni, by omega, h, fun j mj inv => ?_⟩
    rcases mem_addK.mp mj with mj | rfl
    · exact absurd inv (old j mj)
    · rfl
section
variable {P : Program} {w : World} {K : PySem.W.Frag} {mg : Str → Option Value} {base : Heap} {f : Addr} {fd : FuncData}
def spRing (K : PySem.W.Frag) : Sp := fun vs H Q _ => ∃ (a p : Addr) (n : Nat) (ds : List Int) (ps : List Nat) (sc ba : Int), vs = [.ref a, .ref p, .str (S (pT ps)), .int sc, .int ba] ∧ Tk K a p ds n H H ∧ ps.Nodup ∧ (∀ x ∈ ps, x < 6) ∧ 2 ≤ ps.length ∧ ps.length ≤ 6 ∧ 0 ≤ ba ∧ ba ≤ 10 ^ 60 - 3 ∧
  ∀ D ks (g : Nat → Int) H', Tk K a p ds n H H' → H D = none → Db H' D ks g → RK ps ks → Q (.ref D) H'
theorem ok_ring (F : FnP K "_law_ring" s_ring f fd) (m_int : mg "int" = none) (m_len : mg "len" = none) (m_range : mg "range" = none) (c_take : Cal P w K mg base 1 "_law_take" (spTake K)) (c_coins : Cal P w K mg base 3 "_law_coins" (spCoins K)) : FnOk P w K mg base CX0 4 f fd P_ring (spRing K) := by
  refine F.ok sc_ring (fun vs H Q E h => ?_) (fun cdv A outer s H vs Q E hr h => ?_)
  · obtain ⟨a, p, n, ds, ps, sc, ba, rfl, _⟩ := h
    rfl
  · obtain ⟨a, p, n, ds, ps, sc, ba, rfl, hT, nd, p6, l2, l6, b0, b1, q⟩ := h
    refine ⟨_, PSs.nox (pss_cons (ps_set (i := 5) sc_ring.nd rfl (by first | exact .inl rfl | exact .inr rfl) pe_dnewK)
      (pss_cons (ps_for PassesOwn.never rfl (pi_range1 (by rfl) m_range (pa_cons (pe_callB call_len_str (by rfl) m_len PySem.boot_len (pa_cons (pv 2) pa_nil)) pa_nil)) (pg_name (i := 6) sc_ring.nd rfl (by first | exact .inl rfl | exact .inr rfl))
        (pss_one (ps_dput (hu_of hr) (pv 5) (pe_op op_add_str (pe_ix ix_str (pv 2) (pv 6) (fun _ _ => rfl)) (pe_ix ix_str (pv 2) (pe_op op_mod (pe_callTy call_int1 (by rfl) m_int (by decide +kernel) (pa_cons (pe_op op_add (pv 6) pe_int) pa_nil)) (pe_callB call_len_str (by rfl) m_len PySem.boot_len (pa_cons (pv 2) pa_nil))) (fun _ _ => rfl))) (pe_cl c_coins hr (by decide) (by rfl) (pa_cons (pv 0) (pa_cons (pv 1) (pa_cons (pv 3) (pa_cons (pv 4) pa_nil))))) rfl)))
      (pss_cons (ps_for PassesOwn.never rfl (pi_str pe_str) (pg_name (i := 7) sc_ring.nd rfl (by first | exact .inl rfl | exact .inr rfl))
        (pss_one (ps_if (pt_cmpR op_notIn_sign (pv 7) (pv 2) (by rfl)) (pss_cons (ps_set (i := 8) sc_ring.nd rfl (by first | exact .inl rfl | exact .inr rfl) (pe_cl c_take hr (by decide) (by rfl) (pa_cons (pv 0) (pa_cons (pv 1) pa_nil))))
      (pss_cons (ps_set (i := 9) sc_ring.nd rfl (by first | exact .inl rfl | exact .inr rfl) (pe_ix ix_str (pv 2) (pe_op op_mod (pe_callTy call_int1 (by rfl) m_int (by decide +kernel) (pa_cons (pe_op op_fdiv (pv 8) pe_int) pa_nil)) (pe_callB call_len_str (by rfl) m_len PySem.boot_len (pa_cons (pv 2) pa_nil))) (fun _ _ => rfl)))
      (pss_cons (ps_set (i := 10) sc_ring.nd rfl (by first | exact .inl rfl | exact .inr rfl) (pe_cl c_coins hr (by decide) (by rfl) (pa_cons (pv 0) (pa_cons (pv 1) (pa_cons (pv 3) (pa_cons (pv 4) pa_nil))))))
      (pss_cut (ps_if (pt_cmpR op_eq (pe_op op_mod (pe_callTy call_int1 (by rfl) m_int (by decide +kernel) (pa_cons (pv 8) pa_nil)) pe_int) pe_int (nomark _)) (pss_one (ps_dput (hu_of hr) (pv 5) (pe_op op_add_str (pv 9) (pv 7)) (pv 10) rfl)) pss_nil)
      (pss_one (ps_if (pt_cmpR op_eq (pe_op op_mod (pe_callTy call_int1 (by rfl) m_int (by decide +kernel) (pa_cons (pv 8) pa_nil)) pe_int) pe_int (nomark _)) (pss_one (ps_dput (hu_of hr) (pv 5) (pe_op op_add_str (pv 7) (pv 9)) (pv 10) rfl)) pss_nil)))))) pss_nil)))
      (pss_one (ps_ret (pv 5)))))), ?_⟩
    have pl : (S (pT ps)).length = ps.length := pT_len ps
    have hlen : (S (pT ps)).length ≤ sizeLine := by rw [pl]; exact szl (by omega)
    walk_at "go"
    intro D nD
    have aD : a ≠ D := fun e => by rw [← e, hT.hA] at nD; cases nD
    have pD : p ≠ D := fun e => by obtain ⟨m, em⟩ := hT.pl; rw [← e, em] at nD; cases nD
    have sD := same_new (o := .dK []) nD
    have hT1 := hT.more sD
    have d0 : Db (upd H D (.dK [])) D [] (fun _ => 0) := ⟨upd_same, List.nodup_nil, fun k m => absurd m (by simp), fun k _ => rfl⟩
    generalize upd H D (.dK []) = H1 at hT1 d0
    walk_at "go"
    rw [pl]
    walk_at "go"
    refine for_gen (n := ps.length) (fun i σ J => Tk K a p ds n H J ∧ (∃ ks g, Db J D ks g ∧ (∀ j, j < i → rc ps j ∈ ks) ∧ ∀ k ∈ ks, ∃ j, j < ps.length ∧ k = rc ps j) ∧ ∃ v6, σ = [some (.ref a), some (.ref p), some (.str (S (pT ps))), some (.int sc), some (.int ba), some (.ref D), v6, none, none, none, none]) ⟨hT1, ⟨_, _, d0, fun j h => absurd h (Nat.not_lt_zero _), fun k m => absurd m (by simp)⟩, _, rfl⟩ ?_ ?_ ?_ ?_
    · intro i σ J hi _
      show i < ((ps.length : Int)).toNat
      omega
    · intro σ J _
      show ((ps.length : Int)).toNat ≤ ps.length
      omega
    · rintro i σ J x J' hi ⟨hT2, ⟨ks, g, d2, cov, sub⟩, v6, rfl⟩ ⟨rfl, rfl⟩
      walk_at "go"
      refine ⟨a, p, n, ds, sc, ba, rfl, hT2.slf, b0, b1, fun c J3 hT3 c0 c1 => ?_⟩
      have d3 : Db J3 D ks g := ⟨hT3.sb _ _ pD.symm d2.e, d2.nd, d2.ok, d2.z⟩
      have hT4 := hT2.tr hT3
      have hj : (i + 1) % ps.length < ps.length := Nat.mod_lt _ (by omega)
      have e2 : ((0 : Int) + (i : Int) + 1) % (ps.length : Int) = (((i + 1) % ps.length : Nat) : Int) := by
        rw [show (0 : Int) + (i : Int) + 1 = ((i + 1 : Nat) : Int) by omega]
        rfl
      have p1 := pT_at hi
      have p2 := pT_at hj
      rw [show ((i : Nat) : Int) = 0 + (i : Int) by omega] at p1
      rw [← e2] at p2
      have x2 : ps.getD ((i + 1) % ps.length) 0 < 6 := p6 _ (getD_mem hj)
      have cat : (⟨#[97 + ps.getD i 0]⟩ : Str) ++ (⟨#[97 + ps.getD ((i + 1) % ps.length) 0]⟩ : Str) = ky (rc ps i) := ky_cat x2
      have kk : KOk (rc ps i) := by
        have z := kok_of nd p6 hi hj (succ_ne l2 hi)
        rw [← getD_get hi, ← getD_get hj] at z
        exact z
      have ci : ∀ ks' : List Nat, (∀ k ∈ ks, k ∈ ks') → rc ps i ∈ ks' → ∀ j, j < i + 1 → rc ps j ∈ ks' := fun ks' h1 h2 j hj => by
        by_cases e : j = i
        · rw [e]
          exact h2
        · exact h1 _ (cov j (by omega))
      have sub2 : ∀ k ∈ addK ks (rc ps i), ∃ j, j < ps.length ∧ k = rc ps j := fun k m => by
        rcases mem_addK.mp m with m | rfl
        · exact sub k m
        · exact ⟨i, hi, rfl⟩
      generalize rc ps i = k at cat kk ci sub2
      generalize ps.getD i 0 = u1 at p1 cat
      generalize ps.getD ((i + 1) % ps.length) 0 = u2 at p2 cat
      clear x2 e2
      walk_at "go"
      refine ⟨S (pT ps), _, 97 + u1, rfl, rfl, hlen, p1, ?_⟩
      walk_at "go"
      rw [pl]
      refine ⟨S (pT ps), _, 97 + u2, rfl, rfl, hlen, p2, ?_⟩
      walk_at "go"
      refine ⟨szl (show 1 + 1 ≤ 2000 by decide), ?_⟩
      rw [cat]
      refine ⟨D, _, rfl, d3.dput k _, ?_⟩
      have sbD : SB D J3 (upd J3 D (.dK (putK (tab ky ks g) (Sum.inr (ky k)) (.int c)))) := SB.upd (Z.Same.sb (Same.refl J3))
      refine ⟨hT4.mut nD sbD pD.symm (sbD _ _ aD hT4.hA), ⟨addK ks k, _, d3.put kk c0, ci _ (fun k' m => mem_addK.mpr (.inl m)) (mem_addK.mpr (.inr rfl)), sub2⟩, _, rfl⟩
    rintro σ J ⟨hT2, ⟨ks, g, d2, cov, sub⟩, v6, rfl⟩
    walk_at "go"
    refine for_gen (n := 6) (fun i σ J => Tk K a p ds n H J ∧ (∃ ks g, Db J D ks g ∧ (∀ j, j < ps.length → rc ps j ∈ ks) ∧ Oth ps ks i) ∧ ∃ v6 v7 v8 v9 v10, σ = [some (.ref a), some (.ref p), some (.str (S (pT ps))), some (.int sc), some (.int ba), some (.ref D), v6, v7, v8, v9, v10]) ⟨hT2, ⟨ks, g, d2, cov, fun k m => .inl (sub k m)⟩, _, _, _, _, _, rfl⟩ ?_ ?_ ?_ ?_
    · rintro i σ J hi _
      show i < (Str.ofString "abcdef").cps.size
      rw [abc_sz]
      exact hi
    · rintro σ J _
      show (Str.ofString "abcdef").cps.size ≤ 6
      rw [abc_sz]
      exact Nat.le_refl _
    · rintro i σ J x J' hi ⟨hT2, ⟨ks, g, d2, cov, oth⟩, v6, v7, v8, v9, v10, rfl⟩ ⟨rfl, c, ec, rfl⟩
      rw [abc_at i hi] at ec
      cases ec
      walk_at "go"
      refine ite2 (fun e => ?_) (fun e => ?_)
      · have ni : i ∉ ps := fun z => by
          rw [decide_eq_true (pT_mem.mpr z)] at e
          cases e
        obtain ⟨m3, em3⟩ := hT2.pl
        walk_at "go"
        refine ⟨a, p, n, m3, ds, rfl, SqL.of hT2.hA, hT2.hd, em3, hT2.ne, fun r r0 r1 => ?_⟩
        obtain ⟨hT4, sb4⟩ := hT2.next em3
        have d4 : Db (upd J' p (.lst [.int ((m3 + 1 : Nat) : Int)])) D ks g := ⟨sb4 _ _ pD.symm d2.e, d2.nd, d2.ok, d2.z⟩
        generalize upd J' p (.lst [.int ((m3 + 1 : Nat) : Int)]) = J4 at hT4 d4
        have t0 := Int.emod_nonneg (r / 3) (show (ps.length : Int) ≠ 0 by omega)
        have t1 := Int.emod_lt_of_pos (r / 3) (show 0 < (ps.length : Int) by omega)
        obtain ⟨j, ej, hj⟩ : ∃ j : Nat, r / 3 % (ps.length : Int) = (j : Int) ∧ j < ps.length := ⟨(r / 3 % (ps.length : Int)).toNat, by omega, by omega⟩
        have p1 := pT_at hj
        rw [← ej] at p1
        have um := getD_mem hj
        generalize ps.getD j 0 = u at p1 um
        have u6 := p6 u um
        dsimp only [List.set]
        walk_at "go"
        rw [pl]
        refine ⟨S (pT ps), _, 97 + u, rfl, rfl, hlen, p1, ?_⟩
        walk_at "go"
        refine ⟨a, p, n, ds, sc, ba, rfl, hT4.slf, b0, b1, fun c J5 hT5 c0 c1 => ?_⟩
        have d5 : Db J5 D ks g := ⟨hT5.sb _ _ pD.symm d4.e, d4.nd, d4.ok, d4.z⟩
        have hT6 := hT4.tr hT5
        have iu : i ≠ u := fun z => ni (z ▸ um)
        have catA : (⟨#[97 + u]⟩ : Str) ++ (⟨#[97 + i]⟩ : Str) = ky (6 * u + i) := ky_cat hi
        have catB : (⟨#[97 + i]⟩ : Str) ++ (⟨#[97 + u]⟩ : Str) = ky (6 * i + u) := ky_cat u6
        have kA : KOk (6 * u + i) := by unfold KOk; omega
        have kB : KOk (6 * i + u) := by unfold KOk; omega
        have eA : (6 * u + i) / 6 = u ∧ (6 * u + i) % 6 = i := by omega
        have eB : (6 * i + u) / 6 = i ∧ (6 * i + u) % 6 = u := by omega
        have hA : ((6 * u + i) / 6 = i ∧ (6 * u + i) % 6 ∈ ps) ∨ ((6 * u + i) % 6 = i ∧ (6 * u + i) / 6 ∈ ps) := .inr ⟨eA.2, by rw [eA.1]; exact um⟩
        have hB : ((6 * i + u) / 6 = i ∧ (6 * i + u) % 6 ∈ ps) ∨ ((6 * i + u) % 6 = i ∧ (6 * i + u) / 6 ∈ ps) := .inl ⟨eB.1, by rw [eB.2]; exact um⟩
        generalize 6 * u + i = kA' at catA kA hA eA
        generalize 6 * i + u = kB' at catB kB hB eB
        clear eA eB
        have m0 := Int.emod_nonneg r (show (3 : Int) ≠ 0 by decide)
        walk_at "go"
        refine ⟨fun σ J => Tk K a p ds n H J ∧ (∃ ks g, Db J D ks g ∧ (∀ j, j < ps.length → rc ps j ∈ ks) ∧ (r % 3 = 1 → Oth ps ks i) ∧ Oth ps ks (i + 1)) ∧ σ = [some (.ref a), some (.ref p), some (.str (S (pT ps))), some (.int sc), some (.int ba), some (.ref D), v6, some (.str ⟨#[97 + i]⟩), some (.int r), some (.str ⟨#[97 + u]⟩), some (.int c)], ?_, ?_⟩
        · walk_at "go"
          refine ite2 (fun e => ?_) (fun e => ?_)
          · have e : r % 3 = 0 := by simpa using e
            walk_at "go"
            refine ⟨szl (show 1 + 1 ≤ 2000 by decide), ?_⟩
            rw [catA]
            walk_at "go"
            refine ⟨D, _, rfl, d5.dput kA' _, ?_⟩
            have sbD : SB D J5 (upd J5 D (.dK (putK (tab ky ks g) (Sum.inr (ky kA')) (.int c)))) := SB.upd (Z.Same.sb (Same.refl J5))
            exact ⟨hT6.mut nD sbD pD.symm (sbD _ _ aD hT6.hA), ⟨addK ks kA', _, d5.put kA c0, fun j hj => mem_addK.mpr (.inl (cov j hj)), fun z => by omega, oth.add p6 ni hA⟩, rfl⟩
          · exact ⟨hT6, ⟨ks, g, d5, cov, fun _ => oth, oth.next⟩, rfl⟩
        rintro σ J6 ⟨hT7, ⟨ks, g, d7, cov, oth1, oth2⟩, rfl⟩
        walk_at "go"
        refine ite2 (fun e => ?_) (fun e => ?_)
        · have e : r % 3 = 1 := by simpa using e
          walk_at "go"
          refine ⟨szl (show 1 + 1 ≤ 2000 by decide), ?_⟩
          rw [catB]
          walk_at "go"
          refine ⟨D, _, rfl, d7.dput kB' _, ?_⟩
          have sbD : SB D J6 (upd J6 D (.dK (putK (tab ky ks g) (Sum.inr (ky kB')) (.int c)))) := SB.upd (Z.Same.sb (Same.refl J6))
          exact ⟨hT7.mut nD sbD pD.symm (sbD _ _ aD hT7.hA), ⟨addK ks kB', _, d7.put kB c0, fun j hj => mem_addK.mpr (.inl (cov j hj)), (oth1 e).add p6 ni hB⟩, _, _, _, _, _, rfl⟩
        · exact ⟨hT7, ⟨ks, g, d7, cov, oth2⟩, _, _, _, _, _, rfl⟩
      · walk_at "go"
        exact ⟨⟨ks, g, d2, cov, oth.next⟩, _, _, _, _, _, rfl⟩
    · rintro σ J ⟨hT2, ⟨ks, g, d2, cov, oth⟩, v6, v7, v8, v9, v10, rfl⟩
      walk_at "go"
      exact q D ks g J hT2 nD d2 ⟨nd, p6, l2, cov, fun k m => (oth k m).elim .inl fun ⟨q, a, b, c, d⟩ => .inr ⟨q, a, c, d⟩⟩
end
end Z
set_option pp.maxSteps 700
set_option Elab.async false
set_option linter.all false
set_option maxRecDepth 100000
set_option maxHeartbeats 4000000
open SX (S S_inj S_len S_cat)
namespace Z
open SO
open PySem PySem.Spec PyProof.Rows L2
open C8 (pss_cut tCut)
local macro_rules | `(tactic| walk_at "num") => `(tactic| first | rfl | omega | decide | exact Nat.le_of_lt (small1000 (by simp)) | exact ⟨by omega, by omega⟩ | exact ⟨by omega, by omega, by omega⟩ | exact ⟨by decide, by decide, by decide⟩ | exact Or.inl ⟨by omega, by omega⟩ | exact Or.inr ⟨by omega, by omega⟩)
local macro_rules | `(tactic| walk_at "go") => `(tactic| repeat (first | refine ⟨_, rfl, ?_⟩ | refine ⟨_, _, rfl, rfl, ?_⟩ | refine ⟨_, _, rfl, ?_⟩ | (refine ⟨_, _, rfl, rfl, ?_, ?_⟩; focus walk_at "num") | refine Or.inl ⟨_, rfl, ?_⟩ | refine ⟨_, _, _, _, rfl, rfl, (by assumption), (by rfl), ?_⟩ | refine ⟨_, _, _, _, _, rfl, (by assumption), (by assumption), (by assumption), (by rfl), ?_⟩ | refine ⟨rfl, ?_⟩ | (refine And.intro ?_ ?_; focus walk_at "num")))
abbrev s_ring_rest : Stmt := topS 33
abbrev N_ring_rest : List Str := ["_law_parties_here", "_law_debts_here", "_law_k", "_law_ring_here", "_law_pair", "_law_least", "_law_found", "_law_debtor", "_law_creditor", "_law_left"]
abbrev P_ring_rest : List Str := ["_law_parties_here", "_law_debts_here"]
theorem sc_ring_rest : FnScope N_ring_rest P_ring_rest (defScope s_ring_rest) := ⟨rfl, rfl, rfl, by decide +kernel, rfl, by decide +kernel, by decide +kernel⟩
theorem paired_snoc {α β : Type} {F : α → β → Prop} : ∀ {xs : List α} {ys : List β} {x : α} {y : β}, Paired F xs ys → F x y → Paired F (xs ++ [x]) (ys ++ [y])
  | _, _, _, _, .nil, h => .cons h .nil
  | _, _, _, _, .cons a b, h => .cons a (paired_snoc b h)
theorem inV_ky (k : Nat) : ∀ ks : List Nat, inV (.str (ky k)) (ks.map fun j => V.str (ky j)) = decide (k ∈ ks)
  | [] => rfl
  | j :: r => by
    have ih := inV_ky k r
    show (eqV (.str (ky j)) (.str (ky k)) || inV (.str (ky k)) (r.map fun j => V.str (ky j))) = _
    rw [ih, Bool.eq_iff_iff, Bool.or_eq_true]
    show ((ky j == ky k) = true ∨ _) ↔ _
    rw [decide_eq_true_iff, decide_eq_true_iff, List.mem_cons, beq_iff_eq]
    exact ⟨fun h => h.imp (fun e => (ky_inj e).symm) id, fun h => h.imp (fun e => by rw [e]) id⟩
theorem flat_ky (ks : List Nat) : (ks.map fun j => V.str (ky j)).all flatV = true := by
  rw [List.all_eq_true]
  intro v m
  obtain ⟨j, _, rfl⟩ := List.mem_map.mp m
  rfl
/-- the pairs so far -/
def ItN (H : Hp) (L : Addr) (r : Nat → Int) (n : Nat) : Prop := ItL H L ((List.range n).filter fun k => decide (0 < r k)) r
theorem fil_succ (r : Nat → Int) (n : Nat) : (List.range (n + 1)).filter (fun k => decide (0 < r k)) = (List.range n).filter (fun k => decide (0 < r k)) ++ (if 0 < r n then [n] else []) := by
  rw [List.range_succ, List.filter_append]
  congr 1
  by_cases c : 0 < r n
  · rw [if_pos c, List.filter_cons_of_pos (by simpa using c)]
    rfl
  · rw [if_neg c, List.filter_cons_of_neg (by simpa using c)]
    rfl
theorem ItN.skip {H : Hp} {L : Addr} {r : Nat → Int} {n : Nat} (h : ItN H L r n) (c : ¬ 0 < r n) : ItN H L r (n + 1) := by
  unfold ItN at h ⊢
  rw [fil_succ, if_neg c, List.append_nil]
  exact h
theorem ItN.put {H J : Hp} {L t : Addr} {r : Nat → Int} {n : Nat} (h : ItN H L r n) (c : 0 < r n) (s : Same H J) (nt : H t = none) (et : J t = some (.tup [.str (ky n), .int (r n)])) : ∃ vs, J L = some (.lst vs) ∧ vs.length ≤ n ∧ ItN (upd J L (.lst (vs ++ [.ref t]))) L r (n + 1) := by
  obtain ⟨ts, e, p⟩ := h
  have tL : t ≠ L := fun z => by rw [← z, nt] at e; cases e
  refine ⟨_, s _ _ e, ?_, ts ++ [t], by rw [upd_same, List.map_append]; rfl, ?_⟩
  · rw [List.length_map, p.length, tab_len]
    exact Nat.le_trans (List.length_filter_le ..) (by rw [List.length_range]; exact Nat.le_refl _)
  · rw [fil_succ, if_pos c]
    have : tab ky ((List.range n).filter (fun k => decide (0 < r k)) ++ [n]) r = tab ky ((List.range n).filter fun k => decide (0 < r k)) r ++ [(Sum.inr (ky n), V.int (r n))] := by
      unfold tab
      rw [List.map_append]
      rfl
    rw [this]
    refine paired_snoc (paired_imp (fun a q z => ?_) p) ?_
    · rw [upd_ne (fun y => by rw [y, e] at z; cases z)]
      exact s _ _ z
    · rw [upd_ne tL]
      exact et
section
variable {P : Program} {w : World} {K : PySem.W.Frag} {mg : Str → Option Value} {base : Heap} {f : Addr} {fd : FuncData}
def rrOf (ps : List Nat) (g : Nat → Int) (m : Int) : Nat → Int := fun k => if k ∈ ringL ps then g k - m else g k
def spRingRest : Sp := fun vs H Q _ => ∃ (D : Addr) (ks : List Nat) (g : Nat → Int) (ps : List Nat), vs = [.str (S (pT ps)), .ref D] ∧ Db H D ks g ∧ RK ps ks ∧ ps.length ≤ 6 ∧
  ∀ (m : Int) L H', (∃ i, i < ps.length ∧ m = g (rc ps i)) → (∀ i, i < ps.length → m ≤ g (rc ps i)) → Same H H' → ItL H' L (posK (rrOf ps g m)) (rrOf ps g m) → Q (.ref L) H'
theorem ok_ring_rest (F : FnP K "_law_ring_rest" s_ring_rest f fd) (m_int : mg "int" = none) (m_len : mg "len" = none) (m_range : mg "range" = none) (m_min : mg "min" = none) : FnOk P w K mg base CX0 1 f fd P_ring_rest spRingRest := by
  refine F.ok sc_ring_rest (fun vs H Q E h => ?_) (fun cdv A outer s H vs Q E hr h => ?_)
  · obtain ⟨D, ks, g, ps, rfl, _⟩ := h
    rfl
  · obtain ⟨D, ks, g, ps, rfl, hD, RK, l6, q⟩ := h
    refine ⟨_, PSs.nox (pss_cons (ps_setLc (i := 3) (own := [("_law_k", 2)]) (g := (gName 2)) (tt := tYes) (by rfl) sc_ring_rest.nd rfl rfl (sw_true rfl rfl rfl (by decide +kernel)) (pi_range1 (by rfl) m_range (pa_cons (pe_callB call_len_str (by rfl) m_len PySem.boot_len (pa_cons (pv 0) pa_nil)) pa_nil)) (blkOk_by (own := [("_law_k", 2)]) (N := N_ring_rest) (sc := defScope s_ring_rest) (by decide +kernel)) (fun _ _ _ _ _ => (pg_name (i := 2) sc_ring_rest.nd rfl (by first | exact .inl rfl | exact .inr rfl))) (fun _ _ _ _ _ => pts_nil) (fun _ _ _ _ _ => (pe_op op_add_str (pe_ix ix_str (pv 0) (pv 2) (fun _ _ => rfl)) (pe_ix ix_str (pv 0) (pe_op op_mod (pe_callTy call_int1 (by rfl) m_int (by decide +kernel) (pa_cons (pe_op op_add (pv 2) pe_int) pa_nil)) (pe_callB call_len_str (by rfl) m_len PySem.boot_len (pa_cons (pv 0) pa_nil))) (fun _ _ => rfl)))))
      (pss_cons (ps_set (i := 5) sc_ring_rest.nd rfl (by first | exact .inl rfl | exact .inr rfl) (pe_callB (cr_min rfl) (by rfl) m_min (by decide +kernel) (pa_cons (pe_lc (own := [("_law_pair", 4)]) (g := (gName 4)) (tt := tYes) (by rfl) sc_ring_rest.nd (pi_list (pv 3)) (blkOk_by (own := [("_law_pair", 4)]) (N := N_ring_rest) (sc := defScope s_ring_rest) (by decide +kernel)) (fun _ _ _ _ _ => (pg_name (i := 4) sc_ring_rest.nd rfl (by first | exact .inl rfl | exact .inr rfl))) (fun _ _ _ _ _ => pts_nil) (fun _ _ _ _ _ => (pe_dget (hu_of hr) (pv 1) (pv 4) (fun _ _ => rfl)))) pa_nil)))
      (pss_cons (ps_set (i := 6) sc_ring_rest.nd rfl (by first | exact .inl rfl | exact .inr rfl) (pe_lst pa_nil))
      (pss_cons (ps_for PassesOwn.never rfl (pi_str pe_str) (pg_name (i := 7) sc_ring_rest.nd rfl (by first | exact .inl rfl | exact .inr rfl))
        (pss_one (ps_for PassesOwn.never rfl (pi_str pe_str) (pg_name (i := 8) sc_ring_rest.nd rfl (by first | exact .inl rfl | exact .inr rfl))
        (pss_cons (ps_set (i := 4) sc_ring_rest.nd rfl (by first | exact .inl rfl | exact .inr rfl) (pe_op op_add_str (pv 7) (pv 8)))
      (pss_one (ps_if (pt_cmp (pc_din (hu_of hr) (pv 4) (pv 1)) (by rfl)) (pss_cons (ps_set (i := 9) sc_ring_rest.nd rfl (by first | exact .inl rfl | exact .inr rfl) (pe_dget (hu_of hr) (pv 1) (pv 4) (fun _ _ => rfl)))
      (pss_cut (ps_if (pt_cmpR op_in_seq (pv 4) (pv 3) (by rfl)) (pss_one (ps_set (i := 9) sc_ring_rest.nd rfl (by first | exact .inl rfl | exact .inr rfl) (pe_op op_sub (pv 9) (pv 5)))) pss_nil)
      (pss_one (ps_if (pt_cmpR op_gt (pv 9) pe_int (nomark _)) (pss_one (ps_expr (pe_bm PySem.F.plainAttrs_list PySem.F.slot_list_append PySem.F.type_list_append mt_append (pv 6) (pa_cons (pe_tup (pa_cons (pv 4) (pa_cons (pv 9) pa_nil))) pa_nil)))) pss_nil)))) pss_nil))))))
      (pss_one (ps_ret (pv 6))))))), ?_⟩
    have pl : (S (pT ps)).length = ps.length := pT_len ps
    have hlen : (S (pT ps)).length ≤ sizeLine := by rw [pl]; exact szl (by omega)
    have l2 := RK.l2
    walk_at "go"
    rw [pl]
    walk_at "go"
    intro C nC
    refine lc_opt (List.range ps.length) (fun i => .int (0 + (i : Int))) (fun _ => true) (fun i => .str (ky (rc ps i))) (by rw [List.length_range]; omega) nC ?_ ?_ ?_ (fun _ => rfl) (fun k H2 Q1 _ _ q1 => q1) ?_ ?_
    · intro k H1 hk _
      rw [List.length_range] at hk
      show k < ((ps.length : Int)).toNat
      omega
    · intro H1 _
      rw [List.length_range]
      show ((ps.length : Int)).toNat ≤ ps.length
      omega
    · rintro k hk H1 x H2 _ ⟨e1, e2⟩
      refine ⟨e1, ?_⟩
      rw [List.getElem_range]
      exact e2
    · intro i H2 Q1 hi _ s2 q1
      have hi := List.mem_range.mp hi
      have hj : (i + 1) % ps.length < ps.length := Nat.mod_lt _ (by omega)
      have e2 : ((0 : Int) + (i : Int) + 1) % (ps.length : Int) = (((i + 1) % ps.length : Nat) : Int) := by
        rw [show (0 : Int) + (i : Int) + 1 = ((i + 1 : Nat) : Int) by omega]
        rfl
      have p1 := pT_at hi
      have p2 := pT_at hj
      rw [show ((i : Nat) : Int) = 0 + (i : Int) by omega] at p1
      rw [← e2] at p2
      have x2 : ps.getD ((i + 1) % ps.length) 0 < 6 := RK.lt _ (getD_mem hj)
      have cat : (⟨#[97 + ps.getD i 0]⟩ : Str) ++ (⟨#[97 + ps.getD ((i + 1) % ps.length) 0]⟩ : Str) = ky (rc ps i) := ky_cat x2
      generalize rc ps i = k at cat q1
      generalize ps.getD i 0 = u1 at p1 cat
      generalize ps.getD ((i + 1) % ps.length) 0 = u2 at p2 cat
      clear x2 e2
      walk_at "go"
      refine ⟨S (pT ps), _, 97 + u1, rfl, rfl, hlen, p1, ?_⟩
      walk_at "go"
      rw [pl]
      refine ⟨S (pT ps), _, 97 + u2, rfl, rfl, hlen, p2, ?_⟩
      walk_at "go"
      refine ⟨szl (show 1 + 1 ≤ 2000 by decide), ?_⟩
      rw [cat]
      exact q1
    intro H1 s1 eC
    rw [List.filter_eq_self.mpr (fun _ _ => rfl)] at eC
    have eC : H1 C = some (.lst ((ringL ps).map fun k => V.str (ky k))) := by rw [eC]; unfold ringL; rw [List.map_map]; rfl
    have lr : (ringL ps).length = ps.length := by unfold ringL; rw [List.length_map, List.length_range]
    have km : ∀ k ∈ ringL ps, k ∈ ks := fun k m => by
      obtain ⟨i, hi, rfl⟩ := mem_ringL.mp m
      exact RK.ring i hi
    walk_at "go"
    refine ⟨⟨_, SqL.of eC⟩, fun B nB => ?_⟩
    refine lc_lv (ringL ps) (fun k => .str (ky k)) (fun _ => true) (fun k => .int (g k)) (SqL.of eC) (by omega) nB (fun _ => rfl) (fun k H2 Q1 _ _ q1 => q1) ?_ ?_
    · intro k H2 Q1 m _ s2 q1
      walk_at "go"
      exact ⟨D, _, rfl, (hD.mono (s1.trans s2)).get (km k m), q1⟩
    intro H2 s2 eB
    rw [List.filter_eq_self.mpr (fun _ _ => rfl)] at eB
    have eB : H2 B = some (.lst (((ringL ps).map g).map V.int)) := by rw [eB, List.map_map]; rfl
    walk_at "go"
    refine ⟨B, _, rfl, SqL.of eB, by rw [List.length_map, lr]; omega, fun m mm ml => ?_⟩
    have mle : ∀ i, i < ps.length → m ≤ g (rc ps i) := fun i hi => ml _ (List.mem_map.mpr ⟨_, mem_ringL.mpr ⟨i, hi, rfl⟩, rfl⟩)
    have mex : ∃ i, i < ps.length ∧ m = g (rc ps i) := by
      obtain ⟨k, h, e⟩ := List.mem_map.mp mm
      obtain ⟨i, hi, rfl⟩ := mem_ringL.mp h
      exact ⟨i, hi, e.symm⟩
    have sC := s1.trans s2
    have eC2 := s2 _ _ eC
    have q := fun L H' => q m L H' mex mle
    have rr0 : ∀ k, k ∉ ks → rrOf ps g m k = 0 := fun k n => by
      unfold rrOf
      rw [if_neg (fun z => n (km k z)), hD.z k n]
    have rrd : ∀ k, rrOf ps g m k = if k ∈ ringL ps then g k - m else g k := fun k => rfl
    generalize rrOf ps g m = rr at q rr0 rrd
    clear eB mm ml eC s1 s2 nB mle mex
    walk_at "go"
    intro L nL
    have CL : C ≠ L := ne_of_none eC2 nL
    have sL := same_new (o := .lst []) nL
    have eL : (upd H2 L (.lst [])) L = some (.lst []) := upd_same
    have nLH := none_of sC nL
    have s3 := sC.trans sL
    have eC3 := sL _ _ eC2
    generalize upd H2 L (.lst []) = H3 at s3 eL eC3
    clear sL sC eC2 nL
    have i0 : ItN H3 L rr 0 := ⟨[], eL, .nil⟩
    walk_at "go"
    refine for_gen (n := 6) (fun i σ J => Same H J ∧ J C = some (.lst ((ringL ps).map fun k => V.str (ky k))) ∧ ItN J L rr (6 * i) ∧ ∃ v2 v4 v7 v8 v9, σ = [some (.str (S (pT ps))), some (.ref D), v2, some (.ref C), v4, some (.int m), some (.ref L), v7, v8, v9]) ⟨s3, eC3, i0, _, _, _, _, _, rfl⟩ ?_ ?_ ?_ ?_
    · rintro i σ J hi _
      show i < (Str.ofString "abcdef").cps.size
      rw [abc_sz]
      exact hi
    · rintro σ J _
      show (Str.ofString "abcdef").cps.size ≤ 6
      rw [abc_sz]
      exact Nat.le_refl _
    · rintro i σ J x J' hi ⟨s4, eC4, n4, v2, v4, v7, v8, v9, rfl⟩ ⟨rfl, c, ec, rfl⟩
      rw [abc_at i hi] at ec
      cases ec
      walk_at "go"
      refine for_gen (n := 6) (fun j σ J => Same H J ∧ J C = some (.lst ((ringL ps).map fun k => V.str (ky k))) ∧ ItN J L rr (6 * i + j) ∧ ∃ v4 v8 v9, σ = [some (.str (S (pT ps))), some (.ref D), v2, some (.ref C), v4, some (.int m), some (.ref L), some (.str ⟨#[97 + i]⟩), v8, v9]) ⟨s4, eC4, n4, _, _, _, rfl⟩ ?_ ?_ ?_ ?_
      · rintro j σ J hj _
        show j < (Str.ofString "abcdef").cps.size
        rw [abc_sz]
        exact hj
      · rintro σ J _
        show (Str.ofString "abcdef").cps.size ≤ 6
        rw [abc_sz]
        exact Nat.le_refl _
      · rintro j σ J x J2 hj ⟨s5, eC5, n5, v4, v8, v9, rfl⟩ ⟨rfl, c, ec, rfl⟩
        rw [abc_at j hj] at ec
        cases ec
        have hD5 := hD.mono s5
        have cat : (⟨#[97 + i]⟩ : Str) ++ (⟨#[97 + j]⟩ : Str) = ky (6 * i + j) := ky_cat hj
        have k36 : 6 * i + j < 36 := by omega
        have put : ∀ {J : Hp} {t : Addr}, 0 < rr (6 * i + j) → Same J2 J → J2 t = none → J t = some (.tup [.str (ky (6 * i + j)), .int (rr (6 * i + j))]) → ∃ vs, J L = some (.lst vs) ∧ vs.length ≤ 36 ∧ ItN (upd J L (.lst (vs ++ [.ref t]))) L rr (6 * i + (j + 1)) := fun a b c d => by
          obtain ⟨vs, h1, h2, h3⟩ := n5.put a b c d
          exact ⟨vs, h1, by omega, h3⟩
        have skip : ¬ 0 < rr (6 * i + j) → ItN J2 L rr (6 * i + (j + 1)) := fun a => n5.skip a
        have rk := rr0 (6 * i + j)
        have rd := rrd (6 * i + j)
        generalize 6 * i + j = k at cat k36 put skip rk rd
        walk_at "go"
        refine ⟨szl (show 1 + 1 ≤ 2000 by decide), ?_⟩
        rw [cat]
        walk_at "go"
        by_cases mk : k ∈ ks
        · refine ⟨D, _, rfl, hD5.get mk, ?_⟩
          walk_at "go"
          refine ⟨D, _, rfl, hD5.get mk, ?_⟩
          walk_at "go"
          refine ⟨fun σ J => J = J2 ∧ σ = [some (.str (S (pT ps))), some (.ref D), v2, some (.ref C), some (.str (ky k)), some (.int m), some (.ref L), some (.str ⟨#[97 + i]⟩), some (.str ⟨#[97 + j]⟩), some (.int (rr k))], ?_, ?_⟩
          · walk_at "go"
            refine ⟨C, _, rfl, .inl (SqL.of eC5), rfl, flat_ky _, ?_⟩
            rw [inV_ky, if_neg (by decide)]
            walk_at "go"
            refine ite2 (fun e => ?_) (fun e => ?_)
            · have e : k ∈ ringL ps := of_decide_eq_true e
              rw [if_pos e] at rd
              rw [rd]
              walk_at "go"
              rfl
            · have e : k ∉ ringL ps := fun z => e (decide_eq_true z)
              rw [if_neg e] at rd
              rw [rd]
              exact ⟨rfl, rfl⟩
          rintro σ J ⟨rfl, rfl⟩
          walk_at "go"
          refine ite2 (fun e => ?_) (fun e => ?_)
          · have e : 0 < rr k := of_decide_eq_true e
            obtain ⟨ts, eL5, _⟩ := id n5
            walk_at "go"
            refine ⟨.inl ⟨rfl, _, SqL.of eL5⟩, ?_⟩
            walk_at "go"
            intro t nt
            have st := same_new (o := .tup [.str (ky k), .int (rr k)]) nt
            obtain ⟨vs, h1, h2, h3⟩ := put e st nt upd_same
            refine ⟨_, _, _, rfl, rfl, h1, szlt (by omega), ?_⟩
            exact ⟨Z.Same.mut (s5.trans st) nLH, by rw [upd_ne CL]; exact st _ _ eC5, h3, _, _, _, rfl⟩
          · have e : ¬ 0 < rr k := fun z => e (decide_eq_true z)
            exact ⟨s5, eC5, skip e, _, _, _, rfl⟩
        · refine ⟨D, _, rfl, hD5.get0 mk, ?_⟩
          walk_at "go"
          exact ⟨skip (by rw [rk mk]; decide), _, _, _, rfl⟩
      · rintro σ J ⟨s5, eC5, n5, v4, v8, v9, rfl⟩
        exact ⟨s5, eC5, n5, _, _, _, _, _, rfl⟩
    · rintro σ J ⟨s4, eC4, n4, v2, v4, v7, v8, v9, rfl⟩
      walk_at "go"
      exact q L J s4 n4
end
end Z
set_option pp.maxSteps 700
set_option Elab.async false
set_option linter.all false
set_option maxRecDepth 100000
set_option maxHeartbeats 4000000
open SX (S S_inj S_len S_cat)
namespace Z
open SO
open PySem PySem.Spec PyProof.Rows L2
open C8 (pss_cut tCut)
local macro_rules | `(tactic| walk_at "num") => `(tactic| first | rfl | omega | decide | exact Nat.le_of_lt (small1000 (by simp)) | exact ⟨by omega, by omega⟩ | exact ⟨by omega, by omega, by omega⟩ | exact ⟨by decide, by decide, by decide⟩ | exact Or.inl ⟨by omega, by omega⟩ | exact Or.inr ⟨by omega, by omega⟩)
local macro_rules | `(tactic| walk_at "go") => `(tactic| repeat (first | refine ⟨_, rfl, ?_⟩ | refine ⟨_, _, rfl, rfl, ?_⟩ | refine ⟨_, _, rfl, ?_⟩ | (refine ⟨_, _, rfl, rfl, ?_, ?_⟩; focus walk_at "num") | refine Or.inl ⟨_, rfl, ?_⟩ | refine ⟨_, _, _, _, rfl, rfl, (by assumption), (by rfl), ?_⟩ | refine ⟨_, _, _, _, _, rfl, (by assumption), (by assumption), (by assumption), (by rfl), ?_⟩ | refine ⟨rfl, ?_⟩ | (refine And.intro ?_ ?_; focus walk_at "num")))
abbrev s_law : Stmt := topS 38
abbrev N_law : List Str := ["_law_script", "_law_draws_here", "_law_place", "_law_parties_here", "_law_scale", "_law_base_here", "_law_shape", "_law_single", "_law_debts_here", "_law_given", "_law_answer", "_law_kept", "_law_pair", "_law_again", "_law_rest", "_law_other", "_law_told", "_law_last"]
abbrev P_law : List Str := ["_law_script"]
theorem sc_law : FnScope N_law P_law (defScope s_law) := ⟨rfl, rfl, rfl, by decide +kernel, rfl, by decide +kernel, by decide +kernel⟩
theorem setoff_ans {H0 H' : Hp} {D t R T : Addr} {ks js : List Nat} {g r h : Nat → Int} (d : Db H0 D ks g) (et : H' t = some (.tup [.ref R, .ref T])) (eR : H' R = some (.dK (tab ky js r))) (asc : js.Pairwise (· < ·)) (mem : ∀ k, k ∈ js ↔ k ∈ ks ∧ 0 < r k) (hr : ∀ k ∈ ks, 0 ≤ r k ∧ r k ≤ g k) (hn : ∀ p, p < 6 → nt (ent ks r) p = nt (ent ks g) p) (eT : H' T = some (.tup (hV h))) (up : ∀ k ∈ ks, 0 < r k → h (k % 6) + 1 ≤ h (k / 6)) (dn : ∀ k ∈ ks, r k < g k → h (k / 6) - 1 ≤ h (k % 6))
    (fin : ∃ (bs : List Nat) (r0 : Nat → Int), bs.Pairwise (· < ·) ∧ (∀ k, k ∈ bs ↔ k ∈ ks ∧ 0 < g k) ∧ Run bs g (fun _ => 0) (nt (ent bs g)) r0 ∧ (∀ k ∈ bs, r k = r0 k) ∧ (∀ k, k ∉ bs → r k = 0) ∧ it c1 (steps2 g r0 bs) (csOf fun _ => 0) 6 = csOf h) : Ans H' t R T g r h := by
  have gp : ∀ k, 0 < g k → k ∈ ks := fun k z => Classical.byContradiction fun y => by rw [d.z k y] at z; exact absurd z (by decide)
  obtain ⟨bs, r0, f1, f2, f3, f4, f5, f6⟩ := fin
  have ebs : bs = posK g := posK_of f1 fun k => by
    rw [f2]
    exact ⟨fun z => ⟨(d.ok k z.1).1.1, z.2⟩, fun z => ⟨gp k z.2, z.2⟩⟩
  have b : ∀ k, 0 ≤ r k ∧ r k ≤ g k := fun k => by
    by_cases c : k ∈ ks
    · exact hr k c
    · rw [f5 k (fun z => c ((f2 k).mp z).1)]
      exact ⟨Int.le_refl _, d.nn k⟩
  have rp : ∀ k, 0 < r k → k ∈ ks := fun k z => gp k (by have := b k; omega)
  have ejs : js = posK r := posK_of asc fun k => by
    rw [mem]
    exact ⟨fun z => ⟨(d.ok k z.1).1.1, z.2⟩, fun z => ⟨rp k z.2, z.2⟩⟩
  refine ⟨et, ⟨by rw [eR, ejs], ejs ▸ asc.imp fun h => Nat.ne_of_lt h, fun k m => ⟨(d.ok k (rp k (mem_posK.mp m).2)).1, (b k).1⟩, fun k m => ?_⟩, eT, ⟨b, fun p hp => ?_, fun k hk z => up k (rp k z) z, fun k hk z => dn k (gp k (by have := b k; omega)) z⟩, r0, ebs ▸ f3, ebs ▸ f4, ebs ▸ f5, ebs ▸ f6⟩
  · have b1 := (b k).1
    have : ¬ 0 < r k := fun z => m (mem_posK.mpr ⟨(d.ok k (rp k z)).1.1, z⟩)
    omega
  · rw [d.nt, nt_sub_keys U_nd d.nd d.sub (fun k _ z => by have := b k; rw [d.z k z] at this; omega), hn p hp]
theorem hV_ints (h : Nat → Int) : hV h = ((List.range 6).map h).map V.int := by
  unfold hV
  rw [List.map_map]
  rfl
theorem Db.sb {H J : Hp} {D G : Addr} {ks : List Nat} {g : Nat → Int} (d : Db H D ks g) (s : SB G H J) (n : D ≠ G) : Db J D ks g := ⟨s _ _ n d.e, d.nd, d.ok, d.z⟩
theorem ItL.sb {H J : Hp} {a G : Addr} {ks : List Nat} {g : Nat → Int} {kv : List (Key × V)} (i : ItL H a ks g) (eG : H G = some (.dK kv)) (s : SB G H J) : ItL J a ks g := by
  obtain ⟨ts, e, p⟩ := i
  exact ⟨ts, s _ _ (fun z => by rw [z, eG] at e; cases e) e, paired_imp (fun t q e => s _ _ (fun z => by rw [z, eG] at e; cases e) e) p⟩
theorem Ans.sb {H J : Hp} {t R T G : Addr} {g r h : Nat → Int} {kv : List (Key × V)} (a : Ans H t R T g r h) (eG : H G = some (.dK kv)) (s : SB G H J) (n : R ≠ G) : Ans J t R T g r h :=
  ⟨s _ _ (fun z => by have := a.t; rw [z, eG] at this; cases this) a.t, a.R.sb s n, s _ _ (fun z => by have := a.T; rw [z, eG] at this; cases this) a.T, a.res, a.fin⟩
section
variable {P : Program} {w : World} {K : PySem.W.Frag} {mg : Str → Option Value} {base : Heap} {f : Addr} {fd : FuncData}
def spLaw (K : PySem.W.Frag) : Sp := fun vs H Q _ => ∃ (s : Addr) (ns : List Int), vs = [.ref s] ∧ SqL K H s (ns.map V.int) ∧ ns.length ≤ 63 ∧ ∀ H', Q (.bl true) H'
theorem ok_law (F : FnP K "law" s_law f fd) (m_int : mg "int" = none) (m_dict : mg "dict" = none) (m_list : mg "list" = none) (c_cell : Cal P w K mg base 1 "_law_cell" (spCell K)) (c_draws : Cal P w K mg base 1 "_law_draws" spDraws) (c_take : Cal P w K mg base 1 "_law_take" (spTake K)) (c_parties : Cal P w K mg base 2 "_law_parties" (spParties K)) (c_base : Cal P w K mg base 3 "_law_base" (spBase K)) (c_debts : Cal P w K mg base 4 "_law_debts" (spDebts K)) (c_ring : Cal P w K mg base 4 "_law_ring" (spRing K)) (c_turned : Cal P w K mg base 1 "_law_turned" spTurned) (c_ring_rest : Cal P w K mg base 1 "_law_ring_rest" spRingRest) (c_set_off : Cal P w K mg base 6 "set_off" spSetOff) (c_fits : Cal P w K mg base 2 "_law_fits" spFits) : FnOk P w K mg base CX0 7 f fd P_law (spLaw K) := by
  refine F.ok sc_law (fun vs H Q E h => ?_) (fun cdv A outer s H vs Q E hr h => ?_)
  · obtain ⟨s, ns, rfl, _⟩ := h
    rfl
  · obtain ⟨s, ns, rfl, hS, ls, q⟩ := h
    refine ⟨_, PSs.nox (pss_cons (ps_set (i := 1) sc_law.nd rfl (by first | exact .inl rfl | exact .inr rfl) (pe_cl c_draws hr (by decide) (by rfl) (pa_cons (pe_cl c_cell hr (by decide) (by rfl) (pa_cons (pv 0) (pa_cons pe_int pa_nil))) (pa_cons pe_int pa_nil))))
      (pss_cons (ps_set (i := 2) sc_law.nd rfl (by first | exact .inl rfl | exact .inr rfl) (pe_lst (pa_cons pe_int pa_nil)))
      (pss_cons (ps_set (i := 3) sc_law.nd rfl (by first | exact .inl rfl | exact .inr rfl) (pe_cl c_parties hr (by decide) (by rfl) (pa_cons (pv 1) (pa_cons (pv 2) pa_nil))))
      (pss_cons (ps_set (i := 4) sc_law.nd rfl (by first | exact .inl rfl | exact .inr rfl) (pe_op op_mod (pe_callTy call_int1 (by rfl) m_int (by decide +kernel) (pa_cons (pe_cl c_take hr (by decide) (by rfl) (pa_cons (pv 1) (pa_cons (pv 2) pa_nil))) pa_nil)) pe_int))
      (pss_cons (ps_set (i := 5) sc_law.nd rfl (by first | exact .inl rfl | exact .inr rfl) (pe_cl c_base hr (by decide) (by rfl) (pa_cons (pv 1) (pa_cons (pv 2) pa_nil))))
      (pss_cons (ps_set (i := 6) sc_law.nd rfl (by first | exact .inl rfl | exact .inr rfl) (pe_cl c_cell hr (by decide) (by rfl) (pa_cons (pv 0) (pa_cons pe_int pa_nil))))
      (pss_cons (ps_set (i := 7) sc_law.nd rfl (by first | exact .inl rfl | exact .inr rfl) (pe_cmpR op_eq (pe_op op_mod (pe_callTy call_int1 (by rfl) m_int (by decide +kernel) (pa_cons (pv 6) pa_nil)) pe_int) pe_int (nomark _)))
      (pss_cons (ps_set (i := 8) sc_law.nd rfl (by first | exact .inl rfl | exact .inr rfl) pe_dnewK)
      (pss_cut (ps_if (pt_val (pv 7)) (pss_one (ps_set (i := 8) sc_law.nd rfl (by first | exact .inl rfl | exact .inr rfl) (pe_cl c_ring hr (by decide) (by rfl) (pa_cons (pv 1) (pa_cons (pv 2) (pa_cons (pv 3) (pa_cons (pv 4) (pa_cons (pv 5) pa_nil)))))))) (pss_one (ps_set (i := 8) sc_law.nd rfl (by first | exact .inl rfl | exact .inr rfl) (pe_cl c_debts hr (by decide) (by rfl) (pa_cons (pv 1) (pa_cons (pv 2) (pa_cons (pv 3) (pa_cons (pv 4) (pa_cons (pv 5) pa_nil)))))))))
      (pss_cut (ps_if (pt_cmpR op_eq (pe_op op_mod (pe_callTy call_int1 (by rfl) m_int (by decide +kernel) (pa_cons (pe_op op_fdiv (pv 6) pe_int) pa_nil)) pe_int) pe_int (nomark _)) (pss_one (ps_set (i := 8) sc_law.nd rfl (by first | exact .inl rfl | exact .inr rfl) (pe_cl c_turned hr (by decide) (by rfl) (pa_cons (pv 8) pa_nil)))) pss_nil)
      (pss_cons (ps_set (i := 9) sc_law.nd rfl (by first | exact .inl rfl | exact .inr rfl) (pe_callTy call_dictD (by rfl) m_dict (by decide +kernel) (pa_cons (pv 8) pa_nil)))
      (pss_cons (ps_set (i := 10) sc_law.nd rfl (by first | exact .inl rfl | exact .inr rfl) (pe_cl c_set_off hr (by decide) (by rfl) (pa_cons (pv 9) pa_nil)))
      (pss_cons (ps_if (PW.pt (pw_or (pt_cmpR (op_neD hr.units) (LiI.pe_listItems rfl (pv 9) (by rfl) m_list (by decide +kernel)) (LiI.pe_listItems rfl (pv 8) (by rfl) m_list (by decide +kernel)) (nomark _)) (pw_or1 (pt_not (pt_val (pe_cl c_fits hr (by decide) (by rfl) (pa_cons (pv 8) (pa_cons (pv 10) pa_nil)))))))) (pss_one (ps_ret pe_bl)) pss_nil)
      (pss_cons (ps_set (i := 11) sc_law.nd rfl (by first | exact .inl rfl | exact .inr rfl) (LiI.pe_listItems rfl (pe_ix ix_tup (pv 10) pe_int (fun _ _ => rfl)) (by rfl) m_list (by decide +kernel)))
      (pss_cut (ps_if (PW.pt (pw_and (pt_val (pv 7)) (pw_and1 (pt_cmpR (op_neD hr.units) (pv 11) (pe_cl c_ring_rest hr (by decide) (by rfl) (pa_cons (pv 3) (pa_cons (pv 8) pa_nil))) (nomark _))))) (pss_one (ps_ret pe_bl)) pss_nil)
      (pss_cons (ps_lock (ps_for PassesOwn.never rfl (pi_keys (pv 8)) (pg_name (i := 12) sc_law.nd rfl (by first | exact .inl rfl | exact .inr rfl))
        (pss_one (ps_dput (hu_of hr) (pv 9) (pv 12) (pe_op op_fdiv (pe_dget (hu_of hr) (pv 8) (pv 12) (fun _ _ => rfl)) pe_int) rfl))))
      (pss_cons (ps_if (PW.pt (pw_or (pt_not (pt_val (pe_cl c_fits hr (by decide) (by rfl) (pa_cons (pv 9) (pa_cons (pe_cl c_set_off hr (by decide) (by rfl) (pa_cons (pv 9) pa_nil)) pa_nil))))) (pw_or1 (pt_cmpR (op_neD hr.units) (LiI.pe_listItems rfl (pe_ix ix_tup (pv 10) pe_int (fun _ _ => rfl)) (by rfl) m_list (by decide +kernel)) (pv 11) (nomark _))))) (pss_one (ps_ret pe_bl)) pss_nil)
      (pss_cons (ps_set (i := 13) sc_law.nd rfl (by first | exact .inl rfl | exact .inr rfl) (pe_cl c_set_off hr (by decide) (by rfl) (pa_cons (pe_callTy call_dictD (by rfl) m_dict (by decide +kernel) (pa_cons (pv 8) pa_nil)) pa_nil)))
      (pss_cons (ps_if (PW.pt (pw_or (pt_not (pt_val (pe_cl c_fits hr (by decide) (by rfl) (pa_cons (pv 8) (pa_cons (pv 13) pa_nil))))) (pw_or (pt_cmpR (op_neD hr.units) (LiI.pe_listItems rfl (pe_ix ix_tup (pv 13) pe_int (fun _ _ => rfl)) (by rfl) m_list (by decide +kernel)) (pv 11) (nomark _)) (pw_or1 (pt_cmpR (op_neD hr.units) (pe_ix ix_tup (pv 13) pe_int (fun _ _ => rfl)) (pe_ix ix_tup (pv 10) pe_int (fun _ _ => rfl)) (nomark _)))))) (pss_one (ps_ret pe_bl)) pss_nil)
      (pss_cons (ps_set (i := 14) sc_law.nd rfl (by first | exact .inl rfl | exact .inr rfl) (pe_cl c_set_off hr (by decide) (by rfl) (pa_cons (pe_callTy call_dictD (by rfl) m_dict (by decide +kernel) (pa_cons (pe_ix ix_tup (pv 10) pe_int (fun _ _ => rfl)) pa_nil)) pa_nil)))
      (pss_cons (ps_if (PW.pt (pw_or (pt_not (pt_val (pe_cl c_fits hr (by decide) (by rfl) (pa_cons (pe_ix ix_tup (pv 10) pe_int (fun _ _ => rfl)) (pa_cons (pv 14) pa_nil))))) (pw_or1 (pt_cmpR (op_neD hr.units) (LiI.pe_listItems rfl (pe_ix ix_tup (pv 14) pe_int (fun _ _ => rfl)) (by rfl) m_list (by decide +kernel)) (pv 11) (nomark _))))) (pss_one (ps_ret pe_bl)) pss_nil)
      (pss_cons (ps_set (i := 15) sc_law.nd rfl (by first | exact .inl rfl | exact .inr rfl) pe_dnewK)
      (pss_cons (ps_for PassesOwn.never rfl (pi_keysL (pe_cl c_turned hr (by decide) (by rfl) (pa_cons (pv 8) pa_nil))) (pg_name (i := 12) sc_law.nd rfl (by first | exact .inl rfl | exact .inr rfl))
        (pss_one (ps_if (pt_cmpR op_gt (pe_dget (hu_of hr) (pv 8) (pv 12) (fun _ _ => rfl)) pe_int (nomark _)) (pss_one (ps_dput (hu_of hr) (pv 15) (pv 12) (pe_dget (hu_of hr) (pv 8) (pv 12) (fun _ _ => rfl)) rfl)) pss_nil)))
      (pss_cons (ps_set (i := 16) sc_law.nd rfl (by first | exact .inl rfl | exact .inr rfl) (pe_cl c_set_off hr (by decide) (by rfl) (pa_cons (pe_callTy call_dictD (by rfl) m_dict (by decide +kernel) (pa_cons (pv 15) pa_nil)) pa_nil)))
      (pss_cons (ps_if (PW.pt (pw_or (pt_not (pt_val (pe_cl c_fits hr (by decide) (by rfl) (pa_cons (pv 15) (pa_cons (pv 16) pa_nil))))) (pw_or (pt_cmpR (op_neD hr.units) (LiI.pe_listItems rfl (pe_ix ix_tup (pv 16) pe_int (fun _ _ => rfl)) (by rfl) m_list (by decide +kernel)) (pv 11) (nomark _)) (pw_or1 (pt_cmpR (op_neD hr.units) (pe_ix ix_tup (pv 16) pe_int (fun _ _ => rfl)) (pe_ix ix_tup (pv 10) pe_int (fun _ _ => rfl)) (nomark _)))))) (pss_one (ps_ret pe_bl)) pss_nil)
      (pss_cons (ps_dput (hu_of hr) (pe_ix ix_tup (pv 10) pe_int (fun _ _ => rfl)) pe_str (pe_op op_add (pe_op op_pow pe_int pe_int) pe_int) rfl)
      (pss_cons (ps_set (i := 17) sc_law.nd rfl (by first | exact .inl rfl | exact .inr rfl) (pe_cl c_set_off hr (by decide) (by rfl) (pa_cons (pe_callTy call_dictD (by rfl) m_dict (by decide +kernel) (pa_cons (pv 8) pa_nil)) pa_nil)))
      (pss_one (ps_ret (pe_and (pe_cl c_fits hr (by decide) (by rfl) (pa_cons (pv 8) (pa_cons (pv 17) pa_nil))) (pe_and (pe_cmpR (op_eqD hr.units) (LiI.pe_listItems rfl (pe_ix ix_tup (pv 17) pe_int (fun _ _ => rfl)) (by rfl) m_list (by decide +kernel)) (pv 11) (nomark _)) (pe_one (pe_cmpR (op_eq_dictA (Nat.lt_of_succ_lt (hu_of hr))) (pe_ix ix_tup (pe_cl c_set_off hr (by decide) (by rfl) (pa_cons pe_dnewK pa_nil)) pe_int (fun _ _ => rfl)) pe_dnewK (nomark _)))))))))))))))))))))))))))))))))), ?_⟩
    walk_at "go"
    refine ⟨s, ns, 1, rfl, hS, ?_⟩
    walk_at "go"
    intro d ds nd dr
    have s1 := same_new (o := .lst (ds.map V.int)) nd
    have ed : (upd H d (.lst (ds.map V.int))) d = some (.lst (ds.map V.int)) := upd_same
    generalize upd H d (.lst (ds.map V.int)) = H1 at s1 ed
    walk_at "go"
    intro p np
    have s2 := s1.trans (same_new (o := .lst [.int 0]) np)
    have dp : d ≠ p := ne_of_none ed np
    have hT : Tk K d p ds 160 (upd H1 p (.lst [.int 0])) (upd H1 p (.lst [.int 0])) := ⟨(same_new np) _ _ ed, dr, dp, Z.Same.sb (Same.refl _), 0, upd_same⟩
    have npH := none_of s1 np
    generalize upd H1 p (.lst [.int 0]) = H2 at s2 hT
    walk_at "go"
    refine ⟨d, p, 160, ds, rfl, hT, fun ps H3 hT3 ndp p6 l2 l6 => ?_⟩
    obtain ⟨m3, em3⟩ := hT3.pl
    walk_at "go"
    refine ⟨d, p, 160, m3, ds, rfl, SqL.of hT3.hA, hT3.hd, em3, hT3.ne, fun r r0 r1 => ?_⟩
    obtain ⟨hT4, _⟩ := hT3.next em3
    generalize upd H3 p (.lst [.int ((m3 + 1 : Nat) : Int)]) = H4 at hT4
    walk_at "go"
    refine ⟨d, p, 160, ds, rfl, hT4.slf, fun ba H5 hT5 b0 b1 => ?_⟩
    have hT6 := hT4.tr hT5
    have s5 : Same H H5 := fun b o e => hT6.sb b o (ne_of_none e npH) (s2 b o e)
    dsimp only [List.set]
    walk_at "go"
    refine ⟨s, ns, 0, rfl, s5.seq hS, ?_⟩
    generalize ns.getD 0 0 = sh
    walk_at "go"
    intro e0 ne0
    have hT7 := hT6.more (same_new (o := .dK []) ne0)
    generalize upd H5 e0 (.dK []) = H6 at hT7
    dsimp only [List.set]
    generalize decide (V.int (sh % 4) = V.int 1) = sb
    have nine : (none : Option V) = none := rfl
    refine ⟨fun σ J => Same H J ∧ ∃ (D : Addr) (ks : List Nat) (g : Nat → Int), Db J D ks g ∧ (sb = true → RK ps ks) ∧ σ = [some (.ref s), some (.ref d), some (.ref p), some (.str (S (pT ps))), some (.int (r % 8)), some (.int ba), some (.int sh), some (.bl sb), some (.ref D), none, none, none, none, none, none, none, none, none], ?_, ?_⟩
    · walk_at "go"
      refine ite2 (fun e => ?_) (fun e => ?_)
      · walk_at "go"
        refine ⟨d, p, 160, ds, ps, r % 8, ba, rfl, hT7.slf, ndp, p6, l2, l6, b0, b1, fun D ks g H8 hT8 nD hD rk => ?_⟩
        have hT9 := hT7.tr hT8
        exact ⟨fun b o e => hT9.sb b o (ne_of_none e npH) (s2 b o e), D, ks, g, hD, fun _ => rk, rfl⟩
      · walk_at "go"
        refine ⟨d, p, 160, ds, ps, r % 8, ba, rfl, hT7.slf, ndp, p6, l2, l6, b0, b1, fun D ks g H8 hT8 nD hD _ => ?_⟩
        have hT9 := hT7.tr hT8
        exact ⟨fun b o e => hT9.sb b o (ne_of_none e npH) (s2 b o e), D, ks, g, hD, fun z => absurd z e, rfl⟩
    clear hT hT3 hT4 hT5 hT6 hT7 s1 s2 s5 em3 nine
    rintro σ J0 ⟨sH, D0, ks0, g, hD0, rk0, rfl⟩
    walk_at "go"
    refine ⟨fun σ J => ∃ (D : Addr) (ks : List Nat), Db J D ks g ∧ (sb = true → RK ps ks) ∧ σ = [some (.ref s), some (.ref d), some (.ref p), some (.str (S (pT ps))), some (.int (r % 8)), some (.int ba), some (.int sh), some (.bl sb), some (.ref D), none, none, none, none, none, none, none, none, none], ?_, ?_⟩
    · walk_at "go"
      refine ite2 (fun e => ?_) (fun e => ?_)
      · walk_at "go"
        refine ⟨D0, ks0, g, rfl, hD0, fun D ks J1 sJ1 nD hD mm => ?_⟩
        refine ⟨D, ks, hD, fun z => ?_, rfl⟩
        have R := rk0 z
        exact ⟨R.nd, R.lt, R.l2, fun i hi => (mm _).mpr (R.ring i hi), fun k m => (R.oth k ((mm k).mp m)).imp id fun ⟨q, a, b, c⟩ => ⟨q, a, b, fun j mj => c j ((mm j).mp mj)⟩⟩
      · exact ⟨D0, ks0, hD0, rk0, rfl⟩
    clear hD0 rk0 sH
    rintro σ J1 ⟨D, ks, hD, rk, rfl⟩
    walk_at "go"
    refine ⟨D, _, rfl, .inl hD.e, fun G nG => ?_⟩
    have DG : D ≠ G := fun e => by rw [← e, hD.e] at nG; cases nG
    have sG := same_new (o := .dK (tab ky ks g)) nG
    have dG : Db (upd J1 G (.dK (tab ky ks g))) G ks g := ⟨upd_same, hD.nd, hD.ok, hD.z⟩
    generalize upd J1 G (.dK (tab ky ks g)) = J2 at sG dG
    have dD := hD.mono sG
    clear hD sG nG
    have k36 : ∀ k ∈ ks, k < 36 := fun k m => (dD.ok k m).1.1
    have r36 : ∀ r : Nat → Int, ∀ k ∈ posK r, k < 36 := fun r k m => (mem_posK.mp m).1
    dsimp only [List.set]
    walk_at "go"
    refine ⟨G, ks, g, rfl, dG.e, dG.nd, dG.ok, dG.len, fun t1 R1 T1 jt1 ra1 h1 HA1 sA1 nR1 et1 eR1 asc1 mem1 hr1 hn1 eT1 up1 dn1 fin1 => ?_⟩
    have an1 := setoff_ans dG et1 eR1 asc1 mem1 hr1 hn1 eT1 up1 dn1 fin1
    clear et1 eR1 asc1 mem1 hr1 hn1 eT1 up1 dn1 fin1
    generalize ra1 = rr1 at an1
    have sX1 := sA1
    clear sA1
    have RG : R1 ≠ G := fun e => by rw [e, dG.e] at nR1; cases nR1
    have RD : D ≠ R1 := fun e => by rw [← e, dD.e] at nR1; cases nR1
    have dG1 := dG.mono sX1
    have dD1 := dD.mono sX1
    clear dG dD sX1 nR1
    walk_at "go"
    refine ⟨G, _, rfl, dG1.e, fun HI1 pI1 tsI1 kI1 npI1 ntsI1 ptsI1 epI1 prI1 => ?_⟩
    have sI1 : Same _ HI1 := kI1
    have il1 : ItL HI1 pI1 ks g := ⟨tsI1, epI1, prI1⟩
    clear kI1 npI1 ntsI1 ptsI1 epI1 prI1
    have dD2 := dD1.mono sI1
    walk_at "go"
    refine ⟨D, _, rfl, dD2.e, fun HI2 pI2 tsI2 kI2 npI2 ntsI2 ptsI2 epI2 prI2 => ?_⟩
    have sI2 : Same _ HI2 := kI2
    have il2 : ItL HI2 pI2 ks g := ⟨tsI2, epI2, prI2⟩
    clear kI2 npI2 ntsI2 ptsI2 epI2 prI2
    have sI := sI1.trans sI2
    have il1 := il1.mono sI2
    have dD3 := dD1.mono sI
    have dG3 := dG1.mono sI
    have an3 := an1.mono sI
    walk_at "go"
    refine ⟨_, _, il1.dp, il2.dp, shaped_en k36, shaped_en k36, ?_⟩
    rw [eqv_same (shaped_en k36)]
    clear il1 il2 sI1 sI2 sI dD2 dD1 dG1 an1
    walk_at "go"
    refine ⟨D, t1, R1, T1, ks, g, rr1, h1, rfl, dD3, an3, RD, fun HF1 sF1 => ?_⟩
    have dD4 := dD3.mono sF1
    have dG4 := dG3.mono sF1
    have an4 := an3.mono sF1
    clear dD3 dG3 an3 sF1
    walk_at "go"
    refine ⟨t1, _, _, _, rfl, rfl, SqT.of an4.t, at_0, ?_⟩
    refine ⟨R1, _, rfl, an4.R.e, fun HI3 pI3 tsI3 kI3 npI3 ntsI3 ptsI3 epI3 prI3 => ?_⟩
    have sI3 : Same _ HI3 := kI3
    have il3 : ItL HI3 pI3 (posK rr1) rr1 := ⟨tsI3, epI3, prI3⟩
    clear kI3 npI3 ntsI3 ptsI3 epI3 prI3
    have dD5 := dD4.mono sI3
    have dG5 := dG4.mono sI3
    have an5 := an4.mono sI3
    generalize pI3 = kp at il3
    clear dD4 dG4 an4 sI3
    dsimp only [List.set]
    walk_at "go"
    refine ⟨fun σ J => Same HI3 J ∧ σ = [some (.ref s), some (.ref d), some (.ref p), some (.str (S (pT ps))), some (.int (r % 8)), some (.int ba), some (.int sh), some (.bl sb), some (.ref D), some (.ref G), some (.ref t1), some (.ref kp), none, none, none, none, none, none], ?_, ?_⟩
    · walk_at "go"
      refine ite2 (fun e => ?_) (fun e => ?_)
      · walk_at "go"
        refine ⟨D, ks, g, ps, rfl, dD5, rk e, l6, fun m L HR mex mle sR il4 => ?_⟩
        have er : rrOf ps g m = rr1 := funext fun k => (ring_rest (rk e) an5.res dD5.z (fun k m => (dD5.ok k m).1) mex mle k).symm
        rw [er] at il4
        have il3 := il3.mono sR
        walk_at "go"
        refine ⟨_, _, il3.dp, il4.dp, shaped_en (r36 rr1), shaped_en (r36 rr1), ?_⟩
        rw [eqv_same (shaped_en (r36 rr1))]
        walk_at "go"
        rfl
      · exact ⟨Same.refl _, rfl⟩
    rintro σ J3 ⟨sM, rfl⟩
    have dD6 := dD5.mono sM
    have dG6 := dG5.mono sM
    have an6 := an5.mono sM
    have il6 := il3.mono sM
    clear dD5 dG5 an5 il3 sM rk
    walk_at "go"
    refine ⟨D, _, dD6.e, trivial, fun od => ?_⟩
    have fz : (upd J3 D (.frz od (.dK (tab ky ks g)))) D = some (.frz od (.dK (tab ky ks g))) := upd_same
    have oth : ∀ b o, b ≠ D → b ≠ G → J3 b = some o → (upd J3 D (.frz od (.dK (tab ky ks g)))) b = some o := fun b o n _ e => by rw [upd_ne n]; exact e
    have dG7 : Db (upd J3 D (.frz od (.dK (tab ky ks g)))) G ks g := ⟨by rw [upd_ne DG.symm]; exact dG6.e, dG6.nd, dG6.ok, dG6.z⟩
    have dG7' : Db (upd J3 D (.frz od (.dK (tab ky ks g)))) G ks (fun k => if k ∈ ks.take 0 then g k / 2 else g k) := by
      have e : (fun k => if k ∈ ks.take 0 then g k / 2 else g k) = g := funext fun k => if_neg (by simp)
      rw [e]
      exact dG7
    walk_at "go"
    refine ⟨D, od, rfl, .inl ⟨_, fz, ?_⟩⟩
    generalize upd J3 D (.frz od (.dK (tab ky ks g))) = J4 at fz oth dG7 dG7'
    refine for_gen (n := ks.length) (fun i σ J => J D = some (.frz od (.dK (tab ky ks g))) ∧ (∀ b o, b ≠ D → b ≠ G → J3 b = some o → J b = some o) ∧ Db J G ks (fun k => if k ∈ ks.take i then g k / 2 else g k) ∧ ∃ v12, σ = [some (.ref s), some (.ref d), some (.ref p), some (.str (S (pT ps))), some (.int (r % 8)), some (.int ba), some (.int sh), some (.bl sb), some (.ref D), some (.ref G), some (.ref t1), some (.ref kp), v12, none, none, none, none, none]) ⟨fz, oth, dG7', _, rfl⟩ ?_ ?_ ?_ ?_
    · rintro i σ J hi ⟨f1, _⟩
      exact ⟨f1, by rw [tab_len]; exact hi⟩
    · rintro σ J ⟨f1, _⟩
      exact ⟨f1, by rw [tab_len]; exact Nat.le_refl _⟩
    · rintro i σ J x J5 hi ⟨f1, o1, dg, v12, rfl⟩ ⟨rfl, k, v, e, rfl⟩
      rw [tab_at hi] at e
      cases e
      have tk : ks.take (i + 1) = ks.take i ++ [ks[i]] := by
        rw [List.take_succ, List.getElem?_eq_getElem hi]
        rfl
      have km := List.getElem_mem hi
      generalize ks[i] = k at tk km
      have gk := dD6.nn k
      walk_at "go"
      refine ⟨D, _, rfl, dget_fz f1 km, ?_⟩
      walk_at "go"
      refine ⟨G, _, rfl, dg.dput k _, ?_⟩
      have z := dg.put (J := J5) (dD6.ok k km).1 (c := g k / 2) (by omega)
      rw [if_pos km] at z
      have ef : (fun j => if j = k then g k / 2 else if j ∈ ks.take i then g j / 2 else g j) = fun j => if j ∈ ks.take (i + 1) then g j / 2 else g j := by
        funext j
        rw [tk]
        by_cases e : j = k
        · rw [if_pos e, if_pos (by rw [e]; simp), e]
        · rw [if_neg e]
          by_cases m : j ∈ ks.take i
          · rw [if_pos m, if_pos (List.mem_append_left _ m)]
          · rw [if_neg m, if_neg (fun z => (List.mem_append.mp z).elim m fun y => e (List.mem_singleton.mp y))]
      rw [ef] at z
      exact ⟨by rw [upd_ne DG]; exact f1, fun b o n1 n2 e => by rw [upd_ne n2]; exact o1 b o n1 n2 e, z, _, rfl⟩
    rintro σ J5 ⟨f1, o1, dg, v12, rfl⟩
    refine ⟨f1, ?_⟩
    rw [List.take_length] at dg
    have eg : (fun k => if k ∈ ks then g k / 2 else g k) = fun k => g k / 2 := by
      funext k
      by_cases m : k ∈ ks
      · rw [if_pos m]
      · rw [if_neg m, dD6.z k m]
        rfl
    rw [eg] at dg
    have sG : SB G J3 (upd J5 D (.dK (tab ky ks g))) := fun b o n e => by
      by_cases c : b = D
      · subst c
        rw [upd_same, ← dD6.e, e]
      · rw [upd_ne c]
        exact o1 b o c n e
    have dG8 : Db (upd J5 D (.dK (tab ky ks g))) G ks (fun k => g k / 2) := ⟨by rw [upd_ne DG.symm]; exact dg.e, dg.nd, dg.ok, dg.z⟩
    generalize upd J5 D (.dK (tab ky ks g)) = J6 at sG dG8
    have dD8 := dD6.sb sG DG
    have an8 := an6.sb dG6.e sG RG
    have il8 := il6.sb dG6.e sG
    clear dG7 dG7' oth fz f1 o1 dg eg sG dD6 dG6 an6 il6
    walk_at "go"
    refine ⟨G, ks, _, rfl, dG8.e, dG8.nd, dG8.ok, dG8.len, fun t2 R2 T2 jt2 ra2 h2 HA2 sA2 nR2 et2 eR2 asc2 mem2 hr2 hn2 eT2 up2 dn2 fin2 => ?_⟩
    have an2 := setoff_ans dG8 et2 eR2 asc2 mem2 hr2 hn2 eT2 up2 dn2 fin2
    clear et2 eR2 asc2 mem2 hr2 hn2 eT2 up2 dn2 fin2
    generalize ra2 = rr2 at an2
    have sX2 := sA2
    clear sA2
    have RG2 : G ≠ R2 := fun e => by rw [← e, dG8.e] at nR2; cases nR2
    walk_at "go"
    refine ⟨G, t2, R2, T2, ks, _, rr2, h2, rfl, dG8.mono sX2, an2, RG2, fun HF2 sF2 => ?_⟩
    have sX := sX2.trans sF2
    have dD9 := dD8.mono sX
    have an9 := an8.mono sX
    have il9 := il8.mono sX
    clear an2 RG2 sX sX2 sF2 nR2 dD8 an8 il8 dG8
    walk_at "go"
    refine ⟨t1, _, _, _, rfl, rfl, SqT.of an9.t, at_0, ?_⟩
    refine ⟨R1, _, rfl, an9.R.e, fun HI4 pI4 tsI4 kI4 npI4 ntsI4 ptsI4 epI4 prI4 => ?_⟩
    have sI4 : Same _ HI4 := kI4
    have il4 : ItL HI4 pI4 (posK rr1) rr1 := ⟨tsI4, epI4, prI4⟩
    clear kI4 npI4 ntsI4 ptsI4 epI4 prI4
    have dD10 := dD9.mono sI4
    have an10 := an9.mono sI4
    have il10 := il9.mono sI4
    clear dD9 an9 il9 sI4
    walk_at "go"
    refine ⟨_, _, il4.dp, il10.dp, shaped_en (r36 rr1), shaped_en (r36 rr1), ?_⟩
    rw [eqv_same (shaped_en (r36 rr1))]
    clear il4
    walk_at "go"
    refine ⟨D, _, rfl, .inl dD10.e, fun E3 nE3 => ?_⟩
    have sE3 := same_new (o := .dK (tab ky ks g)) nE3
    have eE3 : (upd HI4 E3 (.dK (tab ky ks g))) E3 = some (.dK (tab ky ks g)) := upd_same
    generalize upd HI4 E3 (.dK (tab ky ks g)) = HE3 at sE3 eE3
    walk_at "go"
    refine ⟨E3, ks, g, rfl, eE3, dD10.nd, dD10.ok, dD10.len, fun t3 R3 T3 jt3 ra3 h3 HA3 sA3 nR3 et3 eR3 asc3 mem3 hr3 hn3 eT3 up3 dn3 fin3 => ?_⟩
    have an3 := setoff_ans dD10 et3 eR3 asc3 mem3 hr3 hn3 eT3 up3 dn3 fin3
    clear et3 eR3 asc3 mem3 hr3 hn3 eT3 up3 dn3 fin3
    generalize ra3 = rr3 at an3
    have sX3 := sE3.trans sA3
    have nR3 : HI4 R3 = none := none_of sE3 nR3
    clear sE3 sA3 nE3 eE3
    have DR3 : D ≠ R3 := fun e => by have z := dD10.e; rw [e, nR3] at z; cases z
    obtain ⟨er3, eh3⟩ := an3.fin.det an10.fin
    rw [er3] at an3
    have hVe3 := hV_congr eh3
    clear er3 eh3
    have dDx := dD10.mono sX3
    have anx := an10.mono sX3
    have ilx := il10.mono sX3
    have hDx := dD10.mono sX3
    clear nR3 sX3
    dsimp only [List.set]
    walk_at "go"
    refine ⟨D, t3, R3, T3, ks, g, rr1, h3, rfl, hDx, an3, DR3, fun HF3 sF3 => ?_⟩
    have dDy := dDx.mono sF3
    have any_ := anx.mono sF3
    have ily := ilx.mono sF3
    have an3 := an3.mono sF3
    clear dDx anx ilx hDx sF3 DR3
    walk_at "go"
    refine ⟨t3, _, _, _, rfl, rfl, SqT.of an3.t, at_0, ?_⟩
    refine ⟨R3, _, rfl, an3.R.e, fun HIz3 pIz3 tsIz3 kIz3 npIz3 ntsIz3 ptsIz3 epIz3 prIz3 => ?_⟩
    have sIz3 : Same _ HIz3 := kIz3
    have ilz3 : ItL HIz3 pIz3 (posK rr1) rr1 := ⟨tsIz3, epIz3, prIz3⟩
    clear kIz3 npIz3 ntsIz3 ptsIz3 epIz3 prIz3
    have dD11 := dDy.mono sIz3
    have an11' := any_.mono sIz3
    have il11 := ily.mono sIz3
    have an3 := an3.mono sIz3
    clear dDy any_ ily
    walk_at "go"
    refine ⟨_, _, ilz3.dp, il11.dp, shaped_en (r36 rr1), shaped_en (r36 rr1), ?_⟩
    rw [eqv_same (shaped_en (r36 rr1))]
    clear ilz3 sIz3
    walk_at "go"
    refine ⟨t3, _, _, _, rfl, rfl, SqT.of an3.t, at_1, ?_⟩
    walk_at "go"
    refine ⟨t1, _, _, _, rfl, rfl, SqT.of an11'.t, at_1, ?_⟩
    walk_at "go"
    refine ⟨_, _, dp_ints (b := false) (SqT.of (hV_ints h1 ▸ hVe3 ▸ an3.T)), dp_ints (b := false) (SqT.of (hV_ints h1 ▸ an11'.T)), shaped_ints false _, shaped_ints false _, ?_⟩
    rw [eqv_same (shaped_ints false _)]
    walk_at "go"
    have an11 := an11'
    clear an11'
    refine ⟨t1, _, _, _, rfl, rfl, SqT.of an11.t, at_0, ?_⟩
    walk_at "go"
    refine ⟨R1, _, rfl, .inl an11.R.e, fun E4 nE4 => ?_⟩
    have sE4 := same_new (o := .dK (tab ky (posK rr1) rr1)) nE4
    have eE4 : (upd HIz3 E4 (.dK (tab ky (posK rr1) rr1))) E4 = some (.dK (tab ky (posK rr1) rr1)) := upd_same
    generalize upd HIz3 E4 (.dK (tab ky (posK rr1) rr1)) = HE4 at sE4 eE4
    walk_at "go"
    refine ⟨E4, (posK rr1), rr1, rfl, eE4, an11.R.nd, an11.R.ok, an11.R.len, fun t4 R4 T4 jt4 ra4 h4 HA4 sA4 nR4 et4 eR4 asc4 mem4 hr4 hn4 eT4 up4 dn4 fin4 => ?_⟩
    have an4 := setoff_ans an11.R et4 eR4 asc4 mem4 hr4 hn4 eT4 up4 dn4 fin4
    clear et4 eR4 asc4 mem4 hr4 hn4 eT4 up4 dn4 fin4
    generalize ra4 = rr4 at an4
    have sX4 := sE4.trans sA4
    have nR4 : HIz3 R4 = none := none_of sE4 nR4
    clear sE4 sA4 nE4 eE4
    have DR4 : R1 ≠ R4 := fun e => by have z := an11.R.e; rw [e, nR4] at z; cases z
    have er4 := an11.res.again an4.res (fun k hk => an11.R.z k fun m => by have := (mem_posK.mp m).1; omega)
    rw [er4] at an4
    clear er4
    have dDx := dD11.mono sX4
    have anx := an11.mono sX4
    have ilx := il11.mono sX4
    have hDx := an11.R.mono sX4
    clear nR4 sX4
    dsimp only [List.set]
    walk_at "go"
    refine ⟨t1, _, _, _, rfl, rfl, SqT.of anx.t, at_0, ?_⟩
    walk_at "go"
    refine ⟨R1, t4, R4, T4, (posK rr1), rr1, rr1, h4, rfl, hDx, an4, DR4, fun HF4 sF4 => ?_⟩
    have dDy := dDx.mono sF4
    have any_ := anx.mono sF4
    have ily := ilx.mono sF4
    have an4 := an4.mono sF4
    clear dDx anx ilx hDx sF4 DR4
    walk_at "go"
    refine ⟨t4, _, _, _, rfl, rfl, SqT.of an4.t, at_0, ?_⟩
    refine ⟨R4, _, rfl, an4.R.e, fun HIz4 pIz4 tsIz4 kIz4 npIz4 ntsIz4 ptsIz4 epIz4 prIz4 => ?_⟩
    have sIz4 : Same _ HIz4 := kIz4
    have ilz4 : ItL HIz4 pIz4 (posK rr1) rr1 := ⟨tsIz4, epIz4, prIz4⟩
    clear kIz4 npIz4 ntsIz4 ptsIz4 epIz4 prIz4
    have dD12 := dDy.mono sIz4
    have an12' := any_.mono sIz4
    have il12 := ily.mono sIz4
    have an4 := an4.mono sIz4
    clear dDy any_ ily
    walk_at "go"
    refine ⟨_, _, ilz4.dp, il12.dp, shaped_en (r36 rr1), shaped_en (r36 rr1), ?_⟩
    rw [eqv_same (shaped_en (r36 rr1))]
    clear ilz4 sIz4
    walk_at "go"
    have an12 := an12'
    clear an12'
    intro O nO
    have sO := same_new (o := .dK []) nO
    have dO : Db (upd HIz4 O (.dK [])) O [] (zx [] g) := by
      rw [zx_nil]
      exact ⟨upd_same, List.nodup_nil, fun k m => absurd m (by simp), fun k _ => rfl⟩
    generalize upd HIz4 O (.dK []) = H0 at sO dO
    have dD13 := dD12.mono sO
    dsimp only [List.set]
    walk_at "go"
    refine ⟨D, ks, g, rfl, dD13, fun Fd ksF HF' sF nF hF mm => ?_⟩
    walk_at "go"
    refine ⟨Fd, _, rfl, hF.e, fun od => ?_⟩
    have FO : Fd ≠ O := fun e => by rw [e, dO.e] at nF; cases nF
    have fz : (upd HF' Fd (.frz od (.dK (tab ky ksF g)))) Fd = some (.frz od (.dK (tab ky ksF g))) := upd_same
    have sB := sO.trans (Z.Same.mut (o := .frz od (.dK (tab ky ksF g))) sF nF)
    have dO' : Db (upd HF' Fd (.frz od (.dK (tab ky ksF g)))) O [] (zx [] g) := ⟨by rw [upd_ne FO.symm]; exact sF _ _ dO.e, dO.nd, dO.ok, dO.z⟩
    generalize upd HF' Fd (.frz od (.dK (tab ky ksF g))) = J7 at fz sB dO'
    clear dO sO dD13 sF nF hF
    refine for_gen (n := ksF.length) (fun i σ J => J Fd = some (.frz od (.dK (tab ky ksF g))) ∧ Same HIz4 J ∧ (∃ ko, Db J O ko (zx ko g) ∧ (∀ k ∈ ko, k ∈ ks) ∧ ∀ m (h : m < ksF.length), m < i → 0 < g ksF[m] → ksF[m] ∈ ko) ∧ ∃ v12, σ = [some (.ref s), some (.ref d), some (.ref p), some (.str (S (pT ps))), some (.int (r % 8)), some (.int ba), some (.int sh), some (.bl sb), some (.ref D), some (.ref G), some (.ref t1), some (.ref kp), v12, some (.ref t3), some (.ref t4), some (.ref O), none, none]) ⟨fz, sB, ⟨[], dO', fun k m => absurd m (by simp), fun m h z => absurd z (Nat.not_lt_zero _)⟩, _, rfl⟩ ?_ ?_ ?_ ?_
    · rintro i σ J hi ⟨f1, _⟩
      exact ⟨f1, by rw [tab_len]; exact hi⟩
    · rintro σ J ⟨f1, _⟩
      exact ⟨f1, by rw [tab_len]; exact Nat.le_refl _⟩
    · rintro i σ J x J8 hi ⟨f1, s1, ⟨ko, dO, sub, cov⟩, v12, rfl⟩ ⟨rfl, k, v, e, rfl⟩
      rw [tab_at hi] at e
      cases e
      have km := (mm _).mp (List.getElem_mem hi)
      have cov2 : ∀ ko' : List Nat, (∀ k ∈ ko, k ∈ ko') → (0 < g ksF[i] → ksF[i] ∈ ko') → ∀ m (h : m < ksF.length), m < i + 1 → 0 < g ksF[m] → ksF[m] ∈ ko' := fun ko' a b m h z gp => by
        by_cases e : m = i
        · subst e
          exact b gp
        · exact a _ (cov m h (by omega) gp)
      generalize ksF[i] = k at km cov2
      have dDj := dD12.mono s1
      walk_at "go"
      refine ⟨D, _, rfl, dDj.get km, ?_⟩
      walk_at "go"
      refine ite2 (fun e => ?_) (fun e => ?_)
      · have e : 0 < g k := of_decide_eq_true e
        walk_at "go"
        refine ⟨D, _, rfl, dDj.get km, ?_⟩
        walk_at "go"
        refine ⟨O, _, rfl, dO.dput k _, ?_⟩
        refine ⟨by rw [upd_ne FO]; exact f1, Z.Same.mut s1 nO, ⟨_, dO.putZ (dD12.ok k km).1 (by omega), fun j m => ?_, cov2 _ (fun j m => mem_addK.mpr (.inl m)) (fun _ => mem_addK.mpr (.inr rfl))⟩, _, rfl⟩
        rcases mem_addK.mp m with m | rfl
        · exact sub j m
        · exact km
      · exact ⟨f1, s1, ⟨ko, dO, sub, cov2 ko (fun _ m => m) (fun z => absurd (decide_eq_true z) e)⟩, _, rfl⟩
    rintro σ J8 ⟨f1, s1, ⟨ko, dO, sub, cov⟩, v12, rfl⟩
    have ez : zx ko g = g := funext fun k => by
      unfold zx
      by_cases m : k ∈ ko
      · rw [if_pos m]
      · rw [if_neg m]
        by_cases mk : k ∈ ks
        · have nn := dD12.nn k
          have : ¬ 0 < g k := fun gp => by
            obtain ⟨n, hn, rfl⟩ := List.getElem_of_mem ((mm k).mpr mk)
            exact m (cov n hn hn gp)
          omega
        · rw [dD12.z k mk]
    rw [ez] at dO
    have dD14 := dD12.mono s1
    have an14 := an12.mono s1
    have il14 := il12.mono s1
    clear dD12 an12 il12 s1 cov sub ez fz sB dO' f1 nO FO mm
    walk_at "go"
    refine ⟨O, _, rfl, .inl dO.e, fun E5 nE5 => ?_⟩
    have sE5 := same_new (o := .dK (tab ky ko g)) nE5
    have eE5 : (upd J8 E5 (.dK (tab ky ko g))) E5 = some (.dK (tab ky ko g)) := upd_same
    generalize upd J8 E5 (.dK (tab ky ko g)) = HE5 at sE5 eE5
    walk_at "go"
    refine ⟨E5, ko, g, rfl, eE5, dO.nd, dO.ok, dO.len, fun t5 R5 T5 jt5 ra5 h5 HA5 sA5 nR5 et5 eR5 asc5 mem5 hr5 hn5 eT5 up5 dn5 fin5 => ?_⟩
    have an5 := setoff_ans dO et5 eR5 asc5 mem5 hr5 hn5 eT5 up5 dn5 fin5
    clear et5 eR5 asc5 mem5 hr5 hn5 eT5 up5 dn5 fin5
    generalize ra5 = rr5 at an5
    have sX5 := sE5.trans sA5
    have nR5 : J8 R5 = none := none_of sE5 nR5
    clear sE5 sA5 nE5 eE5
    have DR5 : O ≠ R5 := fun e => by have z := dO.e; rw [e, nR5] at z; cases z
    obtain ⟨er5, eh5⟩ := an5.fin.det an14.fin
    rw [er5] at an5
    have hVe5 := hV_congr eh5
    clear er5 eh5
    have dDx := dD14.mono sX5
    have anx := an14.mono sX5
    have ilx := il14.mono sX5
    have hDx := dO.mono sX5
    clear nR5 sX5
    dsimp only [List.set]
    walk_at "go"
    refine ⟨O, t5, R5, T5, ko, g, rr1, h5, rfl, hDx, an5, DR5, fun HF5 sF5 => ?_⟩
    have dDy := dDx.mono sF5
    have any_ := anx.mono sF5
    have ily := ilx.mono sF5
    have an5 := an5.mono sF5
    clear dDx anx ilx hDx sF5 DR5
    walk_at "go"
    refine ⟨t5, _, _, _, rfl, rfl, SqT.of an5.t, at_0, ?_⟩
    refine ⟨R5, _, rfl, an5.R.e, fun HIz5 pIz5 tsIz5 kIz5 npIz5 ntsIz5 ptsIz5 epIz5 prIz5 => ?_⟩
    have sIz5 : Same _ HIz5 := kIz5
    have ilz5 : ItL HIz5 pIz5 (posK rr1) rr1 := ⟨tsIz5, epIz5, prIz5⟩
    clear kIz5 npIz5 ntsIz5 ptsIz5 epIz5 prIz5
    have dD15 := dDy.mono sIz5
    have an15' := any_.mono sIz5
    have il15 := ily.mono sIz5
    have an5 := an5.mono sIz5
    clear dDy any_ ily
    walk_at "go"
    refine ⟨_, _, ilz5.dp, il15.dp, shaped_en (r36 rr1), shaped_en (r36 rr1), ?_⟩
    rw [eqv_same (shaped_en (r36 rr1))]
    clear ilz5 sIz5
    walk_at "go"
    refine ⟨t5, _, _, _, rfl, rfl, SqT.of an5.t, at_1, ?_⟩
    walk_at "go"
    refine ⟨t1, _, _, _, rfl, rfl, SqT.of an15'.t, at_1, ?_⟩
    walk_at "go"
    refine ⟨_, _, dp_ints (b := false) (SqT.of (hV_ints h1 ▸ hVe5 ▸ an5.T)), dp_ints (b := false) (SqT.of (hV_ints h1 ▸ an15'.T)), shaped_ints false _, shaped_ints false _, ?_⟩
    rw [eqv_same (shaped_ints false _)]
    walk_at "go"
    have an15 := an15'
    clear an15'
    have hp := DPut.k (k := Sum.inr (Str.ofString "fa")) (v := .int (10 ^ 9 + 7)) an15.R.e (by rw [tab_len]; have := an15.R.len; exact szlt (by omega))

    refine ⟨t1, _, _, _, rfl, rfl, SqT.of an15.t, at_0, ?_⟩
    walk_at "go"
    refine ⟨R1, _, rfl, hp, ?_⟩
    have sR1 : SB R1 HIz5 (upd HIz5 R1 (.dK (putK (tab ky (posK rr1) rr1) (Sum.inr (Str.ofString "fa")) (.int (10 ^ 9 + 7))))) := SB.upd (Z.Same.sb (Same.refl _))
    have dD16 := dD15.sb sR1 RD
    have il16 := il15.sb an15.R.e sR1
    generalize upd HIz5 R1 (.dK (putK (tab ky (posK rr1) rr1) (Sum.inr (Str.ofString "fa")) (.int (10 ^ 9 + 7)))) = H16 at dD16 il16
    clear hp sR1 dD15 il15
    walk_at "go"
    refine ⟨D, _, rfl, .inl dD16.e, fun E6 nE6 => ?_⟩
    have sE6 := same_new (o := .dK (tab ky ks g)) nE6
    have eE6 : (upd H16 E6 (.dK (tab ky ks g))) E6 = some (.dK (tab ky ks g)) := upd_same
    generalize upd H16 E6 (.dK (tab ky ks g)) = HE6 at sE6 eE6
    walk_at "go"
    refine ⟨E6, ks, g, rfl, eE6, dD16.nd, dD16.ok, dD16.len, fun t6 R6 T6 jt6 ra6 h6 HA6 sA6 nR6 et6 eR6 asc6 mem6 hr6 hn6 eT6 up6 dn6 fin6 => ?_⟩
    have an6 := setoff_ans dD16 et6 eR6 asc6 mem6 hr6 hn6 eT6 up6 dn6 fin6
    clear et6 eR6 asc6 mem6 hr6 hn6 eT6 up6 dn6 fin6
    generalize ra6 = rr6 at an6
    have sX6 := sE6.trans sA6
    have nR6 : H16 R6 = none := none_of sE6 nR6
    clear sE6 sA6 nE6 eE6
    have DR6 : D ≠ R6 := fun e => by have z := dD16.e; rw [e, nR6] at z; cases z
    obtain ⟨er6, _⟩ := an6.fin.det an15.fin
    rw [er6] at an6
    have dDx := dD16.mono sX6
    have ilx := il16.mono sX6
    dsimp only [List.set]
    walk_at "go"
    refine ⟨D, t6, R6, T6, ks, g, rr1, h6, rfl, dDx, an6, DR6, fun HF6 sF6 => ?_⟩
    have ily := ilx.mono sF6
    have an6 := an6.mono sF6
    walk_at "go"
    refine ⟨t6, _, _, _, rfl, rfl, SqT.of an6.t, at_0, ?_⟩
    refine ⟨R6, _, rfl, an6.R.e, fun HIz6 pIz6 tsIz6 kIz6 npIz6 ntsIz6 ptsIz6 epIz6 prIz6 => ?_⟩
    have sIz6 : Same _ HIz6 := kIz6
    have ilz6 : ItL HIz6 pIz6 (posK rr1) rr1 := ⟨tsIz6, epIz6, prIz6⟩
    clear kIz6 npIz6 ntsIz6 ptsIz6 epIz6 prIz6
    have ilw := ily.mono sIz6
    walk_at "go"
    refine ⟨_, _, ilz6.dp, ilw.dp, shaped_en (r36 rr1), shaped_en (r36 rr1), ?_⟩
    rw [eqv_same (shaped_en (r36 rr1))]
    walk_at "go"
    intro Y nY
    have eY : (upd HIz6 Y (.dK [])) Y = some (.dK (tab ky [] fun _ => 0)) := upd_same
    generalize upd HIz6 Y (.dK []) = H17 at eY
    walk_at "go"
    refine ⟨Y, [], fun _ => 0, rfl, eY, List.nodup_nil, fun k m => absurd m (by simp), by decide, fun t7 R7 T7 js7 ra7 h7 H18 s18 nR7 et7 eR7 asc7 mem7 _ _ _ _ _ _ => ?_⟩
    have ejs : js7 = [] := List.eq_nil_iff_forall_not_mem.mpr fun k m => absurd ((mem7 k).mp m).1 (by simp)
    rw [ejs] at eR7
    walk_at "go"
    refine ⟨t7, _, _, _, rfl, rfl, SqT.of et7, at_0, ?_⟩
    walk_at "go"
    intro X8 nX8
    have sX8 := same_new (o := .dK []) nX8
    refine ⟨R7, X8, [], [], rfl, rfl, sX8 _ _ eR7, upd_same, rfl, fun p m => absurd m (by simp), ?_⟩
    walk_at "go"
    exact q _
end
end Z
set_option pp.maxSteps 700
set_option Elab.async false
set_option linter.all false
set_option maxRecDepth 100000
set_option maxHeartbeats 4000000
set_option maxHeartbeats 0
namespace Z
open PySem PySem.Spec PyProof.Rows L2
def d_is_party : He.DefD := ⟨("is_party", none), "is_party", "is_party", defArgs s_is_party, defBody s_is_party, defScope s_is_party, [], []⟩
def d_is_pair : He.DefD := ⟨("is_pair", none), "is_pair", "is_pair", defArgs s_is_pair, defBody s_is_pair, defScope s_is_pair, [], []⟩
def d_check_debts : He.DefD := ⟨("check_debts", none), "check_debts", "check_debts", defArgs s_check_debts, defBody s_check_debts, defScope s_check_debts, [], []⟩
def d_tidy : He.DefD := ⟨("tidy", none), "tidy", "tidy", defArgs s_tidy, defBody s_tidy, defScope s_tidy, [], []⟩
def d_net : He.DefD := ⟨("net", none), "net", "net", defArgs s_net, defBody s_net, defScope s_net, [], []⟩
def d_steps_left : He.DefD := ⟨("steps_left", none), "steps_left", "steps_left", defArgs s_steps_left, defBody s_steps_left, defScope s_steps_left, [], []⟩
def d_cheapest_ways : He.DefD := ⟨("cheapest_ways", none), "cheapest_ways", "cheapest_ways", defArgs s_cheapest_ways, defBody s_cheapest_ways, defScope s_cheapest_ways, [], []⟩
def d_way_to : He.DefD := ⟨("way_to", none), "way_to", "way_to", defArgs s_way_to, defBody s_way_to, defScope s_way_to, [], []⟩
def d_room_for : He.DefD := ⟨("room_for", none), "room_for", "room_for", defArgs s_room_for, defBody s_room_for, defScope s_room_for, [], []⟩
def d_least_rest : He.DefD := ⟨("least_rest", none), "least_rest", "least_rest", defArgs s_least_rest, defBody s_least_rest, defScope s_least_rest, [], []⟩
def d_heights_of : He.DefD := ⟨("heights_of", none), "heights_of", "heights_of", defArgs s_heights_of, defBody s_heights_of, defScope s_heights_of, [], []⟩
def d_set_off : He.DefD := ⟨("set_off", none), "set_off", "set_off", defArgs s_set_off, defBody s_set_off, defScope s_set_off, [], []⟩
def d_cell : He.DefD := ⟨("_law_cell", none), "_law_cell", "_law_cell", defArgs s_cell, defBody s_cell, defScope s_cell, [], []⟩
def d_draws : He.DefD := ⟨("_law_draws", none), "_law_draws", "_law_draws", defArgs s_draws, defBody s_draws, defScope s_draws, [], []⟩
def d_take : He.DefD := ⟨("_law_take", none), "_law_take", "_law_take", defArgs s_take, defBody s_take, defScope s_take, [], []⟩
def d_wide : He.DefD := ⟨("_law_wide", none), "_law_wide", "_law_wide", defArgs s_wide, defBody s_wide, defScope s_wide, [], []⟩
def d_coins : He.DefD := ⟨("_law_coins", none), "_law_coins", "_law_coins", defArgs s_coins, defBody s_coins, defScope s_coins, [], []⟩
def d_base : He.DefD := ⟨("_law_base", none), "_law_base", "_law_base", defArgs s_base, defBody s_base, defScope s_base, [], []⟩
def d_parties : He.DefD := ⟨("_law_parties", none), "_law_parties", "_law_parties", defArgs s_parties, defBody s_parties, defScope s_parties, [], []⟩
def d_debts : He.DefD := ⟨("_law_debts", none), "_law_debts", "_law_debts", defArgs s_debts, defBody s_debts, defScope s_debts, [], []⟩
def d_ring : He.DefD := ⟨("_law_ring", none), "_law_ring", "_law_ring", defArgs s_ring, defBody s_ring, defScope s_ring, [], []⟩
def d_turned : He.DefD := ⟨("_law_turned", none), "_law_turned", "_law_turned", defArgs s_turned, defBody s_turned, defScope s_turned, [], []⟩
def d_ring_rest : He.DefD := ⟨("_law_ring_rest", none), "_law_ring_rest", "_law_ring_rest", defArgs s_ring_rest, defBody s_ring_rest, defScope s_ring_rest, [], []⟩
def d_law_net : He.DefD := ⟨("_law_net", none), "_law_net", "_law_net", defArgs s_law_net, defBody s_law_net, defScope s_law_net, [], []⟩
def d_reach : He.DefD := ⟨("_law_reach", none), "_law_reach", "_law_reach", defArgs s_reach, defBody s_reach, defScope s_reach, [], []⟩
def d_is_integer : He.DefD := ⟨("_law_is_integer", none), "_law_is_integer", "_law_is_integer", defArgs s_is_integer, defBody s_is_integer, defScope s_is_integer, [], []⟩
def d_fits : He.DefD := ⟨("_law_fits", none), "_law_fits", "_law_fits", defArgs s_fits, defBody s_fits, defScope s_fits, [], []⟩
def d_law : He.DefD := ⟨("law", none), "law", "law", defArgs s_law, defBody s_law, defScope s_law, [], []⟩
def fn : List He.DefD := [d_is_party, d_is_pair, d_check_debts, d_tidy, d_net, d_steps_left, d_cheapest_ways, d_way_to, d_room_for, d_least_rest, d_heights_of, d_set_off, d_cell, d_draws, d_take, d_wide, d_coins, d_base, d_parties, d_debts, d_ring, d_turned, d_ring_rest, d_law_net, d_reach, d_is_integer, d_fits, d_law]
def fa : List He.Fa := [.glo "is_party", .glo "is_pair", .glo "check_debts", .glo "tidy", .glo "net", .glo "steps_left", .glo "cheapest_ways", .glo "way_to", .glo "room_for", .glo "least_rest", .glo "heights_of", .glo "set_off", .glo "_law_cell", .glo "_law_draws", .glo "_law_take", .glo "_law_wide", .glo "_law_coins", .glo "_law_base", .glo "_law_parties", .glo "_law_debts", .glo "_law_ring", .glo "_law_turned", .glo "_law_ring_rest", .glo "_law_net", .glo "_law_reach", .glo "_law_is_integer", .glo "_law_fits", .glo "law", .free "abs", .free "any", .free "bool", .free "dict", .free "int", .free "isinstance", .free "len", .free "list", .free "max", .free "min", .free "range", .free "reversed", .free "sorted", .free "str", .free "sum", .free "tuple", .free "zip", .int "ALONG" (101), .int "BACK" (-99), .str "PARTIES" "abcdef"]
def loose : List Str := [("HouseError" : Str), ("BadAmount" : Str), ("BadPair" : Str), ("PARTIES" : Str), ("is_party" : Str), ("is_pair" : Str), ("check_debts" : Str), ("tidy" : Str), ("net" : Str), ("ALONG" : Str), ("BACK" : Str), ("steps_left" : Str), ("cheapest_ways" : Str), ("way_to" : Str), ("room_for" : Str), ("least_rest" : Str), ("heights_of" : Str), ("set_off" : Str), ("_law_cell" : Str), ("_law_draws" : Str), ("_law_take" : Str), ("_law_wide" : Str), ("_law_coins" : Str), ("_law_base" : Str), ("_law_parties" : Str), ("_law_debts" : Str), ("_law_ring" : Str), ("_law_turned" : Str), ("_law_ring_rest" : Str), ("_law_net" : Str), ("_law_reach" : Str), ("_law_is_integer" : Str), ("_law_fits" : Str)]
abbrev R : PySem.W.OpenRow := PySem.W.OpenLaw.row PySem.Challenge.rw_signedpacts_k70_set_off_bounds
abbrev hk : PySem.W.Hook := He.hookD 4 fa fn
def ob (s : PySem.W.SharedT) : He.AlD := He.obsDG 4 fa fn (HandSHeadRun.getT s)
theorem ob_eq (s : PySem.W.SharedT) : ob s = hk.obs s.abs := He.obsDG_eq (HandSHeadRun.getT_eq s)
theorem run (w : World) : HandSHeadRun.RunEq R (PySem.W.view R.prog [38]) hk ob 8000 loose w := by
  intro os
  kernel_rfl
theorem facts {P : Program} {w : World} {K : PySem.W.Frag} {h : Heap} {mg : Str → Option Value} {f : Addr} (X : K.In h) (G : h.Ns mainGlobals mg) (hfa : mg ("law" : Str) = some (.ref f)) (c : He.SaysD fa fn K) :
    ∃ fd : FuncData, (∀ (s : Shared) (v : Value), BindsTo s fd ⟨[v], []⟩ [("_law_script", v)]) ∧ ∀ base : Heap, K.In base → base.Ns mainGlobals mg → FnOk P w K mg base CX0 7 f fd ["_law_script"] (spLaw K) := by
  obtain ⟨fd_is_party, F_is_party⟩ := c.def_ 0 (d := d_is_party) rfl
  have F_is_party : FnP K "is_party" s_is_party _ fd_is_party := F_is_party
  have g_is_party := He.glo_ok X G (c.fact 0 (f := .glo "is_party") rfl)
  have b_is_party : Binds K fd_is_party P_is_party [] := F_is_party.bindsN fun _ _ _ _ _ _ us hl => match us, hl with | [_], _ => rfl
  obtain ⟨fd_is_pair, F_is_pair⟩ := c.def_ 1 (d := d_is_pair) rfl
  have F_is_pair : FnP K "is_pair" s_is_pair _ fd_is_pair := F_is_pair
  have g_is_pair := He.glo_ok X G (c.fact 1 (f := .glo "is_pair") rfl)
  have b_is_pair : Binds K fd_is_pair P_is_pair [] := F_is_pair.bindsN fun _ _ _ _ _ _ us hl => match us, hl with | [_], _ => rfl
  obtain ⟨fd_check_debts, F_check_debts⟩ := c.def_ 2 (d := d_check_debts) rfl
  have F_check_debts : FnP K "check_debts" s_check_debts _ fd_check_debts := F_check_debts
  have g_check_debts := He.glo_ok X G (c.fact 2 (f := .glo "check_debts") rfl)
  have b_check_debts : Binds K fd_check_debts P_check_debts [] := F_check_debts.bindsN fun _ _ _ _ _ _ us hl => match us, hl with | [_], _ => rfl
  obtain ⟨fd_tidy, F_tidy⟩ := c.def_ 3 (d := d_tidy) rfl
  have F_tidy : FnP K "tidy" s_tidy _ fd_tidy := F_tidy
  have g_tidy := He.glo_ok X G (c.fact 3 (f := .glo "tidy") rfl)
  have b_tidy : Binds K fd_tidy P_tidy [] := F_tidy.bindsN fun _ _ _ _ _ _ us hl => match us, hl with | [_], _ => rfl
  obtain ⟨fd_net, F_net⟩ := c.def_ 4 (d := d_net) rfl
  have F_net : FnP K "net" s_net _ fd_net := F_net
  have g_net := He.glo_ok X G (c.fact 4 (f := .glo "net") rfl)
  have b_net : Binds K fd_net P_net [] := F_net.bindsN fun _ _ _ _ _ _ us hl => match us, hl with | [_], _ => rfl
  obtain ⟨fd_steps_left, F_steps_left⟩ := c.def_ 5 (d := d_steps_left) rfl
  have F_steps_left : FnP K "steps_left" s_steps_left _ fd_steps_left := F_steps_left
  have g_steps_left := He.glo_ok X G (c.fact 5 (f := .glo "steps_left") rfl)
  have b_steps_left : Binds K fd_steps_left P_steps_left [] := F_steps_left.bindsN fun _ _ _ _ _ _ us hl => match us, hl with | [_, _], _ => rfl
  obtain ⟨fd_cheapest_ways, F_cheapest_ways⟩ := c.def_ 6 (d := d_cheapest_ways) rfl
  have F_cheapest_ways : FnP K "cheapest_ways" s_cheapest_ways _ fd_cheapest_ways := F_cheapest_ways
  have g_cheapest_ways := He.glo_ok X G (c.fact 6 (f := .glo "cheapest_ways") rfl)
  have b_cheapest_ways : Binds K fd_cheapest_ways P_cheapest_ways [] := F_cheapest_ways.bindsN fun _ _ _ _ _ _ us hl => match us, hl with | [_, _], _ => rfl
  obtain ⟨fd_way_to, F_way_to⟩ := c.def_ 7 (d := d_way_to) rfl
  have F_way_to : FnP K "way_to" s_way_to _ fd_way_to := F_way_to
  have g_way_to := He.glo_ok X G (c.fact 7 (f := .glo "way_to") rfl)
  have b_way_to : Binds K fd_way_to P_way_to [] := F_way_to.bindsN fun _ _ _ _ _ _ us hl => match us, hl with | [_, _], _ => rfl
  obtain ⟨fd_room_for, F_room_for⟩ := c.def_ 8 (d := d_room_for) rfl
  have F_room_for : FnP K "room_for" s_room_for _ fd_room_for := F_room_for
  have g_room_for := He.glo_ok X G (c.fact 8 (f := .glo "room_for") rfl)
  have b_room_for : Binds K fd_room_for P_room_for [] := F_room_for.bindsN fun _ _ _ _ _ _ us hl => match us, hl with | [_, _, _], _ => rfl
  obtain ⟨fd_least_rest, F_least_rest⟩ := c.def_ 9 (d := d_least_rest) rfl
  have F_least_rest : FnP K "least_rest" s_least_rest _ fd_least_rest := F_least_rest
  have g_least_rest := He.glo_ok X G (c.fact 9 (f := .glo "least_rest") rfl)
  have b_least_rest : Binds K fd_least_rest P_least_rest [] := F_least_rest.bindsN fun _ _ _ _ _ _ us hl => match us, hl with | [_], _ => rfl
  obtain ⟨fd_heights_of, F_heights_of⟩ := c.def_ 10 (d := d_heights_of) rfl
  have F_heights_of : FnP K "heights_of" s_heights_of _ fd_heights_of := F_heights_of
  have g_heights_of := He.glo_ok X G (c.fact 10 (f := .glo "heights_of") rfl)
  have b_heights_of : Binds K fd_heights_of P_heights_of [] := F_heights_of.bindsN fun _ _ _ _ _ _ us hl => match us, hl with | [_, _], _ => rfl
  obtain ⟨fd_set_off, F_set_off⟩ := c.def_ 11 (d := d_set_off) rfl
  have F_set_off : FnP K "set_off" s_set_off _ fd_set_off := F_set_off
  have g_set_off := He.glo_ok X G (c.fact 11 (f := .glo "set_off") rfl)
  have b_set_off : Binds K fd_set_off P_set_off [] := F_set_off.bindsN fun _ _ _ _ _ _ us hl => match us, hl with | [_], _ => rfl
  obtain ⟨fd_cell, F_cell⟩ := c.def_ 12 (d := d_cell) rfl
  have F_cell : FnP K "_law_cell" s_cell _ fd_cell := F_cell
  have g_cell := He.glo_ok X G (c.fact 12 (f := .glo "_law_cell") rfl)
  have b_cell : Binds K fd_cell P_cell [] := F_cell.bindsN fun _ _ _ _ _ _ us hl => match us, hl with | [_, _], _ => rfl
  obtain ⟨fd_draws, F_draws⟩ := c.def_ 13 (d := d_draws) rfl
  have F_draws : FnP K "_law_draws" s_draws _ fd_draws := F_draws
  have g_draws := He.glo_ok X G (c.fact 13 (f := .glo "_law_draws") rfl)
  have b_draws : Binds K fd_draws P_draws [] := F_draws.bindsN fun _ _ _ _ _ _ us hl => match us, hl with | [_, _], _ => rfl
  obtain ⟨fd_take, F_take⟩ := c.def_ 14 (d := d_take) rfl
  have F_take : FnP K "_law_take" s_take _ fd_take := F_take
  have g_take := He.glo_ok X G (c.fact 14 (f := .glo "_law_take") rfl)
  have b_take : Binds K fd_take P_take [] := F_take.bindsN fun _ _ _ _ _ _ us hl => match us, hl with | [_, _], _ => rfl
  obtain ⟨fd_wide, F_wide⟩ := c.def_ 15 (d := d_wide) rfl
  have F_wide : FnP K "_law_wide" s_wide _ fd_wide := F_wide
  have g_wide := He.glo_ok X G (c.fact 15 (f := .glo "_law_wide") rfl)
  have b_wide : Binds K fd_wide P_wide [] := F_wide.bindsN fun _ _ _ _ _ _ us hl => match us, hl with | [_, _], _ => rfl
  obtain ⟨fd_coins, F_coins⟩ := c.def_ 16 (d := d_coins) rfl
  have F_coins : FnP K "_law_coins" s_coins _ fd_coins := F_coins
  have g_coins := He.glo_ok X G (c.fact 16 (f := .glo "_law_coins") rfl)
  have b_coins : Binds K fd_coins P_coins [] := F_coins.bindsN fun _ _ _ _ _ _ us hl => match us, hl with | [_, _, _, _], _ => rfl
  obtain ⟨fd_base, F_base⟩ := c.def_ 17 (d := d_base) rfl
  have F_base : FnP K "_law_base" s_base _ fd_base := F_base
  have g_base := He.glo_ok X G (c.fact 17 (f := .glo "_law_base") rfl)
  have b_base : Binds K fd_base P_base [] := F_base.bindsN fun _ _ _ _ _ _ us hl => match us, hl with | [_, _], _ => rfl
  obtain ⟨fd_parties, F_parties⟩ := c.def_ 18 (d := d_parties) rfl
  have F_parties : FnP K "_law_parties" s_parties _ fd_parties := F_parties
  have g_parties := He.glo_ok X G (c.fact 18 (f := .glo "_law_parties") rfl)
  have b_parties : Binds K fd_parties P_parties [] := F_parties.bindsN fun _ _ _ _ _ _ us hl => match us, hl with | [_, _], _ => rfl
  obtain ⟨fd_debts, F_debts⟩ := c.def_ 19 (d := d_debts) rfl
  have F_debts : FnP K "_law_debts" s_debts _ fd_debts := F_debts
  have g_debts := He.glo_ok X G (c.fact 19 (f := .glo "_law_debts") rfl)
  have b_debts : Binds K fd_debts P_debts [] := F_debts.bindsN fun _ _ _ _ _ _ us hl => match us, hl with | [_, _, _, _, _], _ => rfl
  obtain ⟨fd_ring, F_ring⟩ := c.def_ 20 (d := d_ring) rfl
  have F_ring : FnP K "_law_ring" s_ring _ fd_ring := F_ring
  have g_ring := He.glo_ok X G (c.fact 20 (f := .glo "_law_ring") rfl)
  have b_ring : Binds K fd_ring P_ring [] := F_ring.bindsN fun _ _ _ _ _ _ us hl => match us, hl with | [_, _, _, _, _], _ => rfl
  obtain ⟨fd_turned, F_turned⟩ := c.def_ 21 (d := d_turned) rfl
  have F_turned : FnP K "_law_turned" s_turned _ fd_turned := F_turned
  have g_turned := He.glo_ok X G (c.fact 21 (f := .glo "_law_turned") rfl)
  have b_turned : Binds K fd_turned P_turned [] := F_turned.bindsN fun _ _ _ _ _ _ us hl => match us, hl with | [_], _ => rfl
  obtain ⟨fd_ring_rest, F_ring_rest⟩ := c.def_ 22 (d := d_ring_rest) rfl
  have F_ring_rest : FnP K "_law_ring_rest" s_ring_rest _ fd_ring_rest := F_ring_rest
  have g_ring_rest := He.glo_ok X G (c.fact 22 (f := .glo "_law_ring_rest") rfl)
  have b_ring_rest : Binds K fd_ring_rest P_ring_rest [] := F_ring_rest.bindsN fun _ _ _ _ _ _ us hl => match us, hl with | [_, _], _ => rfl
  obtain ⟨fd_law_net, F_law_net⟩ := c.def_ 23 (d := d_law_net) rfl
  have F_law_net : FnP K "_law_net" s_law_net _ fd_law_net := F_law_net
  have g_law_net := He.glo_ok X G (c.fact 23 (f := .glo "_law_net") rfl)
  have b_law_net : Binds K fd_law_net P_law_net [] := F_law_net.bindsN fun _ _ _ _ _ _ us hl => match us, hl with | [_], _ => rfl
  obtain ⟨fd_reach, F_reach⟩ := c.def_ 24 (d := d_reach) rfl
  have F_reach : FnP K "_law_reach" s_reach _ fd_reach := F_reach
  have g_reach := He.glo_ok X G (c.fact 24 (f := .glo "_law_reach") rfl)
  have b_reach : Binds K fd_reach P_reach [] := F_reach.bindsN fun _ _ _ _ _ _ us hl => match us, hl with | [_, _], _ => rfl
  obtain ⟨fd_is_integer, F_is_integer⟩ := c.def_ 25 (d := d_is_integer) rfl
  have F_is_integer : FnP K "_law_is_integer" s_is_integer _ fd_is_integer := F_is_integer
  have g_is_integer := He.glo_ok X G (c.fact 25 (f := .glo "_law_is_integer") rfl)
  have b_is_integer : Binds K fd_is_integer P_is_integer [] := F_is_integer.bindsN fun _ _ _ _ _ _ us hl => match us, hl with | [_], _ => rfl
  obtain ⟨fd_fits, F_fits⟩ := c.def_ 26 (d := d_fits) rfl
  have F_fits : FnP K "_law_fits" s_fits _ fd_fits := F_fits
  have g_fits := He.glo_ok X G (c.fact 26 (f := .glo "_law_fits") rfl)
  have b_fits : Binds K fd_fits P_fits [] := F_fits.bindsN fun _ _ _ _ _ _ us hl => match us, hl with | [_, _], _ => rfl
  obtain ⟨fd_law, F_law⟩ := c.def_ 27 (d := d_law) rfl
  have F_law : FnP K "law" s_law _ fd_law := F_law
  have g_law := He.glo_ok X G (c.fact 27 (f := .glo "law") rfl)
  have m_abs := He.free_ok X G (c.fact 28 (f := .free "abs") rfl)
  have m_any := He.free_ok X G (c.fact 29 (f := .free "any") rfl)
  have m_bool := He.free_ok X G (c.fact 30 (f := .free "bool") rfl)
  have m_dict := He.free_ok X G (c.fact 31 (f := .free "dict") rfl)
  have m_int := He.free_ok X G (c.fact 32 (f := .free "int") rfl)
  have m_isinstance := He.free_ok X G (c.fact 33 (f := .free "isinstance") rfl)
  have m_len := He.free_ok X G (c.fact 34 (f := .free "len") rfl)
  have m_list := He.free_ok X G (c.fact 35 (f := .free "list") rfl)
  have m_max := He.free_ok X G (c.fact 36 (f := .free "max") rfl)
  have m_min := He.free_ok X G (c.fact 37 (f := .free "min") rfl)
  have m_range := He.free_ok X G (c.fact 38 (f := .free "range") rfl)
  have m_reversed := He.free_ok X G (c.fact 39 (f := .free "reversed") rfl)
  have m_sorted := He.free_ok X G (c.fact 40 (f := .free "sorted") rfl)
  have m_str := He.free_ok X G (c.fact 41 (f := .free "str") rfl)
  have m_sum := He.free_ok X G (c.fact 42 (f := .free "sum") rfl)
  have m_tuple := He.free_ok X G (c.fact 43 (f := .free "tuple") rfl)
  have m_zip := He.free_ok X G (c.fact 44 (f := .free "zip") rfl)
  have g0_ALONG := He.int_ok X G (c.fact 45 (f := .int "ALONG" (101)) rfl)
  obtain ⟨tok_ALONG, g_ALONG⟩ := g0_ALONG
  have g0_BACK := He.int_ok X G (c.fact 46 (f := .int "BACK" (-99)) rfl)
  obtain ⟨tok_BACK, g_BACK⟩ := g0_BACK
  have g0_PARTIES := He.str_ok X G (c.fact 47 (f := .str "PARTIES" "abcdef") rfl)
  obtain ⟨tok_PARTIES, g_PARTIES⟩ := g0_PARTIES
  have e := hfa.symm.trans g_law
  cases e
  have b := FunD.bindsA (ps := ["_law_script"]) F_law fun _ _ _ _ _ _ us hl => match us, hl with | [_], _ => rfl
  refine ⟨fd_law, fun s v => b s [v] rfl, fun base _ _ => ?_⟩
  have c_cell : Cal P w K mg base 1 "_law_cell" (spCell K) := cal_of F_cell g_cell b_cell (ok_cell F_cell m_len m_int)
  have c_draws : Cal P w K mg base 1 "_law_draws" spDraws := cal_of F_draws g_draws b_draws (ok_draws F_draws m_int m_abs m_range)
  have c_take : Cal P w K mg base 1 "_law_take" (spTake K) := cal_of F_take g_take b_take (ok_take F_take m_len)
  have c_is_party : Cal P w K mg base 1 "is_party" spParty := cal_of F_is_party g_is_party b_is_party (ok_is_party F_is_party m_len tok_PARTIES g_PARTIES)
  have c_is_pair : Cal P w K mg base 2 "is_pair" spPair := cal_of F_is_pair g_is_pair b_is_pair (ok_is_pair F_is_pair m_len c_is_party)
  have c_check_debts : Cal P w K mg base 3 "check_debts" spCheck := cal_of F_check_debts g_check_debts b_check_debts (ok_check_debts F_check_debts m_list c_is_pair)
  have c_tidy : Cal P w K mg base 1 "tidy" spTidy := cal_of F_tidy g_tidy b_tidy (ok_tidy F_tidy m_list m_sorted)
  have c_net : Cal P w K mg base 4 "net" spNet := cal_of F_net g_net b_net (ok_net F_net m_tuple tok_PARTIES g_PARTIES c_check_debts)
  have c_wide : Cal P w K mg base 2 "_law_wide" (spWide K) := cal_of F_wide g_wide b_wide (ok_wide F_wide m_range c_take)
  have c_coins : Cal P w K mg base 3 "_law_coins" (spCoins K) := cal_of F_coins g_coins b_coins (ok_coins F_coins m_int c_take c_wide)
  have c_parties : Cal P w K mg base 2 "_law_parties" (spParties K) := cal_of F_parties g_parties b_parties (ok_parties F_parties m_int m_len m_range c_take)
  have c_steps_left : Cal P w K mg base 1 "steps_left" spSteps := cal_of F_steps_left g_steps_left b_steps_left (ok_steps_left F_steps_left tok_ALONG tok_BACK g_ALONG g_BACK)
  have c_cheapest_ways : Cal P w K mg base 1 "cheapest_ways" spCheap := cal_of F_cheapest_ways g_cheapest_ways b_cheapest_ways (ok_cheapest_ways F_cheapest_ways tok_PARTIES g_PARTIES)
  have c_way_to : Cal P w K mg base 1 "way_to" spWay := cal_of F_way_to g_way_to b_way_to (ok_way_to F_way_to)
  have c_room_for : Cal P w K mg base 1 "room_for" spRoom := cal_of F_room_for g_room_for b_room_for (ok_room_for F_room_for tok_ALONG g_ALONG)
  have c_least_rest : Cal P w K mg base 5 "least_rest" spLeast := cal_of F_least_rest g_least_rest b_least_rest (ok_least_rest F_least_rest m_zip m_any m_min tok_PARTIES tok_ALONG g_PARTIES g_ALONG c_net c_steps_left c_cheapest_ways c_way_to c_room_for)
  have c_heights_of : Cal P w K mg base 1 "heights_of" spHeights := cal_of F_heights_of g_heights_of b_heights_of (ok_heights_of F_heights_of m_max m_tuple tok_PARTIES g_PARTIES)
  have c_set_off : Cal P w K mg base 6 "set_off" spSetOff := cal_of F_set_off g_set_off b_set_off (ok_set_off F_set_off c_check_debts c_tidy c_least_rest c_heights_of)
  have c_base : Cal P w K mg base 3 "_law_base" (spBase K) := cal_of F_base g_base b_base (ok_base F_base m_int c_take c_wide)
  have c_debts : Cal P w K mg base 4 "_law_debts" (spDebts K) := cal_of F_debts g_debts b_debts (ok_debts F_debts m_int m_len m_range c_take c_coins)
  have c_law_net : Cal P w K mg base 1 "_law_net" spLNet := cal_of F_law_net g_law_net b_law_net (ok_law_net F_law_net m_sum)
  have c_is_integer : Cal P w K mg base 1 "_law_is_integer" spInt := cal_of F_is_integer g_is_integer b_is_integer (ok_is_integer F_is_integer m_isinstance m_int m_bool)
  have c_reach : Cal P w K mg base 1 "_law_reach" spReach := cal_of F_reach g_reach b_reach (ok_reach F_reach m_range)
  have c_turned : Cal P w K mg base 1 "_law_turned" spTurned := cal_of F_turned g_turned b_turned (ok_turned F_turned m_list m_reversed)
  have c_fits : Cal P w K mg base 2 "_law_fits" spFits := cal_of F_fits g_fits b_fits (ok_fits F_fits m_isinstance m_tuple m_dict m_str m_list m_len m_range c_is_integer c_law_net c_reach)
  have c_ring : Cal P w K mg base 4 "_law_ring" (spRing K) := cal_of F_ring g_ring b_ring (ok_ring F_ring m_int m_len m_range c_take c_coins)
  have c_ring_rest : Cal P w K mg base 1 "_law_ring_rest" spRingRest := cal_of F_ring_rest g_ring_rest b_ring_rest (ok_ring_rest F_ring_rest m_int m_len m_range m_min)
  exact ok_law F_law m_int m_dict m_list c_cell c_draws c_take c_parties c_base c_debts c_ring c_turned c_ring_rest c_set_off c_fits
end Z
open PySem PySem.W PySem.Calls PyProof.Rows
theorem PySem.Challenge.cw_signedpacts_k70_set_off_bounds_holds : PySem.Challenge.rw_signedpacts_k70_set_off_bounds.Holds := by
  w_on; o_law
  refine HandSHeadRun.head_any (r := OpenLaw.row PySem.Challenge.rw_signedpacts_k70_set_off_bounds) (q := view (OpenLaw.row PySem.Challenge.rw_signedpacts_k70_set_off_bounds).prog [38]) (H := Z.hk) (ob := Z.ob) (M := 8000) (loose := Z.loose) (d := HandSHeadRun.topDef (OpenLaw.row PySem.Challenge.rw_signedpacts_k70_set_off_bounds).prog 38) (kwd := []) Z.ob_eq
    (by kernel_rfl) (fun s => by kernel_rfl) Z.run (by kernel_rfl) (by kernel_rfl) (by kernel_rfl) (by rfl) (by first | assumption | decide +kernel) (by decide +kernel) ⟨rfl, rfl, rfl, rfl, rfl, by decide +kernel⟩ ?hw ?hc
  case hw => w_witness2
  case hc =>
    refine L2.walk_ofE (l := PySem.Challenge.rw_signedpacts_k70_set_off_bounds) (n := 63) (k := 7) (x := "_law_script") (CX := L2.CX0) rfl (by decide) (by kernel_rfl) ⟨rfl, by decide, by decide⟩ ?F (fun _ _ _ _ z => z)
    intro w mg fa h Y G hmg0
    obtain ⟨K, KX, c⟩ := Y
    have hmg : mg ("law" : PySem.Str) = some (.ref fa) := by
      have e : (HandSHeadRun.topDef (OpenLaw.row PySem.Challenge.rw_signedpacts_k70_set_off_bounds).prog 38).name = ("law" : PySem.Str) := by kernel_rfl
      rw [← e]
      exact hmg0
    obtain ⟨fd, hb, hF⟩ := Z.facts (P := (PySem.Challenge.rw_signedpacts_k70_set_off_bounds).prog) (w := w) KX G hmg c
    exact ⟨K, fd, Z.spLaw K, KX, hb, fun H a ns hl _ hS => ⟨a, ns, rfl, hS, hl, fun _ => rfl⟩, hF⟩
