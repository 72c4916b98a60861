import PyProof.Rows.All
import Wide.All
import OpenK.AllK
import Wide.FinOn
import HandS.ForMost
import HandS.Zip
import HandS.TupMul
import HandS.Codes
import KE.GoesMore
import KE.GoesEnum
import HandS.Defaults
import HandS.IsInst
import HandS.Wide
import HandS.WideBits
import HandS.NoneIn
import HandS.OwnEq
import HandS.Star
import HandS.SetTxtIn
import HandS.SortKw
import KE.SortKeyHeap
import HandS.Conv
import HandS.Small
import HandS.SortInts
import HandS.Head0
import HandS.Head1
import HandS.Head2
import HandS.HeadEnd
import HandS.HeadHook1
import HandS.HeadHook2
import PySem.Challenge.RW_signedpacts_k20_need_excess_surely
set_option Elab.async false
set_option linter.all false
set_option maxRecDepth 100000
set_option maxHeartbeats 4000000
namespace Z
open PySem PySem.Spec PyProof.Rows L2
/-! ### zip over two sequences, each a list (true) or a tuple (false) -/
def SqK (b : Bool) (K : PySem.W.Frag) (H : Hp) (a : Addr) (xs : List V) : Prop := match b with
  | true => SqL K H a xs
  | false => SqT K H a xs
def ItK (b : Bool) (h : Heap) (it l : Addr) (i : Nat) : Prop := match b with
  | true => h.IsListIter it l i
  | false => h.IsTupleIter it l i
def IsK (b : Bool) (h : Heap) (l : Addr) (xs : Array Value) : Prop := match b with
  | true => h.IsList l xs
  | false => h.IsTuple l xs
theorem ItK.at' {b : Bool} {h h' : Heap} {it l : Addr} {i : Nat} (x : ItK b h it l i) (k : ∀ o, h.get? it = some o → h'.get? it = some o) : ItK b h' it l i := by
  cases b
  · exact Heap.IsTupleIter.at x k
  · exact Heap.IsListIter.at x k
theorem ItK.obj {b : Bool} {h : Heap} {it l : Addr} {i : Nat} (x : ItK b h it l i) : ∃ o, h.get? it = some o ∧ ∀ v, o.data ≠ .cell v := by
  cases b
  · obtain ⟨o, e, _, d⟩ := (show h.IsTupleIter it l i from x)
    exact ⟨o, e, fun v q => by rw [d] at q; cases q⟩
  · obtain ⟨o, e, _, d⟩ := (show h.IsListIter it l i from x)
    exact ⟨o, e, fun v q => by rw [d] at q; cases q⟩
theorem sqk_is {X : Cx} {pins : List (Addr × Obj)} {σ : L2.St} {H : Hp} {s : Shared} {b : Bool} {a : Addr} {xs : List V} (I : Inv X pins σ H s) (h : SqK b X.K H a xs) :
    ∃ its : List Value, Vals xs its ∧ IsK b s.heap a its.toArray ∧ a < s.heap.objs.size := by
  cases b
  · obtain ⟨its, r, p, _⟩ := I.tuple h
    obtain ⟨o, ho, _⟩ := id p
    exact ⟨its, r, p, Heap.lt_size ho⟩
  · obtain ⟨its, r, p, _⟩ := I.list h
    exact ⟨its, r, p.isList, p.lt⟩
theorem sqk_inj {X : Cx} {pins : List (Addr × Obj)} {σ : L2.St} {H : Hp} {s : Shared} {b : Bool} {a : Addr} {xs ys : List V} (I : Inv X pins σ H s) (h : SqK b X.K H a xs) (h' : SqK b X.K H a ys) : xs = ys := by
  cases b
  · exact I.tuple_inj h h'
  · exact I.list_inj h h'
theorem drawsK {prog : Program} {w : World} {A : Around} (b : Bool) (hh : A.handled = none) (it l : Addr) (hne : l ≠ it) (items : Array Value) :
    Draws prog w A it [it, l] items.size (fun i v => items[i]? = some v) (fun i h => ItK b h it l i ∧ IsK b h l items) := by
  cases b
  · exact Draws.tuple hh it l hne items
  · exact Draws.list hh it l hne items
def ItzM (p q : Bool) (K : PySem.W.Frag) (a b : Addr) : It :=
  ⟨fun i H => ∃ (xs ys : List V) (x y : V), SqK p K H a xs ∧ SqK q K H b ys ∧ xs[i]? = some x ∧ ys[i]? = some y,
   fun i H v H' => ∃ T x y, v = .ref T ∧ H T = none ∧ H' = upd H T (.tup [x, y]) ∧ (∀ xs, SqK p K H a xs → xs[i]? = some x) ∧ (∀ ys, SqK q K H b ys → ys[i]? = some y),
   fun i H => ∃ xs ys : List V, SqK p K H a xs ∧ SqK q K H b ys ∧ (xs.length ≤ i ∨ ys.length ≤ i) ∧ i ≤ xs.length ∧ i ≤ ys.length⟩
theorem zsep {z TI TO i1 i2 a b : Addr} (D : ZipApart z TI TO i1 i2 a b) : ZipSep2 z TI TO i1 i2 [i1, a] [i2, b] where
  TIz := D.TIz
  TOz := D.TOz
  TITO := D.TITO
  TIi1 := D.TIi1
  mem1 := List.mem_cons_self
  zf1 := fun h => by rcases List.mem_cons.mp h with e | h; exact D.i1z e.symm; exact D.l1z (List.mem_singleton.mp h).symm
  Tf1 := fun h => by rcases List.mem_cons.mp h with e | h; exact D.TOi1 e; exact D.l1TO (List.mem_singleton.mp h).symm
  TIi2 := D.TIi2
  mem2 := List.mem_cons_self
  zf2 := fun h => by rcases List.mem_cons.mp h with e | h; exact D.i2z e.symm; exact D.l2z (List.mem_singleton.mp h).symm
  Tf2 := fun h => by rcases List.mem_cons.mp h with e | h; exact D.TOi2 e; exact D.l2TO (List.mem_singleton.mp h).symm
  sep1_2 := fun h => by rcases List.mem_cons.mp h with e | h; exact D.i12 e; exact D.l2i1 (List.mem_singleton.mp h).symm
  sep2_1 := fun h => by rcases List.mem_cons.mp h with e | h; exact D.i12 e.symm; exact D.l1i2 (List.mem_singleton.mp h).symm
theorem five {c z TI TO i1 i2 : Addr} {Pr : Addr → Prop} (hc : c ∈ [z, TI, TO, i1, i2]) (a : Pr z) (b : Pr TI) (d : Pr TO) (e : Pr i1) (f : Pr i2) : Pr c := by
  have q : c = z ∨ c = TI ∨ c = TO ∨ c = i1 ∨ c = i2 := by simpa using hc
  rcases q with rfl | rfl | rfl | rfl | rfl <;> assumption
theorem turn_zipM {p q : Bool} {P : Program} {w : World} {K : PySem.W.Frag} {elts : List Expr} {kk : Nat} {tpos : Pos} {a b z TI TO i1 i2 : Addr} (D : ZipApart z TI TO i1 i2 a b) :
    Turn P w K (.Tuple elts kk tpos) (ItzM p q K a b) [z, TI, TO, i1, i2] z (fun i h => IsZip h z TI TO .none ∧ IsTupOf2 h TI (.ref i1) (.ref i2) ∧ (∃ x y, IsTupOf2 h TO x y) ∧ ItK p h i1 a i ∧ ItK q h i2 b i) where
  mem := by simp
  obj := fun i h st c hc => by
    obtain ⟨hz, hI, ⟨x, y, hO⟩, h1, h2⟩ := st
    exact five (Pr := fun c => ∃ o, h.get? c = some o ∧ ∀ v, o.data ≠ .cell v) hc ⟨_, hz, fun v q => nomatch q⟩ ⟨_, hI, fun v q => nomatch q⟩ ⟨_, hO, fun v q => nomatch q⟩ h1.obj h2.obj
  keep := fun i h h' st k => by
    obtain ⟨hz, hI, ⟨x, y, hO⟩, h1, h2⟩ := st
    exact ⟨k z (by simp) _ hz, k TI (by simp) _ hI, ⟨x, y, k TO (by simp) _ hO⟩, h1.at' (fun o e => k i1 (by simp) o e), h2.at' (fun o e => k i2 (by simp) o e)⟩
  item := by
    intro X hP hw hK hc i pins s σ H E I hf st hg
    subst hP hw hK
    obtain ⟨hz, hI, ⟨x0, y0, hO⟩, h1, h2⟩ := st
    obtain ⟨xs, ys, x, y, qx, qy, ex, ey⟩ := hg
    obtain ⟨us, rx, kx, _⟩ := sqk_is I qx
    obtain ⟨vs, ry, ky, _⟩ := sqk_is I qy
    obtain ⟨u, eu, ru⟩ := rx.get ex
    obtain ⟨v, ev, rv⟩ := ry.get ey
    have hzl : z < s.heap.objs.size := Heap.lt_size hz
    have lu : i < us.toArray.size := by simpa using (List.getElem?_eq_some_iff.mp eu).1
    have lv : i < vs.toArray.size := by simpa using (List.getElem?_eq_some_iff.mp ev).1
    have hh : X.A.in1.handled = none := I.ok.hd hc
    refine wpAny_pyNext_zipD2_item (zsep D) (drawsK p hh i1 a D.l1i1 us.toArray) (drawsK q hh i2 b D.l2i2 vs.toArray) hz hI hO ⟨h1, kx⟩ ⟨h2, ky⟩ lu lv fun m1 m2 g tk p1 p2 gz gO g1 g2 gT gs gk => ?_
    have e1 : m1 = u := by
      have t1 : us.toArray[i]? = some u := by simpa using eu
      exact Option.some.inj (p1.symm.trans t1)
    have e2 : m2 = v := by
      have t1 : vs.toArray[i]? = some v := by simpa using ev
      exact Option.some.inj (p2.symm.trans t1)
    subst e1 e2
    refine ⟨_, rfl, wpAny_letOwnedTupleGo_zip (s := { s with heap := g, toks := tk }) gz fun g' gz' sb => ?_⟩
    have gT' : g'.get? s.heap.objs.size = some { cls := .type "tuple", data := .seq #[m1, m2] } := (sb.2 _ (Nat.ne_of_gt hzl)).trans gT
    have nw : ObjOk X.prog X.w (upd H s.heap.objs.size (.tup [x, y])) g' s.heap.objs.size (.tup [x, y]) := ⟨by show 2 ≤ sizeLine; decide, [m1, m2], .cons ru (.cons rv .nil), ⟨_, gT', rfl, _, rfl⟩⟩
    have I1 : Inv X pins σ (upd H s.heap.objs.size (.tup [x, y])) { s with heap := g', toks := tk } :=
      I.turnedNew (t' := tk) (ch := [z, TI, TO, i1, i2]) (fun c o nb e => (sb.2 c (fun w => nb (by simp [w]))).trans (gk c o (fun w => nb (by simp [w])) (fun w => nb (by simp [w])) (fun w => nb (by simp [w])) (fun w => nb (by simp [w])) e)) hf (Nat.le_refl _) nw
    refine ⟨.ref s.heap.objs.size, _, I1, rfl, ⟨_, x, y, rfl, I.hok.fresh (Nat.le_refl _), rfl, fun l hl => by rw [sqk_inj I hl qx]; exact ex, fun l hl => by rw [sqk_inj I hl qy]; exact ey⟩, ⟨gz', ?_, ⟨m1, m2, ?_⟩, ?_, ?_⟩, fun c hcm => ?_⟩
    · exact (sb.2 _ D.TIz).trans (gk _ _ D.TIz D.TITO D.TIi1 D.TIi2 hI)
    · exact (sb.2 _ D.TOz).trans gO
    · exact ItK.at' g1.1 (fun o e => (sb.2 _ D.i1z).trans e)
    · exact ItK.at' g2.1 (fun o e => (sb.2 _ D.i2z).trans e)
    · have lt : c < s.heap.objs.size := by
        obtain ⟨o1, q1, _⟩ := h1.obj
        obtain ⟨o2, q2, _⟩ := h2.obj
        exact five (Pr := fun c => c < s.heap.objs.size) hcm hzl (Heap.lt_size hI) (Heap.lt_size hO) (Heap.lt_size q1) (Heap.lt_size q2)
      rw [upd_ne (Nat.ne_of_lt lt)]
      exact (hf c hcm).1
  done := by
    intro X hP hw hK hc i pins s σ H E I hf st hg
    subst hP hw hK
    obtain ⟨hz, hI, ⟨x0, y0, hO⟩, h1, h2⟩ := st
    obtain ⟨xs, ys, qx, qy, hend, le1, le2⟩ := hg
    obtain ⟨us, rx, kx, _⟩ := sqk_is I qx
    obtain ⟨vs, ry, ky, _⟩ := sqk_is I qy
    have l1 := rx.length
    have l2 := ry.length
    have n1 : us.toArray.size = us.length := by simp
    have n2 : vs.toArray.size = vs.length := by simp
    have hh : X.A.in1.handled = none := I.ok.hd hc
    refine wpAny_pyNext_zipD2_end (i := i) (zsep D) (drawsK p hh i1 a D.l1i1 us.toArray) (drawsK q hh i2 b D.l2i2 vs.toArray) hz hI hO ⟨h1, kx⟩ ⟨h2, ky⟩ (by omega) (by omega) (by omega) fun g tk gk => ?_
    exact ⟨rfl, I.turnedL (t' := tk) (ch := [z, TI, TO, i1, i2]) (fun c o nb e => gk c o (fun w => nb (by simp [w])) (fun w => nb (by simp [w])) (fun w => nb (by simp [w])) (fun w => nb (by simp [w])) e) hf⟩
  self := fun A i s Q E st h => wpAny_pyIter_zip st.1 h
def iZipM (K : PySem.W.Frag) (ta : TA) : TI := fun σ H R => ta σ H fun vs H1 => ∃ p q a b xs ys, vs = [.ref a, .ref b] ∧ SqK p K H1 a xs ∧ SqK q K H1 b ys ∧ R (ItzM p q K a b) H1
theorem begK {p : Bool} {h : Heap} {a : Addr} {xs : Array Value} (k : IsK p h a xs) : ∃ o Hp', Begins (.ref a) o Hp' ∧ Hp' h ∧ ∀ h' it, h'.get? it = some o → ItK p h' it a 0 := by
  cases p
  · exact ⟨_, _, begins_tuple a xs, k, fun h' it e => ⟨_, e, rfl, rfl⟩⟩
  · exact ⟨_, _, begins_list a xs, k, fun h' it e => ⟨_, e, rfl, rfl⟩⟩
theorem pi_zipM {X : Cx} {e e2 : Expr} {ta : TA} {p pos tpos : Pos} {elts : List Expr} {kk : Nat} (hg : Gl X "zip") (hm : X.mg "zip" = none) (ha : PA X [e, e2] ta)
    (hs : starEach [e, e2] X.env = (false, eval e X.env) :: starEach [e2] X.env := by rfl) (hpl : (backTo pos (starEach [e2] X.env)).any (·.1) = false := by rfl) :
    PI X (.Tuple elts kk tpos) (.Call (.Name "zip" p) [e, e2] [] pos) (iZipM X.K ta) := by
  constructor
  intro pins s σ H R I h
  refine Call_ (ld_blt I hg hm PyProof.Rows.boot_zip (PyProof.Rows.callWith_type1 (thn (ha.run pos pins s σ H _ I h) fun us s1 ⟨vs, H1, I1, r1, q1⟩ => ?_) hs hpl))
  obtain ⟨k1, k2, a, b, xs, ys, ex, qx, qy, q⟩ := q1
  subst ex
  obtain ⟨u, v, rfl, ru, rv⟩ := Vals.two r1
  cases ru
  cases rv
  obtain ⟨i1, _, p1, lt1⟩ := sqk_is I1 qx
  obtain ⟨i2, _, p2, lt2⟩ := sqk_is I1 qy
  obtain ⟨o1, G1, B1, g1, w1⟩ := begK p1
  obtain ⟨o2, G2, B2, g2, w2⟩ := begK p2
  refine zip_begins2 B1 B2 g1 g2 fun h' hz hI hO e1 e2 hsz hk => wpAny_pyIter_zip hz ?_
  have I2 : Inv X pins σ H1 { s1 with heap := h' } := I1.kept (t' := s1.toks) hk
  refine ⟨s1.heap.objs.size + 4, [s1.heap.objs.size + 4, s1.heap.objs.size + 2, s1.heap.objs.size + 3, s1.heap.objs.size, s1.heap.objs.size + 1], _, _, H1, rfl, I2, turn_zipM (PySem.W.ktu_apart s1.heap.objs.size a b lt1 lt2), ⟨hz, hI, ⟨_, _, hO⟩, w1 _ _ e1, w2 _ _ e2⟩, fun c hcm => ?_, q⟩
  have hle : s1.heap.objs.size ≤ c := five (Pr := fun c => s1.heap.objs.size ≤ c) hcm (Nat.le_add_right _ _) (Nat.le_add_right _ _) (Nat.le_add_right _ _) (Nat.le_refl _) (Nat.le_add_right _ _)
  exact I1.fpOk hle (I1.hok.fresh hle)
end Z
set_option Elab.async false
set_option linter.all false
set_option maxRecDepth 100000
set_option maxHeartbeats 4000000
namespace Z
open PySem PySem.Spec PyProof.Rows L2
/-! ### (v,) * k for 0 ≤ k -/
theorem tmul0 (l : Addr) (v : Value) (n : Nat) (dd : Option Addr) (sl : Array (Option Value)) (u : Tok) :
    Meets (Builtin.«tuple.__mul__» ⟨[.ref l, .int 0 u], []⟩) (fun _ R s => s.heap.get? l = some { cls := .type "tuple", dict := dd, data := .seq #[v] n, slots := sl } ∧
      R (.ok (.ret (Value.ref s.heap.objs.size))) { s with heap := s.heap.push { cls := Value.type "tuple", data := Data.seq #[] }, toks := s.toks }) :=
  .of_wp fun prog w A R s h => by
    obtain ⟨hp, g, d, tk, os⟩ := s
    obtain ⟨hl, h⟩ := h
    have f1 := AutoSeq1.idx_int
    wp_walk using AutoSeq1.wpAny_loadPart' hl
    exact ⟨_, rfl, h⟩
theorem tmul1 (l : Addr) (items : Array Value) (n : Nat) (dd : Option Addr) (sl : Array (Option Value)) (u : Tok) :
    Meets (Builtin.«tuple.__mul__» ⟨[.ref l, .int 1 u], []⟩) (fun _ R s => s.heap.get? l = some { cls := .type "tuple", dict := dd, data := .seq items n, slots := sl } ∧ R (.ok (.ret (Value.ref l))) s) :=
  .of_wp fun prog w A R s h => by
    obtain ⟨hp, g, d, tk, os⟩ := s
    obtain ⟨hl, h⟩ := h
    have f1 := AutoSeq1.idx_int
    wp_walk using AutoSeq1.wpAny_loadPart' hl
    exact ⟨_, rfl, h⟩
theorem same_new {H : Hp} {p : Addr} {o : HO} (h : H p = none) : Same H (upd H p o) := fun b x e => by
  rw [upd_ne (ne_of_none e h)]
  exact e
def rRepU : R2 := fun x y H Q => ∃ l k v, x = .ref l ∧ y = .int k ∧ H l = some (.tup [v]) ∧ 0 ≤ k ∧ k ≤ 1000 ∧ ∀ p H', Same H H' → H' p = some (.tup (List.replicate k.toNat v)) → Q (.ref p) H'
theorem op_repU {X : Cx} : OpR X (binaryOp .Mult) rRepU := by
  intro pins s σ H x y vv uu Q I rx ry h
  obtain ⟨l, k, v, rfl, rfl, hT, h0, h1, q⟩ := id h
  by_cases k2 : 2 ≤ k
  · refine op_repT pins s σ H _ _ vv uu Q I rx ry ⟨l, k, [v], rfl, rfl, .inl (.inl hT), by simp, k2, h1, by simp, fun p np => q p _ (same_new np) ?_⟩
    rw [upd_same]
    congr 2
    generalize k.toNat = m
    induction m with
    | zero => rfl
    | succ m ih => rw [List.replicate_succ, List.flatten_cons, ih, List.replicate_succ]; rfl
  · cases rx
    obtain ⟨t, rfl⟩ := ry
    obtain ⟨its, r, ⟨⟨cls, dd, data, sl⟩, ho, hc, n, hd⟩, hs⟩ := I.tuple (.inl (.inl hT) : SqT X.K H l [v])
    simp only at hc hd
    subst hc hd
    obtain ⟨u, rfl, ru⟩ := Vals.one r
    by_cases k1 : k = 1
    · subst k1
      refine wpAny_binaryOp_repeat_ref (T := "tuple") (U := "int") (by decide) ⟨_, ho, rfl⟩ (fun s' => typeIs_int s' 1 t) noFill_tuple_mul F.fills_int_mul F.slot_int_rmul repeat_tuple F.slot_int_index.lookup
        (call_meets F.slot_int_rmul (typeIs_int s 1 t) F.entry_int_rmul (F.args_int_rmul_2 _ _) (int_rmul_tuple 1 t l [u].toArray n dd sl)
          ⟨ho, rfl, ⟨_, ho, rfl⟩, call_meets F.slot_tuple_mul ⟨_, ho, rfl⟩ F.entry_tuple_mul (F.args_tuple_mul_2 _ _) (tmul1 l [u].toArray n dd sl t) ⟨ho, ?_⟩⟩)
      exact ⟨.ref l, H, I, rfl, q l H (Same.refl H) hT⟩
    · have k0 : k = 0 := by omega
      subst k0
      refine wpAny_binaryOp_repeat_ref (T := "tuple") (U := "int") (by decide) ⟨_, ho, rfl⟩ (fun s' => typeIs_int s' 0 t) noFill_tuple_mul F.fills_int_mul F.slot_int_rmul repeat_tuple F.slot_int_index.lookup
        (call_meets F.slot_int_rmul (typeIs_int s 0 t) F.entry_int_rmul (F.args_int_rmul_2 _ _) (int_rmul_tuple 0 t l [u].toArray n dd sl)
          ⟨ho, rfl, ⟨_, ho, rfl⟩, call_meets F.slot_tuple_mul ⟨_, ho, rfl⟩ F.entry_tuple_mul (F.args_tuple_mul_2 _ _) (tmul0 l u n dd sl t) ⟨ho, ?_⟩⟩)
      refine ⟨.ref s.heap.objs.size, _, I.laid (t' := s.toks) (o := .tup []) (fun b ob z => Heap.get?_push_of_some _ z) (Nat.le_refl _) ?_, rfl, q _ _ (same_new (I.hok.fresh (Nat.le_refl _))) upd_same⟩
      exact ⟨Nat.zero_le _, [], .nil, IsTup.new _ _⟩
/-! ### loops and comprehensions over any iterator -/
def forW (J : It) (g : TG) (tb : TS) (D : Ends) (σ : L2.St) (H : Hp) : Prop := ∃ W : Nat → Nat → L2.St → Hp → Prop, (∃ m, W 0 m σ H) ∧ ∀ i m σ H, W i m σ H →
  (J.stop i H ∧ D.nx σ H) ∨ (J.go i H ∧ ∃ N : L2.St → Hp → Prop, (∀ σ' H', N σ' H' → ∃ m', m' < m ∧ W (i + 1) m' σ' H') ∧ ∀ x H', J.yld i H x H' → g x σ H' fun σ2 H2 => tb { D with nx := N, ct := N, bk := D.nx } σ2 H2)
theorem for_gen {J : It} {n : Nat} {g : TG} {tb : TS} {D : Ends} {σ : L2.St} {H : Hp} (Pv : Nat → L2.St → Hp → Prop) (h0 : Pv 0 σ H) (hgo : ∀ i σ H, i < n → Pv i σ H → J.go i H) (hst : ∀ σ H, Pv n σ H → J.stop n H)
    (hs : ∀ i σ H x H', i < n → Pv i σ H → J.yld i H x H' → g x σ H' fun σ2 H2 => tb { D with nx := Pv (i + 1), ct := Pv (i + 1), bk := D.nx } σ2 H2) (hd : ∀ σ H, Pv n σ H → D.nx σ H) : forW J g tb D σ H := by
  refine ⟨fun i m σ H => m = n - i ∧ i ≤ n ∧ Pv i σ H, ⟨n, by omega, Nat.zero_le _, h0⟩, fun i m σ H w => ?_⟩
  obtain ⟨rfl, hi, p⟩ := w
  by_cases hlt : i < n
  · exact .inr ⟨hgo i σ H hlt p, Pv (i + 1), fun σ' H' z => ⟨n - (i + 1), by omega, rfl, hlt, z⟩, fun x H' y => hs i σ H x H' hlt p y⟩
  · have e : i = n := by omega
    subst e
    exact .inl ⟨hst σ H p, hd σ H p⟩
def lcW (J : It) (g : TG) (tt : TT) (te : TE) (vs : List Nat) (σ : L2.St) (D : Addr) (Qd : Hp → Prop) (H1 : Hp) : Prop := ∃ W : Nat → Nat → Hp → Prop, (∃ m, W 0 m (upd H1 D (.lst []))) ∧ ∀ i m H, W i m H →
  (J.stop i H ∧ Qd H) ∨ (J.go i H ∧ ∃ Nx : Hp → Prop, (∀ H', Nx H' → ∃ m', m' < m ∧ W (i + 1) m' H') ∧ ∀ x H', J.yld i H x H' → g x (wipe σ vs) H' fun σ2 H2 => wipe σ2 vs = wipe σ vs ∧ tt σ2 H2 fun b H3 =>
    if b = true then te σ2 H3 fun y H4 => ∃ acc, H4 D = some (.lst acc) ∧ acc.length < sizeLine ∧ Nx (upd H4 D (.lst (acc ++ [y]))) else Nx H3)
theorem lc_gen {J : It} {n : Nat} {g : TG} {tt : TT} {te : TE} {vs : List Nat} {σ : L2.St} {H1 : Hp} {D : Addr} {Qd : Hp → Prop} (Pv : Nat → Hp → Prop) (h0 : Pv 0 (upd H1 D (.lst []))) (hgo : ∀ i H, i < n → Pv i H → J.go i H) (hst : ∀ H, Pv n H → J.stop n H)
    (hs : ∀ i H x H', i < n → Pv i H → J.yld i H x H' → g x (wipe σ vs) H' fun σ2 H2 => wipe σ2 vs = wipe σ vs ∧ tt σ2 H2 fun b H3 =>
      if b = true then te σ2 H3 fun y H4 => ∃ acc, H4 D = some (.lst acc) ∧ acc.length < sizeLine ∧ Pv (i + 1) (upd H4 D (.lst (acc ++ [y]))) else Pv (i + 1) H3) (hd : ∀ H, Pv n H → Qd H) : lcW J g tt te vs σ D Qd H1 := by
  refine ⟨fun i m H => m = n - i ∧ i ≤ n ∧ Pv i H, ⟨n, by omega, Nat.zero_le _, h0⟩, fun i m H w => ?_⟩
  obtain ⟨rfl, hi, p⟩ := w
  by_cases hlt : i < n
  · exact .inr ⟨hgo i H hlt p, Pv (i + 1), fun H' z => ⟨n - (i + 1), by omega, rfl, hlt, z⟩, fun x H' y => hs i H x H' hlt p y⟩
  · have e : i = n := by omega
    subst e
    exact .inl ⟨hst H p, hd H p⟩
/-! ### a def of the module that may be called by its name -/
structure Cal (P : Program) (w : World) (K : PySem.W.Frag) (mg : Str → Option Value) (base : Heap) (k : Nat) (x : Str) (sp : Sp) : Prop where
  ex : ∃ (f : Addr) (fd : FuncData) (ps : List Str), FnOk P w K mg base CX0 k f fd ps sp ∧ mg x = some (.ref f) ∧ PySem.W.keepIn K (.ref f) = true ∧ Binds K fd ps []
section
variable {X : Cx} {k j : Nat} {x : Str} {sp : Sp} {p pos : Pos} {e : Expr} {es : List Expr} {t : TA}
theorem pe_cl (c : Cal X.prog X.w X.K X.mg X.base k x sp) (hr : Room j X.A) (hk : k ≤ j) (hg : Gl X x) (ha : PA X (e :: es) t)
    (hdb : (x == ("__debug__" : Str)) = false := by decide) (he : starEach (e :: es) X.env = (false, eval e X.env) :: starEach es X.env := by rfl) (hpl : (backTo pos (starEach es X.env)).any (·.1) = false := by rfl) : PE X (.Call (.Name x p) (e :: es) [] pos) (tCall sp [] E0 t) := by
  obtain ⟨f, fd, ps, F, hm, kp, b⟩ := c.ex
  exact pe_call F (hr.mono hk) hg hm kp b .nil pass0 ha hdb he hpl
end
structure CalK (P : Program) (w : World) (K : PySem.W.Frag) (mg : Str → Option Value) (base : Heap) (k : Nat) (x : Str) (n : Nat) (ks : List Str) (gV : List V → List V → List V) (sp : Sp) : Prop where
  ex : ∃ (f : Addr) (fd : FuncData) (ps : List Str) (g : List Value → List Value → List Value), FnOk P w K mg base CX0 k f fd ps sp ∧ mg x = some (.ref f) ∧ PySem.W.keepIn K (.ref f) = true ∧ KBn K fd ps n ks g gV
section
variable {X : Cx} {k j n : Nat} {x : Str} {sp : Sp} {ks : List Str} {gV : List V → List V → List V} {p pos : Pos} {e : Expr} {es : List Expr} {kws : List Keyword} {t tk : TA}
theorem pe_clK (c : CalK X.prog X.w X.K X.mg X.base k x n ks gV sp) (hr : Room j X.A) (hk : k ≤ j) (hg : Gl X x) (ha : PA X (e :: es) t) (hkw : PK X kws tk)
    (hall : (backToKw pos (keywordEach kws X.env)).all (·.1.isSome) = true := by rfl) (hks : (backToKw pos (keywordEach kws X.env)).filterMap (·.1) = ks := by rfl) (hdb : (x == ("__debug__" : Str)) = false := by decide)
    (he : starEach (e :: es) X.env = (false, eval e X.env) :: starEach es X.env := by rfl) (hpl : ((backTo pos (starEach (e :: es) X.env)).any (·.1) || (backToKw pos (keywordEach kws X.env)).any (·.1.isNone)) = false := by rfl) :
    PE X (.Call (.Name x p) (e :: es) kws pos) (tCallN n ks.length sp gV E0 t tk) := by
  obtain ⟨f, fd, ps, g, F, hm, kp, b⟩ := c.ex
  exact pe_callN F (hr.mono hk) hg hm kp b pass0 ha hkw hall hks hdb he hpl
end
/-! ### heaps -/
/-- all but p stands -/
def SB (p : Addr) (H H' : Hp) : Prop := ∀ b o, b ≠ p → H b = some o → H' b = some o
theorem Same.sb {p : Addr} {H H' : Hp} (s : Same H H') : SB p H H' := fun b o _ h => s b o h
theorem SB.trans {p : Addr} {H H1 H2 : Hp} (a : SB p H H1) (b : SB p H1 H2) : SB p H H2 := fun c o n h => b c o n (a c o n h)
theorem SB.upd {p : Addr} {H H' : Hp} {o : HO} (s : SB p H H') : SB p H (upd H' p o) := fun b u n h => by
  rw [upd_ne n]
  exact s b u n h
theorem SB.same {p : Addr} {H H' : Hp} (s : SB p H H') (n : H p = none) : Same H H' := fun b o h => s b o (ne_of_none h n) h
theorem Same.mut {p : Addr} {H H' : Hp} {o : HO} (s : Same H H') (n : H p = none) : Same H (L2.upd H' p o) := fun b u h => by
  rw [upd_ne (ne_of_none h n)]
  exact s b u h
theorem SB.sq {K : PySem.W.Frag} {p a : Addr} {H H' : Hp} {xs : List V} (s : SB p H H') (n : a ≠ p) (h : SqL K H a xs) : SqL K H' a xs := by
  rcases h with (h | ⟨o, h⟩) | h
  · exact .inl (.inl (s _ _ n h))
  · exact .inl (.inr ⟨o, s _ _ n h⟩)
  · exact .inr h
theorem Same.sqT {K : PySem.W.Frag} {a : Addr} {H H' : Hp} {xs : List V} (s : Same H H') (h : SqT K H a xs) : SqT K H' a xs := by
  rcases h with (h | ⟨o, h⟩) | h
  · exact .inl (.inl (s _ _ h))
  · exact .inl (.inr ⟨o, s _ _ h⟩)
  · exact .inr h
theorem Same.sqK {b : Bool} {K : PySem.W.Frag} {a : Addr} {H H' : Hp} {xs : List V} (s : Same H H') (h : SqK b K H a xs) : SqK b K H' a xs := by
  cases b
  · exact Z.Same.sqT s h
  · exact s.seq h
theorem at_map {α : Type} {f : α → V} {xs : List α} {i : Nat} {x : α} (h : xs[i]? = some x) : atI (xs.map f) (i : Int) = some (f x) := atI_nat (by rw [List.getElem?_map, h]; rfl)
theorem of_map {α : Type} {f : α → V} {xs : List α} {i : Nat} {v : V} (h : (xs.map f)[i]? = some v) : ∃ x, xs[i]? = some x ∧ v = f x := by
  rw [List.getElem?_map] at h
  cases e : xs[i]? with
  | none => rw [e] at h; cases h
  | some x => rw [e] at h; exact ⟨x, rfl, (Option.some.inj h).symm⟩
end Z
set_option Elab.async false
set_option linter.all false
set_option maxRecDepth 100000
set_option maxHeartbeats 4000000
namespace Z
open PySem PySem.Spec PyProof.Rows L2
open C8 (pss_cut tCut)
local macro_rules | `(tactic| walk_at "num") => `(tactic| first | omega | decide | exact ⟨by omega, by omega⟩ | exact ⟨by omega, by omega, by omega⟩ | exact ⟨by decide, by decide, by decide⟩ | exact Or.inl ⟨by omega, by omega⟩ | exact Or.inr ⟨by omega, by omega⟩)
local macro_rules | `(tactic| walk_at "go") => `(tactic| repeat (first | refine ⟨_, rfl, ?_⟩ | refine ⟨_, _, rfl, rfl, ?_⟩ | refine ⟨_, _, rfl, rfl, (by walk_at "num"), ?_⟩ | refine Or.inl ⟨_, rfl, ?_⟩ | refine ⟨rfl, ?_⟩ | refine And.intro (by walk_at "num") ?_))
def topS (i : Nat) : Stmt := PySem.Challenge.pw_signedpacts_k20_need_excess_surely.main.body.getD i (.Pass ⟨0, 0, 0, 0⟩)
abbrev s_cell : Stmt := topS 21
abbrev N_cell : List Str := ["_law_script", "_law_k"]
abbrev P_cell : List Str := ["_law_script", "_law_k"]
theorem sc_cell : FnScope N_cell P_cell (defScope s_cell) := ⟨rfl, rfl, rfl, by decide +kernel, rfl, by decide +kernel, by decide +kernel⟩
abbrev s_draws : Stmt := topS 22
abbrev N_draws : List Str := ["_law_cell_here", "_law_many", "_law_rest", "_law_large", "_law_seed", "_law_found", "_law_k"]
abbrev P_draws : List Str := ["_law_cell_here", "_law_many"]
theorem sc_draws : FnScope N_draws P_draws (defScope s_draws) := ⟨rfl, rfl, rfl, by decide +kernel, rfl, by decide +kernel, by decide +kernel⟩
abbrev s_take : Stmt := topS 23
abbrev N_take : List Str := ["_law_draws_here", "_law_place"]
abbrev P_take : List Str := ["_law_draws_here", "_law_place"]
theorem sc_take : FnScope N_take P_take (defScope s_take) := ⟨rfl, rfl, rfl, by decide +kernel, rfl, by decide +kernel, by decide +kernel⟩
abbrev FnP (K : PySem.W.Frag) (x : Str) (st : Stmt) (f : Addr) (fd : FuncData) : Prop := FunD K x x (defArgs st) (defBody st) (defScope st) [] [] f fd
section
variable {P : Program} {w : World} {K : PySem.W.Frag} {mg : Str → Option Value} {base : Heap} {f : Addr} {fd : FuncData}
theorem cal_of {k : Nat} {x : Str} {st : Stmt} {ps : List Str} {sp : Sp} (F : FnP K x st f fd) (g : mg x = some (.ref f)) (b : Binds K fd ps []) (h : FnOk P w K mg base CX0 k f fd ps sp) : Cal P w K mg base k x sp := ⟨f, fd, ps, h, g, F.kp, b⟩
/-! ### _law_cell -/
def spCell (K : PySem.W.Frag) : Sp := fun vs H Q _ => ∃ (a : Addr) (ns : List Int) (k : Nat), vs = [.ref a, .int (k : Int)] ∧ SqL K H a (ns.map V.int) ∧ Q (.int (ns.getD k 0)) H
theorem ok_cell (F : FnP K "_law_cell" s_cell f fd) (m_len : mg "len" = none) (m_int : mg "int" = none) : FnOk P w K mg base CX0 1 f fd P_cell (spCell K) := by
  refine F.ok sc_cell (fun vs H Q E h => ?_) (fun cdv A outer s H vs Q E hr h => ?_)
  · obtain ⟨a, ns, k, rfl, _⟩ := h
    rfl
  · obtain ⟨a, ns, k, rfl, hS, q⟩ := h
    refine ⟨_, PSs.nox (pss_cons (ps_if (pt_cmpR op_lt (pv 1) (pe_callB call_len_seq (by rfl) m_len PySem.boot_len (pa_cons (pv 0) pa_nil)) (nomark _)) (pss_one (ps_ret (pe_callTy call_int1 (by rfl) m_int (by decide +kernel) (pa_cons (pe_ix ix_list (pv 0) (pv 1) (fun _ _ => rfl)) pa_nil)))) pss_nil)
      (pss_one (ps_ret pe_int))), ?_⟩
    walk_at "go"
    refine ⟨a, _, rfl, .inl hS, ?_⟩
    walk_at "go"
    rw [List.length_map]
    refine ite2 (fun e => ?_) (fun e => ?_)
    · have hk : k < ns.length := by have := of_decide_eq_true e; omega
      walk_at "go"
      refine ⟨a, _, _, _, rfl, rfl, hS, at_map (List.getElem?_eq_getElem hk), ?_⟩
      walk_at "go"
      rw [List.getD_eq_getElem?_getD, List.getElem?_eq_getElem hk] at q
      exact q
    · have hk : ¬ k < ns.length := fun z => e (decide_eq_true (by omega))
      rw [List.getD_eq_getElem?_getD, List.getElem?_eq_none (by omega)] at q
      exact q
/-! ### _law_draws -/
def Dr (n : Nat) (ds : List Int) : Prop := ds.length = n ∧ ∀ d ∈ ds, 0 ≤ d ∧ d < 1000000
def spDraws : Sp := fun vs H Q _ => ∃ (c : Int) (n : Nat), vs = [.int c, .int (n : Int)] ∧ n ≤ 100000 ∧ ∀ p ds, H p = none → Dr n ds → Q (.ref p) (upd H p (.lst (ds.map V.int)))
theorem ok_draws (F : FnP K "_law_draws" s_draws f fd) (m_int : mg "int" = none) (m_abs : mg "abs" = none) (m_range : mg "range" = none) : FnOk P w K mg base CX0 1 f fd P_draws spDraws := by
  refine F.ok sc_draws (fun vs H Q E h => ?_) (fun cdv A outer s H vs Q E hr h => ?_)
  · obtain ⟨c, n, rfl, _⟩ := h
    rfl
  · obtain ⟨c, n, rfl, hn, q⟩ := h
    refine ⟨_, PSs.nox (pss_cons (ps_set (i := 2) sc_draws.nd rfl (by first | exact .inl rfl | exact .inr rfl) (pe_callB call_abs (by rfl) m_abs (by decide +kernel) (pa_cons (pe_callTy call_int1 (by rfl) m_int (by decide +kernel) (pa_cons (pv 0) pa_nil)) pa_nil)))
      (pss_cons (ps_set (i := 3) sc_draws.nd rfl (by first | exact .inl rfl | exact .inr rfl) (pe_cmpR op_ge (pv 2) (pe_op op_pow pe_int pe_int) (nomark _)))
      (pss_cons (ps_set (i := 4) sc_draws.nd rfl (by first | exact .inl rfl | exact .inr rfl) (pe_op op_mod (pe_callTy call_int1 (by rfl) m_int (by decide +kernel) (pa_cons (pv 2) pa_nil)) pe_int))
      (pss_cons (ps_set (i := 5) sc_draws.nd rfl (by first | exact .inl rfl | exact .inr rfl) (pe_lst pa_nil))
      (pss_cons (ps_for PassesOwn.never rfl (pi_range1 (by rfl) m_range (pa_cons (pv 1) pa_nil)) (pg_name (i := 6) sc_draws.nd rfl (by first | exact .inl rfl | exact .inr rfl))
        (pss_cons (ps_set (i := 4) sc_draws.nd rfl (by first | exact .inl rfl | exact .inr rfl) (pe_op op_mod (pe_callTy call_int1 (by rfl) m_int (by decide +kernel) (pa_cons (pe_op op_add (pe_op op_add (pe_op op_mul (pv 4) pe_int) (pe_op op_mul pe_int (pv 6))) pe_int) pa_nil)) pe_int))
      (pss_one (ps_if (PW.pt (pw_and (pt_val (pv 3)) (pw_and1 (pt_cmpR op_gt (pv 2) pe_int (nomark _))))) (pss_cons (ps_expr (pe_bm PySem.F.plainAttrs_list PySem.F.slot_list_append PySem.F.type_list_append mt_append (pv 5) (pa_cons (pe_op op_mod (pe_callTy call_int1 (by rfl) m_int (by decide +kernel) (pa_cons (pv 2) pa_nil)) pe_int) pa_nil)))
      (pss_one (ps_set (i := 2) sc_draws.nd rfl (by first | exact .inl rfl | exact .inr rfl) (pe_op op_fdiv (pv 2) pe_int)))) (pss_one (ps_expr (pe_bm PySem.F.plainAttrs_list PySem.F.slot_list_append PySem.F.type_list_append mt_append (pv 5) (pa_cons (pe_op op_mod (pe_callTy call_int1 (by rfl) m_int (by decide +kernel) (pa_cons (pe_op op_fdiv (pe_op op_mod (pe_callTy call_int1 (by rfl) m_int (by decide +kernel) (pa_cons (pe_op op_add (pe_op op_mul (pv 4) pe_int) (pe_op op_mul pe_int (pv 6))) pa_nil)) pe_int) pe_int) pa_nil)) pe_int) pa_nil))))))))
      (pss_one (ps_ret (pv 5)))))))), ?_⟩
    walk_at "go"
    intro p np
    walk_at "go"
    refine for_gen (n := n) (fun i σ H1 => ∃ (r : Int) (z : Int) (ds : List Int) (v : Option V), 0 ≤ r ∧ 0 ≤ z ∧ z < 2147483647 ∧ Dr i ds ∧ H1 = upd H p (.lst (ds.map V.int)) ∧
      σ = [some (.int c), some (.int (n : Int)), some (.int r), some (.bl (decide ((10 : Int) ^ 18 ≤ (if c < 0 then -c else c)))), some (.int z), some (.ref p), v]) ?_ ?_ ?_ ?_ ?_
    · refine ⟨_, _, [], none, ?_, ?_, ?_, ⟨rfl, fun d hd => nomatch hd⟩, rfl, rfl⟩
      · split <;> omega
      · omega
      · omega
    · intro i σ H1 hi _
      show i < (n : Int).toNat
      omega
    · intro σ H1 _
      show (n : Int).toNat ≤ n
      omega
    · rintro i σ H1 x H' hi ⟨r, z, ds, v, hr0, hz0, hz1, hd, rfl, rfl⟩ ⟨rfl, rfl⟩
      have hlen : (ds.map V.int).length < sizeLine := by
        rw [List.length_map, hd.1]
        exact Nat.lt_of_lt_of_le hi (Nat.le_trans hn (by decide))
      have fin : ∀ (r' z' d : Int) (u : Option V), 0 ≤ r' → 0 ≤ z' → z' < 2147483647 → 0 ≤ d → d < 1000000 → ∃ (r : Int) (z : Int) (es : List Int) (v : Option V), 0 ≤ r ∧ 0 ≤ z ∧ z < 2147483647 ∧ Dr (i + 1) es ∧ upd (upd H p (.lst (ds.map V.int))) p (.lst (ds.map V.int ++ [.int d])) = upd H p (.lst (es.map V.int)) ∧
          [some (.int c), some (.int (n : Int)), some (.int r'), some (.bl (decide ((10 : Int) ^ 18 ≤ (if c < 0 then -c else c)))), some (.int z'), some (.ref p), u] = [some (.int c), some (.int (n : Int)), some (.int r), some (.bl (decide ((10 : Int) ^ 18 ≤ (if c < 0 then -c else c)))), some (.int z), some (.ref p), v] := by
        intro r' z' d u a1 a2 a3 a4 a5
        refine ⟨r', z', ds ++ [d], u, a1, a2, a3, ⟨by rw [List.length_append, hd.1]; rfl, fun x hx => ?_⟩, ?_, rfl⟩
        · rcases List.mem_append.mp hx with h | h
          · exact hd.2 x h
          · rw [List.mem_singleton.mp h]
            exact ⟨a4, a5⟩
        · rw [upd_upd, List.map_append]
          rfl
      walk_at "go"
      refine ite2 (fun e => ?_) (fun e => ?_)
      · walk_at "go"
        refine ite2 (fun e2 => ?_) (fun e2 => ?_)
        · walk_at "go"
          refine ⟨.inl ⟨rfl, _, .inl (.inl upd_same)⟩, ?_⟩
          walk_at "go"
          refine ⟨_, _, _, rfl, rfl, upd_same, hlen, ?_⟩
          walk_at "go"
          exact fin _ _ _ _ (by omega) (by omega) (by omega) (by omega) (by omega)
        · walk_at "go"
          refine ⟨.inl ⟨rfl, _, .inl (.inl upd_same)⟩, ?_⟩
          walk_at "go"
          refine ⟨_, _, _, rfl, rfl, upd_same, hlen, ?_⟩
          walk_at "go"
          exact fin _ _ _ _ (by omega) (by omega) (by omega) (by omega) (by omega)
      · walk_at "go"
        refine ⟨.inl ⟨rfl, _, .inl (.inl upd_same)⟩, ?_⟩
        walk_at "go"
        refine ⟨_, _, _, rfl, rfl, upd_same, hlen, ?_⟩
        walk_at "go"
        exact fin _ _ _ _ (by omega) (by omega) (by omega) (by omega) (by omega)
    · rintro σ H1 ⟨r, z, ds, v, hr0, hz0, hz1, hd, rfl, rfl⟩
      walk_at "go"
      exact q p ds np hd
/-! ### _law_take -/
def spTake (K : PySem.W.Frag) : Sp := fun vs H Q _ => ∃ (a p : Addr) (n m : Nat) (ds : List Int), vs = [.ref a, .ref p] ∧ SqL K H a (ds.map V.int) ∧ Dr n ds ∧ H p = some (.lst [.int (m : Int)]) ∧ a ≠ p ∧ ∀ r : Int, 0 ≤ r → r < 1000000 → Q (.int r) (upd H p (.lst [.int ((m + 1 : Nat) : Int)]))
theorem ok_take (F : FnP K "_law_take" s_take f fd) (m_len : mg "len" = none) : FnOk P w K mg base CX0 1 f fd P_take (spTake K) := by
  refine F.ok sc_take (fun vs H Q E h => ?_) (fun cdv A outer s H vs Q E hr h => ?_)
  · obtain ⟨a, p, n, m, ds, rfl, _⟩ := h
    rfl
  · obtain ⟨a, p, n, m, ds, rfl, hS, hd, hp, ne, q⟩ := h
    refine ⟨_, PSs.nox (pss_cons (ps_asg (pe_op op_add (pe_ix ix_list (pv 1) pe_int (fun _ _ => rfl)) pe_int) (pg_sub (pv 1) pe_int set_list))
      (pss_cons (ps_if (pt_cmpR op_gt (pe_ix ix_list (pv 1) pe_int (fun _ _ => rfl)) (pe_callB call_len_seq (by rfl) m_len PySem.boot_len (pa_cons (pv 0) pa_nil)) (nomark _)) (pss_one (ps_ret pe_int)) pss_nil)
      (pss_one (ps_ret (pe_ix ix_list (pv 0) (pe_op op_sub (pe_ix ix_list (pv 1) pe_int (fun _ _ => rfl)) pe_int) (fun _ _ => rfl)))))), ?_⟩
    have sb : SB p H (upd H p (.lst [.int ((m + 1 : Nat) : Int)])) := SB.upd (Z.Same.sb (Same.refl H))
    have hS' := sb.sq ne hS
    walk_at "go"
    refine ⟨p, _, 0, _, rfl, rfl, SqL.of hp, rfl, ?_⟩
    walk_at "go"
    refine ⟨p, _, 0, 0, rfl, rfl, hp, rfl, ?_⟩
    show tSeq _ _ _ _ (upd H p (.lst [.int ((m : Int) + 1)]))
    rw [show ((m : Int) + 1) = ((m + 1 : Nat) : Int) by omega]
    walk_at "go"
    refine ⟨p, _, 0, _, rfl, rfl, SqL.of upd_same, rfl, ?_⟩
    walk_at "go"
    refine ⟨a, _, rfl, .inl hS', ?_⟩
    walk_at "go"
    rw [List.length_map]
    refine ite2 (fun e => ?_) (fun e => ?_)
    · exact q 0 (by omega) (by omega)
    · have hk : m < ds.length := by
        apply Decidable.byContradiction
        intro z
        exact e (decide_eq_true (by omega))
      walk_at "go"
      refine ⟨p, _, 0, _, rfl, rfl, SqL.of upd_same, rfl, ?_⟩
      walk_at "go"
      refine ⟨a, _, _, _, rfl, rfl, hS', at_of (by omega) (show (ds.map V.int)[m]? = some (.int ds[m]) by rw [List.getElem?_map, List.getElem?_eq_getElem hk]; rfl), ?_⟩
      have h1 := hd.2 ds[m] (List.getElem_mem hk)
      exact q _ h1.1 h1.2
end
end Z
set_option Elab.async false
set_option linter.all false
set_option maxRecDepth 100000
set_option maxHeartbeats 4000000
namespace Z
open PySem PySem.Spec PyProof.Rows L2
/-! ### data -/
def sqD (b : Bool) (ds : List PyData) : PyData := match b with
  | true => .list ds
  | false => .tuple ds
def intsD (b : Bool) (ns : List Int) : PyData := sqD b (ns.map PyData.int)
def matD (b : Bool) (rs : List (List Int)) : PyData := sqD b (rs.map (intsD b))
theorem dp_sq {b : Bool} {K : PySem.W.Frag} {H : Hp} {a : Addr} {xs : List V} {ds : List PyData} (h : SqK b K H a xs) (d : DpAll K H xs ds) : Dp K H (.ref a) (sqD b ds) := by
  cases b
  · exact .tup h d
  · exact .lst h d
theorem dpa_ints {K : PySem.W.Frag} {H : Hp} : ∀ ns : List Int, DpAll K H (ns.map V.int) (ns.map PyData.int)
  | [] => .nil
  | n :: r => .cons (.int n) (dpa_ints r)
theorem dp_ints {b : Bool} {K : PySem.W.Frag} {H : Hp} {a : Addr} {ns : List Int} (h : SqK b K H a (ns.map V.int)) : Dp K H (.ref a) (intsD b ns) := dp_sq h (dpa_ints ns)
/-- a matrix: a list (or tuple) of lists (or tuples) of ints, at ps -/
def Mat (b : Bool) (K : PySem.W.Frag) (H : Hp) (a : Addr) (ps : List Addr) (rs : List (List Int)) : Prop := SqK b K H a (ps.map V.ref) ∧ ps.length = rs.length ∧ ∀ (i : Nat) (p : Addr) (r : List Int), ps[i]? = some p → rs[i]? = some r → SqK b K H p (r.map V.int)
theorem Mat.mono {b : Bool} {K : PySem.W.Frag} {H H' : Hp} {a : Addr} {ps : List Addr} {rs : List (List Int)} (s : Same H H') (m : Mat b K H a ps rs) : Mat b K H' a ps rs := ⟨Z.Same.sqK s m.1, m.2.1, fun i p r h1 h2 => Z.Same.sqK s (m.2.2 i p r h1 h2)⟩
theorem dpa_mat {b : Bool} {K : PySem.W.Frag} {H : Hp} : ∀ (ps : List Addr) (rs : List (List Int)), ps.length = rs.length → (∀ (i : Nat) (p : Addr) (r : List Int), ps[i]? = some p → rs[i]? = some r → SqK b K H p (r.map V.int)) → DpAll K H (ps.map V.ref) (rs.map (intsD b))
  | [], [], _, _ => .nil
  | p :: ps, r :: rs, hl, h => .cons (dp_ints (h 0 p r rfl rfl)) (dpa_mat ps rs (by simpa using hl) fun i q s h1 h2 => h (i + 1) q s h1 h2)
theorem Mat.dp {b : Bool} {K : PySem.W.Frag} {H : Hp} {a : Addr} {ps : List Addr} {rs : List (List Int)} (m : Mat b K H a ps rs) : Dp K H (.ref a) (matD b rs) := dp_sq m.1 (dpa_mat ps rs m.2.1 m.2.2)
theorem lay_ints : ∀ ns : List Int, PyData.canLayAll0 (ns.map PyData.int) = true
  | [] => rfl
  | n :: r => by
    rw [List.map_cons, PyData.canLayAll0, lay_ints r]
    rfl
theorem dep_ints : ∀ ns : List Int, PyData.depthAll (ns.map PyData.int) = 0
  | [] => rfl
  | n :: r => by
    rw [List.map_cons, PyData.depthAll, dep_ints r]
    rfl
theorem shaped_ints (b : Bool) (ns : List Int) : SeqAt.shaped (intsD b ns) = true := by
  unfold SeqAt.shaped intsD
  cases b
  · show (PyData.canLayAll0 (ns.map PyData.int) && decide (PyData.depthAll (ns.map PyData.int) + 1 ≤ 64)) = true
    rw [lay_ints, dep_ints]
    rfl
  · show (PyData.canLayAll0 (ns.map PyData.int) && decide (PyData.depthAll (ns.map PyData.int) + 1 ≤ 64)) = true
    rw [lay_ints, dep_ints]
    rfl
theorem lay_mat (b : Bool) : ∀ rs : List (List Int), PyData.canLayAll0 (rs.map (intsD b)) = true
  | [] => rfl
  | n :: r => by
    rw [List.map_cons, PyData.canLayAll0, lay_mat b r, SeqAt.canLay_of_shaped (shaped_ints b n)]
    rfl
theorem dep_mat (b : Bool) : ∀ rs : List (List Int), PyData.depthAll (rs.map (intsD b)) ≤ 1
  | [] => Nat.zero_le _
  | n :: r => by
    rw [List.map_cons, PyData.depthAll]
    have h := dep_mat b r
    have h2 : (intsD b n).depth = 1 := by
      cases b
      · show PyData.depthAll (n.map PyData.int) + 1 = 1
        rw [dep_ints]
      · show PyData.depthAll (n.map PyData.int) + 1 = 1
        rw [dep_ints]
    omega
theorem shaped_mat (b : Bool) (rs : List (List Int)) : SeqAt.shaped (matD b rs) = true := by
  have h := dep_mat b rs
  unfold SeqAt.shaped matD
  cases b
  · show (PyData.canLayAll0 (rs.map (intsD false)) && decide (PyData.depthAll (rs.map (intsD false)) + 1 ≤ 64)) = true
    rw [lay_mat, decide_eq_true (by omega)]
    rfl
  · show (PyData.canLayAll0 (rs.map (intsD true)) && decide (PyData.depthAll (rs.map (intsD true)) + 1 ≤ 64)) = true
    rw [lay_mat, decide_eq_true (by omega)]
    rfl
theorem same2 {K : PySem.W.Frag} {H : Hp} {x y : V} {d : PyData} {R : PyData → PyData → Prop} (hx : Dp K H x d) (hy : Dp K H y d) (hs : SeqAt.shaped d = true) (q : R d d) : ∃ d' e', Dp K H x d' ∧ Dp K H y e' ∧ SeqAt.shaped d' = true ∧ SeqAt.shaped e' = true ∧ R d' e' := ⟨d, d, hx, hy, hs, hs, q⟩
theorem eqv_same {d : PyData} (hs : SeqAt.shaped d = true) : PyData.eqv d d = true := SeqAt.eqv_refl d (SeqAt.canLay_of_shaped hs)
/-! ### a target that is one of two kinds -/
def gOr (t u : TG) : TG := fun v σ H Q => t v σ H Q ∨ u v σ H Q
theorem pg_or {X : Cx} {e : Expr} {t u : TG} (h1 : PG X e t) (h2 : PG X e u) : PG X e (gOr t u) := by
  refine ⟨fun pins s σ H v uu Q I r hw => ?_⟩
  rcases hw with h | h
  · exact h1.run pins s σ H v uu Q I r h
  · exact h2.run pins s σ H v uu Q I r h
/-! ### isinstance of built-in kinds -/
theorem isi {K : PySem.W.Frag} {H : Hp} {x : V} {T c : String} {b : Bool} {R : Bool → Prop} (t : TyOf K H x (.type T)) (h : kitB T c = some b) (q : R b) : ∃ (x' c' : V) (t' u' : Value) (b' : Bool), [x, .ty c] = [x', c'] ∧ ClsV c' u' ∧ TyX K H x' t' ∧ PySem.W.kitOne K t' u' = some b' ∧ R b' :=
  ⟨x, .ty c, .type T, .type c, b, rfl, .ty c, .base t, kit_ty h, q⟩
/-! ### rules by the written part itself (within a comprehension's block) -/
section
variable {X : Cx} {K : PySem.W.Frag}
theorem ix_list_K (h : X.K = K) : IxR X (rIxL K) := by subst h; exact ix_list
theorem ix_tup_K (h : X.K = K) : IxR X (rIxT K) := by subst h; exact ix_tup
theorem ix_seq_K (h : X.K = K) : IxR X (rIx K) := by subst h; exact ix_seq
theorem call_len_seq_K (h : X.K = K) : CallR X (.builtin "len") (fun xs H Q => ∃ p ys, xs = [.ref p] ∧ (SqL K H p ys ∨ SqT K H p ys) ∧ Q (.int ys.length) H) := by subst h; exact call_len_seq
theorem call_list_of_K (h : X.K = K) : CallR X (.type "list") (fun xs H Q => ∃ p ys, xs = [.ref p] ∧ (SqL K H p ys ∨ SqT K H p ys) ∧ ∀ l, H l = none → Q (.ref l) (upd H l (.lst ys))) := by subst h; exact call_list_of
theorem call_tuple_of_K (h : X.K = K) : CallR X (.type "tuple") (fun xs H Q => ∃ p ys, xs = [.ref p] ∧ ((SqL K H p ys ∧ ∀ l, H l = none → Q (.ref l) (upd H l (.tup ys))) ∨ (SqT K H p ys ∧ Q (.ref p) H))) := by subst h; exact call_tuple_of
theorem op_in_seq_K (h : X.K = K) : OpR X (compareOp .In) (rIn K false) := by subst h; exact op_in_seq
theorem op_notIn_seq_K (h : X.K = K) : OpR X (compareOp .NotIn) (rIn K true) := by subst h; exact op_notIn_seq
theorem op_eqD_K (h : X.K = K) (hu : X.A.units + 64 < cLine) : OpR X (compareOp .Eq) (rEqD K) := by subst h; exact op_eqD hu
theorem op_neD_K (h : X.K = K) (hu : X.A.units + 64 < cLine) : OpR X (compareOp .NotEq) (rNeD K) := by subst h; exact op_neD hu
theorem call_isi_K (h : X.K = K) : CallR X (.builtin "isinstance") (rIsi K) := by subst h; exact call_isi
end
/-! ### great products -/
theorem big_mul {i j : Int} (hi : i.natAbs < 2 ^ 4000) (hj : j.natAbs < 2 ^ 4000) : CMulX i j := mulx_ok hi hj (by decide)
/-! ### sums of multiples of rows -/
def combN (rs : List (List Int)) (fs : List Int) (w : Nat) : Nat → List Int
  | 0 => List.replicate w 0
  | n + 1 => List.zipWith (fun a b => a + fs.getD n 0 * b) (combN rs fs w n) (rs.getD n [])
theorem combN_len {rs : List (List Int)} {fs : List Int} {w : Nat} (h : ∀ r ∈ rs, r.length = w) : ∀ n, n ≤ rs.length → (combN rs fs w n).length = w
  | 0, _ => List.length_replicate
  | n + 1, hn => by
    rw [combN, List.length_zipWith, combN_len h n (by omega), List.getD_eq_getElem?_getD, List.getElem?_eq_getElem (by omega), Option.getD_some, h _ (List.getElem_mem _)]
    omega
theorem combN_at {rs : List (List Int)} {fs : List Int} {w i c : Nat} (hi : i < rs.length) (hf : i < fs.length) (c1 : c < (combN rs fs w i).length) (c2 : c < rs[i].length) : (combN rs fs w (i + 1))[c]? = some ((combN rs fs w i)[c] + fs[i] * rs[i][c]) := by
  have g1 : fs.getD i 0 = fs[i] := by rw [List.getD_eq_getElem?_getD, List.getElem?_eq_getElem hf]; rfl
  have g2 : rs.getD i [] = rs[i] := by rw [List.getD_eq_getElem?_getD, List.getElem?_eq_getElem hi]; rfl
  rw [combN, List.getElem?_zipWith, g1, g2, List.getElem?_eq_getElem c1, List.getElem?_eq_getElem c2]
end Z
set_option Elab.async false
set_option linter.all false
set_option maxRecDepth 100000
set_option maxHeartbeats 4000000
namespace Z
open PySem PySem.Spec PyProof.Rows L2
/-! ### own classes: making, methods, calls of instances, == -/
structure Mak (P : Program) (w : World) (K : PySem.W.Frag) (mg : Str → Option Value) (base : Heap) (k : Nat) (x : Str) (sp : Sp) : Prop where
  ex : ∃ (C f : Addr) (fd : FuncData) (ps : List Str) (si : Sp), Mk K C f ∧ FnOk P w K mg base CX0 k f fd ps si ∧ mg x = some (.ref C) ∧ Binds K fd ps [] ∧
    ∀ vs H Q E, sp vs H Q E → ∀ n dx, H n = none → H dx = none → dx ≠ n → si (.ref n :: vs) (upd (upd H dx (.own n)) n (.ins C dx [])) (fun v H2 => v = .non ∧ Q (.ref n) H2) E
structure Met (P : Program) (w : World) (K : PySem.W.Frag) (mg : Str → Option Value) (base : Heap) (k : Nat) (C : Addr) (m : Str) (sp : Sp) : Prop where
  ex : ∃ (f : Addr) (fd : FuncData) (ps : List Str), Cls K C ∧ Meth K C m f ∧ FnOk P w K mg base CX0 k f fd ps sp ∧ Binds K fd ps []
section
variable {X : Cx} {k j : Nat} {x m : Str} {sp : Sp} {C : Addr} {p pos apos : Pos} {e o : Expr} {es : List Expr} {t : TA} {ta : TE}
theorem pe_mk (c : Mak X.prog X.w X.K X.mg X.base k x sp) (hr : Room j X.A) (hk : k + 1 ≤ j) (hg : Gl X x) (ha : PA X (e :: es) t)
    (hdb : (x == ("__debug__" : Str)) = false := by decide) (he : starEach (e :: es) X.env = (false, eval e X.env) :: starEach es X.env := by rfl) (hpl : (backTo pos (starEach es X.env)).any (·.1) = false := by rfl) : PE X (.Call (.Name x p) (e :: es) [] pos) (tCall sp [] E0 t) := by
  obtain ⟨C, f, fd, ps, si, M, F, hm, b, imp⟩ := c.ex
  constructor
  intro pins s σ H Q I h
  refine wpAny_Call_Name_kw (ld_glob I hg hm ?_ hdb)
  refine PySem.W.callWith_K (h₀ := X.base) I.ok.mod.kin M.kp (thn (ha.run pos pins s σ H _ I h) fun us s1 ⟨vs, H1, I1, r, q⟩ => ⟨I1.kIn, ?_⟩) he hpl
  have q2 : sp vs H1 Q E0 := by
    have z : sp (vs ++ []) H1 Q E0 := q
    rw [List.append_nil] at z
    exact z
  refine run_make (dvs := []) M F (hr.mono hk) b .nil pass0 I1 r (fun n dx n1 n2 n3 => ?_)
  rw [List.append_nil]
  exact imp _ _ _ _ q2 n dx n1 n2 n3
theorem pe_me {pl : Sem Bool} (c : Met X.prog X.w X.K X.mg X.base k C m sp) (he : PE X o ta) (hr : Room j X.A) (hk : k ≤ j) (ha : PA X (e :: es) t)
    (hst : starEach (e :: es) X.env = (false, eval e X.env) :: starEach es X.env := by rfl) (hpl : (backTo pos (starEach es X.env)).any (·.1) = false := by rfl)
    (ht : eval (.Call (.Attribute o m apos) (e :: es) [] pos) X.env = (do
      let ov ← eval o X.env
      standAt apos.atName
      let (f, first) ← holding [ov] (getMethod ov m pl)
      callWith pos f first (backTo pos (starEach (e :: es) X.env)) (backToKw pos (keywordEach [] X.env))) := by rfl) : PE X (.Call (.Attribute o m apos) (e :: es) [] pos) (tMeth C m sp [] E0 ta t) := by
  obtain ⟨f, fd, ps, cl, me, F, b⟩ := c.ex
  exact pe_meth he cl me F (hr.mono hk) b .nil pass0 ha hst hpl ht
theorem pe_me0 {pl : Sem Bool} (c : Met X.prog X.w X.K X.mg X.base k C m sp) (he : PE X o ta) (hr : Room j X.A) (hk : k ≤ j)
    (ht : eval (.Call (.Attribute o m apos) [] [] pos) X.env = (do
      let ov ← eval o X.env
      standAt apos.atName
      let (f, first) ← holding [ov] (getMethod ov m pl)
      callWith pos f first (backTo pos (starEach [] X.env)) (backToKw pos (keywordEach [] X.env))) := by rfl) : PE X (.Call (.Attribute o m apos) [] [] pos) (tMeth C m sp [] E0 ta tNil) := by
  obtain ⟨f, fd, ps, cl, me, F, b⟩ := c.ex
  exact pe_meth0 he cl me F (hr.mono hk) b .nil pass0 ht
end
/-! ### f(e, ..), f an instance of C -/
structure Cob (P : Program) (w : World) (K : PySem.W.Frag) (mg : Str → Option Value) (base : Heap) (k : Nat) (C : Addr) (sp : Sp) : Prop where
  ex : ∃ g : Addr, StX.CallO K C g ∧ FnR P w K mg base CX0 k g sp
def tCo (C : Addr) (sp : Sp) (tf : TE) (t : TA) : TE := fun σ H Q => tf σ H fun y H1 => ∃ a, y = V.ref a ∧ t σ H1 fun vs H2 => (∃ dx fs, H2 a = some (.ins C dx fs)) ∧ sp (V.ref a :: vs) H2 Q E0
section
variable {X : Cx} {k j : Nat} {sp : Sp} {C : Addr} {pos : Pos} {e fe : Expr} {es : List Expr} {t : TA} {tf : TE}
theorem pe_co (c : Cob X.prog X.w X.K X.mg X.base k C sp) (hf : PE X fe tf) (hr : Room j X.A) (hk : k ≤ j) (ha : PA X (e :: es) t)
    (ht : eval (.Call fe (e :: es) [] pos) X.env = (do callWith pos (← eval fe X.env) [] (backTo pos (starEach (e :: es) X.env)) (backToKw pos (keywordEach [] X.env))) := by rfl)
    (he : starEach (e :: es) X.env = (false, eval e X.env) :: starEach es X.env := by rfl) (hpl : (backTo pos (starEach es X.env)).any (·.1) = false := by rfl) : PE X (.Call fe (e :: es) [] pos) (tCo C sp tf t) := by
  obtain ⟨g, co, F⟩ := c.ex
  constructor
  intro pins s σ H Q I h
  refine Call_ (thn (hf.run pins s σ H _ I h) fun u s1 ⟨y, H1, I1, ry, a, ey, q⟩ => ?_) ht
  subst ey
  obtain rfl : u = Value.ref a := ry
  refine StX.callO_with (thn (ha.run pos pins s1 σ H1 _ I1 q) fun us s2 ⟨vs, H2, I2, r, hi, q2⟩ => ?_) he hpl
  have hi2 : StX.InsC X H2 a C := .inr hi
  obtain ⟨ox, od, J, hd⟩ := StX.insC_at I2 hi2
  exact ⟨⟨C, ox, od, J, hd⟩, StX.run_callO co F (hr.mono hk) pass0 I2 hi2 r q2⟩
end
/-! ### a == b by the class's own __eq__ -/
structure Eqo (P : Program) (w : World) (K : PySem.W.Frag) (mg : Str → Option Value) (base : Heap) (k : Nat) (C : Addr) (sp : Sp) : Prop where
  ex : ∃ (f : Addr) (fd : FuncData) (ps : List Str), FnOk P w K mg base CX0 k f fd ps sp ∧ PySem.W.findIn K (.ref C) "__eq__" = some (some (.ref f)) ∧ PySem.W.isFn K (.ref f) = true ∧ Binds K fd ps []
def rOwn (C : Addr) (sp : Sp) : R2 := fun x y H Q => ∃ a b dx dy fs gs, x = .ref a ∧ y = .ref b ∧ H a = some (.ins C dx fs) ∧ H b = some (.ins C dy gs) ∧ sp [.ref a, .ref b] H (fun v H' => ∃ r, v = .bl r ∧ Q v H') E0
theorem op_own {X : Cx} {k j : Nat} {C : Addr} {sp : Sp} (c : Eqo X.prog X.w X.K X.mg X.base k C sp) (hr : Room j X.A) (hk : k ≤ j) : OpR X (compareOp .Eq) (rOwn C sp) := by
  intro pins s σ H x y v u Q I rx ry hq
  obtain ⟨f, fd, ps, F, hs, hf, hb⟩ := c.ex
  obtain ⟨a, b, dx, dy, fs, gs, rfl, rfl, ha, hb', q⟩ := hq
  cases rx
  cases ry
  obtain ⟨mA, J, _⟩ := ins_get I.hok ha
  obtain ⟨mB, J', _⟩ := ins_get I.hok hb'
  obtain ⟨od, J, _⟩ := J.look
  obtain ⟨od', J', _⟩ := J'.look
  obtain ⟨m, hF⟩ := I.fr
  show wpAny (model X.prog X.w) X.A (richCompare .Eq (Value.ref a) (Value.ref b)) (EP X pins σ Q) X.xe s
  refine PySem.W.cmp_K (op := .Eq) (tb := .ref C) (hr.mono hk).units0 hF I.ok.mod.kin J J'.type (by simp [PySem.W.notFirst]) hs hf ?_
  have r2 : Vals [V.ref a, V.ref b] [Value.ref a, Value.ref b] := .cons rfl (.cons rfl .nil)
  refine thn (run_fn (dvs := []) F (hr.mono hk) hb .nil pass0 I r2 q) fun r s' z => ?_
  obtain ⟨v, H', I', rv, b', rfl, q'⟩ := z
  cases rv
  exact ⟨.bl b', H', I', rfl, q'⟩
end Z
set_option Elab.async false
set_option linter.all false
namespace Nd
/-! ### needs: the mathematics -/
abbrev Rs := List (Int × Option Int)
def rise (k : Int) (p : Int × Option Int) : Int := if k ≤ p.1 then 0 else match p.2 with
  | none => k - p.1
  | some h => if k < h then k - p.1 else h - p.1
def Fs (rs : Rs) (k : Int) : Int := (rs.map (rise k)).sum
/-- the pairs lie behind the edge e, one behind another with gaps, none but the last is open -/
def Good : Int → Rs → Prop
  | _, [] => True
  | e, (l, none) :: r => e < l ∧ r = []
  | e, (l, some h) :: r => e < l ∧ l < h ∧ Good h r
theorem Good.weak {e e' : Int} (h : e' ≤ e) : ∀ {rs : Rs}, Good e rs → Good e' rs
  | [], _ => trivial
  | (l, none) :: r, g => ⟨by have := g.1; omega, g.2⟩
  | (l, some x) :: r, g => ⟨by have := g.1; omega, g.2⟩
theorem Fs_nil (k : Int) : Fs [] k = 0 := rfl
theorem Fs_cons (p : Int × Option Int) (rs : Rs) (k : Int) : Fs (p :: rs) k = rise k p + Fs rs k := by
  unfold Fs
  rw [List.map_cons, List.sum_cons]
theorem Fs_append (a b : Rs) (k : Int) : Fs (a ++ b) k = Fs a k + Fs b k := by
  unfold Fs
  rw [List.map_append, List.sum_append]
theorem rise_zero {k : Int} {p : Int × Option Int} (h : k ≤ p.1) : rise k p = 0 := if_pos h
theorem rise_none {k l : Int} (h : l < k) : rise k (l, none) = k - l := if_neg (by omega : ¬ k ≤ l)
theorem rise_some {k l x : Int} (h : l < k) : rise k (l, some x) = if k < x then k - l else x - l := if_neg (by omega : ¬ k ≤ l)
theorem Fs_zero {k : Int} : ∀ {e : Int} {rs : Rs}, Good e rs → k ≤ e → Fs rs k = 0
  | _, [], _, _ => rfl
  | e, (l, none) :: r, g, h => by
    have g1 := g.1
    rw [Fs_cons, rise_zero (show k ≤ l by omega), g.2]
    rfl
  | e, (l, some x) :: r, g, h => by
    have g1 := g.1
    have g2 := g.2.1
    rw [Fs_cons, rise_zero (show k ≤ l by omega), Fs_zero g.2.2 (by omega)]
    rfl
theorem Good.drop : ∀ {e : Int} {rs : Rs} (i : Nat), Good e rs → ∃ e', Good e' (rs.drop i)
  | e, rs, 0, g => ⟨e, g⟩
  | e, [], i + 1, _ => ⟨e, trivial⟩
  | e, (l, none) :: r, i + 1, g => by
    rw [g.2]
    exact ⟨e, by simp [Good]⟩
  | e, (l, some x) :: r, i + 1, g => Good.drop i g.2.2
/-- behind a low edge that k does not pass nothing is added -/
theorem Fs_stop {rs : Rs} {e k : Int} (g : Good e rs) {i : Nat} {l : Int} {h : Option Int} (hi : rs[i]? = some (l, h)) (hk : k ≤ l) : Fs rs k = Fs (rs.take i) k := by
  obtain ⟨e', g'⟩ := g.drop i
  have hd : rs.drop i = (l, h) :: rs.drop (i + 1) := by
    obtain ⟨hlt, e1⟩ := List.getElem?_eq_some_iff.mp hi
    rw [List.drop_eq_getElem_cons hlt, e1]
  have e2 : Fs (rs.drop i) k = 0 := by
    rw [hd] at g' ⊢
    rw [Fs_cons, rise_zero hk]
    cases h with
    | none => rw [g'.2]; rfl
    | some x =>
      rw [Fs_zero g'.2.2 (by have := g'.2.1; omega)]
      rfl
  have e3 : Fs rs k = Fs (rs.take i ++ rs.drop i) k := by rw [List.take_append_drop]
  rw [e3, Fs_append, e2]
  omega
theorem Fs_take {rs : Rs} {k : Int} {i : Nat} {p : Int × Option Int} (hi : rs[i]? = some p) : Fs (rs.take (i + 1)) k = Fs (rs.take i) k + rise k p := by
  rw [List.take_add_one, hi, Fs_append]
  show _ = _
  rw [show (some p).toList = [p] from rfl, Fs_cons, Fs_nil]
  omega
theorem rise_bounds {x y l : Int} {h : Option Int} (hl : ∀ v, h = some v → l < v) (hxy : x ≤ y) : 0 ≤ rise y (l, h) - rise x (l, h) ∧ 0 ≤ rise x (l, h) := by
  unfold rise
  dsimp only
  cases h with
  | none => dsimp only; constructor <;> (repeat' split) <;> omega
  | some v =>
    have := hl v rfl
    dsimp only
    constructor <;> (repeat' split) <;> omega
/-- the sum does not fall, and it grows by at most one for one -/
theorem Fs_slope {x y : Int} (hxy : x ≤ y) : ∀ {e : Int} {rs : Rs}, Good e rs → 0 ≤ Fs rs x ∧ Fs rs x ≤ Fs rs y ∧ (Fs rs y - Fs rs x ≤ y - x) ∧ (e ≤ y → Fs rs y ≤ y - e)
  | e, [], _ => ⟨by rw [Fs_nil]; omega, by rw [Fs_nil, Fs_nil]; omega, by rw [Fs_nil, Fs_nil]; omega, fun _ => by rw [Fs_nil]; omega⟩
  | e, (l, none) :: r, g => by
    have g1 := g.1
    rw [g.2, Fs_cons, Fs_cons, Fs_nil, Fs_nil]
    unfold rise
    dsimp only
    refine ⟨?_, ?_, ?_, fun _ => ?_⟩ <;> (repeat' split) <;> omega
  | e, (l, some h) :: r, g => by
    have g1 := g.1
    have g2 := g.2.1
    obtain ⟨i1, i2, i3, i4⟩ := Fs_slope hxy g.2.2
    rw [Fs_cons, Fs_cons]
    have z1 : x ≤ h → Fs r x = 0 := fun q => Fs_zero g.2.2 q
    have z2 : y ≤ h → Fs r y = 0 := fun q => Fs_zero g.2.2 q
    by_cases hy : y ≤ h
    · have a1 := z2 hy
      have a2 := z1 (by omega)
      rw [a1, a2]
      unfold rise
      dsimp only
      refine ⟨?_, ?_, ?_, fun _ => ?_⟩ <;> (repeat' split) <;> omega
    · have a4 := i4 (by omega)
      by_cases hx : x ≤ h
      · have a2 := z1 hx
        rw [a2]
        unfold rise
        dsimp only
        refine ⟨?_, ?_, ?_, fun _ => ?_⟩ <;> (repeat' split) <;> omega
      · unfold rise
        dsimp only
        refine ⟨?_, ?_, ?_, fun _ => ?_⟩ <;> (repeat' split) <;> omega
/-- flat_point as it goes -/
def fp : Rs → Int → Int → Option Int
  | [], left, edge => some (edge + left)
  | (l, h) :: r, left, edge => if left ≤ l - edge then some (edge + left) else match h with
    | none => none
    | some x => fp r (left - (l - edge)) x
theorem fp_spec : ∀ {rs : Rs} {A E : Int}, Good (E - 1) rs → 0 ≤ A → match fp rs A E with
    | some x => E ≤ x ∧ ∀ y, E ≤ y → (A ≤ (y - E) - Fs rs y ↔ x ≤ y)
    | none => ∀ y, E ≤ y → (y - E) - Fs rs y < A
  | [], A, E, _, hA => ⟨by omega, fun y hy => by rw [Fs_nil]; constructor <;> intro h <;> omega⟩
  | (l, h) :: r, A, E, g, hA => by
    unfold fp
    by_cases c : A ≤ l - E
    · rw [if_pos c]
      refine ⟨by omega, fun y hy => ?_⟩
      by_cases yl : y ≤ l
      · have z : Fs ((l, h) :: r) y = 0 := Fs_stop g (i := 0) rfl yl
        rw [z]
        constructor <;> intro <;> omega
      · have z : Fs ((l, h) :: r) l = 0 := Fs_stop g (i := 0) rfl (Int.le_refl l)
        have s := (Fs_slope (x := l) (y := y) (by omega) g).2.2.1
        rw [z] at s
        constructor <;> intro <;> omega
    · rw [if_neg c]
      cases h with
      | none =>
        have g2 := g.2
        subst g2
        intro y hy
        rw [Fs_cons, Fs_nil]
        by_cases yl : y ≤ l
        · rw [rise_zero yl]; omega
        · rw [rise_none (by omega)]; omega
      | some x =>
        have g1 := g.1
        have g2 := g.2.1
        have ih := fp_spec (rs := r) (A := A - (l - E)) (E := x) (g.2.2.weak (by omega)) (by omega)
        dsimp only
        have low : ∀ y, E ≤ y → y < x → (y - E) - Fs ((l, some x) :: r) y < A := fun y hy hx => by
          rw [Fs_cons, Fs_zero g.2.2 (by omega)]
          by_cases yl : y ≤ l
          · rw [rise_zero yl]; omega
          · rw [rise_some (by omega), if_pos hx]; omega
        have high : ∀ y, x ≤ y → (y - E) - Fs ((l, some x) :: r) y = (y - x) - Fs r y + (l - E) := fun y hx => by
          rw [Fs_cons, rise_some (by omega), if_neg (by omega)]
          omega
        cases e : fp r (A - (l - E)) x with
        | some q =>
          rw [e] at ih
          refine ⟨by have := ih.1; omega, fun y hy => ?_⟩
          by_cases hx : y < x
          · have a := low y hy hx
            have b := ih.1
            constructor <;> intro <;> omega
          · have a := high y (by omega)
            have b := ih.2 y (by omega)
            rw [a]
            constructor
            · intro h1
              exact b.mp (by omega)
            · intro h1
              have := b.mpr h1
              omega
        | none =>
          rw [e] at ih
          intro y hy
          by_cases hx : y < x
          · exact low y hy hx
          · have a := high y (by omega)
            have b := ih y (by omega)
            omega
end Nd
set_option Elab.async false
set_option linter.all false
namespace Nd
def top : Int → Rs → Option Int
  | t, [] => some t
  | _, (_, none) :: _ => none
  | t, (l, some h) :: r => top (t + h - l) r
def bnd : Int → Rs → Int
  | t, [] => t
  | t, (l, none) :: _ => if l > t then l else t
  | t, (l, some h) :: r => bnd (t + h - l) r
/-- the last pair is open, from l on -/
def opn : Rs → Option Int
  | [] => none
  | [(l, none)] => some l
  | [(_, some _)] => none
  | _ :: q :: r => opn (q :: r)
theorem ends_spec : ∀ {rs : Rs} {e t : Int}, Good e rs → match opn rs with
    | some l => e < l ∧ bnd t rs = (if l > t + Fs rs l then l else t + Fs rs l) ∧ (∀ y, l ≤ y → Fs rs y = Fs rs l + (y - l)) ∧ top t rs = none
    | none => (∀ y, t + Fs rs y ≤ bnd t rs) ∧ top t rs = some (bnd t rs)
  | [], e, t, _ => ⟨fun y => by rw [Fs_nil]; show t + 0 ≤ t; omega, rfl⟩
  | [(l, none)], e, t, g => by
    have z : Fs [(l, none)] l = 0 := by rw [Fs_cons, rise_zero (Int.le_refl l), Fs_nil]; rfl
    refine ⟨g.1, ?_, fun y hy => ?_, rfl⟩
    · rw [z]; show (if l > t then l else t) = _; rw [Int.add_zero]
    · rw [z, Fs_cons, Fs_nil]
      by_cases h : y ≤ l
      · rw [rise_zero h]; omega
      · rw [rise_none (by omega)]; omega
  | [(l, some h)], e, t, g => by
    have g2 := g.2.1
    refine ⟨fun y => ?_, rfl⟩
    rw [Fs_cons, Fs_nil]
    show t + (rise y (l, some h) + 0) ≤ t + h - l
    unfold rise
    dsimp only
    (repeat' split) <;> omega
  | (l, none) :: q :: r, e, t, g => by
    have := g.2
    cases this
  | (l, some h) :: q :: r, e, t, g => by
    have g2 := g.2.1
    have ih := ends_spec (rs := q :: r) (e := h) (t := t + h - l) g.2.2
    show match opn (q :: r) with
      | some l' => _
      | none => _
    cases c : opn (q :: r) with
    | some l' =>
      rw [c] at ih
      obtain ⟨i1, i2, i3, i4⟩ := ih
      have e1 : ∀ y, h ≤ y → Fs ((l, some h) :: q :: r) y = (h - l) + Fs (q :: r) y := fun y hy => by
        rw [Fs_cons, rise_some (by omega), if_neg (by omega)]
      have g1 := g.1
      refine ⟨by omega, ?_, fun y hy => ?_, i4⟩
      · show bnd (t + h - l) (q :: r) = _
        rw [i2, e1 l' (by omega)]
        rw [show t + h - l + Fs (q :: r) l' = t + (h - l + Fs (q :: r) l') by omega]
      · rw [e1 y (by omega), e1 l' (by omega), i3 y hy]
        omega
    | none =>
      rw [c] at ih
      refine ⟨fun y => ?_, ih.2⟩
      have := ih.1 y
      rw [Fs_cons]
      show t + (rise y (l, some h) + Fs (q :: r) y) ≤ bnd (t + h - l) (q :: r)
      have b : rise y (l, some h) ≤ h - l := by
        unfold rise
        dsimp only
        (repeat' split) <;> omega
      omega
def val (st : Option Int) (rs : Rs) (nv : Option Int) (k : Option Int) : Option Int := match st, k with
  | some s, some k => some (s + Fs rs k)
  | _, _ => nv
/-- the greatest x with f(x) ≥ x; the least with f(x) ≤ x -/
def grt (s : Int) (rs : Rs) : Option Int := (fp rs (s + 1) 0).map (· - 1)
def lst (s : Int) (rs : Rs) : Option Int := fp rs s 0
theorem lst_spec {s : Int} {rs : Rs} (g : Good (-1) rs) (hs : 0 ≤ s) : match lst s rs with
    | some x => 0 ≤ x ∧ ∀ y, 0 ≤ y → (s + Fs rs y ≤ y ↔ x ≤ y)
    | none => ∀ y, 0 ≤ y → y < s + Fs rs y := by
  have h := fp_spec (rs := rs) (A := s) (E := 0) g hs
  unfold lst
  cases e : fp rs s 0 with
  | some x =>
    rw [e] at h
    refine ⟨h.1, fun y hy => ?_⟩
    have := h.2 y hy
    constructor
    · intro z
      exact this.mp (by omega)
    · intro z
      have := this.mpr z
      omega
  | none =>
    rw [e] at h
    intro y hy
    have := h y hy
    omega
theorem grt_spec {s : Int} {rs : Rs} (g : Good (-1) rs) (hs : 0 ≤ s) : match grt s rs with
    | some x => 0 ≤ x ∧ ∀ y, 0 ≤ y → (y ≤ s + Fs rs y ↔ y ≤ x)
    | none => ∀ y, 0 ≤ y → y ≤ s + Fs rs y := by
  have h := fp_spec (rs := rs) (A := s + 1) (E := 0) g (by omega)
  unfold grt
  cases e : fp rs (s + 1) 0 with
  | some x =>
    rw [e] at h
    have pos := h.2 0 (by omega)
    have z0 := (Fs_slope (x := 0) (y := 0) (by omega) g).1
    have x1 : ¬ x ≤ 0 := fun z => by
      have := pos.mpr z
      omega
    show 0 ≤ x - 1 ∧ ∀ y, 0 ≤ y → (y ≤ s + Fs rs y ↔ y ≤ x - 1)
    refine ⟨by omega, fun y hy => ?_⟩
    have := h.2 y hy
    constructor
    · intro z
      apply Decidable.byContradiction
      intro q
      have := this.mpr (by omega)
      omega
    · intro z
      apply Decidable.byContradiction
      intro q
      have := this.mp (by omega)
      omega
  | none =>
    rw [e] at h
    intro y hy
    have := h y hy
    omega
theorem grt_none {s l : Int} {rs : Rs} (g : Good (-1) rs) (hs : 0 ≤ s) (ho : opn rs = some l) (hl : l ≤ s + Fs rs l) : grt s rs = none := by
  have h := grt_spec g hs
  have e := ends_spec (t := s) g
  rw [ho] at e
  cases c : grt s rs with
  | none => rfl
  | some x =>
    rw [c] at h
    exfalso
    have h1 := h.2 (max l (x + 1)) (by omega)
    have h2 := e.2.2.1 (max l (x + 1)) (by omega)
    have h3 := h1.mp (by omega)
    omega
theorem lst_none {s l : Int} {rs : Rs} (g : Good (-1) rs) (hs : 0 ≤ s) (ho : opn rs = some l) (hl : l < s + Fs rs l) : lst s rs = none := by
  have h := lst_spec g hs
  have e := ends_spec (t := s) g
  rw [ho] at e
  cases c : lst s rs with
  | none => rfl
  | some x =>
    rw [c] at h
    exfalso
    have h1 := h.2 (max l x) (by omega)
    have h2 := e.2.2.1 (max l x) (by omega)
    have h3 := h1.mpr (by omega)
    omega
/-- where the search for the greatest one begins -/
theorem grt_top {s : Int} {rs : Rs} (g : Good (-1) rs) (hs : 0 ≤ s) (hn : ∀ l, opn rs = some l → ¬ l ≤ s + Fs rs l) : s + Fs rs (bnd s rs + 1) < bnd s rs + 1 ∧ 0 ≤ bnd s rs := by
  have e := ends_spec (t := s) g
  have z0 := (Fs_slope (x := 0) (y := 0) (by omega) g).1
  cases c : opn rs with
  | some l =>
    rw [c] at e
    have h1 := hn l c
    obtain ⟨e1, e2, e3, e4⟩ := e
    rw [if_pos (by omega)] at e2
    rw [e2, e3 (l + 1) (by omega)]
    omega
  | none =>
    rw [c] at e
    have h1 := e.1 (bnd s rs + 1)
    have h2 := e.1 0
    omega
theorem lst_top {s : Int} {rs : Rs} (g : Good (-1) rs) (hs : 0 ≤ s) (hn : ∀ l, opn rs = some l → ¬ l < s + Fs rs l) : s + Fs rs (bnd s rs) ≤ bnd s rs ∧ 0 ≤ bnd s rs := by
  have e := ends_spec (t := s) g
  have z0 := (Fs_slope (x := 0) (y := 0) (by omega) g).1
  cases c : opn rs with
  | some l =>
    rw [c] at e
    have h1 := hn l c
    obtain ⟨e1, e2, e3, e4⟩ := e
    by_cases q : l > s + Fs rs l
    · rw [if_pos q] at e2
      rw [e2]
      omega
    · rw [if_neg q] at e2
      have q2 : s + Fs rs l = l := by omega
      rw [e2, q2]
      omega
  | none =>
    rw [c] at e
    have h1 := e.1 (bnd s rs)
    have h2 := e.1 0
    omega
theorem grt_is {s x : Int} {rs : Rs} (g : Good (-1) rs) (hs : 0 ≤ s) (h0 : 0 ≤ x) (h1 : x ≤ s + Fs rs x) (h2 : s + Fs rs (x + 1) < x + 1) : grt s rs = some x := by
  have h := grt_spec g hs
  cases c : grt s rs with
  | none =>
    rw [c] at h
    have := h (x + 1) (by omega)
    omega
  | some y =>
    rw [c] at h
    have a := (h.2 x h0).mp h1
    have b : ¬ x + 1 ≤ y := fun z => by
      have := (h.2 (x + 1) (by omega)).mpr z
      omega
    rw [show y = x by omega]
theorem lst_is {s x : Int} {rs : Rs} (g : Good (-1) rs) (hs : 0 ≤ s) (h0 : 0 ≤ x) (h1 : s + Fs rs x ≤ x) (h2 : x = 0 ∨ x - 1 < s + Fs rs (x - 1)) : lst s rs = some x := by
  have h := lst_spec g hs
  cases c : lst s rs with
  | none =>
    rw [c] at h
    have := h x h0
    omega
  | some y =>
    rw [c] at h
    have a := (h.2 x h0).mp h1
    have b := h.1
    rcases h2 with z | z
    · rw [show y = x by omega]
    · by_cases hx : x = 0
      · rw [show y = x by omega]
      · have d : ¬ y ≤ x - 1 := fun q => by
          have := (h.2 (x - 1) (by omega)).mpr q
          omega
        rw [show y = x by omega]
end Nd
set_option Elab.async false
set_option linter.all false
set_option maxRecDepth 100000
set_option maxHeartbeats 4000000
namespace Z
open PySem PySem.Spec PyProof.Rows L2 Nd
/-! ### None or a number; pairs; lists of pairs -/
def oV : Option Int → V
  | none => .non
  | some i => .int i
theorem oV_non {o : Option Int} : decide (oV o = V.non) = o.isNone := by cases o <;> rfl
def Ris (b c : Bool) (K : PySem.W.Frag) (H : Hp) (a : Addr) (ps : List Addr) (rs : Rs) : Prop := SqK b K H a (ps.map V.ref) ∧ ps.length = rs.length ∧ ∀ (i : Nat) (p : Addr) (q : Int × Option Int), ps[i]? = some p → rs[i]? = some q → SqK c K H p [.int q.1, oV q.2]
theorem Ris.mono {b c : Bool} {K : PySem.W.Frag} {H H' : Hp} {a : Addr} {ps : List Addr} {rs : Rs} (s : Same H H') (r : Ris b c K H a ps rs) : Ris b c K H' a ps rs := ⟨Z.Same.sqK s r.1, r.2.1, fun i p q h1 h2 => Z.Same.sqK s (r.2.2 i p q h1 h2)⟩
theorem _root_.Z.SqK.or {b : Bool} {K : PySem.W.Frag} {H : Hp} {a : Addr} {xs : List V} (h : SqK b K H a xs) : SqL K H a xs ∨ SqT K H a xs := by
  cases b
  · exact .inr h
  · exact .inl h
/-! ### what is walked: a list or a tuple -/
inductive Eor (A B : Prop) : Prop
  | l : A → Eor A B
  | r : B → Eor A B
def iOr (a b : TI) : TI := fun σ H R => Eor (a σ H R) (b σ H R)
theorem pi_or {X : Cx} {tg e : Expr} {a b : TI} (h1 : PI X tg e a) (h2 : PI X tg e b) : PI X tg e (iOr a b) := by
  constructor
  intro pins s σ H R I h
  rcases h with h | h
  · exact h1.run pins s σ H R I h
  · exact h2.run pins s σ H R I h
theorem pi_seq {X : Cx} {tg l : Expr} {tl : TE} (h : PE X l tl) : PI X tg l (iOr (iList X.K tl) (iTup X.K tl)) := pi_or (pi_list h) (pi_tup h)
def ItS (b : Bool) (K : PySem.W.Frag) (a : Addr) : It := match b with
  | true => Itl K a
  | false => Itt K a
theorem its_go {b : Bool} {K : PySem.W.Frag} {H : Hp} {a : Addr} {xs : List V} {i : Nat} {x : V} (h : SqK b K H a xs) (e : xs[i]? = some x) : (ItS b K a).go i H := by
  cases b
  · exact ⟨_, _, h, e⟩
  · exact ⟨_, _, h, e⟩
theorem its_stop {b : Bool} {K : PySem.W.Frag} {H : Hp} {a : Addr} {xs : List V} {i : Nat} (h : SqK b K H a xs) (e : xs.length ≤ i) : (ItS b K a).stop i H := by
  cases b
  · exact ⟨_, h, e⟩
  · exact ⟨_, h, e⟩
theorem its_yld {b : Bool} {K : PySem.W.Frag} {H H' : Hp} {a : Addr} {xs : List V} {i : Nat} {x : V} (h : SqK b K H a xs) (y : (ItS b K a).yld i H x H') : H' = H ∧ xs[i]? = some x := by
  cases b
  · exact ⟨y.1, y.2 _ h⟩
  · exact ⟨y.1, y.2 _ h⟩
theorem iSeq_of {b : Bool} {K : PySem.W.Frag} {σ : L2.St} {H : Hp} {tl : TE} {R : It → Hp → Prop} {a : Addr} {xs : List V} (h : ∀ Q : VK, Q (.ref a) H → tl σ H Q) (hs : SqK b K H a xs) (q : R (ItS b K a) H) : iOr (iList K tl) (iTup K tl) σ H R := by
  cases b
  · exact .r (h _ ⟨a, rfl, ⟨_, hs⟩, q⟩)
  · exact .l (h _ ⟨a, rfl, ⟨_, hs⟩, q⟩)
abbrev gPair (K : PySem.W.Frag) (i j : Nat) : TG := gOr (gUnl K 2 (gCons (gName i) (gCons (gName j) gNil))) (gTup K 2 (gCons (gName i) (gCons (gName j) gNil)))
theorem gpair_of {c : Bool} {K : PySem.W.Frag} {i j : Nat} {p : Addr} {x y : V} {σ : L2.St} {H : Hp} {Q : L2.St → Hp → Prop} (h : SqK c K H p [x, y]) (q : Q ((σ.set i (some x)).set j (some y)) H) : gPair K i j (.ref p) σ H Q := by
  cases c
  · exact .inr ⟨p, _, rfl, h, rfl, x, [y], rfl, y, [], rfl, rfl, q⟩
  · exact .inl ⟨p, _, rfl, h, rfl, x, [y], rfl, y, [], rfl, rfl, q⟩
/-- for low, high in rises, the list standing still -/
theorem for_pairs {b c : Bool} {K : PySem.W.Frag} {a : Addr} {ps : List Addr} {rs : Rs} {H0 : Hp} {i1 i2 j : Nat} {tb : TS} {D : Ends} {σ : L2.St} {H : Hp} (hR : Ris b c K H0 a ps rs) (s0 : Same H0 H) (hj : σ[j]? = some (some (.ref a))) (Pv : Nat → L2.St → Hp → Prop) (h0 : Pv 0 σ H) (hq : ∀ i σ H1, Pv i σ H1 → Same H0 H1)
    (hs : ∀ (i : Nat) (l : Int) (h : Option Int) (σ : L2.St) (H1 : Hp), rs[i]? = some (l, h) → Pv i σ H1 → tb { D with nx := Pv (i + 1), ct := Pv (i + 1), bk := D.nx } ((σ.set i1 (some (.int l))).set i2 (some (oV h))) H1)
    (hd : ∀ σ H1, Pv rs.length σ H1 → D.nx σ H1) : tFor (iOr (iList K (tVar j)) (iTup K (tVar j))) (gPair K i1 i2) tb D σ H := by
  refine iSeq_of (b := b) (fun Q q => ⟨_, hj, q⟩) (Z.Same.sqK s0 hR.1) ?_
  refine for_gen (n := rs.length) Pv h0 ?_ ?_ ?_ hd
  · intro i σ1 H1 hi p
    have hi2 : i < ps.length := by rw [hR.2.1]; exact hi
    exact its_go (x := .ref ps[i]) (Z.Same.sqK (hq i σ1 H1 p) hR.1) (by rw [List.getElem?_map, List.getElem?_eq_getElem hi2]; rfl)
  · intro σ1 H1 p
    exact its_stop (Z.Same.sqK (hq _ σ1 H1 p) hR.1) (by rw [List.length_map, hR.2.1]; exact Nat.le_refl _)
  · intro i σ1 H1 x H' hi p y
    have s1 := hq i σ1 H1 p
    obtain ⟨rfl, ex⟩ := its_yld (Z.Same.sqK s1 hR.1) y
    obtain ⟨q, eq, rfl⟩ := of_map ex
    have er : rs[i]? = some (rs[i].1, rs[i].2) := List.getElem?_eq_getElem hi
    exact gpair_of (Z.Same.sqK s1 (hR.2.2 i q _ eq er)) (hs i _ _ σ1 H' er p)
abbrev FnM (K : PySem.W.Frag) (x q : Str) (st : Stmt) (f : Addr) (fd : FuncData) : Prop := FunD K x q (defArgs st) (defBody st) (defScope st) [] [] f fd
theorem fnr_of {P : Program} {w : World} {K : PySem.W.Frag} {mg : Str → Option Value} {base : Heap} {k : Nat} {f : Addr} {fd : FuncData} {ps : List Str} {sp : Sp} (F : FnOk P w K mg base CX0 k f fd ps sp) (b : Binds K fd ps []) : FnR P w K mg base CX0 k f sp := (FnOk.raw (dvs := []) F b .nil).imp fun vs H Q E h => by
  show sp (vs ++ []) H Q E
  rw [List.append_nil]
  exact h
theorem relv_ref {a : Addr} : L2.RelV (.ref a) (.ref a) := rfl
/-- an if that only guards -/
theorem cut_stay {t u : TS} {D : Ends} {σ : L2.St} {H : Hp} (h : t { D with nx := fun σ' H' => σ' = σ ∧ H' = H } σ H) (h2 : u D σ H) : C8.tCut t u D σ H := ⟨_, h, fun σ' H' z => by
  obtain ⟨rfl, rfl⟩ := z
  exact h2⟩
/-- the fields of a need -/
def NeedAt (C : Addr) (K : PySem.W.Frag) (H : Hp) (n : Addr) (st : Option Int) (rs : Rs) (nv : Option Int) : Prop := ∃ dx r ps, H n = some (.ins C dx [("start", oV st), ("rises", .ref r), ("never", oV nv)]) ∧ Ris false false K H r ps rs ∧ H r = some (.tup (ps.map V.ref))
theorem NeedAt.mono {C : Addr} {K : PySem.W.Frag} {H H' : Hp} {n : Addr} {st nv : Option Int} {rs : Rs} (s : Same H H') (h : NeedAt C K H n st rs nv) : NeedAt C K H' n st rs nv := by
  obtain ⟨dx, r, ps, e, h2, h3⟩ := h
  exact ⟨dx, r, ps, s _ _ e, h2.mono s, s _ _ h3⟩
/-- for pair in rises, a tuple standing still -/
theorem for_prs {c : Bool} {K : PySem.W.Frag} {a : Addr} {ps : List Addr} {rs : Rs} {H0 : Hp} {i1 : Nat} {tb : TS} {D : Ends} {σ : L2.St} {H : Hp} (hR : Ris false c K H0 a ps rs) (Pv : Nat → L2.St → Hp → Prop) (h0 : Pv 0 σ H) (hq : ∀ i σ H1, Pv i σ H1 → Same H0 H1)
    (hs : ∀ (i : Nat) (p : Addr) (l : Int) (h : Option Int) (σ : L2.St) (H1 : Hp), rs[i]? = some (l, h) → SqK c K H1 p [.int l, oV h] → Pv i σ H1 → tb { D with nx := Pv (i + 1), ct := Pv (i + 1), bk := D.nx } (σ.set i1 (some (.ref p))) H1)
    (hd : ∀ σ H1, Pv rs.length σ H1 → D.nx σ H1) : forW (Itt K a) (gName i1) tb D σ H := by
  refine for_gen (n := rs.length) Pv h0 ?_ ?_ ?_ hd
  · intro i σ1 H1 hi p
    have hi2 : i < ps.length := by rw [hR.2.1]; exact hi
    exact its_go (b := false) (x := .ref ps[i]) (Z.Same.sqK (hq i σ1 H1 p) hR.1) (by rw [List.getElem?_map, List.getElem?_eq_getElem hi2]; rfl)
  · intro σ1 H1 p
    exact its_stop (b := false) (Z.Same.sqK (hq _ σ1 H1 p) hR.1) (by rw [List.length_map, hR.2.1]; exact Nat.le_refl _)
  · intro i σ1 H1 x H' hi p y
    have s1 := hq i σ1 H1 p
    obtain ⟨rfl, ex⟩ := its_yld (b := false) (Z.Same.sqK s1 hR.1) y
    obtain ⟨q, eq, rfl⟩ := of_map ex
    have er : rs[i]? = some (rs[i].1, rs[i].2) := List.getElem?_eq_getElem hi
    exact hs i q _ _ σ1 H' er (Z.Same.sqK s1 (hR.2.2 i q _ eq er)) p
end Z
set_option Elab.async false
set_option linter.all false
set_option maxRecDepth 100000
set_option maxHeartbeats 4000000
namespace Z
open Nd
open PySem PySem.Spec PyProof.Rows L2
open C8 (pss_cut tCut)
local macro_rules | `(tactic| walk_at "num") => `(tactic| first | rfl | omega | decide | exact Nat.le_of_lt (small1000 (by simp)) | exact ⟨by omega, by omega⟩ | exact ⟨by omega, by omega, by omega⟩ | exact ⟨by decide, by decide, by decide⟩ | exact Or.inl ⟨by omega, by omega⟩ | exact Or.inr ⟨by omega, by omega⟩)
local macro_rules | `(tactic| walk_at "go") => `(tactic| repeat (first | refine ⟨_, rfl, ?_⟩ | refine ⟨_, _, rfl, rfl, ?_⟩ | refine ⟨_, _, rfl, ?_⟩ | refine ⟨_, _, rfl, rfl, (by walk_at "num"), ?_⟩ | refine Or.inl ⟨_, rfl, ?_⟩ | refine ⟨_, _, _, _, rfl, rfl, (by assumption), (by rfl), ?_⟩ | refine ⟨_, _, _, _, _, rfl, (by assumption), (by assumption), (by assumption), (by rfl), ?_⟩ | refine ⟨rfl, ?_⟩ | refine And.intro (by walk_at "num") ?_))
abbrev s_value_at : Stmt := topS 7
abbrev N_value_at : List Str := ["start", "rises", "k", "value", "low", "high", "top"]
abbrev P_value_at : List Str := ["start", "rises", "k"]
theorem sc_value_at : FnScope N_value_at P_value_at (defScope s_value_at) := ⟨rfl, rfl, rfl, by decide +kernel, rfl, by decide +kernel, by decide +kernel⟩
abbrev s_greatest_value : Stmt := topS 18
abbrev N_greatest_value : List Str := ["start", "rises", "top", "edge", "low", "high"]
abbrev P_greatest_value : List Str := ["start", "rises"]
theorem sc_greatest_value : FnScope N_greatest_value P_greatest_value (defScope s_greatest_value) := ⟨rfl, rfl, rfl, by decide +kernel, rfl, by decide +kernel, by decide +kernel⟩
abbrev s_Need___init__ : Stmt := inClass (topS 19) 0
abbrev N_Need___init__ : List Str := ["self", "start", "rises", "never", "top", "low", "high"]
abbrev P_Need___init__ : List Str := ["self", "start", "rises", "never"]
theorem sc_Need___init__ : FnScope N_Need___init__ P_Need___init__ (defScope s_Need___init__) := ⟨rfl, rfl, rfl, by decide +kernel, rfl, by decide +kernel, by decide +kernel⟩
abbrev s_Need_value_for : Stmt := inClass (topS 19) 1
abbrev N_Need_value_for : List Str := ["self", "k"]
abbrev P_Need_value_for : List Str := ["self", "k"]
theorem sc_Need_value_for : FnScope N_Need_value_for P_Need_value_for (defScope s_Need_value_for) := ⟨rfl, rfl, rfl, by decide +kernel, rfl, by decide +kernel, by decide +kernel⟩
abbrev s_Need___call__ : Stmt := inClass (topS 19) 2
abbrev N_Need___call__ : List Str := ["self", "needed"]
abbrev P_Need___call__ : List Str := ["self", "needed"]
theorem sc_Need___call__ : FnScope N_Need___call__ P_Need___call__ (defScope s_Need___call__) := ⟨rfl, rfl, rfl, by decide +kernel, rfl, by decide +kernel, by decide +kernel⟩
abbrev s_Need___eq__ : Stmt := inClass (topS 19) 3
abbrev N_Need___eq__ : List Str := ["self", "other"]
abbrev P_Need___eq__ : List Str := ["self", "other"]
theorem sc_Need___eq__ : FnScope N_Need___eq__ P_Need___eq__ (defScope s_Need___eq__) := ⟨rfl, rfl, rfl, by decide +kernel, rfl, by decide +kernel, by decide +kernel⟩
section
variable {P : Program} {w : World} {K : PySem.W.Frag} {mg : Str → Option Value} {base : Heap} {f C : Addr} {fd : FuncData}
/-! ### value_at -/
def spValueAt (K : PySem.W.Frag) : Sp := fun vs H Q _ => ∃ (b c : Bool) (s k : Int) (r : Addr) (ps : List Addr) (rs : Rs), vs = [.int s, .ref r, .int k] ∧ Ris b c K H r ps rs ∧ Good (-1) rs ∧ Q (.int (s + Fs rs k)) H
theorem ok_value_at (F : FnP K "value_at" s_value_at f fd) : FnOk P w K mg base CX0 1 f fd P_value_at (spValueAt K) := by
  refine F.ok sc_value_at (fun vs H Q E h => ?_) (fun cdv A outer s H vs Q E hr h => ?_)
  · obtain ⟨b, c, s, k, r, ps, rs, rfl, _⟩ := h
    rfl
  · obtain ⟨b, c, s, k, r, ps, rs, rfl, hR, hg, q⟩ := h
    refine ⟨_, PSs.nox (pss_cons (ps_set (i := 3) sc_value_at.nd rfl (by first | exact .inl rfl | exact .inr rfl) (pv 0))
      (pss_cons (ps_for PassesOwn.never rfl (pi_seq (pv 1)) (pg_or (pg_unl rfl (pgs_cons (pg_name (i := 4) sc_value_at.nd rfl (by first | exact .inl rfl | exact .inr rfl)) (pgs_cons (pg_name (i := 5) sc_value_at.nd rfl (by first | exact .inl rfl | exact .inr rfl)) pgs_nil))) (pg_tup rfl (pgs_cons (pg_name (i := 4) sc_value_at.nd rfl (by first | exact .inl rfl | exact .inr rfl)) (pgs_cons (pg_name (i := 5) sc_value_at.nd rfl (by first | exact .inl rfl | exact .inr rfl)) pgs_nil))))
        (pss_cons (ps_if (pt_cmpR op_le (pv 2) (pv 4) (nomark _)) (pss_one ps_break) pss_nil)
      (pss_cons (ps_set (i := 6) sc_value_at.nd rfl (by first | exact .inl rfl | exact .inr rfl) (pe_ifExp (PW.pt (pw_or (pt_cmpR op_isN (pv 5) pe_non (nomark _)) (pw_or1 (pt_cmpR op_lt (pv 2) (pv 5) (nomark _))))) (pv 2) (pv 5)))
      (pss_one (ps_set (i := 3) sc_value_at.nd rfl (by first | exact .inl rfl | exact .inr rfl) (pe_op op_sub (pe_op op_add (pv 3) (pv 6)) (pv 4)))))))
      (pss_one (ps_ret (pv 3))))), ?_⟩
    walk_at "go"
    refine for_pairs (j := 1) hR (Same.refl H) (by rfl) (fun i σ H1 => H1 = H ∧ ∃ (x : Int) (v4 v5 v6 : Option V), x = s + Fs (rs.take i) k ∧ σ = [some (.int s), some (.ref r), some (.int k), some (.int x), v4, v5, v6]) ⟨rfl, s, none, none, none, ?_, rfl⟩ ?_ ?_ ?_
    · rw [List.take_zero, Fs_nil, Int.add_zero]
    · rintro i σ H1 ⟨rfl, _⟩
      exact Same.refl _
    · rintro i l h σ H1 hi ⟨rfl, x, v4, v5, v6, ex, rfl⟩
      walk_at "go"
      refine ite2 (fun e => ?_) (fun e => ?_)
      · have hk : k ≤ l := of_decide_eq_true e
        refine ⟨_, rfl, ?_⟩
        rw [ex, ← Fs_stop hg hi hk]
        exact q
      · have hk : ¬ k ≤ l := fun z => e (decide_eq_true z)
        have et := Fs_take (k := k) hi
        cases h with
        | none =>
          rw [rise_none (by omega)] at et
          walk_at "go"
          refine ⟨_, _, _, _, ?_, rfl⟩
          omega
        | some y =>
          rw [rise_some (by omega)] at et
          walk_at "go"
          refine ite2 (fun e2 => ?_) (fun e2 => ?_)
          · have hx : k < y := of_decide_eq_true e2
            rw [if_pos hx] at et
            walk_at "go"
            refine ⟨_, _, _, _, ?_, rfl⟩
            omega
          · have hx : ¬ k < y := fun z => e2 (decide_eq_true z)
            rw [if_neg hx] at et
            walk_at "go"
            refine ⟨_, _, _, _, ?_, rfl⟩
            omega
    · rintro σ H1 ⟨rfl, x, v4, v5, v6, ex, rfl⟩
      rw [List.take_length] at ex
      walk_at "go"
      rw [ex]
      exact q
/-! ### greatest_value -/
def tops : Option Int → Rs → Option Int
  | none, _ => none
  | some s, rs => top s rs
def Fit : Option Int → Rs → Prop
  | none, rs => rs = []
  | some _, rs => Good (-1) rs
def spGreatest (K : PySem.W.Frag) : Sp := fun vs H Q _ => ∃ (b c : Bool) (st : Option Int) (r : Addr) (ps : List Addr) (rs : Rs), vs = [oV st, .ref r] ∧ Ris b c K H r ps rs ∧ Fit st rs ∧ Q (oV (tops st rs)) H
theorem ok_greatest_value (F : FnP K "greatest_value" s_greatest_value f fd) (m_len : mg "len" = none) : FnOk P w K mg base CX0 1 f fd P_greatest_value (spGreatest K) := by
  refine F.ok sc_greatest_value (fun vs H Q E h => ?_) (fun cdv A outer s H vs Q E hr h => ?_)
  · obtain ⟨b, c, st, r, ps, rs, rfl, _⟩ := h
    rfl
  · obtain ⟨b, c, st, r, ps, rs, rfl, hR, hg, q⟩ := h
    refine ⟨_, PSs.nox (pss_cons (ps_if (pt_cmpR op_isN (pv 0) pe_non (nomark _)) (pss_cons (ps_if (pt_cmpR op_gt (pe_callB call_len_seq (by rfl) m_len PySem.boot_len (pa_cons (pv 1) pa_nil)) pe_int (nomark _)) (pss_one ps_never) pss_nil)
      (pss_one (ps_ret pe_non))) pss_nil)
      (pss_cons (ps_par (i := 2) (j := 3) (by rfl) sc_greatest_value.nd rfl rfl (by decide) rfl rfl (pa_cons (pv 0) (pa_cons (pe_un un_neg pe_int) pa_nil)) (by rfl))
      (pss_cons (ps_for PassesOwn.never rfl (pi_seq (pv 1)) (pg_or (pg_unl rfl (pgs_cons (pg_name (i := 4) sc_greatest_value.nd rfl (by first | exact .inl rfl | exact .inr rfl)) (pgs_cons (pg_name (i := 5) sc_greatest_value.nd rfl (by first | exact .inl rfl | exact .inr rfl)) pgs_nil))) (pg_tup rfl (pgs_cons (pg_name (i := 4) sc_greatest_value.nd rfl (by first | exact .inl rfl | exact .inr rfl)) (pgs_cons (pg_name (i := 5) sc_greatest_value.nd rfl (by first | exact .inl rfl | exact .inr rfl)) pgs_nil))))
        (pss_cons (ps_if (PW.pt (pw_or (pt_cmpR op_isN (pv 3) pe_non (nomark _)) (pw_or (pt_cmpR op_le (pv 4) (pv 3) (nomark _)) (pw_or1 (PW.pt (pw_and (pt_cmpR op_notN (pv 5) pe_non (nomark _)) (pw_and1 (pt_cmpR op_le (pv 5) (pv 4) (nomark _))))))))) (pss_one ps_never) pss_nil)
      (pss_cons (ps_set (i := 2) sc_greatest_value.nd rfl (by first | exact .inl rfl | exact .inr rfl) (pe_ifExp (pt_cmpR op_isN (pv 5) pe_non (nomark _)) pe_non (pe_op op_sub (pe_op op_add (pv 2) (pv 5)) (pv 4))))
      (pss_one (ps_set (i := 3) sc_greatest_value.nd rfl (by first | exact .inl rfl | exact .inr rfl) (pv 5))))))
      (pss_one (ps_ret (pv 2)))))), ?_⟩
    cases st with
    | none =>
      have hg : rs = [] := hg
      subst hg
      walk_at "go"
      refine ⟨r, _, rfl, hR.1.or, ?_⟩
      walk_at "go"
      have e0 : ps = [] := List.length_eq_zero_iff.mp hR.2.1
      subst e0
      walk_at "go"
      refine ite2 (fun e => ?_) (fun e => ?_)
      · cases e
      walk_at "go"
      exact q
    | some s =>
      have hg : Good (-1) rs := hg
      walk_at "go"
      refine for_pairs (j := 1) hR (Same.refl H) (by rfl) (fun i σ H1 => H1 = H ∧ ∃ (t e : Option Int) (v4 v5 : Option V), σ = [some (.int s), some (.ref r), some (oV t), some (oV e), v4, v5] ∧ match t, e with
        | some t, some e => Good e (rs.drop i) ∧ top t (rs.drop i) = top s rs
        | t, none => rs.drop i = [] ∧ t = none ∧ top s rs = none
        | none, some e => False) ⟨rfl, some s, some (-1), none, none, rfl, hg, rfl⟩ ?_ ?_ ?_
      · rintro i σ H1 ⟨rfl, _⟩
        exact Same.refl _
      · rintro i l h σ H1 hi ⟨rfl, t, e, v4, v5, rfl, z⟩
        have hd : rs.drop i = (l, h) :: rs.drop (i + 1) := by
          rw [List.drop_eq_getElem?_toList_append, hi]
          rfl
        rw [hd] at z
        cases e with
        | none => cases t <;> cases z.1
        | some e =>
          cases t with
          | none => cases z
          | some t =>
            obtain ⟨z1, z2⟩ := z
            have z0 : e < l := by cases h <;> exact z1.1
            walk_at "go"
            refine ite2 (fun e => ?_) (fun e => ?_)
            · have := of_decide_eq_true e
              omega
            · cases h with
              | none =>
                walk_at "go"
                exact ⟨none, none, _, _, rfl, z1.2, rfl, z2.symm⟩
              | some y =>
                walk_at "go"
                refine ite2 (fun e => ?_) (fun e => ?_)
                · have := of_decide_eq_true e
                  have := z1.2.1
                  omega
                · walk_at "go"
                  exact ⟨some (t + y - l), some y, _, _, rfl, z1.2.2, z2⟩
      · rintro σ H1 ⟨rfl, t, e, v4, v5, rfl, z⟩
        rw [List.drop_length] at z
        walk_at "go"
        have et : t = top s rs := by
          cases e with
          | none => cases t <;> rw [z.2.2] <;> first | rfl | exact z.2.1
          | some e =>
            cases t with
            | none => cases z
            | some t => exact z.2
        rw [et]
        exact q
end
end Z
set_option Elab.async false
set_option linter.all false
set_option maxRecDepth 100000
set_option maxHeartbeats 4000000
namespace Z
open Nd
open PySem PySem.Spec PyProof.Rows L2
open C8 (pss_cut tCut)
local macro_rules | `(tactic| walk_at "num") => `(tactic| first | rfl | omega | decide | exact Nat.le_of_lt (small1000 (by simp)) | exact ⟨by omega, by omega⟩ | exact ⟨by omega, by omega, by omega⟩ | exact ⟨by decide, by decide, by decide⟩ | exact Or.inl ⟨by omega, by omega⟩ | exact Or.inr ⟨by omega, by omega⟩)
local macro_rules | `(tactic| walk_at "go") => `(tactic| repeat (first | refine ⟨_, rfl, ?_⟩ | refine ⟨_, _, rfl, rfl, ?_⟩ | refine ⟨_, _, rfl, ?_⟩ | refine ⟨_, _, rfl, rfl, (by walk_at "num"), ?_⟩ | refine Or.inl ⟨_, rfl, ?_⟩ | refine ⟨_, _, _, _, rfl, rfl, (by assumption), (by rfl), ?_⟩ | refine ⟨_, _, _, _, _, rfl, (by assumption), (by assumption), (by assumption), (by rfl), ?_⟩ | refine ⟨rfl, ?_⟩ | refine And.intro (by walk_at "num") ?_))
/-- the comprehension that copies the pairs -/
theorem lc_copy {b c : Bool} {K : PySem.W.Frag} {a D : Addr} {ps : List Addr} {rs : Rs} {H0 : Hp} {i j : Nat} {te : TE} {vs : List Nat} {σ : L2.St} {Qd : Hp → Prop} (hR : Ris b c K H0 a ps rs) (hb : rs.length ≤ 100000) (nD : H0 D = none)
    (hw : ∀ x y : V, wipe (((wipe σ vs).set i (some x)).set j (some y)) vs = wipe σ vs)
    (ht : ∀ x y H1 (Q : VK), Same H0 H1 → (∀ T, H1 T = none → Q (.ref T) (upd H1 T (.tup [.int x, oV y]))) → te (((wipe σ vs).set i (some (.int x))).set j (some (oV y))) H1 Q)
    (hd : ∀ H1 (qs : List Addr), Same H0 H1 → H1 D = some (.lst (qs.map V.ref)) → qs.length = rs.length → (∀ (k : Nat) (p : Addr) (q : Int × Option Int), qs[k]? = some p → rs[k]? = some q → H1 p = some (.tup [.int q.1, oV q.2])) → Qd H1) : lcW (ItS b K a) (gPair K i j) tYes te vs σ D Qd H0 := by
  refine lc_gen (n := rs.length) (fun k H1 => Same H0 H1 ∧ ∃ qs : List Addr, H1 D = some (.lst (qs.map V.ref)) ∧ qs.length = k ∧ ∀ (k : Nat) (p : Addr) (q : Int × Option Int), qs[k]? = some p → rs[k]? = some q → H1 p = some (.tup [.int q.1, oV q.2])) ⟨same_new nD, [], upd_same, rfl, fun k p q h => nomatch h⟩ ?_ ?_ ?_ ?_
  · rintro k H1 hk ⟨s, _⟩
    have hi2 : k < ps.length := by rw [hR.2.1]; exact hk
    exact its_go (x := .ref ps[k]) (Z.Same.sqK s hR.1) (by rw [List.getElem?_map, List.getElem?_eq_getElem hi2]; rfl)
  · rintro H1 ⟨s, _⟩
    exact its_stop (Z.Same.sqK s hR.1) (by rw [List.length_map, hR.2.1]; exact Nat.le_refl _)
  · rintro k H1 v H' hk ⟨s, qs, eD, el, eq⟩ y
    obtain ⟨rfl, ex⟩ := its_yld (Z.Same.sqK s hR.1) y
    obtain ⟨p, ep, rfl⟩ := of_map ex
    have er : rs[k]? = some (rs[k].1, rs[k].2) := List.getElem?_eq_getElem hk
    refine gpair_of (Z.Same.sqK s (hR.2.2 k p _ ep er)) ⟨hw _ _, ?_⟩
    refine ht _ _ _ _ s (fun T nT => ?_)
    have sT : Same H' (upd H' T (.tup [.int rs[k].1, oV rs[k].2])) := same_new nT
    refine ⟨_, sT _ _ eD, ?_, ?_, qs ++ [T], ?_, ?_, ?_⟩
    · rw [List.length_map, el]
      exact Nat.lt_of_lt_of_le hk (Nat.le_trans hb (by decide))
    · exact Z.Same.mut (s.trans sT) nD
    · rw [upd_same, List.map_append]
      rfl
    · rw [List.length_append, el]
      rfl
    · intro k2 p2 q2 h1 h2
      have tD : T ≠ D := (ne_of_none eD nT).symm
      by_cases hlt : k2 < qs.length
      · rw [List.getElem?_append_left hlt] at h1
        have z := eq k2 p2 q2 h1 h2
        have pD : p2 ≠ D := fun e => by
          rw [e, eD] at z
          cases z
        rw [upd_ne pD]
        exact sT _ _ z
      · rw [List.getElem?_append_right (by omega)] at h1
        have h3 : k2 - qs.length = 0 := by
          have := (List.getElem?_eq_some_iff.mp h1).1
          simp at this
          omega
        rw [h3] at h1
        obtain rfl : T = p2 := Option.some.inj h1
        have h4 : k2 = k := by omega
        subst h4
        rw [er] at h2
        obtain rfl := Option.some.inj h2
        rw [upd_ne tD, upd_same]
  · rintro H1 ⟨s, qs, eD, el, eq⟩
    exact hd H1 qs s eD el eq
theorem sq_ins {b : Bool} {K : PySem.W.Frag} {H H' : Hp} {n C dx a : Addr} {fs : List (Str × V)} {xs : List V} (s : SB n H H') (hn : H n = some (.ins C dx fs)) (h : SqK b K H a xs) : SqK b K H' a xs := by
  have ne : ∀ {o : HO}, H a = some o → (∀ C dx fs, o ≠ .ins C dx fs) → a ≠ n := fun e z w => by
    rw [w, hn] at e
    exact z _ _ _ (Option.some.inj e).symm
  cases b
  · rcases h with (h | ⟨o, h⟩) | h
    · exact .inl (.inl (s _ _ (ne h fun _ _ _ => nofun) h))
    · exact .inl (.inr ⟨o, s _ _ (ne h fun _ _ _ => nofun) h⟩)
    · exact .inr h
  · rcases h with (h | ⟨o, h⟩) | h
    · exact .inl (.inl (s _ _ (ne h fun _ _ _ => nofun) h))
    · exact .inl (.inr ⟨o, s _ _ (ne h fun _ _ _ => nofun) h⟩)
    · exact .inr h
theorem Ris.ins {b c : Bool} {K : PySem.W.Frag} {H H' : Hp} {n C dx a : Addr} {fs : List (Str × V)} {ps : List Addr} {rs : Rs} (s : SB n H H') (hn : H n = some (.ins C dx fs)) (r : Ris b c K H a ps rs) : Ris b c K H' a ps rs := ⟨sq_ins s hn r.1, r.2.1, fun i p q h1 h2 => sq_ins s hn (r.2.2 i p q h1 h2)⟩
section
variable {P : Program} {w : World} {K : PySem.W.Frag} {mg : Str → Option Value} {base : Heap} {f C : Addr} {fd : FuncData}
def Ok (st : Option Int) (rs : Rs) (nv : Option Int) : Prop := Fit st rs ∧ (∀ s, st = some s → 0 ≤ s) ∧ ∀ v, nv = some v → ∃ t, tops st rs = some t ∧ t ≤ v
/-! ### Need.__init__ -/
def spInit (C : Addr) (K : PySem.W.Frag) : Sp := fun vs H Q _ => ∃ (b c : Bool) (st nv : Option Int) (n dx r : Addr) (ps : List Addr) (rs : Rs), vs = [.ref n, oV st, .ref r, oV nv] ∧ H n = some (.ins C dx []) ∧ Ris b c K H r ps rs ∧ rs.length ≤ 100000 ∧ Ok st rs nv ∧
  ∀ H', SB n H H' → NeedAt C K H' n st rs nv → Q .non H'
theorem ok_init (F : FnM K "__init__" "Need.__init__" s_Need___init__ f fd) (cls : Cls K C) (n_start : NoAttr K C "start") (n_rises : NoAttr K C "rises") (n_never : NoAttr K C "never") (m_tuple : mg "tuple" = none) (c_greatest_value : Cal P w K mg base 1 "greatest_value" (spGreatest K)) : FnOk P w K mg base CX0 2 f fd P_Need___init__ (spInit C K) := by
  refine F.ok sc_Need___init__ (fun vs H Q E h => ?_) (fun cdv A outer s H vs Q E hr h => ?_)
  · obtain ⟨b, c, st, nv, n, dx, r, ps, rs, rfl, _⟩ := h
    rfl
  · obtain ⟨b, c, st, nv, n, dx, r, ps, rs, rfl, hn, hR, hb, ok, q⟩ := h
    refine ⟨_, PSs.nox (pss_cut (ps_if (PW.pt (pw_and (pt_cmpR op_notN (pv 1) pe_non (nomark _)) (pw_and1 (pt_cmpR op_lt (pv 1) pe_int (nomark _))))) (pss_one ps_never) pss_nil)
      (pss_cons (ps_set (i := 4) sc_Need___init__.nd rfl (by first | exact .inl rfl | exact .inr rfl) (pe_cl c_greatest_value hr (by decide) (by rfl) (pa_cons (pv 1) (pa_cons (pv 2) pa_nil))))
      (pss_cut (ps_if (PW.pt (pw_and (pt_cmpR op_notN (pv 3) pe_non (nomark _)) (pw_and1 (PW.pt (pw_or (pt_cmpR op_isN (pv 4) pe_non (nomark _)) (pw_or1 (pt_cmpR op_lt (pv 3) (pv 4) (nomark _)))))))) (pss_one ps_never) pss_nil)
      (pss_cons (ps_fld (pv 0) (pv 1) rfl)
      (pss_cons (ps_fld (pv 0) (pe_callTy call_tuple_of (by rfl) m_tuple (by decide +kernel) (pa_cons (pe_lc (own := [("low", 5), ("high", 6)]) (g := (gOr (gUnl K 2 (gCons (gName 5) (gCons (gName 6) gNil))) (gTup K 2 (gCons (gName 5) (gCons (gName 6) gNil))))) (tt := tYes) (by rfl) sc_Need___init__.nd (pi_seq (pv 2)) (blkOk_by (own := [("low", 5), ("high", 6)]) (N := N_Need___init__) (sc := defScope s_Need___init__) (by decide +kernel)) (fun _ _ _ _ _ => (pg_or (pg_unl rfl (pgs_cons (pg_name (i := 5) sc_Need___init__.nd rfl (by first | exact .inl rfl | exact .inr rfl)) (pgs_cons (pg_name (i := 6) sc_Need___init__.nd rfl (by first | exact .inl rfl | exact .inr rfl)) pgs_nil))) (pg_tup rfl (pgs_cons (pg_name (i := 5) sc_Need___init__.nd rfl (by first | exact .inl rfl | exact .inr rfl)) (pgs_cons (pg_name (i := 6) sc_Need___init__.nd rfl (by first | exact .inl rfl | exact .inr rfl)) pgs_nil))))) (fun _ _ _ _ _ => pts_nil) (fun _ _ _ _ _ => (pe_tup (pa_cons (pv 5) (pa_cons (pv 6) pa_nil))))) pa_nil)) rfl)
      (pss_one (ps_fld (pv 0) (pv 3) rfl))))))), ?_⟩
    refine cut_stay ?_ ?_
    · cases st with
      | none =>
        walk_at "go"
        rfl
      | some s =>
        walk_at "go"
        refine ite2 (fun e => ?_) (fun e => ?_)
        · have := of_decide_eq_true e
          have := ok.2.1 s rfl
          omega
        · exact ⟨rfl, rfl⟩
    walk_at "go"
    refine ⟨b, c, st, r, ps, rs, rfl, hR, ok.1, ?_⟩
    walk_at "go"
    refine cut_stay ?_ ?_
    · cases nv with
      | none =>
        walk_at "go"
        rfl
      | some v =>
        obtain ⟨t, e1, e2⟩ := ok.2.2 v rfl
        rw [e1]
        walk_at "go"
        refine ite2 (fun e => ?_) (fun e => ?_)
        · have := of_decide_eq_true e
          omega
        · walk_at "go"
          rfl
    walk_at "go"
    refine ⟨n, C, dx, _, rfl, hn, cls, n_start, by decide, ?_⟩
    walk_at "go"
    have s1 : SB n H (upd H n (.ins C dx [("start", oV st)])) := SB.upd (fun _ _ _ h => h)
    refine iSeq_of (b := b) (fun Q q => ⟨_, rfl, q⟩) (hR.ins s1 hn).1 ?_
    intro D nD
    refine lc_copy (hR.ins s1 hn) hb nD (fun _ _ => rfl) ?_ ?_
    · intro x y H1 Q1 s2 q1
      walk_at "go"
      exact q1
    · intro H1 qs s2 eD el eq
      walk_at "go"
      refine ⟨D, _, rfl, .inl ⟨.inl (.inl eD), fun t nt => ?_⟩⟩
      walk_at "go"
      have s3 : Same H1 (upd H1 t (.tup (qs.map V.ref))) := same_new nt
      have hn3 := s3 _ _ (s2 _ _ upd_same)
      have nt' : t ≠ n := (ne_of_none (s2 _ _ upd_same) nt).symm
      refine ⟨n, C, dx, _, rfl, hn3, cls, n_rises, (by show (1 : Nat) < 1000; decide), ?_⟩
      walk_at "go"
      refine ⟨n, C, dx, _, rfl, upd_same, cls, n_never, (by show (2 : Nat) < 1000; decide), ?_⟩
      walk_at "go"
      refine q _ ?_ ?_
      · exact SB.upd (SB.upd ((s1.trans (Z.Same.sb s2)).trans (Z.Same.sb s3)))
      · refine ⟨dx, t, qs, upd_same, ⟨?_, el, fun i p q h1 h2 => ?_⟩, ?_⟩
        · exact .inl (.inl (by rw [upd_ne nt', upd_ne nt', upd_same]))
        · have z := eq i p q h1 h2
          have pt : p ≠ t := ne_of_none z nt
          have pn : p ≠ n := fun e => by
            rw [e, s2 _ _ upd_same] at z
            cases z
          exact .inl (.inl (by rw [upd_ne pn, upd_ne pn, upd_ne pt, z]))
        · rw [upd_ne nt', upd_ne nt', upd_same]
/-! ### Need(..) -/
def spNeed (C : Addr) (K : PySem.W.Frag) : Sp := fun vs H Q _ => ∃ (b c : Bool) (st nv : Option Int) (r : Addr) (ps : List Addr) (rs : Rs), vs = [oV st, .ref r, oV nv] ∧ Ris b c K H r ps rs ∧ rs.length ≤ 100000 ∧ Ok st rs nv ∧
  ∀ n H', Same H H' → H n = none → NeedAt C K H' n st rs nv → Q (.ref n) H'
theorem mak_need {si : FnOk P w K mg base CX0 2 f fd P_Need___init__ (spInit C K)} (M : Mk K C f) (hm : mg "Need" = some (.ref C)) (hb : Binds K fd P_Need___init__ []) : Mak P w K mg base 2 "Need" (spNeed C K) := by
  refine ⟨C, f, fd, _, _, M, si, hm, hb, ?_⟩
  rintro vs H Q E ⟨b, c, st, nv, r, ps, rs, rfl, hR, hl, ok, q⟩ n dx n1 n2 n3
  have s1 : Same H (upd (upd H dx (.own n)) n (.ins C dx [])) := Z.Same.mut (same_new n2) n1
  exact ⟨b, c, st, nv, n, dx, r, ps, rs, rfl, upd_same, hR.mono s1, hl, ok, fun H' z1 z2 => ⟨rfl, q n H' (fun a o h => z1 a o (ne_of_none h n1) (s1 a o h)) n1 z2⟩⟩
/-! ### value_for, a call -/
def spCallN (C : Addr) (K : PySem.W.Frag) : Sp := fun vs H Q _ => ∃ (st nv k : Option Int) (n : Addr) (rs : Rs), vs = [.ref n, oV k] ∧ NeedAt C K H n st rs nv ∧ Ok st rs nv ∧ (∀ i, k = some i → 0 ≤ i) ∧ Q (oV (val st rs nv k)) H
theorem ok_value_for (F : FnM K "value_for" "Need.value_for" s_Need_value_for f fd) (cls : Cls K C) (n_start : NoAttr K C "start") (n_rises : NoAttr K C "rises") (n_never : NoAttr K C "never") (c_value_at : Cal P w K mg base 1 "value_at" (spValueAt K)) : FnOk P w K mg base CX0 2 f fd P_Need_value_for (spCallN C K) := by
  refine F.ok sc_Need_value_for (fun vs H Q E h => ?_) (fun cdv A outer s H vs Q E hr h => ?_)
  · obtain ⟨st, nv, k, n, rs, rfl, _⟩ := h
    rfl
  · obtain ⟨st, nv, k, n, rs, rfl, ⟨dx, r, ps, hn, hR, _⟩, ok, hk, q⟩ := h
    refine ⟨_, PSs.nox (pss_cons (ps_if (PW.pt (pw_or (pt_cmpR op_isN (pv 1) pe_non (nomark _)) (pw_or1 (pt_cmpR op_isN (pe_fld (pv 0) rfl) pe_non (nomark _))))) (pss_one (ps_ret (pe_fld (pv 0) rfl))) pss_nil)
      (pss_one (ps_ret (pe_cl c_value_at hr (by decide) (by rfl) (pa_cons (pe_fld (pv 0) rfl) (pa_cons (pe_fld (pv 0) rfl) (pa_cons (pv 1) pa_nil))))))), ?_⟩
    cases st with
    | none =>
      cases k with
      | none =>
        walk_at "go"
        exact q
      | some i =>
        walk_at "go"
        exact q
    | some s =>
      cases k with
      | none =>
        walk_at "go"
        exact q
      | some i =>
        walk_at "go"
        refine ⟨_, _, s, i, r, ps, rs, rfl, hR, ok.1, ?_⟩
        exact q
theorem ok_call (F : FnM K "__call__" "Need.__call__" s_Need___call__ f fd) (me_value_for : Met P w K mg base 2 C "value_for" (spCallN C K)) : FnOk P w K mg base CX0 3 f fd P_Need___call__ (spCallN C K) := by
  refine F.ok sc_Need___call__ (fun vs H Q E h => ?_) (fun cdv A outer s H vs Q E hr h => ?_)
  · obtain ⟨st, nv, k, n, rs, rfl, _⟩ := h
    rfl
  · obtain ⟨st, nv, k, n, rs, rfl, hN, ok, hk, q⟩ := h
    have hN2 := hN
    obtain ⟨dx, r, ps, hn, hR, _⟩ := hN2
    refine ⟨_, PSs.nox (pss_cut (ps_if (PW.pt (pw_and (pt_cmpR op_notN (pv 1) pe_non (nomark _)) (pw_and1 (pt_cmpR op_lt (pv 1) pe_int (nomark _))))) (pss_one ps_never) pss_nil)
      (pss_one (ps_ret (pe_me me_value_for (pv 0) hr (by decide) (pa_cons (pv 1) pa_nil))))), ?_⟩
    refine cut_stay ?_ ?_
    · cases k with
      | none =>
        walk_at "go"
        rfl
      | some i =>
        walk_at "go"
        refine ite2 (fun e => ?_) (fun e => ?_)
        · have := of_decide_eq_true e
          have := hk i rfl
          omega
        · exact ⟨rfl, rfl⟩
    walk_at "go"
    refine ⟨n, dx, _, rfl, hn, rfl, ?_⟩
    walk_at "go"
    exact ⟨st, nv, k, n, rs, rfl, hN, ok, hk, q⟩
end
end Z
set_option Elab.async false
set_option linter.all false
set_option maxRecDepth 100000
set_option maxHeartbeats 4000000
namespace Z
open Nd
open PySem PySem.Spec PyProof.Rows L2
open C8 (pss_cut tCut)
local macro_rules | `(tactic| walk_at "num") => `(tactic| first | rfl | omega | decide | exact Nat.le_of_lt (small1000 (by simp)) | exact ⟨by omega, by omega⟩ | exact ⟨by omega, by omega, by omega⟩ | exact ⟨by decide, by decide, by decide⟩ | exact Or.inl ⟨by omega, by omega⟩ | exact Or.inr ⟨by omega, by omega⟩)
local macro_rules | `(tactic| walk_at "go") => `(tactic| repeat (first | refine ⟨_, rfl, ?_⟩ | refine ⟨_, _, rfl, rfl, ?_⟩ | refine ⟨_, _, rfl, ?_⟩ | refine ⟨_, _, rfl, rfl, (by walk_at "num"), ?_⟩ | refine Or.inl ⟨_, rfl, ?_⟩ | refine ⟨_, _, _, _, rfl, rfl, (by assumption), (by rfl), ?_⟩ | refine ⟨_, _, _, _, _, rfl, (by assumption), (by assumption), (by assumption), (by rfl), ?_⟩ | refine ⟨rfl, ?_⟩ | refine And.intro (by walk_at "num") ?_))
/-! ### == of pairs, of needs -/
def oD : Option Int → PyData
  | none => .none
  | some i => .int i
def pairD (c : Bool) (q : Int × Option Int) : PyData := match c with
  | true => .list [.int q.1, oD q.2]
  | false => .tuple [.int q.1, oD q.2]
def risD (b c : Bool) (rs : Rs) : PyData := match b with
  | true => .list (rs.map (pairD c))
  | false => .tuple (rs.map (pairD c))
theorem dp_o {K : PySem.W.Frag} {H : Hp} : ∀ o : Option Int, Dp K H (oV o) (oD o)
  | none => .non
  | some i => .int i
theorem dpa_pair {K : PySem.W.Frag} {H : Hp} (q : Int × Option Int) : DpAll K H [.int q.1, oV q.2] [.int q.1, oD q.2] := .cons (.int _) (.cons (dp_o _) .nil)
theorem dp_pair {c : Bool} {K : PySem.W.Frag} {H : Hp} {p : Addr} {q : Int × Option Int} (h : SqK c K H p [.int q.1, oV q.2]) : Dp K H (.ref p) (pairD c q) := by
  cases c
  · exact dp_sq (b := false) h (dpa_pair q)
  · exact dp_sq (b := true) h (dpa_pair q)
theorem dpa_ris {c : Bool} {K : PySem.W.Frag} {H : Hp} : ∀ (ps : List Addr) (rs : Rs), ps.length = rs.length → (∀ (i : Nat) (p : Addr) (q : Int × Option Int), ps[i]? = some p → rs[i]? = some q → SqK c K H p [.int q.1, oV q.2]) → DpAll K H (ps.map V.ref) (rs.map (pairD c))
  | [], [], _, _ => .nil
  | p :: ps, r :: rs, hl, h => .cons (dp_pair (h 0 p r rfl rfl)) (dpa_ris ps rs (by simpa using hl) fun i q s h1 h2 => h (i + 1) q s h1 h2)
theorem Ris.dp {b c : Bool} {K : PySem.W.Frag} {H : Hp} {a : Addr} {ps : List Addr} {rs : Rs} (m : Ris b c K H a ps rs) : Dp K H (.ref a) (risD b c rs) := by
  cases b
  · exact dp_sq (b := false) m.1 (dpa_ris ps rs m.2.1 m.2.2)
  · exact dp_sq (b := true) m.1 (dpa_ris ps rs m.2.1 m.2.2)
theorem shaped_pair (c : Bool) (q : Int × Option Int) : SeqAt.shaped (pairD c q) = true := by
  obtain ⟨l, h⟩ := q
  cases c <;> cases h <;> rfl
theorem dep_pair (c : Bool) (q : Int × Option Int) : (pairD c q).depth = 1 := by
  obtain ⟨l, h⟩ := q
  cases c <;> cases h <;> rfl
theorem lay_ris (c : Bool) : ∀ rs : Rs, PyData.canLayAll0 (rs.map (pairD c)) = true
  | [] => rfl
  | n :: r => by
    rw [List.map_cons, PyData.canLayAll0, lay_ris c r, SeqAt.canLay_of_shaped (shaped_pair c n)]
    rfl
theorem dep_ris (c : Bool) : ∀ rs : Rs, PyData.depthAll (rs.map (pairD c)) ≤ 1
  | [] => Nat.zero_le _
  | n :: r => by
    rw [List.map_cons, PyData.depthAll]
    have h := dep_ris c r
    have h2 := dep_pair c n
    omega
theorem shaped_ris (b c : Bool) (rs : Rs) : SeqAt.shaped (risD b c rs) = true := by
  have h := dep_ris c rs
  unfold SeqAt.shaped risD
  cases b
  · show (PyData.canLayAll0 (rs.map (pairD c)) && decide (PyData.depthAll (rs.map (pairD c)) + 1 ≤ 64)) = true
    rw [lay_ris, decide_eq_true (by omega)]
    rfl
  · show (PyData.canLayAll0 (rs.map (pairD c)) && decide (PyData.depthAll (rs.map (pairD c)) + 1 ≤ 64)) = true
    rw [lay_ris, decide_eq_true (by omega)]
    rfl
section
variable {P : Program} {w : World} {K : PySem.W.Frag} {mg : Str → Option Value} {base : Heap} {f C : Addr} {fd : FuncData}
def spEq (C : Addr) (K : PySem.W.Frag) : Sp := fun vs H Q _ => ∃ (st nv : Option Int) (n m : Addr) (rs : Rs), vs = [.ref n, .ref m] ∧ NeedAt C K H n st rs nv ∧ NeedAt C K H m st rs nv ∧ Q (.bl true) H
theorem ok_eq (F : FnM K "__eq__" "Need.__eq__" s_Need___eq__ f fd) (isC : C8.InsC K C) (m_isinstance : mg "isinstance" = none) (g_Need : mg "Need" = some (.ref C)) (cls : Cls K C) (n_start : NoAttr K C "start") (n_rises : NoAttr K C "rises") (n_never : NoAttr K C "never") : FnOk P w K mg base CX0 1 f fd P_Need___eq__ (spEq C K) := by
  refine F.ok sc_Need___eq__ (fun vs H Q E h => ?_) (fun cdv A outer s H vs Q E hr h => ?_)
  · obtain ⟨st, nv, n, m, rs, rfl, _⟩ := h
    rfl
  · obtain ⟨st, nv, n, m, rs, rfl, ⟨dx, r, ps, hn, hR, _⟩, ⟨dx', r', ps', hm, hR', _⟩, q⟩ := h
    refine ⟨_, PSs.nox (pss_one (ps_ret (pe_and (pe_callB (C8.call_isC isC) (by rfl) m_isinstance (by decide +kernel) (pa_cons (pv 1) (pa_cons (pe_glob (by rfl) g_Need relv_ref) pa_nil))) (pe_and (pe_cmpR op_eq (pe_fld (pv 0) rfl) (pe_fld (pv 1) rfl) (nomark _)) (pe_and (pe_cmpR (op_eqD hr.units) (pe_fld (pv 0) rfl) (pe_fld (pv 1) rfl) (nomark _)) (pe_one (pe_cmpR op_eq (pe_fld (pv 0) rfl) (pe_fld (pv 1) rfl) (nomark _)))))))), ?_⟩
    walk_at "go"
    refine ⟨m, dx', _, rfl, hm, ?_⟩
    walk_at "go"
    refine ⟨(by cases st <;> rfl), ?_⟩
    walk_at "go"
    refine ite2 (fun _ => ?_) (fun e => absurd (decide_eq_true rfl) e)
    walk_at "go"
    refine same2 (d := risD false false rs) hR.dp hR'.dp (shaped_ris _ _ _) ?_
    rw [eqv_same (shaped_ris _ _ _)]
    walk_at "go"
    refine ⟨(by cases nv <;> rfl), ?_⟩
    rw [decide_eq_true rfl]
    walk_at "go"
    exact q
end
end Z
set_option Elab.async false
set_option linter.all false
set_option maxRecDepth 100000
set_option maxHeartbeats 4000000
namespace Z
open Nd
open PySem PySem.Spec PyProof.Rows L2
open C8 (pss_cut tCut)
local macro_rules | `(tactic| walk_at "num") => `(tactic| first | rfl | omega | decide | exact Nat.le_of_lt (small1000 (by simp)) | exact ⟨by omega, by omega⟩ | exact ⟨by omega, by omega, by omega⟩ | exact ⟨by decide, by decide, by decide⟩ | exact Or.inl ⟨by omega, by omega⟩ | exact Or.inr ⟨by omega, by omega⟩)
local macro_rules | `(tactic| walk_at "go") => `(tactic| repeat (first | refine ⟨_, rfl, ?_⟩ | refine ⟨_, _, rfl, rfl, ?_⟩ | refine ⟨_, _, rfl, ?_⟩ | refine ⟨_, _, rfl, rfl, (by walk_at "num"), ?_⟩ | refine Or.inl ⟨_, rfl, ?_⟩ | refine ⟨_, _, _, _, rfl, rfl, (by assumption), (by rfl), ?_⟩ | refine ⟨_, _, _, _, _, rfl, (by assumption), (by assumption), (by assumption), (by rfl), ?_⟩ | refine ⟨rfl, ?_⟩ | refine And.intro (by walk_at "num") ?_))
abbrev s_value : Stmt := topS 25
abbrev N_value : List Str := ["_law_need_here", "_law_k", "_law_value_here", "_law_pair"]
abbrev P_value : List Str := ["_law_need_here", "_law_k"]
theorem sc_value : FnScope N_value P_value (defScope s_value) := ⟨rfl, rfl, rfl, by decide +kernel, rfl, by decide +kernel, by decide +kernel⟩
abbrev s_same : Stmt := topS 27
abbrev N_same : List Str := ["_law_told", "_law_due"]
abbrev P_same : List Str := ["_law_told", "_law_due"]
theorem sc_same : FnScope N_same P_same (defScope s_same) := ⟨rfl, rfl, rfl, by decide +kernel, rfl, by decide +kernel, by decide +kernel⟩
abbrev s_at_most : Stmt := topS 28
abbrev N_at_most : List Str := ["_law_a", "_law_b"]
abbrev P_at_most : List Str := ["_law_a", "_law_b"]
theorem sc_at_most : FnScope N_at_most P_at_most (defScope s_at_most) := ⟨rfl, rfl, rfl, by decide +kernel, rfl, by decide +kernel, by decide +kernel⟩
abbrev s_make : Stmt := topS 29
abbrev N_make : List Str := ["_law_need_here"]
abbrev P_make : List Str := ["_law_need_here"]
theorem sc_make : FnScope N_make P_make (defScope s_make) := ⟨rfl, rfl, rfl, by decide +kernel, rfl, by decide +kernel, by decide +kernel⟩
theorem ris_nil {c : Bool} {K : PySem.W.Frag} {H : Hp} {a : Addr} (h : SqT K H a []) : Ris false c K H a [] [] := ⟨h, rfl, fun i p q h => nomatch h⟩
theorem ris_one {c : Bool} {K : PySem.W.Frag} {H : Hp} {a p : Addr} {x : Int} {y : Option Int} (h : SqT K H a [.ref p]) (h2 : SqK c K H p [.int x, oV y]) : Ris false c K H a [p] [(x, y)] := by
  refine ⟨h, rfl, fun i p2 q h3 h4 => ?_⟩
  cases i with
  | zero =>
    obtain rfl := Option.some.inj h3
    obtain rfl := Option.some.inj h4
    exact h2
  | succ i => cases h3
section
variable {P : Program} {w : World} {K : PySem.W.Frag} {mg : Str → Option Value} {base : Heap} {f C : Addr} {fd : FuncData}
/-- the law's own need: a list [start, rises, never] -/
def NL (K : PySem.W.Frag) (H : Hp) (l : Addr) (st : Option Int) (rs : Rs) (nv : Option Int) : Prop := ∃ t ps, SqL K H l [oV st, .ref t, oV nv] ∧ Ris false false K H t ps rs
theorem NL.mono {K : PySem.W.Frag} {H H' : Hp} {l : Addr} {st nv : Option Int} {rs : Rs} (s : Same H H') (h : NL K H l st rs nv) : NL K H' l st rs nv := by
  obtain ⟨t, ps, e, h2⟩ := h
  exact ⟨t, ps, s.seq e, h2.mono s⟩
/-! ### _law_value -/
def spLV (K : PySem.W.Frag) : Sp := fun vs H Q _ => ∃ (st nv k : Option Int) (l : Addr) (rs : Rs), vs = [.ref l, oV k] ∧ NL K H l st rs nv ∧ Q (oV (val st rs nv k)) H
theorem ok_value (F : FnP K "_law_value" s_value f fd) : FnOk P w K mg base CX0 1 f fd P_value (spLV K) := by
  refine F.ok sc_value (fun vs H Q E h => ?_) (fun cdv A outer s H vs Q E hr h => ?_)
  · obtain ⟨st, nv, k, l, rs, rfl, _⟩ := h
    rfl
  · obtain ⟨st, nv, k, l, rs, rfl, ⟨t, ps, hl, hR⟩, q⟩ := h
    refine ⟨_, PSs.nox (pss_cons (ps_if (PW.pt (pw_or (pt_cmpR op_isN (pv 1) pe_non (nomark _)) (pw_or1 (pt_cmpR op_isN (pe_ix ix_list (pv 0) pe_int (fun _ _ => rfl)) pe_non (nomark _))))) (pss_one (ps_ret (pe_ix ix_list (pv 0) pe_int (fun _ _ => rfl)))) pss_nil)
      (pss_cons (ps_set (i := 2) sc_value.nd rfl (by first | exact .inl rfl | exact .inr rfl) (pe_ix ix_list (pv 0) pe_int (fun _ _ => rfl)))
      (pss_cons (ps_for PassesOwn.never rfl (pi_tup (pe_ix ix_list (pv 0) pe_int (fun _ _ => rfl))) (pg_name (i := 3) sc_value.nd rfl (by first | exact .inl rfl | exact .inr rfl))
        (pss_one (ps_if (PW.pt (pw_and (pt_cmpR op_gt (pv 1) (pe_ix ix_tup (pv 3) pe_int (fun _ _ => rfl)) (nomark _)) (pw_and1 (PW.pt (pw_or (pt_cmpR op_isN (pe_ix ix_tup (pv 3) pe_int (fun _ _ => rfl)) pe_non (nomark _)) (pw_or1 (pt_cmpR op_lt (pv 1) (pe_ix ix_tup (pv 3) pe_int (fun _ _ => rfl)) (nomark _)))))))) (pss_one (ps_set (i := 2) sc_value.nd rfl (by first | exact .inl rfl | exact .inr rfl) (pe_op op_sub (pe_op op_add (pv 2) (pv 1)) (pe_ix ix_tup (pv 3) pe_int (fun _ _ => rfl))))) (pss_one (ps_if (pt_cmpR op_gt (pv 1) (pe_ix ix_tup (pv 3) pe_int (fun _ _ => rfl)) (nomark _)) (pss_one (ps_set (i := 2) sc_value.nd rfl (by first | exact .inl rfl | exact .inr rfl) (pe_op op_sub (pe_op op_add (pv 2) (pe_ix ix_tup (pv 3) pe_int (fun _ _ => rfl))) (pe_ix ix_tup (pv 3) pe_int (fun _ _ => rfl))))) pss_nil)))))
      (pss_one (ps_ret (pv 2)))))), ?_⟩
    cases st with
    | none =>
      cases k with
      | none =>
        walk_at "go"
        exact q
      | some i =>
        walk_at "go"
        exact q
    | some s =>
      cases k with
      | none =>
        walk_at "go"
        exact q
      | some k =>
        walk_at "go"
        refine ⟨⟨_, hR.1⟩, ?_⟩
        refine for_prs hR (fun i σ H1 => H1 = H ∧ ∃ (x : Int) (v3 : Option V), x = s + Fs (rs.take i) k ∧ σ = [some (.ref l), some (.int k), some (.int x), v3]) ⟨rfl, s, none, ?_, rfl⟩ ?_ ?_ ?_
        · rw [List.take_zero, Fs_nil, Int.add_zero]
        · rintro i σ H1 ⟨rfl, _⟩
          exact Same.refl _
        · rintro i p lo h σ H1 hi hp ⟨rfl, x, v3, ex, rfl⟩
          have hp : SqT K H1 p [.int lo, oV h] := hp
          have et := Fs_take (k := k) hi
          walk_at "go"
          refine ite2 (fun e => ?_) (fun e => ?_)
          · have hk : lo < k := of_decide_eq_true e
            cases h with
            | none =>
              rw [rise_none (by omega)] at et
              walk_at "go"
              refine ⟨_, _, ?_, rfl⟩
              omega
            | some y =>
              rw [rise_some (by omega)] at et
              walk_at "go"
              refine ite2 (fun e2 => ?_) (fun e2 => ?_)
              · have hx : k < y := of_decide_eq_true e2
                rw [if_pos hx] at et
                walk_at "go"
                refine ⟨_, _, ?_, rfl⟩
                omega
              · have hx : ¬ k < y := fun z => e2 (decide_eq_true z)
                rw [if_neg hx] at et
                walk_at "go"
                refine ite2 (fun e3 => ?_) (fun e3 => absurd (decide_eq_true hk) e3)
                walk_at "go"
                refine ⟨_, _, ?_, rfl⟩
                omega
          · have hk : ¬ lo < k := fun z => e (decide_eq_true z)
            rw [rise_zero (show k ≤ (lo, h).1 by show k ≤ lo; omega)] at et
            walk_at "go"
            refine ite2 (fun e3 => absurd (of_decide_eq_true e3) hk) (fun e3 => ?_)
            refine ⟨rfl, _, _, ?_, rfl⟩
            omega
        · rintro σ H1 ⟨rfl, x, v3, ex, rfl⟩
          rw [List.take_length] at ex
          walk_at "go"
          rw [ex]
          exact q
/-! ### _law_same, _law_at_most -/
def spSame : Sp := fun vs H Q _ => ∃ a : Option Int, vs = [oV a, oV a] ∧ Q (.bl true) H
theorem ok_same (F : FnP K "_law_same" s_same f fd) (m_isinstance : mg "isinstance" = none) (m_int : mg "int" = none) (m_bool : mg "bool" = none) : FnOk P w K mg base CX0 1 f fd P_same spSame := by
  refine F.ok sc_same (fun vs H Q E h => ?_) (fun cdv A outer s H vs Q E hr h => ?_)
  · obtain ⟨a, rfl, _⟩ := h
    rfl
  · obtain ⟨a, rfl, q⟩ := h
    refine ⟨_, PSs.nox (pss_cons (ps_if (pt_cmpR op_isN (pv 1) pe_non (nomark _)) (pss_one (ps_ret (pe_cmpR op_isN (pv 0) pe_non (nomark _)))) pss_nil)
      (pss_one (ps_ret (pe_and (pe_callB call_isi (by rfl) m_isinstance (by decide +kernel) (pa_cons (pv 0) (pa_cons (pe_bltn (v := .ty "int") (by rfl) m_int (by decide +kernel) rfl) pa_nil))) (pe_and (pe_not (pe_callB call_isi (by rfl) m_isinstance (by decide +kernel) (pa_cons (pv 0) (pa_cons (pe_bltn (v := .ty "bool") (by rfl) m_bool (by decide +kernel) rfl) pa_nil)))) (pe_one (pe_cmpR op_eq (pv 0) (pv 1) (nomark _)))))))), ?_⟩
    cases a with
    | none =>
      walk_at "go"
      exact q
    | some i =>
      walk_at "go"
      refine isi (c := "int") (b := true) (.int i) (by decide +kernel) ?_
      walk_at "go"
      refine isi (c := "bool") (b := false) (.int i) (by decide +kernel) ?_
      walk_at "go"
      rw [decide_eq_true rfl]
      exact q
def am : Option Int → Option Int → Bool
  | _, none => true
  | none, some _ => false
  | some x, some y => decide (x ≤ y)
def spAm : Sp := fun vs H Q _ => ∃ a b : Option Int, vs = [oV a, oV b] ∧ Q (.bl (am a b)) H
theorem ok_at_most (F : FnP K "_law_at_most" s_at_most f fd) : FnOk P w K mg base CX0 1 f fd P_at_most spAm := by
  refine F.ok sc_at_most (fun vs H Q E h => ?_) (fun cdv A outer s H vs Q E hr h => ?_)
  · obtain ⟨a, b, rfl, _⟩ := h
    rfl
  · obtain ⟨a, b, rfl, q⟩ := h
    refine ⟨_, PSs.nox (pss_cons (ps_if (pt_cmpR op_isN (pv 1) pe_non (nomark _)) (pss_one (ps_ret pe_bl)) pss_nil)
      (pss_one (ps_ret (pe_and (pe_cmpR op_notN (pv 0) pe_non (nomark _)) (pe_one (pe_cmpR op_le (pv 0) (pv 1) (nomark _))))))), ?_⟩
    cases b with
    | none =>
      walk_at "go"
      cases a <;> exact q
    | some y =>
      cases a with
      | none =>
        walk_at "go"
        exact q
      | some x =>
        walk_at "go"
        exact q
/-! ### _law_make, _law_sound -/
def spMake (C : Addr) (K : PySem.W.Frag) : Sp := fun vs H Q _ => ∃ (st nv : Option Int) (l : Addr) (rs : Rs), vs = [.ref l] ∧ NL K H l st rs nv ∧ Ok st rs nv ∧ rs.length ≤ 100000 ∧ ∀ n H', Same H H' → NeedAt C K H' n st rs nv → Q (.ref n) H'
theorem ok_make (F : FnP K "_law_make" s_make f fd) (k_Need : Mak P w K mg base 2 "Need" (spNeed C K)) : FnOk P w K mg base CX0 4 f fd P_make (spMake C K) := by
  refine F.ok sc_make (fun vs H Q E h => ?_) (fun cdv A outer s H vs Q E hr h => ?_)
  · obtain ⟨st, nv, l, rs, rfl, _⟩ := h
    rfl
  · obtain ⟨st, nv, l, rs, rfl, ⟨t, ps, hl, hR⟩, ok, hb, q⟩ := h
    refine ⟨_, PSs.nox (pss_one (ps_ret (pe_mk k_Need hr (by decide) (by rfl) (pa_cons (pe_ix ix_list (pv 0) pe_int (fun _ _ => rfl)) (pa_cons (pe_ix ix_list (pv 0) pe_int (fun _ _ => rfl)) (pa_cons (pe_ix ix_list (pv 0) pe_int (fun _ _ => rfl)) pa_nil)))))), ?_⟩
    walk_at "go"
    exact ⟨false, false, st, nv, t, ps, rs, rfl, hR, hb, ok, fun n H' s1 _ h1 => q n H' s1 h1⟩
end
end Z
set_option Elab.async false
set_option linter.all false
set_option maxRecDepth 100000
set_option maxHeartbeats 4000000
namespace Z
open Nd
open PySem PySem.Spec PyProof.Rows L2
open C8 (pss_cut tCut)
local macro_rules | `(tactic| walk_at "num") => `(tactic| first | rfl | omega | decide | exact Nat.le_of_lt (small1000 (by simp)) | exact ⟨by omega, by omega⟩ | exact ⟨by omega, by omega, by omega⟩ | exact ⟨by decide, by decide, by decide⟩ | exact Or.inl ⟨by omega, by omega⟩ | exact Or.inr ⟨by omega, by omega⟩)
local macro_rules | `(tactic| walk_at "go") => `(tactic| repeat (first | refine ⟨_, rfl, ?_⟩ | refine ⟨_, _, rfl, rfl, ?_⟩ | refine ⟨_, _, rfl, ?_⟩ | refine ⟨_, _, rfl, rfl, (by walk_at "num"), ?_⟩ | refine Or.inl ⟨_, rfl, ?_⟩ | refine ⟨_, _, _, _, rfl, rfl, (by assumption), (by rfl), ?_⟩ | refine ⟨_, _, _, _, _, rfl, (by assumption), (by assumption), (by assumption), (by rfl), ?_⟩ | refine ⟨rfl, ?_⟩ | refine And.intro (by walk_at "num") ?_))
abbrev s_points : Stmt := topS 26
abbrev N_points : List Str := ["_law_need_here", "_law_points_here", "_law_pair"]
abbrev P_points : List Str := ["_law_need_here"]
theorem sc_points : FnScope N_points P_points (defScope s_points) := ⟨rfl, rfl, rfl, by decide +kernel, rfl, by decide +kernel, by decide +kernel⟩
def LOk (st : Option Int) (rs : Rs) (nv : Option Int) : Prop := Ok st rs nv ∧ rs.length ≤ 10 ∧ ∀ s, st = some s → bnd s rs ≤ 10 ^ 39
theorem LOk.good {st nv : Option Int} {rs : Rs} (h : LOk st rs nv) : Good (-1) rs := by
  cases st with
  | none =>
    have : rs = [] := h.1.1
    rw [this]
    trivial
  | some s => exact h.1.1
theorem LOk.nv {rs : Rs} {nv : Option Int} (h : LOk none rs nv) : nv = none := by
  cases nv with
  | none => rfl
  | some v =>
    obtain ⟨t, e, _⟩ := h.1.2.2 v rfl
    cases e
theorem good_at : ∀ {rs : Rs} {e : Int} {i : Nat} {l : Int} {h : Option Int}, Good e rs → rs[i]? = some (l, h) → e < l ∧ ∀ y, h = some y → l < y
  | [], _, i, _, _, _, z => by cases i <;> cases z
  | (l, none) :: r, e, 0, _, _, g, z => by
    cases z
    exact ⟨g.1, nofun⟩
  | (l, some x) :: r, e, 0, _, _, g, z => by
    cases z
    exact ⟨g.1, fun y hy => by cases hy; exact g.2.1⟩
  | (l, none) :: r, e, i + 1, _, _, g, z => by
    have : r = [] := g.2
    subst this
    cases i <;> cases z
  | (l, some x) :: r, e, i + 1, _, _, g, z => by
    have g1 := g.1
    have g2 := g.2.1
    have ih := good_at (i := i) g.2.2 z
    exact ⟨by omega, ih.2⟩
def Pos (pts : List (Option Int)) : Prop := ∀ k ∈ pts, ∀ i, k = some i → 0 ≤ i
theorem Pos.append {a b : List (Option Int)} (ha : Pos a) (hb : Pos b) : Pos (a ++ b) := fun k hk => by
  rcases List.mem_append.mp hk with h | h
  · exact ha k h
  · exact hb k h
theorem pos3 {x y z : Int} (h1 : 0 ≤ x) (h2 : 0 ≤ y) (h3 : 0 ≤ z) : Pos [some x, some y, some z] := fun k hk i e => by
  rcases List.mem_cons.mp hk with h | hk
  · rw [h] at e; cases e; exact h1
  rcases List.mem_cons.mp hk with h | hk
  · rw [h] at e; cases e; exact h2
  rcases List.mem_cons.mp hk with h | hk
  · rw [h] at e; cases e; exact h3
  · cases hk
section
variable {P : Program} {w : World} {K : PySem.W.Frag} {mg : Str → Option Value} {base : Heap} {f C : Addr} {fd : FuncData}
/-! ### _law_points -/
def spPoints (K : PySem.W.Frag) : Sp := fun vs H Q _ => ∃ (st nv : Option Int) (l : Addr) (rs : Rs), vs = [.ref l] ∧ NL K H l st rs nv ∧ LOk st rs nv ∧ ∀ q H' pts, Same H H' → H' q = some (.lst (pts.map oV)) → Pos pts → pts.length ≤ 65 → Q (.ref q) H'
theorem ok_points (F : FnP K "_law_points" s_points f fd) (m_max : mg "max" = none) : FnOk P w K mg base CX0 1 f fd P_points (spPoints K) := by
  refine F.ok sc_points (fun vs H Q E h => ?_) (fun cdv A outer s H vs Q E hr h => ?_)
  · obtain ⟨st, nv, l, rs, rfl, _⟩ := h
    rfl
  · obtain ⟨st, nv, l, rs, rfl, ⟨t, ps, hl, hR⟩, ok, q⟩ := h
    refine ⟨_, PSs.nox (pss_cons (ps_set (i := 1) sc_points.nd rfl (by first | exact .inl rfl | exact .inr rfl) (pe_lst (pa_cons pe_int (pa_cons pe_int (pa_cons pe_int (pa_cons (pe_op op_pow pe_int pe_int) (pa_cons pe_non pa_nil)))))))
      (pss_cons (ps_for PassesOwn.never rfl (pi_tup (pe_ix ix_list (pv 0) pe_int (fun _ _ => rfl))) (pg_name (i := 2) sc_points.nd rfl (by first | exact .inl rfl | exact .inr rfl))
        (pss_cons (ps_set (i := 1) sc_points.nd rfl (by first | exact .inl rfl | exact .inr rfl) (pe_op op_cat (pv 1) (pe_lst (pa_cons (pe_callB (call_max2 rfl) (by rfl) m_max (by decide +kernel) (pa_cons pe_int (pa_cons (pe_op op_sub (pe_ix ix_tup (pv 2) pe_int (fun _ _ => rfl)) pe_int) pa_nil))) (pa_cons (pe_ix ix_tup (pv 2) pe_int (fun _ _ => rfl)) (pa_cons (pe_op op_add (pe_ix ix_tup (pv 2) pe_int (fun _ _ => rfl)) pe_int) pa_nil))))))
      (pss_one (ps_if (pt_cmpR op_notN (pe_ix ix_tup (pv 2) pe_int (fun _ _ => rfl)) pe_non (nomark _)) (pss_one (ps_set (i := 1) sc_points.nd rfl (by first | exact .inl rfl | exact .inr rfl) (pe_op op_cat (pv 1) (pe_lst (pa_cons (pe_op op_sub (pe_ix ix_tup (pv 2) pe_int (fun _ _ => rfl)) pe_int) (pa_cons (pe_ix ix_tup (pv 2) pe_int (fun _ _ => rfl)) (pa_cons (pe_op op_add (pe_ix ix_tup (pv 2) pe_int (fun _ _ => rfl)) pe_int) pa_nil))))))) pss_nil))))
      (pss_one (ps_ret (pv 1))))), ?_⟩
    walk_at "go"
    intro q0 nq
    have s0 : Same H (upd H q0 (.lst [.int 0, .int 1, .int 2, .int (10 ^ 60), .non])) := same_new nq
    have hl0 := s0.seq hl
    walk_at "go"
    refine ⟨⟨_, (hR.mono s0).1⟩, ?_⟩
    refine for_prs (hR.mono s0) (fun i σ H1 => Same (upd H q0 (.lst [.int 0, .int 1, .int 2, .int (10 ^ 60), .non])) H1 ∧ ∃ (q1 : Addr) (pts : List (Option Int)) (v2 : Option V), σ = [some (.ref l), some (.ref q1), v2] ∧ H1 q1 = some (.lst (pts.map oV)) ∧ Pos pts ∧ pts.length ≤ 5 + 6 * i) ⟨Same.refl _, q0, [some 0, some 1, some 2, some (10 ^ 60), none], none, rfl, upd_same, ?_, by decide⟩ ?_ ?_ ?_
    · intro k hk i e
      rcases List.mem_cons.mp hk with h | hk
      · rw [h] at e; cases e; decide
      rcases List.mem_cons.mp hk with h | hk
      · rw [h] at e; cases e; decide
      rcases List.mem_cons.mp hk with h | hk
      · rw [h] at e; cases e; decide
      rcases List.mem_cons.mp hk with h | hk
      · rw [h] at e; cases e; decide
      rcases List.mem_cons.mp hk with h | hk
      · rw [h] at e; cases e
      · cases hk
    · rintro i σ H1 ⟨s1, _⟩
      exact s1
    · rintro i p lo h σ H1 hi hp ⟨s1, q1, pts, v2, rfl, e1, hp1, hl1⟩
      have hp : SqT K H1 p [.int lo, oV h] := hp
      obtain ⟨g1, g2⟩ := good_at ok.good hi
      have hq1 : SqL K H1 q1 (pts.map oV) := SqL.of e1
      have hi3 : i < rs.length := (List.getElem?_eq_some_iff.mp hi).1
      have hr3 := ok.2.1
      walk_at "go"
      intro b1 nb1
      walk_at "go"
      have s2 : Same H1 (upd H1 b1 (.lst [.int (if lo - 1 > 0 then lo - 1 else 0), .int lo, .int (lo + 1)])) := same_new nb1
      refine ⟨q1, b1, _, _, rfl, rfl, s2 _ _ e1, upd_same, ?_, ?_⟩
      · rw [List.length_map]
        exact Nat.le_trans (show pts.length + 3 ≤ 1000 by omega) (by decide)
      intro q2 nq2
      have s3 := same_new (o := .lst (pts.map oV ++ [.int (if lo - 1 > 0 then lo - 1 else 0), .int lo, .int (lo + 1)])) nq2
      have hp3 : SqT K _ p [.int lo, oV h] := Z.Same.sqT (s2.trans s3) hp
      have hpos : Pos (pts ++ [some (if lo - 1 > 0 then lo - 1 else 0), some lo, some (lo + 1)]) := hp1.append (pos3 (by split <;> omega) (by omega) (by omega))
      have e2 : upd (upd H1 b1 (.lst [.int (if lo - 1 > 0 then lo - 1 else 0), .int lo, .int (lo + 1)])) q2 (.lst (pts.map oV ++ [.int (if lo - 1 > 0 then lo - 1 else 0), .int lo, .int (lo + 1)])) q2 = some (.lst ((pts ++ [some (if lo - 1 > 0 then lo - 1 else 0), some lo, some (lo + 1)]).map oV)) := by
        rw [upd_same, List.map_append]
        rfl
      have len2 : (pts ++ [some (if lo - 1 > 0 then lo - 1 else 0), some lo, some (lo + 1)]).length ≤ 5 + 6 * i + 3 := by
        rw [List.length_append]
        show pts.length + 3 ≤ _
        omega
      have s4 := s2.trans s3
      cases h with
      | none =>
        walk_at "go"
        exact ⟨s1.trans s4, q2, _, _, rfl, e2, hpos, by omega⟩
      | some y =>
        have g3 := g2 y rfl
        walk_at "go"
        intro b2 nb2
        have s5 := same_new (o := .lst [.int (y - 1), .int y, .int (y + 1)]) nb2
        refine ⟨q2, b2, _, _, rfl, rfl, s5 _ _ e2, upd_same, ?_, ?_⟩
        · rw [List.length_map]
          exact Nat.le_trans (show _ + 3 ≤ 1000 by omega) (by decide)
        intro q3 nq3
        have s6 := same_new (o := .lst ((pts ++ [some (if lo - 1 > 0 then lo - 1 else 0), some lo, some (lo + 1)]).map oV ++ [.int (y - 1), .int y, .int (y + 1)])) nq3
        refine ⟨s1.trans (s4.trans (s5.trans s6)), q3, (pts ++ [some (if lo - 1 > 0 then lo - 1 else 0), some lo, some (lo + 1)]) ++ [some (y - 1), some y, some (y + 1)], _, rfl, ?_, hpos.append (pos3 (by omega) (by omega) (by omega)), ?_⟩
        · rw [upd_same]
          simp only [List.map_append]
          rfl
        · rw [List.length_append]
          show _ + 3 ≤ _
          omega
    · rintro σ H1 ⟨s1, q1, pts, v2, rfl, e1, hp1, hl1⟩
      have := ok.2.1
      walk_at "go"
      exact q q1 H1 pts (s0.trans s1) e1 hp1 (by omega)
end
end Z
set_option Elab.async false
set_option linter.all false
set_option maxRecDepth 100000
set_option maxHeartbeats 4000000
namespace Z
open Nd
open PySem PySem.Spec PyProof.Rows L2
open C8 (pss_cut tCut)
local macro_rules | `(tactic| walk_at "num") => `(tactic| first | rfl | omega | decide | exact Nat.le_of_lt (small1000 (by simp)) | exact ⟨by omega, by omega⟩ | exact ⟨by omega, by omega, by omega⟩ | exact ⟨by decide, by decide, by decide⟩ | exact Or.inl ⟨by omega, by omega⟩ | exact Or.inr ⟨by omega, by omega⟩)
local macro_rules | `(tactic| walk_at "go") => `(tactic| repeat (first | refine ⟨_, rfl, ?_⟩ | refine ⟨_, _, rfl, rfl, ?_⟩ | refine ⟨_, _, rfl, ?_⟩ | refine ⟨_, _, rfl, rfl, (by walk_at "num"), ?_⟩ | refine Or.inl ⟨_, rfl, ?_⟩ | refine ⟨_, _, _, _, rfl, rfl, (by assumption), (by rfl), ?_⟩ | refine ⟨_, _, _, _, _, rfl, (by assumption), (by assumption), (by assumption), (by rfl), ?_⟩ | refine ⟨rfl, ?_⟩ | refine And.intro (by walk_at "num") ?_))
abbrev s_need : Stmt := topS 24
abbrev N_need : List Str := ["_law_draws_here", "_law_place", "_law_kind", "_law_start", "_law_rises", "_law_top", "_law_edge", "_law_k", "_law_width", "_law_never"]
abbrev P_need : List Str := ["_law_draws_here", "_law_place"]
theorem sc_need : FnScope N_need P_need (defScope s_need) := ⟨rfl, rfl, rfl, by decide +kernel, rfl, by decide +kernel, by decide +kernel⟩
/-! ### closed pairs, ending before z -/
def Gd : Int → Rs → Int → Prop
  | e, [], z => e < z
  | e, (l, some h) :: r, z => e < l ∧ l < h ∧ Gd h r z
  | _, (_, none) :: _, _ => False
theorem Gd.good : ∀ {rs : Rs} {e z : Int}, Gd e rs z → Good e rs
  | [], _, _, _ => trivial
  | (_, some _) :: _, _, _, g => ⟨g.1, g.2.1, g.2.2.good⟩
  | (_, none) :: _, _, _, g => by cases g
theorem Gd.snoc : ∀ {rs : Rs} {e z h z' : Int}, Gd e rs z → z < h → h < z' → Gd e (rs ++ [(z, some h)]) z'
  | [], _, _, _, _, g, a, b => ⟨g, a, b⟩
  | (_, some _) :: _, _, _, _, _, g, a, b => ⟨g.1, g.2.1, g.2.2.snoc a b⟩
  | (_, none) :: _, _, _, _, _, g, _, _ => by cases g
theorem Gd.opened : ∀ {rs : Rs} {e z l : Int} {h : Option Int}, Gd e (rs ++ [(l, h)]) z → Good e (rs ++ [(l, none)])
  | [], _, _, _, some _, g => ⟨g.1, rfl⟩
  | [], _, _, _, none, g => by cases g
  | (_, some _) :: _, _, _, _, _, g => ⟨g.1, g.2.1, g.2.2.opened⟩
  | (_, none) :: _, _, _, _, _, g => by cases g
theorem top_snoc : ∀ {rs : Rs} {e z t T h : Int}, Gd e rs z → top t rs = some T → top t (rs ++ [(z, some h)]) = some (T + h - z)
  | [], _, z, t, T, h, _, e => by
    cases e
    rfl
  | (_, some _) :: r, _, _, _, _, _, g, e => top_snoc (rs := r) g.2.2 e
  | (_, none) :: _, _, _, _, _, _, g, _ => by cases g
theorem bnd_closed : ∀ {rs : Rs} {e z t T : Int}, Gd e rs z → top t rs = some T → bnd t rs = T
  | [], _, _, _, _, _, e => Option.some.inj e
  | (_, some _) :: r, _, _, _, _, g, e => bnd_closed (rs := r) g.2.2 e
  | (_, none) :: _, _, _, _, _, g, _ => by cases g
theorem bnd_open : ∀ {rs : Rs} {e z t T l : Int} {h : Option Int}, Gd e (rs ++ [(l, h)]) z → top t (rs ++ [(l, h)]) = some T → bnd t (rs ++ [(l, none)]) ≤ max T l ∧ l < z
  | [], e, z, t, T, l, some h, g, k => by
    have k : t + h - l = T := Option.some.inj k
    have g1 := g.2.1
    have g2 : h < z := g.2.2
    show (if l > t then l else t) ≤ _ ∧ _
    split <;> omega
  | [], _, _, _, _, _, none, g, _ => by cases g
  | (_, some _) :: r, _, _, _, _, _, _, g, k => bnd_open (rs := r) g.2.2 k
  | (_, none) :: _, _, _, _, _, _, _, g, _ => by cases g
/-! ### the draws -/
structure Tk (K : PySem.W.Frag) (a p : Addr) (ds : List Int) (n : Nat) (H0 H1 : Hp) : Prop where
  hA : H1 a = some (.lst (ds.map V.int))
  hd : Dr n ds
  ne : a ≠ p
  sb : SB p H0 H1
  pl : ∃ m : Nat, H1 p = some (.lst [.int (m : Int)])
theorem Tk.more {K : PySem.W.Frag} {a p : Addr} {ds : List Int} {n : Nat} {H0 H1 H2 : Hp} (t : Tk K a p ds n H0 H1) (s : Same H1 H2) : Tk K a p ds n H0 H2 := by
  obtain ⟨m, e⟩ := t.pl
  exact ⟨s _ _ t.hA, t.hd, t.ne, t.sb.trans (Z.Same.sb s), m, s _ _ e⟩
theorem Tk.mut {K : PySem.W.Frag} {a p q : Addr} {ds : List Int} {n : Nat} {H0 H1 : Hp} {o : HO} (t : Tk K a p ds n H0 H1) (h : H0 q = none) (h2 : SB q H1 (upd H1 q o)) (nq : q ≠ p) (na : upd H1 q o a = some (.lst (ds.map V.int))) : Tk K a p ds n H0 (upd H1 q o) := by
  obtain ⟨m, e⟩ := t.pl
  refine ⟨na, t.hd, t.ne, fun b u n1 n2 => ?_, m, h2 _ _ nq.symm e⟩
  exact h2 _ _ (ne_of_none n2 h) (t.sb b u n1 n2)
theorem Tk.next {K : PySem.W.Frag} {a p : Addr} {ds : List Int} {n m : Nat} {H0 H1 : Hp} (t : Tk K a p ds n H0 H1) (e : H1 p = some (.lst [.int (m : Int)])) : Tk K a p ds n H0 (upd H1 p (.lst [.int ((m + 1 : Nat) : Int)])) ∧ SB p H1 (upd H1 p (.lst [.int ((m + 1 : Nat) : Int)])) := by
  have sb : SB p H1 (upd H1 p (.lst [.int ((m + 1 : Nat) : Int)])) := SB.upd (Z.Same.sb (Same.refl H1))
  exact ⟨⟨sb _ _ t.ne t.hA, t.hd, t.ne, t.sb.trans sb, m + 1, upd_same⟩, sb⟩
/-! ### the list of pairs while it grows -/
def RisH (H : Hp) (a : Addr) (ps : List Addr) (rs : Rs) : Prop := H a = some (.lst (ps.map V.ref)) ∧ ps.length = rs.length ∧ ∀ (i : Nat) (p : Addr) (q : Int × Option Int), ps[i]? = some p → rs[i]? = some q → H p = some (.tup [.int q.1, oV q.2])
theorem RisH.sb {H H' : Hp} {a p : Addr} {ps : List Addr} {rs : Rs} {xs : List V} (s : SB p H H') (ne : a ≠ p) (hp : H p = some (.lst xs)) (r : RisH H a ps rs) : RisH H' a ps rs := ⟨s _ _ ne r.1, r.2.1, fun i q z h1 h2 => by
  have e := r.2.2 i q z h1 h2
  refine s _ _ (fun w => ?_) e
  rw [w, hp] at e
  cases e⟩
theorem RisH.more {H H' : Hp} {a : Addr} {ps : List Addr} {rs : Rs} (s : Same H H') (r : RisH H a ps rs) : RisH H' a ps rs := ⟨s _ _ r.1, r.2.1, fun i q z h1 h2 => s _ _ (r.2.2 i q z h1 h2)⟩
theorem RisH.ris {K : PySem.W.Frag} {H : Hp} {a : Addr} {ps : List Addr} {rs : Rs} (r : RisH H a ps rs) : Ris true false K H a ps rs := ⟨SqL.of r.1, r.2.1, fun i q z h1 h2 => .inl (.inl (r.2.2 i q z h1 h2))⟩
theorem RisH.snoc {H : Hp} {a T : Addr} {ps : List Addr} {rs : Rs} {x : Int} {y : Option Int} (r : RisH H a ps rs) (hT : H T = some (.tup [.int x, oV y])) : RisH (upd H a (.lst (ps.map V.ref ++ [.ref T]))) a (ps ++ [T]) (rs ++ [(x, y)]) := by
  have ne : ∀ {q : Addr} {xs : List V}, H q = some (.tup xs) → q ≠ a := fun e w => by
    rw [w, r.1] at e
    cases e
  refine ⟨by rw [upd_same, List.map_append]; rfl, by rw [List.length_append, List.length_append, r.2.1]; rfl, fun i q z h1 h2 => ?_⟩
  by_cases hlt : i < ps.length
  · rw [List.getElem?_append_left hlt] at h1
    rw [List.getElem?_append_left (by rw [← r.2.1]; exact hlt)] at h2
    have e := r.2.2 i q z h1 h2
    rw [upd_ne (ne e)]
    exact e
  · rw [List.getElem?_append_right (by omega)] at h1
    rw [List.getElem?_append_right (by rw [← r.2.1]; omega)] at h2
    have h3 : i - ps.length = 0 := by
      have := (List.getElem?_eq_some_iff.mp h1).1
      simp at this
      omega
    rw [h3] at h1
    rw [← r.2.1, h3] at h2
    obtain rfl : T = q := Option.some.inj h1
    obtain rfl := Option.some.inj h2
    rw [upd_ne (ne hT)]
    exact hT
theorem cut_last (xs : List V) (v : V) : cutV (xs ++ [v]) none (some (-1)) = xs := by
  unfold cutV
  have h0 : HT.sIx (xs ++ [v]).length 0 none = 0 := rfl
  have h1 : HT.sIx (xs ++ [v]).length (xs ++ [v]).length (some (-1)) = xs.length := by
    rw [List.length_append]
    show HT.sIx (xs.length + 1) (xs.length + 1) (some (-1)) = xs.length
    unfold HT.sIx
    simp
    omega
  rw [h0, h1]
  simp
section
variable {P : Program} {w : World} {K : PySem.W.Frag} {mg : Str → Option Value} {base : Heap} {f C : Addr} {fd : FuncData}
def spLN (K : PySem.W.Frag) : Sp := fun vs H Q _ => ∃ (a p : Addr) (n : Nat) (ds : List Int), vs = [.ref a, .ref p] ∧ Tk K a p ds n H H ∧ ∀ l H' st rs nv, SB p H H' → NL K H' l st rs nv → LOk st rs nv → Q (.ref l) H'
theorem ok_need (F : FnP K "_law_need" s_need f fd) (m_int : mg "int" = none) (m_range : mg "range" = none) (m_len : mg "len" = none) (m_tuple : mg "tuple" = none) (c_take : Cal P w K mg base 1 "_law_take" (spTake K)) : FnOk P w K mg base CX0 2 f fd P_need (spLN K) := by
  refine F.ok sc_need (fun vs H Q E h => ?_) (fun cdv A outer s H vs Q E hr h => ?_)
  · obtain ⟨a, p, n, ds, rfl, _⟩ := h
    rfl
  · obtain ⟨a, p, n, ds, rfl, hT, q⟩ := h
    have hS := hT.hA
    refine ⟨_, PSs.nox (pss_cons (ps_set (i := 2) sc_need.nd rfl (by first | exact .inl rfl | exact .inr rfl) (pe_cl c_take hr (by decide) (by rfl) (pa_cons (pv 0) (pa_cons (pv 1) pa_nil))))
      (pss_cons (ps_if (pt_cmpR op_eq (pe_op op_mod (pe_callTy call_int1 (by rfl) m_int (by decide +kernel) (pa_cons (pv 2) pa_nil)) pe_int) pe_int (nomark _)) (pss_one (ps_ret (pe_lst (pa_cons pe_non (pa_cons (pe_tup pa_nil) (pa_cons pe_non pa_nil)))))) pss_nil)
      (pss_cons (ps_set (i := 3) sc_need.nd rfl (by first | exact .inl rfl | exact .inr rfl) (pe_op op_mod (pe_callTy call_int1 (by rfl) m_int (by decide +kernel) (pa_cons (pe_cl c_take hr (by decide) (by rfl) (pa_cons (pv 0) (pa_cons (pv 1) pa_nil))) pa_nil)) pe_int))
      (pss_cut (ps_if (pt_cmpR op_eq (pe_op op_mod (pe_callTy call_int1 (by rfl) m_int (by decide +kernel) (pa_cons (pe_op op_fdiv (pv 2) pe_int) pa_nil)) pe_int) pe_int (nomark _)) (pss_one (ps_set (i := 3) sc_need.nd rfl (by first | exact .inl rfl | exact .inr rfl) (pe_op op_add (pv 3) (pe_op op_pow pe_int pe_int)))) pss_nil)
      (pss_cons (ps_set (i := 4) sc_need.nd rfl (by first | exact .inl rfl | exact .inr rfl) (pe_lst pa_nil))
      (pss_cons (ps_set (i := 5) sc_need.nd rfl (by first | exact .inl rfl | exact .inr rfl) (pv 3))
      (pss_cons (ps_set (i := 6) sc_need.nd rfl (by first | exact .inl rfl | exact .inr rfl) (pe_op op_mod (pe_callTy call_int1 (by rfl) m_int (by decide +kernel) (pa_cons (pe_cl c_take hr (by decide) (by rfl) (pa_cons (pv 0) (pa_cons (pv 1) pa_nil))) pa_nil)) pe_int))
      (pss_cons (ps_for PassesOwn.never rfl (pi_range1 (by rfl) m_range (pa_cons (pe_op op_mod (pe_callTy call_int1 (by rfl) m_int (by decide +kernel) (pa_cons (pe_cl c_take hr (by decide) (by rfl) (pa_cons (pv 0) (pa_cons (pv 1) pa_nil))) pa_nil)) pe_int) pa_nil)) (pg_name (i := 7) sc_need.nd rfl (by first | exact .inl rfl | exact .inr rfl))
        (pss_cons (ps_set (i := 8) sc_need.nd rfl (by first | exact .inl rfl | exact .inr rfl) (pe_op op_add pe_int (pe_op op_mod (pe_callTy call_int1 (by rfl) m_int (by decide +kernel) (pa_cons (pe_cl c_take hr (by decide) (by rfl) (pa_cons (pv 0) (pa_cons (pv 1) pa_nil))) pa_nil)) pe_int)))
      (pss_cut (ps_if (pt_cmpR op_eq (pe_op op_mod (pe_callTy call_int1 (by rfl) m_int (by decide +kernel) (pa_cons (pe_op op_fdiv (pv 2) pe_int) pa_nil)) pe_int) pe_int (nomark _)) (pss_one (ps_set (i := 8) sc_need.nd rfl (by first | exact .inl rfl | exact .inr rfl) (pe_op op_mul (pv 8) (pe_op op_pow pe_int pe_int)))) pss_nil)
      (pss_cons (ps_expr (pe_bm PySem.F.plainAttrs_list PySem.F.slot_list_append PySem.F.type_list_append mt_append (pv 4) (pa_cons (pe_tup (pa_cons (pv 6) (pa_cons (pe_op op_add (pv 6) (pv 8)) pa_nil))) pa_nil)))
      (pss_cons (ps_set (i := 5) sc_need.nd rfl (by first | exact .inl rfl | exact .inr rfl) (pe_op op_add (pv 5) (pv 8)))
      (pss_one (ps_set (i := 6) sc_need.nd rfl (by first | exact .inl rfl | exact .inr rfl) (pe_op op_add (pe_op op_add (pe_op op_add (pv 6) (pv 8)) pe_int) (pe_op op_mod (pe_callTy call_int1 (by rfl) m_int (by decide +kernel) (pa_cons (pe_cl c_take hr (by decide) (by rfl) (pa_cons (pv 0) (pa_cons (pv 1) pa_nil))) pa_nil)) pe_int)))))))))
      (pss_cut (ps_if (PW.pt (pw_and (pt_cmpR op_gt (pe_callB call_len_seq (by rfl) m_len PySem.boot_len (pa_cons (pv 4) pa_nil)) pe_int (nomark _)) (pw_and1 (pt_cmpR op_eq (pe_op op_mod (pe_callTy call_int1 (by rfl) m_int (by decide +kernel) (pa_cons (pe_op op_fdiv (pv 2) pe_int) pa_nil)) pe_int) pe_int (nomark _))))) (pss_one (ps_ret (pe_lst (pa_cons (pv 3) (pa_cons (pe_callTy call_tuple_of (by rfl) m_tuple (by decide +kernel) (pa_cons (pe_op op_cat (pe_slice sl_list (pv 4) po_none (po_some (pe_un un_neg pe_int))) (pe_lst (pa_cons (pe_tup (pa_cons (pe_ix ix_tup (pe_ix ix_list (pv 4) (pe_un un_neg pe_int) (fun _ _ => rfl)) pe_int (fun _ _ => rfl)) (pa_cons pe_non pa_nil))) pa_nil))) pa_nil)) (pa_cons pe_non pa_nil)))))) pss_nil)
      (pss_cons (ps_set (i := 9) sc_need.nd rfl (by first | exact .inl rfl | exact .inr rfl) pe_non)
      (pss_cut (ps_if (pt_cmpR op_eq (pe_op op_mod (pe_callTy call_int1 (by rfl) m_int (by decide +kernel) (pa_cons (pe_op op_fdiv (pv 2) pe_int) pa_nil)) pe_int) pe_int (nomark _)) (pss_one (ps_set (i := 9) sc_need.nd rfl (by first | exact .inl rfl | exact .inr rfl) (pe_op op_add (pv 5) (pe_op op_mod (pe_callTy call_int1 (by rfl) m_int (by decide +kernel) (pa_cons (pe_cl c_take hr (by decide) (by rfl) (pa_cons (pv 0) (pa_cons (pv 1) pa_nil))) pa_nil)) pe_int)))) pss_nil)
      (pss_one (ps_ret (pe_lst (pa_cons (pv 3) (pa_cons (pe_callTy call_tuple_of (by rfl) m_tuple (by decide +kernel) (pa_cons (pv 4) pa_nil)) (pa_cons (pv 9) pa_nil))))))))))))))))), ?_⟩
    walk_at "go"
    obtain ⟨m, em⟩ := hT.pl
    refine ⟨a, p, n, m, ds, rfl, SqL.of hT.hA, hT.hd, em, hT.ne, fun kd kd1 kd2 => ?_⟩
    obtain ⟨hT', sbkd⟩ := hT.next em
    generalize eH : upd H p (.lst [.int ((m + 1 : Nat) : Int)]) = H1 at hT' sbkd ⊢
    have hT0 := hT
    clear hT
    have hT := hT'
    clear hT'
    walk_at "go"
    refine ite2 (fun e => ?_) (fun e => ?_)
    · walk_at "go"
      intro t nt
      walk_at "go"
      intro l nl
      have s1 := same_new (o := .tup []) nt
      have s2 := same_new (o := .lst [.non, .ref t, .non]) nl
      refine q l _ none [] none ((hT.more s1).more s2).sb ⟨t, [], SqL.of upd_same, ris_nil (.inl (.inl (s2 _ _ upd_same)))⟩ ⟨⟨rfl, nofun, nofun⟩, by decide, nofun⟩
    · walk_at "go"
      obtain ⟨m, em⟩ := hT.pl
      refine ⟨a, p, n, m, ds, rfl, SqL.of hT.hA, hT.hd, em, hT.ne, fun ra ra1 ra2 => ?_⟩
      obtain ⟨hT', sbra⟩ := hT.next em
      generalize eH : upd H1 p (.lst [.int ((m + 1 : Nat) : Int)]) = H2 at hT' sbra ⊢
      have hT0 := hT
      clear hT
      have hT := hT'
      clear hT'
      walk_at "go"
      refine ⟨fun σ' H' => H' = H2 ∧ ∃ st : Int, 0 ≤ st ∧ st ≤ 2 * 10 ^ 30 ∧ σ' = [some (.ref a), some (.ref p), some (.int kd), some (.int st), none, none, none, none, none, none], ?_, ?_⟩
      · walk_at "go"
        refine ite2 (fun e => ?_) (fun e => ?_)
        · walk_at "go"
          have e30 : (10 : Int) ^ Int.toNat 30 = 1000000000000000000000000000000 := by decide
          exact ⟨_, by omega, by omega, rfl⟩
        · exact ⟨rfl, _, by omega, by omega, rfl⟩
      · rintro σ' H' ⟨rfl, st, b1, b2, rfl⟩
        walk_at "go"
        intro R nR
        have Rp : R ≠ p := by
          obtain ⟨m, em⟩ := hT.pl
          exact (ne_of_none em nR).symm
        have nR0 : H R = none := by
          cases e : H R with
          | none => rfl
          | some o =>
            have := hT.sb _ _ Rp e
            rw [this] at nR
            cases nR
        have aR : a ≠ R := ne_of_none hT.hA nR
        have hT0 := hT
        clear hT
        have hT := hT0.more (same_new (o := .lst []) nR)
        have hRR : RisH (upd H' R (.lst [])) R [] [] := ⟨upd_same, rfl, fun i p q h => nomatch h⟩
        generalize eR : upd H' R (.lst []) = H3 at hT hRR ⊢
        walk_at "go"
        obtain ⟨m, em⟩ := hT.pl
        refine ⟨a, p, n, m, ds, rfl, SqL.of hT.hA, hT.hd, em, hT.ne, fun rb rb1 rb2 => ?_⟩
        obtain ⟨hT', sbrb⟩ := hT.next em
        generalize eH : upd H3 p (.lst [.int ((m + 1 : Nat) : Int)]) = H4 at hT' sbrb ⊢
        have hT0 := hT
        clear hT
        have hT := hT'
        clear hT'
        walk_at "go"
        have hR4 := hRR.sb sbrb Rp em
        obtain ⟨m, em⟩ := hT.pl
        refine ⟨a, p, n, m, ds, rfl, SqL.of hT.hA, hT.hd, em, hT.ne, fun rc rc1 rc2 => ?_⟩
        obtain ⟨hT', sbrc⟩ := hT.next em
        generalize eH : upd H4 p (.lst [.int ((m + 1 : Nat) : Int)]) = H5 at hT' sbrc ⊢
        have hT0 := hT
        clear hT
        have hT := hT'
        clear hT'
        have hR5 := hR4.sb sbrc Rp em
        walk_at "go"
        refine for_gen (n := (rc % 6).toNat) (fun i σ H6 => ∃ (ps : List Addr) (rs : Rs) (T ed : Int) (v7 v8 : Option V), Tk K a p ds n H H6 ∧ RisH H6 R ps rs ∧ rs.length = i ∧ Gd (-1) rs ed ∧ top st rs = some T ∧ 0 ≤ T ∧ T ≤ 2 * 10 ^ 30 + i * 10 ^ 21 ∧ 0 ≤ ed ∧ ed ≤ 10 + i * 10 ^ 21 ∧ σ = [some (.ref a), some (.ref p), some (.int kd), some (.int st), some (.ref R), some (.int T), some (.int ed), v7, v8, none]) ⟨[], [], st, _, none, none, hT, hR5, rfl, ?_, rfl, b1, by omega, ?_, ?_, rfl⟩ (fun i σ H6 hi _ => hi) (fun σ H6 _ => Nat.le_refl _) ?_ ?_
        · show -1 < rb % 6
          omega
        · omega
        · omega
        · rintro i σ H6 x H7 hi ⟨ps, rs, T, ed, v7, v8, hT, hRi, hlen, hgd, htop, t1, t2, d1, d2, rfl⟩ ⟨rfl, rfl⟩
          walk_at "go"
          obtain ⟨m, em⟩ := hT.pl
          refine ⟨a, p, n, m, ds, rfl, SqL.of hT.hA, hT.hd, em, hT.ne, fun wa wa1 wa2 => ?_⟩
          obtain ⟨hT', sbwa⟩ := hT.next em
          generalize eH : upd H7 p (.lst [.int ((m + 1 : Nat) : Int)]) = H8 at hT' sbwa ⊢
          have hT0 := hT
          clear hT
          have hT := hT'
          clear hT'
          have hR8 := hRi.sb sbwa Rp em
          walk_at "go"
          refine ⟨fun σ' H9 => H9 = H8 ∧ ∃ wd : Int, 1 ≤ wd ∧ wd ≤ 6 * 10 ^ 20 ∧ σ' = [some (.ref a), some (.ref p), some (.int kd), some (.int st), some (.ref R), some (.int T), some (.int ed), some (.int (0 + (i : Int))), some (.int wd), none], ?_, ?_⟩
          · walk_at "go"
            refine ite2 (fun e => ?_) (fun e => ?_)
            · walk_at "go"
              have e20 : (10 : Int) ^ Int.toNat 20 = 100000000000000000000 := by decide
              refine ⟨_, ?_, ?_, rfl⟩ <;> rw [e20] <;> omega
            · exact ⟨rfl, _, by omega, by omega, rfl⟩
          · rintro σ' H9 ⟨rfl, wd, w1, w2, rfl⟩
            walk_at "go"
            refine ⟨.inl ⟨rfl, _, .inl (.inl hR8.1)⟩, ?_⟩
            walk_at "go"
            intro T0 nT0
            walk_at "go"
            have s9 : Same H9 (upd H9 T0 (.tup [.int ed, .int (ed + wd)])) := same_new nT0
            have hR9 := hR8.more s9
            have i5 : i < 6 := by omega
            refine ⟨_, _, _, rfl, rfl, hR9.1, ?_, ?_⟩
            · rw [List.length_map, hR9.2.1, hlen]
              exact Nat.lt_of_lt_of_le i5 (by decide)
            have hR10 := hR9.snoc (y := some (ed + wd)) upd_same
            have hT10 : Tk K a p ds n H (upd (upd H9 T0 (.tup [.int ed, .int (ed + wd)])) R (.lst (ps.map V.ref ++ [.ref T0]))) := by
              have h1 := hT.more s9
              have h2 : SB R (upd H9 T0 (.tup [.int ed, .int (ed + wd)])) (upd (upd H9 T0 (.tup [.int ed, .int (ed + wd)])) R (.lst (ps.map V.ref ++ [.ref T0]))) := SB.upd (Z.Same.sb (Same.refl _))
              exact h1.mut nR0 h2 Rp (h2 _ _ aR h1.hA)
            have hT0 := hT
            clear hT
            have hT := hT10
            generalize eX : upd (upd H9 T0 (.tup [.int ed, .int (ed + wd)])) R (.lst (ps.map V.ref ++ [.ref T0])) = H10 at hT hR10 ⊢
            walk_at "go"
            obtain ⟨m, em⟩ := hT.pl
            refine ⟨a, p, n, m, ds, rfl, SqL.of hT.hA, hT.hd, em, hT.ne, fun wb wb1 wb2 => ?_⟩
            obtain ⟨hT', sbwb⟩ := hT.next em
            generalize eH : upd H10 p (.lst [.int ((m + 1 : Nat) : Int)]) = H11 at hT' sbwb ⊢
            have hT0 := hT
            clear hT
            have hT := hT'
            clear hT'
            have hR11 := hR10.sb sbwb Rp em
            walk_at "go"
            refine ⟨_, _, _, _, _, _, hT, hR11, ?_, hgd.snoc (h := ed + wd) (by omega) (z' := ed + wd + 1 + wb % 6) (by omega), (top_snoc hgd htop).trans ?_, ?_, ?_, ?_, ?_, rfl⟩
            · rw [List.length_append, hlen]
              rfl
            · rw [show T + (ed + wd) - ed = T + wd by omega]
            · omega
            · omega
            · omega
            · omega
        · rintro σ H6 ⟨ps, rs, T, ed, v7, v8, hT, hRi, hlen, hgd, htop, t1, t2, d1, d2, rfl⟩
          have i5 : (rc % 6).toNat < 6 := by omega
          have e30 : (10 : Int) ^ 30 = 1000000000000000000000000000000 := by decide
          have e21 : (10 : Int) ^ 21 = 1000000000000000000000 := by decide
          have t3 : T ≤ 10 ^ 39 := by
            rw [e30, e21] at t2
            have e39 : (10 : Int) ^ 39 = 1000000000000000000000000000000000000000 := by decide
            omega
          have d3 : ed ≤ 10 ^ 39 := by
            rw [e21] at d2
            have e39 : (10 : Int) ^ 39 = 1000000000000000000000000000000000000000 := by decide
            omega
          refine cut_stay ?_ ?_
          · walk_at "go"
            refine ⟨R, _, rfl, .inl (SqL.of hRi.1), ?_⟩
            rw [List.length_map, hRi.2.1]
            walk_at "go"
            refine ite2 (fun e => ?_) (fun e => ?_)
            · have hl : 0 < rs.length := by
                have := of_decide_eq_true e
                omega
              walk_at "go"
              refine ite2 (fun e2 => ?_) (fun e2 => ?_)
              · rcases List.eq_nil_or_concat rs with rfl | ⟨r, ⟨x, h⟩, e3⟩
                · cases hl
                rw [List.concat_eq_append] at e3
                subst e3
                obtain ⟨ps', pl, rfl⟩ : ∃ qs q, ps = qs ++ [q] := by
                  rcases List.eq_nil_or_concat ps with e | ⟨qs, q, e⟩
                  · have := hRi.2.1
                    rw [e, List.length_append] at this
                    simp at this
                  · exact ⟨qs, q, by rw [e, List.concat_eq_append]⟩
                have el : ps'.length = r.length := by
                  have := hRi.2.1
                  rw [List.length_append, List.length_append] at this
                  simpa using this
                have epl : H6 pl = some (.tup [.int x, oV h]) := hRi.2.2 r.length pl (x, h) (by rw [List.getElem?_append_right (by omega), el, Nat.sub_self]; rfl) (by rw [List.getElem?_append_right (by omega), Nat.sub_self]; rfl)
                walk_at "go"
                refine ⟨R, _, rfl, SqL.of hRi.1, fun c1 nc1 => ?_⟩
                have ec : cutV ((ps' ++ [pl]).map V.ref) none (some (-1)) = ps'.map V.ref := by
                  rw [List.map_append]
                  exact cut_last _ _
                rw [ec]
                have s1 := same_new (o := .lst (ps'.map V.ref)) nc1
                have hpl : SqT K _ pl [.int x, oV h] := .inl (.inl (s1 _ _ epl))
                walk_at "go"
                refine ⟨R, _, _, _, rfl, rfl, SqL.of (s1 _ _ hRi.1), (by rw [List.map_append]; exact atI_last _ _), ?_⟩
                walk_at "go"
                intro c2 nc2
                have s2 := same_new (o := .tup [.int x, .non]) nc2
                walk_at "go"
                intro c3 nc3
                have s3 := same_new (o := .lst [.ref c2]) nc3
                walk_at "go"
                refine ⟨c1, c3, _, _, rfl, rfl, s3 _ _ (s2 _ _ upd_same), upd_same, ?_, fun c4 nc4 => ?_⟩
                · rw [List.length_map, el]
                  rw [List.length_append] at hlen
                  exact Nat.le_trans (show r.length + 1 ≤ 1000 by omega) (by decide)
                have s4 := same_new (o := .lst (ps'.map V.ref ++ [.ref c2])) nc4
                walk_at "go"
                refine ⟨c4, _, rfl, .inl ⟨.inl (.inl upd_same), fun t nt => ?_⟩⟩
                have s5 := same_new (o := .tup (ps'.map V.ref ++ [.ref c2])) nt
                walk_at "go"
                intro l nl
                have s6 := same_new (o := .lst [.int st, .ref t, .non]) nl
                have s16 := s1.trans (s2.trans (s3.trans (s4.trans (s5.trans s6))))
                obtain ⟨g1, g2⟩ := bnd_open hgd htop
                refine q l _ (some st) (r ++ [(x, none)]) none (hT.more s16).sb ⟨t, ps' ++ [c2], SqL.of upd_same, .inl (.inl ?_), ?_, ?_⟩ ⟨⟨hgd.opened, fun s hs => by cases hs; exact b1, nofun⟩, ?_, fun s hs => ?_⟩
                · rw [List.map_append]
                  exact s6 _ _ upd_same
                · rw [List.length_append, List.length_append, el]
                  rfl
                · intro i p1 q1 h1 h2
                  by_cases hlt : i < ps'.length
                  · rw [List.getElem?_append_left hlt] at h1
                    rw [List.getElem?_append_left (by rw [← el]; exact hlt)] at h2
                    exact .inl (.inl (s16 _ _ (hRi.2.2 i p1 q1 (by rw [List.getElem?_append_left hlt]; exact h1) (by rw [List.getElem?_append_left (by rw [← el]; exact hlt)]; exact h2))))
                  · rw [List.getElem?_append_right (by omega)] at h1
                    rw [List.getElem?_append_right (by omega)] at h2
                    have h3 : i - ps'.length = 0 := by
                      have := (List.getElem?_eq_some_iff.mp h1).1
                      simp at this
                      omega
                    rw [h3] at h1
                    rw [← el, h3] at h2
                    obtain rfl : c2 = p1 := Option.some.inj h1
                    obtain rfl := Option.some.inj h2
                    exact .inl (.inl (s6 _ _ (s5 _ _ (s4 _ _ (s3 _ _ upd_same)))))
                · rw [List.length_append] at hlen ⊢
                  have : ([(x, (none : Option Int))]).length = 1 := rfl
                  have : ([(x, h)]).length = 1 := rfl
                  omega
                · cases hs
                  have e39 : (10 : Int) ^ 39 = 1000000000000000000000000000000000000000 := by decide
                  have e40 : (10 : Int) ^ 39 = 1000000000000000000000000000000000000000 := by decide
                  rw [e40]
                  rw [e39] at t3 d3
                  omega
              · exact ⟨rfl, rfl⟩
            · walk_at "go"
              rfl
          · walk_at "go"
            refine ⟨fun σ' H7 => ∃ nv : Option Int, Tk K a p ds n H H7 ∧ RisH H7 R ps rs ∧ (∀ v, nv = some v → T ≤ v) ∧ σ' = [some (.ref a), some (.ref p), some (.int kd), some (.int st), some (.ref R), some (.int T), some (.int ed), v7, v8, some (oV nv)], ?_, ?_⟩
            · walk_at "go"
              refine ite2 (fun e => ?_) (fun e => ?_)
              · walk_at "go"
                obtain ⟨m, em⟩ := hT.pl
                refine ⟨a, p, n, m, ds, rfl, SqL.of hT.hA, hT.hd, em, hT.ne, fun na na1 na2 => ?_⟩
                obtain ⟨hT', sbna⟩ := hT.next em
                generalize eH : upd H6 p (.lst [.int ((m + 1 : Nat) : Int)]) = H7 at hT' sbna ⊢
                have hT0 := hT
                clear hT
                have hT := hT'
                clear hT'
                have hR7 := hRi.sb sbna Rp em
                walk_at "go"
                exact ⟨some (T + na % 5), hT, hR7, fun v hv => by cases hv; omega, rfl⟩
              · exact ⟨none, hT, hRi, nofun, rfl⟩
            · rintro σ' H7 ⟨nv, hT, hR7, hnv, rfl⟩
              walk_at "go"
              refine ⟨R, _, rfl, .inl ⟨.inl (.inl hR7.1), fun t nt => ?_⟩⟩
              walk_at "go"
              intro l nl
              have s1 : Same H7 (upd H7 t (.tup (ps.map V.ref))) := same_new nt
              have s2 := same_new (o := .lst [.int st, .ref t, oV nv]) nl
              have r1 : Ris true false K H7 R ps rs := hR7.ris
              have r2 : Ris false false K (upd H7 t (.tup (ps.map V.ref))) t ps rs := ⟨.inl (.inl upd_same), hR7.2.1, fun i p q h1 h2 => Z.Same.sqK s1 (r1.2.2 i p q h1 h2)⟩
              refine q l _ (some st) rs nv ((hT.more s1).more s2).sb ⟨t, ps, SqL.of upd_same, r2.mono s2⟩ ⟨⟨hgd.good, fun s hs => by cases hs; exact b1, fun v hv => ⟨T, htop, hnv v hv⟩⟩, by omega, fun s hs => ?_⟩
              cases hs
              rw [bnd_closed hgd htop]
              exact Int.le_trans t3 (by decide)
end
end Z
set_option Elab.async false
set_option linter.all false
set_option maxRecDepth 100000
set_option maxHeartbeats 4000000
namespace Z
open PySem PySem.Spec PyProof.Rows L2
/-! ### sorted(xs, key=int), xs a list of ints -/
def IsI (v : Value) (i : Int) : Prop := ∃ t, v = .int i t
theorem eachI : ∀ {ns : List Int} {us : List Value}, Vals (ns.map V.int) us → PySem.W.EachIs IsI us ns
  | [], _, .nil => .nil
  | n :: ns, _, .cons h r => .cons h (eachI r)
theorem eachV : ∀ {ns : List Int} {us : List Value}, PySem.W.EachIs IsI us ns → Vals (ns.map V.int) us
  | _, _, .nil => .nil
  | _, _, .cons h r => .cons h (eachV r)
theorem le_int (a b : Int) : PySem.W.dataLe false PyData.int a b = decide (a ≤ b) := by
  show (!PyProof.Rows.lexLt PyProof.Rows.itemOrd [.inl b] [.inl a]) = _
  have e : PyProof.Rows.lexLt PyProof.Rows.itemOrd [.inl b] [.inl a] = decide (b < a) := by
    by_cases h : b < a
    · simp [PyProof.Rows.lexLt, PyProof.Rows.itemLt, h]
    · simp [PyProof.Rows.lexLt, PyProof.Rows.itemLt, h]
  rw [e]
  by_cases h : b < a
  · rw [decide_eq_true h, decide_eq_false (by omega)]
    rfl
  · rw [decide_eq_false h, decide_eq_true (by omega)]
    rfl
theorem cr_sortedInt {X : Cx} (hu : X.A.units + 64 < cLine) : CallRK X (.builtin "sorted") [Str.ofString "key"] (rSortedKw X.K false [.ty "int"]) := by
  intro pins s σ H vs zs us ws Q I r rz h
  obtain ⟨a, ns, rfl, rfl, hs, q⟩ := h
  obtain rfl := Vals.ref1 r
  obtain ⟨w1, rfl, e1⟩ := vals1 rz
  obtain rfl : w1 = Value.type "int" := e1
  obtain ⟨its, rv, hl, hz⟩ := I.list hs
  have hE := eachI rv
  rw [List.length_map] at hz
  refine PySem.W.sorted_key_data (β := Int) (b := false) (f := .type "int") PyData.int hl.isList hE ?_ ?_ hz ?_ (PyProof.Rows.ksk_s1 _ _) (fun _ => PyProof.Rows.ksk_l1 _ _) (fun _ => rfl) ?_ ?_
  · intro d hd d' hd'
    obtain ⟨x, _, rfl⟩ := List.mem_map.mp hd
    obtain ⟨y, _, rfl⟩ := List.mem_map.mp hd'
    rfl
  · refine .inr fun d hd => ?_
    obtain ⟨x, _, rfl⟩ := List.mem_map.mp hd
    exact ⟨nofun, nofun⟩
  · intro x _
    show X.A.units + 2 + 0 < cLine
    omega
  · rintro v x ⟨t, rfl⟩ _ h tk hk
    exact call_int_int ⟨h, tk, rfl, fun _ _ e => e, .int x t⟩
  · intro out c h' tk hk hn ha hlen he
    have hp : (ns.mergeSort (PySem.W.dataLe false PyData.int)).Perm ns := List.mergeSort_perm _ _
    have hs2 : (ns.mergeSort (PySem.W.dataLe false PyData.int)).Pairwise (· ≤ ·) := by
      have := PySem.W.sort_pairwise (PySem.W.sortLe_total (PyProof.Rows.listOrd PyProof.Rows.itemOrd) false fun b : Int => PySem.W.keyToks (PyData.int b)) ns
      refine List.Pairwise.imp ?_ this
      intro x y h
      have h : PySem.W.dataLe false PyData.int x y = true := h
      rw [le_int] at h
      exact of_decide_eq_true h
    refine ⟨.ref _, upd H (s.heap.objs.size + 1) (.lst ((ns.mergeSort (PySem.W.dataLe false PyData.int)).map V.int)), I.laid (t' := tk) hk (Nat.le_succ _) ⟨?_, out, c, eachV he, ha⟩, rfl, q _ _ hp hs2 (I.hok.fresh (Nat.le_succ _))⟩
    rw [List.length_map, hp.length_eq]
    exact hz
end Z
set_option Elab.async false
set_option linter.all false
namespace Nd
/-! ### does the function rise behind m -/
def upP (m : Int) (p : Int × Option Int) : Bool := decide (p.1 ≤ m) && (match p.2 with
  | none => true
  | some h => decide (m < h))
def up (rs : Rs) (m : Int) : Bool := rs.any (upP m)
theorem up_nil (m : Int) : up [] m = false := rfl
theorem up_cons (p : Int × Option Int) (rs : Rs) (m : Int) : up (p :: rs) m = (upP m p || up rs m) := rfl
def Edge (rs : Rs) (x : Int) : Prop := ∃ p ∈ rs, p.1 = x ∨ p.2 = some x
theorem Edge.tail {p : Int × Option Int} {rs : Rs} {x : Int} (h : Edge rs x) : Edge (p :: rs) x := by
  obtain ⟨q, hq, h⟩ := h
  exact ⟨q, List.mem_cons_of_mem _ hq, h⟩
theorem Edge.lo {l : Int} {h : Option Int} {rs : Rs} : Edge ((l, h) :: rs) l := ⟨_, List.mem_cons_self .., .inl rfl⟩
theorem Edge.hi {l h : Int} {rs : Rs} : Edge ((l, some h) :: rs) h := ⟨_, List.mem_cons_self .., .inr rfl⟩
/-- no end lies strictly between m and k -/
def Calm (rs : Rs) (m k : Int) : Prop := ∀ x, Edge rs x → ¬ (m < x ∧ x < k)
theorem up_low : ∀ {rs : Rs} {e m : Int}, Good e rs → m ≤ e → up rs m = false
  | [], _, _, _, _ => rfl
  | (l, none) :: r, e, m, g, h => by
    have g1 := g.1
    have g2 := g.2
    subst g2
    rw [up_cons, up_nil]
    show ((decide (l ≤ m) && true) || false) = false
    rw [decide_eq_false (by omega)]
    rfl
  | (l, some y) :: r, e, m, g, h => by
    have g1 := g.1
    have g2 := g.2.1
    rw [up_cons, up_low g.2.2 (show m ≤ y by omega)]
    show ((decide (l ≤ m) && decide (m < y)) || false) = false
    rw [decide_eq_false (by omega)]
    rfl
theorem aff : ∀ {rs : Rs} {e m k : Int}, Good e rs → m ≤ k → Calm rs m k → (up rs m = true ∧ Fs rs k = Fs rs m + (k - m)) ∨ (up rs m = false ∧ Fs rs k = Fs rs m)
  | [], _, _, _, _, _, _ => .inr ⟨rfl, rfl⟩
  | (l, none) :: r, e, m, k, g, hk, hc => by
    have g2 := g.2
    subst g2
    have c1 := hc l Edge.lo
    rw [up_cons, up_nil, Fs_cons, Fs_cons, Fs_nil, Fs_nil]
    by_cases h : l ≤ m
    · refine .inl ⟨?_, ?_⟩
      · show ((decide (l ≤ m) && true) || false) = true
        rw [decide_eq_true h]
        rfl
      · unfold rise
        dsimp only
        (repeat' split) <;> omega
    · refine .inr ⟨?_, ?_⟩
      · show ((decide (l ≤ m) && true) || false) = false
        rw [decide_eq_false h]
        rfl
      · rw [rise_zero (show k ≤ l by omega), rise_zero (show m ≤ l by omega)]
  | (l, some y) :: r, e, m, k, g, hk, hc => by
    have g1 := g.1
    have g2 := g.2.1
    have c1 := hc l Edge.lo
    have c2 := hc y Edge.hi
    have ih := aff g.2.2 hk (fun x hx => hc x hx.tail)
    rw [up_cons, Fs_cons, Fs_cons]
    have eu : upP m (l, some y) = (decide (l ≤ m) && decide (m < y)) := rfl
    by_cases h : l ≤ m
    · by_cases h2 : m < y
      · have z1 : Fs r k = 0 := Fs_zero g.2.2 (by omega)
        have z2 : Fs r m = 0 := Fs_zero g.2.2 (by omega)
        refine .inl ⟨?_, ?_⟩
        · rw [eu, decide_eq_true h, decide_eq_true h2]
          rfl
        · rw [z1, z2]
          unfold rise
          dsimp only
          (repeat' split) <;> omega
      · rw [eu, decide_eq_false h2, Bool.and_false, Bool.false_or]
        have e1 : rise k (l, some y) = y - l := by
          rw [rise_some (by omega), if_neg (by omega)]
        have e2 : rise m (l, some y) = y - l := by
          rw [rise_some (by omega), if_neg (by omega)]
        rw [e1, e2]
        rcases ih with ⟨i1, i2⟩ | ⟨i1, i2⟩
        · exact .inl ⟨i1, by omega⟩
        · exact .inr ⟨i1, by omega⟩
    · rw [eu, decide_eq_false h, Bool.false_and, Bool.false_or, rise_zero (show k ≤ l by omega), rise_zero (show m ≤ l by omega)]
      rcases ih with ⟨i1, i2⟩ | ⟨i1, i2⟩
      · exact .inl ⟨i1, by omega⟩
      · exact .inr ⟨i1, by omega⟩
theorem Fs0 {rs : Rs} (g : Good (-1) rs) : Fs rs 0 = 0 := by
  cases rs with
  | nil => rfl
  | cons p r =>
    obtain ⟨l, h⟩ := p
    have : 0 ≤ l := by
      cases h with
      | none => have := g.1; omega
      | some y => have := g.1; omega
    exact Fs_stop g (i := 0) rfl this
/-- behind pairs that have ended -/
theorem up_skip {l h m : Int} {r : Rs} (hm : h ≤ m) : up ((l, some h) :: r) m = up r m := by
  rw [up_cons]
  show ((decide (l ≤ m) && decide (m < h)) || _) = _
  rw [decide_eq_false (show ¬ m < h by omega), Bool.and_false, Bool.false_or]
theorem up_now {e l m : Int} {h : Option Int} {r : Rs} (g : Good e ((l, h) :: r)) (hm : ∀ y, h = some y → m < y) : up ((l, h) :: r) m = decide (l ≤ m) := by
  cases h with
  | none =>
    have g2 := g.2
    subst g2
    rw [up_cons, up_nil]
    show ((decide (l ≤ m) && true) || false) = _
    simp
  | some y =>
    have h1 := hm y rfl
    rw [up_cons, up_low g.2.2 (show m ≤ y by omega)]
    show ((decide (l ≤ m) && decide (m < y)) || false) = _
    rw [decide_eq_true h1]
    simp
/-- flat behind all ends: not above the bound -/
theorem flat_bnd : ∀ {rs : Rs} {e t x : Int}, Good e rs → up rs x = false → (∀ z, Edge rs z → z ≤ x) → t + Fs rs x ≤ bnd t rs
  | [], _, t, x, _, _, _ => by
    rw [Fs_nil]
    show t + 0 ≤ t
    omega
  | (l, none) :: r, e, t, x, g, hu, he => by
    rw [up_now g (fun y hy => by cases hy), decide_eq_true (he l Edge.lo)] at hu
    cases hu
  | (l, some h) :: r, e, t, x, g, hu, he => by
    have g2 := g.2.1
    have h1 := he h Edge.hi
    rw [up_skip h1] at hu
    have ih := flat_bnd (t := t + h - l) g.2.2 hu (fun z hz => he z hz.tail)
    rw [Fs_cons, rise_some (by omega), if_neg (by omega)]
    show _ ≤ bnd (t + h - l) r
    omega
theorem bnd_add : ∀ (rs : Rs) {t c : Int}, 0 ≤ c → bnd (t + c) rs ≤ bnd t rs + c
  | [], t, c, _ => Int.le_refl _
  | (l, none) :: r, t, c, h => by
    show (if l > t + c then l else t + c) ≤ (if l > t then l else t) + c
    (repeat' split) <;> omega
  | (l, some x) :: r, t, c, h => by
    have := bnd_add r (t := t + x - l) h
    show bnd (t + c + x - l) r ≤ bnd (t + x - l) r + c
    rw [show t + c + x - l = t + x - l + c by omega]
    exact this
/-! ### the least k with d k above 0 -/
def Below (d : Int → Int) (b : Int) : Prop := ∀ k, 0 ≤ k → k < b → d k ≤ 0
def FA (d : Int → Int) : Option Int → Prop
  | some x => 0 ≤ x ∧ 0 < d x ∧ Below d x
  | none => ∀ k, 0 ≤ k → d k ≤ 0
theorem FA.uniq {d : Int → Int} {a b : Option Int} (ha : FA d a) (hb : FA d b) : a = b := by
  cases a with
  | none =>
    cases b with
    | none => rfl
    | some y =>
      have h1 := ha y hb.1
      have h2 := hb.2.1
      omega
  | some x =>
    cases b with
    | none =>
      have h1 := hb x ha.1
      have h2 := ha.2.1
      omega
    | some y =>
      obtain ⟨x1, x2, x3⟩ := ha
      obtain ⟨y1, y2, y3⟩ := hb
      by_cases h : x < y
      · have := y3 x x1 h
        omega
      by_cases h2 : y < x
      · have := x3 y y1 h2
        omega
      · congr 1
        omega
def dif (s : Int) (rs : Rs) (s' : Int) (rs' : Rs) (k : Int) : Int := (s + Fs rs k) - (s' + Fs rs' k)
section
variable {s s' m M : Int} {rs rs' : Rs}
/-- one stretch: the difference keeps its slope -/
theorem stretch (g : Good (-1) rs) (g' : Good (-1) rs') (hc : Calm rs m M) (hc' : Calm rs' m M) {k : Int} (h1 : m ≤ k) (h2 : k ≤ M) :
    (up rs m = true ∧ up rs' m = false ∧ dif s rs s' rs' k = dif s rs s' rs' m + (k - m)) ∨ ((up rs m && !up rs' m) = false ∧ dif s rs s' rs' k ≤ dif s rs s' rs' m) := by
  have a := aff (k := k) g h1 (fun x hx z => hc x hx ⟨z.1, by omega⟩)
  have b := aff (k := k) g' h1 (fun x hx z => hc' x hx ⟨z.1, by omega⟩)
  unfold dif
  rcases a with ⟨a1, a2⟩ | ⟨a1, a2⟩ <;> rcases b with ⟨b1, b2⟩ | ⟨b1, b2⟩
  · exact .inr ⟨by rw [a1, b1]; rfl, by omega⟩
  · exact .inl ⟨a1, b1, by omega⟩
  · exact .inr ⟨by rw [a1, b1]; rfl, by omega⟩
  · exact .inr ⟨by rw [a1, b1]; rfl, by omega⟩
theorem below_next (g : Good (-1) rs) (g' : Good (-1) rs') (hc : Calm rs m M) (hc' : Calm rs' m M) (hb : Below (dif s rs s' rs') m) (hd : dif s rs s' rs' m ≤ 0) (h : (up rs m && !up rs' m) = false ∨ M ≤ m + 1 - dif s rs s' rs' m) : Below (dif s rs s' rs') M := by
  intro k k0 k1
  by_cases hk : k < m
  · exact hb k k0 hk
  · rcases stretch (s := s) (s' := s') g g' hc hc' (k := k) (by omega) (by omega) with ⟨u1, u2, e⟩ | ⟨_, e⟩
    · rcases h with h | h
      · rw [u1, u2] at h
        cases h
      · omega
    · omega
theorem found_next (g : Good (-1) rs) (g' : Good (-1) rs') (hc : Calm rs m M) (hc' : Calm rs' m M) (h0 : 0 ≤ m) (hb : Below (dif s rs s' rs') m) (hd : dif s rs s' rs' m ≤ 0) (hu : (up rs m && !up rs' m) = true) (hM : m + 1 - dif s rs s' rs' m ≤ M) : FA (dif s rs s' rs') (some (m + 1 - dif s rs s' rs' m)) := by
  have st : ∀ k, m ≤ k → k ≤ M → dif s rs s' rs' k = dif s rs s' rs' m + (k - m) := fun k k1 k2 => by
    rcases stretch (s := s) (s' := s') g g' hc hc' k1 k2 with ⟨u1, u2, e⟩ | ⟨u, e⟩
    · exact e
    · rw [hu] at u
      cases u
  refine ⟨by omega, ?_, fun k k0 k1 => ?_⟩
  · rw [st _ (by omega) hM]
    omega
  · by_cases hk : k < m
    · exact hb k k0 hk
    · rw [st k (by omega) (by omega)]
      omega
/-- the law's way: look at the place by the gap -/
theorem found_gap (g : Good (-1) rs) (g' : Good (-1) rs') (hc : Calm rs m M) (hc' : Calm rs' m M) (h0 : 0 ≤ m) (hb : Below (dif s rs s' rs') m) (hd : dif s rs s' rs' m ≤ 0) (hM : m + 1 - dif s rs s' rs' m ≤ M) (hp : 0 < dif s rs s' rs' (m + 1 - dif s rs s' rs' m)) : FA (dif s rs s' rs') (some (m + 1 - dif s rs s' rs' m)) := by
  refine found_next g g' hc hc' h0 hb hd ?_ hM
  rcases stretch (s := s) (s' := s') g g' hc hc' (k := m + 1 - dif s rs s' rs' m) (by omega) hM with ⟨u1, u2, e⟩ | ⟨u, e⟩
  · rw [u1, u2]
    rfl
  · omega
theorem below_gap (g : Good (-1) rs) (g' : Good (-1) rs') (hc : Calm rs m M) (hc' : Calm rs' m M) (hb : Below (dif s rs s' rs') m) (hd : dif s rs s' rs' m ≤ 0) (h : m + 1 - dif s rs s' rs' m < M → dif s rs s' rs' (m + 1 - dif s rs s' rs' m) ≤ 0) : Below (dif s rs s' rs') M := by
  refine below_next g g' hc hc' hb hd ?_
  by_cases hM : m + 1 - dif s rs s' rs' m < M
  · have hh := h hM
    rcases stretch (s := s) (s' := s') g g' hc hc' (k := m + 1 - dif s rs s' rs' m) (by omega) (by omega) with ⟨u1, u2, e⟩ | ⟨u, e⟩
    · omega
    · exact .inl u
  · exact .inr (by omega)
/-- behind the last end -/
theorem below_all (g : Good (-1) rs) (g' : Good (-1) rs') (he : ∀ x, Edge rs x → x ≤ m) (he' : ∀ x, Edge rs' x → x ≤ m) (hb : Below (dif s rs s' rs') m) (hd : dif s rs s' rs' m ≤ 0) (h : (up rs m && !up rs' m) = false) : FA (dif s rs s' rs') none := by
  intro k k0
  have c : ∀ {q : Rs}, (∀ x, Edge q x → x ≤ m) → Calm q m (k + 1) := fun hq x hx z => by
    have := hq x hx
    omega
  by_cases hk : k < m
  · exact hb k k0 hk
  · exact below_next g g' (c he) (c he') hb hd (.inl h) k k0 (by omega)
theorem below_far (g : Good (-1) rs) (g' : Good (-1) rs') (hs : 0 ≤ s) (he : ∀ x, Edge rs x → x ≤ m) (he' : ∀ x, Edge rs' x → x ≤ m) (h0 : 0 ≤ m) {B : Int} (hB : bnd s' rs' + 1 < B) (hb : Below (dif s rs s' rs') (m + B)) (hB0 : 0 < B) : FA (dif s rs s' rs') none := by
  have hd : dif s rs s' rs' m ≤ 0 := hb m h0 (by omega)
  cases hu : (up rs m && !up rs' m) with
  | false => exact below_all g g' he he' (fun k k0 k1 => hb k k0 (by omega)) hd hu
  | true =>
    have hu2 : up rs' m = false := by
      cases e : up rs' m with
      | false => rfl
      | true =>
        rw [e] at hu
        simp at hu
    have b1 := flat_bnd (t := s') g' hu2 he'
    have f0 := (Fs_slope (x := m) (y := m) (Int.le_refl _) g).1
    have hgap : - dif s rs s' rs' m ≤ bnd s' rs' := by
      unfold dif
      omega
    have c : ∀ {q : Rs}, (∀ x, Edge q x → x ≤ m) → Calm q m (m + B) := fun hq x hx z => by
      have := hq x hx
      omega
    have fd := found_next g g' (c he) (c he') h0 (fun k k0 k1 => hb k k0 (by omega)) hd hu (by omega)
    have h1 := hb _ fd.1 (by omega)
    have h2 := fd.2.1
    omega
end
/-! ### where the rises come to an amount -/
def rp : Rs → Int → Option Int
  | [], _ => none
  | (l, none) :: _, A => some (l + A)
  | (l, some h) :: r, A => if h - l ≥ A then some (l + A) else rp r (A - (h - l))
theorem rp_spec : ∀ {rs : Rs} {e A : Int}, Good e rs → 1 ≤ A → match rp rs A with
    | some x => e + 1 < x ∧ ∀ y, A ≤ Fs rs y ↔ x ≤ y
    | none => ∀ y, Fs rs y < A
  | [], e, A, _, hA => fun y => by rw [Fs_nil]; omega
  | (l, none) :: r, e, A, g, hA => by
    have g1 := g.1
    have g2 := g.2
    subst g2
    refine ⟨by omega, fun y => ?_⟩
    rw [Fs_cons, Fs_nil]
    by_cases h : y ≤ l
    · rw [rise_zero h]
      constructor <;> intro <;> omega
    · rw [rise_none (by omega)]
      constructor <;> intro <;> omega
  | (l, some h) :: r, e, A, g, hA => by
    have g1 := g.1
    have g2 := g.2.1
    unfold rp
    by_cases c : h - l ≥ A
    · rw [if_pos c]
      refine ⟨by omega, fun y => ?_⟩
      rw [Fs_cons]
      by_cases h1 : y ≤ l
      · rw [rise_zero h1, Fs_zero g.2.2 (by omega)]
        constructor <;> intro <;> omega
      · rw [rise_some (by omega)]
        by_cases h2 : y < h
        · rw [if_pos h2, Fs_zero g.2.2 (by omega)]
          constructor <;> intro <;> omega
        · rw [if_neg h2]
          have := (Fs_slope (x := y) (y := y) (Int.le_refl _) g.2.2).1
          constructor <;> intro <;> omega
    · rw [if_neg c]
      have ih := rp_spec (rs := r) (e := h) (A := A - (h - l)) g.2.2 (by omega)
      have low : ∀ y, y < h → Fs ((l, some h) :: r) y < A := fun y hy => by
        rw [Fs_cons, Fs_zero g.2.2 (by omega)]
        by_cases h1 : y ≤ l
        · rw [rise_zero h1]; omega
        · rw [rise_some (by omega), if_pos hy]; omega
      have high : ∀ y, h ≤ y → Fs ((l, some h) :: r) y = (h - l) + Fs r y := fun y hy => by
        rw [Fs_cons, rise_some (by omega), if_neg (by omega)]
      cases er : rp r (A - (h - l)) with
      | some x =>
        rw [er] at ih
        obtain ⟨i1, i2⟩ := ih
        refine ⟨by omega, fun y => ?_⟩
        by_cases hy : y < h
        · have := low y hy
          constructor <;> intro <;> omega
        · have a := high y (by omega)
          have b := i2 y
          rw [a]
          constructor
          · intro z
            exact b.mp (by omega)
          · intro z
            have := b.mpr z
            omega
      | none =>
        rw [er] at ih
        intro y
        by_cases hy : y < h
        · exact low y hy
        · have a := high y (by omega)
          have b := ih y
          omega
def sur (st : Option Int) (rs : Rs) (p : Int) : Option Int := match st with
  | none => some (-1)
  | some s => if s > p then some (-1) else (rp rs (p - s + 1)).map (· - 1)
/-- a value is within the purse exactly for the sums up to what is surely left -/
theorem sur_spec {s p : Int} {rs : Rs} (g : Good (-1) rs) (hs : s ≤ p) : match sur (some s) rs p with
    | some x => 0 ≤ x ∧ ∀ k, s + Fs rs k ≤ p ↔ k ≤ x
    | none => ∀ k, s + Fs rs k ≤ p := by
  have sp := rp_spec g (A := p - s + 1) (by omega)
  have es : sur (some s) rs p = (rp rs (p - s + 1)).map (· - 1) := if_neg (by omega)
  rw [es]
  cases e : rp rs (p - s + 1) with
  | none =>
    rw [e] at sp
    intro k
    have := sp k
    omega
  | some x =>
    rw [e] at sp
    obtain ⟨s1, s2⟩ := sp
    refine ⟨?_, fun k => ?_⟩
    · show 0 ≤ x - 1
      omega
    · show _ ↔ k ≤ x - 1
      have := s2 k
      constructor
      · intro h
        refine Int.not_lt.mp fun h2 => ?_
        have := this.mpr (by omega)
        omega
      · intro h
        refine Int.not_lt.mp fun h2 => ?_
        have := this.mp (by omega)
        omega
theorem sur_none {s p : Int} {rs : Rs} (g : Good (-1) rs) (hs : s ≤ p) : sur (some s) rs p = none ↔ ∃ T, top s rs = some T ∧ T ≤ p := by
  have sp := sur_spec g hs
  have en := ends_spec (t := s) g
  constructor
  · intro h
    rw [h] at sp
    cases eo : opn rs with
    | some l =>
      rw [eo] at en
      obtain ⟨_, _, e3, _⟩ := en
      have h1 := sp (l + (p + 1 - (s + Fs rs l)).toNat)
      rw [e3 _ (by omega)] at h1
      omega
    | none =>
      rw [eo] at en
      refine ⟨_, en.2, ?_⟩
      have tp : ∀ {rs : Rs} {e t T : Int}, Good e rs → top t rs = some T → ∃ k, t + Fs rs k = T := by
        intro rs
        induction rs with
        | nil =>
          intro e t T _ h
          exact ⟨0, by rw [Fs_nil]; have := Option.some.inj h; omega⟩
        | cons q r ih =>
          intro e t T g h
          obtain ⟨l, y⟩ := q
          cases y with
          | none => cases h
          | some y =>
            have g2 := g.2.1
            obtain ⟨k, hk⟩ := ih (t := t + y - l) g.2.2 h
            by_cases c : k ≤ y
            · refine ⟨y, ?_⟩
              rw [Fs_zero g.2.2 c] at hk
              rw [Fs_cons, rise_some (by omega), if_neg (by omega), Fs_zero g.2.2 (Int.le_refl _)]
              omega
            · refine ⟨k, ?_⟩
              rw [Fs_cons, rise_some (by omega), if_neg (by omega)]
              omega
      obtain ⟨k, hk⟩ := tp g en.2
      have := sp k
      omega
  · rintro ⟨T, hT, hp⟩
    cases eo : opn rs with
    | some l =>
      rw [eo] at en
      rw [en.2.2.2] at hT
      cases hT
    | none =>
      rw [eo] at en
      obtain ⟨e1, e2⟩ := en
      rw [e2] at hT
      cases hT
      cases e : sur (some s) rs p with
      | none => rfl
      | some x =>
        rw [e] at sp
        have h1 := (sp.2 (x + 1)).mp (by have := e1 (x + 1); omega)
        omega
end Nd
set_option Elab.async false
set_option linter.all false
set_option maxRecDepth 100000
set_option maxHeartbeats 4000000
namespace Z
open Nd
open PySem PySem.Spec PyProof.Rows L2
open C8 (pss_cut tCut)
local macro_rules | `(tactic| walk_at "num") => `(tactic| first | rfl | omega | decide | exact Nat.le_of_lt (small1000 (by simp)) | exact ⟨by omega, by omega⟩ | exact ⟨by omega, by omega, by omega⟩ | exact ⟨by decide, by decide, by decide⟩ | exact Or.inl ⟨by omega, by omega⟩ | exact Or.inr ⟨by omega, by omega⟩)
local macro_rules | `(tactic| walk_at "go") => `(tactic| repeat (first | refine ⟨_, rfl, ?_⟩ | refine ⟨_, _, rfl, rfl, ?_⟩ | refine ⟨_, _, rfl, ?_⟩ | refine ⟨_, _, rfl, rfl, (by walk_at "num"), ?_⟩ | refine Or.inl ⟨_, rfl, ?_⟩ | refine ⟨_, _, _, _, rfl, rfl, (by assumption), (by rfl), ?_⟩ | refine ⟨_, _, _, _, _, rfl, (by assumption), (by assumption), (by assumption), (by rfl), ?_⟩ | refine ⟨rfl, ?_⟩ | refine And.intro (by walk_at "num") ?_))
abbrev s_marks_of : Stmt := topS 9
abbrev N_marks_of : List Str := ["first", "second", "found", "low", "high"]
abbrev P_marks_of : List Str := ["first", "second"]
theorem sc_marks_of : FnScope N_marks_of P_marks_of (defScope s_marks_of) := ⟨rfl, rfl, rfl, by decide +kernel, rfl, by decide +kernel, by decide +kernel⟩
theorem rm1 {k : Nat} {A : Around} (r : Room k A) : A.units + 1 < cLine := by have := r.units; omega
/-- for low, high in (a list of pairs standing still) -/
theorem for_pairsL {c : Bool} {K : PySem.W.Frag} {a : Addr} {ps : List Addr} {rs : Rs} {i1 i2 : Nat} {tb : TS} {D : Ends} {σ : L2.St} {H : Hp} (Pv : Nat → L2.St → Hp → Prop) (h0 : Pv 0 σ H) (hq : ∀ i σ H1, Pv i σ H1 → Ris true c K H1 a ps rs)
    (hs : ∀ (i : Nat) (l : Int) (h : Option Int) (σ : L2.St) (H1 : Hp), rs[i]? = some (l, h) → Pv i σ H1 → tb { D with nx := Pv (i + 1), ct := Pv (i + 1), bk := D.nx } ((σ.set i1 (some (.int l))).set i2 (some (oV h))) H1)
    (hd : ∀ σ H1, Pv rs.length σ H1 → D.nx σ H1) : forW (Itl K a) (gPair K i1 i2) tb D σ H := by
  refine for_gen (n := rs.length) Pv h0 ?_ ?_ ?_ hd
  · intro i σ1 H1 hi p
    have hR := hq i σ1 H1 p
    have hi2 : i < ps.length := by rw [hR.2.1]; exact hi
    exact its_go (b := true) (x := .ref ps[i]) hR.1 (by rw [List.getElem?_map, List.getElem?_eq_getElem hi2]; rfl)
  · intro σ1 H1 p
    have hR := hq _ σ1 H1 p
    exact its_stop (b := true) hR.1 (by rw [List.length_map, hR.2.1]; exact Nat.le_refl _)
  · intro i σ1 H1 x H' hi p y
    have hR := hq i σ1 H1 p
    obtain ⟨rfl, ex⟩ := its_yld (b := true) hR.1 y
    obtain ⟨q, eq, rfl⟩ := of_map ex
    have er : rs[i]? = some (rs[i].1, rs[i].2) := List.getElem?_eq_getElem hi
    exact gpair_of (hR.2.2 i q _ eq er) (hs i _ _ σ1 H' er p)
theorem sq_dk {b : Bool} {K : PySem.W.Frag} {H H' : Hp} {n a : Addr} {kvs : List (Key × V)} {xs : List V} (s : SB n H H') (hn : H n = some (.dK kvs)) (h : SqK b K H a xs) : SqK b K H' a xs := by
  have ne : ∀ {o : HO}, H a = some o → (∀ kvs, o ≠ .dK kvs) → a ≠ n := fun e z w => by
    rw [w, hn] at e
    exact z _ (Option.some.inj e).symm
  cases b
  · rcases h with (h | ⟨o, h⟩) | h
    · exact .inl (.inl (s _ _ (ne h fun _ => nofun) h))
    · exact .inl (.inr ⟨o, s _ _ (ne h fun _ => nofun) h⟩)
    · exact .inr h
  · rcases h with (h | ⟨o, h⟩) | h
    · exact .inl (.inl (s _ _ (ne h fun _ => nofun) h))
    · exact .inl (.inr ⟨o, s _ _ (ne h fun _ => nofun) h⟩)
    · exact .inr h
theorem Ris.dk {b c : Bool} {K : PySem.W.Frag} {H H' : Hp} {n a : Addr} {kvs : List (Key × V)} {ps : List Addr} {rs : Rs} (s : SB n H H') (hn : H n = some (.dK kvs)) (r : Ris b c K H a ps rs) : Ris b c K H' a ps rs := ⟨sq_dk s hn r.1, r.2.1, fun i p q h1 h2 => sq_dk s hn (r.2.2 i p q h1 h2)⟩
theorem Ris.append {c : Bool} {K : PySem.W.Frag} {H : Hp} {a1 a2 a : Addr} {b1 b2 : Bool} {ps ps' : List Addr} {rs rs' : Rs} (r1 : Ris b1 c K H a1 ps rs) (r2 : Ris b2 c K H a2 ps' rs') (h : H a = some (.lst (ps.map V.ref ++ ps'.map V.ref))) : Ris true c K H a (ps ++ ps') (rs ++ rs') := by
  refine ⟨SqL.of (by rw [List.map_append]; exact h), by rw [List.length_append, List.length_append, r1.2.1, r2.2.1], fun i p q h1 h2 => ?_⟩
  by_cases hlt : i < ps.length
  · rw [List.getElem?_append_left hlt] at h1
    rw [List.getElem?_append_left (by rw [← r1.2.1]; exact hlt)] at h2
    exact r1.2.2 i p q h1 h2
  · rw [List.getElem?_append_right (by omega)] at h1
    rw [List.getElem?_append_right (by rw [← r1.2.1]; omega), ← r1.2.1] at h2
    exact r2.2.2 _ p q h1 h2
/-! ### a dict whose keys are ints -/
structure DInt (H : Hp) (p : Addr) (ks : List Int) : Prop where
  ex : ∃ kvs : List (Key × V), H p = some (.dK kvs) ∧ kvs.map (·.1) = ks.map Sum.inl
def addI (ks : List Int) (x : Int) : List Int := if x ∈ ks then ks else ks ++ [x]
theorem addI_mem {ks : List Int} {x y : Int} : y ∈ addI ks x ↔ y ∈ ks ∨ y = x := by
  unfold addI
  split
  · constructor
    · exact .inl
    · rintro (h | rfl) <;> assumption
  · simp
theorem addI_nodup {ks : List Int} {x : Int} (h : ks.Nodup) : (addI ks x).Nodup := by
  unfold addI
  split
  · exact h
  · next hx =>
    rw [List.nodup_append]
    refine ⟨h, by simp, fun a ha b hb => ?_⟩
    have : b = x := by simpa using hb
    subst this
    rintro rfl
    exact hx ha
theorem addI_len {ks : List Int} {x : Int} : (addI ks x).length ≤ ks.length + 1 := by
  unfold addI
  split
  · omega
  · simp
theorem putI {kvs : List (Key × V)} {ks : List Int} {x : Int} {v : V} (h : kvs.map (·.1) = ks.map Sum.inl) : (putK kvs (Sum.inl x : Key) v).map (·.1) = (addI ks x).map Sum.inl := by
  have hm : (kvs.any fun kv => decide (kv.1 = (Sum.inl x : Key))) = decide (x ∈ ks) := by
    rw [Bool.eq_iff_iff, List.any_eq_true, decide_eq_true_eq]
    constructor
    · rintro ⟨kv, h1, h2⟩
      have h2 := of_decide_eq_true h2
      have : (Sum.inl x : Key) ∈ ks.map Sum.inl := by rw [← h, ← h2]; exact List.mem_map.mpr ⟨kv, h1, rfl⟩
      obtain ⟨y, hy, e⟩ := List.mem_map.mp this
      cases e
      exact hy
    · intro hx
      have : (Sum.inl x : Key) ∈ kvs.map (·.1) := by rw [h]; exact List.mem_map.mpr ⟨x, hx, rfl⟩
      obtain ⟨kv, h1, h2⟩ := List.mem_map.mp this
      exact ⟨kv, h1, decide_eq_true h2⟩
  unfold putK addI
  rw [hm]
  by_cases hx : x ∈ ks
  · rw [if_pos (decide_eq_true hx), if_pos hx, List.map_map, ← h]
    refine List.map_congr_left fun kv _ => ?_
    show (if kv.1 = Sum.inl x then (kv.1, v) else kv).1 = kv.1
    split <;> rfl
  · rw [if_neg (by rw [decide_eq_false hx]; simp), if_neg hx, List.map_append, List.map_append, h]
    rfl
theorem DInt.put {H : Hp} {p : Addr} {ks : List Int} {x : Int} {v : V} (d : DInt H p ks) (hl : ks.length < 100000) : ∃ H', DPut H p (.int x) v H' ∧ SB p H H' ∧ DInt H' p (addI ks x) := by
  obtain ⟨kvs, e, h⟩ := d.ex
  have hlen : kvs.length = ks.length := by
    have := congrArg List.length h
    simpa using this
  exact ⟨_, DPut.k (k := Sum.inl x) e (by rw [hlen]; exact Nat.lt_of_lt_of_le hl (by decide)), SB.upd (Z.Same.sb (Same.refl H)), _, upd_same, putI h⟩
section
variable {P : Program} {w : World} {K : PySem.W.Frag} {mg : Str → Option Value} {base : Heap} {f C : Addr} {fd : FuncData}
/-- 0 and all ends, ascending, each once -/
structure Marks (rs rs' : Rs) (ms : List Int) : Prop where
  asc : ms.Pairwise (· < ·)
  zero : ms[0]? = some 0
  has : ∀ x, Edge rs x ∨ Edge rs' x → x ∈ ms
  len : ms.length ≤ 2 * (rs.length + rs'.length) + 1
theorem edge_at {rs : Rs} {x : Int} (h : Edge rs x) : ∃ (i : Nat) (l : Int) (y : Option Int), rs[i]? = some (l, y) ∧ (l = x ∨ y = some x) := by
  obtain ⟨⟨l, y⟩, hm, h⟩ := h
  obtain ⟨i, hi⟩ := List.mem_iff_getElem?.mp hm
  exact ⟨i, l, y, hi, h⟩
theorem edge_of {rs : Rs} {x : Int} {i : Nat} {l : Int} {y : Option Int} (h : rs[i]? = some (l, y)) (h2 : l = x ∨ y = some x) : Edge rs x := ⟨_, List.mem_of_getElem? h, h2⟩
theorem edge_app {a b : Rs} {x : Int} : Edge (a ++ b) x ↔ Edge a x ∨ Edge b x := by
  constructor
  · rintro ⟨p, hp, h⟩
    rcases List.mem_append.mp hp with z | z
    · exact .inl ⟨p, z, h⟩
    · exact .inr ⟨p, z, h⟩
  · rintro (⟨p, hp, h⟩ | ⟨p, hp, h⟩)
    · exact ⟨p, List.mem_append_left _ hp, h⟩
    · exact ⟨p, List.mem_append_right _ hp, h⟩
theorem edge_pos {rs : Rs} {x : Int} (g : Good (-1) rs) (h : Edge rs x) : 0 ≤ x := by
  obtain ⟨i, l, y, hi, h⟩ := edge_at h
  obtain ⟨g1, g2⟩ := good_at g hi
  rcases h with h | h
  · omega
  · have := g2 x h
    omega
def spMarks (K : PySem.W.Frag) : Sp := fun vs H Q _ => ∃ (b b' : Bool) (r r' : Addr) (ps ps' : List Addr) (rs rs' : Rs), vs = [.ref r, .ref r'] ∧ Ris b false K H r ps rs ∧ Ris b' false K H r' ps' rs' ∧ Good (-1) rs ∧ Good (-1) rs' ∧ rs.length ≤ 20000 ∧ rs'.length ≤ 20000 ∧ ∀ p H' ms, Same H H' → H' p = some (.lst (ms.map V.int)) → Marks rs rs' ms → Q (.ref p) H'
theorem ok_marks_of (F : FnP K "marks_of" s_marks_of f fd) (m_list : mg "list" = none) (m_sorted : mg "sorted" = none) (m_int : mg "int" = none) : FnOk P w K mg base CX0 1 f fd P_marks_of (spMarks K) := by
  refine F.ok sc_marks_of (fun vs H Q E h => ?_) (fun cdv A outer s H vs Q E hr h => ?_)
  · obtain ⟨b, b', r, r', ps, ps', rs, rs', rfl, _⟩ := h
    rfl
  · obtain ⟨b, b', r, r', ps, ps', rs, rs', rfl, hR, hR', g, g', l1, l2, q⟩ := h
    refine ⟨_, PSs.nox (pss_cons (ps_set (i := 2) sc_marks_of.nd rfl (by first | exact .inl rfl | exact .inr rfl) (pe_disp (pps_cons pe_int pe_bl pps_nil) rfl rfl (by simp) (by decide)))
      (pss_cons (ps_for PassesOwn.never rfl (pi_list (pe_op op_cat (pe_callTy call_list_of (by rfl) m_list (by decide +kernel) (pa_cons (pv 0) pa_nil)) (pe_callTy call_list_of (by rfl) m_list (by decide +kernel) (pa_cons (pv 1) pa_nil)))) (pg_or (pg_unl rfl (pgs_cons (pg_name (i := 3) sc_marks_of.nd rfl (by first | exact .inl rfl | exact .inr rfl)) (pgs_cons (pg_name (i := 4) sc_marks_of.nd rfl (by first | exact .inl rfl | exact .inr rfl)) pgs_nil))) (pg_tup rfl (pgs_cons (pg_name (i := 3) sc_marks_of.nd rfl (by first | exact .inl rfl | exact .inr rfl)) (pgs_cons (pg_name (i := 4) sc_marks_of.nd rfl (by first | exact .inl rfl | exact .inr rfl)) pgs_nil))))
        (pss_cons (ps_asg pe_bl (pg_sub (pv 2) (pv 3) (set_dict (rm1 hr))))
      (pss_one (ps_if (pt_cmpR op_notN (pv 4) pe_non (nomark _)) (pss_one (ps_asg pe_bl (pg_sub (pv 2) (pv 4) (set_dict (rm1 hr))))) pss_nil))))
      (pss_one (ps_ret (pe_callBK (cr_sortedInt hr.units) (by rfl) m_sorted (by decide +kernel) (pa_cons (pe_callTy (call_list_dK rfl) (by rfl) m_list (by decide +kernel) (pa_cons (pv 2) pa_nil)) pa_nil) (pk_cons (pe_bltn (v := .ty "int") (by rfl) m_int (by decide +kernel) rfl) pk_nil)))))), ?_⟩
    intro p np
    walk_at "go"
    refine ⟨upd_same, [(Sum.inl 0, .bl true)], rfl, by decide, ?_⟩
    have e0 : upd (upd H p (.dK [])) p (.dK (mergeK [] [((Sum.inl 0 : Key), V.bl true)])) = upd H p (.dK [((Sum.inl 0 : Key), V.bl true)]) := by
      funext b
      by_cases hb : b = p
      · rw [hb, upd_same, upd_same]
        rfl
      · rw [upd_ne hb, upd_ne hb, upd_ne hb]
    rw [e0]
    have s1 := same_new (o := .dK [((Sum.inl 0 : Key), V.bl true)]) np
    have d1 : DInt (upd H p (.dK [((Sum.inl 0 : Key), V.bl true)])) p [0] := ⟨_, upd_same, rfl⟩
    generalize upd H p (.dK [((Sum.inl 0 : Key), V.bl true)]) = H1 at s1 d1 ⊢
    have hR1 := hR.mono s1
    have hR1' := hR'.mono s1
    walk_at "go"
    refine ⟨r, _, rfl, hR1.1.or, fun x1 n1 => ?_⟩
    have s2 := same_new (o := .lst (ps.map V.ref)) n1
    walk_at "go"
    refine ⟨r', _, rfl, (hR1'.mono s2).1.or, fun x2 n2 => ?_⟩
    have s3 := same_new (o := .lst (ps'.map V.ref)) n2
    walk_at "go"
    refine ⟨x1, x2, _, _, rfl, rfl, s3 _ _ upd_same, upd_same, ?_, fun L nL => ?_⟩
    · rw [List.length_map, List.length_map, hR.2.1, hR'.2.1]
      exact Nat.le_trans (show rs.length + rs'.length ≤ 40000 by omega) (by decide)
    have s4 := same_new (o := .lst (ps.map V.ref ++ ps'.map V.ref)) nL
    have s14 := s2.trans (s3.trans s4)
    have hL : Ris true false K _ L (ps ++ ps') (rs ++ rs') := Ris.append (hR1.mono s14) (hR1'.mono s14) upd_same
    have d4 : DInt (upd (upd (upd H1 x1 (.lst (ps.map V.ref))) x2 (.lst (ps'.map V.ref))) L (.lst (ps.map V.ref ++ ps'.map V.ref))) p [0] := by
      obtain ⟨kvs, e, h⟩ := d1.ex
      exact ⟨kvs, s14 _ _ e, h⟩
    have s04 := s1.trans s14
    generalize upd (upd (upd H1 x1 (.lst (ps.map V.ref))) x2 (.lst (ps'.map V.ref))) L (.lst (ps.map V.ref ++ ps'.map V.ref)) = H4 at hL d4 s04 ⊢
    have nHp : H p = none := np
    refine ⟨L, rfl, ⟨_, hL.1⟩, ?_⟩
    refine for_pairsL (c := false) (ps := ps ++ ps') (rs := rs ++ rs') (fun i σ H5 => SB p H4 H5 ∧ Same H H5 ∧ Ris true false K H5 L (ps ++ ps') (rs ++ rs') ∧ ∃ (ks : List Int) (v3 v4 : Option V), DInt H5 p ks ∧ ks.Nodup ∧ 0 ∈ ks ∧ (∀ x ∈ ks, 0 ≤ x) ∧ ks.length ≤ 2 * i + 1 ∧ (∀ (j : Nat) (l : Int) (h : Option Int), j < i → (rs ++ rs')[j]? = some (l, h) → l ∈ ks ∧ ∀ y, h = some y → y ∈ ks) ∧ σ = [some (.ref r), some (.ref r'), some (.ref p), v3, v4]) ⟨Z.Same.sb (Same.refl _), s04, hL, [0], none, none, d4, by simp, by simp, by simp, by simp, (fun j l h hj => by omega), rfl⟩ ?_ ?_ ?_
    · rintro i σ H5 ⟨_, _, h, _⟩
      exact h
    · rintro i l h σ H5 hi ⟨sb5, sH5, hL5, ks, v3, v4, d5, nd, z0, hpos, hlen, hin, rfl⟩
      have hilt : i < (rs ++ rs').length := (List.getElem?_eq_some_iff.mp hi).1
      rw [List.length_append] at hilt
      obtain ⟨H6, p6, sb6, d6⟩ := d5.put (x := l) (v := .bl true) (by omega)
      have gi : 0 ≤ l ∧ ∀ y, h = some y → 0 ≤ y := by
        rcases edge_app.mp (edge_of hi (.inl rfl)) with z | z
        · refine ⟨edge_pos g z, fun y hy => ?_⟩
          rcases edge_app.mp (edge_of hi (.inr hy)) with z | z
          · exact edge_pos g z
          · exact edge_pos g' z
        · refine ⟨edge_pos g' z, fun y hy => ?_⟩
          rcases edge_app.mp (edge_of hi (.inr hy)) with z | z
          · exact edge_pos g z
          · exact edge_pos g' z
      obtain ⟨kvs, ek, _⟩ := d5.ex
      have hL6 := hL5.dk sb6 ek
      have sH6 : Same H H6 := fun b o e => sb6 b o (ne_of_none e nHp) (sH5 b o e)
      walk_at "go"
      refine ⟨p, H6, rfl, p6, ?_⟩
      have hin6 : ∀ ks' : List Int, (∀ x, x ∈ addI ks l → x ∈ ks') → (∀ y, h = some y → y ∈ ks') → ∀ (j : Nat) (l : Int) (h : Option Int), j < i + 1 → (rs ++ rs')[j]? = some (l, h) → l ∈ ks' ∧ ∀ y, h = some y → y ∈ ks' := by
        intro ks' k1 k2 j l2 h2 hj hj2
        by_cases e : j = i
        · subst e
          rw [hi] at hj2
          cases hj2
          exact ⟨k1 _ (addI_mem.mpr (.inr rfl)), k2⟩
        · obtain ⟨a1, a2⟩ := hin j l2 h2 (by omega) hj2
          exact ⟨k1 _ (addI_mem.mpr (.inl a1)), fun y hy => k1 _ (addI_mem.mpr (.inl (a2 y hy)))⟩
      have len6 := addI_len (ks := ks) (x := l)
      have pos6 : ∀ x ∈ addI ks l, 0 ≤ x := fun x hx => by
        rcases addI_mem.mp hx with z | z
        · exact hpos x z
        · rw [z]; exact gi.1
      cases h with
      | none =>
        walk_at "go"
        exact ⟨sb5.trans sb6, sH6, hL6, addI ks l, _, _, d6, addI_nodup nd, addI_mem.mpr (.inl z0), pos6, by omega, hin6 _ (fun x hx => hx) nofun, rfl⟩
      | some y =>
        obtain ⟨H7, p7, sb7, d7⟩ := d6.put (x := y) (v := .bl true) (by omega)
        obtain ⟨kvs6, ek6, _⟩ := d6.ex
        have len7 := addI_len (ks := addI ks l) (x := y)
        walk_at "go"
        refine ⟨p, H7, rfl, p7, ?_⟩
        refine ⟨sb5.trans (sb6.trans sb7), fun b o e => sb7 b o (ne_of_none e nHp) (sH6 b o e), hL6.dk sb7 ek6, addI (addI ks l) y, _, _, d7, addI_nodup (addI_nodup nd), addI_mem.mpr (.inl (addI_mem.mpr (.inl z0))), fun x hx => ?_, by omega, hin6 _ (fun x hx => addI_mem.mpr (.inl hx)) (fun z hz => by cases hz; exact addI_mem.mpr (.inr rfl)), rfl⟩
        rcases addI_mem.mp hx with z | z
        · exact pos6 x z
        · rw [z]; exact gi.2 y rfl
    · rintro σ H5 ⟨sb5, sH5, hL5, ks, v3, v4, d5, nd, z0, hpos, hlen, hin, rfl⟩
      obtain ⟨kvs, ek, hk⟩ := d5.ex
      walk_at "go"
      refine ⟨p, kvs, rfl, ek, fun L2 nL2 => ?_⟩
      have ek2 : (kvs.map fun kv => kV kv.1) = ks.map V.int := by
        have := congrArg (List.map kV) hk
        rw [List.map_map, List.map_map] at this
        exact this
      rw [ek2]
      have s6 := same_new (o := .lst (ks.map V.int)) nL2
      walk_at "go"
      refine ⟨L2, ks, rfl, rfl, SqL.of upd_same, fun ns p2 hp ho np2 => ?_⟩
      have ho : ns.Pairwise (· ≤ ·) := ho
      have s7 := same_new (o := .lst (ns.map V.int)) np2
      have nd2 : ns.Nodup := hp.nodup_iff.mpr nd
      have asc : ns.Pairwise (· < ·) := by
        refine (List.Pairwise.and ho nd2).imp ?_
        rintro a b ⟨h1, h2⟩
        omega
      refine q p2 _ ns (sH5.trans (s6.trans s7)) upd_same ⟨asc, ?_, fun x hx => ?_, ?_⟩
      · have h0 : 0 ∈ ns := hp.mem_iff.mpr z0
        cases ns with
        | nil => cases h0
        | cons a r =>
          rcases List.mem_cons.mp h0 with e | e
          · rw [← e]; rfl
          · have h1 := (List.pairwise_cons.mp asc).1 0 e
            have h2 := hpos a (hp.mem_iff.mp (List.mem_cons_self ..))
            omega
      · obtain ⟨j, l, y, hj, h⟩ := edge_at (edge_app.mpr hx)
        have hjl := (List.getElem?_eq_some_iff.mp hj).1
        obtain ⟨a1, a2⟩ := hin j l y hjl hj
        refine hp.mem_iff.mpr ?_
        rcases h with h | h
        · rw [← h]; exact a1
        · exact a2 x h
      · rw [hp.length_eq]
        rw [List.length_append] at hlen
        exact hlen
end
end Z
set_option Elab.async false
set_option linter.all false
set_option maxRecDepth 100000
set_option maxHeartbeats 4000000
namespace Z
open Nd
open PySem PySem.Spec PyProof.Rows L2
open C8 (pss_cut tCut)
local macro_rules | `(tactic| walk_at "num") => `(tactic| first | rfl | omega | decide | exact Nat.le_of_lt (small1000 (by simp)) | exact ⟨by omega, by omega⟩ | exact ⟨by omega, by omega, by omega⟩ | exact ⟨by decide, by decide, by decide⟩ | exact Or.inl ⟨by omega, by omega⟩ | exact Or.inr ⟨by omega, by omega⟩)
local macro_rules | `(tactic| walk_at "go") => `(tactic| repeat (first | refine ⟨_, rfl, ?_⟩ | refine ⟨_, _, rfl, rfl, ?_⟩ | refine ⟨_, _, rfl, ?_⟩ | refine ⟨_, _, rfl, rfl, (by walk_at "num"), ?_⟩ | refine Or.inl ⟨_, rfl, ?_⟩ | refine ⟨_, _, _, _, rfl, rfl, (by assumption), (by rfl), ?_⟩ | refine ⟨_, _, _, _, _, rfl, (by assumption), (by assumption), (by assumption), (by rfl), ?_⟩ | refine ⟨rfl, ?_⟩ | refine And.intro (by walk_at "num") ?_))
abbrev s_track : Stmt := topS 10
abbrev N_track : List Str := ["start", "rises", "marks", "found", "value", "last", "step", "at", "mark"]
abbrev P_track : List Str := ["start", "rises", "marks"]
theorem sc_track : FnScope N_track P_track (defScope s_track) := ⟨rfl, rfl, rfl, by decide +kernel, rfl, by decide +kernel, by decide +kernel⟩
/-- ascending, from 0 on, all ends of rs among them -/
structure Mrk (rs : Rs) (ms : List Int) : Prop where
  asc : ms.Pairwise (· < ·)
  zero : ms[0]? = some 0
  has : ∀ x, Edge rs x → x ∈ ms
theorem Marks.one {rs rs' : Rs} {ms : List Int} (h : Marks rs rs' ms) : Mrk rs ms := ⟨h.asc, h.zero, fun x hx => h.has x (.inl hx)⟩
theorem Marks.two {rs rs' : Rs} {ms : List Int} (h : Marks rs rs' ms) : Mrk rs' ms := ⟨h.asc, h.zero, fun x hx => h.has x (.inr hx)⟩
theorem asc_at {ms : List Int} (h : ms.Pairwise (· < ·)) {i j : Nat} {a b : Int} (hi : ms[i]? = some a) (hj : ms[j]? = some b) (hij : i < j) : a < b := by
  obtain ⟨hi1, rfl⟩ := List.getElem?_eq_some_iff.mp hi
  obtain ⟨hj1, rfl⟩ := List.getElem?_eq_some_iff.mp hj
  exact List.pairwise_iff_getElem.mp h i j hi1 hj1 hij
theorem Mrk.pos {rs : Rs} {ms : List Int} (h : Mrk rs ms) {i : Nat} {m : Int} (hi : ms[i]? = some m) : 0 ≤ m := by
  cases i with
  | zero =>
    rw [h.zero] at hi
    cases hi
    exact Int.le_refl _
  | succ i => exact Int.le_of_lt (asc_at h.asc h.zero hi (Nat.succ_pos _))
theorem Mrk.calm {rs : Rs} {ms : List Int} (h : Mrk rs ms) {i : Nat} {m M : Int} (hi : ms[i]? = some m) (hj : ms[i + 1]? = some M) : Calm rs m M := by
  intro x hx ⟨h1, h2⟩
  obtain ⟨j, hj2⟩ := List.mem_iff_getElem?.mp (h.has x hx)
  by_cases c : j ≤ i
  · by_cases c2 : j = i
    · subst c2
      rw [hi] at hj2
      cases hj2
      omega
    · have := asc_at h.asc hj2 hi (by omega)
      omega
  · by_cases c2 : j = i + 1
    · subst c2
      rw [hj] at hj2
      cases hj2
      omega
    · have := asc_at h.asc hj hj2 (by omega)
      omega
theorem Mrk.last {rs : Rs} {ms : List Int} (h : Mrk rs ms) {i : Nat} {m : Int} (hi : ms[i]? = some m) (hl : ms.length = i + 1) : ∀ x, Edge rs x → x ≤ m := by
  intro x hx
  obtain ⟨j, hj⟩ := List.mem_iff_getElem?.mp (h.has x hx)
  have hjl := (List.getElem?_eq_some_iff.mp hj).1
  by_cases c : j = i
  · subst c
    rw [hi] at hj
    cases hj
    exact Int.le_refl _
  · exact Int.le_of_lt (asc_at h.asc hj hi (by omega))
def uI (rs : Rs) (m : Int) : Int := if up rs m = true then 1 else 0
section
variable {P : Program} {w : World} {K : PySem.W.Frag} {mg : Str → Option Value} {base : Heap} {f C : Addr} {fd : FuncData}
/-- what track leaves: a pair for each mark -/
def Trk (H : Hp) (p : Addr) (s : Int) (rs : Rs) (ms : List Int) : Prop := ∃ ts : List Addr, H p = some (.lst (ts.map V.ref)) ∧ ts.length = ms.length ∧ ∀ (i : Nat) (t : Addr) (m : Int), ts[i]? = some t → ms[i]? = some m → H t = some (.tup [.int (s + Fs rs m), .int (uI rs m)])
theorem Trk.mono {H H' : Hp} {p : Addr} {s : Int} {rs : Rs} {ms : List Int} (sm : Same H H') (h : Trk H p s rs ms) : Trk H' p s rs ms := by
  obtain ⟨ts, h1, h2, h3⟩ := h
  exact ⟨ts, sm _ _ h1, h2, fun i t m a b => sm _ _ (h3 i t m a b)⟩
def spTrack (K : PySem.W.Frag) : Sp := fun vs H Q _ => ∃ (b : Bool) (s : Int) (r M : Addr) (ps : List Addr) (rs : Rs) (ms : List Int), vs = [.int s, .ref r, .ref M] ∧ SqT K H r (ps.map V.ref) ∧ Ris false false K H r ps rs ∧ H M = some (.lst (ms.map V.int)) ∧ Good (-1) rs ∧ Mrk rs ms ∧ ms.length ≤ 90000 ∧ ∀ p H', Same H H' → Trk H' p s rs ms → Q (.ref p) H'
theorem ok_track (F : FnP K "track" s_track f fd) (m_len : mg "len" = none) : FnOk P w K mg base CX0 1 f fd P_track (spTrack K) := by
  refine F.ok sc_track (fun vs H Q E h => ?_) (fun cdv A outer s H vs Q E hr h => ?_)
  · obtain ⟨b, s, r, M, ps, rs, ms, rfl, _⟩ := h
    rfl
  · obtain ⟨b, s, r, M, ps, rs, ms, rfl, _, hR, hM, g, mk, hl, q⟩ := h
    refine ⟨_, PSs.nox (pss_cons (ps_set (i := 3) sc_track.nd rfl (by first | exact .inl rfl | exact .inr rfl) (pe_lst pa_nil))
      (pss_cons (ps_asg (pe_tup (pa_cons (pv 0) (pa_cons pe_int (pa_cons pe_int (pa_cons pe_int pa_nil))))) (pg_tup rfl (pgs_cons (pg_name (i := 4) sc_track.nd rfl (by first | exact .inl rfl | exact .inr rfl)) (pgs_cons (pg_name (i := 5) sc_track.nd rfl (by first | exact .inl rfl | exact .inr rfl)) (pgs_cons (pg_name (i := 6) sc_track.nd rfl (by first | exact .inl rfl | exact .inr rfl)) (pgs_cons (pg_name (i := 7) sc_track.nd rfl (by first | exact .inl rfl | exact .inr rfl)) pgs_nil))))))
      (pss_cut (ps_for PassesOwn.never rfl (pi_list (pv 2)) (pg_name (i := 8) sc_track.nd rfl (by first | exact .inl rfl | exact .inr rfl))
        (pss_cons (ps_set (i := 4) sc_track.nd rfl (by first | exact .inl rfl | exact .inr rfl) (pe_op op_add (pv 4) (pe_op op_mul (pv 6) (pe_op op_sub (pv 8) (pv 5)))))
      (pss_cons (ps_set (i := 5) sc_track.nd rfl (by first | exact .inl rfl | exact .inr rfl) (pv 8))
      (pss_cut (ps_while PassesOwn.never (PW.pt (pw_and (pt_cmpR op_lt (pv 7) (pe_callB call_len_seq (by rfl) m_len PySem.boot_len (pa_cons (pv 1) pa_nil)) (nomark _)) (pw_and (pt_cmpR op_notN (pe_ix ix_tup (pe_ix ix_tup (pv 1) (pv 7) (fun _ _ => rfl)) pe_int (fun _ _ => rfl)) pe_non (nomark _)) (pw_and1 (pt_cmpR op_le (pe_ix ix_tup (pe_ix ix_tup (pv 1) (pv 7) (fun _ _ => rfl)) pe_int (fun _ _ => rfl)) (pv 8) (nomark _))))))
        (pss_one (ps_set (i := 7) sc_track.nd rfl (by first | exact .inl rfl | exact .inr rfl) (pe_op op_add (pv 7) pe_int))))
      (pss_cut (ps_set (i := 6) sc_track.nd rfl (by first | exact .inl rfl | exact .inr rfl) (pe_ifExp (PW.pt (pw_and (pt_cmpR op_lt (pv 7) (pe_callB call_len_seq (by rfl) m_len PySem.boot_len (pa_cons (pv 1) pa_nil)) (nomark _)) (pw_and1 (pt_cmpR op_le (pe_ix ix_tup (pe_ix ix_tup (pv 1) (pv 7) (fun _ _ => rfl)) pe_int (fun _ _ => rfl)) (pv 8) (nomark _))))) pe_int pe_int))
      (pss_one (ps_expr (pe_bm PySem.F.plainAttrs_list PySem.F.slot_list_append PySem.F.type_list_append mt_append (pv 3) (pa_cons (pe_tup (pa_cons (pv 4) (pa_cons (pv 6) pa_nil))) pa_nil)))))))))
      (pss_one (ps_ret (pv 3)))))), ?_⟩
    walk_at "go"
    intro p np
    walk_at "go"
    intro T nT
    refine ⟨T, _, rfl, .inl (.inl upd_same), rfl, _, _, rfl, _, _, rfl, _, _, rfl, _, _, rfl, rfl, ?_⟩
    have s1 := (same_new (o := .lst []) np).trans (same_new (o := .tup [.int s, .int 0, .int 0, .int 0]) nT)
    have e1 : upd (upd H p (.lst [])) T (.tup [.int s, .int 0, .int 0, .int 0]) p = some (.lst []) := same_new (o := .tup [.int s, .int 0, .int 0, .int 0]) nT _ _ upd_same
    generalize upd (upd H p (.lst [])) T (.tup [.int s, .int 0, .int 0, .int 0]) = H1 at s1 e1 ⊢
    refine ⟨fun σ' H' => ∃ v4 v5 v6 v7 v8 : Option V, Same H H' ∧ Trk H' p s rs ms ∧ σ' = [some (.int s), some (.ref r), some (.ref M), some (.ref p), v4, v5, v6, v7, v8], ?_, ?_⟩
    rotate_left
    · rintro σ' H' ⟨v4, v5, v6, v7, v8, sH, tr, rfl⟩
      walk_at "go"
      exact q p H' sH tr
    walk_at "go"
    refine ⟨⟨_, SqL.of (s1 _ _ hM)⟩, ?_⟩
    refine for_gen (n := ms.length) (fun i σ H2 => Same H H2 ∧ ∃ (ts : List Addr) (va la st : Int) (at_ : Nat) (v8 : Option V), H2 p = some (.lst (ts.map V.ref)) ∧ ts.length = i ∧ (∀ (j : Nat) (t : Addr) (m : Int), ts[j]? = some t → ms[j]? = some m → H2 t = some (.tup [.int (s + Fs rs m), .int (uI rs m)])) ∧ at_ ≤ rs.length ∧ (∀ m', la ≤ m' → up rs m' = up (rs.drop at_) m') ∧ (st = 0 ∨ st = 1) ∧
      (match i with
        | 0 => va = s ∧ la = 0 ∧ st = 0
        | j + 1 => ms[j]? = some la ∧ va = s + Fs rs la ∧ st = uI rs la) ∧ σ = [some (.int s), some (.ref r), some (.ref M), some (.ref p), some (.int va), some (.int la), some (.int st), some (.int (at_ : Int)), v8]) ⟨s1, [], s, 0, 0, 0, none, e1, rfl, (fun j t m h => nomatch h), Nat.zero_le _, (fun m' _ => rfl), .inl rfl, ⟨rfl, rfl, rfl⟩, rfl⟩ ?_ ?_ ?_ ?_
    · rintro i σ H2 hi ⟨s2, _⟩
      exact ⟨_, .int ms[i], SqL.of (s2 _ _ hM), by rw [List.getElem?_map, List.getElem?_eq_getElem hi]; rfl⟩
    · rintro σ H2 ⟨s2, _⟩
      exact ⟨_, SqL.of (s2 _ _ hM), by rw [List.length_map]; exact Nat.le_refl _⟩
    rotate_left
    · rintro σ H2 ⟨s2, ts, va, la, st, at_, v8, ep, el, et, _, _, _, _, rfl⟩
      exact ⟨_, _, _, _, _, s2, ⟨ts, ep, el, et⟩, rfl⟩
    · rintro i σ H2 x H' hi ⟨s2, ts, va, la, st, at_, v8, ep, el, et, hat, hsk, hst, hv, rfl⟩ ⟨rfl, fx⟩
      obtain ⟨m, em, rfl⟩ := of_map (fx _ (SqL.of (s2 _ _ hM)))
      have hR2 := hR.mono s2
      have hla : la ≤ m := by
        cases i with
        | zero =>
          rw [mk.zero] at em
          cases em
          rw [hv.2.1]
          exact Int.le_refl _
        | succ j => exact Int.le_of_lt (asc_at mk.asc hv.1 em (Nat.lt_succ_self _))
      have hva : va + st * (m - la) = s + Fs rs m := by
        cases i with
        | zero =>
          rw [mk.zero] at em
          cases em
          obtain ⟨rfl, rfl, rfl⟩ := hv
          rw [Fs0 g]
          omega
        | succ j =>
          obtain ⟨a1, a2, a3⟩ := hv
          rcases aff g hla (mk.calm a1 em) with ⟨u, e⟩ | ⟨u, e⟩
          · have : st = 1 := by rw [a3]; exact if_pos u
            subst this
            omega
          · have : st = 0 := by rw [a3]; exact if_neg (by rw [u]; simp)
            subst this
            omega
      walk_at "go"
      refine ⟨fun σ' H3 => H3 = H' ∧ ∃ at2 : Nat, at2 ≤ rs.length ∧ (∀ m', m ≤ m' → up rs m' = up (rs.drop at2) m') ∧ (∀ l h, rs[at2]? = some (l, h) → ∀ y, h = some y → m < y) ∧ σ' = [some (.int s), some (.ref r), some (.ref M), some (.ref p), some (.int (va + st * (m - la))), some (.int m), some (.int st), some (.int (at2 : Int)), some (.int m)], ?_, ?_⟩
      · refine ⟨fun n σ' H3 => H3 = H' ∧ ∃ at2 : Nat, n = rs.length - at2 ∧ at2 ≤ rs.length ∧ (∀ m', m ≤ m' → up rs m' = up (rs.drop at2) m') ∧ σ' = [some (.int s), some (.ref r), some (.ref M), some (.ref p), some (.int (va + st * (m - la))), some (.int m), some (.int st), some (.int (at2 : Int)), some (.int m)], ⟨_, rfl, at_, rfl, hat, fun m' hm => hsk m' (by omega), rfl⟩, ?_⟩
        rintro n σ' H3 ⟨rfl, at2, rfl, ha2, hs2, rfl⟩
        walk_at "go"
        refine ⟨r, _, rfl, .inr hR2.1, ?_⟩
        rw [List.length_map, hR2.2.1]
        walk_at "go"
        refine ite2 (fun e => ?_) (fun e => ?_)
        rotate_left
        · have : ¬ (at2 : Int) < (rs.length : Int) := fun z => e (decide_eq_true z)
          refine ⟨rfl, at2, ha2, hs2, fun l h z => ?_, rfl⟩
          have := (List.getElem?_eq_some_iff.mp z).1
          omega
        have hlt : at2 < rs.length := by
          have : (at2 : Int) < (rs.length : Int) := of_decide_eq_true e
          omega
        have hlt2 : at2 < ps.length := by rw [hR2.2.1]; exact hlt
        have er : rs[at2]? = some (rs[at2].1, rs[at2].2) := List.getElem?_eq_getElem hlt
        have hq : SqT K H3 ps[at2] [.int rs[at2].1, oV rs[at2].2] := hR2.2.2 at2 _ _ (List.getElem?_eq_getElem hlt2) er
        have ea : atI (ps.map V.ref) (at2 : Int) = some (.ref ps[at2]) := at_map (List.getElem?_eq_getElem hlt2)
        have hdr : rs.drop at2 = (rs[at2].1, rs[at2].2) :: rs.drop (at2 + 1) := List.drop_eq_getElem_cons hlt
        generalize rs[at2].1 = lo at er hq hdr
        generalize rs[at2].2 = hi2 at er hq hdr
        have hstep : ∀ y, hi2 = some y → y ≤ m → ∀ m', m ≤ m' → up rs m' = up (rs.drop (at2 + 1)) m' := fun y hy hym m' hm => by
          rw [hs2 m' hm, hdr, hy, up_skip (by omega)]
        walk_at "go"
        refine ⟨r, _, _, _, rfl, rfl, hR2.1, ea, ?_⟩
        cases hi2 with
        | none =>
          walk_at "go"
          exact ⟨at2, ha2, hs2, (fun l h z => by rw [er] at z; cases z; exact nofun), rfl⟩
        | some y =>
          walk_at "go"
          refine ⟨r, _, _, _, rfl, rfl, hR2.1, ea, ?_⟩
          walk_at "go"
          refine ite2 (fun e2 => ?_) (fun e2 => ?_)
          · have hy : y ≤ m := of_decide_eq_true e2
            refine ⟨fun σ' H4 => H4 = H3 ∧ σ' = [some (.int s), some (.ref r), some (.ref M), some (.ref p), some (.int (va + st * (m - la))), some (.int m), some (.int st), some (.int ((at2 : Int) + 1)), some (.int m)], ?_, ?_⟩
            · rintro σ' H4 ⟨rfl, rfl⟩
              exact ⟨rs.length - (at2 + 1), by omega, rfl, at2 + 1, rfl, by omega, hstep y rfl hy, rfl⟩
            · walk_at "go"
              rfl
          · have hy : ¬ y ≤ m := fun z => e2 (decide_eq_true z)
            exact ⟨rfl, at2, ha2, hs2, (fun l h z => by rw [er] at z; cases z; intro y' hy'; cases hy'; omega), rfl⟩
      · rintro σ' H3 ⟨rfl, at2, ha2, hs2, hx2, rfl⟩
        have hup : up rs m = (decide (at2 < rs.length) && match rs[at2]? with
            | some q => decide (q.1 ≤ m)
            | none => false) := by
          rw [hs2 m (Int.le_refl _)]
          by_cases c : at2 < rs.length
          · have er : rs[at2]? = some (rs[at2].1, rs[at2].2) := List.getElem?_eq_getElem c
            obtain ⟨e', g2⟩ := g.drop at2
            have hdr : rs.drop at2 = (rs[at2].1, rs[at2].2) :: rs.drop (at2 + 1) := List.drop_eq_getElem_cons c
            rw [hdr] at g2 ⊢
            rw [up_now g2 (hx2 _ _ er), er, decide_eq_true c]
            rfl
          · rw [List.drop_of_length_le (by omega), decide_eq_false c]
            rfl
        refine ⟨fun σ' H4 => H4 = H3 ∧ σ' = [some (.int s), some (.ref r), some (.ref M), some (.ref p), some (.int (va + st * (m - la))), some (.int m), some (.int (uI rs m)), some (.int (at2 : Int)), some (.int m)], ?_, ?_⟩
        · walk_at "go"
          refine ⟨r, _, rfl, .inr hR2.1, ?_⟩
          rw [List.length_map, hR2.2.1]
          walk_at "go"
          refine ite2 (fun e => ?_) (fun e => ?_)
          rotate_left
          · have hn : ¬ at2 < rs.length := fun z => e (decide_eq_true (by omega))
            have hu : up rs m = false := by rw [hup, decide_eq_false hn]; rfl
            refine ⟨rfl, ?_⟩
            unfold uI
            rw [if_neg (by rw [hu]; simp)]
            rfl
          have hlt : at2 < rs.length := by
            have : (at2 : Int) < (rs.length : Int) := of_decide_eq_true e
            omega
          have hlt2 : at2 < ps.length := by rw [hR2.2.1]; exact hlt
          have er : rs[at2]? = some (rs[at2].1, rs[at2].2) := List.getElem?_eq_getElem hlt
          have hq : SqT K H3 ps[at2] [.int rs[at2].1, oV rs[at2].2] := hR2.2.2 at2 _ _ (List.getElem?_eq_getElem hlt2) er
          have ea : atI (ps.map V.ref) (at2 : Int) = some (.ref ps[at2]) := at_map (List.getElem?_eq_getElem hlt2)
          have hup2 : up rs m = decide (rs[at2].1 ≤ m) := by rw [hup, er, decide_eq_true hlt]; rfl
          walk_at "go"
          refine ⟨r, _, _, _, rfl, rfl, hR2.1, ea, ?_⟩
          walk_at "go"
          refine ite2 (fun e2 => ?_) (fun e2 => ?_)
          · have hu : up rs m = true := by rw [hup2]; exact e2
            refine ⟨rfl, ?_⟩
            unfold uI
            rw [if_pos hu]
            rfl
          · have hu : up rs m = false := by rw [hup2]; simpa using e2
            refine ⟨rfl, ?_⟩
            unfold uI
            rw [if_neg (by rw [hu]; simp)]
            rfl
        · rintro σ' H4 ⟨rfl, rfl⟩
          walk_at "go"
          refine ⟨.inl ⟨rfl, _, .inl (.inl ep)⟩, ?_⟩
          walk_at "go"
          intro t nt
          have s3 := same_new (o := .tup [.int (va + st * (m - la)), .int (uI rs m)]) nt
          walk_at "go"
          refine ⟨_, _, _, rfl, rfl, s3 _ _ ep, ?_, ?_⟩
          · rw [List.length_map, el]
            exact Nat.lt_of_lt_of_le hi (Nat.le_trans hl (by decide))
          have tp : t ≠ p := (ne_of_none ep nt).symm
          refine ⟨Z.Same.mut (s2.trans s3) np, ts ++ [t], _, m, _, at2, _, ?_, ?_, ?_, ha2, hs2, ?_, ⟨em, hva, rfl⟩, rfl⟩
          · rw [upd_same, List.map_append]
            rfl
          · rw [List.length_append, el]
            rfl
          · intro j t2 m2 h1 h2
            by_cases hlt : j < ts.length
            · rw [List.getElem?_append_left hlt] at h1
              have z := et j t2 m2 h1 h2
              have t2p : t2 ≠ p := fun e => by
                rw [e, ep] at z
                cases z
              rw [upd_ne t2p]
              exact s3 _ _ z
            · rw [List.getElem?_append_right (by omega)] at h1
              have h3 : j - ts.length = 0 := by
                have := (List.getElem?_eq_some_iff.mp h1).1
                simp at this
                omega
              rw [h3] at h1
              obtain rfl : t = t2 := Option.some.inj h1
              have h4 : j = i := by omega
              subst h4
              rw [em] at h2
              cases h2
              rw [upd_ne tp, upd_same, hva]
          · unfold uI
            split
            · exact .inr rfl
            · exact .inl rfl
end
end Z
set_option Elab.async false
set_option linter.all false
set_option maxRecDepth 100000
set_option maxHeartbeats 4000000
namespace Z
open Nd
open PySem PySem.Spec PyProof.Rows L2
open C8 (pss_cut tCut)
local macro_rules | `(tactic| walk_at "num") => `(tactic| first | rfl | omega | decide | exact Nat.le_of_lt (small1000 (by simp)) | exact ⟨by omega, by omega⟩ | exact ⟨by omega, by omega, by omega⟩ | exact ⟨by decide, by decide, by decide⟩ | exact Or.inl ⟨by omega, by omega⟩ | exact Or.inr ⟨by omega, by omega⟩)
local macro_rules | `(tactic| walk_at "go") => `(tactic| repeat (first | refine ⟨_, rfl, ?_⟩ | refine ⟨_, _, rfl, rfl, ?_⟩ | refine ⟨_, _, rfl, ?_⟩ | refine ⟨_, _, rfl, rfl, (by walk_at "num"), ?_⟩ | refine Or.inl ⟨_, rfl, ?_⟩ | refine ⟨_, _, _, _, rfl, rfl, (by assumption), (by rfl), ?_⟩ | refine ⟨_, _, _, _, _, rfl, (by assumption), (by assumption), (by assumption), (by rfl), ?_⟩ | refine ⟨rfl, ?_⟩ | refine And.intro (by walk_at "num") ?_))
abbrev s_first_above : Stmt := topS 15
abbrev N_first_above : List Str := ["first", "second", "marks", "ones", "others", "at", "mark", "lead"]
abbrev P_first_above : List Str := ["first", "second"]
theorem sc_first_above : FnScope N_first_above P_first_above (defScope s_first_above) := ⟨rfl, rfl, rfl, by decide +kernel, rfl, by decide +kernel, by decide +kernel⟩
abbrev s_rise_point : Stmt := topS 14
abbrev N_rise_point : List Str := ["rises", "amount", "left", "low", "high"]
abbrev P_rise_point : List Str := ["rises", "amount"]
theorem sc_rise_point : FnScope N_rise_point P_rise_point (defScope s_rise_point) := ⟨rfl, rfl, rfl, by decide +kernel, rfl, by decide +kernel, by decide +kernel⟩
section
variable {P : Program} {w : World} {K : PySem.W.Frag} {mg : Str → Option Value} {base : Heap} {f C : Addr} {fd : FuncData}
/-- a pair (start, rises) -/
def Pr (K : PySem.W.Frag) (H : Hp) (a : Addr) (s : Int) (rs : Rs) : Prop := ∃ r ps, SqT K H a [.int s, .ref r] ∧ Ris false false K H r ps rs
def spFA (K : PySem.W.Frag) : Sp := fun vs H Q _ => ∃ (a b : Addr) (s s' : Int) (rs rs' : Rs), vs = [.ref a, .ref b] ∧ Pr K H a s rs ∧ Pr K H b s' rs' ∧ Good (-1) rs ∧ Good (-1) rs' ∧ rs.length ≤ 20000 ∧ rs'.length ≤ 20000 ∧ ∀ H' o, Same H H' → FA (dif s rs s' rs') o → Q (oV o) H'
theorem ok_first_above (F : FnP K "first_above" s_first_above f fd) (m_len : mg "len" = none) (m_enumerate : mg "enumerate" = none) (c_marks_of : Cal P w K mg base 1 "marks_of" (spMarks K)) (c_track : Cal P w K mg base 1 "track" (spTrack K)) : FnOk P w K mg base CX0 2 f fd P_first_above (spFA K) := by
  refine F.ok sc_first_above (fun vs H Q E h => ?_) (fun cdv A outer s H vs Q E hr h => ?_)
  · obtain ⟨a, b, s, s', rs, rs', rfl, _⟩ := h
    rfl
  · obtain ⟨a, b, s, s', rs, rs', rfl, ⟨r, ps, ha, hR⟩, ⟨r', ps', hb, hR'⟩, g, g', l1, l2, q⟩ := h
    refine ⟨_, PSs.nox (pss_cons (ps_set (i := 2) sc_first_above.nd rfl (by first | exact .inl rfl | exact .inr rfl) (pe_cl c_marks_of hr (by decide) (by rfl) (pa_cons (pe_ix ix_tup (pv 0) pe_int (fun _ _ => rfl)) (pa_cons (pe_ix ix_tup (pv 1) pe_int (fun _ _ => rfl)) pa_nil))))
      (pss_cons (ps_par (i := 3) (j := 4) (by rfl) sc_first_above.nd rfl rfl (by decide) rfl rfl (pa_cons (pe_cl c_track hr (by decide) (by rfl) (pa_cons (pe_ix ix_tup (pv 0) pe_int (fun _ _ => rfl)) (pa_cons (pe_ix ix_tup (pv 0) pe_int (fun _ _ => rfl)) (pa_cons (pv 2) pa_nil)))) (pa_cons (pe_cl c_track hr (by decide) (by rfl) (pa_cons (pe_ix ix_tup (pv 1) pe_int (fun _ _ => rfl)) (pa_cons (pe_ix ix_tup (pv 1) pe_int (fun _ _ => rfl)) (pa_cons (pv 2) pa_nil)))) pa_nil)) (by rfl))
      (pss_cons (ps_for PassesOwn.never rfl (pi_enum (by rfl) m_enumerate (pa_cons (pv 2) pa_nil)) (pg_tup rfl (pgs_cons (pg_name (i := 5) sc_first_above.nd rfl (by first | exact .inl rfl | exact .inr rfl)) (pgs_cons (pg_name (i := 6) sc_first_above.nd rfl (by first | exact .inl rfl | exact .inr rfl)) pgs_nil)))
        (pss_cons (ps_set (i := 7) sc_first_above.nd rfl (by first | exact .inl rfl | exact .inr rfl) (pe_op op_sub (pe_ix ix_tup (pe_ix ix_list (pv 3) (pv 5) (fun _ _ => rfl)) pe_int (fun _ _ => rfl)) (pe_ix ix_tup (pe_ix ix_list (pv 4) (pv 5) (fun _ _ => rfl)) pe_int (fun _ _ => rfl))))
      (pss_cons (ps_if (pt_cmpR op_gt (pv 7) pe_int (nomark _)) (pss_one (ps_ret (pv 6))) pss_nil)
      (pss_one (ps_if (PW.pt (pw_and (pt_cmpR op_gt (pe_ix ix_tup (pe_ix ix_list (pv 3) (pv 5) (fun _ _ => rfl)) pe_int (fun _ _ => rfl)) (pe_ix ix_tup (pe_ix ix_list (pv 4) (pv 5) (fun _ _ => rfl)) pe_int (fun _ _ => rfl)) (nomark _)) (pw_and1 (PW.pt (pw_or (pt_cmpR op_eq (pe_op op_add (pv 5) pe_int) (pe_callB call_len_seq (by rfl) m_len PySem.boot_len (pa_cons (pv 2) pa_nil)) (nomark _)) (pw_or1 (pt_cmpR op_lt (pe_op op_sub (pe_op op_add (pv 6) pe_int) (pv 7)) (pe_ix ix_list (pv 2) (pe_op op_add (pv 5) pe_int) (fun _ _ => rfl)) (nomark _)))))))) (pss_one (ps_ret (pe_op op_sub (pe_op op_add (pv 6) pe_int) (pv 7)))) pss_nil)))))
      (pss_one (ps_ret pe_non))))), ?_⟩
    walk_at "go"
    refine ⟨false, false, r, r', ps, ps', rs, rs', rfl, hR, hR', g, g', l1, l2, fun M H1 ms s1 eM mk => ?_⟩
    have hm := mk.len
    have ha1 := Z.Same.sqT s1 ha
    have hb1 := Z.Same.sqT s1 hb
    have hR1 := hR.mono s1
    have hR1' := hR'.mono s1
    walk_at "go"
    refine ⟨false, s, r, M, ps, rs, ms, rfl, hR1.1, hR1, eM, g, mk.one, by omega, fun p1 H2 s2 t1 => ?_⟩
    have hb2 := Z.Same.sqT s2 hb1
    have hR2' := hR1'.mono s2
    walk_at "go"
    refine ⟨false, s', r', M, ps', rs', ms, rfl, hR2'.1, hR2', s2 _ _ eM, g', mk.two, by omega, fun p2 H3 s3 t2 => ?_⟩
    have t1 := t1.mono s3
    have eM3 := s3 _ _ (s2 _ _ eM)
    have s03 := s1.trans (s2.trans s3)
    walk_at "go"
    refine ⟨M, _, rfl, SqL.of eM3, ?_⟩
    obtain ⟨ts1, f1, f2, f3⟩ := t1
    obtain ⟨ts2, k1, k2, k3⟩ := t2
    refine for_gen (n := ms.length) (fun i σ H4 => Same H3 H4 ∧ (match ms[i]? with
      | some m => Below (dif s rs s' rs') m
      | none => FA (dif s rs s' rs') none) ∧ ∃ v5 v6 v7 : Option V, σ = [some (.ref a), some (.ref b), some (.ref M), some (.ref p1), some (.ref p2), v5, v6, v7]) ⟨Same.refl _, ?_, none, none, none, rfl⟩ ?_ ?_ ?_ ?_
    · rw [mk.zero]
      intro k k0 k1
      omega
    · rintro i σ H4 hi ⟨s4, _⟩
      exact ⟨_, .int ms[i], SqL.of (s4 _ _ eM3), by rw [List.getElem?_map, List.getElem?_eq_getElem hi]; rfl⟩
    · rintro σ H4 ⟨s4, _⟩
      exact ⟨_, SqL.of (s4 _ _ eM3), by rw [List.length_map]; exact Nat.le_refl _⟩
    · rintro i σ H4 x H5 hi ⟨s4, hbl, v5, v6, v7, rfl⟩ ⟨T, x, rfl, nT, rfl, fx⟩
      obtain ⟨m, em, rfl⟩ := of_map (fx _ (SqL.of (s4 _ _ eM3)))
      rw [em] at hbl
      have hbl : Below (dif s rs s' rs') m := hbl
      have s5 := same_new (o := .tup [.int (i : Nat), .int m]) nT
      have s35 := s4.trans s5
      refine ⟨T, _, rfl, .inl (.inl upd_same), rfl, _, _, rfl, _, _, rfl, rfl, ?_⟩
      have hi1 : i < ts1.length := by omega
      have hi2 : i < ts2.length := by omega
      have o1 := s35 _ _ (f3 i _ m (List.getElem?_eq_getElem hi1) em)
      have o2 := s35 _ _ (k3 i _ m (List.getElem?_eq_getElem hi2) em)
      have q1 := SqL.of (K := K) (s35 _ _ f1)
      have q2 := SqL.of (K := K) (s35 _ _ k1)
      have ea1 : atI (ts1.map V.ref) (i : Int) = some (.ref ts1[i]) := at_map (List.getElem?_eq_getElem hi1)
      have ea2 : atI (ts2.map V.ref) (i : Int) = some (.ref ts2[i]) := at_map (List.getElem?_eq_getElem hi2)
      have qM := SqL.of (K := K) (s35 _ _ eM3)
      generalize ts1[i] = u1 at o1 ea1
      generalize ts2[i] = u2 at o2 ea2
      have w1 : SqT K (upd H4 T (.tup [.int (i : Nat), .int m])) u1 _ := .inl (.inl o1)
      have w2 : SqT K (upd H4 T (.tup [.int (i : Nat), .int m])) u2 _ := .inl (.inl o2)
      have hm0 := mk.one.pos em
      generalize upd H4 T (.tup [.int (i : Nat), .int m]) = H6 at s5 s35 o1 o2 q1 q2 qM w1 w2 ⊢
      walk_at "go"
      refine ⟨p1, _, _, _, rfl, rfl, q1, ea1, ?_⟩
      walk_at "go"
      refine ⟨p2, _, _, _, rfl, rfl, q2, ea2, ?_⟩
      walk_at "go"
      have ed : s + Fs rs m - (s' + Fs rs' m) = dif s rs s' rs' m := rfl
      refine ite2 (fun e => ?_) (fun e => ?_)
      · have hp : 0 < dif s rs s' rs' m := of_decide_eq_true e
        walk_at "go"
        exact q _ (some m) (s03.trans s35) ⟨hm0, hp, hbl⟩
      · have hp : dif s rs s' rs' m ≤ 0 := Int.not_lt.mp fun z => e (decide_eq_true z)
        walk_at "go"
        refine ⟨p1, _, _, _, rfl, rfl, q1, ea1, ?_⟩
        walk_at "go"
        refine ⟨p2, _, _, _, rfl, rfl, q2, ea2, ?_⟩
        walk_at "go"
        have eu : (uI rs m > uI rs' m) ↔ (up rs m && !up rs' m) = true := by
          unfold uI
          cases up rs m <;> cases up rs' m <;> simp
        have calmL : ∀ {q : Rs} {N : Int}, (∀ x, Edge q x → x ≤ m) → Calm q m N := fun hq x hx z => by
          have := hq x hx
          omega
        refine ite2 (fun e2 => ?_) (fun e2 => ?_)
        · have hu : (up rs m && !up rs' m) = true := eu.mp (of_decide_eq_true e2)
          walk_at "go"
          refine ⟨M, _, rfl, .inl qM, ?_⟩
          rw [List.length_map]
          walk_at "go"
          by_cases hlast : i + 1 = ms.length
          · refine ite2 (fun _ => ?_) (fun e3 => absurd (decide_eq_true (by rw [← hlast]; rfl)) e3)
            walk_at "go"
            exact q _ (some (m + 1 - dif s rs s' rs' m)) (s03.trans s35) (found_next g g' (calmL (mk.one.last em hlast.symm)) (calmL (mk.two.last em hlast.symm)) hm0 hbl hp hu (Int.le_refl _))
          · have hi3 : i + 1 < ms.length := by omega
            have eN : ms[i + 1]? = some ms[i + 1] := List.getElem?_eq_getElem hi3
            have ea3 : atI (ms.map V.int) ((i : Int) + 1) = some (.int ms[i + 1]) := at_of (j := i + 1) (by omega) (by rw [List.getElem?_map, eN]; rfl)
            refine ite2 (fun e3 => ?_) (fun _ => ?_)
            · have := V.int.inj (of_decide_eq_true e3)
              omega
            walk_at "go"
            refine ⟨M, _, _, _, rfl, rfl, qM, ea3, ?_⟩
            generalize ms[i + 1] = N at eN ea3
            walk_at "go"
            refine ite2 (fun e3 => ?_) (fun e3 => ?_)
            · have hN : m + 1 - dif s rs s' rs' m < N := of_decide_eq_true e3
              walk_at "go"
              exact q _ (some (m + 1 - dif s rs s' rs' m)) (s03.trans s35) (found_next g g' (mk.one.calm em eN) (mk.two.calm em eN) hm0 hbl hp hu (Int.le_of_lt hN))
            · have hN : N ≤ m + 1 - dif s rs s' rs' m := Int.not_lt.mp fun z => e3 (decide_eq_true z)
              refine ⟨s35, ?_, _, _, _, rfl⟩
              rw [eN]
              exact below_next g g' (mk.one.calm em eN) (mk.two.calm em eN) hbl hp (.inr hN)
        · have hu : (up rs m && !up rs' m) = false := by
            cases c : (up rs m && !up rs' m) with
            | false => rfl
            | true => exact absurd (decide_eq_true (eu.mpr c)) e2
          refine ⟨s35, ?_, _, _, _, rfl⟩
          by_cases hlast : i + 1 = ms.length
          · rw [List.getElem?_eq_none (by omega)]
            exact below_all g g' (mk.one.last em hlast.symm) (mk.two.last em hlast.symm) hbl hp hu
          · have eN : ms[i + 1]? = some ms[i + 1] := List.getElem?_eq_getElem (by omega)
            rw [eN]
            exact below_next g g' (mk.one.calm em eN) (mk.two.calm em eN) hbl hp (.inl hu)
    · rintro σ H4 ⟨s4, hbl, v5, v6, v7, rfl⟩
      rw [List.getElem?_eq_none (Nat.le_refl _)] at hbl
      walk_at "go"
      exact q _ none (s03.trans s4) hbl
end
end Z
set_option Elab.async false
set_option linter.all false
set_option maxRecDepth 100000
set_option maxHeartbeats 4000000
namespace Z
open Nd
open PySem PySem.Spec PyProof.Rows L2
open C8 (pss_cut tCut)
local macro_rules | `(tactic| walk_at "num") => `(tactic| first | rfl | omega | decide | exact Nat.le_of_lt (small1000 (by simp)) | exact ⟨by omega, by omega⟩ | exact ⟨by omega, by omega, by omega⟩ | exact ⟨by decide, by decide, by decide⟩ | exact Or.inl ⟨by omega, by omega⟩ | exact Or.inr ⟨by omega, by omega⟩)
local macro_rules | `(tactic| walk_at "go") => `(tactic| repeat (first | refine ⟨_, rfl, ?_⟩ | refine ⟨_, _, rfl, rfl, ?_⟩ | refine ⟨_, _, rfl, ?_⟩ | refine ⟨_, _, rfl, rfl, (by walk_at "num"), ?_⟩ | refine Or.inl ⟨_, rfl, ?_⟩ | refine ⟨_, _, _, _, rfl, rfl, (by assumption), (by rfl), ?_⟩ | refine ⟨_, _, _, _, _, rfl, (by assumption), (by assumption), (by assumption), (by rfl), ?_⟩ | refine ⟨rfl, ?_⟩ | refine And.intro (by walk_at "num") ?_))
abbrev s_Need_excess : Stmt := inClass (topS 19) 4
abbrev N_Need_excess : List Str := ["self", "other", "point"]
abbrev P_Need_excess : List Str := ["self", "other"]
theorem sc_Need_excess : FnScope N_Need_excess P_Need_excess (defScope s_Need_excess) := ⟨rfl, rfl, rfl, by decide +kernel, rfl, by decide +kernel, by decide +kernel⟩
abbrev s_Need_surely : Stmt := inClass (topS 19) 12
abbrev N_Need_surely : List Str := ["self", "purse", "point"]
abbrev P_Need_surely : List Str := ["self", "purse"]
theorem sc_Need_surely : FnScope N_Need_surely P_Need_surely (defScope s_Need_surely) := ⟨rfl, rfl, rfl, by decide +kernel, rfl, by decide +kernel, by decide +kernel⟩
section
variable {P : Program} {w : World} {K : PySem.W.Frag} {mg : Str → Option Value} {base : Heap} {f C : Addr} {fd : FuncData}
def spRP (K : PySem.W.Frag) : Sp := fun vs H Q _ => ∃ (b c : Bool) (A : Int) (r : Addr) (ps : List Addr) (rs : Rs), vs = [.ref r, .int A] ∧ Ris b c K H r ps rs ∧ Q (oV (rp rs A)) H
theorem ok_rise_point (F : FnP K "rise_point" s_rise_point f fd) : FnOk P w K mg base CX0 1 f fd P_rise_point (spRP K) := by
  refine F.ok sc_rise_point (fun vs H Q E h => ?_) (fun cdv A outer s H vs Q E hr h => ?_)
  · obtain ⟨b, c, A, r, ps, rs, rfl, _⟩ := h
    rfl
  · obtain ⟨b, c, A', r, ps, rs, rfl, hR, q⟩ := h
    refine ⟨_, PSs.nox (pss_cons (ps_set (i := 2) sc_rise_point.nd rfl (by first | exact .inl rfl | exact .inr rfl) (pv 1))
      (pss_cons (ps_for PassesOwn.never rfl (pi_seq (pv 0)) (pg_or (pg_unl rfl (pgs_cons (pg_name (i := 3) sc_rise_point.nd rfl (by first | exact .inl rfl | exact .inr rfl)) (pgs_cons (pg_name (i := 4) sc_rise_point.nd rfl (by first | exact .inl rfl | exact .inr rfl)) pgs_nil))) (pg_tup rfl (pgs_cons (pg_name (i := 3) sc_rise_point.nd rfl (by first | exact .inl rfl | exact .inr rfl)) (pgs_cons (pg_name (i := 4) sc_rise_point.nd rfl (by first | exact .inl rfl | exact .inr rfl)) pgs_nil))))
        (pss_cons (ps_if (PW.pt (pw_or (pt_cmpR op_isN (pv 4) pe_non (nomark _)) (pw_or1 (pt_cmpR op_ge (pe_op op_sub (pv 4) (pv 3)) (pv 2) (nomark _))))) (pss_one (ps_ret (pe_op op_add (pv 3) (pv 2)))) pss_nil)
      (pss_one (ps_set (i := 2) sc_rise_point.nd rfl (by first | exact .inl rfl | exact .inr rfl) (pe_op op_sub (pv 2) (pe_op op_sub (pv 4) (pv 3)))))))
      (pss_one (ps_ret pe_non)))), ?_⟩
    walk_at "go"
    refine for_pairs (j := 0) hR (Same.refl H) (by rfl) (fun i σ H1 => H1 = H ∧ ∃ (x : Int) (v3 v4 : Option V), rp (rs.drop i) x = rp rs A' ∧ σ = [some (.ref r), some (.int A'), some (.int x), v3, v4]) ⟨rfl, A', none, none, rfl, rfl⟩ ?_ ?_ ?_
    · rintro i σ H1 ⟨rfl, _⟩
      exact Same.refl _
    · rintro i l h σ H1 hi ⟨rfl, x, v3, v4, ex, rfl⟩
      have hd : rs.drop i = (l, h) :: rs.drop (i + 1) := by
        rw [List.drop_eq_getElem?_toList_append, hi]
        rfl
      rw [hd] at ex
      cases h with
      | none =>
        have ex : some (l + x) = rp rs A' := ex
        walk_at "go"
        rw [← ex] at q
        exact q
      | some y =>
        have ex : (if y - l ≥ x then some (l + x) else rp (rs.drop (i + 1)) (x - (y - l))) = rp rs A' := ex
        walk_at "go"
        refine ite2 (fun e => ?_) (fun e => ?_)
        · have hy : y - l ≥ x := of_decide_eq_true e
          rw [if_pos hy] at ex
          walk_at "go"
          rw [← ex] at q
          exact q
        · have hy : ¬ y - l ≥ x := fun z => e (decide_eq_true z)
          rw [if_neg hy] at ex
          walk_at "go"
          exact ⟨_, _, _, ex, rfl⟩
    · rintro σ H1 ⟨rfl, x, v3, v4, ex, rfl⟩
      rw [List.drop_length] at ex
      walk_at "go"
      rw [← ex] at q
      exact q
/-! ### excess -/
def Exc : Option Int → Rs → Option Int → Option Int → Rs → Option Int → Option (Option Int) → Prop
  | none, _, _, none, _, _, o => o = none
  | none, _, _, some _, _, _, o => o = some (some 0)
  | some _, _, _, none, _, _, o => o = none
  | some s, rs, nv, some s', rs', nv', o => ∃ p, FA (dif s rs s' rs') p ∧ o = match p with
    | some x => some (some x)
    | none => if am nv nv' = true then none else some none
theorem Exc.uniq {st st' nv nv' : Option Int} {rs rs' : Rs} {a b : Option (Option Int)} (ha : Exc st rs nv st' rs' nv' a) (hb : Exc st rs nv st' rs' nv' b) : a = b := by
  cases st with
  | none =>
    cases st' with
    | none => exact (show a = none from ha).trans (show b = none from hb).symm
    | some _ => exact (show a = some (some 0) from ha).trans (show b = some (some 0) from hb).symm
  | some s =>
    cases st' with
    | none => exact (show a = none from ha).trans (show b = none from hb).symm
    | some s' =>
      obtain ⟨p, h1, rfl⟩ := ha
      obtain ⟨p', h2, rfl⟩ := hb
      rw [h1.uniq h2]
def exV : Option (Option Int) → List V
  | none => []
  | some o => [oV o]
def spExcess (C : Addr) (K : PySem.W.Frag) : Sp := fun vs H Q _ => ∃ (st st' nv nv' : Option Int) (n m : Addr) (rs rs' : Rs), vs = [.ref n, .ref m] ∧ NeedAt C K H n st rs nv ∧ NeedAt C K H m st' rs' nv' ∧ Ok st rs nv ∧ Ok st' rs' nv' ∧ rs.length ≤ 20000 ∧ rs'.length ≤ 20000 ∧ ∀ t H' o, Same H H' → H' t = some (.tup (exV o)) → Exc st rs nv st' rs' nv' o → Q (.ref t) H'
theorem ok_excess (F : FnM K "excess" "Need.excess" s_Need_excess f fd) (cls : Cls K C) (n_start : NoAttr K C "start") (n_rises : NoAttr K C "rises") (n_never : NoAttr K C "never") (c_first_above : Cal P w K mg base 2 "first_above" (spFA K)) : FnOk P w K mg base CX0 3 f fd P_Need_excess (spExcess C K) := by
  refine F.ok sc_Need_excess (fun vs H Q E h => ?_) (fun cdv A outer s H vs Q E hr h => ?_)
  · obtain ⟨st, st', nv, nv', n, m, rs, rs', rfl, _⟩ := h
    rfl
  · obtain ⟨st, st', nv, nv', n, m, rs, rs', rfl, hN, hN', ok, ok', l1, l2, q⟩ := h
    obtain ⟨dx, r, ps, hn, hR, _⟩ := id hN
    obtain ⟨dx', r', ps', hn', hR', _⟩ := id hN'
    refine ⟨_, PSs.nox (pss_cons (ps_if (pt_cmpR op_isN (pe_fld (pv 0) rfl) pe_non (nomark _)) (pss_one (ps_ret (pe_ifExp (pt_cmpR op_isN (pe_fld (pv 1) rfl) pe_non (nomark _)) (pe_tup pa_nil) (pe_tup (pa_cons pe_int pa_nil))))) pss_nil)
      (pss_cons (ps_if (pt_cmpR op_isN (pe_fld (pv 1) rfl) pe_non (nomark _)) (pss_one (ps_ret (pe_tup pa_nil))) pss_nil)
      (pss_cons (ps_set (i := 2) sc_Need_excess.nd rfl (by first | exact .inl rfl | exact .inr rfl) (pe_cl c_first_above hr (by decide) (by rfl) (pa_cons (pe_tup (pa_cons (pe_fld (pv 0) rfl) (pa_cons (pe_fld (pv 0) rfl) pa_nil))) (pa_cons (pe_tup (pa_cons (pe_fld (pv 1) rfl) (pa_cons (pe_fld (pv 1) rfl) pa_nil))) pa_nil))))
      (pss_cons (ps_if (pt_cmpR op_notN (pv 2) pe_non (nomark _)) (pss_one (ps_ret (pe_tup (pa_cons (pv 2) pa_nil)))) pss_nil)
      (pss_cons (ps_if (PW.pt (pw_and (pt_cmpR op_notN (pe_fld (pv 1) rfl) pe_non (nomark _)) (pw_and1 (PW.pt (pw_or (pt_cmpR op_isN (pe_fld (pv 0) rfl) pe_non (nomark _)) (pw_or1 (pt_cmpR op_gt (pe_fld (pv 0) rfl) (pe_fld (pv 1) rfl) (nomark _)))))))) (pss_one (ps_ret (pe_tup (pa_cons pe_non pa_nil)))) pss_nil)
      (pss_one (ps_ret (pe_tup pa_nil)))))))), ?_⟩
    cases st with
    | none =>
      cases st' with
      | none =>
        walk_at "go"
        intro t nt
        exact q t _ none (same_new nt) upd_same rfl
      | some s' =>
        walk_at "go"
        intro t nt
        exact q t _ (some (some 0)) (same_new nt) upd_same rfl
    | some s =>
      cases st' with
      | none =>
        walk_at "go"
        intro t nt
        exact q t _ none (same_new nt) upd_same rfl
      | some s' =>
        walk_at "go"
        intro t1 n1
        have s1 := same_new (o := .tup [.int s, .ref r]) n1
        have hn1 := s1 _ _ hn
        have hn1' := s1 _ _ hn'
        walk_at "go"
        intro t2 n2
        have s2 := same_new (o := .tup [.int s', .ref r']) n2
        have s12 := s1.trans s2
        walk_at "go"
        refine ⟨t1, t2, s, s', rs, rs', rfl, ⟨r, ps, .inl (.inl (s2 _ _ upd_same)), hR.mono s12⟩, ⟨r', ps', .inl (.inl upd_same), hR'.mono s12⟩, ok.1, ok'.1, l1, l2, fun H3 o s3 fa => ?_⟩
        have s03 := s12.trans s3
        have hn3 := s03 _ _ hn
        have hn3' := s03 _ _ hn'
        cases o with
        | some x =>
          walk_at "go"
          intro t nt
          exact q t _ (some (some x)) (s03.trans (same_new nt)) upd_same ⟨_, fa, rfl⟩
        | none =>
          walk_at "go"
          cases nv' with
          | none =>
            walk_at "go"
            intro t nt
            exact q t _ none (s03.trans (same_new nt)) upd_same ⟨_, fa, by cases nv <;> rfl⟩
          | some b =>
            cases nv with
            | none =>
              walk_at "go"
              intro t nt
              exact q t _ (some none) (s03.trans (same_new nt)) upd_same ⟨_, fa, rfl⟩
            | some a =>
              walk_at "go"
              refine ite2 (fun e => ?_) (fun e => ?_)
              · have hab : a > b := of_decide_eq_true e
                walk_at "go"
                intro t nt
                refine q t _ (some none) (s03.trans (same_new nt)) upd_same ⟨_, fa, ?_⟩
                show _ = if decide (a ≤ b) = true then none else some none
                rw [if_neg (by simp; omega)]
              · have hab : ¬ a > b := fun z => e (decide_eq_true z)
                walk_at "go"
                intro t nt
                refine q t _ none (s03.trans (same_new nt)) upd_same ⟨_, fa, ?_⟩
                show _ = if decide (a ≤ b) = true then none else some none
                rw [if_pos (by simp; omega)]
def spSurely (C : Addr) (K : PySem.W.Frag) : Sp := fun vs H Q _ => ∃ (st nv : Option Int) (p : Int) (n : Addr) (rs : Rs), vs = [.ref n, .int p] ∧ NeedAt C K H n st rs nv ∧ Q (oV (sur st rs p)) H
theorem ok_surely (F : FnM K "surely" "Need.surely" s_Need_surely f fd) (cls : Cls K C) (n_start : NoAttr K C "start") (n_rises : NoAttr K C "rises") (c_rise_point : Cal P w K mg base 1 "rise_point" (spRP K)) : FnOk P w K mg base CX0 2 f fd P_Need_surely (spSurely C K) := by
  refine F.ok sc_Need_surely (fun vs H Q E h => ?_) (fun cdv A outer s H vs Q E hr h => ?_)
  · obtain ⟨st, nv, p, n, rs, rfl, _⟩ := h
    rfl
  · obtain ⟨st, nv, p, n, rs, rfl, hN, q⟩ := h
    obtain ⟨dx, r, ps, hn, hR, _⟩ := id hN
    refine ⟨_, PSs.nox (pss_cons (ps_if (PW.pt (pw_or (pt_cmpR op_isN (pe_fld (pv 0) rfl) pe_non (nomark _)) (pw_or1 (pt_cmpR op_gt (pe_fld (pv 0) rfl) (pv 1) (nomark _))))) (pss_one (ps_ret (pe_un un_neg pe_int))) pss_nil)
      (pss_cons (ps_set (i := 2) sc_Need_surely.nd rfl (by first | exact .inl rfl | exact .inr rfl) (pe_cl c_rise_point hr (by decide) (by rfl) (pa_cons (pe_fld (pv 0) rfl) (pa_cons (pe_op op_add (pe_op op_sub (pv 1) (pe_fld (pv 0) rfl)) pe_int) pa_nil))))
      (pss_one (ps_ret (pe_ifExp (pt_cmpR op_isN (pv 2) pe_non (nomark _)) pe_non (pe_op op_sub (pv 2) pe_int)))))), ?_⟩
    cases st with
    | none =>
      walk_at "go"
      exact q
    | some s =>
      have q : Q (oV (if s > p then some (-1) else (rp rs (p - s + 1)).map (· - 1))) H := q
      walk_at "go"
      refine ite2 (fun e => ?_) (fun e => ?_)
      · have hs : s > p := of_decide_eq_true e
        rw [if_pos hs] at q
        walk_at "go"
        exact q
      · have hs : ¬ s > p := fun z => e (decide_eq_true z)
        rw [if_neg hs] at q
        walk_at "go"
        refine ⟨false, false, p - s + 1, r, ps, rs, rfl, hR, ?_⟩
        cases er : rp rs (p - s + 1) with
        | none =>
          rw [er] at q
          walk_at "go"
          exact q
        | some x =>
          rw [er] at q
          walk_at "go"
          exact q
end
end Z
set_option Elab.async false
set_option linter.all false
set_option maxRecDepth 100000
set_option maxHeartbeats 4000000
namespace Z
open Nd
open PySem PySem.Spec PyProof.Rows L2
open C8 (pss_cut tCut)
local macro_rules | `(tactic| walk_at "num") => `(tactic| first | rfl | omega | decide | exact Nat.le_of_lt (small1000 (by simp)) | exact ⟨by omega, by omega⟩ | exact ⟨by omega, by omega, by omega⟩ | exact ⟨by decide, by decide, by decide⟩ | exact Or.inl ⟨by omega, by omega⟩ | exact Or.inr ⟨by omega, by omega⟩)
local macro_rules | `(tactic| walk_at "go") => `(tactic| repeat (first | refine ⟨_, rfl, ?_⟩ | refine ⟨_, _, rfl, rfl, ?_⟩ | refine ⟨_, _, rfl, ?_⟩ | refine ⟨_, _, rfl, rfl, (by walk_at "num"), ?_⟩ | refine Or.inl ⟨_, rfl, ?_⟩ | refine ⟨_, _, _, _, rfl, rfl, (by assumption), (by rfl), ?_⟩ | refine ⟨_, _, _, _, _, rfl, (by assumption), (by assumption), (by assumption), (by rfl), ?_⟩ | refine ⟨rfl, ?_⟩ | refine And.intro (by walk_at "num") ?_))
abbrev s_more : Stmt := topS 30
abbrev N_more : List Str := ["_law_one", "_law_other", "_law_k"]
abbrev P_more : List Str := ["_law_one", "_law_other", "_law_k"]
theorem sc_more : FnScope N_more P_more (defScope s_more) := ⟨rfl, rfl, rfl, by decide +kernel, rfl, by decide +kernel, by decide +kernel⟩
abbrev s_edges : Stmt := topS 31
abbrev N_edges : List Str := ["_law_one", "_law_other", "_law_edges_here", "_law_pair"]
abbrev P_edges : List Str := ["_law_one", "_law_other"]
theorem sc_edges : FnScope N_edges P_edges (defScope s_edges) := ⟨rfl, rfl, rfl, by decide +kernel, rfl, by decide +kernel, by decide +kernel⟩
abbrev s_first_more : Stmt := topS 32
abbrev N_first_more : List Str := ["_law_one", "_law_other", "_law_edges_here", "_law_at", "_law_low", "_law_gap"]
abbrev P_first_more : List Str := ["_law_one", "_law_other"]
theorem sc_first_more : FnScope N_first_more P_first_more (defScope s_first_more) := ⟨rfl, rfl, rfl, by decide +kernel, rfl, by decide +kernel, by decide +kernel⟩
theorem sqT_lst {K : PySem.W.Frag} {H H' : Hp} {m a : Addr} {ys xs : List V} (s : SB m H H') (hm : H m = some (.lst ys)) (h : SqT K H a xs) : SqT K H' a xs := by
  have ne : ∀ {o : HO}, H a = some o → (∀ ys, o ≠ .lst ys) → a ≠ m := fun e z w => by
    rw [w, hm] at e
    exact z _ (Option.some.inj e).symm
  rcases h with (h | ⟨o, h⟩) | h
  · exact .inl (.inl (s _ _ (ne h fun _ => nofun) h))
  · exact .inl (.inr ⟨o, s _ _ (ne h fun _ => nofun) h⟩)
  · exact .inr h
section
variable {P : Program} {w : World} {K : PySem.W.Frag} {mg : Str → Option Value} {base : Heap} {f C : Addr} {fd : FuncData}
def spMore (K : PySem.W.Frag) : Sp := fun vs H Q _ => ∃ (st st' nv nv' k : Option Int) (l l' : Addr) (rs rs' : Rs), vs = [.ref l, .ref l', oV k] ∧ NL K H l st rs nv ∧ NL K H l' st' rs' nv' ∧ Q (.bl (!am (val st rs nv k) (val st' rs' nv' k))) H
theorem ok_more (F : FnP K "_law_more" s_more f fd) (c_value : Cal P w K mg base 1 "_law_value" (spLV K)) (c_at_most : Cal P w K mg base 1 "_law_at_most" spAm) : FnOk P w K mg base CX0 2 f fd P_more (spMore K) := by
  refine F.ok sc_more (fun vs H Q E h => ?_) (fun cdv A outer s H vs Q E hr h => ?_)
  · obtain ⟨st, st', nv, nv', k, l, l', rs, rs', rfl, _⟩ := h
    rfl
  · obtain ⟨st, st', nv, nv', k, l, l', rs, rs', rfl, hN, hN', q⟩ := h
    refine ⟨_, PSs.nox (pss_one (ps_ret (pe_not (pe_cl c_at_most hr (by decide) (by rfl) (pa_cons (pe_cl c_value hr (by decide) (by rfl) (pa_cons (pv 0) (pa_cons (pv 2) pa_nil))) (pa_cons (pe_cl c_value hr (by decide) (by rfl) (pa_cons (pv 1) (pa_cons (pv 2) pa_nil))) pa_nil)))))), ?_⟩
    walk_at "go"
    refine ⟨st, nv, k, l, rs, rfl, hN, ?_⟩
    walk_at "go"
    refine ⟨st', nv', k, l', rs', rfl, hN', ?_⟩
    walk_at "go"
    exact q
/-! ### edges -/
structure Eds (rs rs' : Rs) (es : List Int) : Prop where
  asc : es.Pairwise (· ≤ ·)
  zero : es[0]? = some 0
  has : ∀ x, Edge rs x ∨ Edge rs' x → x ∈ es
  len : es.length ≤ 2 * (rs.length + rs'.length) + 1
def spEdges (K : PySem.W.Frag) : Sp := fun vs H Q _ => ∃ (st st' nv nv' : Option Int) (l l' : Addr) (rs rs' : Rs), vs = [.ref l, .ref l'] ∧ NL K H l st rs nv ∧ NL K H l' st' rs' nv' ∧ Good (-1) rs ∧ Good (-1) rs' ∧ rs.length ≤ 20000 ∧ rs'.length ≤ 20000 ∧ ∀ p H' es la, Same H H' → H' p = some (.lst ((es ++ [la + 10 ^ 40]).map V.int)) → Eds rs rs' es → es[es.length - 1]? = some la → Q (.ref p) H'
theorem ok_edges (F : FnP K "_law_edges" s_edges f fd) (m_list : mg "list" = none) (m_sorted : mg "sorted" = none) : FnOk P w K mg base CX0 1 f fd P_edges (spEdges K) := by
  refine F.ok sc_edges (fun vs H Q E h => ?_) (fun cdv A outer s H vs Q E hr h => ?_)
  · obtain ⟨st, st', nv, nv', l, l', rs, rs', rfl, _⟩ := h
    rfl
  · obtain ⟨st, st', nv, nv', l, l', rs, rs', rfl, ⟨t, ps, hl, hR⟩, ⟨t', ps', hl', hR'⟩, g, g', l1, l2, q⟩ := h
    refine ⟨_, PSs.nox (pss_cons (ps_set (i := 2) sc_edges.nd rfl (by first | exact .inl rfl | exact .inr rfl) (pe_lst (pa_cons pe_int pa_nil)))
      (pss_cons (ps_for PassesOwn.never rfl (pi_list (pe_op op_cat (pe_callTy call_list_of (by rfl) m_list (by decide +kernel) (pa_cons (pe_ix ix_list (pv 0) pe_int (fun _ _ => rfl)) pa_nil)) (pe_callTy call_list_of (by rfl) m_list (by decide +kernel) (pa_cons (pe_ix ix_list (pv 1) pe_int (fun _ _ => rfl)) pa_nil)))) (pg_name (i := 3) sc_edges.nd rfl (by first | exact .inl rfl | exact .inr rfl))
        (pss_cons (ps_expr (pe_bm PySem.F.plainAttrs_list PySem.F.slot_list_append PySem.F.type_list_append mt_append (pv 2) (pa_cons (pe_ix ix_tup (pv 3) pe_int (fun _ _ => rfl)) pa_nil)))
      (pss_one (ps_if (pt_cmpR op_notN (pe_ix ix_tup (pv 3) pe_int (fun _ _ => rfl)) pe_non (nomark _)) (pss_one (ps_expr (pe_bm PySem.F.plainAttrs_list PySem.F.slot_list_append PySem.F.type_list_append mt_append (pv 2) (pa_cons (pe_ix ix_tup (pv 3) pe_int (fun _ _ => rfl)) pa_nil)))) pss_nil))))
      (pss_cons (ps_set (i := 2) sc_edges.nd rfl (by first | exact .inl rfl | exact .inr rfl) (pe_callB cr_sortedI (by rfl) m_sorted (by decide +kernel) (pa_cons (pv 2) pa_nil)))
      (pss_one (ps_ret (pe_op op_cat (pv 2) (pe_lst (pa_cons (pe_op op_add (pe_ix ix_list (pv 2) (pe_un un_neg pe_int) (fun _ _ => rfl)) (pe_op op_pow pe_int pe_int)) pa_nil)))))))), ?_⟩
    walk_at "go"
    intro p np
    have s1 := same_new (o := .lst [.int 0]) np
    have e1 := upd_same (H := H) (a := p) (o := .lst [.int 0])
    generalize upd H p (.lst [.int 0]) = H1 at s1 e1 ⊢
    have hl1 := s1.seq hl
    have hl1' := s1.seq hl'
    have hR1 := hR.mono s1
    have hR1' := hR'.mono s1
    walk_at "go"
    refine ⟨t, _, rfl, .inr hR1.1, fun x1 n1 => ?_⟩
    have s2 := same_new (o := .lst (ps.map V.ref)) n1
    have hl2' := s2.seq hl1'
    walk_at "go"
    refine ⟨t', _, rfl, .inr (hR1'.mono s2).1, fun x2 n2 => ?_⟩
    have s3 := same_new (o := .lst (ps'.map V.ref)) n2
    walk_at "go"
    refine ⟨x1, x2, _, _, rfl, rfl, s3 _ _ upd_same, upd_same, ?_, fun L nL => ?_⟩
    · rw [List.length_map, List.length_map, hR.2.1, hR'.2.1]
      exact Nat.le_trans (show rs.length + rs'.length ≤ 40000 by omega) (by decide)
    have s4 := same_new (o := .lst (ps.map V.ref ++ ps'.map V.ref)) nL
    have s14 := s2.trans (s3.trans s4)
    have hL : Ris true false K _ L (ps ++ ps') (rs ++ rs') := Ris.append (hR1.mono s14) (hR1'.mono s14) upd_same
    have e4 := s14 _ _ e1
    have s04 := s1.trans s14
    have eL := upd_same (H := upd (upd H1 x1 (.lst (ps.map V.ref))) x2 (.lst (ps'.map V.ref))) (a := L) (o := .lst (ps.map V.ref ++ ps'.map V.ref))
    generalize upd (upd (upd H1 x1 (.lst (ps.map V.ref))) x2 (.lst (ps'.map V.ref))) L (.lst (ps.map V.ref ++ ps'.map V.ref)) = H4 at hL e4 s04 eL ⊢
    have pL : L ≠ p := (ne_of_none (show upd (upd H1 x1 (.lst (ps.map V.ref))) x2 (.lst (ps'.map V.ref)) p = some _ from s3 _ _ (s2 _ _ e1)) nL).symm
    walk_at "go"
    refine ⟨⟨_, hL.1⟩, ?_⟩
    refine for_gen (n := (rs ++ rs').length) (fun i σ H5 => SB p H4 H5 ∧ Same H H5 ∧ ∃ (es : List Int) (v3 : Option V), H5 p = some (.lst (es.map V.int)) ∧ 0 ∈ es ∧ (∀ x ∈ es, 0 ≤ x) ∧ es.length ≤ 2 * i + 1 ∧ (∀ (j : Nat) (l : Int) (h : Option Int), j < i → (rs ++ rs')[j]? = some (l, h) → l ∈ es ∧ ∀ y, h = some y → y ∈ es) ∧ σ = [some (.ref l), some (.ref l'), some (.ref p), v3]) ⟨Z.Same.sb (Same.refl _), s04, [0], none, e4, by simp, by simp, by simp, (fun j l h hj => by omega), rfl⟩ ?_ ?_ ?_ ?_
    · rintro i σ H5 hi ⟨sb, _⟩
      have hi2 : i < (ps ++ ps').length := by rw [hL.2.1]; exact hi
      exact ⟨_, .ref (ps ++ ps')[i], SqL.of (sb _ _ pL eL), by rw [← List.map_append, List.getElem?_map, List.getElem?_eq_getElem hi2]; rfl⟩
    · rintro σ H5 ⟨sb, _⟩
      exact ⟨_, SqL.of (sb _ _ pL eL), by rw [← List.map_append, List.length_map, hL.2.1]; exact Nat.le_refl _⟩
    · rintro i σ H5 x H' hi ⟨sb5, sH5, es, v3, ep, z0, hpos, hlen, hin, rfl⟩ ⟨rfl, fx⟩
      have fx2 := fx _ (SqL.of (sb5 _ _ pL eL))
      rw [← List.map_append] at fx2
      obtain ⟨u, eu, rfl⟩ := of_map fx2
      have er : (rs ++ rs')[i]? = some ((rs ++ rs')[i].1, (rs ++ rs')[i].2) := List.getElem?_eq_getElem hi
      have hu : SqT K H' u _ := sqT_lst sb5 e4 (hL.2.2 i u _ eu er)
      generalize (rs ++ rs')[i].1 = lo at er hu
      generalize (rs ++ rs')[i].2 = hi2 at er hu
      rw [List.length_append] at hi
      have gi : 0 ≤ lo ∧ ∀ y, hi2 = some y → 0 ≤ y := by
        have ge : ∀ {x : Int}, Edge (rs ++ rs') x → 0 ≤ x := fun h => by
          rcases edge_app.mp h with z | z
          · exact edge_pos g z
          · exact edge_pos g' z
        exact ⟨ge (edge_of er (.inl rfl)), fun y hy => ge (edge_of er (.inr hy))⟩
      have up : u ≠ p ∨ True := .inr trivial
      have sb6 : SB p H' (upd H' p (.lst (es.map V.int ++ [.int lo]))) := SB.upd (Z.Same.sb (Same.refl _))
      have hu6 := sqT_lst sb6 ep hu
      have e6 : upd H' p (.lst (es.map V.int ++ [.int lo])) p = some (.lst ((es ++ [lo]).map V.int)) := by rw [upd_same, List.map_append]; rfl
      walk_at "go"
      refine ⟨.inl ⟨rfl, _, .inl (.inl ep)⟩, ?_⟩
      walk_at "go"
      refine ⟨_, _, _, rfl, rfl, ep, ?_, ?_⟩
      · rw [List.length_map]
        exact Nat.lt_of_le_of_lt hlen (Nat.lt_of_le_of_lt (show 2 * i + 1 ≤ 90000 by omega) (by decide))
      have sH6 : Same H (upd H' p (.lst (es.map V.int ++ [.int lo]))) := Z.Same.mut sH5 np
      generalize upd H' p (.lst (es.map V.int ++ [.int lo])) = H6 at sb6 hu6 e6 sH6 ⊢
      have hin6 : ∀ es' : List Int, (∀ x, x ∈ es ++ [lo] → x ∈ es') → (∀ y, hi2 = some y → y ∈ es') → ∀ (j : Nat) (l : Int) (h : Option Int), j < i + 1 → (rs ++ rs')[j]? = some (l, h) → l ∈ es' ∧ ∀ y, h = some y → y ∈ es' := by
        intro es' k1 k2 j l2 h2 hj hj2
        by_cases e : j = i
        · subst e
          rw [er] at hj2
          cases hj2
          exact ⟨k1 _ (by simp), k2⟩
        · obtain ⟨a1, a2⟩ := hin j l2 h2 (by omega) hj2
          exact ⟨k1 _ (List.mem_append_left _ a1), fun y hy => k1 _ (List.mem_append_left _ (a2 y hy))⟩
      have pos6 : ∀ x ∈ es ++ [lo], 0 ≤ x := fun x hx => by
        rcases List.mem_append.mp hx with z | z
        · exact hpos x z
        · have : x = lo := by simpa using z
          rw [this]
          exact gi.1
      have len6 : (es ++ [lo]).length ≤ 2 * i + 2 := by
        rw [List.length_append]
        show es.length + 1 ≤ _
        omega
      cases hi2 with
      | none =>
        walk_at "go"
        exact ⟨sb5.trans sb6, sH6, es ++ [lo], _, e6, List.mem_append_left _ z0, pos6, by omega, hin6 _ (fun x hx => hx) nofun, rfl⟩
      | some y =>
        walk_at "go"
        refine ⟨.inl ⟨rfl, _, .inl (.inl e6)⟩, ?_⟩
        walk_at "go"
        refine ⟨_, _, _, rfl, rfl, e6, ?_, ?_⟩
        · rw [List.length_map]
          exact Nat.lt_of_le_of_lt len6 (Nat.lt_of_le_of_lt (show 2 * i + 2 ≤ 90000 by omega) (by decide))
        have sb7 : SB p H6 (upd H6 p (.lst ((es ++ [lo]).map V.int ++ [.int y]))) := SB.upd (Z.Same.sb (Same.refl _))
        refine ⟨sb5.trans (sb6.trans sb7), Z.Same.mut sH6 np, (es ++ [lo]) ++ [y], _, ?_, List.mem_append_left _ (List.mem_append_left _ z0), fun x hx => ?_, ?_, hin6 _ (fun x hx => List.mem_append_left _ hx) (fun z hz => by cases hz; simp), rfl⟩
        · rw [upd_same, List.map_append (l₁ := es ++ [lo])]
          rfl
        · rcases List.mem_append.mp hx with z | z
          · exact pos6 x z
          · have : x = y := by simpa using z
            rw [this]
            exact gi.2 y rfl
        · rw [List.length_append]
          show (es ++ [lo]).length + 1 ≤ _
          omega
    · rintro σ H5 ⟨sb5, sH5, es, v3, ep, z0, hpos, hlen, hin, rfl⟩
      walk_at "go"
      refine ⟨p, es, rfl, SqL.of ep, fun ns p2 hp ho np2 => ?_⟩
      have s6 := same_new (o := .lst (ns.map V.int)) np2
      rw [List.length_append] at hlen
      have ez : ns[0]? = some 0 := by
        have h0 : 0 ∈ ns := hp.mem_iff.mpr z0
        cases ns with
        | nil => cases h0
        | cons a r =>
          rcases List.mem_cons.mp h0 with e | e
          · rw [← e]; rfl
          · have h1 := (List.pairwise_cons.mp ho).1 0 e
            have h2 := hpos a (hp.mem_iff.mp (List.mem_cons_self ..))
            have : a = 0 := by omega
            rw [this]
            rfl
      have hne : ns.length - 1 < ns.length := by
        have := (List.getElem?_eq_some_iff.mp ez).1
        omega
      have ela : ns[ns.length - 1]? = some ns[ns.length - 1] := List.getElem?_eq_getElem hne
      have eds : Eds rs rs' ns := by
        refine ⟨ho, ez, fun x hx => ?_, ?_⟩
        · obtain ⟨j, l, y, hj, h⟩ := edge_at (edge_app.mpr hx)
          have hjl := (List.getElem?_eq_some_iff.mp hj).1
          obtain ⟨a1, a2⟩ := hin j l y hjl hj
          refine hp.mem_iff.mpr ?_
          rcases h with h | h
          · rw [← h]; exact a1
          · exact a2 x h
        · rw [hp.length_eq]
          exact hlen
      have elast : atI (ns.map V.int) (-1) = some (.int ns[ns.length - 1]) := by
        have e2 : ns.map V.int = (ns.take (ns.length - 1)).map V.int ++ [.int ns[ns.length - 1]] := by
          rw [← show ([ns[ns.length - 1]].map V.int) = [.int ns[ns.length - 1]] from rfl, ← List.map_append]
          congr 1
          have h3 := List.take_append_drop (ns.length - 1) ns
          rw [List.drop_eq_getElem_cons hne, List.drop_of_length_le (by omega)] at h3
          exact h3.symm
        rw [e2]
        exact atI_last _ _
      generalize ns[ns.length - 1] = la at ela elast
      have q6 : SqL K (upd H5 p2 (.lst (ns.map V.int))) p2 (ns.map V.int) := SqL.of upd_same
      walk_at "go"
      refine ⟨p2, _, _, _, rfl, rfl, q6, elast, ?_⟩
      walk_at "go"
      intro b1 nb1
      have s7 := same_new (o := .lst [.int (la + 10 ^ Int.toNat 40)]) nb1
      refine ⟨p2, b1, _, _, rfl, rfl, s7 _ _ upd_same, upd_same, ?_, fun b2 nb2 => ?_⟩
      · rw [List.length_map, hp.length_eq]
        exact Nat.le_trans (show es.length + 1 ≤ 90000 by omega) (by decide)
      have s8 := same_new (o := .lst (ns.map V.int ++ [.int (la + 10 ^ Int.toNat 40)])) nb2
      refine q b2 _ ns la (sH5.trans (s6.trans (s7.trans s8))) ?_ eds ela
      rw [upd_same, List.map_append]
      rfl
/-! ### first_more -/
theorem ok_nv {rs : Rs} {nv : Option Int} (h : Ok none rs nv) : nv = none := by
  cases nv with
  | none => rfl
  | some v =>
    obtain ⟨t, e, _⟩ := h.2.2 v rfl
    cases e
theorem ok_good {st nv : Option Int} {rs : Rs} (h : Ok st rs nv) : Good (-1) rs := by
  cases st with
  | none =>
    have e : rs = [] := h.1
    rw [e]
    trivial
  | some s => exact h.1
theorem am_dif {s s' k : Int} {rs rs' : Rs} : (!am (some (s + Fs rs k)) (some (s' + Fs rs' k))) = decide (0 < dif s rs s' rs' k) := by
  show (!decide (_ ≤ _)) = decide (0 < (s + Fs rs k) - (s' + Fs rs' k))
  by_cases h : s + Fs rs k ≤ s' + Fs rs' k
  · rw [decide_eq_true h, decide_eq_false (by omega)]
    rfl
  · rw [decide_eq_false h, decide_eq_true (by omega)]
    rfl
theorem Eds.pos {rs rs' : Rs} {es : List Int} (h : Eds rs rs' es) {i : Nat} {m : Int} (hi : es[i]? = some m) : 0 ≤ m := by
  obtain ⟨h1, rfl⟩ := List.getElem?_eq_some_iff.mp hi
  obtain ⟨h2, h3⟩ := List.getElem?_eq_some_iff.mp h.zero
  by_cases c : i = 0
  · subst c
    omega
  · have := List.pairwise_iff_getElem.mp h.asc 0 i h2 h1 (by omega)
    omega
theorem Eds.calm {rs rs' : Rs} {es : List Int} (h : Eds rs rs' es) {i : Nat} {m M : Int} (hi : es[i]? = some m) (hj : es[i + 1]? = some M) : Calm rs m M ∧ Calm rs' m M := by
  have key : ∀ x ∈ es, ¬ (m < x ∧ x < M) := by
    rintro x hx ⟨h1, h2⟩
    obtain ⟨j, hj2⟩ := List.mem_iff_getElem?.mp hx
    obtain ⟨a1, rfl⟩ := List.getElem?_eq_some_iff.mp hi
    obtain ⟨a2, rfl⟩ := List.getElem?_eq_some_iff.mp hj
    obtain ⟨a3, rfl⟩ := List.getElem?_eq_some_iff.mp hj2
    by_cases c : j ≤ i
    · by_cases c2 : j = i
      · subst c2
        omega
      · have := List.pairwise_iff_getElem.mp h.asc j i a3 a1 (by omega)
        omega
    · by_cases c2 : j = i + 1
      · subst c2
        omega
      · have := List.pairwise_iff_getElem.mp h.asc (i + 1) j a2 a3 (by omega)
        omega
  exact ⟨fun x hx => key x (h.has x (.inl hx)), fun x hx => key x (h.has x (.inr hx))⟩
theorem Eds.last {rs rs' : Rs} {es : List Int} (h : Eds rs rs' es) {la : Int} (hl : es[es.length - 1]? = some la) : (∀ x, Edge rs x → x ≤ la) ∧ ∀ x, Edge rs' x → x ≤ la := by
  have key : ∀ x ∈ es, x ≤ la := by
    intro x hx
    obtain ⟨j, hj2⟩ := List.mem_iff_getElem?.mp hx
    obtain ⟨a1, rfl⟩ := List.getElem?_eq_some_iff.mp hl
    obtain ⟨a3, rfl⟩ := List.getElem?_eq_some_iff.mp hj2
    by_cases c2 : j = es.length - 1
    · subst c2
      exact Int.le_refl _
    · exact List.pairwise_iff_getElem.mp h.asc j _ a3 a1 (by omega)
  exact ⟨fun x hx => key x (h.has x (.inl hx)), fun x hx => key x (h.has x (.inr hx))⟩
def Cnd (rs rs' : Rs) (xs : List Int) (i : Nat) : Option Int → Option Int → Prop
  | some s, some s' => ∀ m, xs[i]? = some m → Below (dif s rs s' rs') m
  | none, some _ => i = 0
  | _, none => True
def spFM (K : PySem.W.Frag) : Sp := fun vs H Q _ => ∃ (st st' nv nv' : Option Int) (l l' : Addr) (rs rs' : Rs), vs = [.ref l, .ref l'] ∧ NL K H l st rs nv ∧ NL K H l' st' rs' nv' ∧ Ok st rs nv ∧ Ok st' rs' nv' ∧ rs.length ≤ 10 ∧ rs'.length ≤ 10 ∧ (∀ s', st' = some s' → bnd s' rs' ≤ 2 * 10 ^ 39) ∧ ∀ t H' o, Same H H' → H' t = some (.tup (exV o)) → Exc st rs nv st' rs' nv' o → Q (.ref t) H'
theorem ok_first_more (F : FnP K "_law_first_more" s_first_more f fd) (m_len : mg "len" = none) (m_range : mg "range" = none) (c_edges : Cal P w K mg base 1 "_law_edges" (spEdges K)) (c_more : Cal P w K mg base 2 "_law_more" (spMore K)) (c_value : Cal P w K mg base 1 "_law_value" (spLV K)) : FnOk P w K mg base CX0 3 f fd P_first_more (spFM K) := by
  refine F.ok sc_first_more (fun vs H Q E h => ?_) (fun cdv A outer s H vs Q E hr h => ?_)
  · obtain ⟨st, st', nv, nv', l, l', rs, rs', rfl, _⟩ := h
    rfl
  · obtain ⟨st, st', nv, nv', l, l', rs, rs', rfl, hN, hN', ok, ok', l1, l2, hB, q⟩ := h
    refine ⟨_, PSs.nox (pss_cons (ps_set (i := 2) sc_first_more.nd rfl (by first | exact .inl rfl | exact .inr rfl) (pe_cl c_edges hr (by decide) (by rfl) (pa_cons (pv 0) (pa_cons (pv 1) pa_nil))))
      (pss_cut (ps_for PassesOwn.never rfl (pi_range1 (by rfl) m_range (pa_cons (pe_op op_sub (pe_callB call_len_seq (by rfl) m_len PySem.boot_len (pa_cons (pv 2) pa_nil)) pe_int) pa_nil)) (pg_name (i := 3) sc_first_more.nd rfl (by first | exact .inl rfl | exact .inr rfl))
        (pss_cons (ps_set (i := 4) sc_first_more.nd rfl (by first | exact .inl rfl | exact .inr rfl) (pe_ix ix_list (pv 2) (pv 3) (fun _ _ => rfl)))
      (pss_cons (ps_if (pt_val (pe_cl c_more hr (by decide) (by rfl) (pa_cons (pv 0) (pa_cons (pv 1) (pa_cons (pv 4) pa_nil))))) (pss_one (ps_ret (pe_tup (pa_cons (pv 4) pa_nil)))) pss_nil)
      (pss_one (ps_if (PW.pt (pw_and (pt_cmpR op_notN (pe_ix ix_list (pv 0) pe_int (fun _ _ => rfl)) pe_non (nomark _)) (pw_and (pt_cmpR op_notN (pe_ix ix_list (pv 1) pe_int (fun _ _ => rfl)) pe_non (nomark _)) (pw_and1 (pt_cmpR op_gt (pe_ix ix_list (pv 2) (pe_op op_add (pv 3) pe_int) (fun _ _ => rfl)) (pv 4) (nomark _)))))) (pss_cons (ps_set (i := 5) sc_first_more.nd rfl (by first | exact .inl rfl | exact .inr rfl) (pe_op op_sub (pe_cl c_value hr (by decide) (by rfl) (pa_cons (pv 1) (pa_cons (pv 4) pa_nil))) (pe_cl c_value hr (by decide) (by rfl) (pa_cons (pv 0) (pa_cons (pv 4) pa_nil)))))
      (pss_one (ps_if (PW.pt (pw_and (pt_cmpR op_lt (pe_op op_add (pe_op op_add (pv 4) (pv 5)) pe_int) (pe_ix ix_list (pv 2) (pe_op op_add (pv 3) pe_int) (fun _ _ => rfl)) (nomark _)) (pw_and1 (pt_val (pe_cl c_more hr (by decide) (by rfl) (pa_cons (pv 0) (pa_cons (pv 1) (pa_cons (pe_op op_add (pe_op op_add (pv 4) (pv 5)) pe_int) pa_nil)))))))) (pss_one (ps_ret (pe_tup (pa_cons (pe_op op_add (pe_op op_add (pv 4) (pv 5)) pe_int) pa_nil)))) pss_nil))) pss_nil)))))
      (pss_cons (ps_if (pt_val (pe_cl c_more hr (by decide) (by rfl) (pa_cons (pv 0) (pa_cons (pv 1) (pa_cons pe_non pa_nil))))) (pss_one (ps_ret (pe_tup (pa_cons pe_non pa_nil)))) pss_nil)
      (pss_one (ps_ret (pe_tup pa_nil)))))), ?_⟩
    walk_at "go"
    refine ⟨st, st', nv, nv', l, l', rs, rs', rfl, hN, hN', ok_good ok, ok_good ok', by omega, by omega, fun p H1 es la s1 ep eds ela => ?_⟩
    have hlen := eds.len
    have hN1 := hN.mono s1
    have hN1' := hN'.mono s1
    have qp := SqL.of (K := K) ep
    have hes : 0 < es.length := (List.getElem?_eq_some_iff.mp eds.zero).1
    have eat : ∀ (i : Nat) (m : Int), es[i]? = some m → atI ((es ++ [la + 10 ^ 40]).map V.int) (i : Int) = some (.int m) := fun i m h => at_map (by rw [List.getElem?_append_left (List.getElem?_eq_some_iff.mp h).1]; exact h)
    walk_at "go"
    refine ⟨fun σ' H' => Same H1 H' ∧ (st' = none ∨ ∃ s s', st = some s ∧ st' = some s' ∧ FA (dif s rs s' rs') none) ∧ ∃ v3 v4 v5 : Option V, σ' = [some (.ref l), some (.ref l'), some (.ref p), v3, v4, v5], ?_, ?_⟩
    rotate_left
    · rintro σ' H2 ⟨s2, hfa, v3, v4, v5, rfl⟩
      walk_at "go"
      refine ⟨st, st', nv, nv', none, l, l', rs, rs', rfl, hN1.mono s2, hN1'.mono s2, ?_⟩
      have ev : ∀ {st nv : Option Int} {rs : Rs}, val st rs nv none = nv := by
        intro st nv rs
        cases st <;> rfl
      rw [ev, ev]
      walk_at "go"
      refine ite2 (fun e => ?_) (fun e => ?_)
      · have hn : am nv nv' = false := by simpa using e
        walk_at "go"
        intro t nt
        refine q t _ (some none) (s1.trans (s2.trans (same_new nt))) upd_same ?_
        rcases hfa with rfl | ⟨s, s', rfl, rfl, fa⟩
        · rw [ok_nv ok'] at hn
          cases nv <;> cases hn
        · exact ⟨none, fa, by rw [if_neg (by rw [hn]; simp)]⟩
      · have hn : am nv nv' = true := by simpa using e
        walk_at "go"
        intro t nt
        refine q t _ none (s1.trans (s2.trans (same_new nt))) upd_same ?_
        rcases hfa with rfl | ⟨s, s', rfl, rfl, fa⟩
        · cases st <;> rfl
        · exact ⟨none, fa, by rw [if_pos hn]⟩
    walk_at "go"
    refine ⟨p, _, rfl, .inl qp, ?_⟩
    rw [List.length_map, List.length_append]
    walk_at "go"
    have h1l : [la + (10 : Int) ^ 40].length = 1 := rfl
    refine And.intro (by omega) ?_
    have xat : ∀ (i : Nat) (m : Int), (es ++ [la + 10 ^ 40])[i]? = some m → atI ((es ++ [la + 10 ^ 40]).map V.int) (i : Int) = some (.int m) := fun i m h => at_map h
    refine for_gen (n := es.length) (fun i σ H2 => Same H1 H2 ∧ Cnd rs rs' (es ++ [la + 10 ^ 40]) i st st' ∧ ∃ v3 v4 v5 : Option V, σ = [some (.ref l), some (.ref l'), some (.ref p), v3, v4, v5]) ⟨Same.refl _, ?_, none, none, none, rfl⟩ (fun i σ H2 hi _ => by show i < Int.toNat (((es.length + 1 : Nat) : Int) - 1); omega) (fun σ H2 _ => by show Int.toNat (((es.length + 1 : Nat) : Int) - 1) ≤ es.length; omega) ?_ ?_
    · cases st with
      | none =>
        cases st' with
        | none => trivial
        | some s' => rfl
      | some s =>
        cases st' with
        | none => trivial
        | some s' =>
          intro m hm k k0 k1
          rw [List.getElem?_append_left hes, eds.zero] at hm
          cases hm
          omega
    · rintro i σ H2 x H' hi ⟨s2, hc, v3, v4, v5, rfl⟩ ⟨rfl, rfl⟩
      have em : es[i]? = some es[i] := List.getElem?_eq_getElem hi
      have ea := eat i _ em
      have hm0 := eds.pos em
      have ezero : i = 0 → es[i] = 0 := fun h => by
        subst h
        rw [eds.zero] at em
        exact (Option.some.inj em).symm
      have ei : (0 : Int) + (i : Int) = (i : Int) := Int.zero_add _
      have hcur : (es ++ [la + 10 ^ 40])[i]? = some es[i] := by rw [List.getElem?_append_left hi]; exact em
      generalize es[i] = m at em ea hm0 ezero hcur
      rw [← ei] at ea
      have qp2 := s2.seq qp
      have hN2 := hN1.mono s2
      have hN2' := hN1'.mono s2
      obtain ⟨t, ps, hl2, hR2⟩ := id hN2
      obtain ⟨t', ps', hl2', hR2'⟩ := id hN2'
      walk_at "go"
      refine ⟨p, _, _, _, rfl, rfl, qp2, ea, ?_⟩
      walk_at "go"
      refine ⟨st, st', nv, nv', some m, l, l', rs, rs', rfl, hN2, hN2', ?_⟩
      cases st' with
      | none =>
        have hv' : val none rs' nv' (some m) = none := ok_nv ok'
        rw [hv']
        have ha : (!am (val st rs nv (some m)) none) = false := by cases val st rs nv (some m) <;> rfl
        rw [ha]
        cases st with
        | none =>
          walk_at "go"
          exact ⟨trivial, _, _, _, rfl⟩
        | some s =>
          walk_at "go"
          exact ⟨trivial, _, _, _, rfl⟩
      | some s' =>
        cases st with
        | none =>
          have hc : i = 0 := hc
          have hv : val none rs nv (some m) = none := ok_nv ok
          rw [hv]
          walk_at "go"
          intro t3 nt3
          have : m = 0 := ezero hc
          subst this
          exact q t3 _ (some (some 0)) (s1.trans (s2.trans (same_new nt3))) upd_same rfl
        | some s =>
          have hc : ∀ m, (es ++ [la + 10 ^ 40])[i]? = some m → Below (dif s rs s' rs') m := hc
          have hb := hc m hcur
          have g : Good (-1) rs := ok.1
          have g' : Good (-1) rs' := ok'.1
          show ∃ c, V.bl (!am (some (s + Fs rs m)) (some (s' + Fs rs' m))) = V.bl c ∧ _
          rw [am_dif]
          walk_at "go"
          obtain ⟨N, eN⟩ : ∃ N, (es ++ [la + 10 ^ 40])[i + 1]? = some N := ⟨_, List.getElem?_eq_getElem (by rw [List.length_append, h1l]; omega)⟩
          have eaN := xat (i + 1) N eN
          have eaN : atI ((es ++ [la + 10 ^ 40]).map V.int) (0 + (i : Int) + 1) = some (.int N) := by
            rw [← eaN]
            congr 1
            omega
          have cal : Calm rs m N ∧ Calm rs' m N := by
            by_cases c : i + 1 < es.length
            · rw [List.getElem?_append_left c] at eN
              exact eds.calm em eN
            · have hm : m = la := by
                have : i = es.length - 1 := by omega
                rw [this, ela] at em
                exact (Option.some.inj em).symm
              subst hm
              have h2 := eds.last ela
              refine ⟨fun x hx z => ?_, fun x hx z => ?_⟩
              · have := h2.1 x hx
                omega
              · have := h2.2 x hx
                omega
          refine ite2 (fun e => ?_) (fun e => ?_)
          · have hp : 0 < dif s rs s' rs' m := of_decide_eq_true e
            walk_at "go"
            intro t3 nt3
            exact q t3 _ (some (some m)) (s1.trans (s2.trans (same_new nt3))) upd_same ⟨some m, ⟨hm0, hp, hb⟩, rfl⟩
          have hp : dif s rs s' rs' m ≤ 0 := Int.not_lt.mp fun z => e (decide_eq_true z)
          walk_at "go"
          refine ⟨p, _, _, _, rfl, rfl, qp2, eaN, ?_⟩
          walk_at "go"
          refine ite2 (fun e2 => ?_) (fun e2 => ?_)
          rotate_left
          · have hN : ¬ m < N := fun z => e2 (decide_eq_true z)
            walk_at "go"
            refine ⟨fun m' hm' => ?_, _, _, _, rfl⟩
            rw [eN] at hm'
            cases hm'
            exact fun k k0 k1 => hb k k0 (by omega)
          have hN : m < N := of_decide_eq_true e2
          walk_at "go"
          refine ⟨some s', nv', some m, l', rs', rfl, hN2', ?_⟩
          walk_at "go"
          refine ⟨some s, nv, some m, l, rs, rfl, hN2, ?_⟩
          have eg : s' + Fs rs' m - (s + Fs rs m) = - dif s rs s' rs' m := by
            unfold dif
            omega
          walk_at "go"
          refine ⟨p, _, _, _, rfl, rfl, qp2, eaN, ?_⟩
          walk_at "go"
          obtain ⟨x, ex⟩ : ∃ x, x = m + (s' + Fs rs' m - (s + Fs rs m)) + 1 := ⟨_, rfl⟩
          have ex2 : x = m + 1 - dif s rs s' rs' m := by
            rw [ex]
            unfold dif
            omega
          have fin : (m + 1 - dif s rs s' rs' m < N → dif s rs s' rs' (m + 1 - dif s rs s' rs' m) ≤ 0) → Cnd rs rs' (es ++ [la + 10 ^ 40]) (i + 1) (some s) (some s') := fun h m' hm' => by
            rw [eN] at hm'
            cases hm'
            exact below_gap g g' cal.1 cal.2 hb hp h
          refine ite2 (fun e3 => ?_) (fun e3 => ?_)
          rotate_left
          · refine ⟨s2, fin (fun z => absurd (decide_eq_true ?_) e3), _, _, _, rfl⟩
            rw [← ex2, ex] at z
            exact z
          have hx : x < N := by rw [ex]; exact of_decide_eq_true e3
          walk_at "go"
          refine ⟨some s, some s', nv, nv', some (m + (s' + Fs rs' m - (s + Fs rs m)) + 1), l, l', rs, rs', rfl, hN2, hN2', ?_⟩
          rw [← ex]
          show ∃ c, V.bl (!am (some (s + Fs rs x)) (some (s' + Fs rs' x))) = V.bl c ∧ _
          rw [am_dif]
          walk_at "go"
          refine ite2 (fun e4 => ?_) (fun e4 => ?_)
          · have hpx : 0 < dif s rs s' rs' x := of_decide_eq_true e4
            walk_at "go"
            intro t3 nt3
            refine q t3 _ (some (some (m + (s' + Fs rs' m - (s + Fs rs m)) + 1))) (s1.trans (s2.trans (same_new nt3))) upd_same ⟨some (m + (s' + Fs rs' m - (s + Fs rs m)) + 1), ?_, rfl⟩
            rw [← ex, ex2]
            rw [ex2] at hpx hx
            exact found_gap g g' cal.1 cal.2 hm0 hb hp (Int.le_of_lt hx) hpx
          · have hpx : dif s rs s' rs' x ≤ 0 := Int.not_lt.mp fun z => e4 (decide_eq_true z)
            rw [ex2] at hpx
            exact ⟨s2, fin (fun _ => hpx), _, _, _, rfl⟩
    · rintro σ H2 ⟨s2, hc, v3, v4, v5, rfl⟩
      refine ⟨s2, ?_, _, _, _, rfl⟩
      cases st' with
      | none => exact .inl rfl
      | some s' =>
        cases st with
        | none =>
          have hc : es.length = 0 := hc
          omega
        | some s =>
          have hc : ∀ m, (es ++ [la + 10 ^ 40])[es.length]? = some m → Below (dif s rs s' rs') m := hc
          have hb := hc (la + 10 ^ 40) (by rw [List.getElem?_append_right (Nat.le_refl _), Nat.sub_self]; rfl)
          have e40 : (10 : Int) ^ 40 = 10 * 10 ^ 39 := by decide
          have e39 : (2 : Int) ≤ 10 ^ 39 := by decide
          have hBs := hB s' rfl
          refine .inr ⟨s, s', rfl, rfl, below_far ok.1 ok'.1 (ok.2.1 s rfl) (eds.last ela).1 (eds.last ela).2 (eds.pos ela) (B := 10 ^ 40) ?_ hb ?_⟩
          · omega
          · omega
end
end Z
set_option Elab.async false
set_option linter.all false
set_option maxRecDepth 100000
set_option maxHeartbeats 4000000
namespace Z
open Nd
open PySem PySem.Spec PyProof.Rows L2
open C8 (pss_cut tCut)
local macro_rules | `(tactic| walk_at "num") => `(tactic| first | rfl | omega | decide | exact Nat.le_of_lt (small1000 (by simp)) | exact ⟨by omega, by omega⟩ | exact ⟨by omega, by omega, by omega⟩ | exact ⟨by decide, by decide, by decide⟩ | exact Or.inl ⟨by omega, by omega⟩ | exact Or.inr ⟨by omega, by omega⟩)
local macro_rules | `(tactic| walk_at "go") => `(tactic| repeat (first | refine ⟨_, rfl, ?_⟩ | refine ⟨_, _, rfl, rfl, ?_⟩ | refine ⟨_, _, rfl, ?_⟩ | refine ⟨_, _, rfl, rfl, (by walk_at "num"), ?_⟩ | refine Or.inl ⟨_, rfl, ?_⟩ | refine ⟨_, _, _, _, rfl, rfl, (by assumption), (by rfl), ?_⟩ | refine ⟨_, _, _, _, _, rfl, (by assumption), (by assumption), (by assumption), (by rfl), ?_⟩ | refine ⟨rfl, ?_⟩ | refine And.intro (by walk_at "num") ?_))
abbrev s_excess_right : Stmt := topS 33
abbrev N_excess_right : List Str := ["_law_told", "_law_due"]
abbrev P_excess_right : List Str := ["_law_told", "_law_due"]
theorem sc_excess_right : FnScope N_excess_right P_excess_right (defScope s_excess_right) := ⟨rfl, rfl, rfl, by decide +kernel, rfl, by decide +kernel, by decide +kernel⟩
abbrev s_surely_right : Stmt := topS 34
abbrev N_surely_right : List Str := ["_law_f", "_law_need_here", "_law_purse", "_law_told", "_law_top", "_law_pair"]
abbrev P_surely_right : List Str := ["_law_f", "_law_need_here", "_law_purse"]
theorem sc_surely_right : FnScope N_surely_right P_surely_right (defScope s_surely_right) := ⟨rfl, rfl, rfl, by decide +kernel, rfl, by decide +kernel, by decide +kernel⟩
theorem tyT {K : PySem.W.Frag} {H : Hp} {a : Addr} {xs : List V} (h : SqT K H a xs) : TyX K H (.ref a) (.type "tuple") := by
  rcases h with (h | ⟨o, h⟩) | ⟨o, its, n, h1, h2, _⟩
  · exact .base (.tup h)
  · exact .fTuple h
  · exact .kTuple h1 h2
theorem isiX {K : PySem.W.Frag} {H : Hp} {x : V} {T c : String} {b : Bool} {R : Bool → Prop} (t : TyX K H x (.type T)) (h : kitB T c = some b) (q : R b) : ∃ (x' c' : V) (t' u' : Value) (b' : Bool), [x, .ty c] = [x', c'] ∧ ClsV c' u' ∧ TyX K H x' t' ∧ PySem.W.kitOne K t' u' = some b' ∧ R b' :=
  ⟨x, .ty c, .type T, .type c, b, rfl, .ty c, t, kit_ty h, q⟩
theorem top_put : ∀ {r : Rs} {t l : Int} {h : Option Int}, top t (r ++ [(l, h)]) = match h with
    | none => none
    | some y => (top t r).map (fun T => T + y - l)
  | [], t, l, none => rfl
  | [], t, l, some y => rfl
  | (a, none) :: r, t, l, none => rfl
  | (a, none) :: r, t, l, some y => rfl
  | (a, some b) :: r, t, l, none => top_put (r := r) (h := none)
  | (a, some b) :: r, t, l, some y => top_put (r := r) (h := some y)
def tpH (l : Int) (h o : Option Int) : Option Int := match h with
  | none => none
  | some y => o.map (fun T => T + y - l)
theorem top_take {rs : Rs} {i : Nat} {t l : Int} {h : Option Int} (hi : rs[i]? = some (l, h)) : top t (rs.take (i + 1)) = tpH l h (top t (rs.take i)) := by
  rw [List.take_add_one, hi]
  show top t (rs.take i ++ [(l, h)]) = _
  rw [top_put]
  cases h <;> rfl
section
variable {P : Program} {w : World} {K : PySem.W.Frag} {mg : Str → Option Value} {base : Heap} {f C : Addr} {fd : FuncData}
def spER (K : PySem.W.Frag) : Sp := fun vs H Q _ => ∃ (o : Option (Option Int)) (t t' : Addr), vs = [.ref t, .ref t'] ∧ H t = some (.tup (exV o)) ∧ H t' = some (.tup (exV o)) ∧ Q (.bl true) H
theorem ok_excess_right (F : FnP K "_law_excess_right" s_excess_right f fd) (m_len : mg "len" = none) (m_isinstance : mg "isinstance" = none) (m_tuple : mg "tuple" = none) (c_same : Cal P w K mg base 1 "_law_same" spSame) : FnOk P w K mg base CX0 2 f fd P_excess_right (spER K) := by
  refine F.ok sc_excess_right (fun vs H Q E h => ?_) (fun cdv A outer s H vs Q E hr h => ?_)
  · obtain ⟨o, t, t', rfl, _⟩ := h
    rfl
  · obtain ⟨o, t, t', rfl, h1, h2, q⟩ := h
    refine ⟨_, PSs.nox (pss_cons (ps_if (PW.pt (pw_or (pt_not (pt_val (pe_callB call_isi (by rfl) m_isinstance (by decide +kernel) (pa_cons (pv 0) (pa_cons (pe_bltn (v := .ty "tuple") (by rfl) m_tuple (by decide +kernel) rfl) pa_nil))))) (pw_or1 (pt_cmpR op_ne (pe_callB call_len_seq (by rfl) m_len PySem.boot_len (pa_cons (pv 0) pa_nil)) (pe_callB call_len_seq (by rfl) m_len PySem.boot_len (pa_cons (pv 1) pa_nil)) (nomark _))))) (pss_one (ps_ret pe_bl)) pss_nil)
      (pss_one (ps_ret (pe_or (pe_cmpR op_eq (pe_callB call_len_seq (by rfl) m_len PySem.boot_len (pa_cons (pv 1) pa_nil)) pe_int (nomark _)) (pe_one (pe_cl c_same hr (by decide) (by rfl) (pa_cons (pe_ix ix_tup (pv 0) pe_int (fun _ _ => rfl)) (pa_cons (pe_ix ix_tup (pv 1) pe_int (fun _ _ => rfl)) pa_nil)))))))), ?_⟩
    have q1 : SqT K H t (exV o) := .inl (.inl h1)
    have q2 : SqT K H t' (exV o) := .inl (.inl h2)
    walk_at "go"
    refine isiX (c := "tuple") (b := true) (tyT q1) (by decide +kernel) ?_
    walk_at "go"
    refine ⟨t, _, rfl, .inr q1, ?_⟩
    walk_at "go"
    refine ⟨t', _, rfl, .inr q2, ?_⟩
    walk_at "go"
    refine ite2 (fun e => by rw [decide_eq_true rfl] at e; cases e) (fun _ => ?_)
    walk_at "go"
    refine ⟨t', _, rfl, .inr q2, ?_⟩
    cases o with
    | none =>
      walk_at "go"
      exact q
    | some o =>
      walk_at "go"
      exact q
def spSR (C : Addr) (K : PySem.W.Frag) : Sp := fun vs H Q _ => ∃ (st nv : Option Int) (p : Int) (n l : Addr) (rs : Rs), vs = [.ref n, .ref l, .int p] ∧ NeedAt C K H n st rs nv ∧ NL K H l st rs nv ∧ Ok st rs nv ∧ Q (.bl true) H
theorem ok_surely_right (F : FnP K "_law_surely_right" s_surely_right f fd) (m_isinstance : mg "isinstance" = none) (m_int : mg "int" = none) (m_bool : mg "bool" = none) (me_surely : Met P w K mg base 2 C "surely" (spSurely C K)) (c_same : Cal P w K mg base 1 "_law_same" spSame) (c_value : Cal P w K mg base 1 "_law_value" (spLV K)) : FnOk P w K mg base CX0 3 f fd P_surely_right (spSR C K) := by
  refine F.ok sc_surely_right (fun vs H Q E h => ?_) (fun cdv A outer s H vs Q E hr h => ?_)
  · obtain ⟨st, nv, p, n, l, rs, rfl, _⟩ := h
    rfl
  · obtain ⟨st, nv, p, n, l, rs, rfl, hN, hL, ok, q⟩ := h
    obtain ⟨dx, r, ps0, hn, _⟩ := id hN
    obtain ⟨t, ps, hl, hR⟩ := id hL
    refine ⟨_, PSs.nox (pss_cons (ps_set (i := 3) sc_surely_right.nd rfl (by first | exact .inl rfl | exact .inr rfl) (pe_me me_surely (pv 0) hr (by decide) (pa_cons (pv 2) pa_nil)))
      (pss_cons (ps_if (PW.pt (pw_or (pt_cmpR op_isN (pe_ix ix_list (pv 1) pe_int (fun _ _ => rfl)) pe_non (nomark _)) (pw_or1 (pt_cmpR op_gt (pe_ix ix_list (pv 1) pe_int (fun _ _ => rfl)) (pv 2) (nomark _))))) (pss_one (ps_ret (pe_cl c_same hr (by decide) (by rfl) (pa_cons (pv 3) (pa_cons (pe_un un_neg pe_int) pa_nil))))) pss_nil)
      (pss_cons (ps_set (i := 4) sc_surely_right.nd rfl (by first | exact .inl rfl | exact .inr rfl) (pe_ix ix_list (pv 1) pe_int (fun _ _ => rfl)))
      (pss_cut (ps_for PassesOwn.never rfl (pi_tup (pe_ix ix_list (pv 1) pe_int (fun _ _ => rfl))) (pg_name (i := 5) sc_surely_right.nd rfl (by first | exact .inl rfl | exact .inr rfl))
        (pss_one (ps_if (pt_cmpR op_isN (pe_ix ix_tup (pv 5) pe_int (fun _ _ => rfl)) pe_non (nomark _)) (pss_one (ps_set (i := 4) sc_surely_right.nd rfl (by first | exact .inl rfl | exact .inr rfl) pe_non)) (pss_one (ps_if (pt_cmpR op_notN (pv 4) pe_non (nomark _)) (pss_one (ps_set (i := 4) sc_surely_right.nd rfl (by first | exact .inl rfl | exact .inr rfl) (pe_op op_sub (pe_op op_add (pv 4) (pe_ix ix_tup (pv 5) pe_int (fun _ _ => rfl))) (pe_ix ix_tup (pv 5) pe_int (fun _ _ => rfl))))) pss_nil)))))
      (pss_cons (ps_if (PW.pt (pw_and (pt_cmpR op_notN (pv 4) pe_non (nomark _)) (pw_and1 (pt_cmpR op_le (pv 4) (pv 2) (nomark _))))) (pss_one (ps_ret (pe_cmpR op_isN (pv 3) pe_non (nomark _)))) pss_nil)
      (pss_cons (ps_if (PW.pt (pw_or (pt_not (pt_val (pe_callB call_isi (by rfl) m_isinstance (by decide +kernel) (pa_cons (pv 3) (pa_cons (pe_bltn (v := .ty "int") (by rfl) m_int (by decide +kernel) rfl) pa_nil))))) (pw_or (pt_val (pe_callB call_isi (by rfl) m_isinstance (by decide +kernel) (pa_cons (pv 3) (pa_cons (pe_bltn (v := .ty "bool") (by rfl) m_bool (by decide +kernel) rfl) pa_nil)))) (pw_or1 (pt_cmpR op_lt (pv 3) pe_int (nomark _)))))) (pss_one (ps_ret pe_bl)) pss_nil)
      (pss_one (ps_ret (pe_and (pe_cmpR op_le (pe_cl c_value hr (by decide) (by rfl) (pa_cons (pv 1) (pa_cons (pv 3) pa_nil))) (pv 2) (nomark _)) (pe_one (pe_cmpR op_gt (pe_cl c_value hr (by decide) (by rfl) (pa_cons (pv 1) (pa_cons (pe_op op_add (pv 3) pe_int) pa_nil))) (pv 2) (nomark _)))))))))))), ?_⟩
    walk_at "go"
    refine ⟨n, dx, _, rfl, hn, rfl, ?_⟩
    walk_at "go"
    refine ⟨st, nv, p, n, rs, rfl, hN, ?_⟩
    cases st with
    | none =>
      walk_at "go"
      exact q
    | some s =>
      walk_at "go"
      refine ite2 (fun e => ?_) (fun e => ?_)
      · have hs : s > p := of_decide_eq_true e
        have es : sur (some s) rs p = some (-1) := if_pos hs
        rw [es]
        walk_at "go"
        exact q
      have hs : s ≤ p := Int.not_lt.mp fun z => e (decide_eq_true z)
      have g : Good (-1) rs := ok.1
      have sp := sur_spec g hs
      have sn := sur_none g hs
      generalize sur (some s) rs p = told at sp sn
      walk_at "go"
      refine ⟨fun σ' H' => H' = H ∧ ∃ v5 : Option V, σ' = [some (.ref n), some (.ref l), some (.int p), some (oV told), some (oV (top s rs)), v5], ?_, ?_⟩
      · walk_at "go"
        refine ⟨⟨_, hR.1⟩, ?_⟩
        refine for_prs hR (fun i σ H1 => H1 = H ∧ ∃ v5 : Option V, σ = [some (.ref n), some (.ref l), some (.int p), some (oV told), some (oV (top s (rs.take i))), v5]) ⟨rfl, none, rfl⟩ ?_ ?_ ?_
        · rintro i σ H1 ⟨rfl, _⟩
          exact Same.refl _
        · rintro i u lo h σ H1 hi hu ⟨rfl, v5, rfl⟩
          have hu : SqT K H1 u [.int lo, oV h] := hu
          have et := top_take (t := s) hi
          cases h with
          | none =>
            rw [et]
            walk_at "go"
            exact ⟨_, rfl⟩
          | some y =>
            rw [et]
            cases top s (rs.take i) with
            | none =>
              walk_at "go"
              exact ⟨_, rfl⟩
            | some T =>
              walk_at "go"
              exact ⟨_, rfl⟩
        · rintro σ H1 ⟨rfl, v5, rfl⟩
          rw [List.take_length]
          exact ⟨rfl, v5, rfl⟩
      · rintro σ' H' ⟨rfl, v5, rfl⟩
        cases told with
        | none =>
          obtain ⟨T, hT, hp⟩ := sn.mp rfl
          rw [hT]
          walk_at "go"
          refine ite2 (fun _ => ?_) (fun e2 => absurd (decide_eq_true hp) e2)
          walk_at "go"
          exact q
        | some x =>
          have sp : 0 ≤ x ∧ ∀ k, s + Fs rs k ≤ p ↔ k ≤ x := sp
          have sp0 := sp.1
          cases hT : top s rs with
          | none =>
            walk_at "go"
            refine isiX (c := "int") (b := true) (.base (.int x)) (by decide +kernel) ?_
            walk_at "go"
            refine isiX (c := "bool") (b := false) (.base (.int x)) (by decide +kernel) ?_
            walk_at "go"
            refine ite2 (fun e3 => absurd (of_decide_eq_true e3) (by omega)) (fun _ => ?_)
            walk_at "go"
            refine ⟨some s, nv, some x, l, rs, rfl, hL, ?_⟩
            walk_at "go"
            refine ite2 (fun _ => ?_) (fun e3 => absurd (decide_eq_true ((sp.2 x).mpr (Int.le_refl _))) e3)
            walk_at "go"
            refine ⟨some s, nv, some (x + 1), l, rs, rfl, hL, ?_⟩
            walk_at "go"
            show Q (V.bl (decide (p < s + Fs rs (x + 1)))) _
            rw [decide_eq_true (show p < s + Fs rs (x + 1) from Int.not_le.mp fun z => by have := (sp.2 (x + 1)).mp z; omega)]
            exact q
          | some T =>
            walk_at "go"
            refine ite2 (fun e2 => ?_) (fun e2 => ?_)
            · have := sn.mpr ⟨T, hT, of_decide_eq_true e2⟩
              cases this
            walk_at "go"
            refine isiX (c := "int") (b := true) (.base (.int x)) (by decide +kernel) ?_
            walk_at "go"
            refine isiX (c := "bool") (b := false) (.base (.int x)) (by decide +kernel) ?_
            walk_at "go"
            refine ite2 (fun e3 => absurd (of_decide_eq_true e3) (by omega)) (fun _ => ?_)
            walk_at "go"
            refine ⟨some s, nv, some x, l, rs, rfl, hL, ?_⟩
            walk_at "go"
            refine ite2 (fun _ => ?_) (fun e3 => absurd (decide_eq_true ((sp.2 x).mpr (Int.le_refl _))) e3)
            walk_at "go"
            refine ⟨some s, nv, some (x + 1), l, rs, rfl, hL, ?_⟩
            walk_at "go"
            show Q (V.bl (decide (p < s + Fs rs (x + 1)))) _
            rw [decide_eq_true (show p < s + Fs rs (x + 1) from Int.not_le.mp fun z => by have := (sp.2 (x + 1)).mp z; omega)]
            exact q
end
end Z
set_option Elab.async false
set_option linter.all false
set_option maxRecDepth 100000
set_option maxHeartbeats 4000000
namespace Z
open Nd
open PySem PySem.Spec PyProof.Rows L2
open C8 (pss_cut tCut)
local macro_rules | `(tactic| walk_at "num") => `(tactic| first | rfl | omega | decide | exact Nat.le_of_lt (small1000 (by simp)) | exact ⟨by omega, by omega⟩ | exact ⟨by omega, by omega, by omega⟩ | exact ⟨by decide, by decide, by decide⟩ | exact Or.inl ⟨by omega, by omega⟩ | exact Or.inr ⟨by omega, by omega⟩)
local macro_rules | `(tactic| walk_at "go") => `(tactic| repeat (first | refine ⟨_, rfl, ?_⟩ | refine ⟨_, _, rfl, rfl, ?_⟩ | refine ⟨_, _, rfl, ?_⟩ | refine ⟨_, _, rfl, rfl, (by walk_at "num"), ?_⟩ | refine Or.inl ⟨_, rfl, ?_⟩ | refine ⟨_, _, _, _, rfl, rfl, (by assumption), (by rfl), ?_⟩ | refine ⟨_, _, _, _, _, rfl, (by assumption), (by assumption), (by assumption), (by rfl), ?_⟩ | refine ⟨rfl, ?_⟩ | refine And.intro (by walk_at "num") ?_))
abbrev s_law : Stmt := topS 35
abbrev N_law : List Str := ["_law_script", "_law_draws_here", "_law_one", "_law_other", "_law_f", "_law_g", "_law_k", "_law_purses", "_law_value_here", "_law_purse", "_law_told", "_law_within"]
abbrev P_law : List Str := ["_law_script"]
theorem sc_law : FnScope N_law P_law (defScope s_law) := ⟨rfl, rfl, rfl, by decide +kernel, rfl, by decide +kernel, by decide +kernel⟩
theorem dixI {K : PySem.W.Frag} {H : Hp} {D : Addr} {ds : List Int} {n : Nat} {j : Int} (h0 : 0 ≤ j) (h1 : j < n) (hS : SqL K H D (ds.map V.int)) (hd : Dr n ds) {R : V → Prop} (k : ∀ d : Int, 0 ≤ d → d < 1000000 → R (.int d)) : ∃ (p : Addr) (xs : List V) (i' : Int) (v : V), V.ref D = .ref p ∧ V.int j = .int i' ∧ SqL K H p xs ∧ atI xs i' = some v ∧ R v := by
  obtain ⟨i, rfl⟩ := Int.eq_ofNat_of_zero_le h0
  have h : i < ds.length := by rw [hd.1]; omega
  have z := hd.2 _ (List.getElem_mem h)
  exact ⟨D, _, _, _, rfl, rfl, hS, at_map (List.getElem?_eq_getElem h), k _ z.1 z.2⟩
theorem am_refl : ∀ a : Option Int, am a a = true
  | none => rfl
  | some a => decide_eq_true (Int.le_refl a)
theorem exc_self {st nv : Option Int} {rs : Rs} {o : Option (Option Int)} (h : Exc st rs nv st rs nv o) : o = none := by
  cases st with
  | none => exact h
  | some s =>
    obtain ⟨p, hp, rfl⟩ := h
    have : p = none := hp.uniq (b := none) (fun k _ => by unfold dif; omega)
    subst this
    show (if am nv nv = true then none else some none) = none
    rw [if_pos (am_refl nv)]
/-- good for both, the bound a little wider -/
def LOk2 (st : Option Int) (rs : Rs) (nv : Option Int) : Prop := Ok st rs nv ∧ rs.length ≤ 10 ∧ ∀ s, st = some s → bnd s rs ≤ 2 * 10 ^ 39
theorem LOk.two {st nv : Option Int} {rs : Rs} (h : LOk st rs nv) : LOk2 st rs nv := ⟨h.1, h.2.1, fun s hs => by
  have h1 := h.2.2 s hs
  have h2 : (0 : Int) ≤ 10 ^ 39 := by decide
  omega⟩
def wiB (v : Option Int) (p : Int) : Bool := match v with
  | none => false
  | some v => decide (v ≤ p)
def tlB (t : Option Int) (i : Int) : Bool := match t with
  | none => true
  | some x => decide (i ≤ x)
theorem within_eq {st nv : Option Int} {rs : Rs} {p i : Int} (ok : Ok st rs nv) (hi : 0 ≤ i) : wiB (val st rs nv (some i)) p = tlB (sur st rs p) i := by
  cases st with
  | none =>
    show wiB nv p = decide (i ≤ -1)
    rw [ok_nv ok, decide_eq_false (by omega)]
    rfl
  | some s =>
    have g : Good (-1) rs := ok.1
    show decide (s + Fs rs i ≤ p) = _
    by_cases hs : s > p
    · have es : sur (some s) rs p = some (-1) := if_pos hs
      have f0 := (Fs_slope (x := i) (y := i) (Int.le_refl _) g).1
      rw [es]
      show _ = decide (i ≤ -1)
      rw [decide_eq_false (by omega), decide_eq_false (by omega)]
    · have sp := sur_spec (s := s) (p := p) g (by omega)
      cases e : sur (some s) rs p with
      | none =>
        rw [e] at sp
        exact decide_eq_true (sp i)
      | some x =>
        rw [e] at sp
        show _ = decide (i ≤ x)
        rw [decide_eq_decide]
        exact sp.2 i
section
variable {P : Program} {w : World} {K : PySem.W.Frag} {mg : Str → Option Value} {base : Heap} {f C : Addr} {fd : FuncData}
def spLaw (K : PySem.W.Frag) : Sp := fun vs H Q _ => ∃ (a : Addr) (ns : List Int), vs = [.ref a] ∧ SqL K H a (ns.map V.int) ∧ ∀ H', Q (.bl true) H'
theorem ok_law (F : FnP K "law" s_law f fd) (m_int : mg "int" = none) (m_range : mg "range" = none) (m_abs : mg "abs" = none) (m_max : mg "max" = none) (cls : Cls K C) (n_start : NoAttr K C "start") (n_rises : NoAttr K C "rises") (n_never : NoAttr K C "never")
    (c_draws : Cal P w K mg base 1 "_law_draws" spDraws) (c_cell : Cal P w K mg base 1 "_law_cell" (spCell K)) (c_need : Cal P w K mg base 2 "_law_need" (spLN K)) (c_make : Cal P w K mg base 4 "_law_make" (spMake C K)) (c_points : Cal P w K mg base 1 "_law_points" (spPoints K)) (c_value : Cal P w K mg base 1 "_law_value" (spLV K)) (c_first_more : Cal P w K mg base 3 "_law_first_more" (spFM K)) (c_excess_right : Cal P w K mg base 2 "_law_excess_right" (spER K)) (c_surely_right : Cal P w K mg base 3 "_law_surely_right" (spSR C K))
    (me_excess : Met P w K mg base 3 C "excess" (spExcess C K)) (me_surely : Met P w K mg base 2 C "surely" (spSurely C K)) : FnOk P w K mg base CX0 6 f fd P_law (spLaw K) := by
  refine F.ok sc_law (fun vs H Q E h => ?_) (fun cdv A outer s H vs Q E hr h => ?_)
  · obtain ⟨a, ns, rfl, _⟩ := h
    rfl
  · obtain ⟨a, ns, rfl, hS, q⟩ := h
    refine ⟨_, PSs.nox (pss_cons (ps_set (i := 1) sc_law.nd rfl (by first | exact .inl rfl | exact .inr rfl) (pe_cl c_draws hr (by decide) (by rfl) (pa_cons (pe_cl c_cell hr (by decide) (by rfl) (pa_cons (pv 0) (pa_cons pe_int pa_nil))) (pa_cons pe_int pa_nil))))
      (pss_cons (ps_set (i := 2) sc_law.nd rfl (by first | exact .inl rfl | exact .inr rfl) (pe_cl c_need hr (by decide) (by rfl) (pa_cons (pv 1) (pa_cons (pe_lst (pa_cons pe_int pa_nil)) pa_nil))))
      (pss_cons (ps_set (i := 3) sc_law.nd rfl (by first | exact .inl rfl | exact .inr rfl) (pe_cl c_need hr (by decide) (by rfl) (pa_cons (pe_cl c_draws hr (by decide) (by rfl) (pa_cons (pe_op op_add (pe_cl c_cell hr (by decide) (by rfl) (pa_cons (pv 0) (pa_cons pe_int pa_nil))) (pe_ix ix_list (pv 1) pe_int (fun _ _ => rfl))) (pa_cons pe_int pa_nil))) (pa_cons (pe_lst (pa_cons pe_int pa_nil)) pa_nil))))
      (pss_cut (ps_if (PW.pt (pw_and (pt_cmpR op_eq (pe_op op_mod (pe_callTy call_int1 (by rfl) m_int (by decide +kernel) (pa_cons (pe_ix ix_list (pv 1) pe_int (fun _ _ => rfl)) pa_nil)) pe_int) pe_int (nomark _)) (pw_and1 (pt_cmpR op_notN (pe_ix ix_list (pv 2) pe_int (fun _ _ => rfl)) pe_non (nomark _))))) (pss_one (ps_set (i := 3) sc_law.nd rfl (by first | exact .inl rfl | exact .inr rfl) (pe_lst (pa_cons (pe_op op_add (pe_ix ix_list (pv 2) pe_int (fun _ _ => rfl)) (pe_op op_mod (pe_callTy call_int1 (by rfl) m_int (by decide +kernel) (pa_cons (pe_ix ix_list (pv 1) pe_int (fun _ _ => rfl)) pa_nil)) pe_int)) (pa_cons (pe_ix ix_list (pv 2) pe_int (fun _ _ => rfl)) (pa_cons pe_non pa_nil)))))) pss_nil)
      (pss_cons (ps_set (i := 4) sc_law.nd rfl (by first | exact .inl rfl | exact .inr rfl) (pe_cl c_make hr (by decide) (by rfl) (pa_cons (pv 2) pa_nil)))
      (pss_cons (ps_set (i := 5) sc_law.nd rfl (by first | exact .inl rfl | exact .inr rfl) (pe_cl c_make hr (by decide) (by rfl) (pa_cons (pv 3) pa_nil)))
      (pss_cons (ps_if (PW.pt (pw_or (pt_not (pt_val (pe_cl c_excess_right hr (by decide) (by rfl) (pa_cons (pe_me me_excess (pv 4) hr (by decide) (pa_cons (pv 5) pa_nil)) (pa_cons (pe_cl c_first_more hr (by decide) (by rfl) (pa_cons (pv 2) (pa_cons (pv 3) pa_nil))) pa_nil))))) (pw_or1 (pt_cmpR (op_neD hr.units) (pe_me me_excess (pv 4) hr (by decide) (pa_cons (pv 4) pa_nil)) (pe_tup pa_nil) (nomark _))))) (pss_one (ps_ret pe_bl)) pss_nil)
      (pss_cons (ps_if (pt_not (pt_val (pe_cl c_excess_right hr (by decide) (by rfl) (pa_cons (pe_me me_excess (pv 5) hr (by decide) (pa_cons (pv 4) pa_nil)) (pa_cons (pe_cl c_first_more hr (by decide) (by rfl) (pa_cons (pv 3) (pa_cons (pv 2) pa_nil))) pa_nil))))) (pss_one (ps_ret pe_bl)) pss_nil)
      (pss_cons (ps_set (i := 7) sc_law.nd rfl (by first | exact .inl rfl | exact .inr rfl) (pe_op op_cat (pe_lc (own := [("_law_k", 6)]) (g := (gName 6)) (tt := tYes) (by rfl) sc_law.nd (pi_range3 (by rfl) m_range (pa_cons pe_int (pa_cons pe_int (pa_cons pe_int pa_nil)))) (blkOk_by (own := [("_law_k", 6)]) (N := N_law) (sc := defScope s_law) (by decide +kernel)) (fun _ _ _ _ _ => (pg_name (i := 6) sc_law.nd rfl (by first | exact .inl rfl | exact .inr rfl))) (fun _ _ _ _ _ => pts_nil) (fun _ _ _ _ _ => (pv 6))) (pe_lst (pa_cons (pe_op op_mod (pe_callTy call_int1 (by rfl) m_int (by decide +kernel) (pa_cons (pe_callB call_abs (by rfl) m_abs (by decide +kernel) (pa_cons (pe_cl c_cell hr (by decide) (by rfl) (pa_cons (pv 0) (pa_cons pe_int pa_nil))) pa_nil)) pa_nil)) (pe_op op_pow pe_int pe_int)) pa_nil))))
      (pss_cut (ps_for PassesOwn.never rfl (pi_list (pe_cl c_points hr (by decide) (by rfl) (pa_cons (pv 2) pa_nil))) (pg_name (i := 6) sc_law.nd rfl (by first | exact .inl rfl | exact .inr rfl))
        (pss_cons (ps_set (i := 8) sc_law.nd rfl (by first | exact .inl rfl | exact .inr rfl) (pe_cl c_value hr (by decide) (by rfl) (pa_cons (pv 2) (pa_cons (pv 6) pa_nil))))
      (pss_one (ps_if (pt_cmpR op_notN (pv 8) pe_non (nomark _)) (pss_one (ps_set (i := 7) sc_law.nd rfl (by first | exact .inl rfl | exact .inr rfl) (pe_op op_cat (pv 7) (pe_lst (pa_cons (pv 8) (pa_cons (pe_op op_add (pv 8) pe_int) (pa_cons (pe_callB (call_max2 rfl) (by rfl) m_max (by decide +kernel) (pa_cons pe_int (pa_cons (pe_op op_sub (pv 8) pe_int) pa_nil))) pa_nil))))))) pss_nil))))
      (pss_cut (ps_for PassesOwn.never rfl (pi_list (pv 7)) (pg_name (i := 9) sc_law.nd rfl (by first | exact .inl rfl | exact .inr rfl))
        (pss_cons (ps_if (pt_not (pt_val (pe_cl c_surely_right hr (by decide) (by rfl) (pa_cons (pv 4) (pa_cons (pv 2) (pa_cons (pv 9) pa_nil)))))) (pss_one (ps_ret pe_bl)) pss_nil)
      (pss_cons (ps_set (i := 10) sc_law.nd rfl (by first | exact .inl rfl | exact .inr rfl) (pe_me me_surely (pv 4) hr (by decide) (pa_cons (pv 9) pa_nil)))
      (pss_one (ps_for PassesOwn.never rfl (pi_list (pe_cl c_points hr (by decide) (by rfl) (pa_cons (pv 2) pa_nil))) (pg_name (i := 6) sc_law.nd rfl (by first | exact .inl rfl | exact .inr rfl))
        (pss_cons (ps_set (i := 8) sc_law.nd rfl (by first | exact .inl rfl | exact .inr rfl) (pe_cl c_value hr (by decide) (by rfl) (pa_cons (pv 2) (pa_cons (pv 6) pa_nil))))
      (pss_cut (ps_set (i := 11) sc_law.nd rfl (by first | exact .inl rfl | exact .inr rfl) (pe_and (pe_cmpR op_notN (pv 8) pe_non (nomark _)) (pe_one (pe_cmpR op_le (pv 8) (pv 9) (nomark _)))))
      (pss_one (ps_if (PW.pt (pw_and (pt_cmpR op_notN (pv 6) pe_non (nomark _)) (pw_and1 (pt_cmpR op_ne (pv 11) (pe_or (pe_cmpR op_isN (pv 10) pe_non (nomark _)) (pe_one (pe_cmpR op_le (pv 6) (pv 10) (nomark _)))) (nomark _))))) (pss_one (ps_ret pe_bl)) pss_nil)))))))))
      (pss_one (ps_ret (pe_and (pe_cmpR op_eq (pe_fld (pv 4) rfl) (pe_ix ix_list (pv 2) pe_int (fun _ _ => rfl)) (nomark _)) (pe_and (pe_cmpR (op_eqD hr.units) (pe_fld (pv 4) rfl) (pe_ix ix_list (pv 2) pe_int (fun _ _ => rfl)) (nomark _)) (pe_one (pe_cmpR (op_eqD hr.units) (pe_fld (pv 5) rfl) (pe_ix ix_list (pv 3) pe_int (fun _ _ => rfl)) (nomark _)))))))))))))))))), ?_⟩
    walk_at "go"
    refine ⟨a, ns, 0, rfl, hS, ?_⟩
    walk_at "go"
    intro D ds nD hd
    walk_at "go"
    intro p np
    have sD : Same H (upd H D (.lst (ds.map V.int))) := same_new nD
    have sp : Same (upd H D (.lst (ds.map V.int))) (upd (upd H D (.lst (ds.map V.int))) p (.lst [.int 0])) := same_new np
    have Dp : D ≠ p := ne_of_none upd_same np
    have nHp : H p = none := by
      cases e : H p with
      | none => rfl
      | some o =>
        rw [sD _ _ e] at np
        cases np
    have hD := sp _ _ (upd_same (H := H) (a := D) (o := .lst (ds.map V.int)))
    have hpp := upd_same (H := upd H D (.lst (ds.map V.int))) (a := p) (o := .lst [.int 0])
    have sHX := sD.trans sp
    generalize eX : upd (upd H D (.lst (ds.map V.int))) p (.lst [.int 0]) = HX at hD hpp sHX ⊢
    walk_at "go"
    refine ⟨D, p, 40, ds, rfl, ⟨hD, hd, Dp, Z.Same.sb (Same.refl _), 0, hpp⟩, fun l H2 st rs nv sb hN ok => ?_⟩
    have s2 : Same H H2 := fun b o h => sb b o (ne_of_none h nHp) (sHX b o h)
    have hD2 := sb _ _ Dp hD
    clear sD sp nHp hpp sHX sb hD np eX
    walk_at "go"
    refine ⟨a, ns, 1, rfl, s2.seq hS, ?_⟩
    walk_at "go"
    refine dixI (by decide) (by decide) (SqL.of hD2) hd fun d39 a1 a2 => ?_
    walk_at "go"
    intro E2 es nE he
    have sE := same_new (o := .lst (es.map V.int)) nE
    walk_at "go"
    intro p np
    have sp : Same (upd H2 E2 (.lst (es.map V.int))) (upd (upd H2 E2 (.lst (es.map V.int))) p (.lst [.int 0])) := same_new np
    have Ep : E2 ≠ p := ne_of_none upd_same np
    have nHp : H2 p = none := by
      cases e : H2 p with
      | none => rfl
      | some o =>
        rw [sE _ _ e] at np
        cases np
    have hE := sp _ _ (upd_same (H := H2) (a := E2) (o := .lst (es.map V.int)))
    have hpp := upd_same (H := upd H2 E2 (.lst (es.map V.int))) (a := p) (o := .lst [.int 0])
    have sHX := sE.trans sp
    generalize eX : upd (upd H2 E2 (.lst (es.map V.int))) p (.lst [.int 0]) = HX at hE hpp sHX ⊢
    walk_at "go"
    refine ⟨E2, p, 30, es, rfl, ⟨hE, he, Ep, Z.Same.sb (Same.refl _), 0, hpp⟩, fun l0 H3 st0 rs0 nv0 sb hN0 ok0 => ?_⟩
    have s3 : Same H2 H3 := fun b o h => sb b o (ne_of_none h nHp) (sHX b o h)
    clear sE sp nHp hpp sHX sb hE np eX Ep
    have hN3 := hN.mono s3
    have hD3 := s3 _ _ hD2
    walk_at "go"
    refine ⟨fun σ' H' => Same H3 H' ∧ ∃ (l' : Addr) (st' nv' : Option Int) (rs' : Rs), NL K H' l' st' rs' nv' ∧ LOk2 st' rs' nv' ∧ σ' = [some (.ref a), some (.ref D), some (.ref l), some (.ref l'), none, none, none, none, none, none, none, none], ?_, ?_⟩
    · walk_at "go"
      refine dixI (by decide) (by decide) (SqL.of hD3) hd fun d38 a3 a4 => ?_
      walk_at "go"
      refine ite2 (fun e => ?_) (fun e => ?_)
      rotate_left
      · exact ⟨Same.refl _, l0, st0, nv0, rs0, hN0, ok0.two, rfl⟩
      obtain ⟨t, ps, hl3, hR3⟩ := id hN3
      cases st with
      | none =>
        walk_at "go"
        exact ⟨Same.refl _, l0, st0, nv0, rs0, hN0, ok0.two, rfl⟩
      | some s =>
        walk_at "go"
        refine dixI (by decide) (by decide) (SqL.of hD3) hd fun d37 a3 a4 => ?_
        walk_at "go"
        intro l' nl'
        have s4 := same_new (o := .lst [.int (s + d37 % 2), .ref t, .non]) nl'
        have hs0 := ok.1.2.1 s rfl
        refine ⟨s4, l', some (s + d37 % 2), none, rs, ⟨t, ps, SqL.of upd_same, hR3.mono s4⟩, ⟨⟨ok.1.1, fun s1 h1 => by cases h1; omega, nofun⟩, ok.2.1, fun s1 h1 => ?_⟩, rfl⟩
        cases h1
        have h1 := bnd_add rs (t := s) (c := d37 % 2) (by omega)
        have h2 := ok.2.2 s rfl
        have h3 : (1 : Int) ≤ 10 ^ 39 := by decide
        omega
    · rintro σ' H4 ⟨s34, l', st', nv', rs', hN4', ok', rfl⟩
      have hN4 := hN3.mono s34
      have lr := ok.2.1
      have lr' := ok'.2.1
      walk_at "go"
      refine ⟨st, nv, l, rs, rfl, hN4, ok.1, by omega, fun n H5 s5 hF => ?_⟩
      walk_at "go"
      refine ⟨st', nv', l', rs', rfl, hN4'.mono s5, ok'.1, by omega, fun m H6 s6 hG => ?_⟩
      have hF6 := hF.mono s6
      have s46 := s5.trans s6
      have hN6 := hN4.mono s46
      have hN6' := hN4'.mono s46
      obtain ⟨dx, r, ps, hn, _⟩ := id hF6
      obtain ⟨dx', r', ps', hm, _⟩ := id hG
      walk_at "go"
      refine ⟨n, dx, _, rfl, hn, rfl, ?_⟩
      walk_at "go"
      refine ⟨st, st', nv, nv', n, m, rs, rs', rfl, hF6, hG, ok.1, ok'.1, by omega, by omega, fun t1 H7 o s7 e7 x7 => ?_⟩
      walk_at "go"
      refine ⟨st, st', nv, nv', l, l', rs, rs', rfl, hN6.mono s7, hN6'.mono s7, ok.1, ok'.1, lr, lr', ok'.2.2, fun t2 H8 o2 s8 e8 x8 => ?_⟩
      obtain rfl := x7.uniq x8
      walk_at "go"
      refine ⟨o, t1, t2, rfl, s8 _ _ e7, e8, ?_⟩
      have s68 := s7.trans s8
      have hF8 := hF6.mono s68
      have hG8 := hG.mono s68
      have hn8 := s68 _ _ hn
      have hm8 := s68 _ _ hm
      walk_at "go"
      refine ⟨n, dx, _, rfl, hn8, rfl, ?_⟩
      walk_at "go"
      refine ⟨st, st, nv, nv, n, n, rs, rs, rfl, hF8, hF8, ok.1, ok.1, by omega, by omega, fun t3 H9 o3 s9 e9 x9 => ?_⟩
      obtain rfl := exc_self x9
      walk_at "go"
      intro t4 nt4
      have s10 := same_new (o := .tup []) nt4
      refine same2 (d := .tuple []) (.tup (.inl (.inl (s10 _ _ e9))) .nil) (.tup (.inl (.inl upd_same)) .nil) rfl ?_
      rw [eqv_same rfl]
      have s610 := s68.trans (s9.trans s10)
      have hF10 := hF6.mono s610
      have hG10 := hG.mono s610
      have hm10 := s610 _ _ hm
      have hN10 := hN6.mono s610
      have hN10' := hN6'.mono s610
      walk_at "go"
      refine ⟨m, dx', _, rfl, hm10, rfl, ?_⟩
      walk_at "go"
      refine ⟨st', st, nv', nv, m, n, rs', rs, rfl, hG10, hF10, ok'.1, ok.1, by omega, by omega, fun t5 H11 o5 s11 e11 x11 => ?_⟩
      walk_at "go"
      refine ⟨st', st, nv', nv, l', l, rs', rs, rfl, hN10'.mono s11, hN10.mono s11, ok'.1, ok.1, lr', lr, ok.two.2.2, fun t6 H12 o6 s12 e12 x12 => ?_⟩
      obtain rfl := x11.uniq x12
      walk_at "go"
      refine ⟨o5, t5, t6, rfl, s12 _ _ e11, e12, ?_⟩
      have s612 := s610.trans (s11.trans s12)
      have hF12 := hF6.mono s612
      have hG12 := hG.mono s612
      have hN12 := hN6.mono s612
      have hN12' := hN6'.mono s612
      have sS := s2.trans (s3.trans (s34.trans (s46.trans s612)))
      clear s7 s8 s9 s10 s11 s12 s68 s610 e7 e8 e9 e11 e12 x7 x8 x9 x11 x12 hF6 hF8 hF10 hG8 hG10 hN6 hN6' hN10 hN10' hn hm hn8 hm8 hm10 nt4
      walk_at "go"
      refine ⟨0, 60, 7, 9, rfl, ⟨by decide, by decide, by decide, by decide⟩, ?_⟩
      intro L nL
      refine lc_gen (n := 9) (fun k H1 => Same H12 H1 ∧ ∃ pl : List Int, H1 L = some (.lst (pl.map V.int)) ∧ pl.length = k) ⟨same_new nL, [], upd_same, rfl⟩ (fun i H1 hi _ => hi) (fun H1 _ => Nat.le_refl _) ?_ ?_
      · rintro k H1 x H' hk ⟨s1, pl, e1, el⟩ ⟨rfl, rfl⟩
        refine ⟨rfl, ?_⟩
        walk_at "go"
        refine ⟨_, e1, ?_, Z.Same.mut s1 nL, pl ++ [0 + (k : Int) * 7], ?_, ?_⟩
        · rw [List.length_map, el]
          exact Nat.lt_trans hk (by decide)
        · rw [upd_same, List.map_append]
          rfl
        · rw [List.length_append, el]
          rfl
      rintro H13 ⟨s13, pl, e13, el13⟩
      walk_at "go"
      refine ⟨a, ns, 2, rfl, (sS.trans s13).seq hS, ?_⟩
      walk_at "go"
      refine ⟨(by show (0 : Int) < 10 ^ Int.toNat 60; decide), ?_⟩
      walk_at "go"
      intro c1 nc1
      have s14 := same_new (o := .lst [.int ((if ns.getD 2 0 < 0 then -ns.getD 2 0 else ns.getD 2 0) % 10 ^ Int.toNat 60)]) nc1
      refine ⟨L, c1, _, _, rfl, rfl, s14 _ _ e13, upd_same, ?_, fun c2 nc2 => ?_⟩
      · rw [List.length_map, el13]
        exact Nat.le_trans (show 9 + 1 ≤ 1000 by decide) (by decide)
      have s15 := same_new (o := .lst (pl.map V.int ++ [.int ((if ns.getD 2 0 < 0 then -ns.getD 2 0 else ns.getD 2 0) % 10 ^ Int.toNat 60)])) nc2
      have e15 : ∃ pl2 : List Int, upd (upd H13 c1 (.lst [.int ((if ns.getD 2 0 < 0 then -ns.getD 2 0 else ns.getD 2 0) % 10 ^ Int.toNat 60)])) c2 (.lst (pl.map V.int ++ [.int ((if ns.getD 2 0 < 0 then -ns.getD 2 0 else ns.getD 2 0) % 10 ^ Int.toNat 60)])) c2 = some (.lst (pl2.map V.int)) ∧ pl2.length = 10 := ⟨pl ++ [(if ns.getD 2 0 < 0 then -ns.getD 2 0 else ns.getD 2 0) % 10 ^ Int.toNat 60], by rw [upd_same, List.map_append]; rfl, by rw [List.length_append, el13]; rfl⟩
      have s1215 := s13.trans (s14.trans s15)
      generalize upd (upd H13 c1 (.lst [.int ((if ns.getD 2 0 < 0 then -ns.getD 2 0 else ns.getD 2 0) % 10 ^ Int.toNat 60)])) c2 (.lst (pl.map V.int ++ [.int ((if ns.getD 2 0 < 0 then -ns.getD 2 0 else ns.getD 2 0) % 10 ^ Int.toNat 60)])) = H15 at e15 s1215 ⊢
      obtain ⟨pl2, e15, el15⟩ := e15
      have hF15 := hF12.mono s1215
      have hG15 := hG12.mono s1215
      have hN15 := hN12.mono s1215
      have hN15' := hN12'.mono s1215
      clear s14 s15 nc1 nc2 e13 s13 hF12 hG12 hN12 hN12'
      refine ⟨fun σ' H' => Same H15 H' ∧ ∃ (q3 : Addr) (pl3 : List Int) (v6 v8 : Option V), H' q3 = some (.lst (pl3.map V.int)) ∧ σ' = [some (.ref a), some (.ref D), some (.ref l), some (.ref l'), some (.ref n), some (.ref m), v6, some (.ref q3), v8, none, none, none], ?_, ?_⟩
      · walk_at "go"
        refine ⟨st, nv, l, rs, rfl, hN15, ok, fun q1 H16 pts s16 e16 hp16 hl16 => ?_⟩
        walk_at "go"
        refine ⟨⟨_, SqL.of e16⟩, ?_⟩
        refine for_gen (n := pts.length) (fun i σ H1 => Same H16 H1 ∧ ∃ (q3 : Addr) (pl3 : List Int) (v6 v8 : Option V), H1 q3 = some (.lst (pl3.map V.int)) ∧ pl3.length ≤ 10 + 3 * i ∧ σ = [some (.ref a), some (.ref D), some (.ref l), some (.ref l'), some (.ref n), some (.ref m), v6, some (.ref q3), v8, none, none, none]) ⟨Same.refl _, c2, pl2, none, none, s16 _ _ e15, by omega, rfl⟩ ?_ ?_ ?_ ?_
        · rintro i σ H1 hi ⟨s1, _⟩
          exact ⟨_, oV pts[i], SqL.of (s1 _ _ e16), by rw [List.getElem?_map, List.getElem?_eq_getElem hi]; rfl⟩
        · rintro σ H1 ⟨s1, _⟩
          exact ⟨_, SqL.of (s1 _ _ e16), by rw [List.length_map]; exact Nat.le_refl _⟩
        · rintro i σ H1 x H' hi ⟨s1, q3, pl3, v6, v8, e1, el1, rfl⟩ ⟨rfl, fx⟩
          obtain ⟨k, ek, rfl⟩ := of_map (fx _ (SqL.of (s1 _ _ e16)))
          walk_at "go"
          refine ⟨st, nv, k, l, rs, rfl, hN15.mono (s16.trans s1), ?_⟩
          cases val st rs nv k with
          | none =>
            walk_at "go"
            exact ⟨q3, pl3, _, _, e1, by omega, rfl⟩
          | some v =>
            walk_at "go"
            intro b1 nb1
            have s5 := same_new (o := .lst [.int v, .int (v + 1), .int (if v - 1 > 0 then v - 1 else 0)]) nb1
            refine ⟨q3, b1, _, _, rfl, rfl, s5 _ _ e1, upd_same, ?_, fun b2 nb2 => ?_⟩
            · rw [List.length_map]
              exact Nat.le_trans (show pl3.length + 3 ≤ 1000 by omega) (by decide)
            have s6 := same_new (o := .lst (pl3.map V.int ++ [.int v, .int (v + 1), .int (if v - 1 > 0 then v - 1 else 0)])) nb2
            refine ⟨s1.trans (s5.trans s6), b2, pl3 ++ [v, v + 1, if v - 1 > 0 then v - 1 else 0], _, _, ?_, ?_, rfl⟩
            · rw [upd_same, List.map_append]
              rfl
            · rw [List.length_append]
              show _ + 3 ≤ _
              omega
        · rintro σ H1 ⟨s1, q3, pl3, v6, v8, e1, el1, rfl⟩
          exact ⟨s16.trans s1, q3, pl3, v6, v8, e1, rfl⟩
      · rintro σ' H16 ⟨s16, q3, pl3, v6, v8, e16, rfl⟩
        have hF16 := hF15.mono s16
        have hN16 := hN15.mono s16
        refine ⟨fun σ' H' => Same H16 H' ∧ ∃ (v6 v8 v9 v10 v11 : Option V), σ' = [some (.ref a), some (.ref D), some (.ref l), some (.ref l'), some (.ref n), some (.ref m), v6, some (.ref q3), v8, v9, v10, v11], ?_, ?_⟩
        · walk_at "go"
          refine ⟨⟨_, SqL.of e16⟩, ?_⟩
          refine for_gen (n := pl3.length) (fun i σ H1 => Same H16 H1 ∧ ∃ (v6 v8 v9 v10 v11 : Option V), σ = [some (.ref a), some (.ref D), some (.ref l), some (.ref l'), some (.ref n), some (.ref m), v6, some (.ref q3), v8, v9, v10, v11]) ⟨Same.refl _, v6, v8, none, none, none, rfl⟩ ?_ ?_ ?_ ?_
          · rintro i σ H1 hi ⟨s1, _⟩
            exact ⟨_, .int pl3[i], SqL.of (s1 _ _ e16), by rw [List.getElem?_map, List.getElem?_eq_getElem hi]; rfl⟩
          · rintro σ H1 ⟨s1, _⟩
            exact ⟨_, SqL.of (s1 _ _ e16), by rw [List.length_map]; exact Nat.le_refl _⟩
          · rintro i σ H1 x H' hi ⟨s1, v6, v8, v9, v10, v11, rfl⟩ ⟨rfl, fx⟩
            obtain ⟨p, ep, rfl⟩ := of_map (fx _ (SqL.of (s1 _ _ e16)))
            have hF1 := hF16.mono s1
            have hN1 := hN16.mono s1
            obtain ⟨dz, rz, pz, hz, _⟩ := id hF1
            walk_at "go"
            refine ⟨st, nv, p, n, l, rs, rfl, hF1, hN1, ok.1, ?_⟩
            walk_at "go"
            refine ⟨n, dz, _, rfl, hz, rfl, ?_⟩
            walk_at "go"
            refine ⟨st, nv, p, n, rs, rfl, hF1, ?_⟩
            have hwe : ∀ i, 0 ≤ i → wiB (val st rs nv (some i)) p = tlB (sur st rs p) i := fun i h => within_eq ok.1 h
            generalize sur st rs p = told at hwe
            walk_at "go"
            refine ⟨st, nv, l, rs, rfl, hN1, ok, fun q4 H17 pts s17 e17 hp17 hl17 => ?_⟩
            walk_at "go"
            refine ⟨⟨_, SqL.of e17⟩, ?_⟩
            refine for_gen (n := pts.length) (fun i σ H1 => Same H17 H1 ∧ ∃ (v6 v8 v11 : Option V), σ = [some (.ref a), some (.ref D), some (.ref l), some (.ref l'), some (.ref n), some (.ref m), v6, some (.ref q3), v8, some (.int p), some (oV told), v11]) ⟨Same.refl _, v6, v8, v11, rfl⟩ ?_ ?_ ?_ ?_
            · rintro i σ H2 hi ⟨s2, _⟩
              exact ⟨_, oV pts[i], SqL.of (s2 _ _ e17), by rw [List.getElem?_map, List.getElem?_eq_getElem hi]; rfl⟩
            · rintro σ H2 ⟨s2, _⟩
              exact ⟨_, SqL.of (s2 _ _ e17), by rw [List.length_map]; exact Nat.le_refl _⟩
            · rintro i σ H2 x H' hi ⟨s2, v6, v8, v11, rfl⟩ ⟨rfl, fx⟩
              obtain ⟨k, ek, rfl⟩ := of_map (fx _ (SqL.of (s2 _ _ e17)))
              have hk : ∀ i, k = some i → 0 ≤ i := hp17 k (List.mem_of_getElem? ek)
              walk_at "go"
              refine ⟨st, nv, k, l, rs, rfl, hN1.mono (s17.trans s2), ?_⟩
              walk_at "go"
              refine ⟨fun σ' H3 => H3 = H' ∧ σ' = [some (.ref a), some (.ref D), some (.ref l), some (.ref l'), some (.ref n), some (.ref m), some (oV k), some (.ref q3), some (oV (val st rs nv k)), some (.int p), some (oV told), some (.bl (wiB (val st rs nv k) p))], ?_, ?_⟩
              · cases val st rs nv k with
                | none =>
                  walk_at "go"
                  rfl
                | some v =>
                  walk_at "go"
                  rfl
              · rintro σ' H3 ⟨rfl, rfl⟩
                cases k with
                | none =>
                  walk_at "go"
                  exact ⟨_, _, _, rfl⟩
                | some i =>
                  rw [hwe i (hk i rfl)]
                  cases told with
                  | none =>
                    walk_at "go"
                    exact ⟨_, _, _, rfl⟩
                  | some x =>
                    walk_at "go"
                    refine ite2 (fun e => ?_) (fun _ => ⟨s2, _, _, _, rfl⟩)
                    rw [decide_eq_true (show V.bl (tlB (some x) i) = V.bl (decide (i ≤ x)) from rfl)] at e
                    cases e
            · rintro σ H2 ⟨s2, v6, v8, v11, rfl⟩
              exact ⟨s1.trans (s17.trans s2), _, _, _, _, _, rfl⟩
          · rintro σ H1 ⟨s1, v6, v8, v9, v10, v11, rfl⟩
            exact ⟨s1, _, _, _, _, _, rfl⟩
        · rintro σ' H17 ⟨s17, v6, v8, v9, v10, v11, rfl⟩
          have hF17 := hF16.mono s17
          have hG17 := (hG15.mono s16).mono s17
          obtain ⟨t, ps, hl17, hR17⟩ := hN16.mono s17
          obtain ⟨t', ps', hl17', hR17'⟩ := (hN15'.mono s16).mono s17
          obtain ⟨dz, rz, pz, hz, hRz, _⟩ := id hF17
          obtain ⟨dy, ry, py, hy, hRy, _⟩ := id hG17
          walk_at "go"
          refine ⟨(by cases st <;> rfl), ?_⟩
          walk_at "go"
          refine ite2 (fun _ => ?_) (fun e => absurd (decide_eq_true rfl) e)
          walk_at "go"
          refine same2 (d := risD false false rs) hRz.dp hR17.dp (shaped_ris _ _ _) ?_
          rw [eqv_same (shaped_ris _ _ _)]
          walk_at "go"
          refine same2 (d := risD false false rs') hRy.dp hR17'.dp (shaped_ris _ _ _) ?_
          rw [eqv_same (shaped_ris _ _ _)]
          walk_at "go"
          exact q _
end
end Z
set_option Elab.async false
set_option linter.all false
set_option maxRecDepth 100000
set_option maxHeartbeats 4000000
set_option maxHeartbeats 0
namespace Z
open PySem PySem.Spec PyProof.Rows L2 Nd
/-! ### the head: facts of defs and classes, and one more Bool -/
def hookB (n : Nat) (fa : List He.Fa) (fn : List He.DefD) (ex : PySem.W.Frag → Bool) : PySem.W.Hook where
  α := He.AlD × Bool
  obs := fun s => (He.obsDG n fa fn s.heap.get?, ex (He.frG s.heap.get? (He.asD s.heap.get? n)))
  val := fun _ => (He.valD fn, true)
  says := fun _ h => ∃ K : PySem.W.Frag, K.In h ∧ He.SaysD fa fn K ∧ ex K = true
  of := fun _ _ e => ⟨_, He.frG_in, congrArg (fun z : He.AlD × Bool => z.1) e, congrArg (fun z : He.AlD × Bool => z.2) e⟩
  keeps := fun _ _ _ ⟨K, hK, c⟩ k => ⟨K, PySem.W.Frag.In.keeps hK k, c⟩
theorem obsB_eq {n : Nat} {fa : List He.Fa} {fn : List He.DefD} {ex : PySem.W.Frag → Bool} {g : Addr → Option Obj} {s : Shared} (h : ∀ a, g a = s.heap.get? a) : (He.obsDG n fa fn g, ex (He.frG g (He.asD g n))) = (hookB n fa fn ex).obs s := by
  have e : g = s.heap.get? := funext h
  rw [e] <;> rfl
def isB (K : PySem.W.Frag) (C : Addr) : Bool := He.eqO (PySem.W.findIn K (.ref C) "__class__") (some (some (.builtin "object.__class__"))) && (He.eqO (PySem.W.specialIn K (.builtin "object.__class__") "__get__") (some (some (.builtin "getset_descriptor.__get__"))) && (decide (PySem.W.takesIn K (.builtin "object.__class__") = some true) && (decide (PySem.W.mroIn K C (.type "object") = some true) && decide (PySem.W.kitOne K (.ref C) (.ref C) = some true))))
theorem isB_ok {K : PySem.W.Frag} {C : Addr} (cl : Cls K C) (h : isB K C = true) : C8.InsC K C := by
  obtain ⟨h1, h⟩ := He.ba h
  obtain ⟨h2, h⟩ := He.ba h
  obtain ⟨h3, h⟩ := He.ba h
  obtain ⟨h4, h5⟩ := He.ba h
  exact ⟨cl, He.eqO_ok h1, He.eqO_ok h2, of_decide_eq_true h3, of_decide_eq_true h4, of_decide_eq_true h5⟩
def spB (K : PySem.W.Frag) (C : Addr) (m : Str) : Bool := He.eqO (PySem.W.findIn K (.ref C) m) (some (some (.ref (He.ma K C m)))) && (PySem.W.isFn K (.ref (He.ma K C m)) && PySem.W.fnIn K (He.ma K C m))
theorem spB_ok {K : PySem.W.Frag} {C : Addr} {m : Str} (h : spB K C m = true) : PySem.W.findIn K (.ref C) m = some (some (.ref (He.ma K C m))) ∧ PySem.W.isFn K (.ref (He.ma K C m)) = true ∧ PySem.W.fnIn K (He.ma K C m) = true := by
  obtain ⟨h1, h⟩ := He.ba h
  obtain ⟨h2, h3⟩ := He.ba h
  exact ⟨He.eqO_ok h1, h2, h3⟩
def ex (K : PySem.W.Frag) : Bool := true
def d_value_at : He.DefD := ⟨("value_at", none), "value_at", "value_at", defArgs s_value_at, defBody s_value_at, defScope s_value_at, [], []⟩
def d_greatest_value : He.DefD := ⟨("greatest_value", none), "greatest_value", "greatest_value", defArgs s_greatest_value, defBody s_greatest_value, defScope s_greatest_value, [], []⟩
def d_marks_of : He.DefD := ⟨("marks_of", none), "marks_of", "marks_of", defArgs s_marks_of, defBody s_marks_of, defScope s_marks_of, [], []⟩
def d_track : He.DefD := ⟨("track", none), "track", "track", defArgs s_track, defBody s_track, defScope s_track, [], []⟩
def d_first_above : He.DefD := ⟨("first_above", none), "first_above", "first_above", defArgs s_first_above, defBody s_first_above, defScope s_first_above, [], []⟩
def d_rise_point : He.DefD := ⟨("rise_point", none), "rise_point", "rise_point", defArgs s_rise_point, defBody s_rise_point, defScope s_rise_point, [], []⟩
def d_Need___init__ : He.DefD := ⟨("Need", some "__init__"), "__init__", "Need.__init__", defArgs s_Need___init__, defBody s_Need___init__, defScope s_Need___init__, [], []⟩
def d_Need_excess : He.DefD := ⟨("Need", some "excess"), "excess", "Need.excess", defArgs s_Need_excess, defBody s_Need_excess, defScope s_Need_excess, [], []⟩
def d_Need_surely : He.DefD := ⟨("Need", some "surely"), "surely", "Need.surely", defArgs s_Need_surely, defBody s_Need_surely, defScope s_Need_surely, [], []⟩
def d_cell : He.DefD := ⟨("_law_cell", none), "_law_cell", "_law_cell", defArgs s_cell, defBody s_cell, defScope s_cell, [], []⟩
def d_draws : He.DefD := ⟨("_law_draws", none), "_law_draws", "_law_draws", defArgs s_draws, defBody s_draws, defScope s_draws, [], []⟩
def d_take : He.DefD := ⟨("_law_take", none), "_law_take", "_law_take", defArgs s_take, defBody s_take, defScope s_take, [], []⟩
def d_need : He.DefD := ⟨("_law_need", none), "_law_need", "_law_need", defArgs s_need, defBody s_need, defScope s_need, [], []⟩
def d_value : He.DefD := ⟨("_law_value", none), "_law_value", "_law_value", defArgs s_value, defBody s_value, defScope s_value, [], []⟩
def d_points : He.DefD := ⟨("_law_points", none), "_law_points", "_law_points", defArgs s_points, defBody s_points, defScope s_points, [], []⟩
def d_same : He.DefD := ⟨("_law_same", none), "_law_same", "_law_same", defArgs s_same, defBody s_same, defScope s_same, [], []⟩
def d_at_most : He.DefD := ⟨("_law_at_most", none), "_law_at_most", "_law_at_most", defArgs s_at_most, defBody s_at_most, defScope s_at_most, [], []⟩
def d_make : He.DefD := ⟨("_law_make", none), "_law_make", "_law_make", defArgs s_make, defBody s_make, defScope s_make, [], []⟩
def d_more : He.DefD := ⟨("_law_more", none), "_law_more", "_law_more", defArgs s_more, defBody s_more, defScope s_more, [], []⟩
def d_edges : He.DefD := ⟨("_law_edges", none), "_law_edges", "_law_edges", defArgs s_edges, defBody s_edges, defScope s_edges, [], []⟩
def d_first_more : He.DefD := ⟨("_law_first_more", none), "_law_first_more", "_law_first_more", defArgs s_first_more, defBody s_first_more, defScope s_first_more, [], []⟩
def d_excess_right : He.DefD := ⟨("_law_excess_right", none), "_law_excess_right", "_law_excess_right", defArgs s_excess_right, defBody s_excess_right, defScope s_excess_right, [], []⟩
def d_surely_right : He.DefD := ⟨("_law_surely_right", none), "_law_surely_right", "_law_surely_right", defArgs s_surely_right, defBody s_surely_right, defScope s_surely_right, [], []⟩
def d_law : He.DefD := ⟨("law", none), "law", "law", defArgs s_law, defBody s_law, defScope s_law, [], []⟩
def fn : List He.DefD := [d_value_at, d_greatest_value, d_marks_of, d_track, d_first_above, d_rise_point, d_Need___init__, d_Need_excess, d_Need_surely, d_cell, d_draws, d_take, d_need, d_value, d_points, d_same, d_at_most, d_make, d_more, d_edges, d_first_more, d_excess_right, d_surely_right, d_law]
def fa : List He.Fa := [.glo "value_at", .glo "greatest_value", .glo "marks_of", .glo "track", .glo "first_above", .glo "rise_point", .glo "_law_cell", .glo "_law_draws", .glo "_law_take", .glo "_law_need", .glo "_law_value", .glo "_law_points", .glo "_law_same", .glo "_law_at_most", .glo "_law_make", .glo "_law_more", .glo "_law_edges", .glo "_law_first_more", .glo "_law_excess_right", .glo "_law_surely_right", .glo "law", .free "abs", .free "bool", .free "enumerate", .free "int", .free "isinstance", .free "len", .free "list", .free "max", .free "range", .free "sorted", .free "tuple", .glo "Need", .cls "Need", .mkr "Need", .noat "Need" "start", .noat "Need" "rises", .noat "Need" "never", .meth "Need" "excess", .meth "Need" "surely"]
def loose : List Str := ["_wall", "HouseError", "BadAmount", "BadCount", "BadNeed", "value_at", "joined", "marks_of", "track", "rising_part", "combined", "composed", "rise_point", "first_above", "MOST_TIMES", "greatest_value", "Need", "_law_cell", "_law_draws", "_law_take", "_law_need", "_law_value", "_law_points", "_law_same", "_law_at_most", "_law_make", "_law_more", "_law_edges", "_law_first_more", "_law_excess_right", "_law_surely_right"]
abbrev R : PySem.W.OpenRow := PySem.W.OpenLaw.row PySem.Challenge.rw_signedpacts_k20_need_excess_surely
abbrev hk : PySem.W.Hook := hookB 4 fa fn ex
def ob (s : PySem.W.SharedT) : He.AlD × Bool := (He.obsDG 4 fa fn (HandSHeadRun.getT s), ex (He.frG (HandSHeadRun.getT s) (He.asD (HandSHeadRun.getT s) 4)))
theorem ob_eq (s : PySem.W.SharedT) : ob s = hk.obs s.abs := obsB_eq (HandSHeadRun.getT_eq s)
theorem run (w : World) : HandSHeadRun.RunEq R (PySem.W.view R.prog [35]) hk ob 8000 loose w := by
  intro os
  kernel_rfl
theorem facts {P : Program} {w : World} {K : PySem.W.Frag} {h : Heap} {mg : Str → Option Value} {f : Addr} (X : K.In h) (G : h.Ns mainGlobals mg) (hfa : mg ("law" : Str) = some (.ref f)) (c : He.SaysD fa fn K) (cx : ex K = true) :
    ∃ fd : FuncData, (∀ (s : Shared) (v : Value), BindsTo s fd ⟨[v], []⟩ [("_law_script", v)]) ∧ ∀ base : Heap, K.In base → base.Ns mainGlobals mg → FnOk P w K mg base CX0 6 f fd ["_law_script"] (spLaw K) := by
  obtain ⟨fd_value_at, F_value_at⟩ := c.def_ 0 (d := d_value_at) rfl
  have F_value_at : FnP K "value_at" s_value_at _ fd_value_at := F_value_at
  have g_value_at := He.glo_ok X G (c.fact 0 (f := .glo "value_at") rfl)
  have b_value_at : Binds K fd_value_at P_value_at [] := F_value_at.bindsN fun _ _ _ _ _ _ us hl => match us, hl with | [_, _, _], _ => rfl
  obtain ⟨fd_greatest_value, F_greatest_value⟩ := c.def_ 1 (d := d_greatest_value) rfl
  have F_greatest_value : FnP K "greatest_value" s_greatest_value _ fd_greatest_value := F_greatest_value
  have g_greatest_value := He.glo_ok X G (c.fact 1 (f := .glo "greatest_value") rfl)
  have b_greatest_value : Binds K fd_greatest_value P_greatest_value [] := F_greatest_value.bindsN fun _ _ _ _ _ _ us hl => match us, hl with | [_, _], _ => rfl
  obtain ⟨fd_marks_of, F_marks_of⟩ := c.def_ 2 (d := d_marks_of) rfl
  have F_marks_of : FnP K "marks_of" s_marks_of _ fd_marks_of := F_marks_of
  have g_marks_of := He.glo_ok X G (c.fact 2 (f := .glo "marks_of") rfl)
  have b_marks_of : Binds K fd_marks_of P_marks_of [] := F_marks_of.bindsN fun _ _ _ _ _ _ us hl => match us, hl with | [_, _], _ => rfl
  obtain ⟨fd_track, F_track⟩ := c.def_ 3 (d := d_track) rfl
  have F_track : FnP K "track" s_track _ fd_track := F_track
  have g_track := He.glo_ok X G (c.fact 3 (f := .glo "track") rfl)
  have b_track : Binds K fd_track P_track [] := F_track.bindsN fun _ _ _ _ _ _ us hl => match us, hl with | [_, _, _], _ => rfl
  obtain ⟨fd_first_above, F_first_above⟩ := c.def_ 4 (d := d_first_above) rfl
  have F_first_above : FnP K "first_above" s_first_above _ fd_first_above := F_first_above
  have g_first_above := He.glo_ok X G (c.fact 4 (f := .glo "first_above") rfl)
  have b_first_above : Binds K fd_first_above P_first_above [] := F_first_above.bindsN fun _ _ _ _ _ _ us hl => match us, hl with | [_, _], _ => rfl
  obtain ⟨fd_rise_point, F_rise_point⟩ := c.def_ 5 (d := d_rise_point) rfl
  have F_rise_point : FnP K "rise_point" s_rise_point _ fd_rise_point := F_rise_point
  have g_rise_point := He.glo_ok X G (c.fact 5 (f := .glo "rise_point") rfl)
  have b_rise_point : Binds K fd_rise_point P_rise_point [] := F_rise_point.bindsN fun _ _ _ _ _ _ us hl => match us, hl with | [_, _], _ => rfl
  obtain ⟨fd_Need___init__, F_Need___init__⟩ := c.def_ 6 (d := d_Need___init__) rfl
  have F_Need___init__ : FnM K "__init__" "Need.__init__" s_Need___init__ (He.ma K (He.ga K "Need") "__init__") fd_Need___init__ := F_Need___init__
  have b_Need___init__ : Binds K fd_Need___init__ P_Need___init__ [] := F_Need___init__.bindsN fun _ _ _ _ _ _ us hl => match us, hl with | [_, _, _, _], _ => rfl
  obtain ⟨fd_Need_excess, F_Need_excess⟩ := c.def_ 7 (d := d_Need_excess) rfl
  have F_Need_excess : FnM K "excess" "Need.excess" s_Need_excess (He.ma K (He.ga K "Need") "excess") fd_Need_excess := F_Need_excess
  have b_Need_excess : Binds K fd_Need_excess P_Need_excess [] := F_Need_excess.bindsN fun _ _ _ _ _ _ us hl => match us, hl with | [_, _], _ => rfl
  obtain ⟨fd_Need_surely, F_Need_surely⟩ := c.def_ 8 (d := d_Need_surely) rfl
  have F_Need_surely : FnM K "surely" "Need.surely" s_Need_surely (He.ma K (He.ga K "Need") "surely") fd_Need_surely := F_Need_surely
  have b_Need_surely : Binds K fd_Need_surely P_Need_surely [] := F_Need_surely.bindsN fun _ _ _ _ _ _ us hl => match us, hl with | [_, _], _ => rfl
  obtain ⟨fd_cell, F_cell⟩ := c.def_ 9 (d := d_cell) rfl
  have F_cell : FnP K "_law_cell" s_cell _ fd_cell := F_cell
  have g_cell := He.glo_ok X G (c.fact 6 (f := .glo "_law_cell") rfl)
  have b_cell : Binds K fd_cell P_cell [] := F_cell.bindsN fun _ _ _ _ _ _ us hl => match us, hl with | [_, _], _ => rfl
  obtain ⟨fd_draws, F_draws⟩ := c.def_ 10 (d := d_draws) rfl
  have F_draws : FnP K "_law_draws" s_draws _ fd_draws := F_draws
  have g_draws := He.glo_ok X G (c.fact 7 (f := .glo "_law_draws") rfl)
  have b_draws : Binds K fd_draws P_draws [] := F_draws.bindsN fun _ _ _ _ _ _ us hl => match us, hl with | [_, _], _ => rfl
  obtain ⟨fd_take, F_take⟩ := c.def_ 11 (d := d_take) rfl
  have F_take : FnP K "_law_take" s_take _ fd_take := F_take
  have g_take := He.glo_ok X G (c.fact 8 (f := .glo "_law_take") rfl)
  have b_take : Binds K fd_take P_take [] := F_take.bindsN fun _ _ _ _ _ _ us hl => match us, hl with | [_, _], _ => rfl
  obtain ⟨fd_need, F_need⟩ := c.def_ 12 (d := d_need) rfl
  have F_need : FnP K "_law_need" s_need _ fd_need := F_need
  have g_need := He.glo_ok X G (c.fact 9 (f := .glo "_law_need") rfl)
  have b_need : Binds K fd_need P_need [] := F_need.bindsN fun _ _ _ _ _ _ us hl => match us, hl with | [_, _], _ => rfl
  obtain ⟨fd_value, F_value⟩ := c.def_ 13 (d := d_value) rfl
  have F_value : FnP K "_law_value" s_value _ fd_value := F_value
  have g_value := He.glo_ok X G (c.fact 10 (f := .glo "_law_value") rfl)
  have b_value : Binds K fd_value P_value [] := F_value.bindsN fun _ _ _ _ _ _ us hl => match us, hl with | [_, _], _ => rfl
  obtain ⟨fd_points, F_points⟩ := c.def_ 14 (d := d_points) rfl
  have F_points : FnP K "_law_points" s_points _ fd_points := F_points
  have g_points := He.glo_ok X G (c.fact 11 (f := .glo "_law_points") rfl)
  have b_points : Binds K fd_points P_points [] := F_points.bindsN fun _ _ _ _ _ _ us hl => match us, hl with | [_], _ => rfl
  obtain ⟨fd_same, F_same⟩ := c.def_ 15 (d := d_same) rfl
  have F_same : FnP K "_law_same" s_same _ fd_same := F_same
  have g_same := He.glo_ok X G (c.fact 12 (f := .glo "_law_same") rfl)
  have b_same : Binds K fd_same P_same [] := F_same.bindsN fun _ _ _ _ _ _ us hl => match us, hl with | [_, _], _ => rfl
  obtain ⟨fd_at_most, F_at_most⟩ := c.def_ 16 (d := d_at_most) rfl
  have F_at_most : FnP K "_law_at_most" s_at_most _ fd_at_most := F_at_most
  have g_at_most := He.glo_ok X G (c.fact 13 (f := .glo "_law_at_most") rfl)
  have b_at_most : Binds K fd_at_most P_at_most [] := F_at_most.bindsN fun _ _ _ _ _ _ us hl => match us, hl with | [_, _], _ => rfl
  obtain ⟨fd_make, F_make⟩ := c.def_ 17 (d := d_make) rfl
  have F_make : FnP K "_law_make" s_make _ fd_make := F_make
  have g_make := He.glo_ok X G (c.fact 14 (f := .glo "_law_make") rfl)
  have b_make : Binds K fd_make P_make [] := F_make.bindsN fun _ _ _ _ _ _ us hl => match us, hl with | [_], _ => rfl
  obtain ⟨fd_more, F_more⟩ := c.def_ 18 (d := d_more) rfl
  have F_more : FnP K "_law_more" s_more _ fd_more := F_more
  have g_more := He.glo_ok X G (c.fact 15 (f := .glo "_law_more") rfl)
  have b_more : Binds K fd_more P_more [] := F_more.bindsN fun _ _ _ _ _ _ us hl => match us, hl with | [_, _, _], _ => rfl
  obtain ⟨fd_edges, F_edges⟩ := c.def_ 19 (d := d_edges) rfl
  have F_edges : FnP K "_law_edges" s_edges _ fd_edges := F_edges
  have g_edges := He.glo_ok X G (c.fact 16 (f := .glo "_law_edges") rfl)
  have b_edges : Binds K fd_edges P_edges [] := F_edges.bindsN fun _ _ _ _ _ _ us hl => match us, hl with | [_, _], _ => rfl
  obtain ⟨fd_first_more, F_first_more⟩ := c.def_ 20 (d := d_first_more) rfl
  have F_first_more : FnP K "_law_first_more" s_first_more _ fd_first_more := F_first_more
  have g_first_more := He.glo_ok X G (c.fact 17 (f := .glo "_law_first_more") rfl)
  have b_first_more : Binds K fd_first_more P_first_more [] := F_first_more.bindsN fun _ _ _ _ _ _ us hl => match us, hl with | [_, _], _ => rfl
  obtain ⟨fd_excess_right, F_excess_right⟩ := c.def_ 21 (d := d_excess_right) rfl
  have F_excess_right : FnP K "_law_excess_right" s_excess_right _ fd_excess_right := F_excess_right
  have g_excess_right := He.glo_ok X G (c.fact 18 (f := .glo "_law_excess_right") rfl)
  have b_excess_right : Binds K fd_excess_right P_excess_right [] := F_excess_right.bindsN fun _ _ _ _ _ _ us hl => match us, hl with | [_, _], _ => rfl
  obtain ⟨fd_surely_right, F_surely_right⟩ := c.def_ 22 (d := d_surely_right) rfl
  have F_surely_right : FnP K "_law_surely_right" s_surely_right _ fd_surely_right := F_surely_right
  have g_surely_right := He.glo_ok X G (c.fact 19 (f := .glo "_law_surely_right") rfl)
  have b_surely_right : Binds K fd_surely_right P_surely_right [] := F_surely_right.bindsN fun _ _ _ _ _ _ us hl => match us, hl with | [_, _, _], _ => rfl
  obtain ⟨fd_law, F_law⟩ := c.def_ 23 (d := d_law) rfl
  have F_law : FnP K "law" s_law _ fd_law := F_law
  have g_law := He.glo_ok X G (c.fact 20 (f := .glo "law") rfl)
  have m_abs := He.free_ok X G (c.fact 21 (f := .free "abs") rfl)
  have m_bool := He.free_ok X G (c.fact 22 (f := .free "bool") rfl)
  have m_enumerate := He.free_ok X G (c.fact 23 (f := .free "enumerate") rfl)
  have m_int := He.free_ok X G (c.fact 24 (f := .free "int") rfl)
  have m_isinstance := He.free_ok X G (c.fact 25 (f := .free "isinstance") rfl)
  have m_len := He.free_ok X G (c.fact 26 (f := .free "len") rfl)
  have m_list := He.free_ok X G (c.fact 27 (f := .free "list") rfl)
  have m_max := He.free_ok X G (c.fact 28 (f := .free "max") rfl)
  have m_range := He.free_ok X G (c.fact 29 (f := .free "range") rfl)
  have m_sorted := He.free_ok X G (c.fact 30 (f := .free "sorted") rfl)
  have m_tuple := He.free_ok X G (c.fact 31 (f := .free "tuple") rfl)
  have g_Need := He.glo_ok X G (c.fact 32 (f := .glo "Need") rfl)
  have cls_Need := He.cls_ok (c.fact 33 (f := .cls "Need") rfl)
  have mk_Need := He.mkr_ok (c.fact 34 (f := .mkr "Need") rfl)
  have n_Need_start := He.noat_ok (c.fact 35 (f := .noat "Need" "start") rfl)
  have n_Need_rises := He.noat_ok (c.fact 36 (f := .noat "Need" "rises") rfl)
  have n_Need_never := He.noat_ok (c.fact 37 (f := .noat "Need" "never") rfl)
  have me_Need_excess := He.meth_ok (c.fact 38 (f := .meth "Need" "excess") rfl)
  have me_Need_surely := He.meth_ok (c.fact 39 (f := .meth "Need" "surely") rfl)
  have e := hfa.symm.trans g_law
  cases e
  have b := FunD.bindsA (ps := ["_law_script"]) F_law fun _ _ _ _ _ _ us hl => match us, hl with | [_], _ => rfl
  refine ⟨fd_law, fun s v => b s [v] rfl, fun base _ _ => ?_⟩
  have c_cell : Cal P w K mg base 1 "_law_cell" (spCell K) := cal_of F_cell g_cell b_cell (ok_cell F_cell m_len m_int)
  have c_draws : Cal P w K mg base 1 "_law_draws" spDraws := cal_of F_draws g_draws b_draws (ok_draws F_draws m_int m_abs m_range)
  have c_take : Cal P w K mg base 1 "_law_take" (spTake K) := cal_of F_take g_take b_take (ok_take F_take m_len)
  have c_value_at : Cal P w K mg base 1 "value_at" (spValueAt K) := cal_of F_value_at g_value_at b_value_at (ok_value_at F_value_at)
  have c_greatest_value : Cal P w K mg base 1 "greatest_value" (spGreatest K) := cal_of F_greatest_value g_greatest_value b_greatest_value (ok_greatest_value F_greatest_value m_len)
  have k_Need : Mak P w K mg base 2 "Need" (spNeed (He.ga K "Need") K) := mak_need (si := ok_init F_Need___init__ cls_Need n_Need_start n_Need_rises n_Need_never m_tuple c_greatest_value) mk_Need g_Need b_Need___init__
  have c_marks_of : Cal P w K mg base 1 "marks_of" (spMarks K) := cal_of F_marks_of g_marks_of b_marks_of (ok_marks_of F_marks_of m_list m_sorted m_int)
  have c_track : Cal P w K mg base 1 "track" (spTrack K) := cal_of F_track g_track b_track (ok_track F_track m_len)
  have c_first_above : Cal P w K mg base 2 "first_above" (spFA K) := cal_of F_first_above g_first_above b_first_above (ok_first_above F_first_above m_len m_enumerate c_marks_of c_track)
  have c_rise_point : Cal P w K mg base 1 "rise_point" (spRP K) := cal_of F_rise_point g_rise_point b_rise_point (ok_rise_point F_rise_point)
  have me_excess : Met P w K mg base 3 (He.ga K "Need") "excess" (spExcess (He.ga K "Need") K) := ⟨_, _, _, cls_Need, me_Need_excess, ok_excess F_Need_excess cls_Need n_Need_start n_Need_rises n_Need_never c_first_above, b_Need_excess⟩
  have me_surely : Met P w K mg base 2 (He.ga K "Need") "surely" (spSurely (He.ga K "Need") K) := ⟨_, _, _, cls_Need, me_Need_surely, ok_surely F_Need_surely cls_Need n_Need_start n_Need_rises c_rise_point, b_Need_surely⟩
  have c_need : Cal P w K mg base 2 "_law_need" (spLN K) := cal_of F_need g_need b_need (ok_need F_need m_int m_range m_len m_tuple c_take)
  have c_value : Cal P w K mg base 1 "_law_value" (spLV K) := cal_of F_value g_value b_value (ok_value F_value)
  have c_points : Cal P w K mg base 1 "_law_points" (spPoints K) := cal_of F_points g_points b_points (ok_points F_points m_max)
  have c_same : Cal P w K mg base 1 "_law_same" spSame := cal_of F_same g_same b_same (ok_same F_same m_isinstance m_int m_bool)
  have c_at_most : Cal P w K mg base 1 "_law_at_most" spAm := cal_of F_at_most g_at_most b_at_most (ok_at_most F_at_most)
  have c_make : Cal P w K mg base 4 "_law_make" (spMake (He.ga K "Need") K) := cal_of F_make g_make b_make (ok_make F_make k_Need)
  have c_more : Cal P w K mg base 2 "_law_more" (spMore K) := cal_of F_more g_more b_more (ok_more F_more c_value c_at_most)
  have c_edges : Cal P w K mg base 1 "_law_edges" (spEdges K) := cal_of F_edges g_edges b_edges (ok_edges F_edges m_list m_sorted)
  have c_first_more : Cal P w K mg base 3 "_law_first_more" (spFM K) := cal_of F_first_more g_first_more b_first_more (ok_first_more F_first_more m_len m_range c_edges c_more c_value)
  have c_excess_right : Cal P w K mg base 2 "_law_excess_right" (spER K) := cal_of F_excess_right g_excess_right b_excess_right (ok_excess_right F_excess_right m_len m_isinstance m_tuple c_same)
  have c_surely_right : Cal P w K mg base 3 "_law_surely_right" (spSR (He.ga K "Need") K) := cal_of F_surely_right g_surely_right b_surely_right (ok_surely_right F_surely_right m_isinstance m_int m_bool me_surely c_same c_value)
  exact ok_law F_law m_int m_range m_abs m_max cls_Need n_Need_start n_Need_rises n_Need_never c_draws c_cell c_need c_make c_points c_value c_first_more c_excess_right c_surely_right me_excess me_surely
end Z
open PySem PySem.W PySem.Calls PyProof.Rows
theorem PySem.Challenge.cw_signedpacts_k20_need_excess_surely_holds : PySem.Challenge.rw_signedpacts_k20_need_excess_surely.Holds := by
  w_on; o_law
  refine HandSHeadRun.head_any (r := OpenLaw.row PySem.Challenge.rw_signedpacts_k20_need_excess_surely) (q := view (OpenLaw.row PySem.Challenge.rw_signedpacts_k20_need_excess_surely).prog [35]) (H := Z.hk) (ob := Z.ob) (M := 8000) (loose := Z.loose) (d := HandSHeadRun.topDef (OpenLaw.row PySem.Challenge.rw_signedpacts_k20_need_excess_surely).prog 35) (kwd := []) Z.ob_eq
    (by kernel_rfl) (fun s => by kernel_rfl) Z.run (by kernel_rfl) (by kernel_rfl) (by kernel_rfl) (by rfl) (by first | assumption | decide +kernel) (by decide +kernel) ⟨rfl, rfl, rfl, rfl, rfl, by decide +kernel⟩ ?hw ?hc
  case hw => w_witness2
  case hc =>
    refine L2.walk_ofE (l := PySem.Challenge.rw_signedpacts_k20_need_excess_surely) (n := 63) (k := 6) (x := "_law_script") (CX := L2.CX0) rfl (by decide) (by kernel_rfl) ⟨rfl, by decide, by decide⟩ ?F (fun _ _ _ _ z => z)
    intro w mg fa h Y G hmg0
    obtain ⟨K, KX, c, cx⟩ := Y
    have hmg : mg ("law" : PySem.Str) = some (.ref fa) := by
      have e : (HandSHeadRun.topDef (OpenLaw.row PySem.Challenge.rw_signedpacts_k20_need_excess_surely).prog 35).name = ("law" : PySem.Str) := by kernel_rfl
      rw [← e]
      exact hmg0
    obtain ⟨fd, hb, hF⟩ := Z.facts (P := (PySem.Challenge.rw_signedpacts_k20_need_excess_surely).prog) (w := w) KX G hmg c cx
    exact ⟨K, fd, Z.spLaw K, KX, hb, fun H a ns hl _ hS => ⟨a, ns, rfl, hS, fun _ => rfl⟩, hF⟩
